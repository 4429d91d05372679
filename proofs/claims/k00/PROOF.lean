import PyProof.Rows.All
import Wide.All
import OpenK.AllK
import Wide.FinOn
import HandS.ForMost
import HandS.ForExc
import HandS.Star
import HandS.Wide
import HandS.TupAny
import HandS.Zip
import HandS.SetIn
import HandS.TupMul
import HandS.Deep
import HandS.Style
import HandS.Flow
import HandS.Conv
import HandS.RaiseMore
import HandS.NoneIn
import HandS.Small
import PyProof.Draws
import KE.KExcSuper
import KE.KSuper
import HandS.ExcSuper
import HandS.ForSpec
import HandS.TryMany
import HandS.IsInst
import HandS.ExcIs
import HandS.ExcValue
import KE.KExcIs
import HandS.ExcOwn
import HandS.WordsExc
import HandS.TupSets
import HandS.Ends
import PySem.Challenge.RW_samplesonce_k00_errors_are_apart
set_option Elab.async false
set_option Elab.async false
set_option linter.all false
set_option maxRecDepth 100000
set_option maxHeartbeats 4000000
/-! FL0: pure values for what stands in the heap; slots that own their object; the state's likeness -/
namespace FL
open PySem PySem.Spec PyProof.Rows L2

abbrev PD := PyData
abbrev Sts := L2.St
abbrev Fg := PySem.W.Frag
abbrev Mg := Str → Option Value

def kD : Key → PD
  | .inl i => .int i
  | .inr x => .str x
def tD (ks : List Key) : PD := .tuple (ks.map kD)
/-- the script; a def as a value -/
abbrev scrD (ns : List Int) : PD := .dict [(.none, .list (ns.map .int))]
abbrev fnD (x : Str) : PD := .dict [(.none, .str x)]
/-- an own exception, by its class's name and what it holds -/
abbrev excD (c : Str) (p : PD) : PD := .dict [(.none, .tuple [.str c, p])]
/-- a dict whose keys are ints and texts; one whose keys are tuples of such -/
abbrev dKD (ps : List (PD × PD)) : PD := .dict ((.none, .int 0) :: ps)
abbrev dTD (ps : List (PD × PD)) : PD := .dict ((.none, .int 1) :: ps)

mutual
inductive Rep (K : Fg) (mg : Mg) (F : Hp) : V → PD → Prop
  | non : Rep K mg F .non .none
  | bl (b : Bool) : Rep K mg F (.bl b) (.bool b)
  | int (i : Int) : Rep K mg F (.int i) (.int i)
  | str (x : Str) : Rep K mg F (.str x) (.str x)
  | lst {a : Addr} {xs : List V} {ds : List PD} : F a = some (.lst xs) → Reps K mg F xs ds → Rep K mg F (.ref a) (.list ds)
  | tup {a : Addr} {xs : List V} {ds : List PD} : SqT K F a xs → Reps K mg F xs ds → Rep K mg F (.ref a) (.tuple ds)
  | dK {a : Addr} {kvs : List (Key × V)} {ps : List (PD × PD)} : F a = some (.dK kvs) → RepK K mg F kvs ps → Rep K mg F (.ref a) (.dict ((.none, .int 0) :: ps))
  | dT {a : Addr} {kvs : List (List Key × V)} {ps : List (PD × PD)} : F a = some (.dT kvs) → RepT K mg F kvs ps → Rep K mg F (.ref a) (.dict ((.none, .int 1) :: ps))
  | scr {a : Addr} {ns : List Int} : SqL K F a (ns.map V.int) → Rep K mg F (.ref a) (.dict [(.none, .list (ns.map .int))])
  | fn {a : Addr} {x : Str} : mg x = some (.ref a) → Rep K mg F (.ref a) (.dict [(.none, .str x)])
  | exc {a d : Addr} {C : Addr} {c : Str} {v : V} {p : PD} {oe : Obj} {vs : Array Value} : mg c = some (.ref C) → F a = some (.frz oe (.own a)) → oe.cls = .ref C → oe.dict = some d → oe.data = .fields vs → F d = some (.xd [(("at" : Str), v)]) → Rep K mg F v p →
      Rep K mg F (.ref a) (.dict [(.none, .tuple [.str c, p])])
inductive Reps (K : Fg) (mg : Mg) (F : Hp) : List V → List PD → Prop
  | nil : Reps K mg F [] []
  | cons {v : V} {vs : List V} {d : PD} {ds : List PD} : Rep K mg F v d → Reps K mg F vs ds → Reps K mg F (v :: vs) (d :: ds)
inductive RepK (K : Fg) (mg : Mg) (F : Hp) : List (Key × V) → List (PD × PD) → Prop
  | nil : RepK K mg F [] []
  | cons {k : Key} {v : V} {r : List (Key × V)} {d : PD} {ds : List (PD × PD)} : Rep K mg F v d → RepK K mg F r ds → RepK K mg F ((k, v) :: r) ((kD k, d) :: ds)
inductive RepT (K : Fg) (mg : Mg) (F : Hp) : List (List Key × V) → List (PD × PD) → Prop
  | nil : RepT K mg F [] []
  | cons {k : List Key} {v : V} {r : List (List Key × V)} {d : PD} {ds : List (PD × PD)} : Rep K mg F v d → RepT K mg F r ds → RepT K mg F ((k, v) :: r) ((tD k, d) :: ds)
end

/-- every fact of F is a fact of H, but that a dict may be locked there -/
def lockable : HO → Bool
  | .dK _ => true
  | .dT _ => true
  | _ => false
def Sub (F H : Hp) : Prop := ∀ a o, F a = some o → H a = some o ∨ (lockable o = true ∧ ∃ ob, H a = some (.frz ob o))

section
variable {K : Fg} {mg : Mg} {F F' H H' : Hp}
theorem Sub.refl (F : Hp) : Sub F F := fun _ _ h => .inl h
theorem Sub.same (h : Same F H) : Sub F H := fun a o e => .inl (h a o e)
theorem Same.sub (h : Same F F') (s : Sub F' H) : Sub F H := fun a o e => s a o (h a o e)
theorem Sub.sameR (s : Sub F H) (h : Same H H') : Sub F H' := fun a o e => by
  rcases s a o e with q | ⟨l, ob, q⟩
  · exact .inl (h _ _ q)
  · exact .inr ⟨l, ob, h _ _ q⟩
theorem Sub.none (s : Sub F H) {a : Addr} (h : H a = Option.none) : F a = Option.none := by
  cases e : F a with
  | none => rfl
  | some o =>
    rcases s a o e with q | ⟨_, ob, q⟩ <;> rw [h] at q <;> cases q
theorem Sub.lst (s : Sub F H) {a : Addr} {xs : List V} (h : F a = some (.lst xs)) : H a = some (.lst xs) := by
  rcases s a _ h with q | ⟨l, _⟩
  · exact q
  · cases l
theorem Sub.tup (s : Sub F H) {a : Addr} {xs : List V} (h : F a = some (.tup xs)) : H a = some (.tup xs) := by
  rcases s a _ h with q | ⟨l, _⟩
  · exact q
  · cases l
theorem Sub.xd (s : Sub F H) {a : Addr} {xs : List (Str × V)} (h : F a = some (.xd xs)) : H a = some (.xd xs) := by
  rcases s a _ h with q | ⟨l, _⟩
  · exact q
  · cases l
theorem Sub.frz (s : Sub F H) {a : Addr} {ob : Obj} {u : HO} (h : F a = some (.frz ob u)) : H a = some (.frz ob u) := by
  rcases s a _ h with q | ⟨l, _⟩
  · exact q
  · cases l
theorem Sub.sqT (s : Sub F H) {a : Addr} {xs : List V} (h : SqT K F a xs) : SqT K H a xs := by
  rcases h with (h | ⟨o, h⟩) | h
  · exact .inl (.inl (s.tup h))
  · exact .inl (.inr ⟨o, s.frz h⟩)
  · exact .inr h
theorem Sub.sqL (s : Sub F H) {a : Addr} {xs : List V} (h : SqL K F a xs) : SqL K H a xs := by
  rcases h with (h | ⟨o, h⟩) | h
  · exact .inl (.inl (s.lst h))
  · exact .inl (.inr ⟨o, s.frz h⟩)
  · exact .inr h
theorem Sub.rdK (s : Sub F H) {a : Addr} {kvs : List (Key × V)} (h : F a = some (.dK kvs)) : Rd H a (.dK kvs) := by
  rcases s a _ h with q | ⟨_, q⟩
  · exact .inl q
  · exact .inr q
theorem Sub.rdT (s : Sub F H) {a : Addr} {kvs : List (List Key × V)} (h : F a = some (.dT kvs)) : Rd H a (.dT kvs) := by
  rcases s a _ h with q | ⟨_, q⟩
  · exact .inl q
  · exact .inr q
theorem same_sqT (s : Same F F') {a : Addr} {xs : List V} (h : SqT K F a xs) : SqT K F' a xs := by
  rcases h with (h | ⟨o, h⟩) | h
  · exact .inl (.inl (s _ _ h))
  · exact .inl (.inr ⟨o, s _ _ h⟩)
  · exact .inr h

mutual
theorem Rep.mono (s : Same F F') : ∀ {v : V} {p : PD}, Rep K mg F v p → Rep K mg F' v p
  | _, _, .non => .non
  | _, _, .bl b => .bl b
  | _, _, .int i => .int i
  | _, _, .str x => .str x
  | _, _, .lst h r => .lst (s _ _ h) (Reps.mono s r)
  | _, _, .tup h r => .tup (same_sqT s h) (Reps.mono s r)
  | _, _, .dK h r => .dK (s _ _ h) (RepK.mono s r)
  | _, _, .dT h r => .dT (s _ _ h) (RepT.mono s r)
  | _, _, .scr h => .scr (Same.seq s h)
  | _, _, .fn h => .fn h
  | _, _, .exc h1 h2 h3 h4 h5 h6 r => .exc h1 (s _ _ h2) h3 h4 h5 (s _ _ h6) (Rep.mono s r)
theorem Reps.mono (s : Same F F') : ∀ {v : List V} {p : List PD}, Reps K mg F v p → Reps K mg F' v p
  | _, _, .nil => .nil
  | _, _, .cons h r => .cons (Rep.mono s h) (Reps.mono s r)
theorem RepK.mono (s : Same F F') : ∀ {v : List (Key × V)} {p : List (PD × PD)}, RepK K mg F v p → RepK K mg F' v p
  | _, _, .nil => .nil
  | _, _, .cons h r => .cons (Rep.mono s h) (RepK.mono s r)
theorem RepT.mono (s : Same F F') : ∀ {v : List (List Key × V)} {p : List (PD × PD)}, RepT K mg F v p → RepT K mg F' v p
  | _, _, .nil => .nil
  | _, _, .cons h r => .cons (Rep.mono s h) (RepT.mono s r)
end
theorem Reps.len : ∀ {v : List V} {p : List PD}, Reps K mg F v p → v.length = p.length
  | _, _, .nil => rfl
  | _, _, .cons _ r => by rw [List.length_cons, List.length_cons, Reps.len r]
theorem Reps.get : ∀ {v : List V} {p : List PD} {i : Nat} {d : PD}, Reps K mg F v p → p[i]? = some d → ∃ x, v[i]? = some x ∧ Rep K mg F x d
  | _, _, _, _, .nil, h => by simp at h
  | _, _, 0, _, .cons h _, e => by
    simp only [List.getElem?_cons_zero, Option.some.injEq] at e
    subst e
    exact ⟨_, rfl, h⟩
  | _, _, i + 1, _, .cons _ r, e => by
    simp only [List.getElem?_cons_succ] at e ⊢
    exact Reps.get r e
theorem Reps.getV : ∀ {v : List V} {p : List PD} {i : Nat} {x : V}, Reps K mg F v p → v[i]? = some x → ∃ d, p[i]? = some d ∧ Rep K mg F x d
  | _, _, _, _, .nil, h => by simp at h
  | _, _, 0, _, .cons h _, e => by
    simp only [List.getElem?_cons_zero, Option.some.injEq] at e
    subst e
    exact ⟨_, rfl, h⟩
  | _, _, i + 1, _, .cons _ r, e => by
    simp only [List.getElem?_cons_succ] at e ⊢
    exact Reps.getV r e
theorem Reps.append : ∀ {v w : List V} {p q : List PD}, Reps K mg F v p → Reps K mg F w q → Reps K mg F (v ++ w) (p ++ q)
  | _, _, _, _, .nil, h => h
  | _, _, _, _, .cons a r, h => .cons a (Reps.append r h)
theorem Reps.take : ∀ {v : List V} {p : List PD} (n : Nat), Reps K mg F v p → Reps K mg F (v.take n) (p.take n)
  | _, _, 0, _ => by simpa using Reps.nil
  | _, _, _ + 1, .nil => .nil
  | _, _, n + 1, .cons h r => .cons h (Reps.take n r)
theorem Reps.drop : ∀ {v : List V} {p : List PD} (n : Nat), Reps K mg F v p → Reps K mg F (v.drop n) (p.drop n)
  | _, _, 0, h => h
  | _, _, _ + 1, .nil => .nil
  | _, _, n + 1, .cons _ r => Reps.drop n r
theorem Reps.set {x : V} {d : PD} (h : Rep K mg F x d) : ∀ {v : List V} {p : List PD} (n : Nat), Reps K mg F v p → Reps K mg F (v.set n x) (p.set n d)
  | _, _, _, .nil => .nil
  | _, _, 0, .cons _ r => .cons h r
  | _, _, n + 1, .cons a r => .cons a (Reps.set h n r)
theorem Reps.one {x : V} {d : PD} (h : Rep K mg F x d) : Reps K mg F [x] [d] := .cons h .nil
theorem Reps.flat_rep {v : List V} {p : List PD} (h : Reps K mg F v p) : ∀ n : Nat, Reps K mg F (List.replicate n v).flatten (List.replicate n p).flatten
  | 0 => .nil
  | n + 1 => by
    rw [List.replicate_succ, List.replicate_succ, List.flatten_cons, List.flatten_cons]
    exact h.append (Reps.flat_rep h n)
theorem Reps.ints : ∀ (ns : List Int), Reps K mg F (ns.map V.int) (ns.map .int)
  | [] => .nil
  | n :: ns => .cons (.int n) (Reps.ints ns)
end
end FL
set_option Elab.async false
set_option linter.all false
set_option maxRecDepth 100000
set_option maxHeartbeats 4000000
/-! FL1: the likeness of slots and heap to pure slots -/
namespace FL
open PySem PySem.Spec PyProof.Rows L2

/-- a slot: shared (never changed again), or the owner of a list or dict -/
inductive Sl where
  | sh (p : PD)
  | ow (p : PD)
abbrev Ev := List (Option Sl)
abbrev Rt := Sl

inductive Own (K : Fg) (mg : Mg) (F H : Hp) (a : Addr) : PD → Prop
  | lst {xs : List V} {ds : List PD} : H a = some (.lst xs) → Reps K mg F xs ds → Own K mg F H a (.list ds)
  | dK {kvs : List (Key × V)} {ps : List (PD × PD)} : H a = some (.dK kvs) → RepK K mg F kvs ps → Own K mg F H a (dKD ps)
  | dT {kvs : List (List Key × V)} {ps : List (PD × PD)} : H a = some (.dT kvs) → RepT K mg F kvs ps → Own K mg F H a (dTD ps)

def SlR (K : Fg) (mg : Mg) (G F H : Hp) (v : V) : Sl → Prop
  | .sh p => Rep K mg F v p
  | .ow p => ∃ a, v = .ref a ∧ F a = none ∧ G a = none ∧ Own K mg F H a p

/-- what stands under guard is none of F's, but for a locked dict -/
def Apt (F : Hp) (a : Addr) (o : HO) : Prop := F a = none ∨ ∃ ob u, o = .frz ob u ∧ F a = some u
theorem Apt.none {F : Hp} {a : Addr} {o : HO} (h : Apt F a o) (hn : ∀ ob u, o ≠ .frz ob u) : F a = Option.none := by
  rcases h with h | ⟨ob, u, e, _⟩
  · exact h
  · exact absurd e (hn ob u)
structure Sim (K : Fg) (mg : Mg) (G F H : Hp) (σ : Sts) (ρ : Ev) : Prop where
  sub : Sub F H
  gH : Same G H
  gF : ∀ a o, G a = some o → Apt F a o
  len : σ.length = ρ.length
  at_ : ∀ (i : Nat) s, ρ[i]? = some (some s) → ∃ v, σ[i]? = some (some v) ∧ SlR K mg G F H v s
  ne : ∀ (i j : Nat) p q, i ≠ j → ρ[i]? = some (some (.ow p)) → ρ[j]? = some (some (.ow q)) → σ[i]? ≠ σ[j]?

/-- no owning slot holds a -/
def Apart (σ : Sts) (ρ : Ev) (a : Addr) : Prop := ∀ (i : Nat) q, ρ[i]? = some (some (.ow q)) → σ[i]? ≠ some (some (.ref a))

def RtR (K : Fg) (mg : Mg) (G F H : Hp) (σ : Sts) (ρ : Ev) (v : V) : Rt → Prop
  | .sh p => Rep K mg F v p
  | .ow p => ∃ a, v = .ref a ∧ F a = none ∧ G a = none ∧ Own K mg F H a p ∧ Apart σ ρ a

section
variable {K : Fg} {mg : Mg} {G F F' H H' : Hp} {σ : Sts} {ρ : Ev} {v : V} {a : Addr} {p : PD} {o : HO}

theorem Own.mono (h : Own K mg F H a p) (s : Same F F') (e : H' a = H a) : Own K mg F' H' a p := by
  cases h with
  | lst h r => exact .lst (e.trans h) (r.mono s)
  | dK h r => exact .dK (e.trans h) (r.mono s)
  | dT h r => exact .dT (e.trans h) (r.mono s)
theorem Own.some (h : Own K mg F H a p) : ∃ o, H a = some o ∧ ∀ ob u, o ≠ .frz ob u := by
  cases h with
  | lst h r => exact ⟨_, h, fun _ _ z => by cases z⟩
  | dK h r => exact ⟨_, h, fun _ _ z => by cases z⟩
  | dT h r => exact ⟨_, h, fun _ _ z => by cases z⟩
theorem upd_same' {H : Hp} {a : Addr} {o : HO} : upd H a o a = Option.some o := upd_same
theorem Same.new (h : H a = none) : Same H (upd H a o) := fun b u e => by
  rw [upd_ne (ne_of_none e h)]
  exact e
/-- an owned object handed over: it is frozen -/
theorem Own.rep (h : Own K mg F H a p) (hn : F a = none) : ∃ o, H a = Option.some o ∧ Rep K mg (upd F a o) (.ref a) p := by
  cases h with
  | lst h r => exact ⟨_, h, .lst upd_same (r.mono (Same.new hn))⟩
  | dK h r => exact ⟨_, h, .dK upd_same (r.mono (Same.new hn))⟩
  | dT h r => exact ⟨_, h, .dT upd_same (r.mono (Same.new hn))⟩

theorem Sim.fresh (S : Sim K mg G F H σ ρ) (h : H a = none) : F a = none ∧ G a = none := by
  refine ⟨S.sub.none h, ?_⟩
  cases e : G a with
  | none => rfl
  | some o =>
    rw [S.gH a o e] at h
    cases h
theorem Sim.apart_new (S : Sim K mg G F H σ ρ) (h : H a = none) : Apart σ ρ a := fun i q e z => by
  obtain ⟨v, e1, b, rfl, _, _, ho⟩ := S.at_ i _ e
  rw [e1] at z
  cases z
  obtain ⟨o, e2, _⟩ := ho.some
  rw [h] at e2
  cases e2
/-- the heap changes at places that neither F nor G nor an owner knows -/
theorem Sim.heap (S : Sim K mg G F H σ ρ) (hF : Sub F H') (hG : Same G H') (ho : ∀ (i : Nat) q b, ρ[i]? = some (some (.ow q)) → σ[i]? = some (some (.ref b)) → H' b = H b) : Sim K mg G F H' σ ρ where
  sub := hF
  gH := hG
  gF := S.gF
  len := S.len
  at_ := fun i s e => by
    obtain ⟨v, e1, r⟩ := S.at_ i s e
    refine ⟨v, e1, ?_⟩
    cases s with
    | sh p => exact r
    | ow p =>
      obtain ⟨b, rfl, h1, h2, h3⟩ := r
      exact ⟨b, rfl, h1, h2, h3.mono (fun _ _ h => h) (ho i p b e e1)⟩
  ne := S.ne
/-- a new tracked object -/
theorem Sim.alloc (S : Sim K mg G F H σ ρ) (h : H a = none) : Sim K mg G F (upd H a o) σ ρ :=
  S.heap (S.sub.sameR (Same.new h)) (fun b u e => (Same.new h) b u (S.gH b u e)) fun i q b e e1 => by
    refine upd_ne fun z => ?_
    subst z
    exact S.apart_new h i q e e1
/-- F grows by an object that nobody owns -/
theorem Sim.grow (S : Sim K mg G F H σ ρ) (h : H a = some o) (hF : F a = none) (hG : G a = none) (ap : Apart σ ρ a) : Sim K mg G (upd F a o) H σ ρ where
  sub := fun b u e => by
    by_cases z : b = a
    · subst z
      rw [upd_same] at e
      cases e
      exact .inl h
    · rw [upd_ne z] at e
      exact S.sub b u e
  gH := S.gH
  gF := fun b u e => by
    have z : b ≠ a := fun z => by subst z; rw [hG] at e; cases e
    unfold Apt
    rw [upd_ne z]
    exact S.gF b u e
  len := S.len
  at_ := fun i s e => by
    obtain ⟨v, e1, r⟩ := S.at_ i s e
    refine ⟨v, e1, ?_⟩
    cases s with
    | sh p => exact Rep.mono (Same.new hF) r
    | ow p =>
      obtain ⟨b, rfl, h1, h2, h3⟩ := r
      refine ⟨b, rfl, ?_, h2, h3.mono (Same.new hF) rfl⟩
      rw [upd_ne]
      · exact h1
      · intro z
        subst z
        exact ap i p e e1
  ne := S.ne
/-- an answer, shared -/
theorem Sim.sharing (S : Sim K mg G F H σ ρ) {r : Rt} (h : RtR K mg G F H σ ρ v r) : ∃ F', Same F F' ∧ Sim K mg G F' H σ ρ ∧ Rep K mg F' v (match r with | .sh p => p | .ow p => p) := by
  cases r with
  | sh p => exact ⟨F, fun _ _ h => h, S, h⟩
  | ow p =>
    obtain ⟨a, rfl, h1, h2, h3, h4⟩ := h
    obtain ⟨o, h5, h6⟩ := h3.rep h1
    exact ⟨upd F a o, Same.new h1, S.grow h5 h1 h2 h4, h6⟩
/-- a slot gets an answer -/
theorem getElem?_set' {α : Type} (l : List α) (i j : Nat) (x : α) : (l.set i x)[j]? = if i = j then (if i < l.length then some x else none) else l[j]? := by
  rw [List.getElem?_set]
theorem Sim.store (S : Sim K mg G F H σ ρ) {r : Rt} (i : Nat) (h : RtR K mg G F H σ ρ v r) : Sim K mg G F H (σ.set i (some v)) (ρ.set i (some r)) where
  sub := S.sub
  gH := S.gH
  gF := S.gF
  len := by rw [List.length_set, List.length_set]; exact S.len
  at_ := fun j s e => by
    have hl := S.len
    by_cases z : i = j
    · subst z
      by_cases hi : i < ρ.length
      · rw [List.getElem?_set_self hi] at e
        cases e
        refine ⟨v, List.getElem?_set_self (by omega), ?_⟩
        cases r with
        | sh p => exact h
        | ow p =>
          obtain ⟨a, e1, h1, h2, h3, _⟩ := h
          exact ⟨a, e1, h1, h2, h3⟩
      · rw [List.getElem?_eq_none (by simpa using hi)] at e
        cases e
    · rw [List.getElem?_set_ne z] at e ⊢
      exact S.at_ j s e
  ne := fun j k p q hjk e1 e2 => by
    have hl := S.len
    have key : ∀ (j k : Nat) (p q : PD), j ≠ k → (ρ.set i (some r))[j]? = some (some (.ow p)) → (ρ.set i (some r))[k]? = some (some (.ow q)) → i = j → (σ.set i (some v))[j]? ≠ (σ.set i (some v))[k]? := fun j k p q hjk e1 e2 z => by
      subst z
      by_cases hi : i < ρ.length
      · rw [List.getElem?_set_self hi] at e1
        have er : r = .ow p := by cases e1; rfl
        subst er
        obtain ⟨a, rfl, h1, h2, h3, h4⟩ := h
        rw [List.getElem?_set_ne hjk] at e2
        rw [List.getElem?_set_self (by omega), List.getElem?_set_ne hjk]
        exact fun z => h4 k q e2 z.symm
      · rw [List.getElem?_eq_none (by simpa using hi)] at e1
        cases e1
    by_cases z : i = j
    · exact key j k p q hjk e1 e2 z
    · by_cases z2 : i = k
      · exact fun z3 => key k j q p (Ne.symm hjk) e2 e1 z2 z3.symm
      · rw [List.getElem?_set_ne z] at e1 ⊢
        rw [List.getElem?_set_ne z2] at e2 ⊢
        exact S.ne j k p q hjk e1 e2
theorem Sim.clear (S : Sim K mg G F H σ ρ) (i : Nat) : Sim K mg G F H (σ.set i none) (ρ.set i none) where
  sub := S.sub
  gH := S.gH
  gF := S.gF
  len := by rw [List.length_set, List.length_set]; exact S.len
  at_ := fun j s e => by
    by_cases z : i = j
    · subst z
      by_cases hi : i < ρ.length
      · rw [List.getElem?_set_self hi] at e
        cases e
      · rw [List.getElem?_eq_none (by simpa using hi)] at e
        cases e
    · rw [List.getElem?_set_ne z] at e ⊢
      exact S.at_ j s e
  ne := fun j k p q hjk e1 e2 => by
    have nz : ∀ (j : Nat) p, (ρ.set i none)[j]? = some (some (Sl.ow p)) → i ≠ j := fun j p e z => by
      subst z
      by_cases hi : i < ρ.length
      · rw [List.getElem?_set_self hi] at e
        cases e
      · rw [List.getElem?_eq_none (by simpa using hi)] at e
        cases e
    have z1 := nz j p e1
    have z2 := nz k q e2
    rw [List.getElem?_set_ne z1] at e1 ⊢
    rw [List.getElem?_set_ne z2] at e2 ⊢
    exact S.ne j k p q hjk e1 e2
/-- less is known of the slots -/
theorem Sim.weak (S : Sim K mg G F H σ ρ) {ρ' : Ev} (hl : ρ'.length = ρ.length) (h : ∀ (i : Nat) s, ρ'[i]? = some (some s) → ρ[i]? = some (some s)) : Sim K mg G F H σ ρ' :=
  ⟨S.sub, S.gH, S.gF, S.len.trans hl.symm, fun i s e => S.at_ i s (h i s e), fun i j p q n e1 e2 => S.ne i j p q n (h i _ e1) (h j _ e2)⟩
/-- an owning slot is shared -/
def shr (ρ : Ev) (i : Nat) : Ev := match ρ[i]? with
  | some (some (.ow p)) => ρ.set i (some (.sh p))
  | _ => ρ
theorem set_eq_of_get {α : Type} {l : List α} {i : Nat} {x : α} (h : l[i]? = some x) : l.set i x = l := by
  apply List.ext_getElem?
  intro j
  rw [List.getElem?_set]
  by_cases z : i = j
  · subst z
    rw [if_pos rfl]
    obtain ⟨hi, e⟩ := List.getElem?_eq_some_iff.mp h
    rw [if_pos hi, h]
  · rw [if_neg z]
theorem Sim.shr (S : Sim K mg G F H σ ρ) (i : Nat) : ∃ F', Same F F' ∧ Sim K mg G F' H σ (shr ρ i) := by
  unfold FL.shr
  split
  · rename_i p e
    obtain ⟨v, e1, a, rfl, h1, h2, h3⟩ := S.at_ i _ e
    -- forget the slot, grow, store
    have hi : i < ρ.length := (List.getElem?_eq_some_iff.mp e).1
    have S1 : Sim K mg G F H σ (ρ.set i none) := S.weak (by simp) fun j s ej => by
      by_cases z : i = j
      · subst z
        rw [List.getElem?_set_self hi] at ej
        cases ej
      · rw [List.getElem?_set_ne z] at ej
        exact ej
    have ap : Apart σ (ρ.set i none) a := fun j q ej z => by
      by_cases z2 : i = j
      · subst z2
        rw [List.getElem?_set_self hi] at ej
        cases ej
      · rw [List.getElem?_set_ne z2] at ej
        exact S.ne i j p q z2 e ej (e1.trans z.symm)
    obtain ⟨o, h5, h6⟩ := h3.rep h1
    have S2 := S1.grow h5 h1 h2 ap
    have S3 := S2.store (r := .sh p) i h6
    rw [List.set_set, set_eq_of_get e1] at S3
    exact ⟨_, Same.new h1, S3⟩
  · exact ⟨F, fun _ _ h => h, S⟩
/-- an object is put under guard, and out of it -/
theorem Sim.guard (S : Sim K mg G F H σ ρ) (h : H a = some o) (hF : F a = none) (ap : Apart σ ρ a) : Sim K mg (upd G a o) F H σ ρ where
  sub := S.sub
  gH := fun b u e => by
    by_cases z : b = a
    · subst z
      rw [upd_same] at e
      cases e
      exact h
    · rw [upd_ne z] at e
      exact S.gH b u e
  gF := fun b u e => by
    by_cases z : b = a
    · subst z
      exact .inl hF
    · rw [upd_ne z] at e
      exact S.gF b u e
  len := S.len
  at_ := fun i s e => by
    obtain ⟨v, e1, r⟩ := S.at_ i s e
    refine ⟨v, e1, ?_⟩
    cases s with
    | sh p => exact r
    | ow p =>
      obtain ⟨b, rfl, h1, h2, h3⟩ := r
      refine ⟨b, rfl, h1, ?_, h3⟩
      rw [upd_ne (fun z => by subst z; exact ap i p e e1)]
      exact h2
  ne := S.ne
theorem Sim.unguard (S : Sim K mg (upd G a o) F H σ ρ) (h : G a = none) : Sim K mg G F H σ ρ where
  sub := S.sub
  gH := fun b u e => S.gH b u (by rw [upd_ne (fun z => by subst z; rw [h] at e; cases e)]; exact e)
  gF := fun b u e => S.gF b u (by rw [upd_ne (fun z => by subst z; rw [h] at e; cases e)]; exact e)
  len := S.len
  at_ := fun i s e => by
    obtain ⟨v, e1, r⟩ := S.at_ i s e
    refine ⟨v, e1, ?_⟩
    cases s with
    | sh p => exact r
    | ow p =>
      obtain ⟨b, rfl, h1, h2, h3⟩ := r
      refine ⟨b, rfl, h1, ?_, h3⟩
      by_cases z : b = a
      · subst z
        exact h
      · rw [upd_ne z] at h2
        exact h2
  ne := S.ne
/-- an owner's object changes -/
theorem Sim.change (S : Sim K mg G F H σ ρ) {i : Nat} {q : PD} (e : ρ[i]? = some (some (.ow p))) (e1 : σ[i]? = some (some (.ref a))) (h : Own K mg F (upd H a o) a q) : Sim K mg G F (upd H a o) σ (ρ.set i (some (.ow q))) := by
  have hi : i < ρ.length := (List.getElem?_eq_some_iff.mp e).1
  obtain ⟨v, e2, b, rfl, h1, h2, h3⟩ := S.at_ i _ e
  rw [e1] at e2
  cases e2
  refine ⟨fun b u eb => ?_, fun b u eb => ?_, S.gF, by rw [List.length_set]; exact S.len, fun j s ej => ?_, fun j k p' q' hjk ej ek => ?_⟩
  · have z : b ≠ a := fun z => by subst z; rw [h1] at eb; cases eb
    rw [upd_ne z]
    exact S.sub b u eb
  · have z : b ≠ a := fun z => by subst z; rw [h2] at eb; cases eb
    rw [upd_ne z]
    exact S.gH b u eb
  · by_cases z : i = j
    · subst z
      rw [List.getElem?_set_self hi] at ej
      cases ej
      exact ⟨_, e1, a, rfl, h1, h2, h⟩
    · rw [List.getElem?_set_ne z] at ej
      obtain ⟨v, ev, r⟩ := S.at_ j s ej
      refine ⟨v, ev, ?_⟩
      cases s with
      | sh p => exact r
      | ow p2 =>
        obtain ⟨b, rfl, k1, k2, k3⟩ := r
        refine ⟨b, rfl, k1, k2, k3.mono (fun _ _ h => h) (upd_ne fun z2 => ?_)⟩
        subst z2
        exact S.ne i j p p2 z e ej (e1.trans ev.symm)
  · have back : ∀ (j : Nat) p', (ρ.set i (some (Sl.ow q)))[j]? = some (some (.ow p')) → ∃ p2, ρ[j]? = some (some (.ow p2)) := fun j p' ej => by
      by_cases z : i = j
      · subst z
        exact ⟨_, e⟩
      · rw [List.getElem?_set_ne z] at ej
        exact ⟨_, ej⟩
    obtain ⟨x, ex⟩ := back j p' ej
    obtain ⟨y, ey⟩ := back k q' ek
    exact S.ne j k x y hjk ex ey
end
end FL
set_option Elab.async false
set_option linter.all false
set_option maxRecDepth 100000
set_option maxHeartbeats 4000000
/-! FL2: readings by pure functions; operators -/
namespace FL
open PySem PySem.Spec PyProof.Rows L2

inductive Res (α : Type) where
  | ok (a : α)
  | exc (c : Str) (p : PD)
  | stuck
def Res.bind {α β : Type} : Res α → (α → Res β) → Res β
  | .ok a, f => f a
  | .exc c p, _ => .exc c p
  | .stuck, _ => .stuck
theorem Res.bind_ok {α β : Type} (a : α) (f : α → Res β) : Res.bind (.ok a) f = f a := rfl
theorem Res.bind_exc {α β : Type} (c : Str) (p : PD) (f : α → Res β) : Res.bind (.exc c p) f = .exc c p := rfl
theorem Res.bind_stuck {α β : Type} (f : α → Res β) : Res.bind .stuck f = .stuck := rfl
def Sl.pd : Sl → PD
  | .sh p => p
  | .ow p => p
/-- an expression, a test, arguments -/
abbrev Ex := Ev → Res Rt
abbrev Ts := Ev → Res Bool
abbrev As := Ev → Res (List PD)

/-- what is wished of a raised exception, by its class's name and what it holds -/
def PostX (K : Fg) (mg : Mg) (G : Hp) (W : WX) (σ : Sts) (ρ : Ev) (F : Hp) (c : Str) (p : PD) : Prop :=
  ∀ F' H' C d x, Same F F' → Sim K mg G F' H' σ ρ → mg c = some (.ref C) → F' d = some (.xd [(("at" : Str), x)]) → Rep K mg F' x p → W (.ref C) (some d) σ H'
def PostE (K : Fg) (mg : Mg) (G : Hp) (W : WX) (σ : Sts) (ρ : Ev) (F : Hp) (Q : VK) : Res Rt → Prop
  | .ok r => ∀ F' H' v, Same F F' → Sim K mg G F' H' σ ρ → RtR K mg G F' H' σ ρ v r → Q v H'
  | .exc c p => PostX K mg G W σ ρ F c p
  | .stuck => False
def PostT (K : Fg) (mg : Mg) (G : Hp) (W : WX) (σ : Sts) (ρ : Ev) (F : Hp) (Q : Bool → Hp → Prop) : Res Bool → Prop
  | .ok b => ∀ F' H', Same F F' → Sim K mg G F' H' σ ρ → Q b H'
  | .exc c p => PostX K mg G W σ ρ F c p
  | .stuck => False
def PostA (K : Fg) (mg : Mg) (G : Hp) (W : WX) (σ : Sts) (ρ : Ev) (F : Hp) (Q : List V → Hp → Prop) : Res (List PD) → Prop
  | .ok ps => ∀ F' H' vs, Same F F' → Sim K mg G F' H' σ ρ → Reps K mg F' vs ps → Q vs H'
  | .exc c p => PostX K mg G W σ ρ F c p
  | .stuck => False
def tE (K : Fg) (mg : Mg) (G : Hp) (W : WX) (f : Ex) : TE := fun σ H Q => ∃ F ρ, Sim K mg G F H σ ρ ∧ PostE K mg G W σ ρ F Q (f ρ)
def tT (K : Fg) (mg : Mg) (G : Hp) (W : WX) (f : Ts) : TT := fun σ H Q => ∃ F ρ, Sim K mg G F H σ ρ ∧ PostT K mg G W σ ρ F Q (f ρ)
def tA (K : Fg) (mg : Mg) (G : Hp) (W : WX) (f : As) : TA := fun σ H Q => ∃ F ρ, Sim K mg G F H σ ρ ∧ PostA K mg G W σ ρ F Q (f ρ)

/-- the judgements -/
def EOk (X : Cx) (W : WX) (e : Expr) (f : Ex) : Prop := ∀ G, PE X e (tE X.K X.mg G W f)
def TOk (X : Cx) (W : WX) (e : Expr) (f : Ts) : Prop := ∀ G, PT X e (tT X.K X.mg G W f)
def AOk (X : Cx) (W : WX) (es : List Expr) (f : As) : Prop := ∀ G, PA X es (tA X.K X.mg G W f)

theorem impE {X : Cx} {e : Expr} {t t' : TE} (h : PE X e t) (i : ∀ σ H Q, t' σ H Q → t σ H Q) : PE X e t' := ⟨fun pins s σ H Q I q => h.run pins s σ H Q I (i σ H Q q)⟩
theorem impT {X : Cx} {e : Expr} {t t' : TT} (h : PT X e t) (i : ∀ σ H Q, t' σ H Q → t σ H Q) : PT X e t' := ⟨fun pins s σ H Q I q => h.run pins s σ H Q I (i σ H Q q)⟩
theorem impA {X : Cx} {es : List Expr} {t t' : TA} (h : PA X es t) (i : ∀ σ H Q, t' σ H Q → t σ H Q) : PA X es t' := ⟨fun pos pins s σ H Q I q => h.run pos pins s σ H Q I (i σ H Q q)⟩
theorem impS {X : Cx} {e : Stmt} {t t' : TS} (h : PS X e t) (i : ∀ D σ H, t' D σ H → t D σ H) : PS X e t' := ⟨fun pins s σ H D I q => h.run pins s σ H D I (i D σ H q)⟩
theorem impB {X : Cx} {e : List Stmt} {t t' : TS} (h : PSs X e t) (i : ∀ D σ H, t' D σ H → t D σ H) : PSs X e t' := ⟨fun pins s σ H D I q => h.run pins s σ H D I (i D σ H q)⟩
theorem impO {X : Cx} {f : Value → Value → Sem Value} {r r' : R2} (h : OpR X f r) (i : ∀ x y H Q, r' x y H Q → r x y H Q) : OpR X f r' := fun pins s σ H x y v u Q I rx ry q => h pins s σ H x y v u Q I rx ry (i x y H Q q)

section
variable {K : Fg} {mg : Mg} {G F F' H : Hp} {W : WX} {σ : Sts} {ρ : Ev} {Q : VK} {v : V} {p : PD} {fa : Ex}
theorem PostX.mono {c : Str} (h : PostX K mg G W σ ρ F c p) (s : Same F F') : PostX K mg G W σ ρ F' c p := fun F2 H' C d x s2 => h F2 H' C d x (fun a o e => s2 a o (s a o e))
theorem PostE.mono {r : Res Rt} (h : PostE K mg G W σ ρ F Q r) (s : Same F F') : PostE K mg G W σ ρ F' Q r := by
  cases r with
  | ok r => exact fun F2 H' v s2 => h F2 H' v (fun a o e => s2 a o (s a o e))
  | exc c p => exact PostX.mono h s
  | stuck => exact h
theorem PostT.mono {Q : Bool → Hp → Prop} {r : Res Bool} (h : PostT K mg G W σ ρ F Q r) (s : Same F F') : PostT K mg G W σ ρ F' Q r := by
  cases r with
  | ok r => exact fun F2 H' s2 => h F2 H' (fun a o e => s2 a o (s a o e))
  | exc c p => exact PostX.mono h s
  | stuck => exact h
theorem PostA.mono {Q : List V → Hp → Prop} {r : Res (List PD)} (h : PostA K mg G W σ ρ F Q r) (s : Same F F') : PostA K mg G W σ ρ F' Q r := by
  cases r with
  | ok r => exact fun F2 H' v s2 => h F2 H' v (fun a o e => s2 a o (s a o e))
  | exc c p => exact PostX.mono h s
  | stuck => exact h
theorem Same.rfl' : Same F F := fun _ _ h => h
theorem PostE.val (h : PostE K mg G W σ ρ F Q (.ok (.sh p))) (S : Sim K mg G F H σ ρ) (r : Rep K mg F v p) : Q v H := h F H v Same.rfl' S r
/-- a new list or dict of one's own -/
theorem PostE.new {o : HO} {a : Addr} (h : PostE K mg G W σ ρ F Q (.ok (.ow p))) (S : Sim K mg G F H σ ρ) (hn : H a = none) (r : Own K mg F (upd H a o) a p) : Q (.ref a) (upd H a o) :=
  h F (upd H a o) (.ref a) Same.rfl' (S.alloc hn) ⟨a, rfl, (S.fresh hn).1, (S.fresh hn).2, r, S.apart_new hn⟩
/-- a new object, frozen at once -/
theorem PostE.froz {o : HO} {a : Addr} (h : PostE K mg G W σ ρ F Q (.ok (.sh p))) (S : Sim K mg G F H σ ρ) (hn : H a = none) (r : Rep K mg (upd F a o) (.ref a) p) : Q (.ref a) (upd H a o) := by
  obtain ⟨f1, f2⟩ := S.fresh hn
  exact h (upd F a o) (upd H a o) (.ref a) (Same.new f1) ((S.alloc hn).grow upd_same f1 f2 (S.apart_new hn)) r
/-- an operand: its answer is shared -/
theorem use1 {g : PD → Res Rt} {Q' : VK} (S : Sim K mg G F H σ ρ) (h : PostE K mg G W σ ρ F Q ((fa ρ).bind fun r => g r.pd))
    (k : ∀ F' H' v p, Same F F' → Sim K mg G F' H' σ ρ → Rep K mg F' v p → PostE K mg G W σ ρ F' Q (g p) → Q' v H') : tE K mg G W fa σ H Q' := by
  refine ⟨F, ρ, S, ?_⟩
  cases e : fa ρ with
  | ok r =>
    rw [e] at h
    intro F1 H1 v s1 S1 r1
    obtain ⟨F2, s2, S2, r2⟩ := S1.sharing r1
    have s3 : Same F F2 := fun a o e => s2 a o (s1 a o e)
    refine k F2 H1 v r.pd s3 S2 ?_ (PostE.mono h s3)
    cases r <;> exact r2
  | exc c p =>
    rw [e] at h
    exact h
  | stuck =>
    rw [e] at h
    exact h
theorem use1T {g : PD → Res Bool} {Q : Bool → Hp → Prop} {Q' : VK} (S : Sim K mg G F H σ ρ) (h : PostT K mg G W σ ρ F Q ((fa ρ).bind fun r => g r.pd))
    (k : ∀ F' H' v p, Same F F' → Sim K mg G F' H' σ ρ → Rep K mg F' v p → PostT K mg G W σ ρ F' Q (g p) → Q' v H') : tE K mg G W fa σ H Q' := by
  refine ⟨F, ρ, S, ?_⟩
  cases e : fa ρ with
  | ok r =>
    rw [e] at h
    intro F1 H1 v s1 S1 r1
    obtain ⟨F2, s2, S2, r2⟩ := S1.sharing r1
    have s3 : Same F F2 := fun a o e => s2 a o (s1 a o e)
    refine k F2 H1 v r.pd s3 S2 ?_ (PostT.mono h s3)
    cases r <;> exact r2
  | exc c p =>
    rw [e] at h
    exact h
  | stuck =>
    rw [e] at h
    exact h
theorem use1A {g : PD → Res (List PD)} {Q : List V → Hp → Prop} {Q' : VK} (S : Sim K mg G F H σ ρ) (h : PostA K mg G W σ ρ F Q ((fa ρ).bind fun r => g r.pd))
    (k : ∀ F' H' v p, Same F F' → Sim K mg G F' H' σ ρ → Rep K mg F' v p → PostA K mg G W σ ρ F' Q (g p) → Q' v H') : tE K mg G W fa σ H Q' := by
  refine ⟨F, ρ, S, ?_⟩
  cases e : fa ρ with
  | ok r =>
    rw [e] at h
    intro F1 H1 v s1 S1 r1
    obtain ⟨F2, s2, S2, r2⟩ := S1.sharing r1
    have s3 : Same F F2 := fun a o e => s2 a o (s1 a o e)
    refine k F2 H1 v r.pd s3 S2 ?_ (PostA.mono h s3)
    cases r <;> exact r2
  | exc c p =>
    rw [e] at h
    exact h
  | stuck =>
    rw [e] at h
    exact h
/-- a test within -/
theorem useT {tb : Ts} {g : Bool → Res Rt} {Q' : Bool → Hp → Prop} (S : Sim K mg G F H σ ρ) (h : PostE K mg G W σ ρ F Q ((tb ρ).bind g))
    (k : ∀ F' H' b, Same F F' → Sim K mg G F' H' σ ρ → PostE K mg G W σ ρ F' Q (g b) → Q' b H') : tT K mg G W tb σ H Q' := by
  refine ⟨F, ρ, S, ?_⟩
  cases e : tb ρ with
  | ok r =>
    rw [e] at h
    exact fun F1 H1 s1 S1 => k F1 H1 r s1 S1 (PostE.mono h s1)
  | exc c p =>
    rw [e] at h
    exact h
  | stuck =>
    rw [e] at h
    exact h
theorem useTT {tb : Ts} {g : Bool → Res Bool} {Q : Bool → Hp → Prop} {Q' : Bool → Hp → Prop} (S : Sim K mg G F H σ ρ) (h : PostT K mg G W σ ρ F Q ((tb ρ).bind g))
    (k : ∀ F' H' b, Same F F' → Sim K mg G F' H' σ ρ → PostT K mg G W σ ρ F' Q (g b) → Q' b H') : tT K mg G W tb σ H Q' := by
  refine ⟨F, ρ, S, ?_⟩
  cases e : tb ρ with
  | ok r =>
    rw [e] at h
    exact fun F1 H1 s1 S1 => k F1 H1 r s1 S1 (PostT.mono h s1)
  | exc c p =>
    rw [e] at h
    exact h
  | stuck =>
    rw [e] at h
    exact h
/-- arguments within -/
theorem useA {ta : As} {g : List PD → Res Rt} {Q' : List V → Hp → Prop} (S : Sim K mg G F H σ ρ) (h : PostE K mg G W σ ρ F Q ((ta ρ).bind g))
    (k : ∀ F' H' vs ps, Same F F' → Sim K mg G F' H' σ ρ → Reps K mg F' vs ps → PostE K mg G W σ ρ F' Q (g ps) → Q' vs H') : tA K mg G W ta σ H Q' := by
  refine ⟨F, ρ, S, ?_⟩
  cases e : ta ρ with
  | ok r =>
    rw [e] at h
    exact fun F1 H1 vs s1 S1 r1 => k F1 H1 vs r s1 S1 r1 (PostE.mono h s1)
  | exc c p =>
    rw [e] at h
    exact h
  | stuck =>
    rw [e] at h
    exact h
theorem useAA {ta : As} {g : List PD → Res (List PD)} {Q : List V → Hp → Prop} {Q' : List V → Hp → Prop} (S : Sim K mg G F H σ ρ) (h : PostA K mg G W σ ρ F Q ((ta ρ).bind g))
    (k : ∀ F' H' vs ps, Same F F' → Sim K mg G F' H' σ ρ → Reps K mg F' vs ps → PostA K mg G W σ ρ F' Q (g ps) → Q' vs H') : tA K mg G W ta σ H Q' := by
  refine ⟨F, ρ, S, ?_⟩
  cases e : ta ρ with
  | ok r =>
    rw [e] at h
    exact fun F1 H1 vs s1 S1 r1 => k F1 H1 vs r s1 S1 r1 (PostA.mono h s1)
  | exc c p =>
    rw [e] at h
    exact h
  | stuck =>
    rw [e] at h
    exact h
end

/-! ### two-place operators, by values -/
/-- an operator on pure values -/
abbrev Op2 := PD → PD → Res Rt
def rB (K : Fg) (mg : Mg) (G : Hp) (W : WX) (g : Op2) : R2 := fun x y H Q => ∃ F σ ρ p q r, Sim K mg G F H σ ρ ∧ Rep K mg F x p ∧ Rep K mg F y q ∧ g p q = .ok r ∧ PostE K mg G W σ ρ F Q (.ok r)
/-- g tells what f does, where it tells anything -/
def Tells2 (X : Cx) (W : WX) (f : Value → Value → Sem Value) (g : Op2) : Prop := ∀ G, OpR X f (rB X.K X.mg G W g)
/-- an operator that raises nothing that is told -/
def Quiet2 (g : Op2) : Prop := ∀ p q c d, g p q ≠ .exc c d
def eBin (g : Op2) (fa fb : Ex) : Ex := fun ρ => (fa ρ).bind fun x => (fb ρ).bind fun y => g x.pd y.pd
section
variable {X : Cx} {W : WX} {a b c : Expr} {fa fb : Ex} {g : Op2} {pos : Pos}
theorem bin_tells (hq : Quiet2 g) {G : Hp} {σ : Sts} {H : Hp} {Q : VK} (h : tE X.K X.mg G W (eBin g fa fb) σ H Q) : tOp (rB X.K X.mg G W g) (tE X.K X.mg G W fa) (tE X.K X.mg G W fb) σ H Q := by
  obtain ⟨F, ρ, S, h⟩ := h
  refine use1 (g := fun p => (fb ρ).bind fun y => g p y.pd) S h fun F1 H1 x p s1 S1 r1 h1 => ?_
  refine use1 (g := fun q => g p q) S1 h1 fun F2 H2 y q s2 S2 r2 h2 => ?_
  cases e : g p q with
  | ok r =>
    rw [e] at h2
    exact ⟨F2, σ, ρ, p, q, r, S2, r1.mono s2, r2, e, h2⟩
  | exc c d => exact absurd e (hq p q c d)
  | stuck =>
    rw [e] at h2
    exact h2.elim
theorem e_bin {op : Operator} (ho : Tells2 X W (binaryOp op) g) (hq : Quiet2 g) (ha : EOk X W a fa) (hb : EOk X W b fb) : EOk X W (.BinOp a op b pos) (eBin g fa fb) := fun G =>
  impE (pe_op (ho G) (ha G) (hb G)) fun σ H Q h => bin_tells hq h
theorem e_cmp {op : CmpOp} (ho : Tells2 X W (compareOp op) g) (hq : Quiet2 g) (ha : EOk X W a fa) (hb : EOk X W b fb) (hm : behindInMarks op b = false) : EOk X W (.Compare a [op] [b] pos) (eBin g fa fb) := fun G =>
  impE (pe_cmpR (ho G) (ha G) (hb G) hm) fun σ H Q h => bin_tells hq h
theorem Tells2.or {f : Value → Value → Sem Value} {g g' : Op2} (h : Tells2 X W f g) (h' : Tells2 X W f g') : Tells2 X W f (fun p q => match g p q with | .ok r => .ok r | _ => g' p q) := fun G pins s σ H x y v u Q I rx ry q => by
  obtain ⟨F, σ', ρ, p, q, r, S, r1, r2, e, k⟩ := q
  have e : (match g p q with | .ok r => .ok r | _ => g' p q) = Res.ok r := e
  split at e
  · rename_i r' e'
    cases e
    exact h G pins s σ H x y v u Q I rx ry ⟨F, σ', ρ, p, q, _, S, r1, r2, e', k⟩
  · exact h' G pins s σ H x y v u Q I rx ry ⟨F, σ', ρ, p, q, _, S, r1, r2, e, k⟩
end

/-! ### what stands behind a likeness -/
section
variable {K : Fg} {mg : Mg} {F : Hp} {v : V} {x : Str} {i : Int} {b : Bool} {ds : List PD}
theorem Rep.int_inv (h : Rep K mg F v (.int i)) : v = .int i := by cases h; rfl
theorem Rep.bl_inv (h : Rep K mg F v (.bool b)) : v = .bl b := by cases h; rfl
theorem Rep.str_inv (h : Rep K mg F v (.str x)) : v = .str x := by cases h; rfl
theorem Rep.non_inv (h : Rep K mg F v .none) : v = .non := by cases h; rfl
theorem Rep.lst_inv (h : Rep K mg F v (.list ds)) : ∃ a xs, v = .ref a ∧ F a = some (.lst xs) ∧ Reps K mg F xs ds := by
  cases h with
  | lst h r => exact ⟨_, _, rfl, h, r⟩
theorem Rep.tup_inv (h : Rep K mg F v (.tuple ds)) : ∃ a xs, v = .ref a ∧ SqT K F a xs ∧ Reps K mg F xs ds := by
  cases h with
  | tup h r => exact ⟨_, _, rfl, h, r⟩
end
end FL
set_option Elab.async false
set_option linter.all false
set_option maxRecDepth 100000
set_option maxHeartbeats 4000000
/-! FL3: operands that are read only; names, constants; arithmetic -/
namespace FL
open PySem PySem.Spec PyProof.Rows L2

/-- v is p, and stays it as long as the likeness holds -/
def PRd (K : Fg) (mg : Mg) (σ : Sts) (ρ : Ev) (F : Hp) (v : V) (p : PD) : Prop :=
  Rep K mg F v p ∨ ∃ i : Nat, σ[i]? = some (some v) ∧ ρ[i]? = some (some (.ow p))
inductive PRds (K : Fg) (mg : Mg) (σ : Sts) (ρ : Ev) (F : Hp) : List V → List PD → Prop
  | nil : PRds K mg σ ρ F [] []
  | cons {v : V} {vs : List V} {p : PD} {ps : List PD} : PRd K mg σ ρ F v p → PRds K mg σ ρ F vs ps → PRds K mg σ ρ F (v :: vs) (p :: ps)
/-- v is p in the heap H -/
def RdR (K : Fg) (mg : Mg) (F H : Hp) (v : V) (p : PD) : Prop := Rep K mg F v p ∨ ∃ a, v = .ref a ∧ Own K mg F H a p
section
variable {K : Fg} {mg : Mg} {G F F' H H' : Hp} {W : WX} {σ : Sts} {ρ : Ev} {Q : VK} {v : V} {p : PD} {ds : List PD} {x : Str} {i : Int} {b : Bool}
theorem PRd.mono (h : PRd K mg σ ρ F v p) (s : Same F F') : PRd K mg σ ρ F' v p := by
  rcases h with h | h
  · exact .inl (h.mono s)
  · exact .inr h
theorem PRds.mono {vs : List V} {ps : List PD} (h : PRds K mg σ ρ F vs ps) (s : Same F F') : PRds K mg σ ρ F' vs ps := by
  induction h with
  | nil => exact .nil
  | cons h _ ih => exact .cons (h.mono s) ih
theorem PRd.at_ (h : PRd K mg σ ρ F v p) (S : Sim K mg G F H σ ρ) : RdR K mg F H v p := by
  rcases h with h | ⟨i, e1, e2⟩
  · exact .inl h
  · obtain ⟨w, e3, a, rfl, _, _, o⟩ := S.at_ i _ e2
    rw [e1] at e3
    cases e3
    exact .inr ⟨a, rfl, o⟩
theorem RdR.int_inv (h : RdR K mg F H v (.int i)) : v = .int i := by
  rcases h with h | ⟨a, _, h⟩
  · exact h.int_inv
  · cases h
theorem RdR.bl_inv (h : RdR K mg F H v (.bool b)) : v = .bl b := by
  rcases h with h | ⟨a, _, h⟩
  · exact h.bl_inv
  · cases h
theorem RdR.str_inv (h : RdR K mg F H v (.str x)) : v = .str x := by
  rcases h with h | ⟨a, _, h⟩
  · exact h.str_inv
  · cases h
theorem RdR.non_inv (h : RdR K mg F H v .none) : v = .non := by
  rcases h with h | ⟨a, _, h⟩
  · exact h.non_inv
  · cases h
theorem RdR.lst_inv (h : RdR K mg F H v (.list ds)) (s : Sub F H) : ∃ a xs, v = .ref a ∧ H a = some (.lst xs) ∧ Reps K mg F xs ds := by
  rcases h with h | ⟨a, rfl, h⟩
  · obtain ⟨a, xs, rfl, h, r⟩ := h.lst_inv
    exact ⟨a, xs, rfl, s.lst h, r⟩
  · cases h with
    | lst h r => exact ⟨a, _, rfl, h, r⟩
theorem RdR.tup_inv (h : RdR K mg F H v (.tuple ds)) (s : Sub F H) : ∃ a xs, v = .ref a ∧ SqT K H a xs ∧ Reps K mg F xs ds := by
  rcases h with h | ⟨a, rfl, h⟩
  · obtain ⟨a, xs, rfl, h, r⟩ := h.tup_inv
    exact ⟨a, xs, rfl, s.sqT h, r⟩
  · cases h
theorem RdR.dK_inv {ps : List (PD × PD)} (h : RdR K mg F H v (dKD ps)) (s : Sub F H) : ∃ a kvs, v = .ref a ∧ Rd H a (.dK kvs) ∧ RepK K mg F kvs ps := by
  rcases h with h | ⟨a, rfl, h⟩
  · cases h with
    | dK h r => exact ⟨_, _, rfl, s.rdK h, r⟩
  · cases h with
    | dK h r => exact ⟨_, _, rfl, .inl h, r⟩
theorem RdR.dT_inv {ps : List (PD × PD)} (h : RdR K mg F H v (dTD ps)) (s : Sub F H) : ∃ a kvs, v = .ref a ∧ Rd H a (.dT kvs) ∧ RepT K mg F kvs ps := by
  rcases h with h | ⟨a, rfl, h⟩
  · cases h with
    | dT h r => exact ⟨_, _, rfl, s.rdT h, r⟩
  · cases h with
    | dT h r => exact ⟨_, _, rfl, .inl h, r⟩
theorem RdR.scr_inv {xs : List PD} (h : RdR K mg F H v (.dict [(.none, .list xs)])) (s : Sub F H) : ∃ (a : Addr) (ns : List Int), v = .ref a ∧ SqL K H a (ns.map V.int) ∧ xs = ns.map .int := by
  rcases h with h | ⟨a, rfl, h⟩
  · cases h with
    | scr h => exact ⟨_, _, rfl, s.sqL h, rfl⟩
  · cases h
theorem RdR.fn_inv {x : Str} (h : RdR K mg F H v (.dict [(.none, .str x)])) : ∃ a : Addr, v = .ref a ∧ mg x = some (.ref a) := by
  rcases h with h | ⟨a, rfl, h⟩
  · cases h with
    | fn h => exact ⟨_, rfl, h⟩
  · cases h
theorem map_int_inj : ∀ {ns ms : List Int}, (ns.map PyData.int) = ms.map PyData.int → ns = ms
  | [], [], _ => rfl
  | [], _ :: _, h => by cases h
  | _ :: _, [], h => by cases h
  | n :: ns, m :: ms, h => by
    rw [List.map_cons, List.map_cons] at h
    have h1 := (List.cons.inj h).1
    have h2 := (List.cons.inj h).2
    cases h1
    rw [map_int_inj h2]
end

/-- a read operand -/
abbrev Rx := Ev → Res PD
abbrev Rs := Ev → Res (List PD)
def PostR (K : Fg) (mg : Mg) (G : Hp) (W : WX) (σ : Sts) (ρ : Ev) (F : Hp) (Q : VK) : Res PD → Prop
  | .ok p => ∀ F' H' v, Same F F' → Sim K mg G F' H' σ ρ → PRd K mg σ ρ F' v p → Q v H'
  | .exc c p => PostX K mg G W σ ρ F c p
  | .stuck => False
def PostRs (K : Fg) (mg : Mg) (G : Hp) (W : WX) (σ : Sts) (ρ : Ev) (F : Hp) (Q : List V → Hp → Prop) : Res (List PD) → Prop
  | .ok ps => ∀ F' H' vs, Same F F' → Sim K mg G F' H' σ ρ → PRds K mg σ ρ F' vs ps → Q vs H'
  | .exc c p => PostX K mg G W σ ρ F c p
  | .stuck => False
def tR (K : Fg) (mg : Mg) (G : Hp) (W : WX) (f : Rx) : TE := fun σ H Q => ∃ F ρ, Sim K mg G F H σ ρ ∧ PostR K mg G W σ ρ F Q (f ρ)
def tRs (K : Fg) (mg : Mg) (G : Hp) (W : WX) (f : Rs) : TA := fun σ H Q => ∃ F ρ, Sim K mg G F H σ ρ ∧ PostRs K mg G W σ ρ F Q (f ρ)
def ROk (X : Cx) (W : WX) (e : Expr) (f : Rx) : Prop := ∀ G, PE X e (tR X.K X.mg G W f)
def RsOk (X : Cx) (W : WX) (es : List Expr) (f : Rs) : Prop := ∀ G, PA X es (tRs X.K X.mg G W f)
def rPd (fa : Ex) : Rx := fun ρ => (fa ρ).bind fun r => .ok r.pd
def rVar (i : Nat) : Rx := fun ρ => match ρ[i]? with
  | some (some s) => .ok s.pd
  | _ => .stuck
def eVar (i : Nat) : Ex := fun ρ => match ρ[i]? with
  | some (some (.sh p)) => .ok (.sh p)
  | _ => .stuck
def eC (p : PD) : Ex := fun _ => .ok (.sh p)

section
variable {X : Cx} {W : WX} {K : Fg} {mg : Mg} {G F F' H : Hp} {σ : Sts} {ρ : Ev} {Q : VK} {v : V} {p : PD} {a b : Expr} {fa fb : Ex} {ra rb : Rx} {pos : Pos}
theorem r_of (ha : EOk X W a fa) : ROk X W a (rPd fa) := fun G => impE (ha G) fun σ H Q h => by
  obtain ⟨F, ρ, S, h⟩ := h
  refine ⟨F, ρ, S, ?_⟩
  unfold rPd at h
  cases e : fa ρ with
  | ok r =>
    rw [e] at h
    intro F1 H1 v s1 S1 r1
    obtain ⟨F2, s2, S2, r2⟩ := S1.sharing r1
    refine h F2 H1 v (fun a o e => s2 a o (s1 a o e)) S2 (.inl ?_)
    cases r <;> exact r2
  | exc c p =>
    rw [e] at h
    exact h
  | stuck =>
    rw [e] at h
    exact h
theorem r_var {i : Nat} {x : Str} (hN : X.N[i]? = some x) (hv : Vis X.env.scope x) (hd : (x == ("__debug__" : Str)) = false) (hcd : (x == ("__classdict__" : Str)) = false) : ROk X W (.Name x pos) (rVar i) := fun G => impE (pe_var hN hv hd hcd) fun σ H Q h => by
  obtain ⟨F, ρ, S, h⟩ := h
  unfold rVar at h
  split at h
  · rename_i s e
    obtain ⟨v, e1, r⟩ := S.at_ i s e
    refine ⟨v, e1, h F H v Same.rfl' S ?_⟩
    cases s with
    | sh p => exact .inl r
    | ow p => exact .inr ⟨i, e1, e⟩
  · exact h.elim
theorem e_var {i : Nat} {x : Str} (hN : X.N[i]? = some x) (hv : Vis X.env.scope x) (hd : (x == ("__debug__" : Str)) = false) (hcd : (x == ("__classdict__" : Str)) = false) : EOk X W (.Name x pos) (eVar i) := fun G => impE (pe_var hN hv hd hcd) fun σ H Q h => by
  obtain ⟨F, ρ, S, h⟩ := h
  unfold eVar at h
  split at h
  · rename_i p e
    obtain ⟨v, e1, r⟩ := S.at_ i _ e
    exact ⟨v, e1, h F H v Same.rfl' S r⟩
  · exact h.elim
theorem e_c {e : Expr} {v : V} {p : PD} (h : PE X e (tC v)) (r : ∀ F, Rep X.K X.mg F v p) : EOk X W e (eC p) := fun G => impE h fun σ H Q h => by
  obtain ⟨F, ρ, S, h⟩ := h
  exact h F H v Same.rfl' S (r F)
theorem e_int {i : Int} {k : Nat} : EOk X W (.Constant (.int i) k pos) (eC (.int i)) := e_c pe_int fun _ => .int i
theorem e_str {i : Str} {k : Nat} : EOk X W (.Constant (.str i) k pos) (eC (.str i)) := e_c pe_str fun _ => .str i
theorem e_bl {i : Bool} {k : Nat} : EOk X W (.Constant (.bool i) k pos) (eC (.bool i)) := e_c pe_bl fun _ => .bl i
theorem e_non {k : Nat} : EOk X W (.Constant .none k pos) (eC .none) := e_c pe_non fun _ => .non

/-- a read operand within -/
theorem useR {g : PD → Res Rt} {Q' : VK} (S : Sim K mg G F H σ ρ) (h : PostE K mg G W σ ρ F Q ((ra ρ).bind g))
    (k : ∀ F' H' v p, Same F F' → Sim K mg G F' H' σ ρ → PRd K mg σ ρ F' v p → PostE K mg G W σ ρ F' Q (g p) → Q' v H') : tR K mg G W ra σ H Q' := by
  refine ⟨F, ρ, S, ?_⟩
  cases e : ra ρ with
  | ok r =>
    rw [e] at h
    exact fun F1 H1 v s1 S1 r1 => k F1 H1 v r s1 S1 r1 (PostE.mono h s1)
  | exc c p =>
    rw [e] at h
    exact h
  | stuck =>
    rw [e] at h
    exact h
theorem useRT {g : PD → Res Bool} {Q : Bool → Hp → Prop} {Q' : VK} (S : Sim K mg G F H σ ρ) (h : PostT K mg G W σ ρ F Q ((ra ρ).bind g))
    (k : ∀ F' H' v p, Same F F' → Sim K mg G F' H' σ ρ → PRd K mg σ ρ F' v p → PostT K mg G W σ ρ F' Q (g p) → Q' v H') : tR K mg G W ra σ H Q' := by
  refine ⟨F, ρ, S, ?_⟩
  cases e : ra ρ with
  | ok r =>
    rw [e] at h
    exact fun F1 H1 v s1 S1 r1 => k F1 H1 v r s1 S1 r1 (PostT.mono h s1)
  | exc c p =>
    rw [e] at h
    exact h
  | stuck =>
    rw [e] at h
    exact h
theorem useRs {g : List PD → Res Rt} {ra : Rs} {Q' : List V → Hp → Prop} (S : Sim K mg G F H σ ρ) (h : PostE K mg G W σ ρ F Q ((ra ρ).bind g))
    (k : ∀ F' H' vs ps, Same F F' → Sim K mg G F' H' σ ρ → PRds K mg σ ρ F' vs ps → PostE K mg G W σ ρ F' Q (g ps) → Q' vs H') : tRs K mg G W ra σ H Q' := by
  refine ⟨F, ρ, S, ?_⟩
  cases e : ra ρ with
  | ok r =>
    rw [e] at h
    exact fun F1 H1 v s1 S1 r1 => k F1 H1 v r s1 S1 r1 (PostE.mono h s1)
  | exc c p =>
    rw [e] at h
    exact h
  | stuck =>
    rw [e] at h
    exact h
end

/-! ### two-place operators upon read operands -/
def rBR (K : Fg) (mg : Mg) (G : Hp) (W : WX) (g : Op2) : R2 := fun x y H Q => ∃ F σ ρ p q r, Sim K mg G F H σ ρ ∧ RdR K mg F H x p ∧ RdR K mg F H y q ∧ g p q = .ok r ∧ PostE K mg G W σ ρ F Q (.ok r)
def TellsR (X : Cx) (W : WX) (f : Value → Value → Sem Value) (g : Op2) : Prop := ∀ G, OpR X f (rBR X.K X.mg G W g)
def eBinR (g : Op2) (ra rb : Rx) : Ex := fun ρ => (ra ρ).bind fun p => (rb ρ).bind fun q => g p q
section
variable {X : Cx} {W : WX} {a b c : Expr} {ra rb : Rx} {g : Op2} {pos : Pos}
theorem binR_tells (hq : Quiet2 g) {G : Hp} {σ : Sts} {H : Hp} {Q : VK} (h : tE X.K X.mg G W (eBinR g ra rb) σ H Q) : tOp (rBR X.K X.mg G W g) (tR X.K X.mg G W ra) (tR X.K X.mg G W rb) σ H Q := by
  obtain ⟨F, ρ, S, h⟩ := h
  refine useR (g := fun p => (rb ρ).bind fun y => g p y) S h fun F1 H1 x p s1 S1 r1 h1 => ?_
  refine useR (g := fun q => g p q) S1 h1 fun F2 H2 y q s2 S2 r2 h2 => ?_
  cases e : g p q with
  | ok r =>
    rw [e] at h2
    exact ⟨F2, σ, ρ, p, q, r, S2, (r1.mono s2).at_ S2, r2.at_ S2, e, h2⟩
  | exc c d => exact absurd e (hq p q c d)
  | stuck =>
    rw [e] at h2
    exact h2.elim
theorem e_binR {op : Operator} (ho : TellsR X W (binaryOp op) g) (hq : Quiet2 g) (ha : ROk X W a ra) (hb : ROk X W b rb) : EOk X W (.BinOp a op b pos) (eBinR g ra rb) := fun G =>
  impE (pe_op (ho G) (ha G) (hb G)) fun σ H Q h => binR_tells hq h
theorem e_cmpR {op : CmpOp} (ho : TellsR X W (compareOp op) g) (hq : Quiet2 g) (ha : ROk X W a ra) (hb : ROk X W b rb) (hm : behindInMarks op b = false) : EOk X W (.Compare a [op] [b] pos) (eBinR g ra rb) := fun G =>
  impE (pe_cmpR (ho G) (ha G) (hb G) hm) fun σ H Q h => binR_tells hq h
end

/-! ### arithmetic -/
def fits (i : Int) : Bool := decide (i.natAbs.log2 < 400000)
def addP : Op2
  | .int i, .int j => .ok (.sh (.int (i + j)))
  | .int i, .bool j => .ok (.sh (.int (i + b2i j)))
  | .str x, .str y => if x.length + y.length ≤ 16777216 then .ok (.sh (.str (x ++ y))) else .stuck
  | .list xs, .list ys => if xs.length + ys.length ≤ 16777216 then .ok (.ow (.list (xs ++ ys))) else .stuck
  | .tuple xs, .tuple ys => if xs.length + ys.length ≤ 16777216 then .ok (.sh (.tuple (xs ++ ys))) else .stuck
  | _, _ => .stuck
def subP : Op2
  | .int i, .int j => .ok (.sh (.int (i - j)))
  | _, _ => .stuck
def mulP : Op2
  | .int i, .int j => if fits i && fits j then .ok (.sh (.int (i * j))) else .stuck
  | .list xs, .int k => if decide (-1000000 ≤ k) && decide (k ≤ 1000000) && decide (xs.length * k.toNat ≤ 16777216) then .ok (.ow (.list (List.replicate k.toNat xs).flatten)) else .stuck
  | .tuple xs, .int k => if !xs.isEmpty && decide (2 ≤ k) && decide (k ≤ 1000) && decide (xs.length ≤ 1000) then .ok (.sh (.tuple (List.replicate k.toNat xs).flatten)) else .stuck
  | _, _ => .stuck
def fdivP : Op2
  | .int i, .int j => if decide (j ≠ 0) && decide (j.natAbs.log2 < 9000) then .ok (.sh (.int (i.fdiv j))) else .stuck
  | _, _ => .stuck
def modP : Op2
  | .int i, .int j => if j ≠ 0 then .ok (.sh (.int (i.fmod j))) else .stuck
  | _, _ => .stuck
def powP : Op2
  | .int i, .int j => if decide (0 ≤ j) && decide (j ≤ 1000) && decide (i.natAbs < 65536) then .ok (.sh (.int (i ^ j.toNat))) else .stuck
  | _, _ => .stuck
theorem q_add : Quiet2 addP := fun p q c d e => by
  unfold addP at e
  repeat' split at e
  all_goals cases e
theorem q_sub : Quiet2 subP := fun p q c d e => by
  unfold subP at e
  repeat' split at e
  all_goals cases e
theorem q_mul : Quiet2 mulP := fun p q c d e => by
  unfold mulP at e
  repeat' split at e
  all_goals cases e
theorem q_fdiv : Quiet2 fdivP := fun p q c d e => by
  unfold fdivP at e
  repeat' split at e
  all_goals cases e
theorem q_mod : Quiet2 modP := fun p q c d e => by
  unfold modP at e
  repeat' split at e
  all_goals cases e
theorem q_pow : Quiet2 powP := fun p q c d e => by
  unfold powP at e
  repeat' split at e
  all_goals cases e
theorem szl {n : Nat} (h : n ≤ 16777216) : n ≤ sizeLine := by rw [sizeLine_eq]; exact h
section
variable {X : Cx} {W : WX}
theorem tells_sub : TellsR X W (binaryOp .Sub) subP := by
  intro G pins s σ H x y v u Q I rx ry h
  obtain ⟨F, σ', ρ, p, q, r, S, r1, r2, e, k⟩ := h
  unfold subP at e
  split at e
  · cases e
    obtain rfl := r1.int_inv
    obtain rfl := r2.int_inv
    exact op_sub pins s σ H _ _ v u Q I rx ry ⟨_, _, rfl, rfl, PostE.val k S (.int _)⟩
  · cases e
theorem tells_mod : TellsR X W (binaryOp .Mod) modP := by
  intro G pins s σ H x y v u Q I rx ry h
  obtain ⟨F, σ', ρ, p, q, r, S, r1, r2, e, k⟩ := h
  unfold modP at e
  split at e
  · split at e
    · rename_i hj
      cases e
      obtain rfl := r1.int_inv
      obtain rfl := r2.int_inv
      exact op_modN pins s σ H _ _ v u Q I rx ry ⟨_, _, rfl, rfl, hj, PostE.val k S (.int _)⟩
    · cases e
  · cases e
theorem op_fdivNW : OpR X (binaryOp .FloorDiv) (rI (fun _ j => j ≠ 0 ∧ j.natAbs.log2 < 9000) fun i j => .int (i.fdiv j)) := opI fun _ _ _ _ _ _ _ hc q => floordiv_int hc.1 q (.inl (PyProof.noPylong_of_log2 hc.2))
theorem tells_fdiv : TellsR X W (binaryOp .FloorDiv) fdivP := by
  intro G pins s σ H x y v u Q I rx ry h
  obtain ⟨F, σ', ρ, p, q, r, S, r1, r2, e, k⟩ := h
  unfold fdivP at e
  split at e
  · split at e
    · rename_i hj
      rw [Bool.and_eq_true] at hj
      cases e
      obtain rfl := r1.int_inv
      obtain rfl := r2.int_inv
      exact op_fdivNW pins s σ H _ _ v u Q I rx ry ⟨_, _, rfl, rfl, ⟨of_decide_eq_true hj.1, of_decide_eq_true hj.2⟩, PostE.val k S (.int _)⟩
    · cases e
  · cases e
theorem tells_pow : TellsR X W (binaryOp .Pow) powP := by
  intro G pins s σ H x y v u Q I rx ry h
  obtain ⟨F, σ', ρ, p, q, r, S, r1, r2, e, k⟩ := h
  unfold powP at e
  split at e
  · split at e
    · rename_i hj
      rw [Bool.and_eq_true, Bool.and_eq_true] at hj
      cases e
      obtain rfl := r1.int_inv
      obtain rfl := r2.int_inv
      have h1 := of_decide_eq_true hj.1.1
      have h2 := of_decide_eq_true hj.1.2
      have h3 := of_decide_eq_true hj.2
      exact op_pow pins s σ H _ _ v u Q I rx ry ⟨_, _, rfl, rfl, ⟨h1, by omega, by omega⟩, PostE.val k S (.int _)⟩
    · cases e
  · cases e
theorem fits_mul {i j : Int} (h : (fits i && fits j) = true) : CMulW i j := by
  rw [Bool.and_eq_true] at h
  have h1 := of_decide_eq_true h.1
  have h2 := of_decide_eq_true h.2
  unfold CMulW
  omega
theorem tells_mul : TellsR X W (binaryOp .Mult) mulP := by
  intro G pins s σ H x y v u Q I rx ry h
  obtain ⟨F, σ', ρ, p, q, r, S, r1, r2, e, k⟩ := h
  unfold mulP at e
  split at e
  · split at e
    · rename_i hj
      cases e
      obtain rfl := r1.int_inv
      obtain rfl := r2.int_inv
      exact op_mulW pins s σ H _ _ v u Q I rx ry ⟨_, _, rfl, rfl, fits_mul hj, PostE.val k S (.int _)⟩
    · cases e
  · split at e
    · rename_i xs kk hj
      rw [Bool.and_eq_true, Bool.and_eq_true] at hj
      cases e
      obtain ⟨a, vs, rfl, h1, h2⟩ := r1.lst_inv S.sub
      obtain rfl := r2.int_inv
      have z1 := of_decide_eq_true hj.1.1
      have z2 := of_decide_eq_true hj.1.2
      have z3 := of_decide_eq_true hj.2
      rw [← h2.len] at z3
      exact op_rep pins s σ H _ _ v u Q I rx ry ⟨a, kk, vs, rfl, rfl, h1, by omega, by omega, szl z3, fun p hp => PostE.new k S hp (.lst upd_same (h2.flat_rep _))⟩
    · cases e
  · split at e
    · rename_i xs kk hj
      rw [Bool.and_eq_true, Bool.and_eq_true, Bool.and_eq_true] at hj
      cases e
      obtain ⟨a, vs, rfl, h1, h2⟩ := r1.tup_inv S.sub
      obtain rfl := r2.int_inv
      have z1 := of_decide_eq_true hj.1.1.2
      have z2 := of_decide_eq_true hj.1.2
      have z3 := of_decide_eq_true hj.2
      have z0 := hj.1.1.1
      rw [← h2.len] at z3
      have hne : vs ≠ [] := fun z => by
        have := h2.len
        rw [z] at this
        cases xs with
        | nil => simp at z0
        | cons _ _ => simp at this
      exact op_repT pins s σ H _ _ v u Q I rx ry ⟨a, kk, vs, rfl, rfl, h1, hne, z1, z2, z3, fun p hp => PostE.froz k S hp (.tup (.inl (.inl upd_same)) (Reps.mono (Same.new (S.fresh hp).1) (h2.flat_rep _)))⟩
    · cases e
  · cases e
theorem Sub.new {F H : Hp} (s : Sub F H) : True := trivial
theorem tells_add : TellsR X W (binaryOp .Add) addP := by
  intro G pins s σ H x y v u Q I rx ry h
  obtain ⟨F, σ', ρ, p, q, r, S, r1, r2, e, k⟩ := h
  unfold addP at e
  split at e
  · cases e
    obtain rfl := r1.int_inv
    obtain rfl := r2.int_inv
    exact op_add pins s σ H _ _ v u Q I rx ry ⟨_, _, rfl, rfl, PostE.val k S (.int _)⟩
  · cases e
    obtain rfl := r1.int_inv
    obtain rfl := r2.bl_inv
    exact op_add_ib pins s σ H _ _ v u Q I rx ry ⟨_, _, rfl, rfl, PostE.val k S (.int _)⟩
  · split at e
    · rename_i hj
      cases e
      obtain rfl := r1.str_inv
      obtain rfl := r2.str_inv
      exact op_add_str pins s σ H _ _ v u Q I rx ry ⟨_, _, rfl, rfl, szl hj, PostE.val k S (.str _)⟩
    · cases e
  · split at e
    · rename_i hj
      cases e
      obtain ⟨a, vs, rfl, h1, h2⟩ := r1.lst_inv S.sub
      obtain ⟨b, ws, rfl, h3, h4⟩ := r2.lst_inv S.sub
      rw [← h2.len, ← h4.len] at hj
      exact op_cat pins s σ H _ _ v u Q I rx ry ⟨a, b, vs, ws, rfl, rfl, h1, h3, szl hj, fun p hp => PostE.new k S hp (.lst upd_same (h2.append h4))⟩
    · cases e
  · split at e
    · rename_i hj
      cases e
      obtain ⟨a, vs, rfl, h1, h2⟩ := r1.tup_inv S.sub
      obtain ⟨b, ws, rfl, h3, h4⟩ := r2.tup_inv S.sub
      rw [← h2.len, ← h4.len] at hj
      refine op_catA pins s σ H _ _ v u Q I rx ry ⟨a, b, vs, ws, rfl, rfl, h1, h3, szl hj, fun z => ?_, fun _ z => ?_, fun _ _ p hp => PostE.froz k S hp (.tup (.inl (.inl upd_same)) (Reps.mono (Same.new (S.fresh hp).1) (h2.append h4)))⟩
      · subst z
        cases h2
        rcases r2 with r2 | ⟨a, e, o⟩
        · exact PostE.val k S r2
        · cases o
      · subst z
        cases h4
        rw [List.append_nil] at k
        rcases r1 with r1 | ⟨a, e, o⟩
        · exact PostE.val k S r1
        · cases o
    · cases e
  · cases e
end
end FL
set_option Elab.async false
set_option linter.all false
set_option maxRecDepth 100000
set_option maxHeartbeats 1000000
/-! FL4: comparisons, tests, displays, subscripts -/
namespace FL
open PySem PySem.Spec PyProof.Rows L2

/-! ### == -/
def eqP (p q : PD) : Option Bool :=
  match p, q with
  | .int i, .int j => some (decide (i = j))
  | .str x, .str y => some (decide (x = y))
  | .bool a, .bool b => some (decide (a = b))
  | .none, .none => some true
  | .none, .int _ => some false
  | .int _, .none => some false
  | .none, .str _ => some false
  | .str _, .none => some false
  | p, q => if SeqAt.shaped p && SeqAt.shaped q then some (PyData.eqv p q) else none
def eqO : Op2 := fun p q => match eqP p q with
  | some b => .ok (.sh (.bool b))
  | none => .stuck
def neO : Op2 := fun p q => match eqP p q with
  | some b => .ok (.sh (.bool (!b)))
  | none => .stuck
def ltO : Op2
  | .int i, .int j => .ok (.sh (.bool (decide (i < j))))
  | _, _ => .stuck
def leO : Op2
  | .int i, .int j => .ok (.sh (.bool (decide (i ≤ j))))
  | _, _ => .stuck
def gtO : Op2
  | .int i, .int j => .ok (.sh (.bool (decide (j < i))))
  | _, _ => .stuck
def geO : Op2
  | .int i, .int j => .ok (.sh (.bool (decide (j ≤ i))))
  | _, _ => .stuck
def isO : Op2
  | .bool a, .bool b => .ok (.sh (.bool (decide (a = b))))
  | _, _ => .stuck
def isNotO : Op2
  | .bool a, .bool b => .ok (.sh (.bool (!decide (a = b))))
  | _, _ => .stuck
def isNone : PD → Bool
  | .none => true
  | _ => false
def isNO : Op2 := fun p q => match q with
  | .none => .ok (.sh (.bool (isNone p)))
  | _ => .stuck
def notNO : Op2 := fun p q => match q with
  | .none => .ok (.sh (.bool (!isNone p)))
  | _ => .stuck
/-- is / is not: None on the right, or two truth values -/
def isA : Op2 := fun p q => match q with
  | .none => .ok (.sh (.bool (isNone p)))
  | .bool b => (match p with | .bool a => .ok (.sh (.bool (decide (a = b)))) | _ => .stuck)
  | _ => .stuck
def isNotA : Op2 := fun p q => match q with
  | .none => .ok (.sh (.bool (!isNone p)))
  | .bool b => (match p with | .bool a => .ok (.sh (.bool (!decide (a = b)))) | _ => .stuck)
  | _ => .stuck
def flatP : PD → Bool
  | .none => true
  | .bool _ => true
  | .int _ => true
  | .str _ => true
  | _ => false
def eqF : PD → PD → Bool
  | .none, .none => true
  | .bool a, .bool b => a == b
  | .bool a, .int b => (if a then 1 else 0) == b
  | .int a, .bool b => a == (if b then 1 else 0)
  | .int a, .int b => a == b
  | .str a, .str b => a == b
  | _, _ => false
def keyP : PD → Option Key
  | .int i => some (.inl i)
  | .str x => some (.inr x)
  | _ => none
def keysP : List PD → Option (List Key)
  | [] => some []
  | p :: ps => match keyP p, keysP ps with
    | some k, some ks => some (k :: ks)
    | _, _ => none
def dfind : List (PD × PD) → PD → Option PD
  | [], _ => none
  | (k, v) :: r, q => if PyData.eqv k q then some v else dfind r q
/-- a key of a dict: an int, a text, a tuple of such -/
def isKey : PD → Bool
  | .int _ => true
  | .str _ => true
  | .tuple ps => (keysP ps).isSome
  | _ => false
/-- is x in a list, a tuple, a dict -/
def inP (x y : PD) : Option Bool :=
  match y with
  | .list ys => if flatP x && ys.all flatP then some (ys.any fun z => eqF z x) else if SeqAt.shaped x && SeqAt.shaped (.list ys) then some (ys.any fun z => PyData.eqv z x) else none
  | .tuple ys => if flatP x && ys.all flatP then some (ys.any fun z => eqF z x) else none
  | _ => none
def inO : Op2 := fun p q => match inP p q with
  | some b => .ok (.sh (.bool b))
  | none => .stuck
def ninO : Op2 := fun p q => match inP p q with
  | some b => .ok (.sh (.bool (!b)))
  | none => .stuck
section
variable {K : Fg} {mg : Mg} {G F F' H H' : Hp} {v : V} {p : PD}
theorem canLay_dict {ps : List (PD × PD)} : PyData.canLay0 (.dict ps) = false := by simp [PyData.canLay0]
mutual
theorem Rep.dp (s : Sub F H) : ∀ {v : V} {p : PD}, Rep K mg F v p → PyData.canLay0 p = true → Dp K H v p
  | _, _, .non, _ => .non
  | _, _, .bl b, _ => .bl b
  | _, _, .int i, _ => .int i
  | _, _, .str x, _ => .str x
  | _, _, .lst h r, c => .lst (.inl (.inl (s.lst h))) (Reps.dp s r (by simpa [PyData.canLay0] using c))
  | _, _, .tup h r, c => .tup (s.sqT h) (Reps.dp s r (by simpa [PyData.canLay0] using c))
  | _, _, .dK h r, c => by rw [canLay_dict] at c; cases c
  | _, _, .dT h r, c => by rw [canLay_dict] at c; cases c
  | _, _, .scr h, c => by rw [canLay_dict] at c; cases c
  | _, _, .fn h, c => by rw [canLay_dict] at c; cases c
  | _, _, .exc _ _ _ _ _ _ _, c => by rw [canLay_dict] at c; cases c
theorem Reps.dp (s : Sub F H) : ∀ {v : List V} {p : List PD}, Reps K mg F v p → PyData.canLayAll0 p = true → DpAll K H v p
  | _, _, .nil, _ => .nil
  | _, _, .cons (d := d) (ds := ds) h r, c => by
    have c' : PyData.canLay0 d = true ∧ PyData.canLayAll0 ds = true := by simpa [PyData.canLayAll0] using c
    exact .cons (Rep.dp s h c'.1) (Reps.dp s r c'.2)
end
theorem RdR.dp (h : RdR K mg F H v p) (s : Sub F H) (c : PyData.canLay0 p = true) : Dp K H v p := by
  rcases h with h | ⟨a, rfl, h⟩
  · exact h.dp s c
  · cases h with
    | lst h r => exact .lst (.inl (.inl h)) (r.dp s (by simpa [PyData.canLay0] using c))
    | dK h r => rw [canLay_dict] at c; cases c
    | dT h r => rw [canLay_dict] at c; cases c
theorem Rep.flat (h : Rep K mg F v p) (f : flatP p = true) : flatV v = true := by
  cases h <;> first | rfl | cases f
theorem RdR.flat (h : RdR K mg F H v p) (f : flatP p = true) : flatV v = true ∧ Rep K mg F v p := by
  rcases h with h | ⟨a, rfl, h⟩
  · exact ⟨h.flat f, h⟩
  · cases h <;> cases f
theorem Rep.eqF {w : V} {q : PD} (h : Rep K mg F v p) (h2 : Rep K mg F w q) (f : flatP p = true) (f2 : flatP q = true) : eqV v w = FL.eqF p q := by
  cases h <;> first
    | exact absurd (show false = true from f) Bool.false_ne_true
    | (cases h2 <;> first
        | exact absurd (show false = true from f2) Bool.false_ne_true
        | rfl)
theorem Reps.any_flat {x : V} {q : PD} (hx : Rep K mg F x q) (fx : flatP q = true) : ∀ {vs : List V} {ps : List PD}, Reps K mg F vs ps → ps.all flatP = true → vs.all flatV = true ∧ inV x vs = ps.any fun z => FL.eqF z q
  | _, _, .nil, _ => ⟨rfl, rfl⟩
  | v :: vs, p :: ps, .cons h r, f => by
    rw [List.all_cons, Bool.and_eq_true] at f
    obtain ⟨i1, i2⟩ := Reps.any_flat hx fx r f.2
    refine ⟨by rw [List.all_cons, i1, h.flat f.1] <;> rfl, ?_⟩
    show (eqV v x || inV x vs) = _
    rw [i2, h.eqF hx f.1 fx, List.any_cons]
end
theorem q_eq : Quiet2 eqO := fun p q c d e => by
  unfold eqO at e
  split at e <;> cases e
theorem q_ne : Quiet2 neO := fun p q c d e => by
  unfold neO at e
  split at e <;> cases e
theorem q_lt : Quiet2 ltO := fun p q c d e => by
  unfold ltO at e
  split at e <;> cases e
theorem q_le : Quiet2 leO := fun p q c d e => by
  unfold leO at e
  split at e <;> cases e
theorem q_gt : Quiet2 gtO := fun p q c d e => by
  unfold gtO at e
  split at e <;> cases e
theorem q_ge : Quiet2 geO := fun p q c d e => by
  unfold geO at e
  split at e <;> cases e
theorem q_is : Quiet2 isA := fun p q c d e => by
  unfold isA at e
  split at e
  · cases e
  · split at e <;> cases e
  · cases e
theorem q_isNot : Quiet2 isNotA := fun p q c d e => by
  unfold isNotA at e
  split at e
  · cases e
  · split at e <;> cases e
  · cases e
theorem q_in : Quiet2 inO := fun p q c d e => by
  unfold inO at e
  split at e <;> cases e
theorem q_nin : Quiet2 ninO := fun p q c d e => by
  unfold ninO at e
  split at e <;> cases e
section
variable {X : Cx} {W : WX}
/-- two values told apart by ==, as rEq or rEqD has it -/
theorem eqP_ok {K : Fg} {mg : Mg} {F H : Hp} {x y : V} {p q : PD} {b : Bool} (s : Sub F H) (r1 : RdR K mg F H x p) (r2 : RdR K mg F H y q) (e : eqP p q = some b) :
    (scal x y = true ∧ decide (x = y) = b) ∨ (∃ d e, Dp K H x d ∧ Dp K H y e ∧ SeqAt.shaped d = true ∧ SeqAt.shaped e = true ∧ PyData.eqv d e = b) := by
  unfold eqP at e
  split at e
  · cases e; obtain rfl := r1.int_inv; obtain rfl := r2.int_inv; exact .inl ⟨rfl, by simp⟩
  · cases e; obtain rfl := r1.str_inv; obtain rfl := r2.str_inv; exact .inl ⟨rfl, by simp⟩
  · cases e; obtain rfl := r1.bl_inv; obtain rfl := r2.bl_inv; exact .inl ⟨rfl, by simp⟩
  · cases e; obtain rfl := r1.non_inv; obtain rfl := r2.non_inv; exact .inl ⟨rfl, by simp⟩
  · cases e; obtain rfl := r1.non_inv; obtain rfl := r2.int_inv; exact .inl ⟨rfl, by simp⟩
  · cases e; obtain rfl := r1.int_inv; obtain rfl := r2.non_inv; exact .inl ⟨rfl, by simp⟩
  · cases e; obtain rfl := r1.non_inv; obtain rfl := r2.str_inv; exact .inl ⟨rfl, by simp⟩
  · cases e; obtain rfl := r1.str_inv; obtain rfl := r2.non_inv; exact .inl ⟨rfl, by simp⟩
  · split at e
    · rename_i hs
      rw [Bool.and_eq_true] at hs
      exact .inr ⟨p, q, r1.dp s (SeqAt.canLay_of_shaped hs.1), r2.dp s (SeqAt.canLay_of_shaped hs.2), hs.1, hs.2, Option.some.inj e⟩
    · cases e
theorem tells_eq (hu : X.A.units + 64 < cLine) : TellsR X W (compareOp .Eq) eqO := by
  intro G pins s σ H x y v u Q I rx ry h
  obtain ⟨F, σ', ρ, p, q, r, S, r1, r2, e, k⟩ := h
  unfold eqO at e
  split at e
  · rename_i b eb
    cases e
    rcases eqP_ok S.sub r1 r2 eb with ⟨h1, h2⟩ | ⟨d, e, d1, d2, d3, d4, d5⟩
    · exact op_eq pins s σ H _ _ v u Q I rx ry ⟨h1, by rw [h2]; exact PostE.val k S (.bl _)⟩
    · exact op_eqD hu pins s σ H _ _ v u Q I rx ry ⟨d, e, d1, d2, d3, d4, by rw [d5]; exact PostE.val k S (.bl _)⟩
  · cases e
theorem tells_ne (hu : X.A.units + 64 < cLine) : TellsR X W (compareOp .NotEq) neO := by
  intro G pins s σ H x y v u Q I rx ry h
  obtain ⟨F, σ', ρ, p, q, r, S, r1, r2, e, k⟩ := h
  unfold neO at e
  split at e
  · rename_i b eb
    cases e
    rcases eqP_ok S.sub r1 r2 eb with ⟨h1, h2⟩ | ⟨d, e, d1, d2, d3, d4, d5⟩
    · exact op_ne pins s σ H _ _ v u Q I rx ry ⟨h1, by rw [h2]; exact PostE.val k S (.bl _)⟩
    · exact op_neD hu pins s σ H _ _ v u Q I rx ry ⟨d, e, d1, d2, d3, d4, by rw [d5]; exact PostE.val k S (.bl _)⟩
  · cases e
theorem tells_lt : TellsR X W (compareOp .Lt) ltO := by
  intro G pins s σ H x y v u Q I rx ry h
  obtain ⟨F, σ', ρ, p, q, r, S, r1, r2, e, k⟩ := h
  unfold ltO at e
  split at e
  · cases e; obtain rfl := r1.int_inv; obtain rfl := r2.int_inv
    exact op_lt pins s σ H _ _ v u Q I rx ry ⟨_, _, rfl, rfl, PostE.val k S (.bl _)⟩
  · cases e
theorem tells_le : TellsR X W (compareOp .LtE) leO := by
  intro G pins s σ H x y v u Q I rx ry h
  obtain ⟨F, σ', ρ, p, q, r, S, r1, r2, e, k⟩ := h
  unfold leO at e
  split at e
  · cases e; obtain rfl := r1.int_inv; obtain rfl := r2.int_inv
    exact op_le pins s σ H _ _ v u Q I rx ry ⟨_, _, rfl, rfl, PostE.val k S (.bl _)⟩
  · cases e
theorem tells_gt : TellsR X W (compareOp .Gt) gtO := by
  intro G pins s σ H x y v u Q I rx ry h
  obtain ⟨F, σ', ρ, p, q, r, S, r1, r2, e, k⟩ := h
  unfold gtO at e
  split at e
  · cases e; obtain rfl := r1.int_inv; obtain rfl := r2.int_inv
    exact op_gt pins s σ H _ _ v u Q I rx ry ⟨_, _, rfl, rfl, PostE.val k S (.bl _)⟩
  · cases e
theorem tells_ge : TellsR X W (compareOp .GtE) geO := by
  intro G pins s σ H x y v u Q I rx ry h
  obtain ⟨F, σ', ρ, p, q, r, S, r1, r2, e, k⟩ := h
  unfold geO at e
  split at e
  · cases e; obtain rfl := r1.int_inv; obtain rfl := r2.int_inv
    exact op_ge pins s σ H _ _ v u Q I rx ry ⟨_, _, rfl, rfl, PostE.val k S (.bl _)⟩
  · cases e
theorem isNone_of {K : Fg} {mg : Mg} {F H : Hp} {v : V} {p : PD} (h : RdR K mg F H v p) : decide (v = .non) = isNone p := by
  rcases h with h | ⟨a, rfl, h⟩
  · cases h <;> simp [isNone]
  · cases h <;> simp [isNone]
theorem tells_is : TellsR X W (compareOp .Is) isA := by
  intro G pins s σ H x y v u Q I rx ry h
  obtain ⟨F, σ', ρ, p, q, r, S, r1, r2, e, k⟩ := h
  unfold isA at e
  split at e
  · cases e; obtain rfl := r2.non_inv
    exact op_isN pins s σ H _ _ v u Q I rx ry ⟨rfl, by rw [isNone_of r1]; exact PostE.val k S (.bl _)⟩
  · split at e
    · cases e; obtain rfl := r1.bl_inv; obtain rfl := r2.bl_inv
      exact op_isBl pins s σ H _ _ v u Q I rx ry ⟨_, _, rfl, rfl, PostE.val k S (.bl _)⟩
    · cases e
  · cases e
theorem tells_isNot : TellsR X W (compareOp .IsNot) isNotA := by
  intro G pins s σ H x y v u Q I rx ry h
  obtain ⟨F, σ', ρ, p, q, r, S, r1, r2, e, k⟩ := h
  unfold isNotA at e
  split at e
  · cases e; obtain rfl := r2.non_inv
    exact op_notN pins s σ H _ _ v u Q I rx ry ⟨rfl, by rw [isNone_of r1]; exact PostE.val k S (.bl _)⟩
  · split at e
    · cases e; obtain rfl := r1.bl_inv; obtain rfl := r2.bl_inv
      exact op_notBl pins s σ H _ _ v u Q I rx ry ⟨_, _, rfl, rfl, PostE.val k S (.bl _)⟩
    · cases e
  · cases e
theorem inP_ok {K : Fg} {mg : Mg} {F H : Hp} {x y : V} {p q : PD} {b : Bool} (s : Sub F H) (r1 : RdR K mg F H x p) (r2 : RdR K mg F H y q) (e : inP p q = some b) :
    (∃ a xs, y = .ref a ∧ (SqL K H a xs ∨ SqT K H a xs) ∧ flatV x = true ∧ xs.all flatV = true ∧ inV x xs = b) ∨
      ∃ d ds, Dp K H x d ∧ Dp K H y (.list ds) ∧ SeqAt.shaped d = true ∧ SeqAt.shaped (.list ds) = true ∧ (ds.any fun z => PyData.eqv z d) = b := by
  unfold inP at e
  split at e
  · rename_i ys
    split at e
    · rename_i hf
      rw [Bool.and_eq_true] at hf
      obtain ⟨a, vs, rfl, h1, h2⟩ := r2.lst_inv s
      obtain ⟨f1, f2⟩ := r1.flat hf.1
      obtain ⟨g1, g2⟩ := Reps.any_flat f2 hf.1 h2 hf.2
      exact .inl ⟨a, vs, rfl, .inl (.inl (.inl h1)), f1, g1, g2.trans (Option.some.inj e)⟩
    · split at e
      · rename_i hs
        rw [Bool.and_eq_true] at hs
        exact .inr ⟨p, ys, r1.dp s (SeqAt.canLay_of_shaped hs.1), r2.dp s (SeqAt.canLay_of_shaped hs.2), hs.1, hs.2, Option.some.inj e⟩
      · cases e
  · rename_i ys
    split at e
    · rename_i hf
      rw [Bool.and_eq_true] at hf
      obtain ⟨a, vs, rfl, h1, h2⟩ := r2.tup_inv s
      obtain ⟨f1, f2⟩ := r1.flat hf.1
      obtain ⟨g1, g2⟩ := Reps.any_flat f2 hf.1 h2 hf.2
      exact .inl ⟨a, vs, rfl, .inr h1, f1, g1, g2.trans (Option.some.inj e)⟩
    · cases e
  · cases e
theorem tells_in (hu : X.A.units + 65 < cLine) : TellsR X W (compareOp .In) inO := by
  intro G pins s σ H x y v u Q I rx ry h
  obtain ⟨F, σ', ρ, p, q, r, S, r1, r2, e, k⟩ := h
  unfold inO at e
  split at e
  · rename_i b eb
    cases e
    rcases inP_ok S.sub r1 r2 eb with ⟨a, xs, rfl, h1, h2, h3, h4⟩ | ⟨d, ds, d1, d2, d3, d4, d5⟩
    · exact op_in_seq pins s σ H _ _ v u Q I rx ry ⟨a, xs, rfl, h1, h2, h3, by rw [h4]; exact PostE.val k S (.bl _)⟩
    · exact op_inD hu pins s σ H _ _ v u Q I rx ry ⟨d, ds, d1, d2, d3, d4, by rw [d5]; exact PostE.val k S (.bl _)⟩
  · cases e
theorem tells_nin (hu : X.A.units + 65 < cLine) : TellsR X W (compareOp .NotIn) ninO := by
  intro G pins s σ H x y v u Q I rx ry h
  obtain ⟨F, σ', ρ, p, q, r, S, r1, r2, e, k⟩ := h
  unfold ninO at e
  split at e
  · rename_i b eb
    cases e
    rcases inP_ok S.sub r1 r2 eb with ⟨a, xs, rfl, h1, h2, h3, h4⟩ | ⟨d, ds, d1, d2, d3, d4, d5⟩
    · exact op_notIn_seq pins s σ H _ _ v u Q I rx ry ⟨a, xs, rfl, h1, h2, h3, by rw [h4]; exact PostE.val k S (.bl _)⟩
    · exact op_notInD hu pins s σ H _ _ v u Q I rx ry ⟨d, ds, d1, d2, d3, d4, by rw [d5]; exact PostE.val k S (.bl _)⟩
  · cases e
end
end FL
set_option Elab.async false
set_option linter.all false
set_option maxRecDepth 100000
set_option maxHeartbeats 1000000
/-! FL5: tests, and / or / not, arguments, displays, subscripts, slices -/
namespace FL
open PySem PySem.Spec PyProof.Rows L2

def notStar : Expr → Bool
  | .Starred .. => false
  | _ => true
theorem star_cons {e : Expr} (h : notStar e = true) (es : List Expr) (env : Env) : starEach (e :: es) env = (false, eval e env) :: starEach es env := by
  cases e <;> first
    | rfl
    | exact absurd (show false = true from h) Bool.false_ne_true

/-! ### truth -/
def truP : PD → Option Bool
  | .none => some false
  | .bool b => some b
  | .int i => some (i != 0)
  | .str x => if x.length ≤ 16777216 then some ((x.length : Int) != 0) else none
  | .list xs => some (!xs.isEmpty)
  | .tuple xs => some (!xs.isEmpty)
  | .dict _ => none
theorem Reps.empty {K : Fg} {mg : Mg} {F : Hp} {vs : List V} {ps : List PD} (h : Reps K mg F vs ps) : vs.isEmpty = ps.isEmpty := by cases h <;> rfl
theorem truP_ok {K : Fg} {mg : Mg} {F H : Hp} {x : V} {p : PD} {b : Bool} (s : Sub F H) (r : RdR K mg F H x p) (e : truP p = some b) : TruV K x H b := by
  unfold truP at e
  split at e
  · cases e; obtain rfl := r.non_inv; exact rfl
  · cases e; obtain rfl := r.bl_inv; exact rfl
  · cases e; obtain rfl := r.int_inv; exact rfl
  · split at e
    · rename_i h
      cases e; obtain rfl := r.str_inv; exact ⟨szl h, rfl⟩
    · cases e
  · cases e
    obtain ⟨a, vs, rfl, h1, h2⟩ := r.lst_inv s
    exact .inl ⟨vs, .inl (.inl h1), by rw [h2.empty]⟩
  · cases e
    obtain ⟨a, vs, rfl, h1, h2⟩ := r.tup_inv s
    exact .inr (.inl ⟨vs, h1, by rw [h2.empty]⟩)
  · cases e
def tTru (ra : Rx) : Ts := fun ρ => (ra ρ).bind fun p => match truP p with
  | some b => .ok b
  | none => .stuck
def tBool (fa : Ex) : Ts := fun ρ => (fa ρ).bind fun r => match r.pd with
  | .bool b => .ok b
  | _ => .stuck
def plainTest : Expr → Bool
  | .BoolOp .. | .UnaryOp .. | .IfExp .. | .Compare .. | .NamedExpr .. => false
  | _ => true
theorem plain_isTrue {e : Expr} (h : plainTest e = true) (env : Env) (whole : Sem Value) : isTrue e env whole = (do let v ← whole; standAt e.pos; holding [v] (truthy v)) := by
  cases e <;> first
    | rfl
    | exact absurd (show false = true from h) Bool.false_ne_true
section
variable {X : Cx} {W : WX} {a b c : Expr} {fa fb : Ex} {ra rb rc : Rx} {ta tb : Ts} {g g' : Op2} {pos : Pos} {rest : List Expr}
theorem t_truth (ha : ROk X W a ra) (he : plainTest a = true) : TOk X W a (tTru ra) := fun G => impT (pt_truth (ha G) (plain_isTrue he X.env)) fun σ H Q h => by
  obtain ⟨F, ρ, S, h⟩ := h
  refine useRT (g := fun p => match truP p with | some b => .ok b | none => .stuck) S h fun F1 H1 v p s1 S1 r1 h1 => ?_
  cases e : truP p with
  | none =>
    simp only [e] at h1
    exact h1.elim
  | some b =>
    simp only [e] at h1
    exact ⟨b, truP_ok S1.sub (r1.at_ S1) e, h1 F1 H1 Same.rfl' S1⟩
theorem bool_test {K : Fg} {mg : Mg} {G : Hp} {fa : Ex} {σ : Sts} {H : Hp} {Q : Bool → Hp → Prop} (h : tT K mg G W (tBool fa) σ H Q) : tE K mg G W fa σ H (fun x H' => ∃ k, x = .bl k ∧ Q k H') := by
  obtain ⟨F, ρ, S, h⟩ := h
  refine use1T (g := fun p => match p with | .bool b => .ok b | _ => .stuck) S h fun F1 H1 v p s1 S1 r1 h1 => ?_
  split at h1
  · obtain rfl := r1.bl_inv
    exact ⟨_, rfl, h1 F1 H1 Same.rfl' S1⟩
  · exact h1.elim
theorem t_cmpR {op : CmpOp} (ho : TellsR X W (compareOp op) g) (hq : Quiet2 g) (ha : ROk X W a ra) (hb : ROk X W b rb) (hm : behindInMarks op b = false) : TOk X W (.Compare a [op] [b] pos) (tBool (eBinR g ra rb)) := fun G =>
  impT (pt_cmpR (ho G) (ha G) (hb G) hm) fun σ H Q h => binR_tells hq (bool_test h)
theorem t_bool {e : Expr} {fa : Ex} (h : EOk X W e fa) (he : plainTest e = true) : TOk X W e (tBool fa) := fun G => impT (pt_val (h G) (plain_isTrue he X.env)) fun σ H Q h => bool_test h
/-- a op b op' c -/
def eChain (g g' : Op2) (ra rb rc : Rx) : Ex := fun ρ => (ra ρ).bind fun p => (rb ρ).bind fun q => (g p q).bind fun r => match r.pd with
  | .bool true => (rc ρ).bind fun z => g' q z
  | .bool false => .ok (.sh (.bool false))
  | _ => .stuck
theorem chain_tells (hq : Quiet2 g) (hq' : Quiet2 g') {G : Hp} {σ : Sts} {H : Hp} {Q : VK} (h : tE X.K X.mg G W (eChain g g' ra rb rc) σ H Q) :
    tChain (rBR X.K X.mg G W g) (rBR X.K X.mg G W g') (tR X.K X.mg G W ra) (tR X.K X.mg G W rb) (tR X.K X.mg G W rc) σ H Q := by
  obtain ⟨F, ρ, S, h⟩ := h
  refine useR (g := fun p => (rb ρ).bind fun q => (g p q).bind fun r => match r.pd with
  | .bool true => (rc ρ).bind fun z => g' q z
  | .bool false => .ok (.sh (.bool false))
  | _ => .stuck) S h fun F1 H1 x p s1 S1 r1 h1 => ?_
  refine useR (g := fun q => (g p q).bind fun r => match r.pd with
  | .bool true => (rc ρ).bind fun z => g' q z
  | .bool false => .ok (.sh (.bool false))
  | _ => .stuck) S1 h1 fun F2 H2 y q s2 S2 r2 h2 => ?_
  cases e : g p q with
  | exc c d => exact absurd e (hq p q c d)
  | stuck =>
    rw [e] at h2
    exact h2.elim
  | ok r =>
    rw [e] at h2
    refine ⟨F2, σ, ρ, p, q, r, S2, (r1.mono s2).at_ S2, r2.at_ S2, e, ?_⟩
    intro F3 H3 z s3 S3 r3
    have h2 : PostE X.K X.mg G W σ ρ F2 Q (match r.pd with
      | .bool true => (rc ρ).bind fun z => g' q z
      | .bool false => .ok (.sh (.bool false))
      | _ => .stuck) := h2
    have key : ∀ k, r.pd = .bool k → z = .bl k := fun k er => by
      cases r with
      | sh p =>
        have er : p = .bool k := er
        subst er
        exact Rep.bl_inv r3
      | ow p =>
        have er : p = .bool k := er
        subst er
        obtain ⟨_, _, _, _, o, _⟩ := r3
        cases o
    split at h2
    · rename_i er
      refine ⟨true, key _ er, ?_⟩
      rw [if_pos rfl]
      refine useR (g := fun z => g' q z) S3 (PostE.mono h2 s3) fun F4 H4 w' z s4 S4 r4 h4 => ?_
      cases e' : g' q z with
      | exc c d => exact absurd e' (hq' q z c d)
      | stuck =>
        rw [e'] at h4
        exact h4.elim
      | ok r' =>
        rw [e'] at h4
        exact ⟨F4, σ, ρ, q, z, r', S4, (r2.mono fun a o e => s4 a o (s3 a o e)).at_ S4, r4.at_ S4, e', h4⟩
    · rename_i er
      refine ⟨false, key _ er, ?_⟩
      rw [if_neg Bool.false_ne_true]
      exact PostE.val (PostE.mono h2 s3) S3 (.bl false)
    · exact h2.elim
theorem e_chain {op op' : CmpOp} (ho : TellsR X W (compareOp op) g) (hq : Quiet2 g) (ho' : TellsR X W (compareOp op') g') (hq' : Quiet2 g') (ha : ROk X W a ra) (hb : ROk X W b rb) (hc : ROk X W c rc) (hm : lastMarks [op, op'] [b, c] = false) :
    EOk X W (.Compare a [op, op'] [b, c] pos) (eChain g g' ra rb rc) := fun G => impE (pe_chain (ho G) (ho' G) (ha G) (hb G) (hc G) hm) fun σ H Q h => chain_tells hq hq' h
theorem t_chain {op op' : CmpOp} (ho : TellsR X W (compareOp op) g) (hq : Quiet2 g) (ho' : TellsR X W (compareOp op') g') (hq' : Quiet2 g') (ha : ROk X W a ra) (hb : ROk X W b rb) (hc : ROk X W c rc) (hm : lastMarks [op, op'] [b, c] = false) :
    TOk X W (.Compare a [op, op'] [b, c] pos) (tBool (eChain g g' ra rb rc)) := fun G => impT (pt_chain (ho G) (ho' G) (ha G) (hb G) (hc G) hm) fun σ H Q h => chain_tells hq hq' (bool_test h)

/-! ### not, and, or as tests -/
def tNotF (t : Ts) : Ts := fun ρ => (t ρ).bind fun b => .ok (!b)
def tAndF (t u : Ts) : Ts := fun ρ => (t ρ).bind fun b => if b = true then u ρ else .ok false
def tOrF (t u : Ts) : Ts := fun ρ => (t ρ).bind fun b => if b = true then .ok true else u ρ
theorem t_not (ha : TOk X W a ta) : TOk X W (.UnaryOp .Not a pos) (tNotF ta) := fun G => impT (pt_not (ha G)) fun σ H Q h => by
  obtain ⟨F, ρ, S, h⟩ := h
  exact useTT (g := fun b => .ok (!b)) S h fun F1 H1 b s1 S1 h1 => h1 F1 H1 Same.rfl' S1
def WOk (X : Cx) (W : WX) (e : Expr) (f : Ts) : Prop := ∀ G, PW X e (tT X.K X.mg G W f)
theorem impW {X : Cx} {e : Expr} {t t' : TT} (h : PW X e t) (i : ∀ σ H Q, t' σ H Q → t σ H Q) : PW X e t' := ⟨fun wh pins s σ H Q I q => h.run wh pins s σ H Q I (i σ H Q q)⟩
theorem t_of_w (h : WOk X W a ta) : TOk X W a ta := fun G => PW.pt (h G)
theorem w_and1 (ha : TOk X W a ta) : WOk X W (.BoolOp .And [a] pos) ta := fun G => pw_and1 (ha G)
theorem w_or1 (ha : TOk X W a ta) : WOk X W (.BoolOp .Or [a] pos) ta := fun G => pw_or1 (ha G)
theorem w_and (ha : TOk X W a ta) (hb : WOk X W (.BoolOp .And (b :: rest) pos) tb) : WOk X W (.BoolOp .And (a :: b :: rest) pos) (tAndF ta tb) := fun G => impW (pw_and (ha G) (hb G)) fun σ H Q h => by
  obtain ⟨F, ρ, S, h⟩ := h
  refine useTT (g := fun b => if b = true then tb ρ else .ok false) S h fun F1 H1 b s1 S1 h1 => ?_
  cases b with
  | true => exact ⟨F1, ρ, S1, h1⟩
  | false => exact h1 F1 H1 Same.rfl' S1
theorem w_or (ha : TOk X W a ta) (hb : WOk X W (.BoolOp .Or (b :: rest) pos) tb) : WOk X W (.BoolOp .Or (a :: b :: rest) pos) (tOrF ta tb) := fun G => impW (pw_or (ha G) (hb G)) fun σ H Q h => by
  obtain ⟨F, ρ, S, h⟩ := h
  refine useTT (g := fun b => if b = true then .ok true else tb ρ) S h fun F1 H1 b s1 S1 h1 => ?_
  cases b with
  | false => exact ⟨F1, ρ, S1, h1⟩
  | true => exact h1 F1 H1 Same.rfl' S1

/-! ### .. as values -/
def eNot (ra : Rx) : Ex := fun ρ => (ra ρ).bind fun p => match truP p with
  | some b => .ok (.sh (.bool (!b)))
  | none => .stuck
def eAnd (fa fb : Ex) : Ex := fun ρ => (fa ρ).bind fun r => match truP r.pd with
  | some true => fb ρ
  | some false => .ok (.sh r.pd)
  | none => .stuck
def eOr (fa fb : Ex) : Ex := fun ρ => (fa ρ).bind fun r => match truP r.pd with
  | some true => .ok (.sh r.pd)
  | some false => fb ρ
  | none => .stuck
def eIf (t : Ts) (fa fb : Ex) : Ex := fun ρ => (t ρ).bind fun b => if b = true then fa ρ else fb ρ
theorem e_not (ha : ROk X W a ra) : EOk X W (.UnaryOp .Not a pos) (eNot ra) := fun G => impE (pe_notT (ha G)) fun σ H Q h => by
  obtain ⟨F, ρ, S, h⟩ := h
  refine useR (g := fun p => match truP p with | some b => .ok (.sh (.bool (!b))) | none => .stuck) S h fun F1 H1 v p s1 S1 r1 h1 => ?_
  cases e : truP p with
  | none =>
    simp only [e] at h1
    exact h1.elim
  | some b =>
    simp only [e] at h1
    exact ⟨b, truP_ok S1.sub (r1.at_ S1) e, PostE.val h1 S1 (.bl _)⟩
theorem e_one {op : BoolOp} (ha : EOk X W a fa) : EOk X W (.BoolOp op [a] pos) fa := fun G => pe_one (ha G)
theorem e_and (ha : EOk X W a fa) (hb : EOk X W (.BoolOp .And (b :: rest) pos) fb) : EOk X W (.BoolOp .And (a :: b :: rest) pos) (eAnd fa fb) := fun G => impE (pe_andT (ha G) (hb G)) fun σ H Q h => by
  obtain ⟨F, ρ, S, h⟩ := h
  refine use1 (g := fun p => match truP p with | some true => fb ρ | some false => .ok (.sh p) | none => .stuck) S h fun F1 H1 v p s1 S1 r1 h1 => ?_
  cases e : truP p with
  | none =>
    simp only [e] at h1
    exact h1.elim
  | some b =>
    simp only [e] at h1
    refine ⟨b, truP_ok S1.sub (.inl r1) e, ?_⟩
    cases b with
    | true => exact ⟨F1, ρ, S1, h1⟩
    | false => exact PostE.val h1 S1 r1
theorem e_or (ha : EOk X W a fa) (hb : EOk X W (.BoolOp .Or (b :: rest) pos) fb) : EOk X W (.BoolOp .Or (a :: b :: rest) pos) (eOr fa fb) := fun G => impE (pe_orT (ha G) (hb G)) fun σ H Q h => by
  obtain ⟨F, ρ, S, h⟩ := h
  refine use1 (g := fun p => match truP p with | some true => .ok (.sh p) | some false => fb ρ | none => .stuck) S h fun F1 H1 v p s1 S1 r1 h1 => ?_
  cases e : truP p with
  | none =>
    simp only [e] at h1
    exact h1.elim
  | some b =>
    simp only [e] at h1
    refine ⟨b, truP_ok S1.sub (.inl r1) e, ?_⟩
    cases b with
    | false => exact ⟨F1, ρ, S1, h1⟩
    | true => exact PostE.val h1 S1 r1
theorem e_ifExp (hc : TOk X W c ta) (ha : EOk X W a fa) (hb : EOk X W b fb) : EOk X W (.IfExp c a b pos) (eIf ta fa fb) := fun G => impE (pe_ifExp (hc G) (ha G) (hb G)) fun σ H Q h => by
  obtain ⟨F, ρ, S, h⟩ := h
  refine useT (g := fun b => if b = true then fa ρ else fb ρ) S h fun F1 H1 b s1 S1 h1 => ?_
  cases b with
  | true => exact ⟨F1, ρ, S1, h1⟩
  | false => exact ⟨F1, ρ, S1, h1⟩
def negP : PD → Res Rt
  | .int i => .ok (.sh (.int (-i)))
  | _ => .stuck
def eNeg (ra : Rx) : Ex := fun ρ => (ra ρ).bind negP
theorem e_neg (ha : ROk X W a ra) : EOk X W (.UnaryOp .USub a pos) (eNeg ra) := fun G => impE (pe_un un_neg (ha G)) fun σ H Q h => by
  obtain ⟨F, ρ, S, h⟩ := h
  refine useR (g := negP) S h fun F1 H1 v p s1 S1 r1 h1 => ?_
  unfold negP at h1
  split at h1
  · obtain rfl := (r1.at_ S1).int_inv
    exact ⟨_, rfl, PostE.val h1 S1 (.int _)⟩
  · exact h1.elim
end

/-! ### arguments -/
def aNil : As := fun _ => .ok []
def aCons (fa : Ex) (ta : As) : As := fun ρ => (fa ρ).bind fun r => (ta ρ).bind fun ps => .ok (r.pd :: ps)
def seqP : PD → Option (List PD)
  | .list xs => some xs
  | .tuple xs => some xs
  | _ => none
def aStar (ra : Rx) (ta : As) : As := fun ρ => (ra ρ).bind fun p => match seqP p with
  | some xs => (ta ρ).bind fun ps => .ok (xs ++ ps)
  | none => .stuck
def sNil : Rs := fun _ => .ok []
def sCons (ra : Rx) (ta : Rs) : Rs := fun ρ => (ra ρ).bind fun r => (ta ρ).bind fun ps => .ok (r :: ps)
section
variable {X : Cx} {W : WX} {e : Expr} {es : List Expr} {fa : Ex} {ra : Rx} {ta : As} {rs : Rs} {pos : Pos}
theorem a_nil : AOk X W [] aNil := fun G => impA pa_nil fun σ H Q h => by
  obtain ⟨F, ρ, S, h⟩ := h
  exact h F H [] Same.rfl' S .nil
theorem a_cons (ha : EOk X W e fa) (hr : AOk X W es ta) (hs : notStar e = true) : AOk X W (e :: es) (aCons fa ta) := fun G => impA (pa_cons (ha G) (hr G) (star_cons hs es X.env)) fun σ H Q h => by
  obtain ⟨F, ρ, S, h⟩ := h
  refine use1A (g := fun p => (ta ρ).bind fun ps => .ok (p :: ps)) S h fun F1 H1 v p s1 S1 r1 h1 => ?_
  refine useAA (g := fun ps => .ok (p :: ps)) S1 h1 fun F2 H2 vs ps s2 S2 r2 h2 => ?_
  exact h2 F2 H2 _ Same.rfl' S2 (.cons (r1.mono s2) r2)
theorem s_nil : RsOk X W [] sNil := fun G => impA pa_nil fun σ H Q h => by
  obtain ⟨F, ρ, S, h⟩ := h
  exact h F H [] Same.rfl' S .nil
theorem PostRs.mono {K : Fg} {mg : Mg} {G F F' : Hp} {W : WX} {σ : Sts} {ρ : Ev} {Q : List V → Hp → Prop} {r : Res (List PD)} (h : PostRs K mg G W σ ρ F Q r) (s : Same F F') : PostRs K mg G W σ ρ F' Q r := by
  cases r with
  | ok r => exact fun F2 H' v s2 => h F2 H' v (fun a o e => s2 a o (s a o e))
  | exc c p => exact PostX.mono h s
  | stuck => exact h
theorem s_cons (ha : ROk X W e ra) (hr : RsOk X W es rs) (hs : notStar e = true) : RsOk X W (e :: es) (sCons ra rs) := fun G => impA (pa_cons (ha G) (hr G) (star_cons hs es X.env)) fun σ H Q h => by
  obtain ⟨F, ρ, S, h⟩ := h
  refine ⟨F, ρ, S, ?_⟩
  unfold sCons at h
  cases e1 : ra ρ with
  | exc c p =>
    rw [e1] at h
    exact h
  | stuck =>
    rw [e1] at h
    exact h
  | ok p =>
    rw [e1] at h
    intro F1 H1 v s1 S1 r1
    have h : PostRs X.K X.mg G W σ ρ F Q ((rs ρ).bind fun ps => .ok (p :: ps)) := h
    refine ⟨F1, ρ, S1, ?_⟩
    cases e2 : rs ρ with
    | exc c p =>
      rw [e2] at h
      exact PostX.mono h s1
    | stuck =>
      rw [e2] at h
      exact h
    | ok ps =>
      rw [e2] at h
      intro F2 H2 vs s2 S2 r2
      have h : PostRs X.K X.mg G W σ ρ F Q (.ok (p :: ps)) := h
      exact h F2 H2 _ (fun a o e => s2 a o (s1 a o e)) S2 (.cons (r1.mono s2) r2)
/-- *e, a list or a tuple -/
theorem seqP_ok {K : Fg} {mg : Mg} {F H : Hp} {x : V} {p : PD} {xs : List PD} (s : Sub F H) (r : RdR K mg F H x p) (e : seqP p = some xs) : ∃ a vs, x = .ref a ∧ (SqT K H a vs ∨ SqL K H a vs) ∧ Reps K mg F vs xs := by
  unfold seqP at e
  split at e
  · cases e
    obtain ⟨a, vs, rfl, h1, h2⟩ := r.lst_inv s
    exact ⟨a, vs, rfl, .inr (.inl (.inl h1)), h2⟩
  · cases e
    obtain ⟨a, vs, rfl, h1, h2⟩ := r.tup_inv s
    exact ⟨a, vs, rfl, .inl h1, h2⟩
  · cases e
theorem a_star {p : Pos} (ha : ROk X W e ra) (hr : AOk X W es ta) : AOk X W (.Starred e p :: es) (aStar ra ta) := fun G => impA (StX.pa_star (ha G) (hr G) rfl) fun σ H Q h => by
  obtain ⟨F, ρ, S, h⟩ := h
  refine ⟨F, ρ, S, ?_⟩
  unfold aStar at h
  cases e1 : ra ρ with
  | exc c p =>
    rw [e1] at h
    exact h
  | stuck =>
    rw [e1] at h
    exact h
  | ok p =>
    rw [e1] at h
    intro F1 H1 v s1 S1 r1
    have h : PostA X.K X.mg G W σ ρ F Q (match seqP p with
      | some xs => (ta ρ).bind fun ps => .ok (xs ++ ps)
      | none => .stuck) := h
    cases e3 : seqP p with
    | none =>
      simp only [e3] at h
      exact h.elim
    | some xs =>
      simp only [e3] at h
      obtain ⟨a, vs, rfl, h1, h2⟩ := seqP_ok S1.sub (r1.at_ S1) e3
      refine ⟨a, vs, rfl, h1, ?_⟩
      refine useAA (g := fun ps => .ok (xs ++ ps)) S1 (PostA.mono h s1) fun F2 H2 ws ps s2 S2 r2 h3 => ?_
      exact h3 F2 H2 _ Same.rfl' S2 ((h2.mono s2).append r2)

/-! ### displays -/
def eTup (ta : As) : Ex := fun ρ => (ta ρ).bind fun ps => if ps.length ≤ 16777216 then .ok (.sh (.tuple ps)) else .stuck
def eLst (ta : As) : Ex := fun ρ => (ta ρ).bind fun ps => if ps.length ≤ 16777216 then .ok (.ow (.list ps)) else .stuck
theorem e_tup {k : Nat} (h : AOk X W es ta) : EOk X W (.Tuple es k pos) (eTup ta) := fun G => impE (pe_tup (h G)) fun σ H Q h => by
  obtain ⟨F, ρ, S, h⟩ := h
  refine useA (g := fun ps => if ps.length ≤ 16777216 then .ok (.sh (.tuple ps)) else .stuck) S h fun F1 H1 vs ps s1 S1 r1 h1 => ?_
  split at h1
  · rename_i hl
    rw [← r1.len] at hl
    exact ⟨szl hl, fun p hp => PostE.froz h1 S1 hp (.tup (.inl (.inl upd_same)) (Reps.mono (Same.new (S1.fresh hp).1) r1))⟩
  · exact h1.elim
theorem e_lst (h : AOk X W es ta) : EOk X W (.List es pos) (eLst ta) := fun G => impE (pe_lst (h G)) fun σ H Q h => by
  obtain ⟨F, ρ, S, h⟩ := h
  refine useA (g := fun ps => if ps.length ≤ 16777216 then .ok (.ow (.list ps)) else .stuck) S h fun F1 H1 vs ps s1 S1 r1 h1 => ?_
  split at h1
  · rename_i hl
    rw [← r1.len] at hl
    exact ⟨szl hl, fun p hp => PostE.new h1 S1 hp (.lst upd_same r1)⟩
  · exact h1.elim
end

/-! ### subscripts -/
def notSlice : Expr → Bool
  | .Slice .. => false
  | _ => true
theorem plainIx {e : Expr} (h : notSlice e = true) (o i : Value) : subscripted e false o i = operate [o, i] (getItem o i) := by
  cases e <;> first
    | rfl
    | exact absurd (show false = true from h) Bool.false_ne_true
def ixP : Op2
  | .list xs, .int i => match atI xs i with
    | some p => .ok (.sh p)
    | none => .stuck
  | .tuple xs, .int i => match atI xs i with
    | some p => .ok (.sh p)
    | none => .stuck
  | .str x, .int i => if x.length ≤ 16777216 then (match atI x.cps.toList i with
    | some c => .ok (.sh (.str ⟨#[c]⟩))
    | none => .stuck) else .stuck
  | .dict [(.none, .list xs)], .int i => match atI xs i with
    | some (.int n) => .ok (.sh (.int n))
    | _ => .stuck
  | _, _ => .stuck
theorem q_ix : Quiet2 ixP := fun p q c d e => by
  unfold ixP at e
  repeat' split at e
  all_goals cases e
theorem Reps.atI {K : Fg} {mg : Mg} {F : Hp} {vs : List V} {ps : List PD} {i : Int} {p : PD} (h : Reps K mg F vs ps) (e : L2.atI ps i = some p) : ∃ v, L2.atI vs i = some v ∧ Rep K mg F v p := by
  unfold L2.atI at e ⊢
  rw [← h.len] at e
  cases e1 : ixN vs.length i with
  | none =>
    rw [e1] at e
    cases e
  | some j =>
    rw [e1] at e
    exact h.get e
theorem atI_map_int {ns : List Int} {i n : Int} (e : L2.atI (ns.map PyData.int) i = some (.int n)) : L2.atI (ns.map V.int) i = some (.int n) := by
  unfold L2.atI at e ⊢
  rw [List.length_map] at e ⊢
  cases e1 : ixN ns.length i with
  | none =>
    rw [e1] at e
    cases e
  | some j =>
    rw [e1] at e
    have e : (ns.map PyData.int)[j]? = some (.int n) := e
    show (ns.map V.int)[j]? = some (.int n)
    rw [List.getElem?_map] at e ⊢
    cases e2 : ns[j]? with
    | none =>
      rw [e2] at e
      cases e
    | some m =>
      rw [e2] at e
      have e : some (PyData.int m) = some (.int n) := e
      cases e
      rfl
section
variable {X : Cx} {W : WX} {a b : Expr} {ra rb : Rx} {pos : Pos}
theorem ix_tells : ∀ G, IxR X (rBR X.K X.mg G W ixP) := by
  intro G value slice pins s σ H x y v u Q I rx ry h hs
  obtain ⟨F, σ', ρ, p, q, r, S, r1, r2, e, k⟩ := h
  unfold ixP at e
  split at e
  · split at e
    · rename_i e1
      cases e
      obtain ⟨a, vs, rfl, h1, h2⟩ := r1.lst_inv S.sub
      obtain rfl := r2.int_inv
      obtain ⟨w, e2, r3⟩ := h2.atI e1
      exact ix_list value slice pins s σ H _ _ v u Q I rx ry ⟨a, vs, _, w, rfl, rfl, .inl (.inl h1), e2, PostE.val k S r3⟩ hs
    · cases e
  · split at e
    · rename_i e1
      cases e
      obtain ⟨a, vs, rfl, h1, h2⟩ := r1.tup_inv S.sub
      obtain rfl := r2.int_inv
      obtain ⟨w, e2, r3⟩ := h2.atI e1
      exact ix_tup value slice pins s σ H _ _ v u Q I rx ry ⟨a, vs, _, w, rfl, rfl, h1, e2, PostE.val k S r3⟩ hs
    · cases e
  · split at e
    · rename_i hl
      split at e
      · rename_i e1
        cases e
        obtain rfl := r1.str_inv
        obtain rfl := r2.int_inv
        exact ix_str value slice pins s σ H _ _ v u Q I rx ry ⟨_, _, _, rfl, rfl, szl hl, e1, PostE.val k S (.str _)⟩ hs
      · cases e
    · cases e
  · split at e
    · rename_i e1
      cases e
      obtain ⟨a, ns, rfl, h1, h2⟩ := r1.scr_inv S.sub
      obtain rfl := r2.int_inv
      subst h2
      exact ix_list value slice pins s σ H _ _ v u Q I rx ry ⟨a, _, _, _, rfl, rfl, h1, atI_map_int e1, PostE.val k S (.int _)⟩ hs
    · cases e
  · cases e
theorem e_ix (ha : ROk X W a ra) (hb : ROk X W b rb) (hs : notSlice b = true) : EOk X W (.Subscript a b pos) (eBinR ixP ra rb) := fun G =>
  impE (pe_ix (ix_tells G) (ha G) (hb G) (plainIx hs)) fun σ H Q h => binR_tells q_ix h
end

/-! ### slices -/
def OOk (X : Cx) (W : WX) (e : Option Expr) (f : Ev → Res (Option Int)) : Prop := ∀ G, PO X e (fun σ H Q => ∃ F ρ, Sim X.K X.mg G F H σ ρ ∧ match f ρ with
  | .ok o => ∀ F' H', Same F F' → Sim X.K X.mg G F' H' σ ρ → Q o H'
  | .exc c p => PostX X.K X.mg G W σ ρ F c p
  | .stuck => False)
def oNone : Ev → Res (Option Int) := fun _ => .ok none
def oSome (ra : Rx) : Ev → Res (Option Int) := fun ρ => (ra ρ).bind fun p => match p with
  | .int i => .ok (some i)
  | _ => .stuck
def cutP {α : Type} (xs : List α) (lo hi : Option Int) : List α := (xs.drop (HT.sIx xs.length 0 lo)).take (HT.sIx xs.length xs.length hi - HT.sIx xs.length 0 lo)
def sliceP (p : PD) (lo hi : Option Int) : Res Rt := match p with
  | .list xs => .ok (.ow (.list (cutP xs lo hi)))
  | .tuple xs => .ok (.sh (.tuple (cutP xs lo hi)))
  | _ => .stuck
def eSlice (ra : Rx) (ol oh : Ev → Res (Option Int)) : Ex := fun ρ => (ra ρ).bind fun p => (ol ρ).bind fun lo => (oh ρ).bind fun hi => sliceP p lo hi
theorem Reps.cut {K : Fg} {mg : Mg} {F : Hp} {vs : List V} {ps : List PD} (h : Reps K mg F vs ps) (lo hi : Option Int) : Reps K mg F (cutV vs lo hi) (cutP ps lo hi) := by
  unfold cutV cutP
  rw [h.len]
  exact (h.drop _).take _
theorem cutP_whole {α : Type} {xs : List α} {lo hi : Option Int} (h : HT.sIx xs.length 0 lo = 0 ∧ HT.sIx xs.length xs.length hi = xs.length) : cutP xs lo hi = xs := by
  unfold cutP
  rw [h.1, h.2]
  simp
section
variable {X : Cx} {W : WX} {a : Expr} {lo hi : Option Expr} {ra : Rx} {ol oh : Ev → Res (Option Int)} {p2 pos : Pos}
theorem impPO {X : Cx} {e : Option Expr} {t t' : TO} (h : PO X e t) (i : ∀ σ H Q, t' σ H Q → t σ H Q) : PO X e t' := ⟨fun pins s σ H Q I q => h.run pins s σ H Q I (i σ H Q q)⟩
theorem o_none : OOk X W none oNone := fun G => impPO po_none fun σ H Q h => by
  obtain ⟨F, ρ, S, h⟩ := h
  exact h F H Same.rfl' S
theorem o_some (ha : ROk X W a ra) : OOk X W (some a) (oSome ra) := fun G => impPO (po_some (ha G)) fun σ H Q h => by
  obtain ⟨F, ρ, S, h⟩ := h
  refine ⟨F, ρ, S, ?_⟩
  unfold oSome at h
  cases e : ra ρ with
  | exc c p =>
    rw [e] at h
    exact h
  | stuck =>
    rw [e] at h
    exact h
  | ok p =>
    rw [e] at h
    intro F1 H1 v s1 S1 r1
    cases p with
    | int i =>
      obtain rfl := (r1.at_ S1).int_inv
      exact ⟨i, rfl, h F1 H1 s1 S1⟩
    | _ => exact (show False from h).elim
theorem e_slice (ha : ROk X W a ra) (hl : OOk X W lo ol) (hh : OOk X W hi oh) : EOk X W (.Subscript a (.Slice lo hi none p2) pos) (eSlice ra ol oh) := fun G =>
  impE (pe_slice (SlR.or sl_list sl_tupA) (ha G) (hl G) (hh G)) fun σ H Q h => by
    obtain ⟨F, ρ, S, h⟩ := h
    refine useR (g := fun p => (ol ρ).bind fun lo => (oh ρ).bind fun hi => sliceP p lo hi) S h fun F1 H1 v p s1 S1 r1 h1 => ?_
    refine ⟨F1, ρ, S1, ?_⟩
    cases e : ol ρ with
    | exc c p =>
      rw [e] at h1
      exact h1
    | stuck =>
      rw [e] at h1
      exact h1
    | ok lo =>
      rw [e] at h1
      intro F2 H2 s2 S2
      refine ⟨F2, ρ, S2, ?_⟩
      have h1 : PostE X.K X.mg G W σ ρ F1 Q ((oh ρ).bind fun hi => sliceP p lo hi) := h1
      have h1 := PostE.mono h1 s2
      cases e : oh ρ with
      | exc c p =>
        rw [e] at h1
        exact h1
      | stuck =>
        rw [e] at h1
        exact h1
      | ok hi =>
        rw [e] at h1
        intro F3 H3 s3 S3
        have h3 : PostE X.K X.mg G W σ ρ F3 Q (sliceP p lo hi) := PostE.mono h1 s3
        have r3 := (r1.mono fun a o e => s3 a o (s2 a o e)).at_ S3
        unfold sliceP at h3
        split at h3
        · obtain ⟨a, vs, rfl, q1, q2⟩ := r3.lst_inv S3.sub
          exact .inl ⟨a, vs, rfl, .inl (.inl q1), fun p hp => PostE.new h3 S3 hp (.lst upd_same (q2.cut lo hi))⟩
        · obtain ⟨a, vs, rfl, q1, q2⟩ := r3.tup_inv S3.sub
          refine .inr ⟨a, vs, rfl, q1, fun z => ?_, fun z p hp => PostE.froz h3 S3 hp (.tup (.inl (.inl upd_same)) (Reps.mono (Same.new (S3.fresh hp).1) (q2.cut lo hi)))⟩
          rw [q2.len] at z
          rw [cutP_whole z] at h3
          rcases r3 with r3 | ⟨_, _, o⟩
          · exact PostE.val h3 S3 r3
          · cases o
        · exact h3.elim
end
end FL
set_option Elab.async false
set_option linter.all false
set_option maxRecDepth 100000
set_option maxHeartbeats 1000000
/-! FL6: built-ins by name; dicts read; written dicts -/
namespace FL
open PySem PySem.Spec PyProof.Rows L2

inductive RdRs (K : Fg) (mg : Mg) (F H : Hp) : List V → List PD → Prop
  | nil : RdRs K mg F H [] []
  | cons {v : V} {vs : List V} {p : PD} {ps : List PD} : RdR K mg F H v p → RdRs K mg F H vs ps → RdRs K mg F H (v :: vs) (p :: ps)
section
variable {K : Fg} {mg : Mg} {G F F' H : Hp} {σ : Sts} {ρ : Ev}
theorem PRds.at_ {vs : List V} {ps : List PD} (h : PRds K mg σ ρ F vs ps) (S : Sim K mg G F H σ ρ) : RdRs K mg F H vs ps := by
  induction h with
  | nil => exact .nil
  | cons h _ ih => exact .cons (h.at_ S) ih
theorem RdRs.one {vs : List V} {p : PD} (h : RdRs K mg F H vs [p]) : ∃ v, vs = [v] ∧ RdR K mg F H v p := by
  cases h with
  | cons h r => cases r; exact ⟨_, rfl, h⟩
theorem RdRs.two {vs : List V} {p q : PD} (h : RdRs K mg F H vs [p, q]) : ∃ v w, vs = [v, w] ∧ RdR K mg F H v p ∧ RdR K mg F H w q := by
  cases h with
  | cons h r =>
    cases r with
    | cons h2 r => cases r; exact ⟨_, _, rfl, h, h2⟩
end
abbrev OpC := List PD → Res Rt
def rC (K : Fg) (mg : Mg) (G : Hp) (W : WX) (g : OpC) : List V → Hp → VK → Prop := fun xs H Q => ∃ F σ ρ ps r, Sim K mg G F H σ ρ ∧ RdRs K mg F H xs ps ∧ g ps = .ok r ∧ PostE K mg G W σ ρ F Q (.ok r)
def TellsC (X : Cx) (W : WX) (f : Value) (g : OpC) : Prop := ∀ G, CallR X f (rC X.K X.mg G W g)
def QuietC (g : OpC) : Prop := ∀ ps c d, g ps ≠ .exc c d
def eCall (g : OpC) (rs : Rs) : Ex := fun ρ => (rs ρ).bind g
def noStars : List Expr → Bool
  | [] => true
  | e :: es => notStar e && noStars es
theorem star_none {es : List Expr} (h : noStars es = true) (pos : Pos) (env : Env) : (backTo pos (starEach es env)).any (·.1) = false := by
  induction es with
  | nil => rfl
  | cons e es ih =>
    have h : (notStar e && noStars es) = true := h
    rw [Bool.and_eq_true] at h
    rw [star_cons h.1]
    show (false || (backTo pos (starEach es env)).any (·.1)) = false
    rw [ih h.2]
    rfl
section
variable {X : Cx} {W : WX} {x : Str} {p pos : Pos} {e : Expr} {es : List Expr} {rs : Rs} {id T : String} {g : OpC}
theorem call_tells (hq : QuietC g) {G : Hp} {σ : Sts} {H : Hp} {Q : VK} (h : tE X.K X.mg G W (eCall g rs) σ H Q) : tCB (rC X.K X.mg G W g) (tRs X.K X.mg G W rs) σ H Q := by
  obtain ⟨F, ρ, S, h⟩ := h
  refine useRs (g := g) S h fun F1 H1 vs ps s1 S1 r1 h1 => ?_
  cases e : g ps with
  | exc c d => exact absurd e (hq ps c d)
  | stuck =>
    rw [e] at h1
    exact h1.elim
  | ok r =>
    rw [e] at h1
    exact ⟨F1, σ, ρ, ps, r, S1, r1.at_ S1, e, h1⟩
theorem e_callB (hc : TellsC X W (.builtin id) g) (hq : QuietC g) (hg : Gl X x) (hm : X.mg x = none) (hv : bootBuiltins x = some (.builtin id)) (ha : RsOk X W (e :: es) rs) (hn : x ≠ "__name__") (hdb : (x == ("__debug__" : Str)) = false) (hs : noStars (e :: es) = true) :
    EOk X W (.Call (.Name x p) (e :: es) [] pos) (eCall g rs) := fun G => impE (pe_callB (hc G) hg hm hv (ha G) hn hdb (star_cons (Bool.and_eq_true_iff.mp hs).1 es X.env) (star_none (Bool.and_eq_true_iff.mp hs).2 pos X.env)) fun σ H Q h => call_tells hq h
theorem e_callT (hc : TellsC X W (.type T) g) (hq : QuietC g) (hg : Gl X x) (hm : X.mg x = none) (hv : bootBuiltins x = some (.type T)) (ha : RsOk X W (e :: es) rs) (hn : x ≠ "__name__") (hdb : (x == ("__debug__" : Str)) = false) (hs : noStars (e :: es) = true) :
    EOk X W (.Call (.Name x p) (e :: es) [] pos) (eCall g rs) := fun G => impE (pe_callTy (hc G) hg hm hv (ha G) hn hdb (star_cons (Bool.and_eq_true_iff.mp hs).1 es X.env) (star_none (Bool.and_eq_true_iff.mp hs).2 pos X.env)) fun σ H Q h => call_tells hq h
end

/-! ### the built-ins -/
def lenP : OpC
  | [.list xs] => .ok (.sh (.int xs.length))
  | [.tuple xs] => .ok (.sh (.int xs.length))
  | [.str x] => if x.length ≤ 16777216 then .ok (.sh (.int x.length)) else .stuck
  | [.dict [(.none, .list xs)]] => .ok (.sh (.int xs.length))
  | _ => .stuck
def absP : OpC
  | [.int i] => .ok (.sh (.int (if i < 0 then -i else i)))
  | _ => .stuck
def min2P : OpC
  | [.int i, .int j] => .ok (.sh (.int (if j < i then j else i)))
  | _ => .stuck
def max2P : OpC
  | [.int i, .int j] => .ok (.sh (.int (if j > i then j else i)))
  | _ => .stuck
def intP : OpC
  | [.int i] => .ok (.sh (.int i))
  | [.bool b] => .ok (.sh (.int (if b then 1 else 0)))
  | _ => .stuck
def blsP : List PD → Option (List Bool)
  | [] => some []
  | .bool b :: r => (blsP r).map (b :: ·)
  | _ => none
def intsP : List PD → Option (List Int)
  | [] => some []
  | .int b :: r => (intsP r).map (b :: ·)
  | _ => none
def allP : OpC
  | [.list xs] => match blsP xs with
    | some bs => .ok (.sh (.bool (bs.all id)))
    | none => .stuck
  | _ => .stuck
def anyP : OpC
  | [.list xs] => match blsP xs with
    | some bs => .ok (.sh (.bool (bs.any id)))
    | none => .stuck
  | _ => .stuck
def sumP : OpC
  | [.list xs] => match intsP xs with
    | some ns => .ok (.sh (.int ns.sum))
    | none => .stuck
  | _ => .stuck
def tupleP : OpC
  | [.list xs] => .ok (.sh (.tuple xs))
  | [.tuple xs] => .ok (.sh (.tuple xs))
  | _ => .stuck
def listP : OpC
  | [.list xs] => .ok (.ow (.list xs))
  | [.tuple xs] => .ok (.ow (.list xs))
  | _ => .stuck
theorem q_len : QuietC lenP := fun ps c d e => by
  unfold lenP at e
  repeat' split at e
  all_goals cases e
theorem q_abs : QuietC absP := fun ps c d e => by
  unfold absP at e
  repeat' split at e
  all_goals cases e
theorem q_min2 : QuietC min2P := fun ps c d e => by
  unfold min2P at e
  repeat' split at e
  all_goals cases e
theorem q_max2 : QuietC max2P := fun ps c d e => by
  unfold max2P at e
  repeat' split at e
  all_goals cases e
theorem q_int : QuietC intP := fun ps c d e => by
  unfold intP at e
  repeat' split at e
  all_goals cases e
theorem q_all : QuietC allP := fun ps c d e => by
  unfold allP at e
  repeat' split at e
  all_goals cases e
theorem q_any : QuietC anyP := fun ps c d e => by
  unfold anyP at e
  repeat' split at e
  all_goals cases e
theorem q_sum : QuietC sumP := fun ps c d e => by
  unfold sumP at e
  repeat' split at e
  all_goals cases e
theorem q_tuple : QuietC tupleP := fun ps c d e => by
  unfold tupleP at e
  repeat' split at e
  all_goals cases e
theorem q_list : QuietC listP := fun ps c d e => by
  unfold listP at e
  repeat' split at e
  all_goals cases e
theorem Reps.bls {K : Fg} {mg : Mg} {F : Hp} : ∀ {vs : List V} {ps : List PD} {bs : List Bool}, Reps K mg F vs ps → blsP ps = some bs → vs = bs.map V.bl
  | _, _, _, .nil, e => by cases e; rfl
  | v :: vs, p :: ps, bs, .cons h r, e => by
    cases p with
    | bool b =>
      have e : (blsP ps).map (b :: ·) = some bs := e
      cases e1 : blsP ps with
      | none =>
        rw [e1] at e
        cases e
      | some cs =>
        rw [e1] at e
        cases e
        obtain rfl := h.bl_inv
        rw [Reps.bls r e1]
        rfl
    | _ => cases e
theorem Reps.ints_inv {K : Fg} {mg : Mg} {F : Hp} : ∀ {vs : List V} {ps : List PD} {bs : List Int}, Reps K mg F vs ps → intsP ps = some bs → vs = bs.map V.int
  | _, _, _, .nil, e => by cases e; rfl
  | v :: vs, p :: ps, bs, .cons h r, e => by
    cases p with
    | int b =>
      have e : (intsP ps).map (b :: ·) = some bs := e
      cases e1 : intsP ps with
      | none =>
        rw [e1] at e
        cases e
      | some cs =>
        rw [e1] at e
        cases e
        obtain rfl := h.int_inv
        rw [Reps.ints_inv r e1]
        rfl
    | _ => cases e
section
variable {X : Cx} {W : WX}
theorem tells_len : TellsC X W (.builtin "len") lenP := by
  intro G pins s σ H xs us Q I r h
  obtain ⟨F, σ', ρ, ps, r', S, r1, e, k⟩ := h
  unfold lenP at e
  split at e
  · cases e
    obtain ⟨v, rfl, r2⟩ := r1.one
    obtain ⟨a, vs, rfl, h1, h2⟩ := r2.lst_inv S.sub
    rw [← h2.len] at k
    exact call_len_seq pins s σ H _ us Q I r ⟨a, vs, rfl, .inl (.inl (.inl h1)), PostE.val k S (.int _)⟩
  · cases e
    obtain ⟨v, rfl, r2⟩ := r1.one
    obtain ⟨a, vs, rfl, h1, h2⟩ := r2.tup_inv S.sub
    rw [← h2.len] at k
    exact call_len_seq pins s σ H _ us Q I r ⟨a, vs, rfl, .inr h1, PostE.val k S (.int _)⟩
  · split at e
    · rename_i hl
      cases e
      obtain ⟨v, rfl, r2⟩ := r1.one
      obtain rfl := r2.str_inv
      exact call_len_str pins s σ H _ us Q I r ⟨_, rfl, szl hl, PostE.val k S (.int _)⟩
    · cases e
  · cases e
    obtain ⟨v, rfl, r2⟩ := r1.one
    obtain ⟨a, ns, rfl, h1, rfl⟩ := r2.scr_inv S.sub
    refine call_len_seq pins s σ H _ us Q I r ⟨a, _, rfl, .inl h1, ?_⟩
    rw [List.length_map] at k ⊢
    exact PostE.val k S (.int _)
  · cases e
theorem tells_abs : TellsC X W (.builtin "abs") absP := by
  intro G pins s σ H xs us Q I r h
  obtain ⟨F, σ', ρ, ps, r', S, r1, e, k⟩ := h
  unfold absP at e
  split at e
  · cases e
    obtain ⟨v, rfl, r2⟩ := r1.one
    obtain rfl := r2.int_inv
    exact call_abs pins s σ H _ us Q I r ⟨_, rfl, PostE.val k S (.int _)⟩
  · cases e
theorem tells_min2 (hc : X.calm = true) : TellsC X W (.builtin "min") min2P := by
  intro G pins s σ H xs us Q I r h
  obtain ⟨F, σ', ρ, ps, r', S, r1, e, k⟩ := h
  unfold min2P at e
  split at e
  · cases e
    obtain ⟨v, w, rfl, r2, r3⟩ := r1.two
    obtain rfl := r2.int_inv
    obtain rfl := r3.int_inv
    exact call_min2 hc pins s σ H _ us Q I r ⟨_, _, rfl, PostE.val k S (.int _)⟩
  · cases e
theorem tells_max2 (hc : X.calm = true) : TellsC X W (.builtin "max") max2P := by
  intro G pins s σ H xs us Q I r h
  obtain ⟨F, σ', ρ, ps, r', S, r1, e, k⟩ := h
  unfold max2P at e
  split at e
  · cases e
    obtain ⟨v, w, rfl, r2, r3⟩ := r1.two
    obtain rfl := r2.int_inv
    obtain rfl := r3.int_inv
    exact call_max2 hc pins s σ H _ us Q I r ⟨_, _, rfl, PostE.val k S (.int _)⟩
  · cases e
theorem tells_int : TellsC X W (.type "int") intP := by
  intro G pins s σ H xs us Q I r h
  obtain ⟨F, σ', ρ, ps, r', S, r1, e, k⟩ := h
  unfold intP at e
  split at e
  · cases e
    obtain ⟨v, rfl, r2⟩ := r1.one
    obtain rfl := r2.int_inv
    exact call_int1 pins s σ H _ us Q I r (.inl ⟨_, rfl, PostE.val k S (.int _)⟩)
  · cases e
    obtain ⟨v, rfl, r2⟩ := r1.one
    obtain rfl := r2.bl_inv
    exact call_int1 pins s σ H _ us Q I r (.inr ⟨_, rfl, PostE.val k S (.int _)⟩)
  · cases e
theorem tells_all (hc : X.calm = true) : TellsC X W (.builtin "all") allP := by
  intro G pins s σ H xs us Q I r h
  obtain ⟨F, σ', ρ, ps, r', S, r1, e, k⟩ := h
  unfold allP at e
  split at e
  · split at e
    · rename_i eb
      cases e
      obtain ⟨v, rfl, r2⟩ := r1.one
      obtain ⟨a, vs, rfl, h1, h2⟩ := r2.lst_inv S.sub
      obtain rfl := h2.bls eb
      exact cr_all hc pins s σ H _ us Q I r ⟨a, _, rfl, .inl (.inl h1), PostE.val k S (.bl _)⟩
    · cases e
  · cases e
theorem tells_any (hc : X.calm = true) : TellsC X W (.builtin "any") anyP := by
  intro G pins s σ H xs us Q I r h
  obtain ⟨F, σ', ρ, ps, r', S, r1, e, k⟩ := h
  unfold anyP at e
  split at e
  · split at e
    · rename_i eb
      cases e
      obtain ⟨v, rfl, r2⟩ := r1.one
      obtain ⟨a, vs, rfl, h1, h2⟩ := r2.lst_inv S.sub
      obtain rfl := h2.bls eb
      exact cr_any hc pins s σ H _ us Q I r ⟨a, _, rfl, .inl (.inl h1), PostE.val k S (.bl _)⟩
    · cases e
  · cases e
theorem tells_sum (hc : X.calm = true) : TellsC X W (.builtin "sum") sumP := by
  intro G pins s σ H xs us Q I r h
  obtain ⟨F, σ', ρ, ps, r', S, r1, e, k⟩ := h
  unfold sumP at e
  split at e
  · split at e
    · rename_i eb
      cases e
      obtain ⟨v, rfl, r2⟩ := r1.one
      obtain ⟨a, vs, rfl, h1, h2⟩ := r2.lst_inv S.sub
      obtain rfl := h2.ints_inv eb
      exact cr_sum hc pins s σ H _ us Q I r ⟨a, _, rfl, .inl (.inl h1), PostE.val k S (.int _)⟩
    · cases e
  · cases e
theorem tells_tuple : TellsC X W (.type "tuple") tupleP := by
  intro G pins s σ H xs us Q I r h
  obtain ⟨F, σ', ρ, ps, r', S, r1, e, k⟩ := h
  unfold tupleP at e
  split at e
  · cases e
    obtain ⟨v, rfl, r2⟩ := r1.one
    obtain ⟨a, vs, rfl, h1, h2⟩ := r2.lst_inv S.sub
    exact call_tuple_of pins s σ H _ us Q I r ⟨a, vs, rfl, .inl ⟨.inl (.inl h1), fun p hp => PostE.froz k S hp (.tup (.inl (.inl upd_same)) (Reps.mono (Same.new (S.fresh hp).1) h2))⟩⟩
  · cases e
    obtain ⟨v, rfl, r2⟩ := r1.one
    obtain ⟨a, vs, rfl, h1, h2⟩ := r2.tup_inv S.sub
    rcases r2 with r2 | ⟨_, _, o⟩
    · exact call_tuple_of pins s σ H _ us Q I r ⟨a, vs, rfl, .inr ⟨h1, PostE.val k S r2⟩⟩
    · cases o
  · cases e
theorem tells_list : TellsC X W (.type "list") listP := by
  intro G pins s σ H xs us Q I r h
  obtain ⟨F, σ', ρ, ps, r', S, r1, e, k⟩ := h
  unfold listP at e
  split at e
  · cases e
    obtain ⟨v, rfl, r2⟩ := r1.one
    obtain ⟨a, vs, rfl, h1, h2⟩ := r2.lst_inv S.sub
    exact call_list_of pins s σ H _ us Q I r ⟨a, vs, rfl, .inl (.inl (.inl h1)), fun p hp => PostE.new k S hp (.lst upd_same h2)⟩
  · cases e
    obtain ⟨v, rfl, r2⟩ := r1.one
    obtain ⟨a, vs, rfl, h1, h2⟩ := r2.tup_inv S.sub
    exact call_list_of pins s σ H _ us Q I r ⟨a, vs, rfl, .inr h1, fun p hp => PostE.new k S hp (.lst upd_same h2)⟩
  · cases e
end

/-! ### dicts with keys that are ints and texts -/
def dlook : List (PD × PD) → PD → Option PD
  | [], _ => none
  | (k, v) :: r, q => if PyData.eqv k q then some v else dlook r q
def isKeyK : PD → Bool
  | .int _ => true
  | .str _ => true
  | _ => false
theorem kD_eqv (a b : Key) : PyData.eqv (kD a) (kD b) = decide (a = b) := by
  cases a <;> cases b <;> simp [kD, PyData.eqv]
  · exact Bool.beq_eq_decide_eq _ _
  · exact Bool.beq_eq_decide_eq _ _
theorem Rep.key {K : Fg} {mg : Mg} {F H : Hp} {v : V} {q : PD} (h : RdR K mg F H v q) (hk : isKeyK q = true) : ∃ k : Key, v = kV k ∧ q = kD k := by
  cases q with
  | int i => exact ⟨.inl i, h.int_inv, rfl⟩
  | str x => exact ⟨.inr x, h.str_inv, rfl⟩
  | _ => cases hk
theorem RepK.look {K : Fg} {mg : Mg} {F : Hp} : ∀ {kvs : List (Key × V)} {ps : List (PD × PD)} (k : Key), RepK K mg F kvs ps → (match dlook ps (kD k) with
    | some d => ∃ v, valV kvs k = some v ∧ Rep K mg F v d
    | none => valV kvs k = none)
  | _, _, k, .nil => rfl
  | _, _, k, .cons (k := j) (v := v) (r := r) (d := d) (ds := ds) h t => by
    unfold dlook
    rw [kD_eqv]
    by_cases e : j = k
    · rw [if_pos (decide_eq_true e)]
      exact ⟨v, valV_pos (p := (j, v)) e, h⟩
    · rw [if_neg (by simpa using e)]
      have ih := RepK.look k t
      rw [valV_neg (p := (j, v)) e]
      exact ih
theorem ix_dict {X : Cx} (hu : X.A.units + 1 < cLine) : IxR X (fun x y H Q => ∃ a v, x = .ref a ∧ DGet H a y (some v) ∧ Q v H) := by
  intro value slice pins s σ H x y v u Q I rx ry h hs
  obtain ⟨a, z, rfl, g, q⟩ := h
  cases rx
  unfold subscriptTail
  have hT := dict_typeIs I g
  refine wpAny_bind ?_
  rw [getitemInPython_of_ne hT.not_modules]
  refine wpAny_bind (wpAny_specialOf hT PySem.F.slot_dict_getitem.lookup ?_)
  have fin : wpAny (model X.prog X.w) X.A (subscripted slice false (.ref a) u) (fun r s₃ => wpAny (model X.prog X.w) X.A (letTemporaryGo value (.ref a) r >>= fun _ => pure r) (EP X pins σ Q) X.xe s₃) X.xe s := by
    rw [hs]
    exact wpAny_operating (wpAny_mono (d_getItem hu I g ry fun w' s3 I3 rw' => (show EP X pins σ Q w' s3 from ⟨z, H, I3, rw', q⟩)) (fun r s₃ h₃ => wpAny_bind (wpAny_letTemporaryGo (wpAny_pure h₃))) fun _ _ x => x)
  first
    | exact wpAny_pure (wpAny_bind fin)
    | exact wpAny_bind (wpAny_pure (wpAny_bind fin))
    | exact wpAny_bind fin
/-- a subscript of anything -/
def ixA : Op2 := fun p q => match p with
  | .dict ((.none, .int 0) :: ps) => if isKeyK q then (match dlook ps q with | some d => .ok (.sh d) | none => .stuck) else .stuck
  | p => ixP p q
theorem q_ixA : Quiet2 ixA := fun p q c d e => by
  unfold ixA at e
  split at e
  · split at e
    · split at e <;> cases e
    · cases e
  · exact q_ix _ _ _ _ e
section
variable {X : Cx} {W : WX} {a b : Expr} {ra rb : Rx} {pos : Pos}
theorem ixA_tells (hu : X.A.units + 1 < cLine) : ∀ G, IxR X (rBR X.K X.mg G W ixA) := by
  intro G value slice pins s σ H x y v u Q I rx ry h hs
  obtain ⟨F, σ', ρ, p, q, r, S, r1, r2, e, k⟩ := h
  unfold ixA at e
  split at e
  · split at e
    · rename_i hk
      split at e
      · rename_i ps d el
        cases e
        obtain ⟨a, kvs, rfl, h1, h2⟩ := r1.dK_inv S.sub
        obtain ⟨k', rfl, rfl⟩ := Rep.key r2 hk
        have hl := h2.look k'
        rw [el] at hl
        obtain ⟨v', e1, r3⟩ := hl
        exact ix_dict hu value slice pins s σ H _ _ v u Q I rx ry ⟨a, v', rfl, .inl ⟨kvs, k', h1, rfl, e1.symm⟩, PostE.val k S r3⟩ hs
      · cases e
    · cases e
  · exact ix_tells G value slice pins s σ H _ _ v u Q I rx ry ⟨F, σ', ρ, _, _, _, S, r1, r2, e, k⟩ hs
theorem e_ixA (hu : X.A.units + 1 < cLine) (ha : ROk X W a ra) (hb : ROk X W b rb) (hs : notSlice b = true) : EOk X W (.Subscript a b pos) (eBinR ixA ra rb) := fun G =>
  impE (pe_ix (ixA_tells hu G) (ha G) (hb G) (plainIx hs)) fun σ H Q h => binR_tells q_ixA h
end
end FL
set_option Elab.async false
set_option linter.all false
set_option maxRecDepth 100000
set_option maxHeartbeats 1000000
/-! FL7: targets, what is walked, list comprehensions -/
namespace FL
open PySem PySem.Spec PyProof.Rows L2

/-! ### targets -/
mutual
inductive Tg where
  | nm (i : Nat)
  | tp (ts : Tgs)
inductive Tgs where
  | nil
  | cons (t : Tg) (ts : Tgs)
end
mutual
def bindT : Tg → PD → Ev → Option Ev
  | .nm i, p, ρ => some (ρ.set i (some (.sh p)))
  | .tp ts, p, ρ => match seqP p with
    | some ps => bindTs ts ps ρ
    | none => none
def bindTs : Tgs → List PD → Ev → Option Ev
  | .nil, [], ρ => some ρ
  | .cons t ts, p :: ps, ρ => match bindT t p ρ with
    | some ρ' => bindTs ts ps ρ'
    | none => none
  | _, _, _ => none
end
mutual
def Tg.ix : Tg → List Nat
  | .nm i => [i]
  | .tp ts => ts.ix
def Tgs.ix : Tgs → List Nat
  | .nil => []
  | .cons t ts => t.ix ++ ts.ix
end
def Tgs.len : Tgs → Nat
  | .nil => 0
  | .cons _ ts => ts.len + 1
theorem bindTs_len : ∀ {ts : Tgs} {ps : List PD} {ρ ρ' : Ev}, bindTs ts ps ρ = some ρ' → ps.length = ts.len
  | .nil, [], _, _, _ => rfl
  | .nil, _ :: _, _, _, e => by simp [bindTs] at e
  | .cons _ _, [], _, _, e => by simp [bindTs] at e
  | .cons t ts, p :: ps, ρ, ρ', e => by
    unfold bindTs at e
    split at e
    · show ps.length + 1 = ts.len + 1
      rw [bindTs_len e]
    · cases e
/-- only the places at ix may differ -/
def Keep (ix : List Nat) (σ σ' : Sts) : Prop := σ'.length = σ.length ∧ ∀ i, i ∉ ix → σ'[i]? = σ[i]?
theorem Keep.refl (ix : List Nat) (σ : Sts) : Keep ix σ σ := ⟨rfl, fun _ _ => rfl⟩
theorem Keep.mono {ix jx : List Nat} {σ σ' : Sts} (h : Keep ix σ σ') (s : ∀ i, i ∈ ix → i ∈ jx) : Keep jx σ σ' := ⟨h.1, fun i hi => h.2 i fun z => hi (s i z)⟩
theorem Keep.trans {ix : List Nat} {σ σ1 σ2 : Sts} (h : Keep ix σ σ1) (k : Keep ix σ1 σ2) : Keep ix σ σ2 := ⟨k.1.trans h.1, fun i hi => (k.2 i hi).trans (h.2 i hi)⟩
theorem wipe_get {σ : Sts} {i : Nat} : ∀ {vs : List Nat}, i ∉ vs → (wipe σ vs)[i]? = σ[i]?
  | [], _ => rfl
  | v :: vs, h => by
    unfold wipe
    rw [List.getElem?_set_ne (fun z => h (by simp [z]))]
    exact wipe_get fun z => h (List.mem_cons_of_mem _ z)
theorem wipe_in {σ : Sts} {i : Nat} : ∀ {vs : List Nat}, i ∈ vs → i < σ.length → (wipe σ vs)[i]? = some none
  | v :: vs, h, hl => by
    unfold wipe
    by_cases z : v = i
    · subst z
      exact List.getElem?_set_self (by rw [wipe_length]; exact hl)
    · rw [List.getElem?_set_ne z]
      rcases List.mem_cons.mp h with e | h
      · exact absurd e.symm z
      · exact wipe_in h hl
theorem Keep.wipe {σ σ' : Sts} {vs : List Nat} (h : Keep vs σ σ') : L2.wipe σ' vs = L2.wipe σ vs := by
  apply List.ext_getElem?
  intro i
  by_cases hi : i ∈ vs
  · by_cases hl : i < σ.length
    · rw [wipe_in hi hl, wipe_in hi (by rw [h.1]; exact hl)]
    · have h1 := h.1
      rw [List.getElem?_eq_none (by rw [wipe_length]; omega), List.getElem?_eq_none (by rw [wipe_length]; omega)]
  · rw [wipe_get hi, wipe_get hi, h.2 i hi]
def tG (K : Fg) (mg : Mg) (tg : Tg) : TG := fun v σ H Q => ∃ G F ρ p, Sim K mg G F H σ ρ ∧ Rep K mg F v p ∧ match bindT tg p ρ with
  | some ρ' => ∀ σ', Sim K mg G F H σ' ρ' → Keep tg.ix σ σ' → Q σ' H
  | none => False
def tGs (K : Fg) (mg : Mg) (tg : Tgs) : TGs := fun vs σ H Q => ∃ G F ρ ps, Sim K mg G F H σ ρ ∧ Reps K mg F vs ps ∧ match bindTs tg ps ρ with
  | some ρ' => ∀ σ', Sim K mg G F H σ' ρ' → Keep tg.ix σ σ' → Q σ' H
  | none => False
def GOk (X : Cx) (e : Expr) (t : Tg) : Prop := PG X e (tG X.K X.mg t)
def GsOk (X : Cx) (es : List Expr) (t : Tgs) : Prop := PGs X es (tGs X.K X.mg t)
theorem PG.imp {X : Cx} {e : Expr} {t t' : TG} (h : PG X e t) (i : ∀ v σ H Q, t' v σ H Q → t v σ H Q) : PG X e t' := ⟨fun pins s σ H v u Q I r q => h.run pins s σ H v u Q I r (i v σ H Q q)⟩
theorem PGs.imp {X : Cx} {e : List Expr} {t t' : TGs} (h : PGs X e t) (i : ∀ v σ H Q, t' v σ H Q → t v σ H Q) : PGs X e t' := ⟨fun pins s σ H v u Q I r q => h.run pins s σ H v u Q I r (i v σ H Q q)⟩
theorem PG.or {X : Cx} {e : Expr} {t t' : TG} (h : PG X e t) (h' : PG X e t') : PG X e (fun v σ H Q => t v σ H Q ∨ t' v σ H Q) := ⟨fun pins s σ H v u Q I r q => q.elim (fun q => h.run pins s σ H v u Q I r q) (fun q => h'.run pins s σ H v u Q I r q)⟩
theorem keep_set {σ : Sts} {i : Nat} {x : Option V} : Keep [i] σ (σ.set i x) := ⟨by simp, fun j hj => List.getElem?_set_ne (fun z => hj (by simp [z]))⟩
section
variable {X : Cx} {e : Expr} {es : List Expr} {t : Tg} {ts : Tgs} {pos : Pos}
theorem g_name {i : Nat} {x : Str} (hN : X.N.Nodup) (hi : X.N[i]? = some x) (hx : Loc X.env.scope x) (hf : X.fn x = true ∨ X.env.scope.names.lookup x = some .local) : GOk X (.Name x pos) (.nm i) := PG.imp (pg_name hN hi hx hf) fun v σ H Q h => by
  obtain ⟨G, F, ρ, p, S, r, h⟩ := h
  exact h (σ.set i (some v)) (S.store (r := .sh p) i r) keep_set
theorem gs_nil : GsOk X [] .nil := PGs.imp pgs_nil fun vs σ H Q h => by
  obtain ⟨G, F, ρ, ps, S, r, h⟩ := h
  cases r with
  | nil => exact ⟨rfl, h σ S (Keep.refl _ _)⟩
  | cons _ _ => exact h.elim
theorem gs_cons (h1 : GOk X e t) (h2 : GsOk X es ts) (hs : (assignEach (e :: es) X.env).map (·.2) = assign e X.env :: (assignEach es X.env).map (·.2)) : GsOk X (e :: es) (.cons t ts) := PGs.imp (pgs_cons h1 h2 hs) fun vs σ H Q h => by
  obtain ⟨G, F, ρ, ps, S, r, h⟩ := h
  cases r with
  | nil => exact h.elim
  | @cons v vs p ps r rr =>
    have h : match (match bindT t p ρ with | some ρ' => bindTs ts ps ρ' | none => none) with
      | some ρ' => ∀ σ', Sim X.K X.mg G F H σ' ρ' → Keep (t.ix ++ ts.ix) σ σ' → Q σ' H
      | none => False := by
      have z := h
      unfold bindTs at z
      exact z
    refine ⟨v, vs, rfl, G, F, ρ, p, S, r, ?_⟩
    cases e1 : bindT t p ρ with
    | none =>
      rw [e1] at h
      exact h
    | some ρ1 =>
      rw [e1] at h
      intro σ1 S1 k1
      refine ⟨G, F, ρ1, ps, S1, rr, ?_⟩
      cases e2 : bindTs ts ps ρ1 with
      | none =>
        simp only [e2] at h
      | some ρ2 =>
        simp only [e2] at h
        exact fun σ2 S2 k2 => h σ2 S2 ((k1.mono fun i hi => List.mem_append_left _ hi).trans (k2.mono fun i hi => List.mem_append_right _ hi))
theorem g_tup {k : Nat} (hc : X.calm = true) (h : GsOk X es ts) (hn : (assignEach es X.env).length = ts.len) (hst : (assignEach es X.env).findIdx? (·.1) = none) : GOk X (.Tuple es k pos) (.tp ts) :=
  PG.imp (PG.or (pg_tup (n := ts.len) hc h hn hst) (pg_unl (n := ts.len) hc h hn hst)) fun v σ H Q h => by
    obtain ⟨G, F, ρ, p, S, r, h⟩ := h
    have h : match (match seqP p with | some ps => bindTs ts ps ρ | none => none) with
      | some ρ' => ∀ σ', Sim X.K X.mg G F H σ' ρ' → Keep ts.ix σ σ' → Q σ' H
      | none => False := by
      have z := h
      unfold bindT at z
      exact z
    cases e : seqP p with
    | none =>
      rw [e] at h
      exact h.elim
    | some ps =>
      simp only [e] at h
      obtain ⟨a, vs, rfl, h1, h2⟩ := seqP_ok S.sub (.inl r) e
      have hl : vs.length = ts.len := by
        rw [h2.len]
        cases e2 : bindTs ts ps ρ with
        | none =>
          rw [e2] at h
          exact h.elim
        | some ρ' => exact bindTs_len e2
      rcases h1 with h1 | h1
      · exact .inl ⟨a, vs, rfl, h1, hl, G, F, ρ, ps, S, h2, h⟩
      · exact .inr ⟨a, vs, rfl, h1, hl, G, F, ρ, ps, S, h2, h⟩
end

/-! ### what is walked -/
structure Wlk (K : Fg) (mg : Mg) (J : It) (ps : List PD) (F : Hp) : Prop where
  go : ∀ F' H (i : Nat), Same F F' → Sub F' H → i < ps.length → J.go i H
  stop : ∀ F' H (i : Nat), Same F F' → Sub F' H → ps.length ≤ i → J.stop i H
  yld : ∀ F' H (i : Nat) x H' p, Same F F' → Sub F' H → ps[i]? = some p → J.yld i H x H' → (H' = H ∧ Rep K mg F' x p) ∨ ∃ T xs ds, H T = none ∧ H' = upd H T (.tup xs) ∧ x = .ref T ∧ p = .tuple ds ∧ Reps K mg F' xs ds
def PostI (K : Fg) (mg : Mg) (G : Hp) (W : WX) (σ : Sts) (ρ : Ev) (F : Hp) (R : It → Hp → Prop) : Res (List PD) → Prop
  | .ok ps => ∀ F' H' J, Same F F' → Sim K mg G F' H' σ ρ → Wlk K mg J ps F' → R J H'
  | .exc c p => PostX K mg G W σ ρ F c p
  | .stuck => False
def tI (K : Fg) (mg : Mg) (G : Hp) (W : WX) (f : Rs) : TI := fun σ H R => ∃ F ρ, Sim K mg G F H σ ρ ∧ PostI K mg G W σ ρ F R (f ρ)
def IOk (X : Cx) (W : WX) (tg e : Expr) (f : Rs) : Prop := ∀ G, PI X tg e (tI X.K X.mg G W f)
theorem PI.imp {X : Cx} {tg e : Expr} {t t' : TI} (h : PI X tg e t) (i : ∀ σ H R, t' σ H R → t σ H R) : PI X tg e t' := ⟨fun pins s σ H R I q => h.run pins s σ H R I (i σ H R q)⟩
theorem PI.or {X : Cx} {tg e : Expr} {t t' : TI} (h : PI X tg e t) (h' : PI X tg e t') : PI X tg e (fun σ H R => t σ H R ∨ t' σ H R) := ⟨fun pins s σ H R I q => q.elim (fun q => h.run pins s σ H R I q) (fun q => h'.run pins s σ H R I q)⟩
def seqI (fa : Ex) : Rs := fun ρ => (fa ρ).bind fun r => match seqP r.pd with
  | some ps => .ok ps
  | none => .stuck
theorem PostI.mono {K : Fg} {mg : Mg} {G F F' : Hp} {W : WX} {σ : Sts} {ρ : Ev} {R : It → Hp → Prop} {r : Res (List PD)} (h : PostI K mg G W σ ρ F R r) (s : Same F F') : PostI K mg G W σ ρ F' R r := by
  cases r with
  | ok r => exact fun F2 H' v s2 => h F2 H' v (fun a o e => s2 a o (s a o e))
  | exc c p => exact PostX.mono h s
  | stuck => exact h
section
variable {X : Cx} {W : WX} {tg a b : Expr} {fa : Ex} {ra rb : Rx} {K : Fg} {mg : Mg} {F : Hp} {ps : List PD}
theorem wlk_list {v : Addr} {vs : List V} (h : F v = some (.lst vs)) (r : Reps K mg F vs ps) : Wlk K mg (Itl K v) ps F where
  go := fun F' H i s1 s2 hi => by
    have h' := s2.lst (s1 _ _ h)
    rw [← r.len] at hi
    exact ⟨vs, vs[i], .inl (.inl h'), List.getElem?_eq_getElem hi⟩
  stop := fun F' H i s1 s2 hi => by
    have h' := s2.lst (s1 _ _ h)
    rw [← r.len] at hi
    exact ⟨vs, .inl (.inl h'), hi⟩
  yld := fun F' H i x H' p s1 s2 hp y => by
    have h' := s2.lst (s1 _ _ h)
    obtain ⟨rfl, y⟩ := y
    have e := y vs (.inl (.inl h'))
    obtain ⟨w, e2, r2⟩ := r.get hp
    rw [e] at e2
    cases e2
    exact .inl ⟨rfl, r2.mono s1⟩
theorem wlk_tup {v : Addr} {vs : List V} (h : SqT K F v vs) (r : Reps K mg F vs ps) : Wlk K mg (Itt K v) ps F where
  go := fun F' H i s1 s2 hi => by
    have h' := s2.sqT (same_sqT s1 h)
    rw [← r.len] at hi
    exact ⟨vs, vs[i], h', List.getElem?_eq_getElem hi⟩
  stop := fun F' H i s1 s2 hi => by
    have h' := s2.sqT (same_sqT s1 h)
    rw [← r.len] at hi
    exact ⟨vs, h', hi⟩
  yld := fun F' H i x H' p s1 s2 hp y => by
    have h' := s2.sqT (same_sqT s1 h)
    obtain ⟨rfl, y⟩ := y
    have e := y vs h'
    obtain ⟨w, e2, r2⟩ := r.get hp
    rw [e] at e2
    cases e2
    exact .inl ⟨rfl, r2.mono s1⟩
theorem i_seq (ha : EOk X W a fa) : IOk X W tg a (seqI fa) := fun G => PI.imp (PI.or (pi_list (ha G)) (pi_tup (ha G))) fun σ H R h => by
  obtain ⟨F, ρ, S, h⟩ := h
  cases e : fa ρ with
  | exc c p =>
    unfold seqI at h
    rw [e] at h
    exact .inl ⟨F, ρ, S, by rw [e]; exact h⟩
  | stuck =>
    unfold seqI at h
    rw [e] at h
    exact h.elim
  | ok r =>
    unfold seqI at h
    rw [e] at h
    have h : PostI X.K X.mg G W σ ρ F R (match seqP r.pd with | some ps => .ok ps | none => .stuck) := h
    cases e2 : seqP r.pd with
    | none =>
      rw [e2] at h
      exact h.elim
    | some ps =>
      rw [e2] at h
      cases e3 : r.pd with
      | list xs =>
        rw [e3] at e2
        cases e2
        refine .inl ⟨F, ρ, S, ?_⟩
        rw [e]
        intro F1 H1 v s1 S1 r1
        obtain ⟨F2, s2, S2, r2⟩ := S1.sharing r1
        have r3 : Rep X.K X.mg F2 v (.list ps) := by
          rw [← e3]
          cases r <;> exact r2
        obtain ⟨a, vs, rfl, q1, q2⟩ := r3.lst_inv
        exact ⟨a, rfl, ⟨vs, .inl (.inl (S2.sub.lst q1))⟩, h F2 H1 _ (fun a o e => s2 a o (s1 a o e)) S2 (wlk_list q1 q2)⟩
      | tuple xs =>
        rw [e3] at e2
        cases e2
        refine .inr ⟨F, ρ, S, ?_⟩
        rw [e]
        intro F1 H1 v s1 S1 r1
        obtain ⟨F2, s2, S2, r2⟩ := S1.sharing r1
        have r3 : Rep X.K X.mg F2 v (.tuple ps) := by
          rw [← e3]
          cases r <;> exact r2
        obtain ⟨a, vs, rfl, q1, q2⟩ := r3.tup_inv
        exact ⟨a, rfl, ⟨vs, S2.sub.sqT q1⟩, h F2 H1 _ (fun a o e => s2 a o (s1 a o e)) S2 (wlk_tup q1 q2)⟩
      | _ =>
        rw [e3] at e2
        cases e2
/-- range(n), range(m, n) -/
def rngP (lo hi : Int) : List PD := (List.range (hi - lo).toNat).map fun i => .int (lo + (i : Nat))
def okR (i : Int) : Bool := decide (-1000000 ≤ i) && decide (i ≤ 1000000)
theorem okR_ok {i : Int} (h : okR i = true) : -(2 ^ 62) ≤ i ∧ i < 2 ^ 62 := by
  unfold okR at h
  rw [Bool.and_eq_true] at h
  have h1 := of_decide_eq_true h.1
  have h2 := of_decide_eq_true h.2
  omega
def range1P : List PD → Res (List PD)
  | [.int n] => if okR n then .ok (rngP 0 n) else .stuck
  | _ => .stuck
def range2P : List PD → Res (List PD)
  | [.int m, .int n] => if okR m && okR n then .ok (rngP m n) else .stuck
  | _ => .stuck
theorem wlk_range (lo : Int) (n : Nat) (e : ps = (List.range n).map fun i : Nat => PyData.int (lo + (i : Int))) : Wlk K mg (Itr lo n) ps F where
  go := fun F' H i s1 s2 hi => by
    subst e
    show i < n
    simpa using hi
  stop := fun F' H i s1 s2 hi => by
    subst e
    show n ≤ i
    simpa using hi
  yld := fun F' H i x H' p s1 s2 hp y => by
    subst e
    obtain ⟨rfl, rfl⟩ := y
    rw [List.getElem?_map] at hp
    cases e1 : (List.range n)[i]? with
    | none =>
      rw [e1] at hp
      cases hp
    | some j =>
      rw [e1] at hp
      have e2 := List.getElem?_eq_some_iff.mp e1
      obtain ⟨h1, h2⟩ := e2
      rw [List.getElem_range] at h2
      subst h2
      cases hp
      exact .inl ⟨rfl, .int _⟩
def callI (g : List PD → Res (List PD)) (rs : Rs) : Rs := fun ρ => (rs ρ).bind g
theorem useRsI {G : Hp} {g : List PD → Res (List PD)} {rs : Rs} {σ : Sts} {ρ : Ev} {F H : Hp} {R : It → Hp → Prop} {Q' : List V → Hp → Prop} (S : Sim K mg G F H σ ρ) (h : PostI K mg G W σ ρ F R ((rs ρ).bind g))
    (k : ∀ F' H' vs ps, Same F F' → Sim K mg G F' H' σ ρ → PRds K mg σ ρ F' vs ps → PostI K mg G W σ ρ F' R (g ps) → Q' vs H') : tRs K mg G W rs σ H Q' := by
  refine ⟨F, ρ, S, ?_⟩
  cases e : rs ρ with
  | ok r =>
    rw [e] at h
    exact fun F1 H1 vs s1 S1 r1 => k F1 H1 vs r s1 S1 r1 (PostI.mono h s1)
  | exc c p =>
    rw [e] at h
    exact h
  | stuck =>
    rw [e] at h
    exact h
theorem i_range1 {rs : Rs} {p pos : Pos} (hg : Gl X "range") (hm : X.mg "range" = none) (ha : RsOk X W [a] rs) (hs : notStar a = true) : IOk X W tg (.Call (.Name "range" p) [a] [] pos) (callI range1P rs) := fun G => PI.imp (pi_range1 hg hm (ha G) (star_cons hs [] X.env)) fun σ H R h => by
  obtain ⟨F, ρ, S, h⟩ := h
  refine useRsI (g := range1P) S h fun F1 H1 vs ps s1 S1 r1 h1 => ?_
  unfold range1P at h1
  split at h1
  · split at h1
    · rename_i ho
      obtain ⟨v, rfl, r2⟩ := (r1.at_ S1).one
      obtain rfl := r2.int_inv
      have hb := okR_ok ho
      refine ⟨_, rfl, hb.1, hb.2, h1 F1 H1 _ Same.rfl' S1 (wlk_range 0 _ ?_)⟩
      unfold rngP
      rw [Int.sub_zero]
    · exact h1.elim
  · exact h1.elim
theorem i_range2 {rs : Rs} {p pos : Pos} (hg : Gl X "range") (hm : X.mg "range" = none) (ha : RsOk X W [a, b] rs) (hs : noStars [a, b] = true) : IOk X W tg (.Call (.Name "range" p) [a, b] [] pos) (callI range2P rs) := fun G => PI.imp (pi_range2 hg hm (ha G)
    (by rw [star_cons (Bool.and_eq_true_iff.mp hs).1, star_cons (Bool.and_eq_true_iff.mp (Bool.and_eq_true_iff.mp hs).2).1]; rfl) (by rw [star_cons (Bool.and_eq_true_iff.mp (Bool.and_eq_true_iff.mp hs).2).1]; rfl)) fun σ H R h => by
  obtain ⟨F, ρ, S, h⟩ := h
  refine useRsI (g := range2P) S h fun F1 H1 vs ps s1 S1 r1 h1 => ?_
  unfold range2P at h1
  split at h1
  · split at h1
    · rename_i ho
      rw [Bool.and_eq_true] at ho
      obtain ⟨v, w, rfl, r2, r3⟩ := (r1.at_ S1).two
      obtain rfl := r2.int_inv
      obtain rfl := r3.int_inv
      have hb := okR_ok ho.1
      have hb2 := okR_ok ho.2
      exact ⟨_, _, rfl, ⟨hb.1, hb.2, hb2.1, hb2.2⟩, h1 F1 H1 _ Same.rfl' S1 (wlk_range _ _ rfl)⟩
    · exact h1.elim
  · exact h1.elim
/-- zip(xs, ys) -/
def zipP : List PD → List PD → List PD
  | x :: xs, y :: ys => .tuple [x, y] :: zipP xs ys
  | _, _ => []
theorem zipP_len : ∀ xs ys : List PD, (zipP xs ys).length = min xs.length ys.length
  | [], ys => by simp [zipP]
  | _ :: _, [] => by simp [zipP]
  | x :: xs, y :: ys => by
    show (zipP xs ys).length + 1 = min (xs.length + 1) (ys.length + 1)
    rw [zipP_len xs ys]
    omega
theorem zipP_get : ∀ (xs ys : List PD) (i : Nat) (p : PD), (zipP xs ys)[i]? = some p → ∃ x y, xs[i]? = some x ∧ ys[i]? = some y ∧ p = .tuple [x, y]
  | [], ys, i, p, h => by simp [zipP] at h
  | _ :: _, [], i, p, h => by simp [zipP] at h
  | x :: xs, y :: ys, 0, p, h => by
    simp only [zipP, List.getElem?_cons_zero, Option.some.injEq] at h
    exact ⟨x, y, rfl, rfl, h.symm⟩
  | x :: xs, y :: ys, i + 1, p, h => by
    simp only [zipP, List.getElem?_cons_succ] at h ⊢
    exact zipP_get xs ys i p h
def zipI : List PD → Res (List PD)
  | [.list xs, .list ys] => .ok (zipP xs ys)
  | [.tuple xs, .tuple ys] => .ok (zipP xs ys)
  | _ => .stuck
theorem useAI {G : Hp} {g : List PD → Res (List PD)} {ta : As} {σ : Sts} {ρ : Ev} {F H : Hp} {R : It → Hp → Prop} {Q' : List V → Hp → Prop} (S : Sim K mg G F H σ ρ) (h : PostI K mg G W σ ρ F R ((ta ρ).bind g))
    (k : ∀ F' H' vs ps, Same F F' → Sim K mg G F' H' σ ρ → Reps K mg F' vs ps → PostI K mg G W σ ρ F' R (g ps) → Q' vs H') : tA K mg G W ta σ H Q' := by
  refine ⟨F, ρ, S, ?_⟩
  cases e : ta ρ with
  | ok r =>
    rw [e] at h
    exact fun F1 H1 vs s1 S1 r1 => k F1 H1 vs r s1 S1 r1 (PostI.mono h s1)
  | exc c p =>
    rw [e] at h
    exact h
  | stuck =>
    rw [e] at h
    exact h
theorem Reps.two {vs : List V} {p q : PD} (h : Reps K mg F vs [p, q]) : ∃ v w, vs = [v, w] ∧ Rep K mg F v p ∧ Rep K mg F w q := by
  cases h with
  | cons h r =>
    cases r with
    | cons h2 r => cases r; exact ⟨_, _, rfl, h, h2⟩
theorem Reps.one_inv {vs : List V} {p : PD} (h : Reps K mg F vs [p]) : ∃ v, vs = [v] ∧ Rep K mg F v p := by
  cases h with
  | cons h r => cases r; exact ⟨_, rfl, h⟩
theorem wlk_zipL {v w : Addr} {vs ws : List V} {xs ys : List PD} (h : F v = some (.lst vs)) (r : Reps K mg F vs xs) (h2 : F w = some (.lst ws)) (r2 : Reps K mg F ws ys) : Wlk K mg (Itz K v w) (zipP xs ys) F where
  go := fun F' H i s1 s2 hi => by
    rw [zipP_len, ← r.len, ← r2.len] at hi
    have q1 := s2.lst (s1 _ _ h)
    have q2 := s2.lst (s1 _ _ h2)
    exact ⟨vs, ws, _, _, .inl (.inl q1), .inl (.inl q2), List.getElem?_eq_getElem (by omega), List.getElem?_eq_getElem (by omega)⟩
  stop := fun F' H i s1 s2 hi => by
    rw [zipP_len, ← r.len, ← r2.len] at hi
    have q1 := s2.lst (s1 _ _ h)
    have q2 := s2.lst (s1 _ _ h2)
    exact ⟨vs, ws, .inl (.inl q1), .inl (.inl q2), by omega⟩
  yld := fun F' H i x H' p s1 s2 hp y => by
    obtain ⟨a, b, e1, e2, rfl⟩ := zipP_get _ _ _ _ hp
    have q1 := s2.lst (s1 _ _ h)
    have q2 := s2.lst (s1 _ _ h2)
    obtain ⟨T, x1, y1, rfl, hT, rfl, f1, f2⟩ := y
    have g1 := f1 vs (.inl (.inl q1))
    have g2 := f2 ws (.inl (.inl q2))
    obtain ⟨u, e3, r3⟩ := r.get e1
    obtain ⟨u2, e4, r4⟩ := r2.get e2
    rw [g1] at e3
    rw [g2] at e4
    cases e3
    cases e4
    exact .inr ⟨T, _, _, hT, rfl, rfl, rfl, .cons (r3.mono s1) (.cons (r4.mono s1) .nil)⟩
theorem wlk_zipT {v w : Addr} {vs ws : List V} {xs ys : List PD} (h : SqT K F v vs) (r : Reps K mg F vs xs) (h2 : SqT K F w ws) (r2 : Reps K mg F ws ys) : Wlk K mg (RZ.ItzT K v w) (zipP xs ys) F where
  go := fun F' H i s1 s2 hi => by
    rw [zipP_len, ← r.len, ← r2.len] at hi
    have q1 := s2.sqT (same_sqT s1 h)
    have q2 := s2.sqT (same_sqT s1 h2)
    exact ⟨vs, ws, _, _, q1, q2, List.getElem?_eq_getElem (by omega), List.getElem?_eq_getElem (by omega)⟩
  stop := fun F' H i s1 s2 hi => by
    rw [zipP_len, ← r.len, ← r2.len] at hi
    have q1 := s2.sqT (same_sqT s1 h)
    have q2 := s2.sqT (same_sqT s1 h2)
    exact ⟨vs, ws, q1, q2, by omega⟩
  yld := fun F' H i x H' p s1 s2 hp y => by
    obtain ⟨a, b, e1, e2, rfl⟩ := zipP_get _ _ _ _ hp
    have q1 := s2.sqT (same_sqT s1 h)
    have q2 := s2.sqT (same_sqT s1 h2)
    obtain ⟨T, x1, y1, rfl, hT, rfl, f1, f2⟩ := y
    have g1 := f1 vs q1
    have g2 := f2 ws q2
    obtain ⟨u, e3, r3⟩ := r.get e1
    obtain ⟨u2, e4, r4⟩ := r2.get e2
    rw [g1] at e3
    rw [g2] at e4
    cases e3
    cases e4
    exact .inr ⟨T, _, _, hT, rfl, rfl, rfl, .cons (r3.mono s1) (.cons (r4.mono s1) .nil)⟩
theorem i_zip {ta : As} {p pos tpos : Pos} {elts : List Expr} {kk : Nat} (hg : Gl X "zip") (hm : X.mg "zip" = none) (ha : AOk X W [a, b] ta) (hs : noStars [a, b] = true) : IOk X W (.Tuple elts kk tpos) (.Call (.Name "zip" p) [a, b] [] pos) (callI zipI ta) := fun G =>
  PI.imp (RZ.pi_zipA hg hm (ha G) (star_cons (Bool.and_eq_true_iff.mp hs).1 _ _) (star_none (Bool.and_eq_true_iff.mp hs).2 pos X.env)) fun σ H R h => by
    obtain ⟨F, ρ, S, h⟩ := h
    refine useAI (g := zipI) S h fun F1 H1 vs ps s1 S1 r1 h1 => ?_
    unfold zipI at h1
    split at h1
    · obtain ⟨v, w, rfl, r2, r3⟩ := r1.two
      obtain ⟨a, us, rfl, q1, q2⟩ := r2.lst_inv
      obtain ⟨b, ws, rfl, q3, q4⟩ := r3.lst_inv
      exact ⟨a, b, us, ws, rfl, .inl ⟨.inl (.inl (S1.sub.lst q1)), .inl (.inl (S1.sub.lst q3)), h1 F1 H1 _ Same.rfl' S1 (wlk_zipL q1 q2 q3 q4)⟩⟩
    · obtain ⟨v, w, rfl, r2, r3⟩ := r1.two
      obtain ⟨a, us, rfl, q1, q2⟩ := r2.tup_inv
      obtain ⟨b, ws, rfl, q3, q4⟩ := r3.tup_inv
      exact ⟨a, b, us, ws, rfl, .inr ⟨S1.sub.sqT q1, S1.sub.sqT q3, h1 F1 H1 _ Same.rfl' S1 (wlk_zipT q1 q2 q3 q4)⟩⟩
    · exact h1.elim
/-- enumerate(xs) -/
def enumP : Nat → List PD → List PD
  | _, [] => []
  | n, x :: xs => .tuple [.int (n : Nat), x] :: enumP (n + 1) xs
theorem enumP_len : ∀ (n : Nat) (xs : List PD), (enumP n xs).length = xs.length
  | _, [] => rfl
  | n, x :: xs => by
    show (enumP (n + 1) xs).length + 1 = xs.length + 1
    rw [enumP_len]
theorem enumP_get : ∀ (n : Nat) (xs : List PD) (i : Nat) (p : PD), (enumP n xs)[i]? = some p → ∃ x, xs[i]? = some x ∧ p = .tuple [.int ((n + i : Nat) : Int), x]
  | n, [], i, p, h => by simp [enumP] at h
  | n, x :: xs, 0, p, h => by
    simp only [enumP, List.getElem?_cons_zero, Option.some.injEq] at h
    exact ⟨x, rfl, h.symm⟩
  | n, x :: xs, i + 1, p, h => by
    simp only [enumP, List.getElem?_cons_succ] at h ⊢
    obtain ⟨y, h1, h2⟩ := enumP_get (n + 1) xs i p h
    exact ⟨y, h1, by rw [h2, show n + 1 + i = n + (i + 1) by omega]⟩
theorem wlk_enum {v : Addr} {vs : List V} {xs : List PD} (h : F v = some (.lst vs)) (r : Reps K mg F vs xs) : Wlk K mg (Ite K v) (enumP 0 xs) F where
  go := fun F' H i s1 s2 hi => by
    rw [enumP_len, ← r.len] at hi
    have q1 := s2.lst (s1 _ _ h)
    exact ⟨vs, _, .inl (.inl q1), List.getElem?_eq_getElem (by omega)⟩
  stop := fun F' H i s1 s2 hi => by
    rw [enumP_len, ← r.len] at hi
    have q1 := s2.lst (s1 _ _ h)
    exact ⟨vs, .inl (.inl q1), hi⟩
  yld := fun F' H i x H' p s1 s2 hp y => by
    obtain ⟨a, e1, rfl⟩ := enumP_get _ _ _ _ hp
    have q1 := s2.lst (s1 _ _ h)
    obtain ⟨T, x1, rfl, hT, rfl, f1⟩ := y
    have g1 := f1 vs (.inl (.inl q1))
    obtain ⟨u, e3, r3⟩ := r.get e1
    rw [g1] at e3
    cases e3
    rw [Nat.zero_add]
    exact .inr ⟨T, _, _, hT, rfl, rfl, rfl, .cons (.int _) (.cons (r3.mono s1) .nil)⟩
end
end FL
set_option Elab.async false
set_option linter.all false
set_option maxRecDepth 100000
set_option maxHeartbeats 1000000
/-! FL8: list comprehensions -/
namespace FL
open PySem PySem.Spec PyProof.Rows L2

abbrev W0 : WX := fun _ _ _ _ => False
def wipeE (ρ : Ev) : List Nat → Ev
  | [] => ρ
  | v :: vs => (wipeE ρ vs).set v none
theorem wipeE_length (ρ : Ev) : ∀ vs : List Nat, (wipeE ρ vs).length = ρ.length
  | [] => rfl
  | v :: vs => by unfold wipeE; rw [List.length_set, wipeE_length ρ vs]
theorem wipeE_get {ρ : Ev} {i : Nat} : ∀ {vs : List Nat}, i ∉ vs → (wipeE ρ vs)[i]? = ρ[i]?
  | [], _ => rfl
  | v :: vs, h => by
    unfold wipeE
    rw [List.getElem?_set_ne (fun z => h (by simp [z]))]
    exact wipeE_get fun z => h (List.mem_cons_of_mem _ z)
/-- no owner stands at these places -/
def noOwn (ρ : Ev) : List Nat → Bool
  | [] => true
  | v :: vs => (match ρ[v]? with | some (some (.ow _)) => false | _ => true) && noOwn ρ vs
theorem noOwn_at {ρ : Ev} {i : Nat} {q : PD} : ∀ {vs : List Nat}, noOwn ρ vs = true → i ∈ vs → ρ[i]? ≠ some (some (.ow q))
  | v :: vs, h, hi => by
    have h : ((match ρ[v]? with | some (some (.ow _)) => false | _ => true) && noOwn ρ vs) = true := h
    rw [Bool.and_eq_true] at h
    rcases List.mem_cons.mp hi with e | hi
    · subst e
      intro z
      rw [z] at h
      cases h.1
    · exact noOwn_at h.2 hi
section
variable {K : Fg} {mg : Mg} {G F F' H H' : Hp} {σ σ' : Sts} {ρ ρ' : Ev}
theorem Sim.wipe (S : Sim K mg G F H σ ρ) : ∀ vs : List Nat, Sim K mg G F H (L2.wipe σ vs) (wipeE ρ vs)
  | [] => S
  | v :: vs => (Sim.wipe S vs).clear v
/-- back from a block -/
theorem Sim.back (S : Sim K mg G F H σ ρ) (S' : Sim K mg G F' H' σ' ρ') (s : Same F F') (k : ∀ (i : Nat) q, ρ[i]? = some (some (.ow q)) → ρ'[i]? = some (some (.ow q)) ∧ σ'[i]? = σ[i]?) : Sim K mg G F' H' σ ρ where
  sub := S'.sub
  gH := S'.gH
  gF := S'.gF
  len := S.len
  at_ := fun i sl e => by
    obtain ⟨v, e1, r⟩ := S.at_ i sl e
    refine ⟨v, e1, ?_⟩
    cases sl with
    | sh p => exact Rep.mono s r
    | ow p =>
      obtain ⟨k1, k2⟩ := k i p e
      obtain ⟨w, e2, r2⟩ := S'.at_ i _ k1
      rw [k2, e1] at e2
      cases e2
      exact r2
  ne := S.ne
end
mutual
/-- a target touches its own places alone -/
theorem bindT_keep : ∀ {t : Tg} {p : PD} {ρ ρ' : Ev}, bindT t p ρ = some ρ' → ρ'.length = ρ.length ∧ ∀ i, i ∉ t.ix → ρ'[i]? = ρ[i]?
  | .nm j, p, ρ, ρ', e => by
    have e : some (ρ.set j (some (.sh p))) = some ρ' := by
      have z := e
      unfold bindT at z
      exact z
    cases e
    exact ⟨by simp, fun i hi => List.getElem?_set_ne (fun z => hi (by simp [Tg.ix, z]))⟩
  | .tp ts, p, ρ, ρ', e => by
    unfold bindT at e
    split at e
    · exact bindTs_keep e
    · cases e
theorem bindTs_keep : ∀ {ts : Tgs} {ps : List PD} {ρ ρ' : Ev}, bindTs ts ps ρ = some ρ' → ρ'.length = ρ.length ∧ ∀ i, i ∉ ts.ix → ρ'[i]? = ρ[i]?
  | .nil, [], ρ, ρ', e => by
    unfold bindTs at e
    cases e
    exact ⟨rfl, fun _ _ => rfl⟩
  | .nil, _ :: _, _, _, e => by simp [bindTs] at e
  | .cons _ _, [], _, _, e => by simp [bindTs] at e
  | .cons t ts, p :: ps, ρ, ρ', e => by
    unfold bindTs at e
    split at e
    · rename_i ρ1 e1
      obtain ⟨a1, a2⟩ := bindT_keep e1
      obtain ⟨b1, b2⟩ := bindTs_keep e
      refine ⟨b1.trans a1, fun i hi => ?_⟩
      have hi : i ∉ t.ix ++ ts.ix := hi
      rw [List.mem_append] at hi
      exact (b2 i fun z => hi (.inr z)).trans (a2 i fun z => hi (.inl z))
    · cases e
end

/-- the items of a comprehension, from the left; what is raised within is not told -/
def compL (t : Tg) (cond : Ts) (elt : Ex) (ρ : Ev) : List PD → Res (List PD)
  | [] => .ok []
  | p :: ps => match bindT t p ρ with
    | none => .stuck
    | some ρ1 => match cond ρ1 with
      | .ok true => (match elt ρ1 with
        | .ok r => (match compL t cond elt ρ ps with
          | .ok qs => .ok (r.pd :: qs)
          | _ => .stuck)
        | _ => .stuck)
      | .ok false => compL t cond elt ρ ps
      | _ => .stuck
def eComp (it : Rs) (own : List Nat) (t : Tg) (cond : Ts) (elt : Ex) : Ex := fun ρ => (it ρ).bind fun ps =>
  if noOwn ρ own && decide (ps.length ≤ 16777216) then (match compL t cond elt (wipeE ρ own) ps with
    | .ok qs => .ok (.ow (.list qs))
    | _ => .stuck) else .stuck
theorem compL_noexc {t : Tg} {cond : Ts} {elt : Ex} {ρ : Ev} : ∀ (ps : List PD) (c : Str) (d : PD), compL t cond elt ρ ps ≠ .exc c d
  | [], c, d, e => by cases e
  | p :: ps, c, d, e => by
    unfold compL at e
    split at e
    · cases e
    · split at e
      · split at e
        · split at e <;> cases e
        · cases e
      · exact compL_noexc ps c d e
      · cases e
/-- the readings over any guard -/
def tEx (K : Fg) (mg : Mg) (W : WX) (f : Ex) : TE := fun σ H Q => ∃ G, tE K mg G W f σ H Q
def tTx (K : Fg) (mg : Mg) (W : WX) (f : Ts) : TT := fun σ H Q => ∃ G, tT K mg G W f σ H Q
theorem ex_E {X : Cx} {W : WX} {e : Expr} {f : Ex} (h : EOk X W e f) : PE X e (tEx X.K X.mg W f) := ⟨fun pins s σ H Q I ⟨G, q⟩ => (h G).run pins s σ H Q I q⟩
theorem ex_T {X : Cx} {W : WX} {e : Expr} {f : Ts} (h : TOk X W e f) : PT X e (tTx X.K X.mg W f) := ⟨fun pins s σ H Q I ⟨G, q⟩ => (h G).run pins s σ H Q I q⟩
/-- a clause's tests: none, one -/
def CsOk (X : Cx) (W : WX) (ifs : List Expr) (f : Ts) : Prop := PTs X ifs (tTx X.K X.mg W f)
theorem PTs.imp {X : Cx} {e : List Expr} {t t' : TT} (h : PTs X e t) (i : ∀ σ H Q, t' σ H Q → t σ H Q) : PTs X e t' := ⟨fun pins s σ H Q I q => h.run pins s σ H Q I (i σ H Q q)⟩
def cYes : Ts := fun _ => .ok true
theorem c_nil {X : Cx} {W : WX} : CsOk X W [] cYes := PTs.imp pts_nil fun σ H Q h => by
  obtain ⟨G, F, ρ, S, h⟩ := h
  exact h F H Same.rfl' S
theorem c_one {X : Cx} {W : WX} {c : Expr} {f : Ts} (h : TOk X W c f) : CsOk X W [c] f := pts_one (ex_T h)

theorem comp_tells {K : Fg} {mg : Mg} {W : WX} {it : Rs} {t : Tg} {fc : Ts} {fe : Ex} {vs : List Nat} (hx : ∀ i, i ∈ t.ix → i ∈ vs) {G : Hp} {σ : Sts} {H : Hp} {Q : VK} (h : tE K mg G W (eComp it vs t fc fe) σ H Q) :
    tLc (tI K mg G W it) (tG K mg t) (tTx K mg W0 fc) (tEx K mg W0 fe) vs σ H Q := by
  obtain ⟨F, ρ, S, h⟩ := h
  refine ⟨F, ρ, S, ?_⟩
  cases ei : it ρ with
  | exc c p =>
    unfold eComp at h
    rw [ei] at h
    exact h
  | stuck =>
    unfold eComp at h
    rw [ei] at h
    exact h
  | ok ps =>
    unfold eComp at h
    rw [ei] at h
    intro F1 H1 J s1 S1 wl D hD
    have h : PostE K mg G W σ ρ F Q (if noOwn ρ vs && decide (ps.length ≤ 16777216) then (match compL t fc fe (wipeE ρ vs) ps with
      | .ok qs => .ok (.ow (.list qs))
      | _ => .stuck) else .stuck) := h
    split at h
    case isFalse => exact h.elim
    case isTrue hno =>
      rw [Bool.and_eq_true] at hno
      have hlen := of_decide_eq_true hno.2
      cases ec : compL t fc fe (wipeE ρ vs) ps with
      | exc c d => exact absurd ec (compL_noexc ps c d)
      | stuck =>
        rw [ec] at h
        exact h.elim
      | ok out =>
        rw [ec] at h
        have h : PostE K mg G W σ ρ F1 Q (.ok (.ow (.list out))) := PostE.mono h s1
        obtain ⟨d1, d2⟩ := S1.fresh hD
        -- the invariant
        refine ⟨fun i m H' => ∃ F' acc done rest, m = ps.length - i ∧ i ≤ ps.length ∧ Same F1 F' ∧ Sim K mg G F' H' σ ρ ∧ F' D = none ∧ Apart σ ρ D ∧ H' D = some (.lst acc) ∧ Reps K mg F' acc done ∧
            acc.length ≤ i ∧ compL t fc fe (wipeE ρ vs) (ps.drop i) = .ok rest ∧ done ++ rest = out,
          ⟨ps.length, F1, [], [], out, by simp, Nat.zero_le _, Same.rfl', S1.alloc hD, d1, S1.apart_new hD, upd_same, .nil, Nat.le_refl _, by rw [List.drop_zero]; exact ec, rfl⟩, ?_⟩
        rintro i m H2 ⟨F2, acc, done, rest, rfl, hi, s2, S2, f2, ap, hDa, ra, hla, er, eo⟩
        by_cases hlt : i < ps.length
        · refine .inr ⟨wl.go F2 H2 i s2 S2.sub hlt, ?_⟩
          refine ⟨fun H' => ∃ F' acc done rest, Same F1 F' ∧ Sim K mg G F' H' σ ρ ∧ F' D = none ∧ Apart σ ρ D ∧ H' D = some (.lst acc) ∧ Reps K mg F' acc done ∧
            acc.length ≤ i + 1 ∧ compL t fc fe (wipeE ρ vs) (ps.drop (i + 1)) = .ok rest ∧ done ++ rest = out, fun H' hn => ?_, fun x H' hy => ?_⟩
          · obtain ⟨F', acc, done, rest, q1, q2, q3, q4, q5, q6, q7, q8, q9⟩ := hn
            exact ⟨ps.length - (i + 1), by omega, F', acc, done, rest, rfl, hlt, q1, q2, q3, q4, q5, q6, q7, q8, q9⟩
          · have hp : ps[i]? = some ps[i] := List.getElem?_eq_getElem hlt
            -- the item
            obtain ⟨F3, s3, S3, f3, e3, rx⟩ : ∃ F3, Same F2 F3 ∧ Sim K mg G F3 H' σ ρ ∧ F3 D = none ∧ H' D = H2 D ∧ Rep K mg F3 x ps[i] := by
              rcases wl.yld F2 H2 i x H' _ s2 S2.sub hp hy with ⟨rfl, r⟩ | ⟨T, xs, ds, hT, rfl, rfl, ep, r⟩
              · exact ⟨F2, Same.rfl', S2, f2, rfl, r⟩
              · obtain ⟨t1, t2⟩ := S2.fresh hT
                have hne : D ≠ T := fun z => by
                  subst z
                  rw [hT] at hDa
                  cases hDa
                refine ⟨upd F2 T (.tup xs), Same.new t1, (S2.alloc hT).grow upd_same t1 t2 (S2.apart_new hT), by rw [upd_ne hne]; exact f2, upd_ne hne, ?_⟩
                rw [ep]
                exact .tup (.inl (.inl upd_same)) (r.mono (Same.new t1))
            have hDa' : H' D = some (.lst acc) := e3.trans hDa
            have edrop : ps.drop i = ps[i] :: ps.drop (i + 1) := List.drop_eq_getElem_cons hlt
            rw [edrop] at er
            unfold compL at er
            -- under guard
            have Sg : Sim K mg (upd G D (.lst acc)) F3 H' σ ρ := S3.guard hDa' f3 ap
            have Sw := Sg.wipe vs
            cases eb : bindT t ps[i] (wipeE ρ vs) with
            | none =>
              rw [eb] at er
              cases er
            | some ρ1 =>
              simp only [eb] at er
              refine ⟨upd G D (.lst acc), F3, wipeE ρ vs, ps[i], Sw, rx, ?_⟩
              rw [eb]
              intro σ2 S4 kp
              refine ⟨(Keep.wipe (kp.mono hx)).trans ?_, ?_⟩
              · apply List.ext_getElem?
                intro j
                by_cases hj : j ∈ vs
                · by_cases hl : j < σ.length
                  · rw [wipe_in hj (by rw [wipe_length]; exact hl), wipe_in hj hl]
                  · rw [List.getElem?_eq_none (by rw [wipe_length, wipe_length]; omega), List.getElem?_eq_none (by rw [wipe_length]; omega)]
                · rw [wipe_get hj, wipe_get hj]
              · -- back to the outer slots
                have bk : ∀ {F5 H5}, Same F3 F5 → Sim K mg (upd G D (.lst acc)) F5 H5 σ2 ρ1 → Sim K mg G F5 H5 σ ρ ∧ F5 D = none ∧ H5 D = some (.lst acc) := fun {F5 H5} s5 S5 => by
                  have S6 : Sim K mg (upd G D (.lst acc)) F5 H5 σ ρ := Sg.back S5 s5 fun j q ej => by
                    have hj : j ∉ vs := fun z => noOwn_at hno.1 z ej
                    have hj2 : j ∉ t.ix := fun z => hj (hx j z)
                    refine ⟨?_, ?_⟩
                    · rw [(bindT_keep eb).2 j hj2, wipeE_get hj]
                      exact ej
                    · rw [kp.2 j hj2, wipe_get hj]
                  exact ⟨S6.unguard d2, (S6.gF D _ upd_same).none (fun _ _ z => by cases z), S6.gH D _ upd_same⟩
                refine ⟨upd G D (.lst acc), F3, ρ1, S4, ?_⟩
                cases ecn : fc ρ1 with
                | exc c d =>
                  rw [ecn] at er
                  cases er
                | stuck =>
                  rw [ecn] at er
                  cases er
                | ok b =>
                  intro F5 H5 s5 S5
                  cases b with
                  | false =>
                    rw [ecn] at er
                    rw [if_neg Bool.false_ne_true]
                    obtain ⟨b1, b2, b3⟩ := bk s5 S5
                    exact ⟨F5, acc, done, rest, fun a o e => s5 a o (s3 a o (s2 a o e)), b1, b2, ap, b3, ra.mono fun a o e => s5 a o (s3 a o e), by omega, er, eo⟩
                  | true =>
                    rw [ecn] at er
                    rw [if_pos rfl]
                    refine ⟨upd G D (.lst acc), F5, ρ1, S5, ?_⟩
                    cases ee : fe ρ1 with
                    | exc c d =>
                      simp only [ee] at er
                      cases er
                    | stuck =>
                      simp only [ee] at er
                      cases er
                    | ok r =>
                      simp only [ee] at er
                      intro F6 H6 y s6 S6 r6
                      obtain ⟨F7, s7, S7, r7⟩ := S6.sharing r6
                      have s57 : Same F5 F7 := fun a o e => s7 a o (s6 a o e)
                      obtain ⟨b1, b2, b3⟩ := bk (fun a o e => s57 a o (s5 a o e)) S7
                      have rp : Rep K mg F7 y r.pd := by cases r <;> exact r7
                      refine ⟨acc, b3, by rw [sizeLine_eq]; omega, ?_⟩
                      cases ers : compL t fc fe (wipeE ρ vs) (ps.drop (i + 1)) with
                      | exc c d =>
                        rw [ers] at er
                        cases er
                      | stuck =>
                        rw [ers] at er
                        cases er
                      | ok qs =>
                        rw [ers] at er
                        cases er
                        refine ⟨F7, acc ++ [y], done ++ [r.pd], qs, fun a o e => s57 a o (s5 a o (s3 a o (s2 a o e))), ?_, b2, ap, upd_same, (ra.mono fun a o e => s57 a o (s5 a o (s3 a o e))).append (.cons rp .nil), by rw [List.length_append]; show acc.length + 1 ≤ i + 1; omega, rfl, by rw [List.append_assoc]; exact eo⟩
                        refine b1.heap (fun b u eb' => ?_) (fun b u eb' => ?_) fun j q b ej e1 => ?_
                        · rw [upd_ne (fun z => by subst z; rw [b2] at eb'; cases eb')]
                          exact b1.sub b u eb'
                        · rw [upd_ne (fun z => by subst z; rw [d2] at eb'; cases eb')]
                          exact b1.gH b u eb'
                        · exact upd_ne fun z => by
                            subst z
                            exact ap j q ej e1
        · have e : i = ps.length := by omega
          subst e
          rw [List.drop_length] at er
          unfold compL at er
          cases er
          rw [List.append_nil] at eo
          subst eo
          refine .inl ⟨wl.stop F2 H2 _ s2 S2.sub (Nat.le_refl _), ?_⟩
          exact h F2 H2 _ s2 S2 ⟨D, rfl, f2, d2, .lst hDa ra, ap⟩
section
variable {X : Cx} {W : WX} {elt tg iter : Expr} {ifs : List Expr} {scope : Scope} {own : List (Str × Nat)} {pos spos : Pos} {it : Rs} {t : Tg} {fc : Ts} {fe : Ex}
theorem e_comp (hc : X.calm = true) (hN : X.N.Nodup) (hi : IOk X W tg iter it) (ok : BlkOk X.N X.env.scope scope own)
    (hx : ∀ i, i ∈ t.ix → i ∈ own.map (·.2))
    (hg : ∀ (s : Shared) (H : Hp) (C : Addr) (cl : List (Str × Addr)) (fp : List Addr), GOk (X.blk s H scope (compEnvC scope cl C X.env) fp) tg t)
    (ht : ∀ (s : Shared) (H : Hp) (C : Addr) (cl : List (Str × Addr)) (fp : List Addr), CsOk (X.blk s H scope (compEnvC scope cl C X.env) fp) W0 ifs fc)
    (he : ∀ (s : Shared) (H : Hp) (C : Addr) (cl : List (Str × Addr)) (fp : List Addr), EOk (X.blk s H scope (compEnvC scope cl C X.env) fp) W0 elt fe) (hs : ∀ x, foldedSetIterable iter X.env x = pure x) :
    EOk X W (.ListComp elt [⟨tg, iter, ifs, 0⟩] scope pos) (eComp it (own.map (·.2)) t fc fe) := fun G =>
  impE (pe_lc (g := tG X.K X.mg t) (tt := tTx X.K X.mg W0 fc) (te := tEx X.K X.mg W0 fe) hc hN (hi G) ok hg ht (fun s H C cl fp => ex_E (he s H C cl fp)) hs) fun σ H Q h => comp_tells hx h
end
end FL
set_option Elab.async false
set_option linter.all false
set_option maxRecDepth 100000
set_option maxHeartbeats 1000000
/-! FL9: dict displays, statements -/
namespace FL
open PySem PySem.Spec PyProof.Rows L2

/-! ### dict displays -/
def dput : List (PD × PD) → PD → PD → List (PD × PD) := fun ps k v =>
  if ps.any fun kv => PyData.eqv kv.1 k then ps.map fun kv => if PyData.eqv kv.1 k then (kv.1, v) else kv else ps ++ [(k, v)]
inductive RepP (K : Fg) (mg : Mg) (F : Hp) : List (V × V) → List (PD × PD) → Prop
  | nil : RepP K mg F [] []
  | cons {k v : V} {r : List (V × V)} {a d : PD} {ds : List (PD × PD)} : Rep K mg F k a → Rep K mg F v d → RepP K mg F r ds → RepP K mg F ((k, v) :: r) ((a, d) :: ds)
theorem RepP.mono {K : Fg} {mg : Mg} {F F' : Hp} {vs : List (V × V)} {ps : List (PD × PD)} (h : RepP K mg F vs ps) (s : Same F F') : RepP K mg F' vs ps := by
  induction h with
  | nil => exact .nil
  | cons h1 h2 _ ih => exact .cons (h1.mono s) (h2.mono s) ih
abbrev Pr := Ev → Res (List (PD × PD))
def PostP (K : Fg) (mg : Mg) (G : Hp) (W : WX) (σ : Sts) (ρ : Ev) (F : Hp) (Q : List (V × V) → Hp → Prop) : Res (List (PD × PD)) → Prop
  | .ok ps => ∀ F' H' vs, Same F F' → Sim K mg G F' H' σ ρ → RepP K mg F' vs ps → Q vs H'
  | .exc c p => PostX K mg G W σ ρ F c p
  | .stuck => False
def POk (X : Cx) (W : WX) (ks : List (Option Expr)) (vs : List Expr) (f : Pr) : Prop := ∃ trs, (∀ pos, PPs X pos ks vs trs) ∧ ∀ G σ H Q, (∃ F ρ, Sim X.K X.mg G F H σ ρ ∧ PostP X.K X.mg G W σ ρ F Q (f ρ)) → tPairs trs σ H Q
def pNil : Pr := fun _ => .ok []
def pCons (fk fv : Ex) (r : Pr) : Pr := fun ρ => (fk ρ).bind fun k => (fv ρ).bind fun v => (r ρ).bind fun ps => .ok ((k.pd, v.pd) :: ps)
theorem PostP.mono {K : Fg} {mg : Mg} {G F F' : Hp} {W : WX} {σ : Sts} {ρ : Ev} {Q : List (V × V) → Hp → Prop} {r : Res (List (PD × PD))} (h : PostP K mg G W σ ρ F Q r) (s : Same F F') : PostP K mg G W σ ρ F' Q r := by
  cases r with
  | ok r => exact fun F2 H' v s2 => h F2 H' v (fun a o e => s2 a o (s a o e))
  | exc c p => exact PostX.mono h s
  | stuck => exact h
theorem use1P {K : Fg} {mg : Mg} {G F H : Hp} {W : WX} {σ : Sts} {ρ : Ev} {fa : Ex} {g : PD → Res (List (PD × PD))} {Q : List (V × V) → Hp → Prop} {Q' : VK} (S : Sim K mg G F H σ ρ) (h : PostP K mg G W σ ρ F Q ((fa ρ).bind fun r => g r.pd))
    (k : ∀ F' H' v p, Same F F' → Sim K mg G F' H' σ ρ → Rep K mg F' v p → PostP K mg G W σ ρ F' Q (g p) → Q' v H') : tE K mg G W fa σ H Q' := by
  refine ⟨F, ρ, S, ?_⟩
  cases e : fa ρ with
  | ok r =>
    rw [e] at h
    intro F1 H1 v s1 S1 r1
    obtain ⟨F2, s2, S2, r2⟩ := S1.sharing r1
    have s3 : Same F F2 := fun a o e => s2 a o (s1 a o e)
    refine k F2 H1 v r.pd s3 S2 ?_ (PostP.mono h s3)
    cases r <;> exact r2
  | exc c p =>
    rw [e] at h
    exact h
  | stuck =>
    rw [e] at h
    exact h
section
variable {X : Cx} {W : WX} {k v : Expr} {ks : List (Option Expr)} {vs : List Expr} {fk fv : Ex} {r : Pr} {pos : Pos}
theorem p_nil : POk X W [] [] pNil := ⟨[], fun pos => pps_nil, fun G σ H Q h => by
  obtain ⟨F, ρ, S, h⟩ := h
  exact h F H [] Same.rfl' S .nil⟩
theorem p_cons (hk : EOk X W k fk) (hv : EOk X W v fv) (hr : POk X W ks vs r) : POk X W (some k :: ks) (v :: vs) (pCons fk fv r) := by
  obtain ⟨trs, h1, h2⟩ := hr
  refine ⟨(tEx X.K X.mg W fk, tEx X.K X.mg W fv) :: trs, fun pos => pps_cons (ex_E hk) (ex_E hv) (h1 pos), fun G σ H Q h => ?_⟩
  obtain ⟨F, ρ, S, h⟩ := h
  refine ⟨G, use1P (g := fun a => (fv ρ).bind fun v => (r ρ).bind fun ps => .ok ((a, v.pd) :: ps)) S h fun F1 H1 x a s1 S1 r1 h1 => ?_⟩
  refine ⟨G, use1P (g := fun b => (r ρ).bind fun ps => .ok ((a, b) :: ps)) S1 h1 fun F2 H2 y b s2 S2 r2 h3 => ?_⟩
  refine h2 G σ H2 _ ⟨F2, ρ, S2, ?_⟩
  cases e : r ρ with
  | exc c d =>
    rw [e] at h3
    exact h3
  | stuck =>
    rw [e] at h3
    exact h3
  | ok ps =>
    rw [e] at h3
    exact fun F3 H3 vs s3 S3 r3 => h3 F3 H3 _ s3 S3 (.cons (r1.mono fun a o e => s3 a o (s2 a o e)) (r2.mono s3) r3)
def keysK : List (PD × PD) → Bool
  | [] => true
  | (k, _) :: r => isKeyK k && keysK r
def eDisp (r : Pr) : Ex := fun ρ => (r ρ).bind fun ps => if keysK ps && decide (ps.length ≤ 15) then .ok (.ow (dKD (ps.foldl (fun acc kv => dput acc kv.1 kv.2) []))) else .stuck
theorem RepP.keys {K : Fg} {mg : Mg} {F : Hp} : ∀ {vs : List (V × V)} {ps : List (PD × PD)}, RepP K mg F vs ps → keysK ps = true → ∃ kvs : List (Key × V), vs = kvs.map (fun kv => (kV kv.1, kv.2)) ∧ RepK K mg F kvs ps ∧ kvs.length = ps.length
  | _, _, .nil, _ => ⟨[], rfl, .nil, rfl⟩
  | _, _, .cons (k := k) (v := v) (a := a) (d := d) (ds := ds) h1 h2 h3, e => by
    have e : (isKeyK a && keysK ds) = true := e
    rw [Bool.and_eq_true] at e
    obtain ⟨kvs, rfl, q, hl⟩ := RepP.keys h3 e.2
    obtain ⟨k', rfl, rfl⟩ := Rep.key (H := F) (.inl h1) e.1
    exact ⟨(k', v) :: kvs, rfl, .cons h2 q, by rw [List.length_cons, List.length_cons, hl]⟩
theorem RepK.put {K : Fg} {mg : Mg} {F : Hp} {kvs : List (Key × V)} {ps : List (PD × PD)} {v : V} {d : PD} (h : RepK K mg F kvs ps) (k : Key) (r : Rep K mg F v d) : RepK K mg F (putK kvs k v) (dput ps (kD k) d) := by
  have any : (kvs.any fun kv => decide (kv.1 = k)) = ps.any fun kv => PyData.eqv kv.1 (kD k) := by
    clear r
    have : ∀ {kvs : List (Key × V)} {ps : List (PD × PD)}, RepK K mg F kvs ps → (kvs.any fun kv => decide (kv.1 = k)) = ps.any fun kv => PyData.eqv kv.1 (kD k) := fun {kvs ps} h => by
      match kvs, ps, h with
      | _, _, .nil => rfl
      | _, _, .cons (k := j) (r := r) (ds := ds) h1 h2 =>
        rw [List.any_cons, List.any_cons, kD_eqv]
        rw [aux h2]
    exact this h
  unfold putK dput
  rw [any]
  split
  · have : ∀ {kvs : List (Key × V)} {ps : List (PD × PD)}, RepK K mg F kvs ps → RepK K mg F (kvs.map fun kv => if kv.1 = k then (kv.1, v) else kv) (ps.map fun kv => if PyData.eqv kv.1 (kD k) then (kv.1, d) else kv) := fun {kvs ps} h => aux2 r h
    exact this h
  · exact aux3 h r
where
  aux {K : Fg} {mg : Mg} {F : Hp} {k : Key} : ∀ {kvs : List (Key × V)} {ps : List (PD × PD)}, RepK K mg F kvs ps → (kvs.any fun kv => decide (kv.1 = k)) = ps.any fun kv => PyData.eqv kv.1 (kD k)
    | _, _, .nil => rfl
    | _, _, .cons h1 h2 => by
      rw [List.any_cons, List.any_cons, kD_eqv, aux h2]
  aux2 {K : Fg} {mg : Mg} {F : Hp} {k : Key} {v : V} {d : PD} (r : Rep K mg F v d) : ∀ {kvs : List (Key × V)} {ps : List (PD × PD)}, RepK K mg F kvs ps → RepK K mg F (kvs.map fun kv => if kv.1 = k then (kv.1, v) else kv) (ps.map fun kv => if PyData.eqv kv.1 (kD k) then (kv.1, d) else kv)
    | _, _, .nil => .nil
    | _, _, .cons (k := j) h1 h2 => by
      rw [List.map_cons, List.map_cons]
      show RepK K mg F ((if j = k then (j, v) else (j, _)) :: _) ((if PyData.eqv (kD j) (kD k) = true then (kD j, d) else (kD j, _)) :: _)
      rw [kD_eqv]
      by_cases e : j = k
      · rw [if_pos e, if_pos (decide_eq_true e)]
        exact .cons r (aux2 r h2)
      · rw [if_neg e, if_neg (by simpa using e)]
        exact .cons h1 (aux2 r h2)
  aux3 {K : Fg} {mg : Mg} {F : Hp} {k : Key} {v : V} {d : PD} : ∀ {kvs : List (Key × V)} {ps : List (PD × PD)}, RepK K mg F kvs ps → Rep K mg F v d → RepK K mg F (kvs ++ [(k, v)]) (ps ++ [(kD k, d)])
    | _, _, .nil, r => .cons r .nil
    | _, _, .cons h1 h2, r => .cons h1 (aux3 h2 r)
theorem RepK.merge {K : Fg} {mg : Mg} {F : Hp} : ∀ {more : List (Key × V)} {ms : List (PD × PD)} {kvs : List (Key × V)} {ps : List (PD × PD)}, RepK K mg F more ms → RepK K mg F kvs ps → RepK K mg F (mergeK kvs more) (ms.foldl (fun acc kv => dput acc kv.1 kv.2) ps)
  | _, _, _, _, .nil, h => h
  | _, _, kvs, ps, .cons (k := k) (v := v) (r := r) (d := d) (ds := ds) h1 h2, h => by
    show RepK K mg F (mergeK (putK kvs k v) r) (ds.foldl _ (dput ps (kD k) d))
    exact RepK.merge h2 (h.put k h1)
theorem e_disp (h : POk X W ks vs r) (hall : ks.all (·.isSome) = true) (hl : ks.length = vs.length) (h0 : ks ≠ []) (h15 : ks.length ≤ 15) : EOk X W (.Dict ks vs pos) (eDisp r) := by
  obtain ⟨trs, h1, h2⟩ := h
  refine fun G => impE (pe_disp (h1 pos) hall hl h0 h15) fun σ H Q h => ?_
  obtain ⟨F, ρ, S, h⟩ := h
  intro p hp
  obtain ⟨f1, f2⟩ := S.fresh hp
  have ap := S.apart_new hp
  have Sg : Sim X.K X.mg (upd G p (.dK [])) F (upd H p (.dK [])) σ ρ := (S.alloc hp).guard upd_same f1 ap
  refine h2 (upd G p (.dK [])) σ _ _ ⟨F, ρ, Sg, ?_⟩
  unfold eDisp at h
  cases e : r ρ with
  | exc c d =>
    rw [e] at h
    intro F' H' C d x s1 S1 q1 q2 q3
    exact h F' H' C d x s1 (S1.unguard f2) q1 q2 q3
  | stuck =>
    rw [e] at h
    exact h
  | ok ps =>
    rw [e] at h
    intro F1 H1 ws s1 S1 r1
    have h : PostE X.K X.mg G W σ ρ F Q (if keysK ps && decide (ps.length ≤ 15) then .ok (.ow (dKD (ps.foldl (fun acc kv => dput acc kv.1 kv.2) []))) else .stuck) := h
    split at h
    · rename_i hk
      rw [Bool.and_eq_true] at hk
      obtain ⟨kvs, rfl, q, hl⟩ := r1.keys hk.1
      have S2 := S1.unguard f2
      refine ⟨S1.gH p _ upd_same, kvs, rfl, by rw [hl]; exact of_decide_eq_true hk.2, ?_⟩
      have fp : F1 p = none := (S1.gF p _ upd_same).none (fun _ _ z => by cases z)
      refine h F1 _ _ s1 (S2.heap (fun b u eb => ?_) (fun b u eb => ?_) fun j q b ej e1 => ?_) ⟨p, rfl, fp, f2, .dK upd_same (RepK.merge q .nil), ap⟩
      · rw [upd_ne (fun z => by subst z; rw [fp] at eb; cases eb)]
        exact S2.sub b u eb
      · rw [upd_ne (fun z => by subst z; rw [f2] at eb; cases eb)]
        exact S2.gH b u eb
      · exact upd_ne fun z => by
          subst z
          exact ap j q ej e1
    · exact h.elim
def eDictK : Ex := fun _ => .ok (.ow (dKD []))
theorem e_dictK : EOk X W (.Dict [] [] pos) eDictK := fun G => impE pe_dnewK fun σ H Q h => by
  obtain ⟨F, ρ, S, h⟩ := h
  exact fun p hp => PostE.new h S hp (.dK upd_same .nil)
def eDictT : Ex := fun _ => .ok (.ow (dTD []))
theorem e_dictT : EOk X W (.Dict [] [] pos) eDictT := fun G => impE pe_dnewT fun σ H Q h => by
  obtain ⟨F, ρ, S, h⟩ := h
  exact fun p hp => PostE.new h S hp (.dT upd_same .nil)
end

/-! ### statements -/
inductive RS where
  | nx (ρ : Ev)
  | rt (r : Rt)
  | bk (ρ : Ev)
  | ct (ρ : Ev)
  | exc (c : Str) (p : PD) (ρ : Ev)
  | stuck
abbrev Ss := Ev → RS
def PostS (K : Fg) (mg : Mg) (G : Hp) (W : WX) (F : Hp) (D : Ends) : RS → Prop
  | .nx ρ => ∀ F' H' σ', Same F F' → Sim K mg G F' H' σ' ρ → D.nx σ' H'
  | .rt r => ∀ F' H' σ' ρ' v, Same F F' → Sim K mg G F' H' σ' ρ' → RtR K mg G F' H' σ' ρ' v r → D.rt v H'
  | .bk ρ => ∀ F' H' σ', Same F F' → Sim K mg G F' H' σ' ρ → D.bk σ' H'
  | .ct ρ => ∀ F' H' σ', Same F F' → Sim K mg G F' H' σ' ρ → D.ct σ' H'
  | .exc c p ρ => ∀ σ', PostX K mg G W σ' ρ F c p
  | .stuck => False
def tS (K : Fg) (mg : Mg) (G : Hp) (W : WX) (f : Ss) : TS := fun D σ H => ∃ F ρ, Sim K mg G F H σ ρ ∧ PostS K mg G W F D (f ρ)
def SOk (X : Cx) (W : WX) (st : Stmt) (f : Ss) : Prop := ∀ G, PS X st (tS X.K X.mg G W f)
def BOk (X : Cx) (W : WX) (st : List Stmt) (f : Ss) : Prop := ∀ G, PSs X st (tS X.K X.mg G W f)
theorem PostS.mono {K : Fg} {mg : Mg} {G F F' : Hp} {W : WX} {D : Ends} {r : RS} (h : PostS K mg G W F D r) (s : Same F F') : PostS K mg G W F' D r := by
  cases r with
  | nx ρ => exact fun F2 H' σ' s2 => h F2 H' σ' (fun a o e => s2 a o (s a o e))
  | rt r => exact fun F2 H' σ' ρ' v s2 => h F2 H' σ' ρ' v (fun a o e => s2 a o (s a o e))
  | bk ρ => exact fun F2 H' σ' s2 => h F2 H' σ' (fun a o e => s2 a o (s a o e))
  | ct ρ => exact fun F2 H' σ' s2 => h F2 H' σ' (fun a o e => s2 a o (s a o e))
  | exc c p ρ => exact fun σ' => PostX.mono (h σ') s
  | stuck => exact h
/-- an expression's answer, then a statement's end -/
def Res.bindS {α : Type} (r : Res α) (ρ : Ev) (f : α → RS) : RS := match r with
  | .ok a => f a
  | .exc c p => .exc c p ρ
  | .stuck => .stuck
def sNext : Ss := fun ρ => .nx ρ
def sSeq (f g : Ss) : Ss := fun ρ => match f ρ with
  | .nx ρ' => g ρ'
  | r => r
section
variable {X : Cx} {W : WX} {st : Stmt} {rest : List Stmt} {f g : Ss} {e c : Expr} {fa : Ex} {ra : Rx} {tc : Ts} {pos : Pos} {a b : List Stmt}
variable {K : Fg} {mg : Mg} {G F H : Hp} {σ : Sts} {ρ : Ev} {D : Ends}
theorem b_nil : BOk X W [] sNext := fun G => impB pss_nil fun D σ H h => by
  obtain ⟨F, ρ, S, h⟩ := h
  exact h F H σ Same.rfl' S
theorem b_cons (h1 : SOk X W st f) (h2 : BOk X W rest g) : BOk X W (st :: rest) (sSeq f g) := fun G => impB (pss_cons (h1 G) (h2 G)) fun D σ H h => by
  obtain ⟨F, ρ, S, h⟩ := h
  refine ⟨F, ρ, S, ?_⟩
  unfold sSeq at h
  cases e : f ρ with
  | nx ρ' =>
    rw [e] at h
    exact fun F' H' σ' s1 S1 => ⟨F', ρ', S1, PostS.mono h s1⟩
  | rt r =>
    rw [e] at h
    exact h
  | bk ρ' =>
    rw [e] at h
    exact h
  | ct ρ' =>
    rw [e] at h
    exact h
  | exc c p ρ' =>
    rw [e] at h
    exact h
  | stuck =>
    rw [e] at h
    exact h
theorem s_pass : SOk X W (.Pass pos) sNext := fun G => impS ps_pass fun D σ H h => by
  obtain ⟨F, ρ, S, h⟩ := h
  exact h F H σ Same.rfl' S
def sBreak : Ss := fun ρ => .bk ρ
def sCont : Ss := fun ρ => .ct ρ
theorem s_break : SOk X W (.Break pos) sBreak := fun G => impS ps_break fun D σ H h => by
  obtain ⟨F, ρ, S, h⟩ := h
  exact h F H σ Same.rfl' S
theorem s_cont : SOk X W (.Continue pos) sCont := fun G => impS ps_continue fun D σ H h => by
  obtain ⟨F, ρ, S, h⟩ := h
  exact h F H σ Same.rfl' S
/-- an expression within a statement -/
theorem use1S {k : Rt → RS} {Q' : VK} (S : Sim K mg G F H σ ρ) (h : PostS K mg G W F D ((fa ρ).bindS ρ k))
    (kk : ∀ F' H' v r, Same F F' → Sim K mg G F' H' σ ρ → RtR K mg G F' H' σ ρ v r → PostS K mg G W F' D (k r) → Q' v H') : tE K mg G W fa σ H Q' := by
  refine ⟨F, ρ, S, ?_⟩
  cases e : fa ρ with
  | ok r =>
    rw [e] at h
    exact fun F1 H1 v s1 S1 r1 => kk F1 H1 v r s1 S1 r1 (PostS.mono h s1)
  | exc c p =>
    rw [e] at h
    exact h σ
  | stuck =>
    rw [e] at h
    exact h
theorem useTS {tb : Ts} {k : Bool → RS} {Q' : Bool → Hp → Prop} (S : Sim K mg G F H σ ρ) (h : PostS K mg G W F D ((tb ρ).bindS ρ k))
    (kk : ∀ F' H' b, Same F F' → Sim K mg G F' H' σ ρ → PostS K mg G W F' D (k b) → Q' b H') : tT K mg G W tb σ H Q' := by
  refine ⟨F, ρ, S, ?_⟩
  cases e : tb ρ with
  | ok r =>
    rw [e] at h
    exact fun F1 H1 s1 S1 => kk F1 H1 r s1 S1 (PostS.mono h s1)
  | exc c p =>
    rw [e] at h
    exact h σ
  | stuck =>
    rw [e] at h
    exact h
/-- e as a statement -/
def sExpr (fa : Ex) : Ss := fun ρ => (fa ρ).bindS ρ fun _ => .nx ρ
theorem s_expr (he : EOk X W e fa) (hs : swapsWith e none pos.line X.env = pure false) : SOk X W (.Expr e pos) (sExpr fa) := fun G => impS (ps_expr (he G) hs) fun D σ H h => by
  obtain ⟨F, ρ, S, h⟩ := h
  exact use1S (k := fun _ => .nx ρ) S h fun F1 H1 v r s1 S1 r1 h1 => h1 F1 H1 σ Same.rfl' S1
def sRet (fa : Ex) : Ss := fun ρ => (fa ρ).bindS ρ fun r => .rt r
theorem s_ret (he : EOk X W e fa) : SOk X W (.Return (some e) pos) (sRet fa) := fun G => impS (ps_ret (he G)) fun D σ H h => by
  obtain ⟨F, ρ, S, h⟩ := h
  exact use1S (k := fun r => .rt r) S h fun F1 H1 v r s1 S1 r1 h1 => h1 F1 H1 σ ρ v Same.rfl' S1 r1
/-- return x, x the owner -/
def sRetV (i : Nat) : Ss := fun ρ => match ρ[i]? with
  | some (some s) => .rt s
  | _ => .stuck
theorem s_retV {i : Nat} {x : Str} {p : Pos} (hN : X.N[i]? = some x) (hv : Vis X.env.scope x) (hd : (x == ("__debug__" : Str)) = false) (hcd : (x == ("__classdict__" : Str)) = false) : SOk X W (.Return (some (.Name x p)) pos) (sRetV i) := fun G => impS (ps_ret (pe_var hN hv hd hcd)) fun D σ H h => by
  obtain ⟨F, ρ, S, h⟩ := h
  unfold sRetV at h
  split at h
  · rename_i s e
    obtain ⟨v, e1, r⟩ := S.at_ i s e
    refine ⟨v, e1, ?_⟩
    have hi : i < ρ.length := (List.getElem?_eq_some_iff.mp e).1
    have S1 : Sim X.K X.mg G F H σ (ρ.set i none) := S.weak (by simp) fun j s ej => by
      by_cases z : i = j
      · subst z
        rw [List.getElem?_set_self hi] at ej
        cases ej
      · rw [List.getElem?_set_ne z] at ej
        exact ej
    refine h F H σ (ρ.set i none) v Same.rfl' S1 ?_
    cases s with
    | sh p => exact r
    | ow p =>
      obtain ⟨a, rfl, h1, h2, h3⟩ := r
      refine ⟨a, rfl, h1, h2, h3, fun j q ej z => ?_⟩
      by_cases z2 : i = j
      · subst z2
        rw [List.getElem?_set_self hi] at ej
        cases ej
      · rw [List.getElem?_set_ne z2] at ej
        exact S.ne i j p q z2 e ej (e1.trans z.symm)
  · exact h.elim
def sRetN : Ss := fun _ => .rt (.sh .none)
theorem s_retN : SOk X W (.Return none pos) sRetN := fun G => impS ps_retN fun D σ H h => by
  obtain ⟨F, ρ, S, h⟩ := h
  exact h F H σ ρ .non Same.rfl' S .non
def sIf (tc : Ts) (f g : Ss) : Ss := fun ρ => (tc ρ).bindS ρ fun b => if b = true then f ρ else g ρ
theorem s_if (hc : TOk X W c tc) (ha : BOk X W a f) (hb : BOk X W b g) : SOk X W (.If c a b pos) (sIf tc f g) := fun G => impS (ps_if (hc G) (ha G) (hb G)) fun D σ H h => by
  obtain ⟨F, ρ, S, h⟩ := h
  refine useTS (k := fun b => if b = true then f ρ else g ρ) S h fun F1 H1 b s1 S1 h1 => ?_
  cases b with
  | true => exact ⟨F1, ρ, S1, h1⟩
  | false => exact ⟨F1, ρ, S1, h1⟩
/-- x = e -/
def sSet (i : Nat) (fa : Ex) : Ss := fun ρ => (fa ρ).bindS ρ fun r => .nx (ρ.set i (some r))
theorem s_set {i : Nat} {x : Str} {p : Pos} (hN : X.N.Nodup) (hi : X.N[i]? = some x) (hx : Loc X.env.scope x) (he : EOk X W e fa) (hs : swapsWith e (some (.Name x p)) pos.line X.env = pure false) (hf : X.fn x = true ∨ X.env.scope.names.lookup x = some .local) :
    SOk X W (.Assign [.Name x p] e pos) (sSet i fa) := fun G => impS (ps_set hN hi hx (he G) hs hf) fun D σ H h => by
  obtain ⟨F, ρ, S, h⟩ := h
  exact use1S (k := fun r => .nx (ρ.set i (some r))) S h fun F1 H1 v r s1 S1 r1 h1 => h1 F1 H1 _ Same.rfl' (S1.store i r1)
/-- x = [..], on one line, x a local -/
theorem s_setLc {i : Nat} {y : Str} {py : Pos} {elt tg iter : Expr} {ifs : List Expr} {scope : Scope} {own : List (Str × Nat)} {pos spos : Pos} {it : Rs} {t : Tg} {fc : Ts} {fe : Ex} (hc : X.calm = true) (hN : X.N.Nodup) (hy : X.N[i]? = some y) (hyl : X.env.scope.names.lookup y = some .local)
    (hsw : swapsWith (.ListComp elt [⟨tg, iter, ifs, 0⟩] scope pos) (some (.Name y py)) spos.line X.env = pure true) (hi : IOk X W tg iter it) (ok : BlkOk X.N X.env.scope scope own) (hx : ∀ i, i ∈ t.ix → i ∈ own.map (·.2))
    (hg : ∀ (s : Shared) (H : Hp) (C : Addr) (cl : List (Str × Addr)) (fp : List Addr), GOk (X.blk s H scope (compEnvC scope cl C X.env) fp) tg t)
    (ht : ∀ (s : Shared) (H : Hp) (C : Addr) (cl : List (Str × Addr)) (fp : List Addr), CsOk (X.blk s H scope (compEnvC scope cl C X.env) fp) W0 ifs fc)
    (he : ∀ (s : Shared) (H : Hp) (C : Addr) (cl : List (Str × Addr)) (fp : List Addr), EOk (X.blk s H scope (compEnvC scope cl C X.env) fp) W0 elt fe) (hs : ∀ x, foldedSetIterable iter X.env x = pure x) :
    SOk X W (.Assign [.Name y py] (.ListComp elt [⟨tg, iter, ifs, 0⟩] scope pos) spos) (sSet i (eComp it (own.map (·.2)) t fc fe)) := fun G =>
  impS (ps_setLc (g := tG X.K X.mg t) (tt := tTx X.K X.mg W0 fc) (te := tEx X.K X.mg W0 fe) hc hN hy hyl hsw (hi G) ok hg ht (fun s H C cl fp => ex_E (he s H C cl fp)) hs) fun D σ H h => by
    obtain ⟨F, ρ, S, h⟩ := h
    exact comp_tells hx (use1S (k := fun r => .nx (ρ.set i (some r))) S h fun F1 H1 v r s1 S1 r1 h1 => h1 F1 H1 _ Same.rfl' (S1.store i r1))
/-- a target = e -/
def sAsg (t : Tg) (fa : Ex) : Ss := fun ρ => (fa ρ).bindS ρ fun r => match bindT t r.pd ρ with
  | some ρ' => .nx ρ'
  | none => .stuck
theorem s_asg {tg : Expr} {t : Tg} (he : EOk X W e fa) (hg : GOk X tg t) (hs : swapsWithSole [tg] e pos.line X.env = pure false) (hw : swappedStores [tg] e X.env = pure none) (h1 : (assignEach [tg] X.env).map (·.2) = [assign tg X.env]) :
    SOk X W (.Assign [tg] e pos) (sAsg t fa) := fun G => impS (ps_asg (he G) hg hs hw h1) fun D σ H h => by
  obtain ⟨F, ρ, S, h⟩ := h
  refine use1S (k := fun r => match bindT t r.pd ρ with | some ρ' => .nx ρ' | none => .stuck) S h fun F1 H1 v r s1 S1 r1 h1 => ?_
  obtain ⟨F2, s2, S2, r2⟩ := S1.sharing r1
  refine ⟨G, F2, ρ, r.pd, S2, (by cases r <;> exact r2), ?_⟩
  cases eb : bindT t r.pd ρ with
  | none =>
    simp only [eb] at h1
    exact h1
  | some ρ' =>
    simp only [eb] at h1
    exact fun σ' S3 k => h1 F2 H1 σ' s2 S3
/-- a, b = x, y: plain names, both read first -/
def parK (i j : Nat) (ρ : Ev) : List PD → RS
  | [p, q] => .nx ((ρ.set i (some (.sh p))).set j (some (.sh q)))
  | _ => .stuck
def sPar (i j : Nat) (ta : As) : Ss := fun ρ => (ta ρ).bindS ρ (parK i j ρ)
theorem s_par {i j : Nat} {x y : Str} {a b : Expr} {ta : As} {px py pt : Pos} {kt k2 pt2} (hc : X.calm = true) (hN : X.N.Nodup) (hi : X.N[i]? = some x) (hj : X.N[j]? = some y) (hij : i ≠ j)
    (hx : X.env.scope.names.lookup x = some .local) (hy : X.env.scope.names.lookup y = some .local) (ha : AOk X W [a, b] ta)
    (hw : swappedStores [.Tuple [.Name x px, .Name y py] kt pt] (.Tuple [a, b] k2 pt2) X.env = pure (some [x, y]))
    (hs : swapsWithSole [.Tuple [.Name x px, .Name y py] kt pt] (.Tuple [a, b] k2 pt2) pos.line X.env = pure false) :
    SOk X W (.Assign [.Tuple [.Name x px, .Name y py] kt pt] (.Tuple [a, b] k2 pt2) pos) (sPar i j ta) := fun G => impS (ps_par hc hN hi hj hij hx hy (ha G) hw hs) fun D σ H h => by
  obtain ⟨F, ρ, S, h⟩ := h
  refine ⟨F, ρ, S, ?_⟩
  unfold sPar at h
  cases e : ta ρ with
  | exc c d =>
    rw [e] at h
    exact h σ
  | stuck =>
    rw [e] at h
    exact h
  | ok ps =>
    rw [e] at h
    intro F1 H1 vs s1 S1 r1
    have h : PostS X.K X.mg G W F D (parK i j ρ ps) := h
    unfold parK at h
    split at h
    · obtain ⟨v, w, rfl, r2, r3⟩ := Reps.two r1
      exact ⟨v, w, rfl, h F1 H1 _ s1 ((S1.store (r := .sh _) i r2).store (r := .sh _) j r3)⟩
    · exact h.elim
/-- the owner at i is shared ahead of a statement -/
def sPre (i : Nat) (f : Ss) : Ss := fun ρ => f (shr ρ i)
theorem s_pre {i : Nat} (h : SOk X W st f) : SOk X W st (sPre i f) := fun G => impS (h G) fun D σ H q => by
  obtain ⟨F, ρ, S, q⟩ := q
  obtain ⟨F', s, S'⟩ := S.shr i
  exact ⟨F', shr ρ i, S', PostS.mono q s⟩
/-- x.append(e), x the owner of a list -/
def sApp (i : Nat) (fa : Ex) : Ss := fun ρ => match ρ[i]? with
  | some (some (.ow (.list xs))) => (fa ρ).bindS ρ fun r => if xs.length < 16777216 then .nx (ρ.set i (some (.ow (.list (xs ++ [r.pd]))))) else .stuck
  | _ => .stuck
theorem s_app {i : Nat} {x : Str} {p apos cpos : Pos} (hN : X.N[i]? = some x) (hv : Vis X.env.scope x) (hd : (x == ("__debug__" : Str)) = false) (hcd : (x == ("__classdict__" : Str)) = false) (he : EOk X W e fa)
    (hbase : attributeBase (.Name x p) "append" X.env (eval (.Name x p) X.env) = eval (.Name x p) X.env)
    (hfew : ((backTo cpos (starEach [e] X.env)).all (fun x => !x.1) && (backToKw cpos (keywordEach [] X.env)).all (fun x => x.1.isSome) && decide (([e] : List Expr).length + ([] : List Keyword).length + (if ([] : List Keyword).isEmpty then 0 else 1) < 30)) = true)
    (hline : (apos.endLine == cpos.line) = true) (hst : notStar e = true) (hsw : swapsWith (.Call (.Attribute (.Name x p) "append" apos) [e] [] cpos) none pos.line X.env = pure false) :
    SOk X W (.Expr (.Call (.Attribute (.Name x p) "append" apos) [e] [] cpos) pos) (sApp i fa) := fun G =>
  impS (ps_expr (pe_bm PySem.F.plainAttrs_list PySem.F.slot_list_append PySem.F.type_list_append mt_append (pe_var hN hv hd hcd) (pa_cons (he G) pa_nil (star_cons hst _ _)) hbase hfew hline (star_cons hst _ _) (by rfl)) hsw) fun D σ H h => by
    obtain ⟨F, ρ, S, h⟩ := h
    unfold sApp at h
    split at h
    · rename_i xs ei
      obtain ⟨v, e1, a, rfl, h1, h2, h3⟩ := S.at_ i _ ei
      refine ⟨_, e1, ?_⟩
      cases h3 with
      | @lst vs _ h3 h4 =>
        refine ⟨.inl ⟨rfl, vs, .inl (.inl h3)⟩, ?_⟩
        refine use1S (k := fun r => if xs.length < 16777216 then .nx (ρ.set i (some (.ow (.list (xs ++ [r.pd]))))) else .stuck) S h fun F1 H1 y r s1 S1 r1 k1 => ?_
        obtain ⟨F2, s2, S2, r2⟩ := S1.sharing r1
        have rp : Rep X.K X.mg F2 y r.pd := by cases r <;> exact r2
        split at k1
        · rename_i hl
          obtain ⟨w, e2, b, q1, q2, q3, q4⟩ := S2.at_ i _ ei
          rw [e1] at e2
          cases e2
          cases q1
          cases q4 with
          | @lst us _ q4 q5 =>
            refine ⟨a, us, y, rfl, rfl, q4, by rw [sizeLine_eq, q5.len]; exact hl, ?_⟩
            exact k1 F2 _ σ s2 (S2.change ei e1 (.lst upd_same (q5.append (.cons rp .nil))))
        · exact k1.elim
    · exact h.elim
end
end FL
set_option Elab.async false
set_option linter.all false
set_option maxRecDepth 100000
set_option maxHeartbeats 1000000
/-! FL10: loops; x[k] = e -/
namespace FL
open PySem PySem.Spec PyProof.Rows L2

def forL (t : Tg) (body : Ss) : List PD → Ev → RS
  | [], ρ => .nx ρ
  | p :: ps, ρ => match bindT t p ρ with
    | none => .stuck
    | some ρ1 => match body ρ1 with
      | .nx ρ2 => forL t body ps ρ2
      | .ct ρ2 => forL t body ps ρ2
      | .bk ρ2 => .nx ρ2
      | r => r
def sFor (it : Rs) (t : Tg) (body : Ss) : Ss := fun ρ => (it ρ).bindS ρ fun ps => forL t body ps ρ
def whileL (tc : Ts) (body : Ss) : Nat → Ev → RS
  | 0, _ => .stuck
  | n + 1, ρ => (tc ρ).bindS ρ fun b => if b = true then (match body ρ with
      | .nx ρ2 => whileL tc body n ρ2
      | .ct ρ2 => whileL tc body n ρ2
      | .bk ρ2 => .nx ρ2
      | r => r) else .nx ρ
section
variable {X : Cx} {W : WX} {tg iter c : Expr} {bs : List Stmt} {it : Rs} {t : Tg} {f : Ss} {tc : Ts} {pos : Pos}
variable {K : Fg} {mg : Mg} {G F H : Hp} {σ : Sts} {ρ : Ev} {D : Ends}
/-- what a turn's body leaves behind -/
theorem turn_post {rest : Ev → RS} {F1 : Hp} {N : Sts → Hp → Prop} {r : RS} (hN : ∀ F' H' σ' ρ2, Same F1 F' → Sim K mg G F' H' σ' ρ2 → PostS K mg G W F' D (rest ρ2) → N σ' H')
    (h : PostS K mg G W F1 D (match r with
      | .nx ρ2 => rest ρ2
      | .ct ρ2 => rest ρ2
      | .bk ρ2 => .nx ρ2
      | r => r)) : PostS K mg G W F1 { D with nx := N, ct := N, bk := D.nx } r := by
  cases r with
  | nx ρ2 => exact fun F' H' σ' s S => hN F' H' σ' ρ2 s S (PostS.mono h s)
  | ct ρ2 => exact fun F' H' σ' s S => hN F' H' σ' ρ2 s S (PostS.mono h s)
  | bk ρ2 => exact h
  | rt r => exact h
  | exc c p ρ' => exact h
  | stuck => exact h
theorem s_for (hp : PassesOwn (model X.prog X.w) X.A X.env X.xe) (hc : X.calm = true) (hi : IOk X W tg iter it) (hg : GOk X tg t) (hb : BOk X W bs f) (hs : ∀ x, foldedSetIterable iter X.env x = pure x) :
    SOk X W (.For tg iter bs [] pos) (sFor it t f) := fun G => impS (ps_for hp hc (hi G) hg (hb G) hs) fun D σ H h => by
  obtain ⟨F, ρ, S, h⟩ := h
  refine ⟨F, ρ, S, ?_⟩
  unfold sFor at h
  cases e : it ρ with
  | exc c p =>
    rw [e] at h
    exact h σ
  | stuck =>
    rw [e] at h
    exact h
  | ok ps =>
    rw [e] at h
    have h : PostS X.K X.mg G W F D (forL t f ps ρ) := h
    intro F1 H1 J s1 S1 wl
    refine ⟨fun i m σ' H' => ∃ F' ρ', m = ps.length - i ∧ i ≤ ps.length ∧ Same F1 F' ∧ Sim X.K X.mg G F' H' σ' ρ' ∧ PostS X.K X.mg G W F' D (forL t f (ps.drop i) ρ'),
      ⟨ps.length, F1, ρ, by simp, Nat.zero_le _, Same.rfl', S1, by rw [List.drop_zero]; exact PostS.mono h s1⟩, ?_⟩
    rintro i m σ2 H2 ⟨F2, ρ2, rfl, hi, s2, S2, h2⟩
    by_cases hlt : i < ps.length
    · have hp : ps[i]? = some ps[i] := List.getElem?_eq_getElem hlt
      rw [List.drop_eq_getElem_cons hlt] at h2
      unfold forL at h2
      refine .inr ⟨wl.go F2 H2 i s2 S2.sub hlt, fun σ' H' => ∃ F' ρ', Same F1 F' ∧ Sim X.K X.mg G F' H' σ' ρ' ∧ PostS X.K X.mg G W F' D (forL t f (ps.drop (i + 1)) ρ'),
        fun σ' H' ⟨F', ρ', q1, q2, q3⟩ => ⟨ps.length - (i + 1), by omega, F', ρ', rfl, hlt, q1, q2, q3⟩, fun x H3 hy => ?_⟩
      obtain ⟨F3, s3, S3, rx⟩ : ∃ F3, Same F2 F3 ∧ Sim X.K X.mg G F3 H3 σ2 ρ2 ∧ Rep X.K X.mg F3 x ps[i] := by
        rcases wl.yld F2 H2 i x H3 _ s2 S2.sub hp hy with ⟨rfl, r⟩ | ⟨T, xs, ds, hT, rfl, rfl, ep, r⟩
        · exact ⟨F2, Same.rfl', S2, r⟩
        · obtain ⟨t1, t2⟩ := S2.fresh hT
          refine ⟨upd F2 T (.tup xs), Same.new t1, (S2.alloc hT).grow upd_same t1 t2 (S2.apart_new hT), ?_⟩
          rw [ep]
          exact .tup (.inl (.inl upd_same)) (r.mono (Same.new t1))
      refine ⟨G, F3, ρ2, ps[i], S3, rx, ?_⟩
      cases eb : bindT t ps[i] ρ2 with
      | none =>
        rw [eb] at h2
        exact h2
      | some ρ3 =>
        simp only [eb] at h2
        intro σ3 S4 kp
        refine ⟨F3, ρ3, S4, turn_post (rest := fun ρ => forL t f (ps.drop (i + 1)) ρ) (fun F' H' σ' ρ4 s4 S5 h5 => ⟨F', ρ4, fun a o e => s4 a o (s3 a o (s2 a o e)), S5, h5⟩) (PostS.mono h2 s3)⟩
    · have e : i = ps.length := by omega
      subst e
      rw [List.drop_length] at h2
      unfold forL at h2
      exact .inl ⟨wl.stop F2 H2 _ s2 S2.sub (Nat.le_refl _), h2 F2 H2 σ2 Same.rfl' S2⟩
theorem s_while (n : Nat) (hp : PassesOwn (model X.prog X.w) X.A X.env X.xe) (hc : TOk X W c tc) (hb : BOk X W bs f) : SOk X W (.While c bs [] pos) (whileL tc f n) := fun G => impS (ps_while hp (hc G) (hb G)) fun D σ H h => by
  obtain ⟨F, ρ, S, h⟩ := h
  refine ⟨fun m σ' H' => ∃ F' ρ', Same F F' ∧ Sim X.K X.mg G F' H' σ' ρ' ∧ PostS X.K X.mg G W F' D (whileL tc f m ρ'), ⟨n, F, ρ, Same.rfl', S, h⟩, ?_⟩
  rintro m σ1 H1 ⟨F1, ρ1, s1, S1, h1⟩
  cases m with
  | zero => exact h1.elim
  | succ m =>
    unfold whileL at h1
    refine useTS (k := fun b => if b = true then (match f ρ1 with
      | .nx ρ2 => whileL tc f m ρ2
      | .ct ρ2 => whileL tc f m ρ2
      | .bk ρ2 => .nx ρ2
      | r => r) else .nx ρ1) S1 h1 fun F2 H2 b s2 S2 h2 => ?_
    cases b with
    | false =>
      rw [if_neg Bool.false_ne_true] at h2 ⊢
      exact h2 F2 H2 σ1 Same.rfl' S2
    | true =>
      rw [if_pos rfl] at h2 ⊢
      exact ⟨fun σ' H' => ∃ F' ρ', Same F F' ∧ Sim X.K X.mg G F' H' σ' ρ' ∧ PostS X.K X.mg G W F' D (whileL tc f m ρ'), fun σ' H' q => ⟨m, Nat.lt_succ_self m, q⟩, F2, ρ1, S2,
        turn_post (rest := fun ρ => whileL tc f m ρ) (fun F' H' σ' ρ4 s4 S5 h5 => ⟨F', ρ4, fun a o e => s4 a o (s2 a o (s1 a o e)), S5, h5⟩) h2⟩
end

/-! ### x[k] = e, x the owner -/
def subK (i : Nat) (ρ : Ev) (p r k : PD) : RS := match p with
  | .list xs => (match k with
    | .int n => (match ixN xs.length n with
      | some j => .nx (ρ.set i (some (.ow (.list (xs.set j r)))))
      | none => .stuck)
    | _ => .stuck)
  | .dict ((.none, .int 0) :: ps) => if isKeyK k && decide (ps.length < 16777216) then .nx (ρ.set i (some (.ow (dKD (dput ps k r))))) else .stuck
  | _ => .stuck
def sSub (i : Nat) (rk : Rx) (fa : Ex) : Ss := fun ρ => match ρ[i]? with
  | some (some (.ow p)) => (fa ρ).bindS ρ fun r => (rk ρ).bindS ρ fun k => subK i ρ p r.pd k
  | _ => .stuck
theorem RepK.len {K : Fg} {mg : Mg} {F : Hp} : ∀ {v : List (Key × V)} {p : List (PD × PD)}, RepK K mg F v p → v.length = p.length
  | _, _, .nil => rfl
  | _, _, .cons _ r => by rw [List.length_cons, List.length_cons, RepK.len r]
theorem PSet.or {X : Cx} {t u : TSet} (h : PSet X t) (k : PSet X u) : PSet X (fun o i v H Q => t o i v H Q ∨ u o i v H Q) := fun pins s σ H o i v ov iv w Q I r1 r2 r3 q =>
  q.elim (fun q => h pins s σ H o i v ov iv w Q I r1 r2 r3 q) (fun q => k pins s σ H o i v ov iv w Q I r1 r2 r3 q)
theorem s_sub {X : Cx} {W : WX} {i : Nat} {x : Str} {e ke : Expr} {fa : Ex} {rk : Rx} {p tpos pos : Pos} (hu : X.A.units + 1 < cLine) (hN : X.N[i]? = some x) (hv : Vis X.env.scope x) (hd : (x == ("__debug__" : Str)) = false) (hcd : (x == ("__classdict__" : Str)) = false)
    (he : EOk X W e fa) (hk : ROk X W ke rk)
    (ha : ∀ v, assign (.Subscript (.Name x p) ke tpos) X.env v = (do
      let ov ← holding [v] (eval (.Name x p) X.env)
      let iv ← holding [v, ov] (eval ke X.env)
      standAt tpos
      holding [v, ov, iv] (setItem ov iv v)
      release [v, ov, iv] []))
    (hs : swapsWithSole [.Subscript (.Name x p) ke tpos] e pos.line X.env = pure false) (hw : swappedStores [.Subscript (.Name x p) ke tpos] e X.env = pure none) (h1 : (assignEach [.Subscript (.Name x p) ke tpos] X.env).map (·.2) = [assign (.Subscript (.Name x p) ke tpos) X.env]) :
    SOk X W (.Assign [.Subscript (.Name x p) ke tpos] e pos) (sSub i rk fa) := fun G =>
  impS (ps_asg (he G) (pg_sub (pe_var hN hv hd hcd) (hk G) (PSet.or set_list (set_dict hu)) ha) hs hw h1) fun D σ H h => by
    obtain ⟨F, ρ, S, h⟩ := h
    unfold sSub at h
    split at h
    case h_2 => exact h.elim
    rename_i p e2
    refine use1S (k := fun r => (rk ρ).bindS ρ fun k => subK i ρ p r.pd k) S h fun F1 H1 v r s1 S1 r1 h1 => ?_
    obtain ⟨F2, s2, S2, r2⟩ := S1.sharing r1
    have rp : Rep X.K X.mg F2 v r.pd := by cases r <;> exact r2
    have h1 := PostS.mono h1 s2
    obtain ⟨w, e1, a, rfl, _⟩ := S2.at_ i _ e2
    refine ⟨.ref a, e1, F2, ρ, S2, ?_⟩
    cases ek : rk ρ with
    | exc c p =>
      rw [ek] at h1
      exact h1 σ
    | stuck =>
      rw [ek] at h1
      exact h1
    | ok k =>
      rw [ek] at h1
      intro F3 H3 y s3 S3 ry
      have h3 : PostS X.K X.mg G W F3 D (subK i ρ p r.pd k) := PostS.mono h1 s3
      have rv := rp.mono s3
      obtain ⟨w, e4, b, q1, q2, q3, q4⟩ := S3.at_ i _ e2
      rw [e1] at e4
      cases e4
      cases q1
      unfold subK at h3
      split at h3
      · split at h3
        · split at h3
          · rename_i n _ j ej
            obtain rfl := (ry.at_ S3).int_inv
            cases q4 with
            | @lst us _ q4 q5 =>
              rw [← q5.len] at ej
              exact .inl ⟨a, us, n, j, rfl, rfl, q4, ej, h3 F3 _ σ Same.rfl' (S3.change e2 e1 (.lst upd_same (q5.set rv j)))⟩
          · exact h3.elim
        · exact h3.elim
      · split at h3
        · rename_i hk
          rw [Bool.and_eq_true] at hk
          obtain ⟨k', rfl, rfl⟩ := Rep.key (ry.at_ S3) hk.1
          cases q4 with
          | @dK kvs _ q4 q5 =>
            refine .inr ⟨a, _, rfl, DPut.k q4 ?_, h3 F3 _ σ Same.rfl' (S3.change e2 e1 (.dK upd_same (q5.put k' rv)))⟩
            rw [sizeLine_eq, RepK.len q5]
            exact of_decide_eq_true hk.2
        · exact h3.elim
      · exact h3.elim
end FL
set_option Elab.async false
set_option linter.all false
set_option maxRecDepth 100000
set_option maxHeartbeats 1000000
/-! FL11: enumerate of a list, of a tuple -/
namespace FL
open PySem PySem.Spec PyProof.Rows L2

theorem drawsT {prog : Program} {w : World} {A : Around} (hh : A.handled = none) (it l : Addr) (hne : l ≠ it) (items : Array Value) :
    Draws prog w A it [it, l] items.size (fun i v => items[i]? = some v) (fun i h => h.IsTupleIter it l i ∧ h.IsTuple l items) where
  live := fun _ _ st => let ⟨o, ho, _⟩ := st.1; ⟨o, ho⟩
  frame := fun _ _ _ st hk => ⟨st.1.at fun o e => hk it (by simp) o e, by
    obtain ⟨o, e, r⟩ := st.2
    exact ⟨o, hk l (by simp) o e, r⟩⟩
  item := fun i s Q E hi st hQ => by
    refine RZ.nextOf_tuple_item st.1 st.2 (x := items[i]) (by simp [hi]) fun h' hit' hs' => ?_
    exact hQ _ h' s.toks (by simp [hi]) ⟨hit', by
      obtain ⟨o, e, r⟩ := st.2
      exact ⟨o, (hs'.2 l hne).trans e, r⟩⟩ hs'
  done := fun s Q E st hE => RZ.nextOf_tuple_end hh st.1 st.2 (by simp) hE
theorem meets_enumerate_newT (l : Addr) (items : Array Value) :
    Meets (Builtin.«enumerate.__new__» ⟨[.type "enumerate", .ref l], []⟩) (fun _ R s => s.heap.IsTuple l items ∧
      R (.ok (.ret (.ref (s.heap.push { cls := .type "tuple_iterator", data := .fields #[.ref l, .int 0 0] }).objs.size)))
        { s with heap := (s.heap.push { cls := .type "tuple_iterator", data := .fields #[.ref l, .int 0 0] }).push { cls := .type "enumerate", data := .fields #[.none, .bool false, .ref s.heap.objs.size, rawInt 0, .none, .none] } }) :=
  .of_wp fun prog w A R s h => by
    obtain ⟨hp, g, d, tk, os⟩ := s; obtain ⟨hl, h⟩ := h
    have hsub := sub_enumerate
    have hL : Heap.IsTuple (Shared.heap ⟨hp, g, d, tk, os⟩) l items := hl
    obtain ⟨⟨c, dct, dt, sl⟩, hl2, hc, n, hd⟩ := hl
    replace hc : c = .type "tuple" := hc
    replace hd : dt = .seq items n := hd
    subst hc hd
    wp_walk using AutoSeq1.wpAny_loadPart' hl2
    refine wpAny_stack_any fun st => wpAny_pure ?_
    split
    · rename_i c _ _ _ _ _
      cases (c == Value.type "enumerate")
      · wp_walk using AutoSeq1.wpAny_loadPart' hl2, wpAny_pyIter_tuple hL
        exact ⟨_, rfl, h⟩
      · wp_walk using AutoSeq1.wpAny_loadPart' hl2, wpAny_pyIter_tuple hL
        exact ⟨_, rfl, h⟩
    · wp_walk using AutoSeq1.wpAny_loadPart' hl2, wpAny_pyIter_tuple hL
      exact ⟨_, rfl, h⟩
section
variable {prog : Program} {w : World} {A : Around} {E : Value → Shared → Prop} {s : Shared}
theorem call_enumerate_tup {l : Addr} {items : Array Value} {Q : Value → Shared → Prop} (hL : s.heap.IsTuple l items)
    (h : ∀ h', IsEnum h' (s.heap.objs.size + 1) s.heap.objs.size 0 .none → h'.IsTupleIter s.heap.objs.size l 0 → h'.objs.size = s.heap.objs.size + 2 →
      (∀ b o, s.heap.get? b = some o → h'.get? b = some o) → Q (.ref (s.heap.objs.size + 1)) { s with heap := h' }) :
    wpAny (model prog w) A (call (.type "enumerate") [.ref l]) Q E s := by
  refine callType_new F.called_enumerate (by decide) (F.typeCall_enumerate_1 _) (F.newCall_enumerate_1 _) (fun obj => F.args_object_init_2 obj _) F.entry_enumerate_new
    (meets_enumerate_newT l items) ⟨hL, ?_⟩
  have hz : (s.heap.push { cls := .type "tuple_iterator", data := .fields #[.ref l, .int 0 0] }).objs.size = s.heap.objs.size + 1 := Heap.size_push ..
  show _ ∧ _
  rw [hz]
  have he : IsEnum ((s.heap.push { cls := .type "tuple_iterator", data := .fields #[.ref l, .int 0 0] }).push
      { cls := .type "enumerate", data := .fields #[.none, .bool false, .ref s.heap.objs.size, rawInt 0, .none, .none] }) (s.heap.objs.size + 1) s.heap.objs.size 0 .none := by
    have := Heap.get?_push_size (s.heap.push { cls := .type "tuple_iterator", data := .fields #[.ref l, .int 0 0] })
      (o := { cls := .type "enumerate", data := .fields #[.none, .bool false, .ref s.heap.objs.size, rawInt 0, .none, .none] }) rfl
    rw [hz] at this; exact this
  refine ⟨⟨_, he, rfl⟩, h _ he ⟨_, Heap.get?_push_of_some _ (Heap.get?_push_size _ rfl), rfl, rfl⟩ (by rw [Heap.size_push, hz]) fun b o x => Heap.get?_push_of_some _ (Heap.get?_push_of_some _ x)⟩
end
/-- the tuple at a, each item in a new pair -/
def IteT (K : PySem.W.Frag) (a : Addr) : It :=
  ⟨fun i H => ∃ (xs : List V) (x : V), SqT K H a xs ∧ xs[i]? = some x, fun i H v H' => ∃ T x, v = .ref T ∧ H T = none ∧ H' = upd H T (.tup [.int (i : Nat), x]) ∧ ∀ xs, SqT K H a xs → xs[i]? = some x, fun i H => ∃ xs : List V, SqT K H a xs ∧ xs.length ≤ i⟩
theorem turn_enumT {P : Program} {w : World} {K : PySem.W.Frag} {elts : List Expr} {kk : Nat} {tpos : Pos} (a e it : Addr) :
    Turn P w K (.Tuple elts kk tpos) (IteT K a) [e, it] e (fun i h => (∃ old, IsEnum h e it ((i : Nat) : Int) old) ∧ h.IsTupleIter it a i ∧ e ≠ it ∧ e ≠ a ∧ a ≠ it) where
  mem := by simp
  obj := fun i h st b hb => by
    obtain ⟨⟨old, he⟩, ⟨o, ho, hc, hd⟩, _⟩ := st
    have e' : b = e ∨ b = it := by simpa using hb
    rcases e' with z | z
    · rw [z]; exact ⟨_, he, fun v q => nomatch q⟩
    · rw [z]; exact ⟨o, ho, fun v q => by rw [hd] at q; cases q⟩
  keep := fun i h h' st k => let ⟨⟨old, he⟩, hi, hne⟩ := st; ⟨⟨old, k e (by simp) _ he⟩, hi.at fun o q => k it (by simp) o q, hne⟩
  item := by
    intro X hP hw hK hc i pins s σ H E I hf st hg
    subst hP hw hK
    obtain ⟨⟨old, he⟩, hit, hne, hea, hia⟩ := st
    obtain ⟨xs, x, hq, hx⟩ := hg
    obtain ⟨its, rv, p, hz⟩ := I.tuple hq
    obtain ⟨u, hu, ru⟩ := rv.get hx
    have hel : e < s.heap.objs.size := Heap.lt_size he
    have hil : it < s.heap.objs.size := by obtain ⟨_, q, _⟩ := hit; exact Heap.lt_size q
    have pT : s.heap.IsTuple a its.toArray := p
    have hlt : i < its.toArray.size := by
      have := List.getElem?_eq_some_iff.mp hu
      simpa using this.1
    refine wpAny_pyNext_enum_itemD (drawsT (prog := X.prog) (w := X.w) (A := X.A.in1) (show X.A.in1.handled = none from I.ok.hd hc) it a hia its.toArray) he ⟨hit, pT⟩ hlt hne (by simp [hne, hea]) fun x' h' tk hx' ho hit' hT hsz hk => ?_
    have ex' : x' = u := by
      have : its[i]? = some x' := by simpa using hx'
      rw [hu] at this
      exact (Option.some.inj this).symm
    subst ex'
    refine ⟨_, rfl, wpAny_letOwnedTupleGo_enum (s := { s with heap := h', toks := tk + 1 }) ho fun h'' he' sb => ?_⟩
    have hT2 : h''.get? s.heap.objs.size = some { cls := .type "tuple", data := .seq #[.int i tk, x'] } := (sb.2 _ (Nat.ne_of_gt hel)).trans hT
    have new : ObjOk X.prog X.w (upd H s.heap.objs.size (.tup [.int (i : Nat), x])) h'' s.heap.objs.size (.tup [.int (i : Nat), x]) :=
      ⟨by show 2 ≤ sizeLine; decide, [.int i tk, x'], .cons ⟨_, rfl⟩ (.cons ru .nil), ⟨_, hT2, rfl, _, rfl⟩⟩
    have I1 : Inv X pins σ (upd H s.heap.objs.size (.tup [.int (i : Nat), x])) { s with heap := h'', toks := tk + 1 } :=
      I.turnedNew (ch := [e, it]) (fun b ob hb q => (sb.2 b (fun z => hb (by simp [z]))).trans (hk b ob (fun z => hb (by simp [z])) (fun z => hb (by simp [z])) q)) hf (Nat.le_refl _) new
    refine ⟨.ref s.heap.objs.size, _, I1, rfl, ⟨_, x, rfl, I.hok.fresh (Nat.le_refl _), rfl, fun ys hy => by rw [I.tuple_inj hy hq]; exact hx⟩, ⟨⟨x', ?_⟩, hit'.1.at fun o q => (sb.2 it (Ne.symm hne)).trans q, hne, hea, hia⟩, fun b hb => ?_⟩
    · have e1 : ((i + 1 : Nat) : Int) = (i : Int) + 1 := by omega
      rw [e1]; exact he'
    · have hb' : b < s.heap.objs.size := by
        have e' : b = e ∨ b = it := by simpa using hb
        rcases e' with z | z
        · rw [z]; exact hel
        · rw [z]; exact hil
      rw [upd_ne (Nat.ne_of_lt hb')]
      exact (hf b hb).1
  done := by
    intro X hP hw hK hc i pins s σ H E I hf st hg
    subst hP hw hK
    obtain ⟨⟨old, he⟩, hit, hne, hea, hia⟩ := st
    obtain ⟨xs, hq, hx⟩ := hg
    obtain ⟨its, rv, p, hz⟩ := I.tuple hq
    have pT : s.heap.IsTuple a its.toArray := p
    obtain ⟨f0, f1, f2, f3, f4, f5⟩ := hf it (by simp)
    have hl := rv.length
    have hit2 := hit
    have D := drawsT (prog := X.prog) (w := X.w) (A := X.A.in1) (I.ok.hd hc) it a hia its.toArray
    unfold pyNext
    refine wpAny_bind (wpAny_attempt (wpAny_callSpecial?_slot (name := Str.ofString "__next__") (show s.TypeIs (.ref e) "enumerate" from ⟨_, he, rfl⟩) F.slot_enumerate_next
      (wpAny_call_entry F.slot_enumerate_next (show s.TypeIs (.ref e) "enumerate" from ⟨_, he, rfl⟩) F.entry_enumerate_next ?_ (F.args_enumerate_next_1 _))))
    show wpAny _ _ (field (.ref e) 2 >>= _) _ _ _
    refine wpAny_bind (wpAny_field he rfl (x := .ref it) rfl ?_)
    refine wpAny_bind (RZ.nextOf_tuple_end (I.ok.hd hc) hit pT (by simp; omega) fun h' x he' hx' => ?_)
    obtain ⟨o, ho, hc⟩ := hx'
    refine wpAny_bind (wpAny_isInstance (T := "StopIteration") (b := true) ⟨o, ho, hc⟩ isSubtype_stop ?_)
    exact wpAny_pure ⟨rfl, I.turned (t' := s.toks) (fun b o hb q => he' b o hb q) f0 f1 f3 f4 f5⟩
  self := fun A i s Q E st h => let ⟨⟨_, he⟩, _⟩ := st; wpAny_pyIter_enum he h
def iEnumA (K : PySem.W.Frag) (ta : TA) : TI := fun σ H R => ta σ H fun vs H1 => ∃ a xs, vs = [.ref a] ∧ ((SqL K H1 a xs ∧ R (Ite K a) H1) ∨ (SqT K H1 a xs ∧ R (IteT K a) H1))
theorem pi_enumA {X : Cx} {e : Expr} {ta : TA} {p pos tpos : Pos} {elts : List Expr} {kk : Nat} (hg : Gl X "enumerate") (hm : X.mg "enumerate" = none) (ha : PA X [e] ta) (hs : starEach [e] X.env = [(false, eval e X.env)]) :
    PI X (.Tuple elts kk tpos) (.Call (.Name "enumerate" p) [e] [] pos) (iEnumA X.K ta) := by
  refine ⟨fun pins s σ H R I h => ?_⟩
  refine Call_ (ld_blt I hg hm boot_enumerate (PyProof.Rows.callWith_type1 (thn (ha.run pos pins s σ H _ I h) fun us s1 ⟨vs, H1, I1, r1, q1⟩ => ?_) hs rfl))
  obtain ⟨a, xs, ex, q1⟩ := q1
  subst ex
  cases r1 with
  | cons r rr =>
    cases rr
    cases r
    have fr : ∀ b ∈ [s1.heap.objs.size + 1, s1.heap.objs.size], FpOk X pins H1 b := fun b hb => by
      have e' : b = s1.heap.objs.size + 1 ∨ b = s1.heap.objs.size := by simpa using hb
      have hle : s1.heap.objs.size ≤ b := by
        rcases e' with z | z
        · rw [z]; exact Nat.le_add_right _ _
        · rw [z]; exact Nat.le_refl _
      exact I1.fpOk hle (I1.hok.fresh hle)
    rcases q1 with ⟨hq, q⟩ | ⟨hq, q⟩
    · obtain ⟨its, rv, p', hz⟩ := I1.list hq
      refine call_enumerate_list p'.isList fun h' he hit hsz hk => wpAny_pyIter_enum he ?_
      have I2 : Inv X pins σ H1 { s1 with heap := h' } := I1.kept (t' := s1.toks) hk
      exact ⟨s1.heap.objs.size + 1, [s1.heap.objs.size + 1, s1.heap.objs.size], _, _, H1, rfl, I2, turn_enum a (s1.heap.objs.size + 1) s1.heap.objs.size, ⟨⟨.none, he⟩, hit, Nat.succ_ne_self _⟩, fr, q⟩
    · obtain ⟨its, rv, p', hz⟩ := I1.tuple hq
      have pT : s1.heap.IsTuple a its.toArray := p'
      have hal : a < s1.heap.objs.size := by obtain ⟨o, ho, _⟩ := pT; exact Heap.lt_size ho
      refine call_enumerate_tup pT fun h' he hit hsz hk => wpAny_pyIter_enum he ?_
      have I2 : Inv X pins σ H1 { s1 with heap := h' } := I1.kept (t' := s1.toks) hk
      exact ⟨s1.heap.objs.size + 1, [s1.heap.objs.size + 1, s1.heap.objs.size], _, _, H1, rfl, I2, turn_enumT a (s1.heap.objs.size + 1) s1.heap.objs.size, ⟨⟨.none, he⟩, hit, Nat.succ_ne_self _, Nat.ne_of_gt (Nat.lt_succ_of_lt hal), Nat.ne_of_lt hal⟩, fr, q⟩
theorem wlk_enumT {K : Fg} {mg : Mg} {F : Hp} {v : Addr} {vs : List V} {xs : List PD} (h : SqT K F v vs) (r : Reps K mg F vs xs) : Wlk K mg (IteT K v) (enumP 0 xs) F where
  go := fun F' H i s1 s2 hi => by
    rw [enumP_len, ← r.len] at hi
    have q1 := s2.sqT (same_sqT s1 h)
    exact ⟨vs, _, q1, List.getElem?_eq_getElem (by omega)⟩
  stop := fun F' H i s1 s2 hi => by
    rw [enumP_len, ← r.len] at hi
    have q1 := s2.sqT (same_sqT s1 h)
    exact ⟨vs, q1, hi⟩
  yld := fun F' H i x H' p s1 s2 hp y => by
    obtain ⟨a, e1, rfl⟩ := enumP_get _ _ _ _ hp
    have q1 := s2.sqT (same_sqT s1 h)
    obtain ⟨T, x1, rfl, hT, rfl, f1⟩ := y
    have g1 := f1 vs q1
    obtain ⟨u, e3, r3⟩ := r.get e1
    rw [g1] at e3
    cases e3
    rw [Nat.zero_add]
    exact .inr ⟨T, _, _, hT, rfl, rfl, rfl, .cons (.int _) (.cons (r3.mono s1) .nil)⟩
def enumI : List PD → Res (List PD)
  | [.list xs] => .ok (enumP 0 xs)
  | [.tuple xs] => .ok (enumP 0 xs)
  | _ => .stuck
theorem i_enum {X : Cx} {W : WX} {a : Expr} {ta : As} {p pos tpos : Pos} {elts : List Expr} {kk : Nat} (hg : Gl X "enumerate") (hm : X.mg "enumerate" = none) (ha : AOk X W [a] ta) (hs : notStar a = true) : IOk X W (.Tuple elts kk tpos) (.Call (.Name "enumerate" p) [a] [] pos) (callI enumI ta) := fun G =>
  PI.imp (pi_enumA hg hm (ha G) (star_cons hs [] X.env)) fun σ H R h => by
    obtain ⟨F, ρ, S, h⟩ := h
    refine useAI (g := enumI) S h fun F1 H1 vs ps s1 S1 r1 h1 => ?_
    unfold enumI at h1
    split at h1
    · obtain ⟨v, rfl, r2⟩ := r1.one_inv
      obtain ⟨a, us, rfl, q1, q2⟩ := r2.lst_inv
      exact ⟨a, us, rfl, .inl ⟨.inl (.inl (S1.sub.lst q1)), h1 F1 H1 _ Same.rfl' S1 (wlk_enum q1 q2)⟩⟩
    · obtain ⟨v, rfl, r2⟩ := r1.one_inv
      obtain ⟨a, us, rfl, q1, q2⟩ := r2.tup_inv
      exact ⟨a, us, rfl, .inr ⟨S1.sub.sqT q1, h1 F1 H1 _ Same.rfl' S1 (wlk_enumT q1 q2)⟩⟩
    · exact h1.elim
end FL
set_option Elab.async false
set_option linter.all false
set_option maxRecDepth 100000
set_option maxHeartbeats 2000000
/-! FL12: an own exception below ValueError whose __init__ says super().__init__(at); self.at = at -/
namespace PySem
namespace AtX
open PySem.W PySem.Calls PyProof.Rows PySem.HandSPX
def aA (p1 p2 : Pos) : Arguments := { posonlyargs := [], args := [{ arg := "self", annotation := none, pos := p1 }, { arg := "at", annotation := none, pos := p2 }], vararg := none, kwonlyargs := [], kw_defaults := [], kwarg := none, defaults := [] }
def aB (q1 q2 q3 q4 q5 q6 q7 q8 q9 q10 : Pos) : List Stmt := [.Expr (.Call (.Attribute (.Call (.Name "super" q1) [] [] q2) "__init__" q3) [.Name "at" q4] [] q5) q6, .Assign [.Attribute (.Name "self" q7) "at" q8] (.Name "at" q9) q10]
def aS : Scope := { kind := .function, names := [(PySem.Str.ofString "self", .local), (PySem.Str.ofString "at", .local), (PySem.Str.ofString "__class__", .free), (PySem.Str.ofString "super", .globalImplicit)], isGenerator := false, isCoroutine := false, more := [] }
theorem along_init (K : W.Frag) : W.alongIn K "__init__" [.type "ValueError", .type "Exception", .type "BaseException", .type "object"] = some (some (.builtin "ValueError.__init__")) := by kernel_rfl
theorem one_size (v : Value) : [v].length ≤ sizeLine := by
  rw [sizeLine_eq]
  exact (by decide : 1 ≤ 16777216)
/-- the call stands on one line -/
def MethForm (q1 q2 q3 q4 q5 : Pos) : Prop := ∃ pl : Env → Sem Bool, ∀ env : Env, eval (.Call (.Attribute (.Call (.Name "super" q1) [] [] q2) "__init__" q3) [.Name "at" q4] [] q5) env = (do
      let ov ← attributeBase (.Call (.Name "super" q1) [] [] q2) "__init__" env (eval (.Call (.Name "super" q1) [] [] q2) env)
      standAt q3.atName
      let (f, first) ← holding [ov] (getMethod ov "__init__" (pl env))
      callWith q5 f first (backTo q5 (starEach [.Name "at" q4] env)) [])
theorem methForm : MethForm ⟨5, 8, 5, 13⟩ ⟨5, 8, 5, 15⟩ ⟨5, 8, 5, 24⟩ ⟨5, 25, 5, 27⟩ ⟨5, 8, 5, 28⟩ := ⟨_, fun env => rfl⟩
/-- what the written part says of the class at C and of __init__, at fI, of its base at D -/
structure AtTxt (P : Program) (K : Frag) (mg : Str → Option Value) (cn : Str) (C D fI : Addr) : Prop where
  gC : mg cn = some (.ref C)
  cls : ∃ nm q N bs bm sn sub ab col dd k0 k1 k2 k3 k5, K.lookup C = some (excClassObj nm q C N bs bm true sn sub ab col dd k0 k1 k2 k3 k5 "ValueError.__new__") ∧ refsVE bm = true
  sa : findIn K (.ref C) "__setattr__" = some (some (.builtin "object.__setattr__"))
  ga : findIn K (.ref C) "__getattribute__" = some (some (.builtin "BaseException.__getattribute__"))
  gg : findIn K (.ref C) "__getattr__" = some none
  noN : findIn K (.ref C) "at" = some none
  iC : findIn K (.ref C) "__init__" = some (some (.ref fI))
  tC : typeIn K (.ref fI) = some (.type "function")
  kC : keepIn K (.ref C) = true
  exC : subIn K (.ref C) (.type "BaseException") = some true
  veC : subIn K (.ref C) (.type "ValueError") = some true
  tyC : typeIn K (.ref C) = some (.type "type")
  hdC : hasDictIn K C = true
  mD : mroIn K C (.ref D) = some true
  cD : (clsIn K D).isSome = true
  sD : ks_superIn K C D "__init__" = some (some (.builtin "ValueError.__init__"))
  st : nsIn K cStatics "thirdparty.any" = some none
  sup : nsIn K mainGlobals "super" = some none
  top : (P.main.scope.names.lookup ("super" : Str)).isSome = false
  fn : ∃ (oc : Value) (od : Option Addr) (doc pm : Value) (an : Option Addr) (cda cc : Addr) (ct : Value) (osl : Array (Option Value)) (p1 p2 q1 q2 q3 q4 q5 q6 q7 q8 q9 q10 : Pos) (ccl : Value) (cdd : Option Addr) (vs : Array Value) (ccs : Array (Option Value)) (file : Str) (tf : Tok) (cl : Value) (cld : Option Addr) (csl : Array (Option Value)),
    K.lookup fI = some ⟨oc, od, .func (ksFn "__init__" "DrawError.__init__" (aA p1 p2) (aB q1 q2 q3 q4 q5 q6 q7 q8 q9 q10) aS .none .none doc pm an (.ref cda) ct cc), osl⟩ ∧ codeIn K (.ref cda) "DrawError.__init__" = true ∧
    K.lookup cda = some ⟨ccl, cdd, .fields vs, ccs⟩ ∧ vs[2]? = some (.str file tf) ∧ ((P.main.file : Str) == file) = true ∧ K.lookup cc = some ⟨cl, cld, .cell (some (.ref D)), csl⟩ ∧ MethForm q1 q2 q3 q4 q5
/-- what __init__ leaves of a fresh exception at x -/
structure InitEnd (h h' : Heap) (x C dx : Addr) (v : Value) : Prop where
  keep : ∀ b o, b ≠ x → h.get? b = some o → h'.get? b = some o
  obj : ∃ t1, h'.get? x = some { cls := .ref C, dict := some dx, data := .fields #[.ref t1, .none, .none, .none, .bool false, .none] }
  dbig : h.objs.size ≤ dx
  dne : dx ≠ x
  ns : h'.Ns1 dx (fun y => if y = "at" then some v else none)
structure OwnMade (h h' : Heap) (e C d : Addr) (v : Value) : Prop where
  keep : ∀ b o, h.get? b = some o → h'.get? b = some o
  new : h.objs.size ≤ e
  obj : ∃ oe vs, h'.get? e = some oe ∧ oe.cls = .ref C ∧ oe.dict = some d ∧ oe.data = .fields vs ∧ vs[1]? = some .none
  dbig : h.objs.size ≤ d
  dne : d ≠ e
  ns : h'.Ns1 d (fun y => if y = "at" then some v else none)
section
variable {prog : Program} {w : World} {M : Model} {A : Around} {E : Value → Shared → Prop} {R : Result → Shared → Prop} {h : Heap} {g : Array GenState} {d : Drawn} {t : Nat} {os : OsState} {K : Frag} {mg mb : Str → Option Value} {cn : Str} {C D fI : Addr}
variable {nm q : Str} {N : Addr} {bs bm : List Value} {hdct : Bool} {sn : List Str} {sub : List Value} {ab : Bool} {col : Option Bool} {dd : Option Addr} {k0 k1 k2 k3 k5 : Option Value}
theorem at_call {s : Shared} {pos : Pos} {u x : Addr} {env : Env} {e : Expr} {rest : List Expr} {Q : Value → Shared → Prop}
    (h : wpAny M A (spliced (backTo pos (starEach (e :: rest) env))) (fun vs s₁ => KxsAt "ValueError.__init__" u x s₁.heap ∧ wpAny M A (call (.ref u) vs) Q E s₁) E s)
    (he : starEach (e :: rest) env = (false, eval e env) :: starEach rest env) (hplain : (backTo pos (starEach rest env)).any (·.1) = false) :
    wpAny M A (callWith pos (.ref u) [] (backTo pos (starEach (e :: rest) env)) []) Q E s := by
  rw [he] at h ⊢
  refine kxs_callWith (i := "ValueError.__init__") (x := x) (by show (false || (backTo pos (starEach rest env)).any (·.1)) = false; rw [hplain]; rfl) ?_
  exact Calls.evalArgs_plain h
theorem ldL {s : Shared} {env : Env} {m : Str → Option Value} {x : Str} {pos : Pos} {v : Value} {Q : Value → Shared → Prop} (hn : s.heap.Ns env.locals m) (hv : m x = some v) (h : Q v s)
    (hk : env.scope.kind = .function) (hl : env.kindOf x = some .local) (hd : (x == ("__debug__" : Str)) = false := by decide) : wpAny M A (eval (.Name x pos) env) Q E s := wpAny_Name (wpAny_loadName_local hk hl hn hv h) hd
theorem call_mw {u e t0 : Addr} {rest : List Value} {Q : Value → Shared → Prop}
    (hC : h.get? C = some (excClassObj nm q C N bs bm hdct sn sub ab col dd k0 k1 k2 k3 k5 "ValueError.__new__")) (he : h.get? e = some (excO C t0)) (hu : h.get? u = some (kxs_mw "ValueError.__init__" e)) (hrest : rest.length ≤ sizeLine)
    (hq : ∀ h' t1, (∀ b o, b ≠ e → h.get? b = some o → h'.get? b = some o) → h'.get? e = some (excO C t1) → Q .none ⟨h', g, d, t, os⟩) :
    wpAny (model prog w) A (call (.ref u) rest) Q E ⟨h, g, d, t, os⟩ := by
  refine wpAny_call (codeAny_of_tree ?_)
  show wpAny _ A.in1 (callAny (.ref u) ⟨rest, []⟩) _ _ _
  simp only [callAny]
  refine wpAny_bind (wpAny_load hu ?_)
  simp only [kxs_mw, show (Value.type "method-wrapper" == Value.type "method" || Value.type "method-wrapper" == Value.type "builtin_function_or_method" || Value.type "method-wrapper" == Value.type "method-wrapper") = true by decide, if_true]
  refine W.KFB.if_so (by decide) ?_
  refine wpAny_bind (check_bound_init F.excBase_ValueError.toExcCallFacts hC he rfl ?_)
  refine wpAny_bind (wpAny_pure (wpAny_pure ?_))
  refine ⟨plainId_quiet F.excBase_ValueError.init.plain _, codeAny_builtin F.excBase_ValueError.initEntry ?_⟩
  rw [Around.under_plainId F.excBase_ValueError.init.plain _]
  wp_walk
  refine hq _ h.objs.size (fun b o hb ho => ?_) ?_
  · rw [Heap.get?_update_other _ _ (Ne.symm hb)]
    exact Heap.get?_push_of_some _ ho
  · rw [Heap.get?_update_self _ (Heap.get?_push_of_some _ he) rfl]
    rfl
end
section
variable {prog : Program} {w : World} {A : Around} {E : Value → Shared → Prop} {R : Result → Shared → Prop} {s : Shared} {K : Frag} {mg mb : Str → Option Value} {cn : Str} {C D fI : Addr}
theorem at_init (T : AtTxt prog K mg cn C D fI) {x t0 : Addr} {v : Value} (X : K.In s.heap) (hlim : s.heap.NoLimit) (hg : s.heap.Ns mainGlobals mg) (hb : s.heap.Ns builtinsNs mb) (hmb : mb "super" = some (.type "super")) (hx : s.heap.get? x = some (excO C t0)) (hnx : K.lookup x = none) (hroom : A.depth < recursionLimit)
    (hq : ∀ h' tk dx, InitEnd s.heap h' x C dx v → R (.ok (.ret .none)) { s with heap := h', toks := tk }) :
    codeAny (model prog w) A (.call (.ref fI) ⟨[.ref x, v], []⟩) R s := by
  obtain ⟨oc, od, doc, pm, an, cda, cc, ct, osl, p1, p2, q1, q2, q3, q4, q5, q6, q7, q8, q9, q10, ccl, cdd, vs, ccs, file, tf, cl, cld, csl, ho, hcd, hcode, hvs, hfile, hcell, ⟨pl, hform⟩⟩ := T.fn
  obtain ⟨nm, q, N, bs, bm, sn, sub, ab, col, dd, k0, k1, k2, k3, k5, hC, hbm⟩ := T.cls
  have hcl : clsIn K C = some { name := nm, bases := bs, mro := .ref C :: bm, ns := N, qualname := q, hasDict := true, slotNames := sn, subclasses := sub, abstract := ab, collection := col, hasDel := false } := by unfold clsIn; rw [hC] <;> rfl
  obtain ⟨cdD, hcD⟩ := Option.isSome_iff_exists.mp T.cD
  refine ks_codeAny_call_defAt (fd := ksFn "__init__" "DrawError.__init__" (aA p1 p2) (aB q1 q2 q3 q4 q5 q6 q7 q8 q9 q10) aS .none .none doc pm an (.ref cda) ct cc) (binds := [("self", .ref x), ("at", v)]) hroom (X _ _ ho) rfl hlim (codeRec_of X hcd) rfl
    (BindsTo.of_eq (by first | rfl | with_unfolding_all rfl)) (show ∀ x ∈ aS.names, x.2 ≠ .cell by decide) (fun y hy => by
      simp only [List.mem_cons, List.not_mem_nil, or_false] at hy
      rcases hy with rfl | rfl
      · show aS.names.lookup ("self" : Str) = some .local
        decide
      · show aS.names.lookup ("at" : Str) = some .local
        decide) (fun h₁ hn k => ?_) rfl rfl rfl
  have X₁ : K.In h₁ := X.keeps k
  have hx₁ := k _ _ hx
  have I₁ : InstAt h₁ x (excO C t0) C none := ⟨hx₁, rfl, rfl, trivial⟩
  -- super().__init__(at)
  show PySem.wpAt _ _ _ (execs (aB q1 q2 q3 q4 q5 q6 q7 q8 q9 q10) _) _ _ _
  refine ks_wpAt_execs_cons (ks_wpAt_Expr_any (ks_wpAt_MethodCall ?_ (hform _)))
  · obtain ⟨oD, hD1, hD2⟩ : ∃ oD, h₁.get? D = some oD ∧ oD.data = .cls cdD := by
      unfold clsIn at hcD
      split at hcD
      · rename_i ho
        cases hcD
        exact ⟨_, X₁ _ _ ho, rfl⟩
      · cases hcD
    refine ks_wpAt_super_base (ar := { arg := "self", annotation := none, pos := p1 }) (by first | rfl | with_unfolding_all rfl | kernel_rfl) (by first | rfl | with_unfolding_all rfl | kernel_rfl) (by decide) rfl (X₁ _ _ ho) rfl rfl rfl (X₁ _ _ hcode) rfl hvs hfile T.top ?_
    refine ks_loadName_global rfl (by first | rfl | with_unfolding_all rfl | kernel_rfl) (loadGlobal_builtin (hg.keeps k) (mg_none_of X hg T.sup) (hb.keeps k) hmb ⟨rfl, ?_⟩)
    refine wpAny_loadName_free rfl (by first | rfl | with_unfolding_all rfl | kernel_rfl) rfl ⟨_, X₁ _ _ hcell, rfl⟩ ?_
    refine wpAny_loadName_local rfl (by first | rfl | with_unfolding_all rfl | kernel_rfl) hn (v := .ref x) (by first | rfl | with_unfolding_all rfl | kernel_rfl) ?_
    refine ks_wpAny_isType_cls hD1 hD2 ⟨rfl, ?_⟩
    refine ks_wpAny_call_super hD1 hD2 I₁.at_ I₁.cls (fun c e => ?_) (looks_mroIn X₁ T.mD) (fun h₂ e₂ k₂ => ?_)
    · cases e
    have X₂ : K.In h₂ := X₁.keeps k₂
    have hx₂ := k₂ _ _ hx₁
    have I₂ : InstAt h₂ x (excO C t0) C none := ⟨hx₂, rfl, rfl, trivial⟩
    have hs := T.sD
    unfold ks_superIn at hs
    rw [hcl] at hs
    refine kxs_getMethod kxs_ValueError e₂ (looks_opaque X₂ T.st) (l₀ := .ref C :: bm) ?_ rfl X₂ hs ?_ (ks_ne X₂ I₂ hcl) (by decide) ?_
    · exact fun A Q E s k q => wpAny_bind ((looks_clsIn X₂ hcl) A _ E s k (wpAny_pure q))
    · exact I₂.type.andThen (looks_subIn X₂ T.veC)
    have hn₂ := hn.keeps k₂
    have kp : ∀ b o, h₂.get? b = some o → (h₂.push (kxs_mw "ValueError.__init__" x)).get? b = some o := fun b o e => Heap.get?_push_of_some _ e
    have hn₃ := hn₂.keeps kp
    refine at_call (x := x) ?_ rfl rfl
    refine PyProof.Rows.spliced_more (ldL (v := v) hn₃ (by first | rfl | with_unfolding_all rfl | kernel_rfl) (Calls.spliced_nil ?_) rfl (by first | rfl | with_unfolding_all rfl | kernel_rfl))
    have hu : (h₂.push (kxs_mw "ValueError.__init__" x)).get? h₂.objs.size = some (kxs_mw "ValueError.__init__" x) := Heap.get?_push_size _ rfl
    refine ⟨hu, call_mw (X₂.keeps kp _ _ hC) (kp _ _ hx₂) hu (one_size v) fun h₄ t1 k₄ hx₄ => ?_⟩
    have xL : s.heap.objs.size ≠ x := Nat.ne_of_gt (Heap.lt_size hx)
    have hn₄ : h₄.Ns s.heap.objs.size fun y => List.lookup y [(Str.ofString "self", Value.ref x), (Str.ofString "at", v)].reverse := by
      obtain ⟨oL, es, ep, hL, r⟩ := hn₃
      exact ⟨oL, es, ep, k₄ _ _ xL hL, r⟩
    have keep : ∀ b o, b ≠ x → s.heap.get? b = some o → h₄.get? b = some o := fun b o hb e => k₄ b o hb (kp _ _ (k₂ _ _ (k _ _ e)))
    have X₄ : K.In h₄ := fun a o e => keep a o (fun z => by rw [z, hnx] at e; cases e) (X _ _ e)
    -- self.at = at
    show PySem.wpAt _ _ _ (execs _ _) _ _ _
    refine ks_wpAt_execs_cons (ks_wpAt_Assign_Attr (wpAt_of_wpAny ?_))
    refine ldL (v := v) hn₄ (by first | rfl | with_unfolding_all rfl | kernel_rfl) ?_ rfl (by first | rfl | with_unfolding_all rfl | kernel_rfl)
    refine ldL (v := .ref x) hn₄ (by first | rfl | with_unfolding_all rfl | kernel_rfl) ?_ rfl (by first | rfl | with_unfolding_all rfl | kernel_rfl)
    refine set_plain X₄ (ox := excO C t1) (od := none) ⟨hx₄, rfl, rfl, trivial⟩ T.sa ?_
    refine exc_osa X₄ hx₄ hcl (show refsVE (.ref C :: bm) = true from hbm) rfl T.noN (fun h₅ tk₅ dx k₅ dn dne hx₅ hn₅ => ?_)
    refine wpAt_of_wpAny (wpAny_execs_nil ?_)
    obtain ⟨oL, _, _, hL, _⟩ := hn₄
    refine hq h₅ tk₅ dx ⟨fun b o hb e => k₅ b o hb (keep b o hb e), ⟨t1, hx₅⟩, Nat.le_of_lt (Nat.lt_of_lt_of_le (Heap.lt_size hL) dn), dne, hn₅⟩
theorem at_made (T : AtTxt prog K mg cn C D fI) {v : Value} (X : K.In s.heap) (hlim : s.heap.NoLimit) (hg : s.heap.Ns mainGlobals mg) (hb : s.heap.Ns builtinsNs mb) (hmb : mb "super" = some (.type "super")) (hroom : A.depth + 1 < recursionLimit)
    (hq : ∀ h' tk e d, OwnMade s.heap h' e C d v → R (.ok (.ret (.ref e))) { s with heap := h', toks := tk }) :
    codeAny (model prog w) A (.call (.ref C) ⟨[v], []⟩) R s := by
  obtain ⟨nm, q, N, bs, bm, sn, sub, ab, col, dd, k0, k1, k2, k3, k5, hC, hbm⟩ := T.cls
  obtain ⟨hp, g, dr, tk, os⟩ := s
  have k : ∀ b o, hp.get? b = some o → ((hp.push (kdv_tup [v])).push (excO C hp.objs.size)).get? b = some o := fun b o e => Heap.get?_push_of_some _ (Heap.get?_push_of_some _ e)
  have hget : ((hp.push (kdv_tup [v])).push (excO C hp.objs.size)).get? (hp.objs.size + 1) = some (excO C hp.objs.size) := by heap_get
  have hnx : K.lookup (hp.objs.size + 1) = none := by
    cases e : K.lookup (hp.objs.size + 1) with
    | none => rfl
    | some o =>
      have z : hp.get? (hp.objs.size + 1) = some o := X _ _ e
      exact absurd (Nat.lt_of_succ_lt (Heap.lt_size z)) (Nat.lt_irrefl _)
  refine call_own F.excBase_ValueError (fun X => refsVE_contains X bm hbm) (X _ _ hC) (looks_findIn X T.iC) (fun self => bind_fn X self T.tC) (one_size v) ?_
  refine at_init (s := ⟨(hp.push (kdv_tup [v])).push (excO C hp.objs.size), g, dr, tk, os⟩) T (X.keeps k) (hlim.keeps k) (hg.keeps k) (hb.keeps k) hmb hget hnx ?_ fun h' tk' dx ⟨k', ⟨t1, hx⟩, dn, dne, hns⟩ => ?_
  · show A.depth + 1 < recursionLimit
    exact hroom
  · have old : ∀ b o, hp.get? b = some o → h'.get? b = some o := fun b o e => k' b o (Nat.ne_of_lt (Nat.lt_succ_of_lt (Heap.lt_size e))) (k b o e)
    have z : hp.objs.size + 1 + 1 ≤ dx := by
      first
        | (simpa only [Heap.size_push] using dn)
        | exact dn
        | (have q := dn; rw [Heap.size_push, Heap.size_push] at q; exact q)
    exact ⟨rfl, hq h' tk' (hp.objs.size + 1) dx ⟨old, Nat.le_succ _, ⟨_, _, hx, rfl, rfl, rfl, rfl⟩, Nat.le_trans (Nat.le_trans (Nat.le_succ _) (Nat.le_succ _)) z, dne, hns⟩⟩
end
end AtX
end PySem
namespace FL
open PySem PySem.Spec PyProof.Rows L2
theorem relO_at {v : V} {v' : Value} (r : RelV v v') (f : Str) : RelO (List.lookup f [(("at" : Str), v)]) (if f = "at" then some v' else none) := by
  by_cases hw : f = "at"
  · subst hw
    rw [if_pos rfl]
    have q : List.lookup ("at" : Str) [(("at" : Str), v)] = some v := by simp [List.lookup]
    rw [q]
    exact r
  · rw [if_neg hw]
    have qw : (f == ("at" : Str)) = false := by simpa using hw
    have q2 : List.lookup f [(("at" : Str), v)] = none := by simp [List.lookup, qw]
    rw [q2]
    trivial
section
variable {X : Cx} {cn : Str} {C D fI : Addr}
/-- C(e) -/
def tMkAt (C : Addr) (ta : TA) : Sts → Hp → XK → Prop := fun σ H Q => ta σ H fun vs H1 => ∃ v, vs = [v] ∧ ∀ d, H1 d = none → Q (.ref C) (some d) (upd H1 d (.xd [(("at" : Str), v)]))
theorem pmk_at {a : Expr} {ta : TA} {p pos : Pos} {k : Nat} (T : PySem.AtX.AtTxt X.prog X.K X.mg cn C D fI) (hr : Room k X.A) (ha : PA X [a] ta) (hg : Gl X cn) (hs0 : X.mg "super" = none) (hd : (cn == ("__debug__" : Str)) = false)
    (he : starEach (a :: []) X.env = (false, eval a X.env) :: starEach [] X.env) (hpl : (backTo pos (starEach [] X.env)).any (·.1) = false) :
    PMk X (.Call (.Name cn p) [a] [] pos) (tMkAt C ta) := by
  intro pins s σ H Q I h
  refine wpAny_Call_Name_kw (ld_glob I hg T.gC ?_ hd)
  refine PySem.W.callWith_K (h₀ := X.base) I.ok.mod.kin T.kC (thn (ha.run pos pins s σ H _ I h) fun us s1 hh => ?_) he hpl
  obtain ⟨vs, H1, I1, r1, v, ev, q1⟩ := hh
  subst ev
  refine ⟨I1.kIn, ?_⟩
  cases r1 with
  | cons rv rn =>
    rename_i v' us'
    cases rn
    show wpAny _ _ (call (.ref C) [v']) _ _ _
    have hlim := I1.nolimit
    obtain ⟨mb, hb, hb2⟩ := I1.mod.blt
    have hgl := I1.mod.glob.keeps I1.bk
    have hbl := hb.keeps I1.bk
    obtain ⟨hp, g, dr, tk, os⟩ := s1
    refine wpAny_call (PySem.AtX.at_made T I1.kIn hlim hgl hbl ((hb2 _ (by decide)).trans (by decide +kernel)) (by have := hr.dp; omega) fun h' tk' e d M => ?_)
    show MkP X pins σ Q (.ref e) ⟨h', g, dr, tk', os⟩
    obtain ⟨oe, fv, hoe, hc, hd, hdat, h1⟩ := M.obj
    have hns := M.ns
    obtain ⟨G', g1, g2⟩ := restrict h' fun b => decide (b ≠ e)
    have gk : ∀ b, b ≠ e → G'.get? b = h'.get? b := fun b hb => g1 b (decide_eq_true hb)
    have ge : G'.get? e = none := g2 e (by simp)
    have old : ∀ b o, hp.get? b = some o → G'.get? b = some o := fun b o q => (gk b (Nat.ne_of_lt (Nat.lt_of_lt_of_le (Heap.lt_size q) M.new))).trans (M.keep b o q)
    have ob : ObjOk X.prog X.w (upd H1 d (.xd [(("at" : Str), v)])) G' d (.xd [(("at" : Str), v)]) :=
      ⟨_, hns.at (fun o q => (gk d M.dne).trans q), fun f => relO_at rv f⟩
    have J : Inv X pins σ (upd H1 d (.xd [(("at" : Str), v)])) ⟨G', g, dr, tk', os⟩ := I1.laid (t' := tk') old M.dbig ob
    refine ⟨e, oe, fv, ⟨G', g, dr, tk', os⟩, _, .ref C, some d, rfl, J, fun b o q => ?_, ge, hoe, ⟨hc, hd⟩, hdat, h1, ?_, rfl, I1.bare, raises_own T.exC T.tyC, q1 d (I1.hok.fresh M.dbig)⟩
    · by_cases hb : b = e
      · have q' : G'.get? b = some o := q
        rw [hb, ge] at q'; cases q'
      · exact (gk b hb).symm.trans q
    · rw [upd_ne (Ne.symm M.dne)]
      exact I1.hok.fresh M.new
end
end FL
set_option Elab.async false
set_option linter.all false
set_option maxRecDepth 100000
set_option maxHeartbeats 2000000
/-! FL12b: own exceptions as values: e.at, C(n), isinstance -/
namespace FL
open PySem PySem.Spec PyProof.Rows L2

theorem RdR.exc_inv {K : Fg} {mg : Mg} {F H : Hp} {v : V} {c : Str} {p : PD} (s : Sub F H) (h : RdR K mg F H v (.dict [(.none, .tuple [.str c, p])])) :
    ∃ (a d C : Addr) (x : V) (oe : Obj) (vs : Array Value), v = .ref a ∧ mg c = some (.ref C) ∧ F a = some (.frz oe (.own a)) ∧ H a = some (.frz oe (.own a)) ∧ oe.cls = .ref C ∧ oe.dict = some d ∧ oe.data = .fields vs ∧ H d = some (.xd [(("at" : Str), x)]) ∧ Rep K mg F x p := by
  rcases h with h | ⟨a, rfl, h⟩
  · cases h with
    | exc h1 h2 h3 h4 h5 h6 r => exact ⟨_, _, _, _, _, _, rfl, h1, h2, s.frz h2, h3, h4, h5, s.xd h6, r⟩
  · cases h
section
variable {X : Cx} {W : WX}
/-- a tracked own exception, as the kit's rules want it -/
theorem exc_inst {pins : List (Addr × Obj)} {σ : Sts} {H : Hp} {s : Shared} (I : Inv X pins σ H s) {a d C : Addr} {x : V} {oe : Obj} {vs : Array Value} (h2 : H a = some (.frz oe (.own a))) (h3 : oe.cls = .ref C) (h4 : oe.dict = some d) (h5 : oe.data = .fields vs) (h6 : H d = some (.xd [(("at" : Str), x)])) :
    ∃ (od : Obj) (u : Value), PySem.W.InstAt s.heap a oe C (some od) ∧ RelV x u ∧ PySem.W.lookIn "at" od = some (some u) := by
  obtain ⟨hget, _⟩ := (show ObjOk X.prog X.w H s.heap a (.frz oe (.own a)) from I.hok a _ h2)
  obtain ⟨mA, hns, hr⟩ := (show ObjOk X.prog X.w H s.heap d (.xd [(("at" : Str), x)]) from I.hok d _ h6)
  obtain ⟨od, ho, hl⟩ := lookIn_ns hns
  have l : List.lookup ("at" : Str) [(("at" : Str), x)] = some x := by simp [List.lookup]
  obtain ⟨u, hu, ru⟩ := RelO.some_of (v := x) (o := mA "at") (by rw [← l]; exact hr "at")
  exact ⟨od, u, ⟨hget, h3, by unfold PySem.W.notCls; rw [h5] <;> rfl, by rw [h4]; exact ho⟩, ru, by rw [hl, hu]⟩

/-! ### e.at -/
def atK (exs : Str → Bool) : PD → Res Rt
  | .dict [(.none, .tuple [.str c, p])] => if exs c then .ok (.sh p) else .stuck
  | _ => .stuck
def eAt (exs : Str → Bool) (ra : Rx) : Ex := fun ρ => (ra ρ).bind (atK exs)
theorem e_at {exs : Str → Bool} {a : Expr} {ra : Rx} {pos : Pos} (hx : ∀ c, exs c = true → ∃ C D fI, PySem.AtX.AtTxt X.prog X.K X.mg c C D fI) (ha : ROk X W a ra) (hb : attributeBase a "at" X.env (eval a X.env) = eval a X.env) : EOk X W (.Attribute a "at" pos) (eAt exs ra) := fun G => by
  refine ⟨fun pins s σ H Q I h => ?_⟩
  obtain ⟨F, ρ, S, h⟩ := h
  have h1 : tR X.K X.mg G W ra σ H fun v H1 => ∃ (a d C D fI : Addr) (c : Str) (x : V) (oe : Obj) (vs : Array Value), v = .ref a ∧ PySem.AtX.AtTxt X.prog X.K X.mg c C D fI ∧ H1 a = some (.frz oe (.own a)) ∧ oe.cls = .ref C ∧ oe.dict = some d ∧ oe.data = .fields vs ∧ H1 d = some (.xd [(("at" : Str), x)]) ∧ Q x H1 := by
    refine useR (g := atK exs) S h fun F1 H1 v p s1 S1 r1 h1 => ?_
    unfold atK at h1
    split at h1
    · split at h1
      · rename_i c p hc
        obtain ⟨a, d, C, x, oe, vs, rfl, q1, _, q2, q3, q4, q5, q6, q7⟩ := RdR.exc_inv S1.sub (r1.at_ S1)
        obtain ⟨C', D, fI, T⟩ := hx _ hc
        have z := T.gC
        rw [q1] at z
        cases z
        exact ⟨a, d, C, D, fI, c, x, oe, vs, rfl, T, q2, q3, q4, q5, q6, PostE.val h1 S1 q7⟩
      · exact h1.elim
    · exact h1.elim
  refine attr_of hb (thn ((ha G).run pins s σ H _ I h1) fun u s1 hh => ?_)
  obtain ⟨v, H1, I1, rv, a, d, C, D, fI, c, x, oe, vs, rfl, T, q2, q3, q4, q5, q6, q⟩ := hh
  obtain rfl : u = Value.ref a := rv
  obtain ⟨od, ux, J, rx, hl⟩ := exc_inst I1 q2 q3 q4 q5 q6
  exact HandSPX.exc_get I1.kIn J T.ga T.gg T.exC (PySem.W.findObj_own T.hdC T.noN rfl hl) (handed_of rx) ⟨x, H1, I1.tok _, rx, q⟩

/-! ### C(n) -/
def mkK (exs : Str → Bool) (x : Str) : List PD → Res Rt
  | [p] => if exs x then .ok (.sh (excD x p)) else .stuck
  | _ => .stuck
def eMk (exs : Str → Bool) (x : Str) (ta : As) : Ex := fun ρ => (ta ρ).bind (mkK exs x)
theorem e_mk {exs : Str → Bool} {cn : Str} {C D fI : Addr} {a : Expr} {ta : As} {p pos : Pos} {k : Nat} (T : PySem.AtX.AtTxt X.prog X.K X.mg cn C D fI) (hr : Room k X.A) (ha : AOk X W [a] ta) (hg : Gl X cn) (hs0 : X.mg "super" = none) (hd : (cn == ("__debug__" : Str)) = false) (hs : notStar a = true) :
    EOk X W (.Call (.Name cn p) [a] [] pos) (eMk exs cn ta) := fun G => by
  refine ⟨fun pins s σ H Q I h => ?_⟩
  obtain ⟨F, ρ, S, h⟩ := h
  have h1 : tA X.K X.mg G W ta σ H fun vs H1 => ∃ v, vs = [v] ∧ ∀ (e d : Addr) (oe : Obj) (fv : Array Value), H1 e = none → H1 d = none → e ≠ d → oe.cls = .ref C → oe.dict = some d → oe.data = .fields fv → Q (.ref e) (upd (upd H1 d (.xd [(("at" : Str), v)])) e (.frz oe (.own e))) := by
    refine useA (g := mkK exs cn) S h fun F1 H1 vs ps s1 S1 r1 h1 => ?_
    unfold mkK at h1
    split at h1
    · split at h1
      · obtain ⟨v, rfl, r2⟩ := r1.one_inv
        refine ⟨v, rfl, fun e d oe fv he hd' hne c1 c2 c3 => ?_⟩
        obtain ⟨f1, f2⟩ := S1.fresh hd'
        have S2 := (S1.alloc (o := .xd [(("at" : Str), v)]) hd').grow upd_same f1 f2 (S1.apart_new hd')
        have he2 : (upd H1 d (.xd [(("at" : Str), v)])) e = none := by
          rw [upd_ne hne]
          exact he
        obtain ⟨g1, g2⟩ := S2.fresh he2
        have S3 := (S2.alloc (o := .frz oe (.own e)) he2).grow upd_same g1 g2 (S2.apart_new he2)
        refine h1 _ _ _ (fun b o q => Same.new g1 b o (Same.new f1 b o q)) S3 (.exc T.gC upd_same c1 c2 c3 (v := v) ?_ ((r2.mono (Same.new f1)).mono (Same.new g1)))
        rw [upd_ne (Ne.symm hne)]
        exact upd_same
      · exact h1.elim
    · exact h1.elim
  refine wpAny_Call_Name_kw (ld_glob I hg T.gC ?_ hd)
  refine PySem.W.callWith_K (h₀ := X.base) I.ok.mod.kin T.kC (thn ((ha G).run pos pins s σ H _ I h1) fun us s1 hh => ?_) (star_cons hs [] X.env) (by rfl)
  obtain ⟨vs, H1, I1, r1, v, ev, q1⟩ := hh
  subst ev
  refine ⟨I1.kIn, ?_⟩
  cases r1 with
  | cons rv rn =>
    rename_i v' us'
    cases rn
    show wpAny _ _ (call (.ref C) [v']) _ _ _
    have hlim := I1.nolimit
    obtain ⟨mb, hb, hb2⟩ := I1.mod.blt
    have hgl := I1.mod.glob.keeps I1.bk
    have hbl := hb.keeps I1.bk
    obtain ⟨hp, g, dr, tk, os⟩ := s1
    refine wpAny_call (PySem.AtX.at_made T I1.kIn hlim hgl hbl ((hb2 _ (by decide)).trans (by decide +kernel)) (by have := hr.dp; omega) fun h' tk' e d M => ?_)
    obtain ⟨oe, fv, hoe, hc, hd, hdat, _⟩ := M.obj
    have hns := M.ns
    have ob : ObjOk X.prog X.w (upd H1 d (.xd [(("at" : Str), v)])) h' d (.xd [(("at" : Str), v)]) := ⟨_, hns, fun f => relO_at rv f⟩
    have J : Inv X pins σ (upd H1 d (.xd [(("at" : Str), v)])) ⟨h', g, dr, tk', os⟩ := I1.laid (t' := tk') M.keep M.dbig ob
    have ne : e ≠ d := Ne.symm M.dne
    have hf : H1 e = none := I1.hok.fresh M.new
    have hdn : H1 d = none := I1.hok.fresh M.dbig
    have hf2 : (upd H1 d (.xd [(("at" : Str), v)])) e = none := by
      rw [upd_ne ne]
      exact hf
    have n0 : hp.get? e = none := Heap.get?_none_of_le M.new
    -- both at once
    have nd : hp.get? d = none := Heap.get?_none_of_le M.dbig
    have u : Un (frs X.stack) [] H1 (upd (upd H1 d (.xd [(("at" : Str), v)])) e (.frz oe (.own e))) hp h' := {
      keep := fun b o q _ _ _ => M.keep b o q
      slot := fun b o q _ _ _ => ⟨o.slots, M.keep b o q⟩
      free := fun b o q n _ => by
        rw [upd_ne (fun z => by rw [z, n0] at q; cases q), upd_ne (fun z => by rw [z, nd] at q; cases q)]
        exact n
      there := fun b o q _ => ⟨o, M.keep b o q⟩
      tups := fun b xs q => by
        rw [upd_ne (ne_of_none q hf), upd_ne (ne_of_none q hdn)]
        exact q
      frzs := fun b o u q => by
        rw [upd_ne (ne_of_none q hf), upd_ne (ne_of_none q hdn)]
        exact q
      tbls := fun b ps q => ⟨#[], by
        rw [upd_ne (ne_of_none q hf), upd_ne (ne_of_none q hdn), q]
        simp⟩ }
    have hok2 : HOk X.prog X.w (upd (upd H1 d (.xd [(("at" : Str), v)])) e (.frz oe (.own e))) h' := J.hok.laidN (fun _ _ q => q) hf2 ⟨hoe, oe, hoe⟩
    have J2 := I1.call (g' := g) (t' := tk') (d' := dr) u hok2 I1.bare (fun _ z => nomatch z)
    exact ⟨.ref e, _, J2, rfl, q1 e d oe fv hf hdn ne hc hd hdat⟩

/-! ### isinstance -/
/-- a class by its name: one of the text, or a built-in one -/
def ClsN (X : Cx) (x : Str) (u : Value) : Prop := (X.mg x = some u ∧ ∃ C, u = .ref C) ∨ (X.mg x = none ∧ ∃ n, u = .type n ∧ bootBuiltins x = some (.type n) ∧ x ≠ "__name__")
/-- what the text's end gives for isinstance of an own exception -/
structure ExcI (K : Fg) (C : Addr) : Prop where
  cl : (PySem.W.clsIn K C).isSome = true
  ga : PySem.W.findIn K (.ref C) "__getattribute__" = some (some (.builtin "BaseException.__getattribute__"))
  gg : PySem.W.findIn K (.ref C) "__getattr__" = some none
  be : PySem.W.subIn K (.ref C) (.type "BaseException") = some true
  cc : PySem.W.findIn K (.ref C) "__class__" = some (some (.builtin "object.__class__"))
  sp : PySem.W.specialIn K (.builtin "object.__class__") "__get__" = some (some (.builtin "getset_descriptor.__get__"))
  tk : PySem.W.takesIn K (.builtin "object.__class__") = some true
  ob : PySem.W.mroIn K C (.type "object") = some true
/-- isinstance(.., x) by class name: of an own exception c; of an int; of a bool -/
structure Isi where
  exc : Str → Str → Option Bool
  int : Str → Option Bool
  bl : Str → Option Bool
structure IsiOk (K : Fg) (mg : Mg) (t : Isi) : Prop where
  exc : ∀ c x b, t.exc c x = some b → ∃ C u, mg c = some (.ref C) ∧ ExcI K C ∧ ((mg x = some u ∧ ∃ Cx, u = .ref Cx) ∨ (mg x = none ∧ ∃ n, u = .type n ∧ bootBuiltins x = some (.type n) ∧ x ≠ "__name__")) ∧ PySem.W.kitOne K (.ref C) u = some b
  int : ∀ x b, t.int x = some b → ∃ u, ((mg x = some u ∧ ∃ Cx, u = .ref Cx) ∨ (mg x = none ∧ ∃ n, u = .type n ∧ bootBuiltins x = some (.type n) ∧ x ≠ "__name__")) ∧ PySem.W.kitOne K (.type "int") u = some b
  bl : ∀ x b, t.bl x = some b → ∃ u, ((mg x = some u ∧ ∃ Cx, u = .ref Cx) ∨ (mg x = none ∧ ∃ n, u = .type n ∧ bootBuiltins x = some (.type n) ∧ x ≠ "__name__")) ∧ PySem.W.kitOne K (.type "bool") u = some b
def isiK (t : Isi) (x : Str) : PD → Res Rt
  | .dict [(.none, .tuple [.str c, _])] => (match t.exc c x with
    | some b => .ok (.sh (.bool b))
    | none => .stuck)
  | .int _ => (match t.int x with
    | some b => .ok (.sh (.bool b))
    | none => .stuck)
  | .bool _ => (match t.bl x with
    | some b => .ok (.sh (.bool b))
    | none => .stuck)
  | _ => .stuck
def eIsi (t : Isi) (x : Str) (ra : Rx) : Ex := fun ρ => (ra ρ).bind (isiK t x)
/-- what isinstance asks of the value -/
def IsiV (K : Fg) (mg : Mg) (H : Hp) (v : V) (x : Str) (b : Bool) : Prop := ∃ u, ((mg x = some u ∧ ∃ Cx, u = .ref Cx) ∨ (mg x = none ∧ ∃ n, u = .type n ∧ bootBuiltins x = some (.type n) ∧ x ≠ "__name__")) ∧
  ((∃ (a d C : Addr) (y : V) (oe : Obj) (vs : Array Value), v = .ref a ∧ H a = some (.frz oe (.own a)) ∧ oe.cls = .ref C ∧ oe.dict = some d ∧ oe.data = .fields vs ∧ H d = some (.xd [(("at" : Str), y)]) ∧ ExcI K C ∧ PySem.W.kitOne K (.ref C) u = some b) ∨
   (∃ i, v = .int i ∧ PySem.W.kitOne K (.type "int") u = some b) ∨ (∃ k, v = .bl k ∧ PySem.W.kitOne K (.type "bool") u = some b))
theorem e_isi {t : Isi} {a : Expr} {ra : Rx} {x : Str} {p p2 pos : Pos} (ht : IsiOk X.K X.mg t) (hg : Gl X "isinstance") (hm : X.mg "isinstance" = none) (hgx : Gl X x) (hdx : (x == ("__debug__" : Str)) = false) (ha : ROk X W a ra) (hs : notStar a = true) :
    EOk X W (.Call (.Name "isinstance" p) [a, .Name x p2] [] pos) (eIsi t x ra) := fun G => by
  refine ⟨fun pins s σ H Q I h => ?_⟩
  obtain ⟨F, ρ, S, h⟩ := h
  have h1 : tR X.K X.mg G W ra σ H fun v H1 => ∃ b, IsiV X.K X.mg H1 v x b ∧ Q (.bl b) H1 := by
    refine useR (g := isiK t x) S h fun F1 H1 v p s1 S1 r1 h1 => ?_
    unfold isiK at h1
    split at h1
    · split at h1
      · rename_i c _ b e
        obtain ⟨C, u, m1, m2, m3, m4⟩ := ht.exc _ _ _ e
        obtain ⟨a, d, C', y, oe, vs, rfl, q1, _, q2, q3, q4, q5, q6, q7⟩ := RdR.exc_inv S1.sub (r1.at_ S1)
        rw [m1] at q1
        cases q1
        exact ⟨b, ⟨u, m3, .inl ⟨a, d, C, y, oe, vs, rfl, q2, q3, q4, q5, q6, m2, m4⟩⟩, PostE.val h1 S1 (.bl _)⟩
      · exact h1.elim
    · split at h1
      · rename_i b e
        obtain ⟨u, m3, m4⟩ := ht.int _ _ e
        obtain rfl := (r1.at_ S1).int_inv
        exact ⟨b, ⟨u, m3, .inr (.inl ⟨_, rfl, m4⟩)⟩, PostE.val h1 S1 (.bl _)⟩
      · exact h1.elim
    · split at h1
      · rename_i b e
        obtain ⟨u, m3, m4⟩ := ht.bl _ _ e
        obtain rfl := (r1.at_ S1).bl_inv
        exact ⟨b, ⟨u, m3, .inr (.inr ⟨_, rfl, m4⟩)⟩, PostE.val h1 S1 (.bl _)⟩
      · exact h1.elim
    · exact h1.elim
  have na := star_cons hs [.Name x p2] X.env
  refine wpAny_Call_Name_kw (ld_blt I hg hm (show bootBuiltins "isinstance" = some (.builtin "isinstance") by decide +kernel) ?_ (by decide) (by decide))
  refine PyProof.Rows.callWith_builtin1 (PyProof.Rows.args_cons ?_ na) na (by rfl)
  refine thn ((ha G).run pins s σ H _ I h1) fun uv s1 ⟨v, H1, I1, rv, b, ⟨u, hu, hv⟩, q⟩ => ?_
  have key : ∀ uu : Value, uu = u → wpAny (model X.prog X.w) X.A (call (.builtin "isinstance") [uv, uu]) (EP X pins σ Q) X.xe s1 := by
    intro uu e
    subst e
    rcases hv with ⟨a, d, C, y, oe, vs, rfl, q2, q3, q4, q5, q6, E, kk⟩ | ⟨i, rfl, kk⟩ | ⟨k, rfl, kk⟩
    · obtain rfl : uv = Value.ref a := rv
      obtain ⟨od, ux, J, rx, hl⟩ := exc_inst I1 q2 q3 q4 q5 q6
      exact PySem.W.kia_one (PySem.W.kitx_exc E.cl E.ga E.gg E.be E.cc E.sp E.tk E.ob) I1.kIn J kk (fun z => nomatch z) fun tk => ⟨.bl b, H1, I1.tok tk, rfl, q⟩
    · obtain ⟨t, rfl⟩ : ∃ t, uv = Value.int i t := rv
      exact PySem.W.kia_one PySem.W.kitx_int I1.kIn True.intro kk (fun z => nomatch z) fun tk => ⟨.bl b, H1, I1.tok tk, rfl, q⟩
    · obtain rfl : uv = Value.bool k := rv
      exact PySem.W.kia_one PySem.W.kitx_bool I1.kIn True.intro kk (fun z => nomatch z) fun tk => ⟨.bl b, H1, I1.tok tk, rfl, q⟩
  refine PyProof.Rows.args_cons ?_ (by rfl)
  rcases hu with ⟨hm1, Cx, rfl⟩ | ⟨hm1, n, rfl, hb1, hn1⟩
  · exact ld_glob I1 hgx hm1 (PyProof.Rows.args_nil (key _ rfl)) hdx
  · exact ld_blt I1 hgx hm1 hb1 (PyProof.Rows.args_nil (key _ rfl)) hn1 hdx
end
end FL
set_option Elab.async false
set_option linter.all false
set_option maxRecDepth 100000
set_option maxHeartbeats 2000000
/-! FL13: raise; try with several clauses, with a name and without -/
namespace FL
open PySem PySem.Spec PyProof.Rows L2

/-! ### raise C(e) -/
def raiseK (cn : Str) (ρ : Ev) : List PD → RS
  | [p] => .exc cn p ρ
  | _ => .stuck
def sRaise (cn : Str) (ta : As) : Ss := fun ρ => (ta ρ).bindS ρ (raiseK cn ρ)
section
variable {X : Cx} {W : WX} {cn : Str} {C D fI : Addr} {a : Expr} {ta : As} {p pos pos2 : Pos} {k : Nat}
theorem s_raise (hc : X.calm = true) (tk : Takes X W) (T : PySem.AtX.AtTxt X.prog X.K X.mg cn C D fI) (hr : Room k X.A) (ha : AOk X W [a] ta) (hg : Gl X cn) (hs0 : X.mg "super" = none) (hd : (cn == ("__debug__" : Str)) = false) (hs : notStar a = true) :
    SOk X W (.Raise (some (.Call (.Name cn p) [a] [] pos)) none pos2) (sRaise cn ta) := fun G =>
  impS (ps_raise hc tk (pmk_at T hr (ha G) hg hs0 hd (star_cons hs [] X.env) (by rfl))) fun D' σ H h => by
    obtain ⟨F, ρ, S, h⟩ := h
    refine ⟨F, ρ, S, ?_⟩
    unfold sRaise at h
    cases e : ta ρ with
    | exc c d =>
      rw [e] at h
      exact h σ
    | stuck =>
      rw [e] at h
      exact h
    | ok ps =>
      rw [e] at h
      have h : PostS X.K X.mg G W F D' (raiseK cn ρ ps) := h
      intro F1 H1 vs s1 S1 r1
      unfold raiseK at h
      split at h
      · obtain ⟨v, rfl, r2⟩ := r1.one_inv
        refine ⟨v, rfl, fun d hd => ?_⟩
        obtain ⟨f1, f2⟩ := S1.fresh hd
        exact h σ (upd F1 d (.xd [(("at" : Str), v)])) _ C d v (fun b o e => Same.new f1 b o (s1 b o e)) ((S1.alloc hd).grow upd_same f1 f2 (S1.apart_new hd)) T.gC upd_same (r2.mono (Same.new f1))
      · exact h.elim
end

/-! ### several clauses, with and without a name; each suite is any block -/
/-- how a clause ends -/
def aftB (i : Option Nat) : RS → RS
  | .nx ρ => .nx (match i with | some j => ρ.set j none | none => ρ)
  | .rt r => .rt r
  | .bk ρ => .bk (match i with | some j => ρ.set j none | none => ρ)
  | .ct ρ => .ct (match i with | some j => ρ.set j none | none => ρ)
  | .exc _ _ _ => .stuck
  | .stuck => .stuck
def befB (i : Option Nat) (c : Str) (p : PD) (ρ : Ev) : Ev := match i with
  | some j => ρ.set j (some (.sh (excD c p)))
  | none => ρ
abbrev HdB := List (Str × Option Nat × Ss)
def wBlk (P : Program) (K : Fg) (mg : Mg) (G : Hp) (Wout : WX) (D : Ends) : HdB → WX
  | [] => Wout
  | (x, i, f) :: r => fun cls d σ H => ∃ (Cx : Value) (b : Bool), mg x = some Cx ∧ PySem.W.exmOne K cls Cx = some b ∧
      (b = true → ∃ (F : Hp) (ρ : Ev) (c : Str) (p : PD) (C dd : Addr) (v : V), Sim K mg G F H σ ρ ∧ cls = .ref C ∧ mg c = some (.ref C) ∧ d = some dd ∧ F dd = some (.xd [(("at" : Str), v)]) ∧ Rep K mg F v p ∧ PostS K mg G W0 F D (aftB i (f (befB i c p ρ)))) ∧
      (b = false → wBlk P K mg G Wout D r cls d σ H)
inductive HdsB (X : Cx) : List ExceptHandler → HdB → Prop
  | nil : HdsB X [] []
  | cons {x : Str} {f : Ss} {b₀ : Stmt} {suite : List Stmt} {np pos' : Pos} {hds : List ExceptHandler} {l : HdB} (hg : Gl X x) (hdb : (x == ("__debug__" : Str)) = false)
      (hsu : ∀ (a : Addr) (pn : List (Addr × Obj)), BOk (X.suite a pn) W0 (b₀ :: suite) f) (r : HdsB X hds l) :
      HdsB X (.ExceptHandler (some (.Name x np)) none (b₀ :: suite) pos' :: hds) ((x, none, f) :: l)
  | consAs {x n : Str} {i : Nat} {f : Ss} {b₀ : Stmt} {suite : List Stmt} {np pos' : Pos} {hds : List ExceptHandler} {l : HdB} (hg : Gl X x) (hdb : (x == ("__debug__" : Str)) = false) (hi : X.N[i]? = some n) (hln : X.env.kindOf n = some .local)
      (hsu : ∀ (a : Addr) (pn : List (Addr × Obj)), BOk (X.suite a pn) W0 (b₀ :: suite) f) (r : HdsB X hds l) :
      HdsB X (.ExceptHandler (some (.Name x np)) (some n) (b₀ :: suite) pos' :: hds) ((x, some i, f) :: l)
section
variable {X : Cx} {pins : List (Addr × Obj)} {σ : Sts} {H : Hp} {sI s' : Shared} {B : Heap}
/-- back on the ground, the exception tracked -/
theorem landedX (I : Inv X pins σ H sI) (nb : ∀ b o, sI.heap.get? b = some o → b ∉ frs X.stack → B.get? b = some o) (st : B.StaysIn s'.heap) (up : sI.heap.UpToSlots s'.heap) (os : s'.os = sI.os) (ag : AllBare s'.gens)
    {a : Addr} {oe : Obj} (ha : B.get? a = none) (hf : a ∉ frs X.stack) (na : H a = none) (he : s'.heap.get? a = some oe) : Inv X pins σ (upd H a (.frz oe (.own a))) s' := by
  have nf : ∀ b ∈ frs X.stack, ∀ o, sI.heap.get? b = some o → ∃ sl, s'.heap.get? b = some { o with slots := sl } := fun b hb o e => by
    obtain ⟨_, o', e', hd⟩ := I.stack.mem hb
    rw [e] at e'; cases e'
    exact up b o e hd
  have n0 : sI.heap.get? a = none := by
    cases q : sI.heap.get? a with
    | none => rfl
    | some o =>
      have z := nb a o q hf
      rw [ha] at z
      cases z
  have u : Un (frs X.stack) [] H (upd H a (.frz oe (.own a))) sI.heap s'.heap := {
    keep := fun b o e _ hb _ => st b o (nb b o e hb)
    slot := fun b o e _ hb _ => nf b hb o e
    free := fun b o e n _ => by
      rw [upd_ne (fun z => by rw [z, n0] at e; cases e)]
      exact n
    there := fun b o e _ => by
      by_cases hb : b ∈ frs X.stack
      · obtain ⟨sl, q⟩ := nf b hb o e
        exact ⟨_, q⟩
      · exact ⟨o, st b o (nb b o e hb)⟩
    tups := fun b xs q => by
      rw [upd_ne (ne_of_none q na)]
      exact q
    frzs := fun b o u q => by
      rw [upd_ne (ne_of_none q na)]
      exact q
    tbls := fun b ps q => ⟨#[], by
      rw [upd_ne (ne_of_none q na), q]
      simp⟩ }
  exact I.call' os u (HOk.laidN ((I.inGround nb).kept st) (fun _ _ q => q) na ⟨he, oe, he⟩) ag (fun _ z => nomatch z)
theorem suiteX {X : Cx} {s : Shared} (I : Inv X pins σ H s) (a : Addr) : Inv (X.suite a (X.pn ++ pins)) [] σ H s :=
  ⟨I.ok.suite _ _, I.os, I.bare, I.base, I.loc, I.cell, I.free, I.freeC, fun p hp => I.pin p (by rw [List.append_nil] at hp; exact hp), I.hok, I.len⟩
theorem unsuiteX {X : Cx} {s : Shared} {a : Addr} {pn' : List (Addr × Obj)} (I : Inv (X.suite a (X.pn ++ pins)) pn' σ H s) (ok : X.Ok) : Inv X pins σ H s :=
  ⟨ok, I.os, I.bare, I.base, I.loc, I.cell, I.free, I.freeC, fun p hp => I.pin p (List.mem_append_left _ hp), I.hok, I.len⟩
end
section
variable {X : Cx} {body : List Stmt} {h₀ : ExceptHandler} {hds : List ExceptHandler} {l : HdB} {pos : Pos} {tb : WX → TS} {Wout : WX} {G : Hp}
theorem ps_try_blk (hs : X.stack = X.env :: X.outer) (hf : X.env.frame = some X.env.locals) (hN : X.N.Nodup) (tk : Takes X Wout)
    (hb : ∀ (W : WX) (pn : List (Addr × Obj)) (xe : Value → Shared → Prop), Takes (X.tr pn xe) W → PassesOwn (model X.prog X.w) X.A X.env xe → PSs (X.tr pn xe) body (tb W))
    (hh : HdsB X (h₀ :: hds) l) : PS X (.Try body (h₀ :: hds) [] [] pos) (fun D σ H => tb (wBlk X.prog X.K X.mg G Wout D l) D σ H) := by
  refine ⟨fun pins s σ H D I h => ?_⟩
  have ok := I.ok
  have hfr : X.A.frames = some (X.env :: X.outer) := by rw [ok.frames, hs]
  refine wpAny_Try_except ?_
  refine wpAny_mono ((hb (wBlk X.prog X.K X.mg G Wout D l) (X.pn ++ pins) (fun e s₁ => wpAny (model X.prog X.w) X.A (noteFrame e X.env) (fun _ s₂ => wpAny (model X.prog X.w) X.A (setFlight e none) (fun _ s₃ =>
    wpAny (model X.prog X.w) X.A (handleBy e X.env (h₀ :: hds)) (SP X pins D) X.xe s₃) X.xe s₂) X.xe s₁) (fun u s' xx => ?_) PassesOwn.looking).run [] s σ H D (I.toTry _) h) (fun f s1 hsp => ?_) (fun e s1 he => he)
  · -- the catch
    obtain ⟨a, B, sI, pins', σ', H', cls, d, rfl, J', nb, up, sky, na, os, ag, w⟩ := xx
    have J : Inv X pins σ' H' sI := J'.ofTry ok
    have sky' : Sky B (X.env :: X.outer) a (Zc cls d) X.env.locals s'.heap := by rw [← hs]; exact sky
    show wpAny (model X.prog X.w) X.A (noteFrame (.ref a) X.env) _ _ _
    refine Sky.land Zc.steady hfr hf sky' fun h3 fl3 up3 => ?_
    have J3 : Inv X pins σ' H' { s' with heap := h3 } := J.landed nb fl3.1 (up.trans up3) os ag
    obtain ⟨oe3, vs3, he3, hz3, hd3⟩ := fl3.there
    have notFr : ∀ {h : Heap} {o : Obj} {vs : Array Value}, h.FunFrames B (X.env :: X.outer) → h.get? a = some o → o.data = .fields vs → a ∉ frs (X.env :: X.outer) := fun {h o vs} ff e dd hm => by
      obtain ⟨_, o', e', hnf⟩ := ff.mem hm
      rw [e] at e'; cases e'
      exact hnf _ dd
    have nfr := notFr fl3.2.2.1 he3 hd3
    have nL : a ≠ X.env.locals := fun z => nfr (List.mem_filterMap.mpr ⟨X.env, List.mem_cons_self, by rw [hf, z]⟩)
    have nF : a ∉ X.fs := fun hm => by
      obtain ⟨e, he, q⟩ := List.mem_filterMap.mp hm
      exact nfr (List.mem_filterMap.mpr ⟨e, List.mem_cons_of_mem _ he, q⟩)
    have S3 := J3.suite he3 hd3 na nL nF
    have LT : PySem.W.Looks (model X.prog X.w) h3 (typeOf (.ref a)) cls := fun A Q E s k q => wpAny_typeOf_ref (k _ _ he3) (by rw [hz3.1]; exact q)
    have test : ∀ {x : Str} {np : Pos} {c : Value} {Q : Value → Shared → Prop} {E : Value → Shared → Prop}, Gl X x → (x == ("__debug__" : Str)) = false → X.mg x = some c → Q c { s' with heap := h3 } → wpAny (model X.prog X.w) (X.A.mark (some (.ref a))) (eval (.Name x np) X.env) Q E { s' with heap := h3 } := fun {x np c Q E} hg hdbg hm q =>
      ld_glob (X := X.suite a ((a, oe3) :: (X.pn ++ pins))) S3 hg hm q hdbg
    -- the suite's start: the exception tracked, at its place in the pure slots
    have track : ∀ {h4 : Heap} {oe4 : Obj} {vs4 : Array Value} {F : Hp} {ρ : Ev} {c : Str} {p : PD} {C dd : Addr} {v : V}, Sim X.K X.mg G F H' σ' ρ → cls = .ref C → X.mg c = some (.ref C) → d = some dd → F dd = some (.xd [(("at" : Str), v)]) → Rep X.K X.mg F v p → Zc cls d oe4 → oe4.data = .fields vs4 →
        Same F (upd F a (.frz oe4 (.own a))) ∧ Sim X.K X.mg G (upd F a (.frz oe4 (.own a))) (upd H' a (.frz oe4 (.own a))) σ' ρ ∧ Rep X.K X.mg (upd F a (.frz oe4 (.own a))) (.ref a) (excD c p) := by
      intro h4 oe4 vs4 F ρ c p C dd v S ec hc ed hx hv hz hdat
      obtain ⟨f1, f2⟩ := S.fresh na
      subst ec ed
      refine ⟨Same.new f1, (S.alloc na).grow upd_same f1 f2 (S.apart_new na), .exc hc upd_same hz.1 hz.2 hdat (Same.new f1 _ _ hx) (hv.mono (Same.new f1))⟩
    have go : ∀ {hds' : List ExceptHandler} {l' : HdB}, HdsB X hds' l' → wBlk X.prog X.K X.mg G Wout D l' cls d σ' H' →
        wpAny (model X.prog X.w) X.A (handleBy (.ref a) X.env hds') (SP X pins D) X.xe { s' with heap := h3 } := by
      intro hds' l' hk
      induction hk with
      | nil =>
        intro w
        refine wpAny_handleBy_nil ?_
        obtain ⟨k1, k2, k3, oe, vs, T, oT, ts', he, hz, hd, h1, hr⟩ := id fl3
        unfold PySem.passOn
        refine wpAny_bind (wpAny_field he hd h1 ?_)
        rw [if_neg (show ¬ ((Value.ref T == Value.none) = true) from by simp)]
        have fin : wpAny (model X.prog X.w) X.A (setFlight (.ref a) X.env.frame) (fun _ s4 => wpAny (model X.prog X.w) X.A (throw (.ref a) : Sem Flow) (SP X pins D) X.xe s4) X.xe { s' with heap := h3 } := by
          rw [hf]
          refine HandSPX.setFlight_upZ fl3 fun h4 hh4 up4 => wpAny_throw (tk _ _ ?_)
          exact ⟨a, B, sI, pins, σ', H', cls, d, rfl, J, nb, (up.trans up3).trans up4, .inr (.inr (by rw [hs]; exact hh4)), na, os, ag, w⟩
        first
          | exact wpAny_bind (wpAny_pure (wpAny_bind fin))
          | exact wpAny_bind fin
      | @cons x f b₀ suite np pos' hds2 l2 hg hdb hsu r ih =>
        intro w
        obtain ⟨c, b, hc, hb1, hyes, hno⟩ := w
        refine wpAny_handleBy_cons (codeAny_handlers_test ?_) (by intro q; cases q)
        have LM := PySem.W.exm_one (M := model X.prog X.w) (J3.kIn) LT hb1
        refine test hg hdb hc (LM.here ?_)
        cases b with
        | true =>
          refine codeAny_handlers_suite ?_
          refine HandSPX.lands_againZ fl3 fun h4 fl4 up4 => ?_
          obtain ⟨oe4, vs4, he4, hz4, hd4⟩ := fl4.there
          obtain ⟨F, ρ, cn, p, C, dd, v, S, ec, hcn, ed, hx, hv, hpost⟩ := hyes rfl
          obtain ⟨sm, S2, rp⟩ := track (h4 := h4) S ec hcn ed hx hv hz4 hd4
          have J4 : Inv X pins σ' (upd H' a (.frz oe4 (.own a))) { s' with heap := h4 } := landedX (s' := { s' with heap := h4 }) J nb fl4.1 ((up.trans up3).trans up4) os ag fl4.2.1 (by rw [hs]; exact nfr) na he4
          have S4 := suiteX J4 a
          have hp1 : PostS X.K X.mg G W0 F D (f ρ) := by
            revert hpost
            show PostS X.K X.mg G W0 F D (aftB none (f ρ)) → _
            cases f ρ <;> first
              | exact fun z => z
              | exact fun z => z.elim
          refine wpAny_mono ((hsu a (X.pn ++ pins) G).run [] _ _ (upd H' a (.frz oe4 (.own a))) D S4 ⟨_, ρ, S2, hp1.mono sm⟩) (fun f s6 hsp => ?_) (fun _ _ z => False.elim z)
          cases f with
          | next =>
            obtain ⟨σ6, H6, S6, q6⟩ := hsp
            exact ⟨_, _, unsuiteX S6 ok, q6⟩
          | brk =>
            obtain ⟨σ6, H6, S6, q6⟩ := hsp
            exact ⟨_, _, unsuiteX S6 ok, q6⟩
          | cont =>
            obtain ⟨σ6, H6, S6, q6⟩ := hsp
            exact ⟨_, _, unsuiteX S6 ok, q6⟩
          | ret u =>
            obtain ⟨v6, σ6, H6, S6, r6, q6⟩ := hsp
            exact ⟨_, _, _, unsuiteX S6 ok, r6, q6⟩
        | false =>
          show wpAny _ X.A (handleBy (.ref a) X.env hds2) _ _ _
          exact ih (hno rfl)
      | @consAs x n i f b₀ suite np pos' hds2 l2 hg hdb hi hln hsu r ih =>
        intro w
        obtain ⟨c, b, hc, hb1, hyes, hno⟩ := w
        have hloc : Loc X.env.scope n := .inl hln
        refine wpAny_handleBy_cons (codeAny_handlers_test ?_) (by intro q; cases q)
        have LM := PySem.W.exm_one (M := model X.prog X.w) (J3.kIn) LT hb1
        refine test hg hdb hc (LM.here ?_)
        cases b with
        | true =>
          refine codeAny_handlers_suite_as ?_
          refine HandSPX.lands_againZ fl3 fun h4 fl4 up4 => ?_
          obtain ⟨oe4, vs4, he4, hz4, hd4⟩ := fl4.there
          obtain ⟨F, ρ, cn, p, C, dd, v, S, ec, hcn, ed, hx, hv, hpost⟩ := hyes rfl
          obtain ⟨sm, S2, rp⟩ := track (h4 := h4) S ec hcn ed hx hv hz4 hd4
          have J4 : Inv X pins σ' (upd H' a (.frz oe4 (.own a))) { s' with heap := h4 } := landedX (s' := { s' with heap := h4 }) J nb fl4.1 ((up.trans up3).trans up4) os ag fl4.2.1 (by rw [hs]; exact nfr) na he4
          have S4 := suiteX J4 a
          refine store_ok (X := X.suite a (X.pn ++ pins)) (v := .ref a) S4 hN hi hloc rfl (fun s5 S5 => ?_) (.inr hln)
          have S3' : Sim X.K X.mg G (upd F a (.frz oe4 (.own a))) (upd H' a (.frz oe4 (.own a))) (σ'.set i (some (.ref a))) (ρ.set i (some (.sh (excD cn p)))) := S2.store (r := .sh (excD cn p)) i rp
          have hp1 : PostS X.K X.mg G W0 (upd F a (.frz oe4 (.own a))) { nx := fun σ' H' => D.nx (σ'.set i none) H', rt := D.rt, bk := fun σ' H' => D.bk (σ'.set i none) H', ct := fun σ' H' => D.ct (σ'.set i none) H' } (f (ρ.set i (some (.sh (excD cn p))))) := by
            have hpost := hpost.mono sm
            revert hpost
            show PostS X.K X.mg G W0 _ D (aftB (some i) (f (ρ.set i (some (.sh (excD cn p)))))) → _
            cases f (ρ.set i (some (.sh (excD cn p)))) with
            | nx ρ2 => exact fun z F' H' σ2 s2 T => z F' H' _ s2 (T.clear i)
            | bk ρ2 => exact fun z F' H' σ2 s2 T => z F' H' _ s2 (T.clear i)
            | ct ρ2 => exact fun z F' H' σ2 s2 T => z F' H' _ s2 (T.clear i)
            | rt r => exact fun z => z
            | exc c p ρ2 => exact fun z => z.elim
            | stuck => exact fun z => z.elim
          refine wpAny_mono ((hsu a (X.pn ++ pins) G).run [] s5 _ (upd H' a (.frz oe4 (.own a))) _ S5 ⟨_, _, S3', hp1⟩) (fun f s6 hsp => ?_) (fun _ _ z => False.elim z)
          have end_ : ∀ {σ6 : Sts} {H6 : Hp} {Q : Shared → Prop}, Inv (X.suite a (X.pn ++ pins)) [] σ6 H6 s6 → (∀ s7, Inv X pins (σ6.set i none) H6 s7 → Q s7) →
              wpAny (model X.prog X.w) X.A (do bindName X.env n .none; unbindBehindTheSuite X.env n pos') (fun _ s7 => Q s7) X.xe s6 := fun {σ6 H6 Q} S6 hq => gone_ok (unsuiteX S6 ok) hN hi hln hq
          cases f with
          | next =>
            obtain ⟨σ6, H6, S6, q6⟩ := hsp
            exact end_ S6 fun s7 J7 => ⟨_, _, J7, q6⟩
          | brk =>
            obtain ⟨σ6, H6, S6, q6⟩ := hsp
            exact end_ S6 fun s7 J7 => ⟨_, _, J7, q6⟩
          | cont =>
            obtain ⟨σ6, H6, S6, q6⟩ := hsp
            exact end_ S6 fun s7 J7 => ⟨_, _, J7, q6⟩
          | ret u =>
            obtain ⟨v6, σ6, H6, S6, r6, q6⟩ := hsp
            exact end_ S6 fun s7 J7 => ⟨_, _, _, J7, r6, q6⟩
        | false =>
          show wpAny _ X.A (handleBy (.ref a) X.env hds2) _ _ _
          exact ih (hno rfl)
    exact go hh w
  · cases f with
    | next =>
      obtain ⟨σ', H', J', q⟩ := hsp
      exact wpAny_execs_nil ⟨σ', H', J'.ofTry ok, q⟩
    | brk =>
      obtain ⟨σ', H', J', q⟩ := hsp
      exact ⟨σ', H', J'.ofTry ok, q⟩
    | cont =>
      obtain ⟨σ', H', J', q⟩ := hsp
      exact ⟨σ', H', J'.ofTry ok, q⟩
    | ret u =>
      obtain ⟨v, σ', H', J', r, q⟩ := hsp
      exact ⟨v, σ', H', J'.ofTry ok, r, q⟩
end
/-- the clauses, by what the table tells -/
def hands (sub : Str → Str → Option Bool) (c : Str) (p : PD) (ρ : Ev) : HdB → RS
  | [] => .exc c p ρ
  | (x, i, f) :: r => match sub c x with
    | some true => aftB i (f (befB i c p ρ))
    | some false => hands sub c p ρ r
    | none => .stuck
def sTry (sub : Str → Str → Option Bool) (f : Ss) (hs : HdB) : Ss := fun ρ => match f ρ with
  | .exc c p ρ' => hands sub c p ρ' hs
  | r => r
/-- what is known of the exceptions' classes -/
def SubOk (P : Program) (K : Fg) (mg : Mg) (sub : Str → Str → Option Bool) : Prop := ∀ c x b, sub c x = some b → ∃ C D fI Cx, PySem.AtX.AtTxt P K mg c C D fI ∧ mg x = some (.ref Cx) ∧ PySem.W.exmOne K (.ref C) (.ref Cx) = some b
theorem aftB_post {K : Fg} {mg : Mg} {G : Hp} {W : WX} {F : Hp} {D : Ends} {i : Option Nat} {r : RS} (h : PostS K mg G W F D (aftB i r)) : PostS K mg G W0 F D (aftB i r) := by
  cases r <;> exact h
theorem hands_post {P : Program} {K : Fg} {mg : Mg} {G : Hp} {W : WX} {F : Hp} {D : Ends} {sub : Str → Str → Option Bool} (hE : SubOk P K mg sub) {c : Str} {p : PD} {ρ : Ev} : ∀ (l : HdB), PostS K mg G W F D (hands sub c p ρ l) →
    ∀ σ, PostX K mg G (wBlk P K mg G W D l) σ ρ F c p
  | [], h => h
  | (x, i, f) :: l, h => by
    intro σ F1 H1 C d v s1 S1 hC hd hv
    unfold hands at h
    split at h
    case h_3 => exact h.elim
    all_goals
      rename_i es
      obtain ⟨C', D', fI, Cx, T, mx, ex⟩ := hE _ _ _ es
      have z := T.gC
      rw [hC] at z
      cases z
    case h_2 =>
      exact ⟨.ref Cx, false, mx, ex, fun q => Bool.noConfusion q, fun _ => hands_post hE l h σ F1 H1 C d v s1 S1 hC hd hv⟩
    case h_1 =>
      exact ⟨.ref Cx, true, mx, ex, fun _ => ⟨F1, ρ, c, p, C, d, v, S1, rfl, hC, rfl, hd, hv, (aftB_post h).mono s1⟩, fun q => Bool.noConfusion q⟩
section
variable {X : Cx} {W : WX} {body : List Stmt} {h₀ : ExceptHandler} {hds : List ExceptHandler} {l : HdB} {pos : Pos} {f : Ss} {sub : Str → Str → Option Bool}
theorem s_try (hs : X.stack = X.env :: X.outer) (hf : X.env.frame = some X.env.locals) (hN : X.N.Nodup) (tk : Takes X W) (hE : SubOk X.prog X.K X.mg sub)
    (hb : ∀ (W : WX) (pn : List (Addr × Obj)) (xe : Value → Shared → Prop), Takes (X.tr pn xe) W → PassesOwn (model X.prog X.w) X.A X.env xe → BOk (X.tr pn xe) W body f)
    (hh : HdsB X (h₀ :: hds) l): SOk X W (.Try body (h₀ :: hds) [] [] pos) (sTry sub f l) := fun G =>
  impS (ps_try_blk (G := G) (tb := fun W => tS X.K X.mg G W f) hs hf hN tk (fun W pn xe t p => hb W pn xe t p G) hh) fun D σ H h => by
    obtain ⟨F, ρ, S, h⟩ := h
    refine ⟨F, ρ, S, ?_⟩
    unfold sTry at h
    cases e : f ρ with
    | exc c p ρ' =>
      rw [e] at h
      exact hands_post hE l h
    | nx ρ' =>
      rw [e] at h
      exact h
    | rt r =>
      rw [e] at h
      exact h
    | bk ρ' =>
      rw [e] at h
      exact h
    | ct ρ' =>
      rw [e] at h
      exact h
    | stuck =>
      rw [e] at h
      exact h
end
end FL
set_option Elab.async false
set_option linter.all false
set_option maxRecDepth 100000
set_option maxHeartbeats 2000000
/-! FL14: functions: what one promises, calls, a body keeps its promise -/
namespace FL
open PySem PySem.Spec PyProof.Rows L2

/-- what a callee leaves of the heap that it was not handed -/
structure Kept (F F' H H' : Hp) : Prop where
  keep : ∀ a o, H a = some o → Apt F a o → H' a = some o
  apt : ∀ a o, H a = some o → Apt F a o → Apt F' a o
def RetR (K : Fg) (mg : Mg) (F' H H' : Hp) (v : V) : Rt → Prop
  | .sh p => Rep K mg F' v p
  | .ow p => ∃ a, v = .ref a ∧ F' a = none ∧ H a = none ∧ Own K mg F' H' a p
def PostF (K : Fg) (mg : Mg) (F H : Hp) (Q : VK) (E : XK) : Res Rt → Prop
  | .ok r => ∀ F' H' v, Same F F' → Sub F' H' → Kept F F' H H' → RetR K mg F' H H' v r → Q v H'
  | .exc c p => ∀ F' H' C d x, Same F F' → Sub F' H' → Kept F F' H H' → mg c = some (.ref C) → F' d = some (.xd [(("at" : Str), x)]) → Rep K mg F' x p → E (.ref C) (some d) H'
  | .stuck => False
/-- a function on pure values -/
abbrev Fn := List PD → Res Rt
def spOf (K : Fg) (mg : Mg) (n : Nat) (m : Fn) : Sp := fun vs H Q E => vs.length = n ∧ ∃ F ps, Sub F H ∧ Reps K mg F vs ps ∧ PostF K mg F H Q E (m ps)
section
variable {K : Fg} {mg : Mg} {G F F' H H' : Hp} {W : WX} {σ : Sts} {ρ : Ev} {Q : VK} {v : V}
/-- the caller's likeness behind a call -/
theorem Sim.called (S : Sim K mg G F H σ ρ) (s : Same F F') (u : Sub F' H') (k : Kept F F' H H') : Sim K mg G F' H' σ ρ where
  sub := u
  gH := fun a o e => k.keep a o (S.gH a o e) (S.gF a o e)
  gF := fun a o e => k.apt a o (S.gH a o e) (S.gF a o e)
  len := S.len
  at_ := fun i sl e => by
    obtain ⟨w, e1, r⟩ := S.at_ i sl e
    refine ⟨w, e1, ?_⟩
    cases sl with
    | sh p => exact Rep.mono s r
    | ow p =>
      obtain ⟨a, rfl, h1, h2, h3⟩ := r
      obtain ⟨o, ho, hn⟩ := h3.some
      have hA : Apt F a o := .inl h1
      refine ⟨a, rfl, (k.apt a o ho hA).none hn, h2, h3.mono s ?_⟩
      rw [k.keep a o ho hA, ho]
  ne := S.ne
theorem Sim.ret (S : Sim K mg G F H σ ρ) {r : Rt} (h : RetR K mg F' H H' v r) : RtR K mg G F' H' σ ρ v r := by
  cases r with
  | sh p => exact h
  | ow p =>
    obtain ⟨a, rfl, h1, h2, h3⟩ := h
    exact ⟨a, rfl, h1, (S.fresh h2).2, h3, S.apart_new h2⟩
/-- a call's promise, from the caller's wish -/
theorem called_ok {m : Fn} {n : Nat} {vs : List V} {ps : List PD} (S : Sim K mg G F H σ ρ) (r : Reps K mg F vs ps) (hl : ps.length = n) (h : PostE K mg G W σ ρ F Q (m ps)) : spOf K mg n m vs H Q (WE W σ) := by
  refine ⟨r.len.trans hl, F, ps, S.sub, r, ?_⟩
  cases e : m ps with
  | ok t =>
    rw [e] at h
    intro F' H' v s u k hr
    exact h F' H' v s (S.called s u k) (S.ret hr)
  | exc c p =>
    rw [e] at h
    intro F' H' C d x s u k hC hd hx
    exact h F' H' C d x s (S.called s u k) hC hd hx
  | stuck =>
    rw [e] at h
    exact h
end

/-- what stands ahead of a call and is not handed over -/
noncomputable def guardOf (F H : Hp) : Hp := fun a => match H a with
  | some o => @ite _ (Apt F a o) (Classical.propDecidable _) (some o) none
  | none => none
section
variable {F H : Hp} {a : Addr} {o : HO}
theorem guardOf_some (h : guardOf F H a = some o) : H a = some o ∧ Apt F a o := by
  unfold guardOf at h
  split at h
  · rename_i o' e
    split at h
    · rename_i ha
      cases h
      exact ⟨e, ha⟩
    · cases h
  · cases h
theorem guardOf_of (h : H a = some o) (k : Apt F a o) : guardOf F H a = some o := by
  unfold guardOf
  rw [h]
  simp only
  rw [if_pos k]
end
def startE (n : Nat) (ps : List PD) : Ev := ps.map (fun p => some (.sh p)) ++ List.replicate (n - ps.length) none
theorem sim_start {K : Fg} {mg : Mg} {F H : Hp} {N : List Str} {vs : List V} {ps : List PD} (u : Sub F H) (r : Reps K mg F vs ps) (hN : ps.length ≤ N.length) : Sim K mg (guardOf F H) F H (L2.start N vs) (startE N.length ps) where
  sub := u
  gH := fun a o e => (guardOf_some e).1
  gF := fun a o e => (guardOf_some e).2
  len := by
    have hl := r.len
    unfold L2.start startE
    rw [List.length_append, List.length_append, List.length_map, List.length_map, List.length_replicate, List.length_replicate, hl]
  at_ := fun i s e => by
    have hl := r.len
    unfold startE at e
    by_cases hi : i < ps.length
    · rw [List.getElem?_append_left (by simpa using hi), List.getElem?_map] at e
      have hp : ps[i]? = some ps[i] := List.getElem?_eq_getElem hi
      rw [hp] at e
      cases e
      obtain ⟨v, hv, rv⟩ := r.get hp
      refine ⟨v, ?_, rv⟩
      unfold L2.start
      rw [List.getElem?_append_left (by simp; omega), List.getElem?_map, hv]
      rfl
    · rw [List.getElem?_append_right (by simpa using Nat.le_of_not_lt hi), List.getElem?_replicate] at e
      split at e <;> cases e
  ne := fun i j p q _ e => by
    unfold startE at e
    by_cases hi : i < ps.length
    · rw [List.getElem?_append_left (by simpa using hi), List.getElem?_map, List.getElem?_eq_getElem hi] at e
      cases e
    · rw [List.getElem?_append_right (by simpa using Nat.le_of_not_lt hi), List.getElem?_replicate] at e
      split at e <;> cases e
/-- how a body ends -/
def endR : RS → Res Rt
  | .nx _ => .ok (.sh .none)
  | .rt r => .ok r
  | .exc c p _ => .exc c p
  | _ => .stuck
theorem kept_of {K : Fg} {mg : Mg} {F F' H H' : Hp} {σ : Sts} {ρ : Ev} (S : Sim K mg (guardOf F H) F' H' σ ρ) : Kept F F' H H' where
  keep := fun a o e k => S.gH a o (guardOf_of e k)
  apt := fun a o e k => S.gF a o (guardOf_of e k)
section
variable {P : Program} {w : World} {K : Fg} {mg : Mg} {base : Heap}
/-- THE RULE for a def: its body by a pure function -/
theorem fn_pure {x qual : Str} {st : Stmt} {f : Addr} {fd : FuncData} {N ps : List Str} {k : Nat} {g : Ss} {m : Fn} (F : Fun K x qual st f fd) (S : FnScope N ps (defScope st)) (hm : ∀ qs, qs.length = ps.length → m qs = endR (g (startE N.length qs))) (hN : ps.length ≤ N.length)
    (hbody : ∀ (cdv : Value) (A : Around) (outer : List Env) (s : Shared) (H : Hp) (E : XK), Room k (A.deeper (envOfC qual (defScope st) s.heap.objs.size f cdv)) →
      BOk (cxOf (L2.CX P w) P w K mg base N qual (defScope st) f cdv A outer s H E) (fun cls d _ H => E cls d H) (defBody st) g) : FnOk P w K mg base (L2.CX P w) (k + 1) f fd ps (spOf K mg ps.length m) := by
  refine F.okX S (fun vs H Q E h => h.1) (fun cdv A outer s H vs Q E hr h => ⟨_, hbody cdv A outer s H E hr (guardOf (Classical.choose h.2) H), ?_⟩)
  have spec := Classical.choose_spec h.2
  generalize Classical.choose h.2 = F0 at spec ⊢
  obtain ⟨qs, u, r, hq⟩ := spec
  have hl : qs.length = ps.length := r.len.symm.trans h.1
  refine ⟨F0, startE N.length qs, sim_start u r (by omega), ?_⟩
  rw [hm qs hl] at hq
  have ret : ∀ {t : Rt}, PostF K mg F0 H Q E (.ok t) → ∀ F' H' σ' ρ' v, Same F0 F' → Sim K mg (guardOf F0 H) F' H' σ' ρ' → RtR K mg (guardOf F0 H) F' H' σ' ρ' v t → Q v H' := fun {t} hq F' H' σ' ρ' v s1 S1 rv => by
    refine hq F' H' v s1 S1.sub (kept_of S1) ?_
    cases t with
    | sh p => exact rv
    | ow p =>
      obtain ⟨a, rfl, h1, h2, h3, _⟩ := rv
      refine ⟨a, rfl, h1, ?_, h3⟩
      cases e : H a with
      | none => rfl
      | some o =>
        have hF : F0 a = none := by
          cases z : F0 a with
          | none => rfl
          | some o' =>
            have := s1 a o' z
            rw [h1] at this
            cases this
        rw [guardOf_of e (.inl hF)] at h2
        cases h2
  cases e : g (startE N.length qs) with
  | nx ρ =>
    rw [e] at hq
    exact fun F' H' σ' s1 S1 => ret hq F' H' σ' ρ .non s1 S1 .non
  | rt t =>
    rw [e] at hq
    exact fun F' H' σ' ρ' v s1 S1 rv => ret hq F' H' σ' ρ' v s1 S1 rv
  | bk ρ =>
    rw [e] at hq
    exact hq.elim
  | ct ρ =>
    rw [e] at hq
    exact hq.elim
  | exc c p ρ =>
    rw [e] at hq
    exact fun σ' F' H' C d x s1 S1 hC hd hx => hq F' H' C d x s1 S1.sub (kept_of S1) hC hd hx
  | stuck =>
    rw [e] at hq
    exact hq.elim
end

/-! ### calls -/
/-- what is known of a function of the table -/
def FnKnown (P : Program) (w : World) (K : Fg) (mg : Mg) (base : Heap) (k : Nat) (x : Str) (n : Nat) (m : Fn) : Prop :=
  ∃ (a : Addr) (fd : FuncData) (ps : List Str), mg x = some (.ref a) ∧ ps.length = n ∧ FnOk P w K mg base (L2.CX P w) k a fd ps (spOf K mg n m) ∧ PySem.W.keepIn K (.ref a) = true ∧ Binds K fd ps []
def eFun (n : Nat) (m : Fn) (ta : As) : Ex := fun ρ => (ta ρ).bind fun ps => if ps.length = n then m ps else .stuck
section
variable {X : Cx} {W : WX} {x : Str} {n k : Nat} {m : Fn} {e fe : Expr} {es : List Expr} {ta : As} {p pos : Pos}
theorem e_fun (hF : FnKnown X.prog X.w X.K X.mg X.base k x n m) (hr : Room k X.A) (tk : Takes X W) (hg : Gl X x) (hd : (x == ("__debug__" : Str)) = false) (ha : AOk X W (e :: es) ta) (hs : noStars (e :: es) = true) : EOk X W (.Call (.Name x p) (e :: es) [] pos) (eFun n m ta) := fun G => by
  obtain ⟨a, fd, ps, hm, hn, F, hk, hb⟩ := hF
  refine impE (pe_callS F hr hg hm hk hb (fun σ => passAt tk σ) (ha G) hd (star_cons (Bool.and_eq_true_iff.mp hs).1 _ _) (star_none (Bool.and_eq_true_iff.mp hs).2 pos X.env)) fun σ H Q h => ?_
  obtain ⟨F0, ρ, S, h⟩ := h
  refine useA (g := fun ps => if ps.length = n then m ps else .stuck) S h fun F1 H1 vs ps s1 S1 r1 h1 => ?_
  split at h1
  · rename_i hl
    exact called_ok S1 r1 hl h1
  · exact h1.elim
/-- f() -/
theorem e_fun0 (hF : FnKnown X.prog X.w X.K X.mg X.base k x 0 m) (hr : Room k X.A) (tk : Takes X W) (hg : Gl X x) (hd : (x == ("__debug__" : Str)) = false) : EOk X W (.Call (.Name x p) [] [] pos) (eFun 0 m aNil) := fun G => by
  obtain ⟨a, fd, ps, hm, hn, F, hk, hb⟩ := hF
  refine ⟨fun pins s σ H Q I h => ?_⟩
  obtain ⟨F0, ρ, S, h⟩ := h
  refine wpAny_Call_Name_kw (ld_glob I hg hm ?_ hd)
  exact PySem.W.callWith_K0 I.kIn hk (run_fnS (us := []) (E := WE W) F hr hb (passAt tk σ) I .nil (called_ok S .nil rfl h))
end
end FL
set_option Elab.async false
set_option linter.all false
set_option maxRecDepth 100000
set_option maxHeartbeats 2000000
/-! FL15: module constants, functions as values, repr, len(set(..)) -/
namespace FL
open PySem PySem.Spec PyProof.Rows L2

/-- a module's constant -/
def GKnown (K : Fg) (mg : Mg) (x : Str) (p : PD) : Prop := ∃ v u, mg x = some u ∧ RelV v u ∧ ∀ F, Rep K mg F v p
section
variable {X : Cx} {W : WX} {x : Str} {p : PD} {pos p2 q : Pos} {e fe : Expr} {es : List Expr} {ta : As} {fa : Ex} {k : Nat}
theorem e_gl (hg : Gl X x) (hd : (x == ("__debug__" : Str)) = false) (h : GKnown X.K X.mg x p) : EOk X W (.Name x pos) (eC p) := by
  obtain ⟨v, u, hm, r, hr⟩ := h
  exact e_c (pe_glob hg hm r hd) hr
theorem gknown_fn {K : Fg} {mg : Mg} {a : Addr} (h : mg x = some (.ref a)) : GKnown K mg x (fnD x) := ⟨.ref a, .ref a, h, rfl, fun F => .fn h⟩
/-- e(..), e gives a function -/
def callVK (fns : Str → Option (Nat × Fn)) (qs : Res (List PD)) : PD → Res Rt
  | .dict [(.none, .str x)] => (match fns x with
    | some (n, m) => qs.bind fun ps => if ps.length = n then m ps else .stuck
    | none => .stuck)
  | _ => .stuck
def eCallV (fns : Str → Option (Nat × Fn)) (fe : Ex) (ta : As) : Ex := fun ρ => (fe ρ).bind fun r => callVK fns (ta ρ) r.pd
theorem e_callV {fns : Str → Option (Nat × Fn)} (hF : ∀ x n m, fns x = some (n, m) → FnKnown X.prog X.w X.K X.mg X.base k x n m) (hr : Room k X.A) (tk : Takes X W) (hf : EOk X W fe fa) (ha : AOk X W (e :: es) ta) (hs : noStars (e :: es) = true)
    (ht : eval (.Call fe (e :: es) [] pos) X.env = (do callWith pos (← eval fe X.env) [] (backTo pos (starEach (e :: es) X.env)) (backToKw pos (keywordEach [] X.env)))) : EOk X W (.Call fe (e :: es) [] pos) (eCallV fns fa ta) := fun G => by
  refine ⟨fun pins s σ H Q I h => ?_⟩
  obtain ⟨F, ρ, S, h⟩ := h
  have h1 : tE X.K X.mg G W fa σ H fun v H1 => ∃ (x : Str) (n : Nat) (m : Fn) (a : Addr) (F1 : Hp), v = .ref a ∧ X.mg x = some (.ref a) ∧ fns x = some (n, m) ∧ Sim X.K X.mg G F1 H1 σ ρ ∧ PostE X.K X.mg G W σ ρ F1 Q ((ta ρ).bind fun ps => if ps.length = n then m ps else .stuck) := by
    refine use1 (g := fun p => callVK fns (ta ρ) p) S h fun F1 H1 v p s1 S1 r1 h1 => ?_
    unfold callVK at h1
    split at h1
    · split at h1
      · rename_i n m ef
        obtain ⟨a, rfl, hm⟩ := RdR.fn_inv (H := H1) (.inl r1)
        exact ⟨_, n, m, a, F1, rfl, hm, ef, S1, h1⟩
      · exact h1.elim
    · exact h1.elim
  refine Call_ (thn ((hf G).run pins s σ H _ I h1) fun u s1 ⟨v, H1, I1, r1, x, n, m, a, F1, ev, hm, ef, S1, h2⟩ => ?_) ht
  subst ev
  obtain rfl : u = Value.ref a := r1
  obtain ⟨a', fd, ps, hm', hn, F0, hk, hb⟩ := hF x n m ef
  rw [hm] at hm'
  cases hm'
  refine PySem.W.callWith_K (h₀ := X.base) I1.ok.mod.kin hk (thn ((ha G).run pos pins s1 σ H1 (fun vs H2 => spOf X.K X.mg n m vs H2 Q (WE W σ)) I1 ?_) fun us s2 ⟨vs, H2, I2, r2, q2⟩ => ⟨I2.kIn, ?_⟩) (star_cons (Bool.and_eq_true_iff.mp hs).1 _ _) (star_none (Bool.and_eq_true_iff.mp hs).2 pos X.env)
  · refine useA (g := fun ps => if ps.length = n then m ps else .stuck) S1 h2 fun F2 H2 vs qs s2 S2 r2 h3 => ?_
    split at h3
    · rename_i hl
      exact called_ok S2 r2 hl h3
    · exact h3.elim
  · exact run_fnS (E := WE W) F0 hr hb (passAt tk σ) I2 r2 q2
end

/-! ### repr -/
def reprP : OpC
  | [.bool b] => .ok (.sh (.str (if b then "True" else "False")))
  | [.int i] => if i.natAbs.log2 < 1920 then .ok (.sh (.str (toString i))) else .stuck
  | _ => .stuck
theorem q_repr : QuietC reprP := fun ps c d e => by
  unfold reprP at e
  repeat' split at e
  all_goals cases e
theorem tells_repr {X : Cx} {W : WX} : TellsC X W (.builtin "repr") reprP := by
  intro G pins s σ H xs us Q I r h
  obtain ⟨F, σ', ρ, ps, r', S, r1, e, k⟩ := h
  unfold reprP at e
  split at e
  · cases e
    obtain ⟨v, rfl, r2⟩ := r1.one
    obtain rfl := r2.bl_inv
    obtain ⟨u, rfl, rfl⟩ := vals1 r
    exact PySem.P.repr_of_bool ⟨.str _, H, I.tok _, ⟨_, rfl⟩, PostE.val k S (.str _)⟩
  · split at e
    · rename_i hl
      cases e
      obtain ⟨v, rfl, r2⟩ := r1.one
      obtain rfl := r2.int_inv
      exact SkE.call_repr_int pins s σ H _ us Q I r ⟨_, rfl, hl, PostE.val k S (.str _)⟩
    · cases e
  · cases e

/-! ### len(set(xs)), xs a list of tuples of ints -/
def tintsP : List PD → Option (List (List Int))
  | [] => some []
  | .tuple ps :: r => match intsP ps, tintsP r with
    | some k, some ks => some (k :: ks)
    | _, _ => none
  | _ => none
def dedupI : List (List Int) → List (List Int)
  | [] => []
  | k :: r => if k ∈ dedupI r then dedupI r else k :: dedupI r
theorem mem_dedupI {x : List Int} : ∀ {l : List (List Int)}, x ∈ dedupI l ↔ x ∈ l
  | [] => Iff.rfl
  | k :: r => by
    unfold dedupI
    split
    · rename_i h
      rw [mem_dedupI, List.mem_cons]
      refine ⟨.inr, fun h2 => ?_⟩
      rcases h2 with rfl | h2
      · exact mem_dedupI.mp h
      · exact h2
    · rw [List.mem_cons, List.mem_cons, mem_dedupI]
theorem nodup_dedupI : ∀ l : List (List Int), (dedupI l).Nodup
  | [] => List.nodup_nil
  | k :: r => by
    unfold dedupI
    split
    · exact nodup_dedupI r
    · rename_i h
      exact List.nodup_cons.mpr ⟨h, nodup_dedupI r⟩
theorem nodup_le {l : List (List Int)} : ∀ {m : List (List Int)}, l.Nodup → (∀ x, x ∈ l → x ∈ m) → l.length ≤ m.length := by
  induction l with
  | nil => exact fun _ _ => Nat.zero_le _
  | cons k r ih =>
    intro m hn hm
    obtain ⟨h1, h2⟩ := List.nodup_cons.mp hn
    have hk := hm k List.mem_cons_self
    have := ih (m := m.erase k) h2 fun x hx => (List.mem_erase_of_ne fun z => h1 (by rw [← z]; exact hx)).mpr (hm x (List.mem_cons_of_mem _ hx))
    rw [List.length_erase_of_mem hk] at this
    have hp := List.length_pos_of_mem hk
    show r.length + 1 ≤ m.length
    omega
theorem nodup_len {l m : List (List Int)} (h1 : l.Nodup) (h2 : m.Nodup) (h : ∀ x, x ∈ l ↔ x ∈ m) : l.length = m.length :=
  Nat.le_antisymm (nodup_le h1 fun x hx => (h x).mp hx) (nodup_le h2 fun x hx => (h x).mpr hx)
theorem Reps.tints {K : Fg} {mg : Mg} {F H : Hp} (s : Sub F H) : ∀ {vs : List V} {ps : List PD} {ks : List (List Int)}, Reps K mg F vs ps → tintsP ps = some ks → ∃ ts : List (Addr × List Int), vs = ts.map (fun p => V.ref p.1) ∧ (∀ p ∈ ts, SqT K H p.1 (p.2.map V.int)) ∧ ts.map (·.2) = ks
  | _, _, _, .nil, e => by
    cases e
    exact ⟨[], rfl, fun p h => absurd h (by simp), rfl⟩
  | _, _, _, .cons (d := d) h r, e => by
    unfold tintsP at e
    split at e
    · cases ‹_ :: _ = []›
    · rename_i e0
      cases e0
      split at e
      · rename_i e1 e2
        cases e
        obtain ⟨a, vs, rfl, q1, q2⟩ := h.tup_inv
        obtain ⟨ts, rfl, q3, q4⟩ := Reps.tints s r e2
        have q5 := q2.ints_inv e1
        subst q5
        refine ⟨(a, _) :: ts, rfl, fun p hp => ?_, by rw [List.map_cons, q4]⟩
        rcases List.mem_cons.mp hp with rfl | hp
        · exact s.sqT q1
        · exact q3 p hp
      · cases e
    · cases e
def lenSetK : PD → Res Rt
  | .list xs => (match tintsP xs with
    | some ks => if ks.length < 64 then .ok (.sh (.int ((dedupI ks).length : Nat))) else .stuck
    | none => .stuck)
  | _ => .stuck
def eLenSet (fa : Ex) : Ex := fun ρ => (fa ρ).bind fun r => lenSetK r.pd
theorem e_lenSet {X : Cx} {W : WX} {a : Expr} {fa : Ex} {p p2 q pos : Pos} (hu : X.A.units + 64 < cLine) (hc : X.calm = true) (hg : Gl X "len") (hm : X.mg "len" = none) (hg2 : Gl X "set") (hm2 : X.mg "set" = none) (ha : EOk X W a fa) (hs : notStar a = true) :
    EOk X W (.Call (.Name "len" p) [.Call (.Name "set" p2) [a] [] q] [] pos) (eLenSet fa) := fun G => by
  refine ⟨fun pins s σ H Q I h => ?_⟩
  obtain ⟨F, ρ, S, h⟩ := h
  have na := star_cons hs [] X.env
  refine Call_ (ld_blt I hg hm PySem.boot_len ?_)
  refine PyProof.Rows.callWith_builtin1 (PyProof.Rows.args_cons ?_ rfl) rfl rfl
  refine Call_ (ld_blt I hg2 hm2 PyProof.Rows.boot_set ?_)
  have hx : tE X.K X.mg G W fa σ H fun x H1 => ∃ (l : Addr) (ts : List (Addr × List Int)), x = V.ref l ∧ SqL X.K H1 l (ts.map fun p => V.ref p.1) ∧ (∀ p ∈ ts, SqT X.K H1 p.1 (p.2.map V.int)) ∧ ts.length < 64 ∧ Q (.int ((dedupI (ts.map (·.2))).length : Nat)) H1 := by
    refine use1 (g := lenSetK) S h fun F1 H1 v p s1 S1 r1 h1 => ?_
    unfold lenSetK at h1
    split at h1
    · split at h1
      · rename_i xs _ ks ek
        split at h1
        · rename_i hl
          obtain ⟨l, vs, rfl, q1, q2⟩ := r1.lst_inv
          obtain ⟨ts, rfl, q3, q4⟩ := q2.tints S1.sub ek
          subst q4
          exact ⟨l, ts, rfl, .inl (.inl (S1.sub.lst q1)), q3, by simpa using hl, PostE.val h1 S1 (.int _)⟩
        · exact h1.elim
      · exact h1.elim
    · exact h1.elim
  refine PyProof.Rows.callWith_type1 (PyProof.Rows.args_cons (thn ((ha G).run pins s σ H _ I hx) fun v s1 ⟨x, H1, I1, r1, q1⟩ => PyProof.Rows.args_nil ?_) na) na rfl
  obtain ⟨l, ts, rfl, hq, hk, hl, q1⟩ := q1
  cases r1
  obtain ⟨its, rv, pl, hz⟩ := I1.list hq
  refine call_set_tups (P := X.prog) (w := X.w) ts (I1.ok.hd hc) pl.isList (by simpa using refs_of_vals rv) (fun p hp => I1.isT (hk p hp)) hl (by omega) fun h' tk L es ep t R g k => ?_
  refine PyProof.Rows.args_nil ?_
  have I2 : Inv X pins σ H1 { s1 with heap := h', toks := tk } := I1.kept k
  obtain ⟨o, ho, hex, hd⟩ := R.ob
  have hsz : es.size = L.length := by
    have h := congrArg List.length R.rows
    unfold rowsOf at h
    rw [Array.length_toList, List.length_map] at h
    exact h
  have hlen : L.length = (dedupI (ts.map (·.2))).length := by
    rw [← List.length_map (f := (·.2)) (as := L)]
    refine nodup_len R.nd (nodup_dedupI _) fun x => ?_
    rw [mem_dedupI]
    refine ⟨fun hx => ?_, fun hx => ?_⟩
    · obtain ⟨p, hp, rfl⟩ := List.mem_map.mp hx
      exact List.mem_map_of_mem (List.mem_of_mem_take (g.sub p hp))
    · obtain ⟨p, hp, rfl⟩ := List.mem_map.mp hx
      exact g.all p (by rw [List.take_length]; exact hp)
  have few := R.few
  refine call_len_set ho hex hd (SetTR.fits (s := { s1 with heap := h', toks := tk }) R) (by rw [hsz]; omega) ⟨.int (L.length : Nat), H1, I2.tok _, ⟨_, by rw [hsz]⟩, by rw [hlen]; exact q1⟩
end FL
set_option Elab.async false
set_option linter.all false
set_option maxRecDepth 100000
set_option maxHeartbeats 2000000
/-! FL16: the deep syntax of expressions: its meaning, its check against the text, soundness -/
namespace FL
open PySem PySem.Spec PyProof.Rows L2

/-! ### operators -/
inductive Bop where
  | add | sub | mul | fdiv | mod | pow
inductive Cop where
  | eq | ne | lt | le | gt | ge | is | isn | inn | nin
def Bop.fn : Bop → Op2
  | .add => addP | .sub => subP | .mul => mulP | .fdiv => fdivP | .mod => modP | .pow => powP
def Bop.op : Bop → Operator
  | .add => .Add | .sub => .Sub | .mul => .Mult | .fdiv => .FloorDiv | .mod => .Mod | .pow => .Pow
def Cop.fn : Cop → Op2
  | .eq => eqO | .ne => neO | .lt => ltO | .le => leO | .gt => gtO | .ge => geO | .is => isA | .isn => isNotA | .inn => inO | .nin => ninO
def Cop.op : Cop → CmpOp
  | .eq => .Eq | .ne => .NotEq | .lt => .Lt | .le => .LtE | .gt => .Gt | .ge => .GtE | .is => .Is | .isn => .IsNot | .inn => .In | .nin => .NotIn
theorem Bop.tells {X : Cx} {W : WX} (o : Bop) : TellsR X W (binaryOp o.op) o.fn := by
  cases o
  · exact tells_add
  · exact tells_sub
  · exact tells_mul
  · exact tells_fdiv
  · exact tells_mod
  · exact tells_pow
theorem Bop.quiet (o : Bop) : Quiet2 o.fn := by
  cases o
  · exact q_add
  · exact q_sub
  · exact q_mul
  · exact q_fdiv
  · exact q_mod
  · exact q_pow
theorem Cop.tells {X : Cx} {W : WX} (hu : X.A.units + 65 < cLine) (o : Cop) : TellsR X W (compareOp o.op) o.fn := by
  have hu2 : X.A.units + 64 < cLine := by omega
  cases o
  · exact tells_eq hu2
  · exact tells_ne hu2
  · exact tells_lt
  · exact tells_le
  · exact tells_gt
  · exact tells_ge
  · exact tells_is
  · exact tells_isNot
  · exact tells_in hu
  · exact tells_nin hu
theorem Cop.quiet (o : Cop) : Quiet2 o.fn := by
  cases o
  · exact q_eq
  · exact q_ne
  · exact q_lt
  · exact q_le
  · exact q_gt
  · exact q_ge
  · exact q_is
  · exact q_isNot
  · exact q_in
  · exact q_nin
def Bop.isO (b : Bop) (o : Operator) : Bool := match b, o with
  | .add, .Add | .sub, .Sub | .mul, .Mult | .fdiv, .FloorDiv | .mod, .Mod | .pow, .Pow => true
  | _, _ => false
theorem Bop.isO_eq {b : Bop} {o : Operator} (h : b.isO o = true) : o = b.op := by
  cases b <;> cases o <;> first | rfl | cases h
def Cop.isO (b : Cop) (o : CmpOp) : Bool := match b, o with
  | .eq, .Eq | .ne, .NotEq | .lt, .Lt | .le, .LtE | .gt, .Gt | .ge, .GtE | .is, .Is | .isn, .IsNot | .inn, .In | .nin, .NotIn => true
  | _, _ => false
theorem Cop.isO_eq {b : Cop} {o : CmpOp} (h : b.isO o = true) : o = b.op := by
  cases b <;> cases o <;> first | rfl | cases h
/-- built-ins by name -/
inductive Bl where
  | len | abs | min | max | int | all | any | sum | tuple | list | repr
def Bl.nm : Bl → Str
  | .len => "len" | .abs => "abs" | .min => "min" | .max => "max" | .int => "int" | .all => "all" | .any => "any" | .sum => "sum" | .tuple => "tuple" | .list => "list" | .repr => "repr"
def Bl.fn : Bl → OpC
  | .len => lenP | .abs => absP | .min => min2P | .max => max2P | .int => intP | .all => allP | .any => anyP | .sum => sumP | .tuple => tupleP | .list => listP | .repr => reprP
theorem Bl.ok {X : Cx} {W : WX} {x : Str} {p pos : Pos} {e : Expr} {es : List Expr} {rs : Rs} (hc : X.calm = true) (b : Bl) (hx : x = b.nm) (hg : Gl X x) (hm : X.mg x = none) (ha : RsOk X W (e :: es) rs) (hs : noStars (e :: es) = true) :
    EOk X W (.Call (.Name x p) (e :: es) [] pos) (eCall b.fn rs) := by
  subst hx
  cases b
  · exact e_callB tells_len q_len hg hm (by decide +kernel) ha (by decide) (by decide) hs
  · exact e_callB tells_abs q_abs hg hm (by decide +kernel) ha (by decide) (by decide) hs
  · exact e_callB (tells_min2 hc) q_min2 hg hm (by decide +kernel) ha (by decide) (by decide) hs
  · exact e_callB (tells_max2 hc) q_max2 hg hm (by decide +kernel) ha (by decide) (by decide) hs
  · exact e_callT tells_int q_int hg hm (by decide +kernel) ha (by decide) (by decide) hs
  · exact e_callB (tells_all hc) q_all hg hm (by decide +kernel) ha (by decide) (by decide) hs
  · exact e_callB (tells_any hc) q_any hg hm (by decide +kernel) ha (by decide) (by decide) hs
  · exact e_callB (tells_sum hc) q_sum hg hm (by decide +kernel) ha (by decide) (by decide) hs
  · exact e_callT tells_tuple q_tuple hg hm (by decide +kernel) ha (by decide) (by decide) hs
  · exact e_callT tells_list q_list hg hm (by decide +kernel) ha (by decide) (by decide) hs
  · exact e_callB tells_repr q_repr hg hm (by decide +kernel) ha (by decide) (by decide) hs

/-! ### the syntax -/
mutual
inductive E where
  | var (i : Nat)
  | int (i : Int)
  | str (x : Str)
  | bl (b : Bool)
  | non
  | glo (x : Str)
  | bin (o : Bop) (a b : R)
  | cmp (o : Cop) (a b : R)
  | chain (o o' : Cop) (a b c : R)
  | not (a : R)
  | and (w : EW)
  | or (w : EW)
  | ife (t : T) (a b : E)
  | neg (a : R)
  | ix (a b : R)
  | slice (a : R) (lo hi : O)
  | tup (as : A)
  | lst (as : A)
  | disp (ps : P)
  | dK
  | dT
  | call (x : Str) (as : A)
  | call0 (x : Str)
  | callV (f : E) (as : A)
  | blt (b : Bl) (rs : Rl)
  | lenset (a : E)
  | comp (it : I) (own : List (Str × Nat)) (tg : Tg) (c : C) (elt : E)
  | at (a : R)
  | mk (x : Str) (as : A)
  | isi (a : R) (x : Str)
inductive EW where
  | one (e : E)
  | more (e : E) (w : EW)
inductive R where
  | of (e : E)
  | var (i : Nat)
inductive T where
  | tru (a : R)
  | cmp (o : Cop) (a b : R)
  | chain (o o' : Cop) (a b c : R)
  | not (t : T)
  | and (w : TW)
  | or (w : TW)
inductive TW where
  | one (t : T)
  | more (t : T) (w : TW)
inductive A where
  | nil
  | cons (e : E) (as : A)
  | star (a : R) (as : A)
inductive Rl where
  | nil
  | cons (a : R) (as : Rl)
inductive O where
  | none
  | some (a : R)
inductive P where
  | nil
  | cons (k v : E) (ps : P)
inductive I where
  | seq (e : E)
  | rng1 (rs : Rl)
  | rng2 (rs : Rl)
  | zip (as : A)
  | enum (as : A)
inductive C where
  | none
  | one (t : T)
end
/-- the tables -/
structure Tab where
  fns : Str → Option (Nat × Fn)
  gl : Str → Option PD
  bl : Str → Bool
  sub : Str → Str → Option Bool
  exs : Str → Bool
  isi : Isi
abbrev eStuck : Ex := fun _ => .stuck
mutual
def evE (D : Tab) : E → Ex
  | .var i => eVar i
  | .int i => eC (.int i)
  | .str x => eC (.str x)
  | .bl b => eC (.bool b)
  | .non => eC .none
  | .glo x => match D.gl x with
    | some p => eC p
    | none => eStuck
  | .bin o a b => eBinR o.fn (evR D a) (evR D b)
  | .cmp o a b => eBinR o.fn (evR D a) (evR D b)
  | .chain o o' a b c => eChain o.fn o'.fn (evR D a) (evR D b) (evR D c)
  | .not a => eNot (evR D a)
  | .and w => evEA D w
  | .or w => evEO D w
  | .ife t a b => eIf (evT D t) (evE D a) (evE D b)
  | .neg a => eNeg (evR D a)
  | .ix a b => eBinR ixA (evR D a) (evR D b)
  | .slice a lo hi => eSlice (evR D a) (evO D lo) (evO D hi)
  | .tup as => eTup (evA D as)
  | .lst as => eLst (evA D as)
  | .disp ps => eDisp (evP D ps)
  | .dK => eDictK
  | .dT => eDictT
  | .call x as => match D.fns x with
    | some (n, m) => eFun n m (evA D as)
    | none => eStuck
  | .call0 x => match D.fns x with
    | some (n, m) => if n = 0 then eFun 0 m aNil else eStuck
    | none => eStuck
  | .callV f as => eCallV D.fns (evE D f) (evA D as)
  | .blt b rs => eCall b.fn (evRl D rs)
  | .lenset a => eLenSet (evE D a)
  | .comp it own tg c elt => eComp (evI D it) (own.map (·.2)) tg (evC D c) (evE D elt)
  | .at a => eAt D.exs (evR D a)
  | .mk x as => if D.exs x then eMk D.exs x (evA D as) else eStuck
  | .isi a x => eIsi D.isi x (evR D a)
def evEA (D : Tab) : EW → Ex
  | .one e => evE D e
  | .more e w => eAnd (evE D e) (evEA D w)
def evEO (D : Tab) : EW → Ex
  | .one e => evE D e
  | .more e w => eOr (evE D e) (evEO D w)
def evR (D : Tab) : R → Rx
  | .of e => rPd (evE D e)
  | .var i => rVar i
def evT (D : Tab) : T → Ts
  | .tru a => tTru (evR D a)
  | .cmp o a b => tBool (eBinR o.fn (evR D a) (evR D b))
  | .chain o o' a b c => tBool (eChain o.fn o'.fn (evR D a) (evR D b) (evR D c))
  | .not t => tNotF (evT D t)
  | .and w => evTA D w
  | .or w => evTO D w
def evTA (D : Tab) : TW → Ts
  | .one t => evT D t
  | .more t w => tAndF (evT D t) (evTA D w)
def evTO (D : Tab) : TW → Ts
  | .one t => evT D t
  | .more t w => tOrF (evT D t) (evTO D w)
def evA (D : Tab) : A → As
  | .nil => aNil
  | .cons e as => aCons (evE D e) (evA D as)
  | .star a as => aStar (evR D a) (evA D as)
def evRl (D : Tab) : Rl → Rs
  | .nil => sNil
  | .cons a as => sCons (evR D a) (evRl D as)
def evO (D : Tab) : O → Ev → Res (Option Int)
  | .none => oNone
  | .some a => oSome (evR D a)
def evP (D : Tab) : P → Pr
  | .nil => pNil
  | .cons k v ps => pCons (evE D k) (evE D v) (evP D ps)
def evI (D : Tab) : I → Rs
  | .seq e => seqI (evE D e)
  | .rng1 rs => callI range1P (evRl D rs)
  | .rng2 rs => callI range2P (evRl D rs)
  | .zip as => callI zipI (evA D as)
  | .enum as => callI enumI (evA D as)
def evC (D : Tab) : C → Ts
  | .none => cYes
  | .one t => evT D t
end

/-! ### the check -/
structure Cc where
  N : List Str
  sc : Scope
  wr : Str → Bool
  hot : Bool
def visB (sc : Scope) (x : Str) : Bool := match sc.names.lookup x with
  | some .local => true
  | some .cell => true
  | some .free => true
  | _ => false
theorem visB_ok {sc : Scope} {x : Str} (h : visB sc x = true) : Vis sc x := by
  unfold visB at h
  split at h
  · exact .inl (by assumption)
  · exact .inr (.inl (by assumption))
  · exact .inr (.inr (by assumption))
  · cases h
def locB (c : Cc) (x : Str) : Bool := match c.sc.names.lookup x with
  | some .local => true
  | some .cell => c.wr x
  | _ => false
def gloB (sc : Scope) (x : Str) : Bool := match sc.names.lookup x with
  | some .globalImplicit => x != "__debug__"
  | _ => false
def slotB (c : Cc) (i : Nat) (x : Str) : Bool := decide (c.N[i]? = some x) && x != "__debug__" && x != "__classdict__"
def relS (scope sc : Scope) : Scope := { scope with names := scope.names.map fun (n, k) => if (k == NameKind.free && sc.kind == .function && sc.names.lookup n == some .cell) then (n, NameKind.cell) else (n, k) }
theorem relS_is (scope : Scope) (env : Env) (cl : List (Str × Addr)) (C : Addr) : (compEnvC scope cl C env).scope = relS scope env.scope := rfl
def inCc (c : Cc) (scope : Scope) : Cc := ⟨c.N, relS scope c.sc, fun x => scope.names.lookup x == some .cell, c.hot⟩
def notSet : Expr → Bool
  | .Set .. => false
  | _ => true
theorem foldedNo {e : Expr} (h : notSet e = true) (env : Env) (x : Value) : foldedSetIterable e env x = pure x := by
  cases e <;> first
    | rfl
    | exact absurd (show false = true from h) Bool.false_ne_true
mutual
def chkG (c : Cc) : Tg → Expr → Bool
  | .nm i, e => match e with
    | .Name x _ => decide (c.N[i]? = some x) && locB c x
    | _ => false
  | .tp ts, e => match e with
    | .Tuple es _ _ => chkGs c ts es
    | _ => false
def chkGs (c : Cc) : Tgs → List Expr → Bool
  | .nil, es => match es with
    | [] => true
    | _ => false
  | .cons t ts, es => match es with
    | e :: es => notStar e && chkG c t e && chkGs c ts es
    | _ => false
end
def isTup : Expr → Bool
  | .Tuple .. => true
  | _ => false
def ownIn (own : List (Str × Nat)) (t : Tg) : Bool := t.ix.all fun i => (own.map (·.2)).contains i
/-- attributeBase reads it as it is -/
def plainBase : Expr → Bool
  | .Name .. => true
  | .Subscript .. => true
  | _ => false
mutual
def chkE (D : Str → Bool) (c : Cc) : E → Expr → Bool
  | .var i, e => match e with
    | .Name x _ => slotB c i x && visB c.sc x
    | _ => false
  | .int i, e => match e with
    | .Constant (.int j) _ _ => decide (i = j)
    | _ => false
  | .str x, e => match e with
    | .Constant (.str y) _ _ => decide (x = y)
    | _ => false
  | .bl b, e => match e with
    | .Constant (.bool b') _ _ => decide (b = b')
    | _ => false
  | .non, e => match e with
    | .Constant .none _ _ => true
    | _ => false
  | .glo x, e => match e with
    | .Name y _ => decide (x = y) && gloB c.sc x
    | _ => false
  | .bin o a b, e => match e with
    | .BinOp l op r _ => o.isO op && chkR D c a l && chkR D c b r
    | _ => false
  | .cmp o a b, e => match e with
    | .Compare l [op] [r] _ => o.isO op && chkR D c a l && chkR D c b r && !behindInMarks op r
    | _ => false
  | .chain o o' a b d, e => match e with
    | .Compare l [op, op'] [m, r] _ => o.isO op && o'.isO op' && chkR D c a l && chkR D c b m && chkR D c d r && !lastMarks [op, op'] [m, r]
    | _ => false
  | .not a, e => match e with
    | .UnaryOp .Not x _ => chkR D c a x
    | _ => false
  | .and w, e => match e with
    | .BoolOp .And es _ => chkEW D c w es
    | _ => false
  | .or w, e => match e with
    | .BoolOp .Or es _ => chkEW D c w es
    | _ => false
  | .ife t a b, e => match e with
    | .IfExp x y z _ => chkT D c t x && chkE D c a y && chkE D c b z
    | _ => false
  | .neg a, e => match e with
    | .UnaryOp .USub x _ => chkR D c a x
    | _ => false
  | .ix a b, e => match e with
    | .Subscript x y _ => chkR D c a x && chkR D c b y && notSlice y
    | _ => false
  | .slice a lo hi, e => match e with
    | .Subscript x (.Slice l h none _) _ => chkR D c a x && chkO D c lo l && chkO D c hi h
    | _ => false
  | .tup as, e => match e with
    | .Tuple es _ _ => chkA D c as es
    | _ => false
  | .lst as, e => match e with
    | .List es _ => chkA D c as es
    | _ => false
  | .disp ps, e => match e with
    | .Dict ks vs _ => chkP D c ps ks vs && ks.all (·.isSome) && decide (ks.length = vs.length) && !ks.isEmpty && decide (ks.length ≤ 15)
    | _ => false
  | .dK, e => match e with
    | .Dict [] [] _ => true
    | _ => false
  | .dT, e => match e with
    | .Dict [] [] _ => true
    | _ => false
  | .call x as, e => !c.hot && (match e with
    | .Call (.Name y _) (a :: es) [] _ => decide (x = y) && gloB c.sc y && noStars (a :: es) && chkA D c as (a :: es)
    | _ => false)
  | .call0 x, e => !c.hot && (match e with
    | .Call (.Name y _) [] [] _ => decide (x = y) && gloB c.sc y
    | _ => false)
  | .callV f as, e => !c.hot && (match e with
    | .Call (.Subscript u v q) (a :: es) [] _ => noStars (a :: es) && chkA D c as (a :: es) && chkE D c f (.Subscript u v q)
    | _ => false)
  | .blt b rs, e => !c.hot && (match e with
    | .Call (.Name y _) (a :: es) [] _ => decide (y = b.nm) && gloB c.sc y && D y && noStars (a :: es) && chkRl D c rs (a :: es)
    | _ => false)
  | .lenset a, e => !c.hot && (match e with
    | .Call (.Name y _) [.Call (.Name z _) [u] [] _] [] _ => decide (y = "len") && decide (z = "set") && gloB c.sc y && gloB c.sc z && D y && D z && notStar u && chkE D c a u
    | _ => false)
  | .comp it own tg cd elt, e => !c.hot && (match e with
    | .ListComp x [⟨t, i, ifs, 0⟩] scope _ => chkI D c it (isTup t) i && notSet i && blkC c.N c.sc scope own && ownIn own tg && chkG (inCc c scope) tg t && chkC D (inCc c scope) cd ifs && chkE D (inCc c scope) elt x
    | _ => false)
  | .at a, e => match e with
    | .Attribute x n _ => decide (n = "at") && plainBase x && chkR D c a x
    | _ => false
  | .mk x as, e => !c.hot && (match e with
    | .Call (.Name y _) [a] [] _ => decide (x = y) && gloB c.sc y && notStar a && chkA D c as [a]
    | _ => false)
  | .isi a x, e => match e with
    | .Call (.Name y _) [u, .Name z _] [] _ => decide (y = "isinstance") && decide (z = x) && gloB c.sc y && gloB c.sc z && D y && notStar u && chkR D c a u
    | _ => false
def chkEW (D : Str → Bool) (c : Cc) : EW → List Expr → Bool
  | .one e, es => match es with
    | [x] => chkE D c e x
    | _ => false
  | .more e w, es => match es with
    | x :: y :: r => chkE D c e x && chkEW D c w (y :: r)
    | _ => false
def chkR (D : Str → Bool) (c : Cc) : R → Expr → Bool
  | .of e, x => chkE D c e x
  | .var i, e => match e with
    | .Name x _ => slotB c i x && visB c.sc x
    | _ => false
def chkT (D : Str → Bool) (c : Cc) : T → Expr → Bool
  | .tru a, e => plainTest e && chkR D c a e
  | .cmp o a b, e => match e with
    | .Compare l [op] [r] _ => o.isO op && chkR D c a l && chkR D c b r && !behindInMarks op r
    | _ => false
  | .chain o o' a b d, e => match e with
    | .Compare l [op, op'] [m, r] _ => o.isO op && o'.isO op' && chkR D c a l && chkR D c b m && chkR D c d r && !lastMarks [op, op'] [m, r]
    | _ => false
  | .not t, e => match e with
    | .UnaryOp .Not x _ => chkT D c t x
    | _ => false
  | .and w, e => match e with
    | .BoolOp .And es _ => chkTW D c w es
    | _ => false
  | .or w, e => match e with
    | .BoolOp .Or es _ => chkTW D c w es
    | _ => false
def chkTW (D : Str → Bool) (c : Cc) : TW → List Expr → Bool
  | .one e, es => match es with
    | [x] => chkT D c e x
    | _ => false
  | .more e w, es => match es with
    | x :: y :: r => chkT D c e x && chkTW D c w (y :: r)
    | _ => false
def chkA (D : Str → Bool) (c : Cc) : A → List Expr → Bool
  | .nil, es => match es with
    | [] => true
    | _ => false
  | .cons e as, es => match es with
    | x :: r => notStar x && chkE D c e x && chkA D c as r
    | _ => false
  | .star a as, es => match es with
    | .Starred x _ :: r => chkR D c a x && chkA D c as r
    | _ => false
def chkRl (D : Str → Bool) (c : Cc) : Rl → List Expr → Bool
  | .nil, es => match es with
    | [] => true
    | _ => false
  | .cons a as, es => match es with
    | x :: r => notStar x && chkR D c a x && chkRl D c as r
    | _ => false
def chkO (D : Str → Bool) (c : Cc) : O → Option Expr → Bool
  | .none, e => match e with
    | none => true
    | _ => false
  | .some a, e => match e with
    | some x => chkR D c a x
    | _ => false
def chkP (D : Str → Bool) (c : Cc) : P → List (Option Expr) → List Expr → Bool
  | .nil, ks, vs => match ks, vs with
    | [], [] => true
    | _, _ => false
  | .cons k v ps, ks, vs => match ks, vs with
    | some x :: kr, y :: vr => chkE D c k x && chkE D c v y && chkP D c ps kr vr
    | _, _ => false
def chkI (D : Str → Bool) (c : Cc) : I → Bool → Expr → Bool
  | .seq e, _, x => chkE D c e x
  | .rng1 rs, _, e => match e with
    | .Call (.Name y _) [a] [] _ => decide (y = "range") && gloB c.sc y && D y && notStar a && chkRl D c rs [a]
    | _ => false
  | .rng2 rs, _, e => match e with
    | .Call (.Name y _) [a, b] [] _ => decide (y = "range") && gloB c.sc y && D y && noStars [a, b] && chkRl D c rs [a, b]
    | _ => false
  | .zip as, t, e => match e with
    | .Call (.Name y _) [a, b] [] _ => t && decide (y = "zip") && gloB c.sc y && D y && noStars [a, b] && chkA D c as [a, b]
    | _ => false
  | .enum as, t, e => match e with
    | .Call (.Name y _) [a] [] _ => t && decide (y = "enumerate") && gloB c.sc y && D y && notStar a && chkA D c as [a]
    | _ => false
def chkC (D : Str → Bool) (c : Cc) : C → List Expr → Bool
  | .none, es => match es with
    | [] => true
    | _ => false
  | .one t, es => match es with
    | [x] => chkT D c t x
    | _ => false
end
end FL
set_option Elab.async false
set_option linter.all false
set_option maxRecDepth 100000
set_option maxHeartbeats 2000000
/-! FL17: soundness of the check of expressions -/
namespace FL
open PySem PySem.Spec PyProof.Rows L2

theorem plainBase_is {x : Expr} (h : plainBase x = true) (env : Env) : attributeBase x "at" env (eval x env) = eval x env := by
  cases x <;> first
    | rfl
    | exact absurd (show false = true from h) Bool.false_ne_true
structure GE (D : Tab) (k : Nat) (c : Cc) (X : Cx) (W : WX) : Prop where
  N : X.N = c.N
  nd : c.N.Nodup
  sc : X.env.scope = c.sc
  calm : c.hot = false → X.calm = true
  room : c.hot = false → Room k X.A
  un : X.A.units + 65 < cLine
  tk : Takes X W
  fnv : ∀ x, c.wr x = true → X.fn x = true
  fns : ∀ x n m, D.fns x = some (n, m) → FnKnown X.prog X.w X.K X.mg X.base k x n m
  gl : ∀ x p, D.gl x = some p → GKnown X.K X.mg x p
  bl : ∀ x, D.bl x = true → X.mg x = none
  exs : ∀ x, D.exs x = true → ∃ C D' fI, PySem.AtX.AtTxt X.prog X.K X.mg x C D' fI
  sup : X.mg "super" = none
  isi : IsiOk X.K X.mg D.isi
theorem e_stuck {X : Cx} {W : WX} {e : Expr} : EOk X W e eStuck := fun G => ⟨fun pins s σ H Q I h => by
  obtain ⟨F, ρ, S, h⟩ := h
  exact h.elim⟩
section
variable {D : Tab} {k : Nat} {c : Cc} {X : Cx} {W : WX}
theorem GE.slot (g : GE D k c X W) {i : Nat} {x : Str} (h : slotB c i x = true) : X.N[i]? = some x ∧ (x == ("__debug__" : Str)) = false ∧ (x == ("__classdict__" : Str)) = false := by
  unfold slotB at h
  rw [Bool.and_eq_true, Bool.and_eq_true] at h
  refine ⟨by rw [g.N]; exact of_decide_eq_true h.1.1, ?_, ?_⟩
  · have := h.1.2
    simpa using this
  · have := h.2
    simpa using this
theorem GE.vis (g : GE D k c X W) {x : Str} (h : visB c.sc x = true) : Vis X.env.scope x := by
  rw [g.sc]
  exact visB_ok h
theorem GE.glob (g : GE D k c X W) {x : Str} (h : gloB c.sc x = true) : Gl X x ∧ (x == ("__debug__" : Str)) = false := by
  unfold gloB at h
  split at h
  · rename_i e
    refine ⟨?_, by simpa using h⟩
    show X.env.scope.names.lookup x = _
    rw [g.sc]
    exact e
  · cases h
theorem GE.loc (g : GE D k c X W) {x : Str} (h : locB c x = true) : Loc X.env.scope x ∧ (X.fn x = true ∨ X.env.scope.names.lookup x = some .local) := by
  unfold locB at h
  rw [g.sc]
  split at h
  · exact ⟨.inl (by assumption), .inr (by assumption)⟩
  · exact ⟨.inr (by assumption), .inl (g.fnv _ h)⟩
  · cases h
theorem GE.units (g : GE D k c X W) : X.A.units + 65 < cLine := g.un
/-- the context of a block -/
theorem GE.blk (g : GE D k c X W) (s : Shared) (H : Hp) {scope : Scope} {own : List (Str × Nat)} (cl : List (Str × Addr)) (C : Addr) (fp : List Addr) : GE D k (inCc c scope) (X.blk s H scope (compEnvC scope cl C X.env) fp) W0 where
  N := g.N
  nd := g.nd
  sc := by
    show (compEnvC scope cl C X.env).scope = relS scope c.sc
    rw [relS_is, g.sc]
  calm := g.calm
  room := g.room
  tk := takes0
  fnv := fun x h => h
  fns := g.fns
  gl := g.gl
  bl := g.bl
  un := g.un
  exs := g.exs
  sup := g.sup
  isi := g.isi
mutual
theorem sndG (g : GE D k c X W) (hh : c.hot = false) : ∀ (t : Tg) (e : Expr), chkG c t e = true → GOk X e t
  | .nm i, e, h => by
    unfold chkG at h
    split at h
    · rw [Bool.and_eq_true] at h
      obtain ⟨h1, h2⟩ := g.loc h.2
      exact g_name (by rw [g.N]; exact g.nd) (by rw [g.N]; exact of_decide_eq_true h.1) h1 h2
    · cases h
  | .tp ts, e, h => by
    unfold chkG at h
    split at h
    · obtain ⟨h1, h2, h3⟩ := sndGs g hh ts _ h
      exact g_tup (g.calm hh) h1 h2 h3
    · cases h
theorem sndGs (g : GE D k c X W) (hh : c.hot = false) : ∀ (ts : Tgs) (es : List Expr), chkGs c ts es = true → GsOk X es ts ∧ (assignEach es X.env).length = ts.len ∧ (assignEach es X.env).findIdx? (·.1) = none
  | .nil, es, h => by
    unfold chkGs at h
    split at h
    · exact ⟨gs_nil, rfl, rfl⟩
    · cases h
  | .cons t ts, es, h => by
    unfold chkGs at h
    split at h
    · rename_i e es
      rw [Bool.and_eq_true, Bool.and_eq_true] at h
      obtain ⟨h1, h2, h3⟩ := sndGs g hh ts _ h.2
      have hs : assignEach (e :: es) X.env = (false, assign e X.env) :: assignEach es X.env := by
        have := h.1.1
        cases e <;> first
          | rfl
          | exact absurd (show false = true from this) Bool.false_ne_true
      refine ⟨gs_cons (sndG g hh t _ h.1.2) h1 (by rw [hs]; rfl), ?_, ?_⟩
      · rw [hs]
        show (assignEach es X.env).length + 1 = ts.len + 1
        rw [h2]
      · rw [hs, List.findIdx?_cons]
        simp only [Bool.false_eq_true, if_false, h3, Option.map_none]
    · cases h
end
end
theorem own_ix {own : List (Str × Nat)} {t : Tg} (h : ownIn own t = true) : ∀ i, i ∈ t.ix → i ∈ own.map (·.2) := fun i hi => by
  unfold ownIn at h
  have := List.all_eq_true.mp h i hi
  simpa using this
theorem isTup_eq {e : Expr} (h : isTup e = true) : ∃ es k p, e = .Tuple es k p := by
  cases e <;> first
    | exact ⟨_, _, _, rfl⟩
    | exact absurd (show false = true from h) Bool.false_ne_true
mutual
theorem sndE (D : Tab) : ∀ (i : E) (e : Expr) (k : Nat) (c : Cc) (X : Cx) (W : WX), GE D k c X W → chkE D.bl c i e = true → EOk X W e (evE D i)
  | .var i, e, k, c, X, W, g, h => by
    unfold chkE at h
    split at h
    · rw [Bool.and_eq_true] at h
      obtain ⟨h1, h2, h3⟩ := g.slot h.1
      exact e_var h1 (g.vis h.2) h2 h3
    · cases h
  | .int i, e, k, c, X, W, g, h => by
    unfold chkE at h
    split at h
    · obtain rfl := of_decide_eq_true h
      exact e_int
    · cases h
  | .str x, e, k, c, X, W, g, h => by
    unfold chkE at h
    split at h
    · obtain rfl := of_decide_eq_true h
      exact e_str
    · cases h
  | .bl b, e, k, c, X, W, g, h => by
    unfold chkE at h
    split at h
    · obtain rfl := of_decide_eq_true h
      exact e_bl
    · cases h
  | .non, e, k, c, X, W, g, h => by
    unfold chkE at h
    split at h
    · exact e_non
    · cases h
  | .glo x, e, k, c, X, W, g, h => by
    unfold chkE at h
    split at h
    · rw [Bool.and_eq_true] at h
      obtain rfl := of_decide_eq_true h.1
      obtain ⟨h1, h2⟩ := g.glob h.2
      unfold evE
      cases e1 : D.gl x with
      | none => exact e_stuck
      | some p => exact e_gl h1 h2 (g.gl _ _ e1)
    · cases h
  | .bin o a b, e, k, c, X, W, g, h => by
    unfold chkE at h
    split at h
    · simp only [Bool.and_eq_true] at h
      obtain rfl := Bop.isO_eq h.1.1
      exact e_binR o.tells o.quiet (sndR D a _ k c X W g h.1.2) (sndR D b _ k c X W g h.2)
    · cases h
  | .cmp o a b, e, k, c, X, W, g, h => by
    unfold chkE at h
    split at h
    · simp only [Bool.and_eq_true, Bool.not_eq_true'] at h
      obtain rfl := Cop.isO_eq h.1.1.1
      exact e_cmpR (o.tells g.units) o.quiet (sndR D a _ k c X W g h.1.1.2) (sndR D b _ k c X W g h.1.2) h.2
    · cases h
  | .chain o o' a b d, e, k, c, X, W, g, h => by
    unfold chkE at h
    split at h
    · simp only [Bool.and_eq_true, Bool.not_eq_true'] at h
      obtain rfl := Cop.isO_eq h.1.1.1.1.1
      obtain rfl := Cop.isO_eq h.1.1.1.1.2
      exact e_chain (o.tells g.units) o.quiet (o'.tells g.units) o'.quiet (sndR D a _ k c X W g h.1.1.1.2) (sndR D b _ k c X W g h.1.1.2) (sndR D d _ k c X W g h.1.2) h.2
    · cases h
  | .not a, e, k, c, X, W, g, h => by
    unfold chkE at h
    split at h
    · exact e_not (sndR D a _ k c X W g h)
    · cases h
  | .and w, e, k, c, X, W, g, h => by
    unfold chkE at h
    split at h
    · exact sndEA D w _ _ k c X W g h
    · cases h
  | .or w, e, k, c, X, W, g, h => by
    unfold chkE at h
    split at h
    · exact sndEO D w _ _ k c X W g h
    · cases h
  | .ife t a b, e, k, c, X, W, g, h => by
    unfold chkE at h
    split at h
    · simp only [Bool.and_eq_true] at h
      exact e_ifExp (sndT D t _ k c X W g h.1.1) (sndE D a _ k c X W g h.1.2) (sndE D b _ k c X W g h.2)
    · cases h
  | .neg a, e, k, c, X, W, g, h => by
    unfold chkE at h
    split at h
    · exact e_neg (sndR D a _ k c X W g h)
    · cases h
  | .ix a b, e, k, c, X, W, g, h => by
    unfold chkE at h
    split at h
    · simp only [Bool.and_eq_true] at h
      have := g.units
      exact e_ixA (by omega) (sndR D a _ k c X W g h.1.1) (sndR D b _ k c X W g h.1.2) h.2
    · cases h
  | .slice a lo hi, e, k, c, X, W, g, h => by
    unfold chkE at h
    split at h
    · simp only [Bool.and_eq_true] at h
      exact e_slice (sndR D a _ k c X W g h.1.1) (sndO D lo _ k c X W g h.1.2) (sndO D hi _ k c X W g h.2)
    · cases h
  | .tup as, e, k, c, X, W, g, h => by
    unfold chkE at h
    split at h
    · exact e_tup (sndA D as _ k c X W g h)
    · cases h
  | .lst as, e, k, c, X, W, g, h => by
    unfold chkE at h
    split at h
    · exact e_lst (sndA D as _ k c X W g h)
    · cases h
  | .disp ps, e, k, c, X, W, g, h => by
    unfold chkE at h
    split at h
    · simp only [Bool.and_eq_true, Bool.not_eq_true'] at h
      exact e_disp (sndP D ps _ _ k c X W g h.1.1.1.1) h.1.1.1.2 (of_decide_eq_true h.1.1.2) (fun z => by rw [z] at h; exact absurd h.1.2 (by decide)) (of_decide_eq_true h.2)
    · cases h
  | .dK, e, k, c, X, W, g, h => by
    unfold chkE at h
    split at h
    · exact e_dictK
    · cases h
  | .dT, e, k, c, X, W, g, h => by
    unfold chkE at h
    split at h
    · exact e_dictT
    · cases h
  | .call x as, e, k, c, X, W, g, h => by
    unfold chkE at h
    rw [Bool.and_eq_true, Bool.not_eq_true'] at h
    obtain ⟨hh, h⟩ := h
    split at h
    · simp only [Bool.and_eq_true] at h
      obtain rfl := of_decide_eq_true h.1.1.1
      obtain ⟨h1, h2⟩ := g.glob h.1.1.2
      unfold evE
      cases e1 : D.fns x with
      | none => exact e_stuck
      | some nm =>
        obtain ⟨n, m⟩ := nm
        exact e_fun (g.fns _ _ _ e1) (g.room hh) g.tk h1 h2 (sndA D as _ k c X W g h.2) h.1.2
    · cases h
  | .call0 x, e, k, c, X, W, g, h => by
    unfold chkE at h
    rw [Bool.and_eq_true, Bool.not_eq_true'] at h
    obtain ⟨hh, h⟩ := h
    split at h
    · simp only [Bool.and_eq_true] at h
      obtain rfl := of_decide_eq_true h.1
      obtain ⟨h1, h2⟩ := g.glob h.2
      unfold evE
      cases e1 : D.fns x with
      | none => exact e_stuck
      | some nm =>
        obtain ⟨n, m⟩ := nm
        show EOk X W _ (if n = 0 then eFun 0 m aNil else eStuck)
        by_cases hn : n = 0
        · subst hn
          rw [if_pos rfl]
          exact e_fun0 (g.fns _ _ _ e1) (g.room hh) g.tk h1 h2
        · rw [if_neg hn]
          exact e_stuck
    · cases h
  | .callV f as, e, k, c, X, W, g, h => by
    unfold chkE at h
    rw [Bool.and_eq_true, Bool.not_eq_true'] at h
    obtain ⟨hh, h⟩ := h
    split at h
    · simp only [Bool.and_eq_true] at h
      exact e_callV g.fns (g.room hh) g.tk (sndE D f _ k c X W g h.2) (sndA D as _ k c X W g h.1.2) h.1.1 (by rfl)
    · cases h
  | .blt b rs, e, k, c, X, W, g, h => by
    unfold chkE at h
    rw [Bool.and_eq_true, Bool.not_eq_true'] at h
    obtain ⟨hh, h⟩ := h
    split at h
    · simp only [Bool.and_eq_true] at h
      obtain ⟨h1, h2⟩ := g.glob h.1.1.1.2
      exact b.ok (g.calm hh) (of_decide_eq_true h.1.1.1.1) h1 (g.bl _ h.1.1.2) (sndRl D rs _ k c X W g h.2) h.1.2
    · cases h
  | .lenset a, e, k, c, X, W, g, h => by
    unfold chkE at h
    rw [Bool.and_eq_true, Bool.not_eq_true'] at h
    obtain ⟨hh, h⟩ := h
    split at h
    · simp only [Bool.and_eq_true] at h
      obtain rfl := of_decide_eq_true h.1.1.1.1.1.1.1
      obtain rfl := of_decide_eq_true h.1.1.1.1.1.1.2
      have := g.units
      exact e_lenSet (by omega) (g.calm hh) (g.glob h.1.1.1.1.1.2).1 (g.bl _ h.1.1.1.2) (g.glob h.1.1.1.1.2).1 (g.bl _ h.1.1.2) (sndE D a _ k c X W g h.2) h.1.2
    · cases h
  | .comp it own tg cd elt, e, k, c, X, W, g, h => by
    unfold chkE at h
    rw [Bool.and_eq_true, Bool.not_eq_true'] at h
    obtain ⟨hh, h⟩ := h
    split at h
    · simp only [Bool.and_eq_true] at h
      obtain ⟨⟨⟨⟨⟨⟨h1, h2⟩, h3⟩, h4⟩, h5⟩, h6⟩, h7⟩ := h
      refine e_comp (g.calm hh) (by rw [g.N]; exact g.nd) (sndI D it _ _ _ k c X W g (fun z => isTup_eq z) h1) (by rw [g.N, g.sc]; exact blkOk_by h3) (own_ix h4) (fun s H C cl fp => sndG (g.blk (own := own) s H cl C fp) hh tg _ h5)
        (fun s H C cl fp => sndC D cd _ k _ _ _ (g.blk (own := own) s H cl C fp) h6) (fun s H C cl fp => sndE D elt _ k _ _ _ (g.blk (own := own) s H cl C fp) h7) (fun x => foldedNo h2 X.env x)
    · cases h
  | .at a, e, k, c, X, W, g, h => by
    unfold chkE at h
    split at h
    · simp only [Bool.and_eq_true] at h
      obtain rfl := of_decide_eq_true h.1.1
      exact e_at g.exs (sndR D a _ k c X W g h.2) (plainBase_is h.1.2 _)
    · cases h
  | .mk x as, e, k, c, X, W, g, h => by
    unfold chkE at h
    rw [Bool.and_eq_true, Bool.not_eq_true'] at h
    obtain ⟨hh, h⟩ := h
    split at h
    · simp only [Bool.and_eq_true] at h
      obtain rfl := of_decide_eq_true h.1.1.1
      obtain ⟨h1, h2⟩ := g.glob h.1.1.2
      unfold evE
      split
      · rename_i hx
        obtain ⟨C, D', fI, T⟩ := g.exs _ hx
        exact e_mk T (g.room hh) (sndA D as _ k c X W g h.2) h1 g.sup h2 h.1.2
      · exact e_stuck
    · cases h
  | .isi a x, e, k, c, X, W, g, h => by
    unfold chkE at h
    split at h
    · simp only [Bool.and_eq_true] at h
      obtain ⟨⟨⟨⟨⟨⟨h1, h2⟩, h3⟩, h4⟩, h5⟩, h6⟩, h7⟩ := h
      obtain rfl := of_decide_eq_true h1
      obtain rfl := of_decide_eq_true h2
      exact e_isi g.isi (g.glob h3).1 (g.bl _ h5) (g.glob h4).1 (g.glob h4).2 (sndR D a _ k c X W g h7) h6
    · cases h
theorem sndEA (D : Tab) : ∀ (w : EW) (es : List Expr) (pos : Pos) (k : Nat) (c : Cc) (X : Cx) (W : WX), GE D k c X W → chkEW D.bl c w es = true → EOk X W (.BoolOp .And es pos) (evEA D w)
  | .one e, es, pos, k, c, X, W, g, h => by
    unfold chkEW at h
    split at h
    · exact e_one (sndE D e _ k c X W g h)
    · cases h
  | .more e w, es, pos, k, c, X, W, g, h => by
    unfold chkEW at h
    split at h
    · rw [Bool.and_eq_true] at h
      exact e_and (sndE D e _ k c X W g h.1) (sndEA D w _ pos k c X W g h.2)
    · cases h
theorem sndEO (D : Tab) : ∀ (w : EW) (es : List Expr) (pos : Pos) (k : Nat) (c : Cc) (X : Cx) (W : WX), GE D k c X W → chkEW D.bl c w es = true → EOk X W (.BoolOp .Or es pos) (evEO D w)
  | .one e, es, pos, k, c, X, W, g, h => by
    unfold chkEW at h
    split at h
    · exact e_one (sndE D e _ k c X W g h)
    · cases h
  | .more e w, es, pos, k, c, X, W, g, h => by
    unfold chkEW at h
    split at h
    · rw [Bool.and_eq_true] at h
      exact e_or (sndE D e _ k c X W g h.1) (sndEO D w _ pos k c X W g h.2)
    · cases h
theorem sndR (D : Tab) : ∀ (i : R) (e : Expr) (k : Nat) (c : Cc) (X : Cx) (W : WX), GE D k c X W → chkR D.bl c i e = true → ROk X W e (evR D i)
  | .of i, e, k, c, X, W, g, h => by
    unfold chkR at h
    exact r_of (sndE D i e k c X W g h)
  | .var i, e, k, c, X, W, g, h => by
    unfold chkR at h
    split at h
    · rw [Bool.and_eq_true] at h
      obtain ⟨h1, h2, h3⟩ := g.slot h.1
      exact r_var h1 (g.vis h.2) h2 h3
    · cases h
theorem sndT (D : Tab) : ∀ (i : T) (e : Expr) (k : Nat) (c : Cc) (X : Cx) (W : WX), GE D k c X W → chkT D.bl c i e = true → TOk X W e (evT D i)
  | .tru a, e, k, c, X, W, g, h => by
    unfold chkT at h
    rw [Bool.and_eq_true] at h
    exact t_truth (sndR D a e k c X W g h.2) h.1
  | .cmp o a b, e, k, c, X, W, g, h => by
    unfold chkT at h
    split at h
    · simp only [Bool.and_eq_true, Bool.not_eq_true'] at h
      obtain rfl := Cop.isO_eq h.1.1.1
      exact t_cmpR (o.tells g.units) o.quiet (sndR D a _ k c X W g h.1.1.2) (sndR D b _ k c X W g h.1.2) h.2
    · cases h
  | .chain o o' a b d, e, k, c, X, W, g, h => by
    unfold chkT at h
    split at h
    · simp only [Bool.and_eq_true, Bool.not_eq_true'] at h
      obtain rfl := Cop.isO_eq h.1.1.1.1.1
      obtain rfl := Cop.isO_eq h.1.1.1.1.2
      exact t_chain (o.tells g.units) o.quiet (o'.tells g.units) o'.quiet (sndR D a _ k c X W g h.1.1.1.2) (sndR D b _ k c X W g h.1.1.2) (sndR D d _ k c X W g h.1.2) h.2
    · cases h
  | .not t, e, k, c, X, W, g, h => by
    unfold chkT at h
    split at h
    · exact t_not (sndT D t _ k c X W g h)
    · cases h
  | .and w, e, k, c, X, W, g, h => by
    unfold chkT at h
    split at h
    · exact t_of_w (sndTA D w _ _ k c X W g h)
    · cases h
  | .or w, e, k, c, X, W, g, h => by
    unfold chkT at h
    split at h
    · exact t_of_w (sndTO D w _ _ k c X W g h)
    · cases h
theorem sndTA (D : Tab) : ∀ (w : TW) (es : List Expr) (pos : Pos) (k : Nat) (c : Cc) (X : Cx) (W : WX), GE D k c X W → chkTW D.bl c w es = true → WOk X W (.BoolOp .And es pos) (evTA D w)
  | .one e, es, pos, k, c, X, W, g, h => by
    unfold chkTW at h
    split at h
    · exact w_and1 (sndT D e _ k c X W g h)
    · cases h
  | .more e w, es, pos, k, c, X, W, g, h => by
    unfold chkTW at h
    split at h
    · rw [Bool.and_eq_true] at h
      exact w_and (sndT D e _ k c X W g h.1) (sndTA D w _ pos k c X W g h.2)
    · cases h
theorem sndTO (D : Tab) : ∀ (w : TW) (es : List Expr) (pos : Pos) (k : Nat) (c : Cc) (X : Cx) (W : WX), GE D k c X W → chkTW D.bl c w es = true → WOk X W (.BoolOp .Or es pos) (evTO D w)
  | .one e, es, pos, k, c, X, W, g, h => by
    unfold chkTW at h
    split at h
    · exact w_or1 (sndT D e _ k c X W g h)
    · cases h
  | .more e w, es, pos, k, c, X, W, g, h => by
    unfold chkTW at h
    split at h
    · rw [Bool.and_eq_true] at h
      exact w_or (sndT D e _ k c X W g h.1) (sndTO D w _ pos k c X W g h.2)
    · cases h
theorem sndA (D : Tab) : ∀ (i : A) (es : List Expr) (k : Nat) (c : Cc) (X : Cx) (W : WX), GE D k c X W → chkA D.bl c i es = true → AOk X W es (evA D i)
  | .nil, es, k, c, X, W, g, h => by
    unfold chkA at h
    split at h
    · exact a_nil
    · cases h
  | .cons e as, es, k, c, X, W, g, h => by
    unfold chkA at h
    split at h
    · simp only [Bool.and_eq_true] at h
      exact a_cons (sndE D e _ k c X W g h.1.2) (sndA D as _ k c X W g h.2) h.1.1
    · cases h
  | .star a as, es, k, c, X, W, g, h => by
    unfold chkA at h
    split at h
    · simp only [Bool.and_eq_true] at h
      exact a_star (sndR D a _ k c X W g h.1) (sndA D as _ k c X W g h.2)
    · cases h
theorem sndRl (D : Tab) : ∀ (i : Rl) (es : List Expr) (k : Nat) (c : Cc) (X : Cx) (W : WX), GE D k c X W → chkRl D.bl c i es = true → RsOk X W es (evRl D i)
  | .nil, es, k, c, X, W, g, h => by
    unfold chkRl at h
    split at h
    · exact s_nil
    · cases h
  | .cons a as, es, k, c, X, W, g, h => by
    unfold chkRl at h
    split at h
    · simp only [Bool.and_eq_true] at h
      exact s_cons (sndR D a _ k c X W g h.1.2) (sndRl D as _ k c X W g h.2) h.1.1
    · cases h
theorem sndO (D : Tab) : ∀ (i : O) (e : Option Expr) (k : Nat) (c : Cc) (X : Cx) (W : WX), GE D k c X W → chkO D.bl c i e = true → OOk X W e (evO D i)
  | .none, e, k, c, X, W, g, h => by
    unfold chkO at h
    split at h
    · exact o_none
    · cases h
  | .some a, e, k, c, X, W, g, h => by
    unfold chkO at h
    split at h
    · exact o_some (sndR D a _ k c X W g h)
    · cases h
theorem sndP (D : Tab) : ∀ (i : P) (ks : List (Option Expr)) (vs : List Expr) (k : Nat) (c : Cc) (X : Cx) (W : WX), GE D k c X W → chkP D.bl c i ks vs = true → POk X W ks vs (evP D i)
  | .nil, ks, vs, k, c, X, W, g, h => by
    unfold chkP at h
    split at h
    · exact p_nil
    · cases h
  | .cons a b ps, ks, vs, k, c, X, W, g, h => by
    unfold chkP at h
    split at h
    · simp only [Bool.and_eq_true] at h
      exact p_cons (sndE D a _ k c X W g h.1.1) (sndE D b _ k c X W g h.1.2) (sndP D ps _ _ k c X W g h.2)
    · cases h
theorem sndI (D : Tab) : ∀ (i : I) (t : Bool) (tg e : Expr) (k : Nat) (c : Cc) (X : Cx) (W : WX), GE D k c X W → (t = true → ∃ es k p, tg = .Tuple es k p) → chkI D.bl c i t e = true → IOk X W tg e (evI D i)
  | .seq a, t, tg, e, k, c, X, W, g, ht, h => by
    unfold chkI at h
    exact i_seq (sndE D a e k c X W g h)
  | .rng1 rs, t, tg, e, k, c, X, W, g, ht, h => by
    unfold chkI at h
    split at h
    · simp only [Bool.and_eq_true] at h
      obtain rfl := of_decide_eq_true h.1.1.1.1
      exact i_range1 (g.glob h.1.1.1.2).1 (g.bl _ h.1.1.2) (sndRl D rs _ k c X W g h.2) h.1.2
    · cases h
  | .rng2 rs, t, tg, e, k, c, X, W, g, ht, h => by
    unfold chkI at h
    split at h
    · simp only [Bool.and_eq_true] at h
      obtain rfl := of_decide_eq_true h.1.1.1.1
      exact i_range2 (g.glob h.1.1.1.2).1 (g.bl _ h.1.1.2) (sndRl D rs _ k c X W g h.2) (by simpa using h.1.2)
    · cases h
  | .zip as, t, tg, e, k, c, X, W, g, ht, h => by
    unfold chkI at h
    split at h
    · simp only [Bool.and_eq_true] at h
      obtain rfl := of_decide_eq_true h.1.1.1.1.2
      obtain ⟨es, k', p, rfl⟩ := ht h.1.1.1.1.1
      exact i_zip (g.glob h.1.1.1.2).1 (g.bl _ h.1.1.2) (sndA D as _ k c X W g h.2) (by simpa using h.1.2)
    · cases h
  | .enum as, t, tg, e, k, c, X, W, g, ht, h => by
    unfold chkI at h
    split at h
    · simp only [Bool.and_eq_true] at h
      obtain rfl := of_decide_eq_true h.1.1.1.1.2
      obtain ⟨es, k', p, rfl⟩ := ht h.1.1.1.1.1
      exact i_enum (g.glob h.1.1.1.2).1 (g.bl _ h.1.1.2) (sndA D as _ k c X W g h.2) h.1.2
    · cases h
theorem sndC (D : Tab) : ∀ (i : C) (es : List Expr) (k : Nat) (c : Cc) (X : Cx) (W : WX), GE D k c X W → chkC D.bl c i es = true → CsOk X W es (evC D i)
  | .none, es, k, c, X, W, g, h => by
    unfold chkC at h
    split at h
    · exact c_nil
    · cases h
  | .one t, es, k, c, X, W, g, h => by
    unfold chkC at h
    split at h
    · exact c_one (sndT D t _ k c X W g h)
    · cases h
end
end FL
set_option Elab.async false
set_option linter.all false
set_option maxRecDepth 100000
set_option maxHeartbeats 2000000
/-! FL18: the deep syntax of statements: meaning, check, soundness; the table of functions -/
namespace FL
open PySem PySem.Spec PyProof.Rows L2

mutual
inductive S where
  | pass
  | brk
  | cont
  | expr (e : E)
  | ret (e : E)
  | retV (i : Nat)
  | retN
  | ife (t : T) (a b : B)
  | set (i : Nat) (e : E)
  | setLc (i : Nat) (it : I) (own : List (Str × Nat)) (tg : Tg) (c : C) (elt : E)
  | asg (tg : Tg) (e : E)
  | par (i j : Nat) (as : A)
  | app (i : Nat) (e : E)
  | sub (i : Nat) (k : R) (e : E)
  | for_ (it : I) (tg : Tg) (b : B)
  | while_ (n : Nat) (t : T) (b : B)
  | raise (x : Str) (as : A)
  | try_ (b : B) (hs : Hs)
  | pre (i : Nat) (s : S)
inductive B where
  | nil
  | cons (s : S) (b : B)
inductive Hs where
  | nil
  | cons (x : Str) (i : Option Nat) (b : B) (r : Hs)
end
mutual
def evS (D : Tab) : S → Ss
  | .pass => sNext
  | .brk => sBreak
  | .cont => sCont
  | .expr e => sExpr (evE D e)
  | .ret e => sRet (evE D e)
  | .retV i => sRetV i
  | .retN => sRetN
  | .ife t a b => sIf (evT D t) (evB D a) (evB D b)
  | .set i e => sSet i (evE D e)
  | .setLc i it own tg c elt => sSet i (eComp (evI D it) (own.map (·.2)) tg (evC D c) (evE D elt))
  | .asg tg e => sAsg tg (evE D e)
  | .par i j as => sPar i j (evA D as)
  | .app i e => sApp i (evE D e)
  | .sub i k e => sSub i (evR D k) (evE D e)
  | .for_ it tg b => sFor (evI D it) tg (evB D b)
  | .while_ n t b => whileL (evT D t) (evB D b) n
  | .raise x as => sRaise x (evA D as)
  | .try_ b hs => sTry D.sub (evB D b) (evH D hs)
  | .pre i s => sPre i (evS D s)
def evB (D : Tab) : B → Ss
  | .nil => sNext
  | .cons s b => sSeq (evS D s) (evB D b)
def evH (D : Tab) : Hs → HdB
  | .nil => []
  | .cons x i b r => (x, i, evB D b) :: evH D r
end

/-! ### side conditions -/
def notComp : Expr → Bool
  | .ListComp .. => false
  | .SetComp .. => false
  | .DictComp .. => false
  | _ => true
theorem swNo {e : Expr} (h : notComp e = true) (t : Option Expr) (l : Nat) (env : Env) : swapsWith e t l env = pure false := by
  cases e <;> first
    | rfl
    | exact absurd (show false = true from h) Bool.false_ne_true
def swCond (sc : Scope) (t : Str) (p : Pos) (e : Expr) : Bool := match (match e with
    | .ListComp _ _ s _ | .SetComp _ _ s _ | .DictComp _ _ _ s _ => some s
    | _ => none) with
  | some s => sc.names.lookup t == some .local && p.line == e.pos.line && !(s.names.any fun (n, k) => n == t && (k == .local || k == .cell))
  | none => false
theorem swIs {sc : Scope} {env : Env} (h : env.scope = sc) (hk : sc.kind = .function) (e : Expr) (t : Str) (p : Pos) (l : Nat) : swapsWith e (some (.Name t p)) l env = pure (swCond sc t p e) := by
  have hb : (env.blockKind == ScopeKind.function) = true := by
    unfold Env.blockKind
    rw [h, hk]
    rfl
  have go : ∀ (s : Scope), (pure (env.blockKind == .function && env.kindOf t == some .local && p.line == e.pos.line && !(s.names.any fun (n, k) => n == t && (k == .local || k == .cell))) : Sem Bool) =
      pure (sc.names.lookup t == some .local && p.line == e.pos.line && !(s.names.any fun (n, k) => n == t && (k == .local || k == .cell))) := fun s => by
    rw [hb, Bool.true_and]
    unfold Env.kindOf
    rw [h]
  cases e <;> first
    | rfl
    | exact go _
theorem swTup {e : Expr} {ts : List Expr} {k : Nat} {p : Pos} (l : Nat) (env : Env) : swapsWithSole [.Tuple ts k p] e l env = pure false := by
  show swapsWith e (some (.Tuple ts k p)) l env = pure false
  cases e <;> rfl
theorem swSub {e a b : Expr} {p : Pos} (l : Nat) (env : Env) : swapsWithSole [.Subscript a b p] e l env = pure false := by
  show swapsWith e (some (.Subscript a b p)) l env = pure false
  cases e <;> rfl
def isStar : Expr → Bool
  | .Starred .. => true
  | _ => false
/-- what swappedStores tells of two displays -/
def swapT (ts vs : List Expr) (sc : Scope) : Option (Option (List Str)) :=
  if !(ts.length == 2 || ts.length == 3) || vs.length != ts.length then some none
  else if vs.any (fun | .Starred .. => true | _ => false) then some none
  else
    let line := (ts.head?.map (·.pos.line)).getD 0
    let names := ts.filterMap fun
      | .Name id pos => if sc.names.lookup id == some .local && pos.line == line then some id else none
      | _ => none
    if names.length != ts.length || names.eraseDups.length != names.length then some none
    else if vs.all (foldedForSure 8) then some none
    else if vs.all (constantsAlone 8) then none
    else some (some names)
theorem swapT_is {ts vs : List Expr} {sc : Scope} {r : Option (List Str)} {k k2 : Nat} {p p2 : Pos} {env : Env} (h : env.scope = sc) (hk : sc.kind = .function) (e : swapT ts vs sc = some r) : swappedStores [.Tuple ts k p] (.Tuple vs k2 p2) env = pure r := by
  have hb : (env.blockKind != ScopeKind.function) = false := by
    unfold Env.blockKind
    rw [h, hk]
    rfl
  have hkind : ∀ x, env.kindOf x = sc.names.lookup x := fun x => by unfold Env.kindOf; rw [h]
  unfold swapT at e
  unfold swappedStores
  simp only [hb, hkind, Bool.or_false]
  simp only at e
  split at e
  · rename_i h1
    cases e
    exact if_pos h1
  · rename_i h1
    refine (if_neg h1).trans ?_
    split at e
    · rename_i h2
      cases e
      exact if_pos h2
    · rename_i h2
      refine (if_neg h2).trans ?_
      split at e
      · rename_i h3
        cases e
        exact if_pos h3
      · rename_i h3
        refine (if_neg h3).trans ?_
        split at e
        · rename_i h4
          cases e
          exact if_pos h4
        · rename_i h4
          refine (if_neg h4).trans ?_
          split at e
          · cases e
          · rename_i h5
            cases e
            exact if_neg h5
def swapV (ts : List Expr) (e : Expr) (sc : Scope) : Bool := match e with
  | .Tuple vs _ _ => (match swapT ts vs sc with | some none => true | _ => false)
  | _ => true
theorem swapV_is {ts : List Expr} {e : Expr} {sc : Scope} {k : Nat} {p : Pos} {env : Env} (h : env.scope = sc) (hk : sc.kind = .function) (hv : swapV ts e sc = true) : swappedStores [.Tuple ts k p] e env = pure none := by
  cases e <;> first
    | rfl
    | (unfold swapV at hv
       simp only at hv
       split at hv
       · rename_i e
         exact swapT_is h hk e
       · cases hv)

/-! ### the check -/
def hotC (c : Cc) : Cc := { c with hot := true }
mutual
def chkS (bl ex : Str → Bool) (c : Cc) : S → Stmt → Bool
  | .pass, s => match s with
    | .Pass _ => true
    | _ => false
  | .brk, s => match s with
    | .Break _ => true
    | _ => false
  | .cont, s => match s with
    | .Continue _ => true
    | _ => false
  | .expr e, s => match s with
    | .Expr x _ => chkE bl c e x && notComp x
    | _ => false
  | .ret e, s => match s with
    | .Return (some x) _ => chkE bl c e x
    | _ => false
  | .retV i, s => match s with
    | .Return (some (.Name x _)) _ => slotB c i x && visB c.sc x
    | _ => false
  | .retN, s => match s with
    | .Return none _ => true
    | _ => false
  | .ife t a b, s => match s with
    | .If x y z _ => chkT bl c t x && chkB bl ex c a y && chkB bl ex c b z
    | _ => false
  | .set i e, s => match s with
    | .Assign [.Name x p] y _ => decide (c.N[i]? = some x) && locB c x && chkE bl c e y && !swCond c.sc x p y
    | _ => false
  | .setLc i it own tg cd elt, s => !c.hot && (match s with
    | .Assign [.Name y p] (.ListComp x [⟨t, it', ifs, 0⟩] scope q) _ => decide (c.N[i]? = some y) && decide (c.sc.names.lookup y = some .local) && swCond c.sc y p (.ListComp x [⟨t, it', ifs, 0⟩] scope q) &&
        chkI bl c it (isTup t) it' && notSet it' && blkC c.N c.sc scope own && ownIn own tg && chkG (inCc c scope) tg t && chkC bl (inCc c scope) cd ifs && chkE bl (inCc c scope) elt x
    | _ => false)
  | .asg tg e, s => !c.hot && (match s with
    | .Assign [.Tuple ts k p] y _ => chkG c tg (.Tuple ts k p) && chkE bl c e y && swapV ts y c.sc
    | _ => false)
  | .par i j as, s => !c.hot && (match s with
    | .Assign [.Tuple [.Name x px, .Name y py] _ _] (.Tuple [a, b] _ _) _ => decide (c.N[i]? = some x) && decide (c.N[j]? = some y) && decide (i ≠ j) && decide (c.sc.names.lookup x = some .local) && decide (c.sc.names.lookup y = some .local) && chkA bl c as [a, b] &&
        decide (swapT [.Name x px, .Name y py] [a, b] c.sc = some (some [x, y]))
    | _ => false)
  | .app i e, s => match s with
    | .Expr (.Call (.Attribute (.Name x _) m apos) [y] [] cpos) _ => decide (m = "append") && slotB c i x && visB c.sc x && chkE bl c e y && notStar y && (apos.endLine == cpos.line)
    | _ => false
  | .sub i k e, s => match s with
    | .Assign [.Subscript (.Name x _) ke _] y _ => slotB c i x && visB c.sc x && chkR bl c k ke && chkE bl c e y && notSlice ke
    | _ => false
  | .for_ it tg b, s => !c.hot && (match s with
    | .For t it' bs [] _ => chkI bl c it (isTup t) it' && notSet it' && chkG c tg t && chkB bl ex c b bs
    | _ => false)
  | .while_ _ t b, s => !c.hot && (match s with
    | .While x bs [] _ => chkT bl c t x && chkB bl ex c b bs
    | _ => false)
  | .raise x as, s => !c.hot && (match s with
    | .Raise (some (.Call (.Name y _) [a] [] _)) none _ => decide (x = y) && gloB c.sc y && ex y && notStar a && chkA bl c as [a]
    | _ => false)
  | .try_ b hs, s => !c.hot && (match s with
    | .Try bs (h :: hds) [] [] _ => chkB bl ex c b bs && chkH bl ex c hs (h :: hds)
    | _ => false)
  | .pre _ s', s => chkS bl ex c s' s
def chkB (bl ex : Str → Bool) (c : Cc) : B → List Stmt → Bool
  | .nil, ss => match ss with
    | [] => true
    | _ => false
  | .cons s b, ss => match ss with
    | x :: r => chkS bl ex c s x && chkB bl ex c b r
    | _ => false
def chkH (bl ex : Str → Bool) (c : Cc) : Hs → List ExceptHandler → Bool
  | .nil, hs => match hs with
    | [] => true
    | _ => false
  | .cons x none b r, hs => match hs with
    | .ExceptHandler (some (.Name y _)) none (s :: ss) _ :: hs => decide (x = y) && gloB c.sc y && chkB bl ex (hotC c) b (s :: ss) && chkH bl ex c r hs
    | _ => false
  | .cons x (some i) b r, hs => match hs with
    | .ExceptHandler (some (.Name y _)) (some n) (s :: ss) _ :: hs => decide (x = y) && gloB c.sc y && decide (c.N[i]? = some n) && decide (c.sc.names.lookup n = some .local) && chkB bl ex (hotC c) b (s :: ss) && chkH bl ex c r hs
    | _ => false
end
end FL
set_option Elab.async false
set_option linter.all false
set_option maxRecDepth 100000
set_option maxHeartbeats 2000000
/-! FL19: soundness of statements; the table of functions -/
namespace FL
open PySem PySem.Spec PyProof.Rows L2

structure GS (D : Tab) (k : Nat) (c : Cc) (X : Cx) (W : WX) : Prop extends GE D k c X W where
  kind : c.sc.kind = .function
  hp : c.hot = false → PassesOwn (model X.prog X.w) X.A X.env X.xe
  stk : X.stack = X.env :: X.outer
  fr : X.env.frame = some X.env.locals
  sub : SubOk X.prog X.K X.mg D.sub
theorem GS.tr {D : Tab} {k : Nat} {c : Cc} {X : Cx} {W W' : WX} (g : GS D k c X W) (pn : List (Addr × Obj)) (xe : Value → Shared → Prop) (t : Takes (X.tr pn xe) W') (p : PassesOwn (model X.prog X.w) X.A X.env xe) : GS D k c (X.tr pn xe) W' where
  N := g.N
  nd := g.nd
  sc := g.sc
  calm := g.calm
  room := g.room
  un := g.un
  tk := t
  fnv := g.fnv
  fns := g.fns
  gl := g.gl
  bl := g.bl
  kind := g.kind
  hp := fun _ => p
  stk := g.stk
  fr := g.fr
  sub := g.sub
  exs := g.exs
  sup := g.sup
  isi := g.isi
theorem GS.suite {D : Tab} {k : Nat} {c : Cc} {X : Cx} {W : WX} (g : GS D k c X W) (a : Addr) (pn : List (Addr × Obj)) : GS D k (hotC c) (X.suite a pn) W0 where
  N := g.N
  nd := g.nd
  sc := g.sc
  calm := fun z => by cases z
  room := fun z => by cases z
  un := g.un
  tk := takes0
  fnv := g.fnv
  fns := g.fns
  gl := g.gl
  bl := g.bl
  kind := g.kind
  hp := fun z => by cases z
  stk := g.stk
  fr := g.fr
  sub := g.sub
  exs := g.exs
  sup := g.sup
  isi := g.isi
section
variable {D : Tab} {k : Nat} {c : Cc} {X : Cx} {W : WX}
theorem GS.locB_ (g : GS D k c X W) {n : Str} (h : decide (c.sc.names.lookup n = some .local) = true) : X.env.scope.names.lookup n = some .local := by
  rw [g.sc]
  exact of_decide_eq_true h
end
mutual
theorem sndS (D : Tab) : ∀ (i : S) (s : Stmt) (k : Nat) (c : Cc) (X : Cx) (W : WX), GS D k c X W → chkS D.bl D.exs c i s = true → SOk X W s (evS D i)
  | .pass, s, k, c, X, W, g, h => by
    unfold chkS at h
    split at h
    · exact s_pass
    · cases h
  | .brk, s, k, c, X, W, g, h => by
    unfold chkS at h
    split at h
    · exact s_break
    · cases h
  | .cont, s, k, c, X, W, g, h => by
    unfold chkS at h
    split at h
    · exact s_cont
    · cases h
  | .expr e, s, k, c, X, W, g, h => by
    unfold chkS at h
    split at h
    · rw [Bool.and_eq_true] at h
      exact s_expr (sndE D e _ k c X W g.toGE h.1) (swNo h.2 _ _ _)
    · cases h
  | .ret e, s, k, c, X, W, g, h => by
    unfold chkS at h
    split at h
    · exact s_ret (sndE D e _ k c X W g.toGE h)
    · cases h
  | .retV i, s, k, c, X, W, g, h => by
    unfold chkS at h
    split at h
    · rw [Bool.and_eq_true] at h
      obtain ⟨h1, h2, h3⟩ := g.slot h.1
      exact s_retV h1 (g.vis h.2) h2 h3
    · cases h
  | .retN, s, k, c, X, W, g, h => by
    unfold chkS at h
    split at h
    · exact s_retN
    · cases h
  | .ife t a b, s, k, c, X, W, g, h => by
    unfold chkS at h
    split at h
    · simp only [Bool.and_eq_true] at h
      exact s_if (sndT D t _ k c X W g.toGE h.1.1) (sndB D a _ k c X W g h.1.2) (sndB D b _ k c X W g h.2)
    · cases h
  | .set i e, s, k, c, X, W, g, h => by
    unfold chkS at h
    split at h
    · simp only [Bool.and_eq_true, Bool.not_eq_true'] at h
      obtain ⟨⟨⟨h1, h2⟩, h3⟩, h4⟩ := h
      obtain ⟨l1, l2⟩ := g.loc h2
      refine s_set (by rw [g.N]; exact g.nd) (by rw [g.N]; exact of_decide_eq_true h1) l1 (sndE D e _ k c X W g.toGE h3) ?_ l2
      rw [swIs g.sc g.kind, h4]
    · cases h
  | .setLc i it own tg cd elt, s, k, c, X, W, g, h => by
    unfold chkS at h
    rw [Bool.and_eq_true, Bool.not_eq_true'] at h
    obtain ⟨hh, h⟩ := h
    split at h
    · simp only [Bool.and_eq_true] at h
      obtain ⟨⟨⟨⟨⟨⟨⟨⟨⟨ha, hb⟩, hc⟩, h1⟩, h2⟩, h3⟩, h4⟩, h5⟩, h6⟩, h7⟩ := h
      refine s_setLc (g.calm hh) (by rw [g.N]; exact g.nd) (by rw [g.N]; exact of_decide_eq_true ha) (g.locB_ hb) ?_ (sndI D it _ _ _ k c X W g.toGE (fun z => isTup_eq z) h1) (by rw [g.N, g.sc]; exact blkOk_by h3) (own_ix h4) (fun s H C cl fp => sndG (g.toGE.blk (own := own) s H cl C fp) hh tg _ h5)
        (fun s H C cl fp => sndC D cd _ k _ _ _ (g.toGE.blk (own := own) s H cl C fp) h6) (fun s H C cl fp => sndE D elt _ k _ _ _ (g.toGE.blk (own := own) s H cl C fp) h7) (fun x => foldedNo h2 X.env x)
      rw [swIs g.sc g.kind, hc]
    · cases h
  | .asg tg e, s, k, c, X, W, g, h => by
    unfold chkS at h
    rw [Bool.and_eq_true, Bool.not_eq_true'] at h
    obtain ⟨hh, h⟩ := h
    split at h
    · simp only [Bool.and_eq_true] at h
      exact s_asg (sndE D e _ k c X W g.toGE h.1.2) (sndG g.toGE hh tg _ h.1.1) (swTup _ _) (swapV_is g.sc g.kind h.2) (by rfl)
    · cases h
  | .par i j as, s, k, c, X, W, g, h => by
    unfold chkS at h
    rw [Bool.and_eq_true, Bool.not_eq_true'] at h
    obtain ⟨hh, h⟩ := h
    split at h
    · simp only [Bool.and_eq_true] at h
      obtain ⟨⟨⟨⟨⟨⟨h1, h2⟩, h3⟩, h4⟩, h5⟩, h6⟩, h7⟩ := h
      exact s_par (g.calm hh) (by rw [g.N]; exact g.nd) (by rw [g.N]; exact of_decide_eq_true h1) (by rw [g.N]; exact of_decide_eq_true h2) (of_decide_eq_true h3) (g.locB_ h4) (g.locB_ h5) (sndA D as _ k c X W g.toGE h6) (swapT_is g.sc g.kind (of_decide_eq_true h7)) (swTup _ _)
    · cases h
  | .app i e, s, k, c, X, W, g, h => by
    unfold chkS at h
    split at h
    · simp only [Bool.and_eq_true] at h
      obtain ⟨⟨⟨⟨⟨h1, h2⟩, h3⟩, h4⟩, h5⟩, h6⟩ := h
      obtain rfl := of_decide_eq_true h1
      obtain ⟨a1, a2, a3⟩ := g.slot h2
      exact s_app a1 (g.vis h3) a2 a3 (sndE D e _ k c X W g.toGE h4) (by rfl) (by rw [star_cons h5]; rfl) h6 h5 (by rfl)
    · cases h
  | .sub i kx e, s, k, c, X, W, g, h => by
    unfold chkS at h
    split at h
    · simp only [Bool.and_eq_true] at h
      obtain ⟨⟨⟨⟨h2, h3⟩, h4⟩, h5⟩, h6⟩ := h
      obtain ⟨a1, a2, a3⟩ := g.slot h2
      have hu := g.units
      refine s_sub (by omega) a1 (g.vis h3) a2 a3 (sndE D e _ k c X W g.toGE h5) (sndR D kx _ k c X W g.toGE h4) (fun v => ?_) (swSub _ _) (by rfl) (by rfl)
      rename_i ke _ _ _
      cases ke <;> first
        | rfl
        | exact absurd (show false = true from h6) Bool.false_ne_true
    · cases h
  | .for_ it tg b, s, k, c, X, W, g, h => by
    unfold chkS at h
    rw [Bool.and_eq_true, Bool.not_eq_true'] at h
    obtain ⟨hh, h⟩ := h
    split at h
    · simp only [Bool.and_eq_true] at h
      obtain ⟨⟨⟨h1, h2⟩, h3⟩, h4⟩ := h
      exact s_for (g.hp hh) (g.calm hh) (sndI D it _ _ _ k c X W g.toGE (fun z => isTup_eq z) h1) (sndG g.toGE hh tg _ h3) (sndB D b _ k c X W g h4) (fun x => foldedNo h2 X.env x)
    · cases h
  | .while_ n t b, s, k, c, X, W, g, h => by
    unfold chkS at h
    rw [Bool.and_eq_true, Bool.not_eq_true'] at h
    obtain ⟨hh, h⟩ := h
    split at h
    · simp only [Bool.and_eq_true] at h
      exact s_while n (g.hp hh) (sndT D t _ k c X W g.toGE h.1) (sndB D b _ k c X W g h.2)
    · cases h
  | .raise x as, s, k, c, X, W, g, h => by
    unfold chkS at h
    rw [Bool.and_eq_true, Bool.not_eq_true'] at h
    obtain ⟨hh, h⟩ := h
    split at h
    · simp only [Bool.and_eq_true] at h
      obtain ⟨⟨⟨⟨h1, h2⟩, h3⟩, h4⟩, h5⟩ := h
      obtain rfl := of_decide_eq_true h1
      obtain ⟨b1, b2⟩ := g.glob h2
      obtain ⟨C, D', fI, T⟩ := g.exs _ h3
      exact s_raise (g.calm hh) g.tk T (g.room hh) (sndA D as _ k c X W g.toGE h5) b1 g.sup b2 h4
    · cases h
  | .try_ b hs, s, k, c, X, W, g, h => by
    unfold chkS at h
    rw [Bool.and_eq_true, Bool.not_eq_true'] at h
    obtain ⟨hh, h⟩ := h
    split at h
    · simp only [Bool.and_eq_true] at h
      exact s_try g.stk g.fr (by rw [g.N]; exact g.nd) g.tk g.sub (fun W' pn xe t p => sndB D b _ k c _ W' (g.tr pn xe t p) h.1) (sndH D hs _ k c X W g hh h.2)
    · cases h
  | .pre i s', s, k, c, X, W, g, h => by
    unfold chkS at h
    exact s_pre (sndS D s' s k c X W g h)
theorem sndB (D : Tab) : ∀ (i : B) (ss : List Stmt) (k : Nat) (c : Cc) (X : Cx) (W : WX), GS D k c X W → chkB D.bl D.exs c i ss = true → BOk X W ss (evB D i)
  | .nil, ss, k, c, X, W, g, h => by
    unfold chkB at h
    split at h
    · exact b_nil
    · cases h
  | .cons s b, ss, k, c, X, W, g, h => by
    unfold chkB at h
    split at h
    · rw [Bool.and_eq_true] at h
      exact b_cons (sndS D s _ k c X W g h.1) (sndB D b _ k c X W g h.2)
    · cases h
theorem sndH (D : Tab) : ∀ (l : Hs) (hs : List ExceptHandler) (k : Nat) (c : Cc) (X : Cx) (W : WX), GS D k c X W → c.hot = false → chkH D.bl D.exs c l hs = true → HdsB X hs (evH D l)
  | .nil, hs, k, c, X, W, g, hh, h => by
    unfold chkH at h
    split at h
    · exact .nil
    · cases h
  | .cons x none b r, hs, k, c, X, W, g, hh, h => by
    unfold chkH at h
    split at h
    · simp only [Bool.and_eq_true] at h
      obtain ⟨⟨⟨h1, h2⟩, h3⟩, h4⟩ := h
      obtain rfl := of_decide_eq_true h1
      obtain ⟨b1, b2⟩ := g.glob h2
      exact .cons b1 b2 (fun a pn => sndB D b _ k (hotC c) _ _ (g.suite a pn) h3) (sndH D r _ k c X W g hh h4)
    · cases h
  | .cons x (some i) b r, hs, k, c, X, W, g, hh, h => by
    unfold chkH at h
    split at h
    · simp only [Bool.and_eq_true] at h
      obtain ⟨⟨⟨⟨⟨h1, h2⟩, h5⟩, h6⟩, h3⟩, h4⟩ := h
      obtain rfl := of_decide_eq_true h1
      obtain ⟨b1, b2⟩ := g.glob h2
      exact .consAs b1 b2 (by rw [g.N]; exact of_decide_eq_true h5) (g.locB_ h6) (fun a pn => sndB D b _ k (hotC c) _ _ (g.suite a pn) h3) (sndH D r _ k c X W g hh h4)
    · cases h
end

/-! ### the table -/
/-- a function of the text -/
structure Fd where
  ps : List Str
  N : List Str
  st : Stmt
  b : B
structure Prg where
  fs : Str → Option Fd
  gl : Str → Option PD
  bl : Str → Bool
  sub : Str → Str → Option Bool
  exs : Str → Bool
  isi : Isi
def tabF (P : Prg) (cf : Str → Fn) : Tab := ⟨fun y => (P.fs y).map fun f => (f.ps.length, cf y), P.gl, P.bl, P.sub, P.exs, P.isi⟩
def callF (P : Prg) : Nat → Str → Fn
  | 0 => fun _ _ => .stuck
  | k + 1 => fun x qs => match P.fs x with
    | some f => endR (evB (tabF P (callF P k)) f.b (startE f.N.length qs))
    | none => .stuck
/-- what is checked of a def -/
def scopeOk (N ps : List Str) (sc : Scope) : Bool :=
  decide (sc.kind = .function) && !sc.isCoroutine && !sc.isGenerator && decide N.Nodup && decide (N.take ps.length = ps) && (ps.all fun x => match sc.names.lookup x with
    | some .local => true
    | some .cell => true
    | _ => false) && sc.names.all fun y => decide (y.2 ≠ .free)
theorem scopeOk_is {N ps : List Str} {sc : Scope} (h : scopeOk N ps sc = true) : FnScope N ps sc := by
  unfold scopeOk at h
  simp only [Bool.and_eq_true, Bool.not_eq_true'] at h
  obtain ⟨⟨⟨⟨⟨⟨h1, h2⟩, h3⟩, h4⟩, h5⟩, h6⟩, h7⟩ := h
  refine ⟨of_decide_eq_true h1, h2, h3, of_decide_eq_true h4, of_decide_eq_true h5, fun x hx => ?_, fun y hy => ?_⟩
  · have := List.all_eq_true.mp h6 x hx
    split at this
    · exact .inl (by assumption)
    · exact .inr (by assumption)
    · cases this
  · exact of_decide_eq_true (List.all_eq_true.mp h7 y hy)
def chkFd (P : Prg) (f : Fd) : Bool := scopeOk f.N f.ps (defScope f.st) && chkB P.bl P.exs ⟨f.N, defScope f.st, fun _ => true, false⟩ f.b (defBody f.st)
/-- the table's facts that the text's end gives -/
structure Know (G : Prg) (P : Program) (K : Fg) (mg : Mg) : Prop where
  fns : ∀ x f, G.fs x = some f → ∃ a fd, mg x = some (.ref a) ∧ Fun K x x f.st a fd ∧ Binds K fd f.ps []
  chk : ∀ x f, G.fs x = some f → chkFd G f = true
  gl : ∀ x p, G.gl x = some p → GKnown K mg x p
  bl : ∀ x, G.bl x = true → mg x = none
  sub : SubOk P K mg G.sub
  exs : ∀ x, G.exs x = true → ∃ C D' fI, PySem.AtX.AtTxt P K mg x C D' fI
  sup : mg "super" = none
  isi : IsiOk K mg G.isi
theorem all_fns {G : Prg} {P : Program} {w : World} {K : Fg} {mg : Mg} {base : Heap} (Y : Know G P K mg) : ∀ (k : Nat) (x : Str) (f : Fd), G.fs x = some f → FnKnown P w K mg base k x f.ps.length (callF G k x)
  | 0, x, f, e => by
    obtain ⟨a, fd, h1, h2, h3⟩ := Y.fns x f e
    refine ⟨a, fd, f.ps, h1, rfl, ⟨fun vs H Q E h => h.1, fun A outer s H args us vs Q E _ _ _ _ h => ?_⟩, h2.kp, h3⟩
    obtain ⟨_, F, ps, _, _, h⟩ := h
    exact h.elim
  | k + 1, x, f, e => by
    obtain ⟨a, fd, h1, h2, h3⟩ := Y.fns x f e
    have hc := Y.chk x f e
    unfold chkFd at hc
    rw [Bool.and_eq_true] at hc
    have S := scopeOk_is hc.1
    have hN : f.ps.length ≤ f.N.length := by
      have := congrArg List.length S.pre
      rw [List.length_take] at this
      omega
    refine ⟨a, fd, f.ps, h1, rfl, fn_pure (g := evB (tabF G (callF G k)) f.b) h2 S (fun qs _ => ?_) hN (fun cdv A outer s H E hr => ?_), h2.kp, h3⟩
    · show (match G.fs x with
        | some f => endR (evB (tabF G (callF G k)) f.b (startE f.N.length qs))
        | none => .stuck) = _
      rw [e]
    · refine sndB (tabF G (callF G k)) f.b (defBody f.st) k ⟨f.N, defScope f.st, fun _ => true, false⟩ _ _ ?_ hc.2
      exact {
        N := rfl
        nd := S.nd
        sc := rfl
        calm := fun _ => rfl
        room := fun _ => hr
        un := Nat.lt_of_le_of_lt (Nat.add_le_add_left (by omega : 65 ≤ 16 * k + 200) _) (by have := hr.un; rw [Nat.add_assoc] at this; exact this)
        tk := takes_of rfl rfl rfl rfl
        fnv := fun _ _ => rfl
        fns := fun y n m ey => by
          have ey : (G.fs y).map (fun f => (f.ps.length, callF G k y)) = some (n, m) := ey
          cases e2 : G.fs y with
          | none =>
            rw [e2] at ey
            cases ey
          | some f2 =>
            rw [e2] at ey
            cases ey
            exact all_fns Y k y f2 e2
        gl := Y.gl
        bl := Y.bl
        kind := S.kind
        hp := fun _ => passes_of rfl
        stk := rfl
        fr := rfl
        sub := Y.sub
        exs := Y.exs
        sup := Y.sup
        isi := Y.isi }
end FL
set_option Elab.async false
set_option linter.all false
set_option maxRecDepth 100000
set_option maxHeartbeats 2000000
/-! FL20: from the end of the text to the law -/
namespace FL
open PySem PySem.Spec PyProof.Rows L2

/-- a def of the text as it stands behind the top, by its name -/
def FunIn (K : Fg) (x : Str) (st : Stmt) : Prop := ∃ (f : Addr) (oc : Value) (od : Option Addr) (kV doc pm : Value) (an : Option Addr) (cdv ct : Value) (osl : Array (Option Value)),
  PySem.W.nsIn K mainGlobals x = some (some (.ref f)) ∧ K.lookup f = some ⟨oc, od, .func (PySem.W.fnOf x x (defArgs st) (defBody st) (defScope st) .none kV doc pm an cdv ct), osl⟩ ∧ PySem.W.codeIn K cdv x = true ∧ PySem.W.keepIn K (.ref f) = true
theorem FunIn.mk {K : Fg} {x : Str} {st : Stmt} {f : Addr} {oc : Value} {od : Option Addr} {kV doc pm : Value} {an : Option Addr} {cdv ct : Value} {osl : Array (Option Value)}
    (h1 : PySem.W.nsIn K mainGlobals x = some (some (.ref f))) (h2 : K.lookup f = some ⟨oc, od, .func (PySem.W.fnOf x x (defArgs st) (defBody st) (defScope st) .none kV doc pm an cdv ct), osl⟩) (h3 : PySem.W.codeIn K cdv x = true) (h4 : PySem.W.keepIn K (.ref f) = true) : FunIn K x st :=
  ⟨f, oc, od, kV, doc, pm, an, cdv, ct, osl, h1, h2, h3, h4⟩
/-- how its arguments bind -/
def BindIn (x : Str) (st : Stmt) (ps : List Str) : Prop := ∀ (kV doc pm : Value) (an : Option Addr) (cdv ct : Value) (us : List Value), us.length = ps.length → bindArgs (PySem.W.fnOf x x (defArgs st) (defBody st) (defScope st) .none kV doc pm an cdv ct) ⟨us, []⟩ = pure (ps.zip us)
theorem FunIn.fn {K : Fg} {x : Str} {st : Stmt} {ps : List Str} {h : Heap} {mg : Mg} (X : K.In h) (G : h.Ns mainGlobals mg) (F : FunIn K x st) (b : BindIn x st ps) :
    ∃ a fd, mg x = some (.ref a) ∧ Fun K x x st a fd ∧ Binds K fd ps [] := by
  obtain ⟨f, oc, od, kV, doc, pm, an, cdv, ct, osl, h1, h2, h3, h4⟩ := F
  have FF := fun_mk (st := st) h2 h3 h4
  exact ⟨f, _, PySem.W.mg_of X G h1, FF, FF.binds fun kV doc pm an cdv ct us hl => b kV doc pm an cdv ct us hl⟩
/-- one function at a level, whatever stands for it -/
theorem fn_lvl {G : Prg} {P : Program} {w : World} {K : Fg} {mg : Mg} {base : Heap} (Y : Know G P K mg) (k : Nat) {x : Str} {f : Fd} (e : G.fs x = some f) {a : Addr} {fd : FuncData} (h2 : Fun K x x f.st a fd) : FnOk P w K mg base (L2.CX P w) (k + 1) a fd f.ps (spOf K mg f.ps.length (callF G (k + 1) x)) := by
  have hc := Y.chk x f e
  unfold chkFd at hc
  rw [Bool.and_eq_true] at hc
  have S := scopeOk_is hc.1
  have hN : f.ps.length ≤ f.N.length := by
    have := congrArg List.length S.pre
    rw [List.length_take] at this
    omega
  refine fn_pure (g := evB (tabF G (callF G k)) f.b) h2 S (fun qs _ => ?_) hN (fun cdv A outer s H E hr => ?_)
  · show (match G.fs x with
      | some f => endR (evB (tabF G (callF G k)) f.b (startE f.N.length qs))
      | none => .stuck) = _
    rw [e]
  · refine sndB (tabF G (callF G k)) f.b (defBody f.st) k ⟨f.N, defScope f.st, fun _ => true, false⟩ _ _ ?_ hc.2
    exact {
      N := rfl
      nd := S.nd
      sc := rfl
      calm := fun _ => rfl
      room := fun _ => hr
      un := Nat.lt_of_le_of_lt (Nat.add_le_add_left (by omega : 65 ≤ 16 * k + 200) _) (by have := hr.un; rw [Nat.add_assoc] at this; exact this)
      tk := takes_of rfl rfl rfl rfl
      fnv := fun _ _ => rfl
      fns := fun y n m ey => by
        have ey : (G.fs y).map (fun f => (f.ps.length, callF G k y)) = some (n, m) := ey
        cases e2 : G.fs y with
        | none =>
          rw [e2] at ey
          cases ey
        | some f2 =>
          rw [e2] at ey
          cases ey
          exact all_fns Y k y f2 e2
      gl := Y.gl
      bl := Y.bl
      kind := S.kind
      hp := fun _ => passes_of rfl
      stk := rfl
      fr := rfl
      sub := Y.sub
      exs := Y.exs
      sup := Y.sup
      isi := Y.isi }
/-- what the law's def promises -/
def spLaw (K : Fg) : Sp := fun vs H Q _ => ∃ (a : Addr) (ns : List Int), vs = [.ref a] ∧ ns.length ≤ 63 ∧ SqL K H a (ns.map V.int) ∧ ∀ H', Q (.bl true) H'
theorem law_promise {G : Prg} {P : Program} {w : World} {K : Fg} {mg : Mg} {base : Heap} (Y : Know G P K mg) (k : Nat) {f : Fd} (e : G.fs "law" = some f) (hps : f.ps = [("script" : Str)]) {a : Addr} {fd : FuncData} (h2 : Fun K "law" "law" f.st a fd)
    (hlaw : ∀ ns : List Int, ns.length ≤ 63 → callF G (k + 1) "law" [scrD ns] = .ok (.sh (.bool true))) : FnOk P w K mg base (L2.CX P w) (k + 1) a fd [("script" : Str)] (spLaw K) := by
  have F := fn_lvl (w := w) (base := base) Y k e h2
  rw [hps] at F
  refine F.imp fun vs H Q E h => ?_
  obtain ⟨a, ns, rfl, hl, hS, hQ⟩ := h
  refine ⟨rfl, H, [scrD ns], Sub.refl H, .cons (.scr hS) .nil, ?_⟩
  rw [hlaw ns hl]
  intro F' H' v s u kp r
  obtain rfl := Rep.bl_inv r
  exact hQ H'

/-! ### facts of the text's end: constants -/
def GV (K : Fg) (mg : Mg) (u : Value) (p : PD) : Prop := ∃ v, RelV v u ∧ ∀ F, Rep K mg F v p
def GVs (K : Fg) (mg : Mg) (us : List Value) (ps : List PD) : Prop := ∃ vs, Vals vs us ∧ ∀ F, Reps K mg F vs ps
section
variable {K : Fg} {mg : Mg}
theorem gv_int {i : Int} {t : Tok} : GV K mg (.int i t) (.int i) := ⟨.int i, ⟨t, rfl⟩, fun F => .int i⟩
theorem gv_str {x : Str} {t : Tok} : GV K mg (.str x t) (.str x) := ⟨.str x, ⟨t, rfl⟩, fun F => .str x⟩
theorem gv_bl {b : Bool} : GV K mg (.bool b) (.bool b) := ⟨.bl b, rfl, fun F => .bl b⟩
theorem gv_non : GV K mg .none .none := ⟨.non, rfl, fun F => .non⟩
theorem gvs_nil : GVs K mg [] [] := ⟨[], .nil, fun F => .nil⟩
theorem gvs_cons {u : Value} {us : List Value} {p : PD} {ps : List PD} (h : GV K mg u p) (r : GVs K mg us ps) : GVs K mg (u :: us) (p :: ps) := by
  obtain ⟨v, h1, h2⟩ := h
  obtain ⟨vs, r1, r2⟩ := r
  exact ⟨v :: vs, .cons h1 r1, fun F => .cons (h2 F) (r2 F)⟩
theorem gv_tup {a : Addr} {od : Option Addr} {its : Array Value} {n : Nat} {sl : Array (Option Value)} {ps : List PD} (l : K.lookup a = some ⟨.type "tuple", od, .seq its n, sl⟩) (hz : its.size ≤ 16777216) (r : GVs K mg its.toList ps) : GV K mg (.ref a) (.tuple ps) := by
  obtain ⟨vs, r1, r2⟩ := r
  exact ⟨.ref a, rfl, fun F => .tup (.inr ⟨_, its, n, l, rfl, rfl, szl hz, r1⟩) (r2 F)⟩
theorem gk_mk {x : Str} {u : Value} {p : PD} {h : Heap} (X : K.In h) (G : h.Ns mainGlobals mg) (e : PySem.W.nsIn K mainGlobals x = some (some u)) (g : GV K mg u p) : GKnown K mg x p := by
  obtain ⟨v, h1, h2⟩ := g
  exact ⟨v, u, PySem.W.mg_of X G e, h1, h2⟩
end
/-! ### .. exceptions -/
theorem exm_pair {K : PySem.W.Frag} {C S : Addr} {b : Bool} (h1 : PySem.W.subIn K (.ref S) (.type "BaseException") = some true) (h2 : PySem.W.isClsIn K S = true) (h3 : PySem.W.typeIn K (.ref S) = some (.type "type")) (h4 : PySem.W.subIn K (.ref C) (.ref S) = some b) :
    PySem.W.exmOne K (.ref C) (.ref S) = some b := by
  have e1 : (PySem.W.subIn K (.ref S) (.type "BaseException") == some true) = true := by rw [h1] <;> rfl
  have e2 : ((PySem.W.clsIn K S).isSome && PySem.W.typeIn K (.ref S) == some (.type "type")) = true := by
    have h2' : (PySem.W.clsIn K S).isSome = true := h2
    rw [h2', h3] <;> rfl
  show (if (PySem.W.subIn K (.ref S) (.type "BaseException") == some true) = true then (if ((PySem.W.clsIn K S).isSome && PySem.W.typeIn K (.ref S) == some (.type "type")) = true then PySem.W.subIn K (.ref C) (.ref S) else none) else none) = some b
  rw [if_pos e1, if_pos e2]
  exact h4
end FL
namespace PySem
namespace AtX
open PySem.W PySem.Calls PyProof.Rows PySem.HandSPX
abbrev veT : List Value := [.type "ValueError", .type "Exception", .type "BaseException", .type "object"]
/-- what is common: __init__ -/
def InitTxt (P : Program) (K : Frag) (D fI : Addr) : Prop := ∃ (oc : Value) (od : Option Addr) (doc pm : Value) (an : Option Addr) (cda cc : Addr) (ct : Value) (osl : Array (Option Value)) (p1 p2 q1 q2 q3 q4 q5 q6 q7 q8 q9 q10 : Pos) (ccl : Value) (cdd : Option Addr) (vs : Array Value) (ccs : Array (Option Value)) (file : Str) (tf : Tok) (cl : Value) (cld : Option Addr) (csl : Array (Option Value)),
    K.lookup fI = some ⟨oc, od, .func (ksFn "__init__" "DrawError.__init__" (aA p1 p2) (aB q1 q2 q3 q4 q5 q6 q7 q8 q9 q10) aS .none .none doc pm an (.ref cda) ct cc), osl⟩ ∧ codeIn K (.ref cda) "DrawError.__init__" = true ∧
    K.lookup cda = some ⟨ccl, cdd, .fields vs, ccs⟩ ∧ vs[2]? = some (.str file tf) ∧ ((P.main.file : Str) == file) = true ∧ K.lookup cc = some ⟨cl, cld, .cell (some (.ref D)), csl⟩ ∧ MethForm q1 q2 q3 q4 q5
theorem init_mk {P : Program} {K : Frag} {D fI : Addr} {oc : Value} {od : Option Addr} {doc pm : Value} {an : Option Addr} {cda cc : Addr} {ct : Value} {osl : Array (Option Value)} {p1 p2 q1 q2 q3 q4 q5 q6 q7 q8 q9 q10 : Pos} {ccl : Value} {cdd : Option Addr} {vs : Array Value} {ccs : Array (Option Value)} {file : Str} {tf : Tok} {cl : Value} {cld : Option Addr} {csl : Array (Option Value)}
    (h1 : K.lookup fI = some ⟨oc, od, .func (ksFn "__init__" "DrawError.__init__" (aA p1 p2) (aB q1 q2 q3 q4 q5 q6 q7 q8 q9 q10) aS .none .none doc pm an (.ref cda) ct cc), osl⟩) (h2 : codeIn K (.ref cda) "DrawError.__init__" = true)
    (h3 : K.lookup cda = some ⟨ccl, cdd, .fields vs, ccs⟩) (h4 : vs[2]? = some (.str file tf)) (h5 : ((P.main.file : Str) == file) = true) (h6 : K.lookup cc = some ⟨cl, cld, .cell (some (.ref D)), csl⟩) (h7 : MethForm q1 q2 q3 q4 q5) : InitTxt P K D fI :=
  ⟨oc, od, doc, pm, an, cda, cc, ct, osl, p1, p2, q1, q2, q3, q4, q5, q6, q7, q8, q9, q10, ccl, cdd, vs, ccs, file, tf, cl, cld, csl, h1, h2, h3, h4, h5, h6, h7⟩
theorem sup_base {K : Frag} {D : Addr} {nm q : Str} {N : Addr} {bs : List Value} {sn : List Str} {sub : List Value} {ab : Bool} {col : Option Bool} {dd : Option Addr} {k0 k1 k2 k3 k5 : Option Value}
    (l : K.lookup D = some (excClassObj nm q D N bs veT true sn sub ab col dd k0 k1 k2 k3 k5 "ValueError.__new__")) : ks_superIn K D D "__init__" = some (some (.builtin "ValueError.__init__")) := by
  have hcl : clsIn K D = some { name := nm, bases := bs, mro := .ref D :: veT, ns := N, qualname := q, hasDict := true, slotNames := sn, subclasses := sub, abstract := ab, collection := col, hasDel := false } := by unfold clsIn; rw [l] <;> rfl
  unfold ks_superIn
  rw [hcl]
  show alongIn K "__init__" ((List.dropWhile (· != .ref D) (.ref D :: veT)).drop 1) = _
  rw [List.dropWhile_cons]
  simp only [bne_self_eq_false, Bool.false_eq_true, if_false, List.drop_succ_cons, List.drop_zero]
  exact along_init K
theorem sup_sub {K : Frag} {C D : Addr} {nm q : Str} {N : Addr} {bs : List Value} {sn : List Str} {sub : List Value} {ab : Bool} {col : Option Bool} {dd : Option Addr} {k0 k1 k2 k3 k5 : Option Value} (hne : (Value.ref C != Value.ref D) = true)
    (l : K.lookup C = some (excClassObj nm q C N bs (.ref D :: veT) true sn sub ab col dd k0 k1 k2 k3 k5 "ValueError.__new__")) : ks_superIn K C D "__init__" = some (some (.builtin "ValueError.__init__")) := by
  have hcl : clsIn K C = some { name := nm, bases := bs, mro := .ref C :: .ref D :: veT, ns := N, qualname := q, hasDict := true, slotNames := sn, subclasses := sub, abstract := ab, collection := col, hasDel := false } := by unfold clsIn; rw [l] <;> rfl
  unfold ks_superIn
  rw [hcl]
  show alongIn K "__init__" ((List.dropWhile (· != .ref D) (.ref C :: .ref D :: veT)).drop 1) = _
  rw [List.dropWhile_cons, hne]
  simp only [if_true]
  rw [List.dropWhile_cons]
  simp only [bne_self_eq_false, Bool.false_eq_true, if_false, List.drop_succ_cons, List.drop_zero]
  exact along_init K
theorem at_mk {P : Program} {K : Frag} {mg : Str → Option Value} {cn : Str} {C D fI : Addr} {h : Heap} (X : K.In h) (G : h.Ns mainGlobals mg)
    (aC : nsIn K mainGlobals cn = some (some (.ref C)))
    (cls : ∃ nm q N bs bm sn sub ab col dd k0 k1 k2 k3 k5, K.lookup C = some (excClassObj nm q C N bs bm true sn sub ab col dd k0 k1 k2 k3 k5 "ValueError.__new__") ∧ refsVE bm = true)
    (sD : ks_superIn K C D "__init__" = some (some (.builtin "ValueError.__init__")))
    (sa : findIn K (.ref C) "__setattr__" = some (some (.builtin "object.__setattr__")))
    (ga : findIn K (.ref C) "__getattribute__" = some (some (.builtin "BaseException.__getattribute__")))
    (gg : findIn K (.ref C) "__getattr__" = some none) (noN : findIn K (.ref C) "at" = some none)
    (iC : findIn K (.ref C) "__init__" = some (some (.ref fI))) (tC : typeIn K (.ref fI) = some (.type "function")) (kC : keepIn K (.ref C) = true)
    (exC : subIn K (.ref C) (.type "BaseException") = some true) (veC : subIn K (.ref C) (.type "ValueError") = some true) (tyC : typeIn K (.ref C) = some (.type "type")) (hdC : hasDictIn K C = true)
    (mD : mroIn K C (.ref D) = some true) (cD : isClsIn K D = true) (st : nsIn K cStatics "thirdparty.any" = some none) (sup : nsIn K mainGlobals "super" = some none) (top : (P.main.scope.names.lookup ("super" : Str)).isSome = false)
    (I : InitTxt P K D fI) : AtTxt P K mg cn C D fI :=
  ⟨PySem.W.mg_of X G aC, cls, sa, ga, gg, noN, iC, tC, kC, exC, veC, tyC, hdC, mD, cD, sD, st, sup, top, I⟩
theorem ex_sub {P : Program} {K : Frag} {mg : Str → Option Value} {cn : Str} {C D fI : Addr} {h : Heap} {nm q : Str} {N : Addr} {bs : List Value} {sn : List Str} {sub : List Value} {ab : Bool} {col : Option Bool} {dd : Option Addr} {k0 k1 k2 k3 k5 : Option Value} (X : K.In h) (G : h.Ns mainGlobals mg)
    (aC : nsIn K mainGlobals cn = some (some (.ref C)))
    (l : K.lookup C = some (excClassObj nm q C N bs (.ref D :: veT) true sn sub ab col dd k0 k1 k2 k3 k5 "ValueError.__new__")) (hne : (Value.ref C != Value.ref D) = true)
    (sa : findIn K (.ref C) "__setattr__" = some (some (.builtin "object.__setattr__")))
    (ga : findIn K (.ref C) "__getattribute__" = some (some (.builtin "BaseException.__getattribute__")))
    (gg : findIn K (.ref C) "__getattr__" = some none) (noN : findIn K (.ref C) "at" = some none)
    (iC : findIn K (.ref C) "__init__" = some (some (.ref fI))) (tC : typeIn K (.ref fI) = some (.type "function")) (kC : keepIn K (.ref C) = true)
    (exC : subIn K (.ref C) (.type "BaseException") = some true) (veC : subIn K (.ref C) (.type "ValueError") = some true) (tyC : typeIn K (.ref C) = some (.type "type")) (hdC : hasDictIn K C = true)
    (mD : mroIn K C (.ref D) = some true) (cD : isClsIn K D = true) (st : nsIn K cStatics "thirdparty.any" = some none) (sup : nsIn K mainGlobals "super" = some none) (top : (P.main.scope.names.lookup ("super" : Str)).isSome = false)
    (I : InitTxt P K D fI) : ∃ C D fI, AtTxt P K mg cn C D fI :=
  ⟨C, D, fI, at_mk X G aC ⟨_, _, _, _, _, _, _, _, _, _, _, _, _, _, _, l, rfl⟩ (sup_sub hne l) sa ga gg noN iC tC kC exC veC tyC hdC mD cD st sup top I⟩
theorem ex_base {P : Program} {K : Frag} {mg : Str → Option Value} {cn : Str} {C fI : Addr} {h : Heap} {nm q : Str} {N : Addr} {bs : List Value} {sn : List Str} {sub : List Value} {ab : Bool} {col : Option Bool} {dd : Option Addr} {k0 k1 k2 k3 k5 : Option Value} (X : K.In h) (G : h.Ns mainGlobals mg)
    (aC : nsIn K mainGlobals cn = some (some (.ref C)))
    (l : K.lookup C = some (excClassObj nm q C N bs veT true sn sub ab col dd k0 k1 k2 k3 k5 "ValueError.__new__"))
    (sa : findIn K (.ref C) "__setattr__" = some (some (.builtin "object.__setattr__")))
    (ga : findIn K (.ref C) "__getattribute__" = some (some (.builtin "BaseException.__getattribute__")))
    (gg : findIn K (.ref C) "__getattr__" = some none) (noN : findIn K (.ref C) "at" = some none)
    (iC : findIn K (.ref C) "__init__" = some (some (.ref fI))) (tC : typeIn K (.ref fI) = some (.type "function")) (kC : keepIn K (.ref C) = true)
    (exC : subIn K (.ref C) (.type "BaseException") = some true) (veC : subIn K (.ref C) (.type "ValueError") = some true) (tyC : typeIn K (.ref C) = some (.type "type")) (hdC : hasDictIn K C = true)
    (mD : mroIn K C (.ref C) = some true) (cD : isClsIn K C = true) (st : nsIn K cStatics "thirdparty.any" = some none) (sup : nsIn K mainGlobals "super" = some none) (top : (P.main.scope.names.lookup ("super" : Str)).isSome = false)
    (I : InitTxt P K C fI) : ∃ C D fI, AtTxt P K mg cn C D fI :=
  ⟨C, C, fI, at_mk X G aC ⟨_, _, _, _, _, _, _, _, _, _, _, _, _, _, _, l, rfl⟩ (sup_base l) sa ga gg noN iC tC kC exC veC tyC hdC mD cD st sup top I⟩
end AtX
end PySem
namespace FL
open PySem PySem.Spec PyProof.Rows L2
/-- a text's table, written out -/
structure Tx where
  fs : List (Str × Fd)
  gl : List (Str × PD)
  bl : List Str
  ex : List Str
  pr : List ((Str × Str) × Bool)
  xi : Bool := false
  xb : Str := "DrawError"
  xn : List Str := []
  ii : List (Str × Bool) := []
  ib : List (Str × Bool) := []
/-- isinstance of an own exception of the class c, by names: the classes below the base, the base, ValueError -/
def isiX (xi : Bool) (xb : Str) (xn : List Str) (c x : Str) : Option Bool :=
  if xi && (c == xb || xn.contains c) then (if c == x || x == xb then some true else if xn.contains x then some false else if x == "ValueError" then some true else none) else none
def pairGet (l : List ((Str × Str) × Bool)) (c x : Str) : Option Bool := l.lookup (c, x)
def Tx.prg (t : Tx) : Prg := ⟨fun x => t.fs.lookup x, fun x => t.gl.lookup x, fun x => t.bl.contains x, pairGet t.pr, fun x => t.ex.contains x, ⟨isiX t.xi t.xb t.xn, fun x => t.ii.lookup x, fun x => t.ib.lookup x⟩⟩
def AllFs (K : Fg) : List (Str × Fd) → Prop
  | [] => True
  | p :: r => FunIn K p.1 p.2.st ∧ AllFs K r
def AllBd : List (Str × Fd) → Prop
  | [] => True
  | p :: r => BindIn p.1 p.2.st p.2.ps ∧ AllBd r
def AllGl (K : Fg) (mg : Mg) : List (Str × PD) → Prop
  | [] => True
  | p :: r => GKnown K mg p.1 p.2 ∧ AllGl K mg r
def AllBl (K : Fg) : List Str → Prop
  | [] => True
  | x :: r => PySem.W.nsIn K mainGlobals x = some none ∧ AllBl K r
def AllEx (P : Program) (K : Fg) (mg : Mg) : List Str → Prop
  | [] => True
  | x :: r => (∃ C D fI, PySem.AtX.AtTxt P K mg x C D fI) ∧ AllEx P K mg r
def PairIn (K : Fg) (c x : Str) (b : Bool) : Prop := ∃ C S : Addr, PySem.W.nsIn K mainGlobals c = some (some (.ref C)) ∧ PySem.W.nsIn K mainGlobals x = some (some (.ref S)) ∧
  PySem.W.subIn K (.ref S) (.type "BaseException") = some true ∧ PySem.W.isClsIn K S = true ∧ PySem.W.typeIn K (.ref S) = some (.type "type") ∧ PySem.W.subIn K (.ref C) (.ref S) = some b
theorem PairIn.mk {K : Fg} {c x : Str} {b : Bool} {C S : Addr} (h1 : PySem.W.nsIn K mainGlobals c = some (some (.ref C))) (h2 : PySem.W.nsIn K mainGlobals x = some (some (.ref S)))
  (h3 : PySem.W.subIn K (.ref S) (.type "BaseException") = some true) (h4 : PySem.W.isClsIn K S = true) (h5 : PySem.W.typeIn K (.ref S) = some (.type "type")) (h6 : PySem.W.subIn K (.ref C) (.ref S) = some b) : PairIn K c x b := ⟨C, S, h1, h2, h3, h4, h5, h6⟩
def AllPr (K : Fg) : List ((Str × Str) × Bool) → Prop
  | [] => True
  | p :: r => PairIn K p.1.1 p.1.2 p.2 ∧ AllPr K r
/-- isinstance's facts -/
def ClsIn (K : Fg) (x : Str) (u : Value) : Prop := (PySem.W.nsIn K mainGlobals x = some (some u) ∧ ∃ C, u = .ref C) ∨ (PySem.W.nsIn K mainGlobals x = some none ∧ ∃ n, u = .type n ∧ bootBuiltins x = some (.type n) ∧ x ≠ "__name__")
theorem ClsIn.own {K : Fg} {x : Str} {C : Addr} (h : PySem.W.nsIn K mainGlobals x = some (some (.ref C))) : ClsIn K x (.ref C) := .inl ⟨h, C, rfl⟩
theorem ClsIn.blt {K : Fg} {x : Str} {n : String} (h : PySem.W.nsIn K mainGlobals x = some none) (h2 : bootBuiltins x = some (.type n)) (h3 : x ≠ "__name__") : ClsIn K x (.type n) := .inr ⟨h, n, rfl, h2, h3⟩
theorem ClsIn.mg {K : Fg} {mg : Mg} {h : Heap} (X : K.In h) (G : h.Ns mainGlobals mg) {x : Str} {u : Value} (c : ClsIn K x u) : (mg x = some u ∧ ∃ C, u = .ref C) ∨ (mg x = none ∧ ∃ n, u = .type n ∧ bootBuiltins x = some (.type n) ∧ x ≠ "__name__") := by
  rcases c with ⟨h, r⟩ | ⟨h, r⟩
  · exact .inl ⟨PySem.W.mg_of X G h, r⟩
  · exact .inr ⟨PySem.W.mg_none_of X G h, r⟩
/-- a class of the text, for isinstance -/
structure XC (K : Fg) (D : Addr) (x : Str) (C : Addr) : Prop where
  ns : PySem.W.nsIn K mainGlobals x = some (some (.ref C))
  ex : ExcI K C
  ty : PySem.W.typeIn K (.ref C) = some (.type "type")
  mro : ∃ cd, PySem.W.clsIn K C = some cd ∧ cd.mro = (if C = D then .ref C :: PySem.AtX.veT else .ref C :: .ref D :: PySem.AtX.veT)
theorem XC.base {K : Fg} {x : Str} {C : Addr} {nm q : Str} {N : Addr} {bs : List Value} {sn : List Str} {sub : List Value} {ab : Bool} {col : Option Bool} {dd : Option Addr} {k0 k1 k2 k3 k5 : Option Value}
    (ns : PySem.W.nsIn K mainGlobals x = some (some (.ref C))) (l : K.lookup C = some (excClassObj nm q C N bs PySem.AtX.veT true sn sub ab col dd k0 k1 k2 k3 k5 "ValueError.__new__")) (ty : PySem.W.typeIn K (.ref C) = some (.type "type"))
    (cl : PySem.W.isClsIn K C = true) (ga : PySem.W.findIn K (.ref C) "__getattribute__" = some (some (.builtin "BaseException.__getattribute__"))) (gg : PySem.W.findIn K (.ref C) "__getattr__" = some none) (be : PySem.W.subIn K (.ref C) (.type "BaseException") = some true)
    (cc : PySem.W.findIn K (.ref C) "__class__" = some (some (.builtin "object.__class__"))) (sp : PySem.W.specialIn K (.builtin "object.__class__") "__get__" = some (some (.builtin "getset_descriptor.__get__"))) (tk : PySem.W.takesIn K (.builtin "object.__class__") = some true) (ob : PySem.W.mroIn K C (.type "object") = some true) : XC K C x C :=
  ⟨ns, ⟨cl, ga, gg, be, cc, sp, tk, ob⟩, ty, _, (by unfold PySem.W.clsIn; rw [l] <;> rfl), by rw [if_pos rfl] <;> rfl⟩
theorem XC.sub {K : Fg} {x : Str} {C D : Addr} {nm q : Str} {N : Addr} {bs : List Value} {sn : List Str} {sub : List Value} {ab : Bool} {col : Option Bool} {dd : Option Addr} {k0 k1 k2 k3 k5 : Option Value}
    (ns : PySem.W.nsIn K mainGlobals x = some (some (.ref C))) (l : K.lookup C = some (excClassObj nm q C N bs (.ref D :: PySem.AtX.veT) true sn sub ab col dd k0 k1 k2 k3 k5 "ValueError.__new__")) (hne : C ≠ D) (ty : PySem.W.typeIn K (.ref C) = some (.type "type"))
    (cl : PySem.W.isClsIn K C = true) (ga : PySem.W.findIn K (.ref C) "__getattribute__" = some (some (.builtin "BaseException.__getattribute__"))) (gg : PySem.W.findIn K (.ref C) "__getattr__" = some none) (be : PySem.W.subIn K (.ref C) (.type "BaseException") = some true)
    (cc : PySem.W.findIn K (.ref C) "__class__" = some (some (.builtin "object.__class__"))) (sp : PySem.W.specialIn K (.builtin "object.__class__") "__get__" = some (some (.builtin "getset_descriptor.__get__"))) (tk : PySem.W.takesIn K (.builtin "object.__class__") = some true) (ob : PySem.W.mroIn K C (.type "object") = some true) : XC K D x C :=
  ⟨ns, ⟨cl, ga, gg, be, cc, sp, tk, ob⟩, ty, _, (by unfold PySem.W.clsIn; rw [l] <;> rfl), by rw [if_neg hne] <;> rfl⟩
def AllXc (K : Fg) (D : Addr) : List Str → List Addr → Prop
  | [], [] => True
  | x :: r, C :: cs => XC K D x C ∧ AllXc K D r cs
  | _, _ => False
theorem AllXc.nil {K : Fg} {D : Addr} : AllXc K D [] [] := True.intro
theorem AllXc.cons {K : Fg} {D : Addr} {x : Str} {r : List Str} {C : Addr} {cs : List Addr} (h : XC K D x C) (t : AllXc K D r cs) : AllXc K D (x :: r) (C :: cs) := ⟨h, t⟩
theorem AllXc.get {K : Fg} {D : Addr} : ∀ {l : List Str} {cs : List Addr} {x : Str}, AllXc K D l cs → x ∈ l → ∃ C ∈ cs, XC K D x C
  | [], [], x, _, h => absurd h (by simp)
  | y :: r, C :: cs, x, ⟨h1, h2⟩, h => by
    rcases List.mem_cons.mp h with rfl | h
    · exact ⟨C, List.mem_cons_self, h1⟩
    · obtain ⟨C', m, z⟩ := AllXc.get h2 h
      exact ⟨C', List.mem_cons_of_mem _ m, z⟩
  | [], _ :: _, _, h, _ => h.elim
  | _ :: _, [], _, h, _ => h.elim
theorem AllXc.ne {K : Fg} {D : Addr} : ∀ {l : List Str} {cs : List Addr} {x y : Str} {C S : Addr}, AllXc K D l cs → cs.Nodup → x ∈ l → y ∈ l → x ≠ y → XC K D x C → XC K D y S → C ≠ S
  | [], [], x, y, _, _, _, _, h, _, _, _, _ => absurd h (by simp)
  | z :: r, E :: cs, x, y, C, S, ⟨h1, h2⟩, nd, hx, hy, hxy, qx, qy => by
    obtain ⟨n1, n2⟩ := List.nodup_cons.mp nd
    rcases List.mem_cons.mp hx with rfl | hx'
    · rcases List.mem_cons.mp hy with rfl | hy'
      · exact absurd rfl hxy
      · obtain ⟨S', m, z⟩ := AllXc.get h2 hy'
        have e1 := h1.ns.symm.trans qx.ns
        have e2 := z.ns.symm.trans qy.ns
        cases e1
        cases e2
        exact fun z => n1 (z ▸ m)
    · rcases List.mem_cons.mp hy with rfl | hy'
      · obtain ⟨S', m, z⟩ := AllXc.get h2 hx'
        have e1 := h1.ns.symm.trans qy.ns
        have e2 := z.ns.symm.trans qx.ns
        cases e1
        cases e2
        exact fun z => n1 (z ▸ m)
      · exact AllXc.ne h2 n2 hx' hy' hxy qx qy
  | [], _ :: _, _, _, _, _, h, _, _, _, _, _, _ => h.elim
  | _ :: _, [], _, _, _, _, h, _, _, _, _, _, _ => h.elim
theorem kit_xc {K : Fg} {D C S : Addr} {c x : Str} (qc : XC K D c C) (qs : XC K D x S) : PySem.W.kitOne K (.ref C) (.ref S) = some (decide (C = S ∨ S = D)) := by
  obtain ⟨cd, e1, e2⟩ := qc.mro
  unfold PySem.W.kitOne
  by_cases h : C = S
  · subst h
    rw [if_pos (by simp)]
    simp
  · rw [if_neg (by simpa using h)]
    have h2 : ((PySem.W.clsIn K S).isSome && PySem.W.typeIn K (.ref S) == some (.type "type")) = true := by
      rw [qs.ex.cl, qs.ty] <;> rfl
    show (if ((PySem.W.clsIn K S).isSome && PySem.W.typeIn K (.ref S) == some (.type "type")) = true then PySem.W.subIn K (.ref C) (.ref S) else none) = _
    rw [if_pos h2]
    show PySem.W.mroIn K C (.ref S) = _
    unfold PySem.W.mroIn
    rw [e1, Option.bind_some, e2]
    by_cases hd : C = D
    · rw [if_pos hd]
      subst hd
      have h' : ¬ S = C := fun z => h z.symm
      simp [h, h', PySem.AtX.veT]
    · rw [if_neg hd]
      have h' : ¬ S = C := fun z => h z.symm
      by_cases hs : S = D
      · subst hs
        simp [PySem.AtX.veT]
      · simp [h, h', hs, PySem.AtX.veT]
theorem kit_ve {K : Fg} {D C : Addr} {c : Str} (qc : XC K D c C) : PySem.W.kitOne K (.ref C) (.type "ValueError") = some true := by
  obtain ⟨cd, e1, e2⟩ := qc.mro
  unfold PySem.W.kitOne
  rw [if_neg (by simp)]
  show (if PySem.W.kitMeta "ValueError" = true then PySem.W.subIn K (.ref C) (.type "ValueError") else none) = _
  rw [if_pos (by decide +kernel)]
  show PySem.W.mroIn K C (.type "ValueError") = _
  unfold PySem.W.mroIn
  rw [e1, Option.bind_some, e2]
  by_cases hd : C = D
  · rw [if_pos hd]
    simp [PySem.AtX.veT]
  · rw [if_neg hd]
    simp [PySem.AtX.veT]
/-- isinstance's facts of the text's end -/
def XcIn (K : Fg) (xi : Bool) (xb : Str) (xn : List Str) : Prop := xi = true → ∃ (D : Addr) (cs : List Addr), AllXc K D (xb :: xn) (D :: cs) ∧ (D :: cs).Nodup ∧ PySem.W.nsIn K mainGlobals "ValueError" = some none
theorem xc_mk {K : Fg} {xb : Str} {xn : List Str} {D : Addr} {cs : List Addr} (h1 : XC K D xb D) (h : AllXc K D xn cs) (nd : (D :: cs).Nodup) (hv : PySem.W.nsIn K mainGlobals "ValueError" = some none) : XcIn K true xb xn := fun _ => ⟨D, cs, ⟨h1, h⟩, nd, hv⟩
theorem xc_no {K : Fg} {xb : Str} {xn : List Str} : XcIn K false xb xn := fun h => by cases h
def AllIt (K : Fg) (t : String) : List (Str × Bool) → Prop
  | [] => True
  | p :: r => (∃ u, ClsIn K p.1 u ∧ PySem.W.kitOne K (.type t) u = some p.2) ∧ AllIt K t r
theorem AllIt.mem {K : Fg} {t : String} : ∀ {l : List (Str × Bool)}, AllIt K t l → ∀ p ∈ l, ∃ u, ClsIn K p.1 u ∧ PySem.W.kitOne K (.type t) u = some p.2
  | [], _, p, h => absurd h (by simp)
  | q :: r, ⟨h1, h2⟩, p, h => by
    rcases List.mem_cons.mp h with rfl | h
    · exact h1
    · exact AllIt.mem h2 p h
theorem AllFs.mem {K : Fg} : ∀ {l : List (Str × Fd)}, AllFs K l → ∀ p ∈ l, FunIn K p.1 p.2.st
  | [], _, p, h => absurd h (by simp)
  | q :: r, ⟨h1, h2⟩, p, h => by
    rcases List.mem_cons.mp h with rfl | h
    · exact h1
    · exact AllFs.mem h2 p h
theorem AllBd.mem : ∀ {l : List (Str × Fd)}, AllBd l → ∀ p ∈ l, BindIn p.1 p.2.st p.2.ps
  | [], _, p, h => absurd h (by simp)
  | q :: r, ⟨h1, h2⟩, p, h => by
    rcases List.mem_cons.mp h with rfl | h
    · exact h1
    · exact AllBd.mem h2 p h
theorem AllGl.mem {K : Fg} {mg : Mg} : ∀ {l : List (Str × PD)}, AllGl K mg l → ∀ p ∈ l, GKnown K mg p.1 p.2
  | [], _, p, h => absurd h (by simp)
  | q :: r, ⟨h1, h2⟩, p, h => by
    rcases List.mem_cons.mp h with rfl | h
    · exact h1
    · exact AllGl.mem h2 p h
theorem AllBl.mem {K : Fg} : ∀ {l : List Str}, AllBl K l → ∀ p ∈ l, PySem.W.nsIn K mainGlobals p = some none
  | [], _, p, h => absurd h (by simp)
  | q :: r, ⟨h1, h2⟩, p, h => by
    rcases List.mem_cons.mp h with rfl | h
    · exact h1
    · exact AllBl.mem h2 p h
theorem AllEx.mem {P : Program} {K : Fg} {mg : Mg} : ∀ {l : List Str}, AllEx P K mg l → ∀ p ∈ l, ∃ C D fI, PySem.AtX.AtTxt P K mg p C D fI
  | [], _, p, h => absurd h (by simp)
  | q :: r, ⟨h1, h2⟩, p, h => by
    rcases List.mem_cons.mp h with rfl | h
    · exact h1
    · exact AllEx.mem h2 p h
theorem AllPr.mem {K : Fg} : ∀ {l : List ((Str × Str) × Bool)}, AllPr K l → ∀ p ∈ l, PairIn K p.1.1 p.1.2 p.2
  | [], _, p, h => absurd h (by simp)
  | q :: r, ⟨h1, h2⟩, p, h => by
    rcases List.mem_cons.mp h with rfl | h
    · exact h1
    · exact AllPr.mem h2 p h
theorem mem_lookup {α β : Type} [BEq α] [LawfulBEq α] {l : List (α × β)} {x : α} {f : β} (h : l.lookup x = some f) : (x, f) ∈ l := by
  induction l with
  | nil => cases h
  | cons a r ih =>
    obtain ⟨y, g⟩ := a
    rw [List.lookup_cons] at h
    by_cases e : (x == y) = true
    · rw [e] at h
      obtain rfl := eq_of_beq e
      cases h
      exact List.mem_cons_self
    · have e : (x == y) = false := by simpa using e
      rw [e] at h
      exact List.mem_cons_of_mem _ (ih h)
theorem know_mk {t : Tx} {P : Program} {K : Fg} {mg : Mg} {h : Heap} (X : K.In h) (G : h.Ns mainGlobals mg) (b : AllBd t.fs) (c : (t.fs.all fun p => chkFd t.prg p.2) = true)
    (f : AllFs K t.fs) (g : AllGl K mg t.gl) (l : AllBl K t.bl) (e : AllEx P K mg t.ex) (p : AllPr K t.pr) (pe : (t.pr.all fun p => t.ex.contains p.1.1) = true) (s : PySem.W.nsIn K mainGlobals "super" = some none) (ie : XcIn K t.xi t.xb t.xn) (ii : AllIt K "int" t.ii) (ib : AllIt K "bool" t.ib) : Know t.prg P K mg where
  fns := fun x fd ex => by
    have m := mem_lookup ex
    exact (f.mem _ m).fn X G (b.mem _ m)
  chk := fun x fd ex => List.all_eq_true.mp c (x, fd) (mem_lookup ex)
  gl := fun x q ex => g.mem _ (mem_lookup ex)
  bl := fun x ex => PySem.W.mg_none_of X G (l.mem x (by
    have ex : t.bl.contains x = true := ex
    simpa using ex))
  sub := fun c x b ex => by
    have m := mem_lookup (show t.pr.lookup (c, x) = some b from ex)
    obtain ⟨C, S, h1, h2, h3, h4, h5, h6⟩ := p.mem _ m
    have hc : c ∈ t.ex := by
      have := List.all_eq_true.mp pe _ m
      simpa using this
    obtain ⟨C', D', fI, T⟩ := e.mem c hc
    have hC := PySem.W.mg_of X G h1
    have z := T.gC
    rw [hC] at z
    cases z
    exact ⟨C, D', fI, S, T, PySem.W.mg_of X G h2, exm_pair h3 h4 h5 h6⟩
  exs := fun x ex => e.mem x (by
    have ex : t.ex.contains x = true := ex
    simpa using ex)
  sup := PySem.W.mg_none_of X G s
  isi := {
    exc := fun c x b ex => by
      have ex : isiX t.xi t.xb t.xn c x = some b := ex
      unfold isiX at ex
      split at ex
      · rename_i hc
        rw [Bool.and_eq_true] at hc
        obtain ⟨D, cs, hA, nd, hv⟩ := ie hc.1
        have mem : ∀ {y : Str}, (y == t.xb || t.xn.contains y) = true → y ∈ t.xb :: t.xn := fun {y} h => by
          rw [Bool.or_eq_true] at h
          rcases h with h | h
          · rw [beq_iff_eq] at h
            rw [h]
            exact List.mem_cons_self
          · exact List.mem_cons_of_mem _ (by simpa using h)
        have mc := mem hc.2
        obtain ⟨C, _, qc⟩ := hA.get mc
        have hC := PySem.W.mg_of X G qc.ns
        have base := hA.1
        split at ex
        · rename_i hx
          cases ex
          rw [Bool.or_eq_true] at hx
          rcases hx with hx | hx
          · rw [beq_iff_eq] at hx
            subst hx
            refine ⟨C, .ref C, hC, qc.ex, .inl ⟨hC, C, rfl⟩, ?_⟩
            rw [kit_xc qc qc]
            simp
          · rw [beq_iff_eq] at hx
            subst hx
            refine ⟨C, .ref D, hC, qc.ex, .inl ⟨PySem.W.mg_of X G base.ns, D, rfl⟩, ?_⟩
            rw [kit_xc qc base]
            simp
        · rename_i hx
          split at ex
          · rename_i hn
            cases ex
            have mx : x ∈ t.xb :: t.xn := mem (by rw [hn]; simp)
            obtain ⟨S, _, qs⟩ := hA.get mx
            rw [Bool.or_eq_true] at hx
            have n1 : c ≠ x := fun z => hx (.inl (by simp [z]))
            have n2 : x ≠ t.xb := fun z => hx (.inr (by simp [z]))
            refine ⟨C, .ref S, hC, qc.ex, .inl ⟨PySem.W.mg_of X G qs.ns, S, rfl⟩, ?_⟩
            rw [kit_xc qc qs]
            have a1 := hA.ne nd mc mx n1 qc qs
            have a2 := hA.ne nd mx List.mem_cons_self n2 qs base
            simp [a1, a2]
          · split at ex
            · rename_i hve
              cases ex
              rw [beq_iff_eq] at hve
              subst hve
              exact ⟨C, .type "ValueError", hC, qc.ex, .inr ⟨PySem.W.mg_none_of X G hv, "ValueError", rfl, by decide +kernel, by decide⟩, kit_ve qc⟩
            · cases ex
      · cases ex
    int := fun x b ex => by
      obtain ⟨u, h3, h4⟩ := ii.mem _ (mem_lookup (show t.ii.lookup x = some b from ex))
      exact ⟨u, h3.mg X G, h4⟩
    bl := fun x b ex => by
      obtain ⟨u, h3, h4⟩ := ib.mem _ (mem_lookup (show t.ib.lookup x = some b from ex))
      exact ⟨u, h3.mg X G, h4⟩ }
theorem with_know {t : Tx} {P : Program} {K : Fg} {mg : Mg} {h : Heap} {R : Prop} (X : K.In h) (G : h.Ns mainGlobals mg) (b : AllBd t.fs) (c : (t.fs.all fun p => chkFd t.prg p.2) = true)
    (f : AllFs K t.fs) (g : AllGl K mg t.gl) (l : AllBl K t.bl) (e : AllEx P K mg t.ex) (p : AllPr K t.pr) (pe : (t.pr.all fun p => t.ex.contains p.1.1) = true) (s : PySem.W.nsIn K mainGlobals "super" = some none) (ie : XcIn K t.xi t.xb t.xn) (ii : AllIt K "int" t.ii) (ib : AllIt K "bool" t.ib) (go : Know t.prg P K mg → R) : R :=
  go (know_mk X G b c f g l e p pe s ie ii ib)
theorem cx_none {P : Program} {w : World} {H : Hp} {s s' : Shared} {e : Value} : L2.CX P w [] H s (fun _ _ _ => False) e s' → False := fun ⟨_, _, _, _, _, _, _, _, _, _, _, _, z⟩ => z
end FL
set_option linter.all false
set_option maxRecDepth 100000
namespace FL
open PySem
/-! lemmas to run the pure evaluator by simp -/
theorem bindS_ok {α : Type} (a : α) (ρ : Ev) (f : α → RS) : Res.bindS (.ok a) ρ f = f a := rfl
theorem bindS_exc {α : Type} (c : Str) (p : PD) (ρ : Ev) (f : α → RS) : Res.bindS (.exc c p) ρ f = .exc c p ρ := rfl
theorem bindS_stuck {α : Type} (ρ : Ev) (f : α → RS) : Res.bindS (α := α) .stuck ρ f = .stuck := rfl
theorem pd_sh (p : PD) : (Sl.sh p).pd = p := rfl
theorem pd_ow (p : PD) : (Sl.ow p).pd = p := rfl
theorem iteT' {α : Sort _} (a b : α) : (if true = true then a else b) = a := if_pos rfl
theorem iteF' {α : Sort _} (a b : α) : (if false = true then a else b) = b := if_neg (by decide)
theorem ix_tup (xs : List PD) (i : Int) : ixA (.tuple xs) (.int i) = (match L2.atI xs i with | some p => .ok (.sh p) | none => .stuck) := rfl
theorem ix_lst (xs : List PD) (i : Int) : ixA (.list xs) (.int i) = (match L2.atI xs i with | some p => .ok (.sh p) | none => .stuck) := rfl
theorem at0 {α : Type} (x : α) (xs : List α) : L2.atI (x :: xs) 0 = some x := by
  unfold L2.atI L2.ixN
  rw [if_pos (by omega), if_pos (by simp only [List.length_cons]; omega)]
  rfl
theorem at1 {α : Type} (x y : α) (xs : List α) : L2.atI (x :: y :: xs) 1 = some y := by
  unfold L2.atI L2.ixN
  rw [if_pos (by omega), if_pos (by simp only [List.length_cons]; omega)]
  rfl
theorem at2 {α : Type} (x y z : α) (xs : List α) : L2.atI (x :: y :: z :: xs) 2 = some z := by
  unfold L2.atI L2.ixN
  rw [if_pos (by omega), if_pos (by simp only [List.length_cons]; omega)]
  rfl
theorem at3 {α : Type} (x y z w : α) (xs : List α) : L2.atI (x :: y :: z :: w :: xs) 3 = some w := by
  unfold L2.atI L2.ixN
  rw [if_pos (by omega), if_pos (by simp only [List.length_cons]; omega)]
  rfl
theorem at4 {α : Type} (x y z w v : α) (xs : List α) : L2.atI (x :: y :: z :: w :: v :: xs) 4 = some v := by
  unfold L2.atI L2.ixN
  rw [if_pos (by omega), if_pos (by simp only [List.length_cons]; omega)]
  rfl
theorem at5 {α : Type} (x y z w v u : α) (xs : List α) : L2.atI (x :: y :: z :: w :: v :: u :: xs) 5 = some u := by
  unfold L2.atI L2.ixN
  rw [if_pos (by omega), if_pos (by simp only [List.length_cons]; omega)]
  rfl
theorem fits_small {i : Int} (h1 : -(10 : Int) ^ 60 ≤ i) (h2 : i ≤ (10 : Int) ^ 60) : fits i = true := by
  unfold fits
  apply decide_eq_true
  have : i.natAbs ≤ 10 ^ 60 := by omega
  have h3 : i.natAbs < 2 ^ 200 := Nat.lt_of_le_of_lt this (by decide)
  by_cases h0 : i.natAbs = 0
  · rw [h0]; decide
  · exact Nat.lt_trans ((Nat.log2_lt h0).mpr h3) (by decide)
end FL
namespace FL
open PySem
theorem eqS (x y : Str) : eqP (.str x) (.str y) = some (x == y) := rfl
theorem eqI (x y : Int) : eqP (.int x) (.int y) = some (x == y) := rfl
end FL
namespace FL
theorem nc0 : ((0 : Nat) : Int) = 0 := rfl
theorem nc1 : ((1 : Nat) : Int) = 1 := rfl
theorem nc2 : ((2 : Nat) : Int) = 2 := rfl
theorem nc3 : ((3 : Nat) : Int) = 3 := rfl
theorem nc4 : ((4 : Nat) : Int) = 4 := rfl
theorem nc5 : ((5 : Nat) : Int) = 5 := rfl
theorem nc6 : ((6 : Nat) : Int) = 6 := rfl
end FL
namespace FL
theorem cut03 {α : Type} (a b c d : α) : cutP [a, b, c, d] none (some 3) = [a, b, c] := rfl
theorem cut63 {α : Type} (a b c d e f : α) : cutP [a, b, c, d, e, f] none (some 3) = [a, b, c] := rfl
theorem cut64 {α : Type} (a b c d e f : α) : cutP [a, b, c, d, e, f] (some 4) none = [e, f] := rfl
end FL
namespace FL
open PySem
theorem r1_3 : range1P [.int 3] = .ok [.int 0, .int 1, .int 2] := rfl
theorem r1_4 : range1P [.int 4] = .ok [.int 0, .int 1, .int 2, .int 3] := rfl
theorem r1_5 : range1P [.int 5] = .ok [.int 0, .int 1, .int 2, .int 3, .int 4] := rfl
end FL
namespace FL
theorem evB_nx {D : Tab} {s : S} {b : B} {ρ ρ' : Ev} (h : evS D s ρ = .nx ρ') : evB D (.cons s b) ρ = evB D b ρ' := by
  show (match evS D s ρ with | .nx ρ' => evB D b ρ' | r => r) = _
  rw [h]
theorem evB_rt {D : Tab} {s : S} {b : B} {ρ : Ev} {r : Rt} (h : evS D s ρ = .rt r) : evB D (.cons s b) ρ = .rt r := by
  show (match evS D s ρ with | .nx ρ' => evB D b ρ' | r => r) = _
  rw [h]
theorem evS_while (D : Tab) (n : Nat) (t : T) (b : B) (ρ : Ev) : evS D (.while_ n t b) ρ = whileL (evT D t) (evB D b) n ρ := rfl
end FL
namespace FL
open PySem
theorem fd3 (a : Int) : fdivP (.int a) (.int 3) = .ok (.sh (.int (a.fdiv 3))) := rfl
theorem fd65536 (a : Int) : fdivP (.int a) (.int 65536) = .ok (.sh (.int (a.fdiv 65536))) := rfl
theorem mdn (a m : Int) (h : m ≠ 0) : modP (.int a) (.int m) = .ok (.sh (.int (a.fmod m))) := if_pos h
theorem lenL (ps : List PD) : lenP [.list ps] = .ok (.sh (.int ((ps.length : Nat) : Int))) := rfl
theorem intI (i : Int) : intP [.int i] = .ok (.sh (.int i)) := rfl
theorem addI (i j : Int) : addP (.int i) (.int j) = .ok (.sh (.int (i + j))) := rfl
theorem subI (i j : Int) : subP (.int i) (.int j) = .ok (.sh (.int (i - j))) := rfl
theorem mulI (i j : Int) (h1 : fits i = true) (h2 : fits j = true) : mulP (.int i) (.int j) = .ok (.sh (.int (i * j))) := if_pos (by rw [h1, h2]; rfl)
theorem gtI (i j : Int) : gtO (.int i) (.int j) = .ok (.sh (.bool (decide (j < i)))) := rfl
theorem ltI (i j : Int) : ltO (.int i) (.int j) = .ok (.sh (.bool (decide (i < j)))) := rfl
theorem geI (i j : Int) : geO (.int i) (.int j) = .ok (.sh (.bool (decide (j ≤ i)))) := rfl
theorem leI (i j : Int) : leO (.int i) (.int j) = .ok (.sh (.bool (decide (i ≤ j)))) := rfl
theorem absI (i : Int) : absP [.int i] = .ok (.sh (.int (i.natAbs : Int))) := by
  show Res.ok (Sl.sh (PyData.int (if i < 0 then -i else i))) = _
  have : (if i < 0 then -i else i) = (i.natAbs : Int) := by split <;> omega
  rw [this]
end FL
namespace FL
open PySem
theorem forL_inv {t : Tg} {f : Ss} (N : Nat) (I : Nat → Ev → Prop) (Pp : PD → Prop) (hs : ∀ j p ρ, j < N → Pp p → I j ρ → ∃ ρ1 ρ2, bindT t p ρ = some ρ1 ∧ f ρ1 = .nx ρ2 ∧ I (j + 1) ρ2) : ∀ (ps : List PD), (∀ p ∈ ps, Pp p) → ∀ j ρ, j + ps.length ≤ N → I j ρ → ∃ ρ', forL t f ps ρ = .nx ρ' ∧ I (j + ps.length) ρ'
  | [], _, j, ρ, _, h => ⟨ρ, rfl, h⟩
  | p :: ps, hp, j, ρ, hN, h => by
    rw [List.length_cons] at hN
    obtain ⟨ρ1, ρ2, h1, h2, h3⟩ := hs j p ρ (by omega) (hp p List.mem_cons_self) h
    obtain ⟨ρ', h4, h5⟩ := forL_inv N I Pp hs ps (fun q hq => hp q (List.mem_cons_of_mem _ hq)) (j + 1) ρ2 (by omega) h3
    refine ⟨ρ', ?_, by rw [List.length_cons, show j + (ps.length + 1) = j + 1 + ps.length by omega]; exact h5⟩
    rw [forL, h1]
    simp only [h2]
    exact h4
theorem evS_for (D : Tab) (it : I) (tg : Tg) (b : B) (ρ : Ev) : evS D (.for_ it tg b) ρ = ((evI D it) ρ).bindS ρ fun ps => forL tg (evB D b) ps ρ := rfl
theorem evS_pre (D : Tab) (i : Nat) (s : S) (ρ : Ev) : evS D (.pre i s) ρ = evS D s (shr ρ i) := rfl
theorem evS_if (D : Tab) (t : T) (a b : B) (ρ : Ev) : evS D (.ife t a b) ρ = ((evT D t) ρ).bindS ρ fun c => if c = true then evB D a ρ else evB D b ρ := rfl
theorem evB_nil (D : Tab) (ρ : Ev) : evB D .nil ρ = .nx ρ := rfl
theorem ix_scr (ns : List Int) (i : Int) : ixA (scrD ns) (.int i) = (match L2.atI (ns.map PyData.int) i with | some (.int n) => .ok (.sh (.int n)) | _ => .stuck) := rfl
theorem len_scr (ns : List Int) : lenP [scrD ns] = .ok (.sh (.int (((ns.map PyData.int).length : Nat) : Int))) := rfl
theorem pw18 : powP (.int 10) (.int 18) = .ok (.sh (.int 1000000000000000000)) := rfl
theorem rngP_mem {n : Int} {p : PD} (h : p ∈ rngP 0 n) : ∃ i : Int, p = .int i ∧ 0 ≤ i ∧ i < n := by
  unfold rngP at h
  obtain ⟨i, hi, rfl⟩ := List.mem_map.mp h
  rw [List.mem_range] at hi
  exact ⟨_, rfl, by omega, by omega⟩
theorem rngP_len (n : Int) : (rngP 0 n).length = n.toNat := by
  unfold rngP
  rw [List.length_map, List.length_range, Int.sub_zero]
theorem rg1 (n : Int) (h0 : 0 ≤ n) (h1 : n ≤ 1000000) : range1P [.int n] = .ok (rngP 0 n) := if_pos (by
  unfold okR
  rw [Bool.and_eq_true]
  exact ⟨decide_eq_true (by omega), decide_eq_true (by omega)⟩)
end FL
namespace FL
open PySem
theorem evEA_more {D : Tab} {e : E} {w : EW} {ρ : Ev} {a b : Bool} (h1 : evE D e ρ = .ok (.sh (.bool a))) (h2 : evEA D w ρ = .ok (.sh (.bool b))) : evEA D (.more e w) ρ = .ok (.sh (.bool (a && b))) := by
  show (evE D e ρ).bind _ = _
  rw [h1]
  cases a
  · rfl
  · show evEA D w ρ = _
    rw [h2, Bool.true_and]
theorem eq3 (a b c x y z : Str) (h : (SeqAt.shaped (.tuple [.str a, .str b, .str c]) && SeqAt.shaped (.tuple [.str x, .str y, .str z])) = true) : eqP (.tuple [.str a, .str b, .str c]) (.tuple [.str x, .str y, .str z]) = some (a == x && b == y && c == z) := by
  refine (if_pos h).trans ?_
  simp [PyData.eqv, PyData.eqvAll, Bool.and_assoc]
theorem eq2 (a b x y : Str) (h : (SeqAt.shaped (.tuple [.str a, .str b]) && SeqAt.shaped (.tuple [.str x, .str y])) = true) : eqP (.tuple [.str a, .str b]) (.tuple [.str x, .str y]) = some (a == x && b == y) := by
  refine (if_pos h).trans ?_
  simp [PyData.eqv, PyData.eqvAll]
end FL
namespace FL
open PySem
theorem forL_nx {i : Nat} {f : Ss} {p : PD} {ps : List PD} {ρ ρ' : Ev} (h : f (ρ.set i (some (.sh p))) = .nx ρ') : forL (.nm i) f (p :: ps) ρ = forL (.nm i) f ps ρ' := by
  rw [forL]
  simp only [bindT, h]
theorem forL_nil {t : Tg} {f : Ss} {ρ : Ev} : forL t f [] ρ = .nx ρ := rfl
end FL
set_option Elab.async false
set_option linter.all false
set_option maxRecDepth 100000
set_option maxHeartbeats 2000000
namespace K00
open PySem PySem.Spec PyProof.Rows L2 FL

def top (i : Nat) : Stmt := PySem.Challenge.pw_samplesonce_k00_errors_are_apart.main.body.getD i (.Pass ⟨0, 0, 0, 0⟩)
def t_quarter : B :=
 (.cons (.ife (.not (.chain .le .le (.of (.int 0)) (.var 0) (.of (.int 2))))
 (.cons (.raise "BadAxis" (.cons (.var 0) A.nil))
 B.nil)
 B.nil)
 (.cons (.par 1 2 (.cons (.bin .mod (.of (.bin .add (.var 0) (.of (.int 1)))) (.of (.int 3))) (.cons (.bin .mod (.of (.bin .add (.var 0) (.of (.int 2)))) (.of (.int 3))) A.nil)))
 (.cons (.set 3 (.bin .mul (.of (.lst (.cons (.int 0) A.nil))) (.of (.glo "SIZE"))))
 (.cons (.sub 3 (.of (.bin .mul (.of (.int 5)) (.var 0))) (.int 1))
 (.cons (.sub 3 (.of (.bin .add (.of (.bin .mul (.of (.int 4)) (.var 2))) (.var 1))) (.int 1))
 (.cons (.sub 3 (.of (.bin .add (.of (.bin .mul (.of (.int 4)) (.var 1))) (.var 2))) (.neg (.of (.int 1))))
 (.cons (.ret (.tup (.cons (.blt .tuple (.cons (.var 3) Rl.nil)) (.cons (.int 1) A.nil))))
 B.nil)))))))
def f_quarter : Fd := ⟨[("axis" : Str)], [("axis" : Str), ("one" : Str), ("two" : Str), ("rows" : Str)], top 31, t_quarter⟩
def t__law_draws : B :=
 (.cons (.set 1 (.lst A.nil))
 (.cons (.for_ (.rng1 (.cons (.of (.blt .min (.cons (.of (.int 63)) (.cons (.of (.blt .len (.cons (.var 0) Rl.nil))) Rl.nil)))) Rl.nil)) (.nm 2)
 (.cons (.set 3 (.blt .abs (.cons (.of (.ix (.var 0) (.var 2))) Rl.nil)))
 (.cons (.ife (.cmp .ge (.var 3) (.of (.bin .pow (.of (.int 10)) (.of (.int 18)))))
 (.cons (.for_ (.rng1 (.cons (.of (.int 60)) Rl.nil)) (.nm 4)
 (.cons (.ife (.cmp .gt (.var 3) (.of (.int 0)))
 (.cons (.app 1 (.bin .mod (.of (.blt .int (.cons (.var 3) Rl.nil))) (.of (.int 65536))))
 (.cons (.set 3 (.bin .fdiv (.var 3) (.of (.int 65536))))
 B.nil))
 B.nil)
 B.nil))
 B.nil)
 (.cons (.set 5 (.bin .mod (.of (.blt .int (.cons (.of (.bin .add (.of (.bin .mul (.var 3) (.of (.int 48271)))) (.of (.bin .mul (.of (.bin .add (.var 2) (.of (.int 1)))) (.of (.int 69621)))))) Rl.nil))) (.of (.int 2147483647))))
 (.cons (.set 5 (.bin .mod (.of (.blt .int (.cons (.of (.bin .add (.of (.bin .add (.of (.bin .mul (.var 5) (.of (.int 16807)))) (.of (.bin .mul (.of (.int 11)) (.var 2))))) (.of (.int 5)))) Rl.nil))) (.of (.int 2147483629))))
 (.cons (.app 1 (.bin .mod (.of (.blt .int (.cons (.var 5) Rl.nil))) (.of (.int 65536))))
 (.cons (.app 1 (.bin .mod (.of (.blt .int (.cons (.of (.bin .fdiv (.var 5) (.of (.int 65536)))) Rl.nil))) (.of (.int 32768))))
 B.nil)))))
 B.nil)))
 (.cons (.retV 1)
 B.nil)))
def f__law_draws : Fd := ⟨[("script" : Str)], [("script" : Str), ("draws" : Str), ("k" : Str), ("rest" : Str), ("turn" : Str), ("stirred" : Str)], top 33, t__law_draws⟩
def t__law_mix : B :=
 (.cons (.set 3 (.int 0))
 (.cons (.ife (.cmp .gt (.of (.blt .len (.cons (.var 0) Rl.nil))) (.of (.int 0)))
 (.cons (.set 3 (.ix (.var 0) (.of (.bin .mod (.of (.blt .int (.cons (.var 1) Rl.nil))) (.of (.blt .len (.cons (.var 0) Rl.nil)))))))
 B.nil)
 B.nil)
 (.cons (.ife (.cmp .lt (.var 1) (.of (.blt .len (.cons (.var 0) Rl.nil))))
 (.cons (.ret (.bin .mod (.of (.blt .int (.cons (.var 3) Rl.nil))) (.var 2)))
 B.nil)
 B.nil)
 (.cons (.ret (.bin .mod (.of (.blt .int (.cons (.of (.bin .fdiv (.of (.blt .int (.cons (.of (.bin .add (.of (.bin .mul (.var 3) (.of (.int 7919)))) (.of (.bin .mul (.var 1) (.of (.int 104729)))))) Rl.nil))) (.of (.int 3)))) Rl.nil))) (.var 2)))
 B.nil))))
def f__law_mix : Fd := ⟨[("draws" : Str), ("k" : Str), ("many" : Str)], [("draws" : Str), ("k" : Str), ("many" : Str), ("cell" : Str)], top 34, t__law_mix⟩
def t__law_kinds : B :=
 (.cons (.ret (.lst (.cons (.isi (.var 0) "OutOfRange") (.cons (.isi (.var 0) "TooMany") (.cons (.isi (.var 0) "BadFraction") (.cons (.isi (.var 0) "BadMove") (.cons (.isi (.var 0) "BadAxis") (.cons (.isi (.var 0) "NoWay") (.cons (.isi (.var 0) "BadShape") (.cons (.isi (.var 0) "BadPlane") (.cons (.isi (.var 0) "BadCorner") (.cons (.isi (.var 0) "BadWindow") (.cons (.isi (.var 0) "BadTriangle") (.cons (.isi (.var 0) "BadDot") (.cons (.isi (.var 0) "NoArea") (.cons (.isi (.var 0) "BadRule") (.cons (.isi (.var 0) "BadBlend") (.cons (.isi (.var 0) "BadColour") (.cons (.isi (.var 0) "BadCommand") (.cons (.isi (.var 0) "BadLine") (.cons (.isi (.var 0) "BadTile") (.cons (.isi (.var 0) "BadWay") (.cons (.isi (.var 0) "BadOrder") (.cons (.isi (.var 0) "BadEdit") (.cons (.isi (.var 0) "BadTexture") (.cons (.isi (.var 0) "BadLevel") (.cons (.isi (.var 0) "BadPlace") (.cons (.isi (.var 0) "BadPacking") (.cons (.isi (.var 0) "BadBlock") A.nil)))))))))))))))))))))))))))))
 B.nil)
def f__law_kinds : Fd := ⟨[("e" : Str)], [("e" : Str)], top 35, t__law_kinds⟩
def t__law_made : B :=
 (.cons (.ret (.lst (.cons (.mk "OutOfRange" (.cons (.bin .add (.var 0) (.of (.int 0))) A.nil)) (.cons (.mk "TooMany" (.cons (.bin .add (.var 0) (.of (.int 1))) A.nil)) (.cons (.mk "BadFraction" (.cons (.bin .add (.var 0) (.of (.int 2))) A.nil)) (.cons (.mk "BadMove" (.cons (.bin .add (.var 0) (.of (.int 3))) A.nil)) (.cons (.mk "BadAxis" (.cons (.bin .add (.var 0) (.of (.int 4))) A.nil)) (.cons (.mk "NoWay" (.cons (.bin .add (.var 0) (.of (.int 5))) A.nil)) (.cons (.mk "BadShape" (.cons (.bin .add (.var 0) (.of (.int 6))) A.nil)) (.cons (.mk "BadPlane" (.cons (.bin .add (.var 0) (.of (.int 7))) A.nil)) (.cons (.mk "BadCorner" (.cons (.bin .add (.var 0) (.of (.int 8))) A.nil)) (.cons (.mk "BadWindow" (.cons (.bin .add (.var 0) (.of (.int 9))) A.nil)) (.cons (.mk "BadTriangle" (.cons (.bin .add (.var 0) (.of (.int 10))) A.nil)) (.cons (.mk "BadDot" (.cons (.bin .add (.var 0) (.of (.int 11))) A.nil)) (.cons (.mk "NoArea" (.cons (.bin .add (.var 0) (.of (.int 12))) A.nil)) (.cons (.mk "BadRule" (.cons (.bin .add (.var 0) (.of (.int 13))) A.nil)) (.cons (.mk "BadBlend" (.cons (.bin .add (.var 0) (.of (.int 14))) A.nil)) (.cons (.mk "BadColour" (.cons (.bin .add (.var 0) (.of (.int 15))) A.nil)) (.cons (.mk "BadCommand" (.cons (.bin .add (.var 0) (.of (.int 16))) A.nil)) (.cons (.mk "BadLine" (.cons (.bin .add (.var 0) (.of (.int 17))) A.nil)) (.cons (.mk "BadTile" (.cons (.bin .add (.var 0) (.of (.int 18))) A.nil)) (.cons (.mk "BadWay" (.cons (.bin .add (.var 0) (.of (.int 19))) A.nil)) (.cons (.mk "BadOrder" (.cons (.bin .add (.var 0) (.of (.int 20))) A.nil)) (.cons (.mk "BadEdit" (.cons (.bin .add (.var 0) (.of (.int 21))) A.nil)) (.cons (.mk "BadTexture" (.cons (.bin .add (.var 0) (.of (.int 22))) A.nil)) (.cons (.mk "BadLevel" (.cons (.bin .add (.var 0) (.of (.int 23))) A.nil)) (.cons (.mk "BadPlace" (.cons (.bin .add (.var 0) (.of (.int 24))) A.nil)) (.cons (.mk "BadPacking" (.cons (.bin .add (.var 0) (.of (.int 25))) A.nil)) (.cons (.mk "BadBlock" (.cons (.bin .add (.var 0) (.of (.int 26))) A.nil)) A.nil)))))))))))))))))))))))))))))
 B.nil)
def f__law_made : Fd := ⟨[("n" : Str)], [("n" : Str)], top 36, t__law_made⟩
def t__law_raised : B :=
 (.cons (.try_ (.cons (.expr (.call "quarter" (.cons (.var 0) A.nil)))
 B.nil) (.cons "DrawError" (some 1) (.cons (.retV 1)
 B.nil) Hs.nil))
 (.cons (.ret E.non)
 B.nil))
def f__law_raised : Fd := ⟨[("many" : Str)], [("many" : Str), ("e" : Str)], top 37, t__law_raised⟩
def t_law : B :=
 (.cons (.set 1 (.call "_law_draws" (.cons (.var 0) A.nil)))
 (.cons (.pre 1 (.set 2 (.bin .sub (.of (.call "_law_mix" (.cons (.var 1) (.cons (.int 0) (.cons (.int 60000) A.nil))))) (.of (.int 30000)))))
 (.cons (.set 3 (.call "_law_made" (.cons (.var 2) A.nil)))
 (.cons (.for_ (.rng1 (.cons (.of (.blt .len (.cons (.var 3) Rl.nil))) Rl.nil)) (.nm 4)
 (.cons (.ife (.or (.more (.not (.tru (.of (.isi (.of (.ix (.var 3) (.var 4))) "DrawError")))) (.more (.not (.tru (.of (.isi (.of (.ix (.var 3) (.var 4))) "ValueError")))) (.one (.cmp .ne (.of (.at (.of (.ix (.var 3) (.var 4))))) (.of (.bin .add (.var 2) (.var 4))))))))
 (.cons (.ret (.bl false))
 B.nil)
 B.nil)
 (.cons (.ife (.cmp .ne (.of (.call "_law_kinds" (.cons (.ix (.var 3) (.var 4)) A.nil))) (.of (.comp (.rng1 (.cons (.of (.blt .len (.cons (.var 3) Rl.nil))) Rl.nil)) [(("t" : Str), 8)] (.nm 8) C.none (.cmp .eq (.var 8) (.var 4)))))
 (.cons (.ret (.bl false))
 B.nil)
 B.nil)
 (.cons (.ife (.or (.more (.tru (.of (.isi (.of (.at (.of (.ix (.var 3) (.var 4))))) "bool"))) (.one (.not (.tru (.of (.isi (.of (.at (.of (.ix (.var 3) (.var 4))))) "int")))))))
 (.cons (.ret (.bl false))
 B.nil)
 B.nil)
 B.nil))))
 (.cons (.set 5 (.mk "DrawError" (.cons (.var 2) A.nil)))
 (.cons (.ife (.or (.more (.cmp .ne (.of (.at (.var 5))) (.var 2)) (.more (.cmp .inn (.of (.bl true)) (.of (.call "_law_kinds" (.cons (.var 5) A.nil)))) (.one (.not (.tru (.of (.isi (.var 5) "ValueError"))))))))
 (.cons (.ret (.bl false))
 B.nil)
 B.nil)
 (.cons (.pre 1 (.set 6 (.ix (.of (.lst (.cons (.neg (.of (.int 1))) (.cons (.int 3) (.cons (.int 99) (.cons (.neg (.of (.int 30))) A.nil)))))) (.of (.call "_law_mix" (.cons (.var 1) (.cons (.int 1) (.cons (.int 4) A.nil))))))))
 (.cons (.set 7 (.call "_law_raised" (.cons (.var 6) A.nil)))
 (.cons (.ret (.and (.more (.cmp .isn (.var 7) (.of E.non)) (.more (.cmp .eq (.of (.at (.var 7))) (.var 6)) (.one (.cmp .eq (.of (.call "_law_kinds" (.cons (.var 7) A.nil))) (.of (.comp (.rng1 (.cons (.of (.blt .len (.cons (.var 3) Rl.nil))) Rl.nil)) [(("t" : Str), 8)] (.nm 8) C.none (.cmp .eq (.var 8) (.of (.int 4)))))))))))
 B.nil)))))))))
def f_law : Fd := ⟨[("script" : Str)], [("script" : Str), ("draws" : Str), ("number" : Str), ("made" : Str), ("k" : Str), ("base" : Str), ("many" : Str), ("told" : Str), ("t" : Str)], top 38, t_law⟩
def table : List (Str × Fd) := [(("quarter" : Str), f_quarter), (("_law_draws" : Str), f__law_draws), (("_law_mix" : Str), f__law_mix), (("_law_kinds" : Str), f__law_kinds), (("_law_made" : Str), f__law_made), (("_law_raised" : Str), f__law_raised), (("law" : Str), f_law)]
def globs : List (Str × PD) := [(("SIZE" : Str), ((.int 12) : PD))]
def blts : List Str := [("tuple" : Str), ("range" : Str), ("min" : Str), ("len" : Str), ("int" : Str), ("abs" : Str), ("isinstance" : Str)]
def excs : List Str := [("BadAxis" : Str), ("DrawError" : Str), ("OutOfRange" : Str), ("TooMany" : Str), ("BadFraction" : Str), ("BadMove" : Str), ("NoWay" : Str), ("BadShape" : Str), ("BadPlane" : Str), ("BadCorner" : Str), ("BadWindow" : Str), ("BadTriangle" : Str), ("BadDot" : Str), ("NoArea" : Str), ("BadRule" : Str), ("BadBlend" : Str), ("BadColour" : Str), ("BadCommand" : Str), ("BadLine" : Str), ("BadTile" : Str), ("BadWay" : Str), ("BadOrder" : Str), ("BadEdit" : Str), ("BadTexture" : Str), ("BadLevel" : Str), ("BadPlace" : Str), ("BadPacking" : Str), ("BadBlock" : Str)]
def pairs : List ((Str × Str) × Bool) := [((("BadAxis" : Str), ("DrawError" : Str)), true)]
def tx : Tx := ⟨table, globs, blts, excs, pairs, true, "DrawError", [("BadAxis" : Str), ("OutOfRange" : Str), ("TooMany" : Str), ("BadFraction" : Str), ("BadMove" : Str), ("NoWay" : Str), ("BadShape" : Str), ("BadPlane" : Str), ("BadCorner" : Str), ("BadWindow" : Str), ("BadTriangle" : Str), ("BadDot" : Str), ("NoArea" : Str), ("BadRule" : Str), ("BadBlend" : Str), ("BadColour" : Str), ("BadCommand" : Str), ("BadLine" : Str), ("BadTile" : Str), ("BadWay" : Str), ("BadOrder" : Str), ("BadEdit" : Str), ("BadTexture" : Str), ("BadLevel" : Str), ("BadPlace" : Str), ("BadPacking" : Str), ("BadBlock" : Str)], [(("bool" : Str), false), (("int" : Str), true)], [(("bool" : Str), true), (("int" : Str), true)]⟩
def G : Prg := tx.prg
abbrev lvl : Nat := 30
theorem call_quarter (k : Nat) (qs : List PD) : callF G (k + 1) "quarter" qs = endR (evB (tabF G (callF G k)) t_quarter (startE 4 qs)) := rfl
theorem fns_quarter (cf : Str → Fn) : (tabF G cf).fns "quarter" = some (1, cf "quarter") := rfl
theorem call__law_draws (k : Nat) (qs : List PD) : callF G (k + 1) "_law_draws" qs = endR (evB (tabF G (callF G k)) t__law_draws (startE 6 qs)) := rfl
theorem fns__law_draws (cf : Str → Fn) : (tabF G cf).fns "_law_draws" = some (1, cf "_law_draws") := rfl
theorem call__law_mix (k : Nat) (qs : List PD) : callF G (k + 1) "_law_mix" qs = endR (evB (tabF G (callF G k)) t__law_mix (startE 4 qs)) := rfl
theorem fns__law_mix (cf : Str → Fn) : (tabF G cf).fns "_law_mix" = some (3, cf "_law_mix") := rfl
theorem call__law_kinds (k : Nat) (qs : List PD) : callF G (k + 1) "_law_kinds" qs = endR (evB (tabF G (callF G k)) t__law_kinds (startE 1 qs)) := rfl
theorem fns__law_kinds (cf : Str → Fn) : (tabF G cf).fns "_law_kinds" = some (1, cf "_law_kinds") := rfl
theorem call__law_made (k : Nat) (qs : List PD) : callF G (k + 1) "_law_made" qs = endR (evB (tabF G (callF G k)) t__law_made (startE 1 qs)) := rfl
theorem fns__law_made (cf : Str → Fn) : (tabF G cf).fns "_law_made" = some (1, cf "_law_made") := rfl
theorem call__law_raised (k : Nat) (qs : List PD) : callF G (k + 1) "_law_raised" qs = endR (evB (tabF G (callF G k)) t__law_raised (startE 2 qs)) := rfl
theorem fns__law_raised (cf : Str → Fn) : (tabF G cf).fns "_law_raised" = some (1, cf "_law_raised") := rfl
theorem call_law (k : Nat) (qs : List PD) : callF G (k + 1) "law" qs = endR (evB (tabF G (callF G k)) t_law (startE 9 qs)) := rfl
theorem fns_law (cf : Str → Fn) : (tabF G cf).fns "law" = some (1, cf "law") := rfl
theorem gl_SIZE (cf : Str → Fn) : (tabF G cf).gl "SIZE" = some ((.int 12) : PD) := rfl
theorem bd : AllBd table := by
  refine ⟨fun _ _ _ _ _ _ us hl => match us, hl with | [_], _ => rfl, ?_⟩
  refine ⟨fun _ _ _ _ _ _ us hl => match us, hl with | [_], _ => rfl, ?_⟩
  refine ⟨fun _ _ _ _ _ _ us hl => match us, hl with | [_, _, _], _ => rfl, ?_⟩
  refine ⟨fun _ _ _ _ _ _ us hl => match us, hl with | [_], _ => rfl, ?_⟩
  refine ⟨fun _ _ _ _ _ _ us hl => match us, hl with | [_], _ => rfl, ?_⟩
  refine ⟨fun _ _ _ _ _ _ us hl => match us, hl with | [_], _ => rfl, ?_⟩
  refine ⟨fun _ _ _ _ _ _ us hl => match us, hl with | [_], _ => rfl, ?_⟩
  trivial
theorem ck : (tx.fs.all fun p => chkFd tx.prg p.2) = true := by decide +kernel
end K00
set_option linter.all false
set_option maxRecDepth 100000
set_option maxHeartbeats 2000000
namespace K00
open PySem FL
theorem fd_ediv {a b : Int} (h : 0 ≤ b) : a.fdiv b = a / b := Int.fdiv_eq_ediv_of_nonneg a h
abbrev inD (ds : List Int) : PD := .list (ds.map PyData.int)
structure Dr (ds : List Int) : Prop where
  lo : ∀ x ∈ ds, 0 ≤ x
  hi : ∀ x ∈ ds, x < 65536
  len : ds.length ≤ 4000
theorem atI_of {α : Type} {xs : List α} {j : Int} (h0 : 0 ≤ j) (h1 : j < xs.length) : ∃ x, L2.atI xs j = some x ∧ x ∈ xs := by
  unfold L2.atI L2.ixN
  rw [if_pos h0, if_pos h1]
  have h : j.toNat < xs.length := by omega
  exact ⟨xs[j.toNat], List.getElem?_eq_getElem h, List.getElem_mem h⟩
theorem fmod_bd {a b : Int} (h : 0 < b) : 0 ≤ a.fmod b ∧ a.fmod b < b := by
  rw [Int.fmod_eq_emod_of_nonneg a (by omega)]
  exact ⟨Int.emod_nonneg a (by omega), Int.emod_lt_of_pos a h⟩
theorem len_ints (ds : List Int) : (ds.map PyData.int).length = ds.length := List.length_map _
theorem mix_gen (k : Nat) (ps : List PD) (h : ∀ p ∈ ps, ∃ y : Int, p = .int y ∧ 0 ≤ y ∧ y < 65536) (i many : Int) (hi : 0 ≤ i) (hi2 : i ≤ 1000000) (hm : 0 < many) : ∃ r, 0 ≤ r ∧ r < many ∧ callF G (k + 1) "_law_mix" [.list ps, .int i, .int many] = .ok (.sh (.int r)) := by
  rw [call__law_mix]
  have m0 : (many = 0) = False := by simp; omega
  have fi : fits i = true := fits_small (by omega) (by omega)
  generalize hLL : ((ps.length : Nat) : Int) = L
  have hL0 : 0 ≤ L := by omega
  by_cases hL : 0 < L
  · have b0 := fmod_bd (a := i) hL
    obtain ⟨cell, hc, hcm⟩ := atI_of (xs := ps) (j := i.fmod L) b0.1 (by rw [hLL]; exact b0.2)
    obtain ⟨y, rfl, y1, y2⟩ := h cell hcm
    have c0 : decide (0 < L) = true := decide_eq_true hL
    have cL : (L = 0) = False := by simp; omega
    have fy : fits y = true := fits_small (by omega) (by omega)
    by_cases hil : i < L
    · have c1 : decide (i < L) = true := decide_eq_true hil
      have b := fmod_bd (a := y) hm
      refine ⟨_, b.1, b.2, ?_⟩
      simp only [t__law_mix, r1_3, r1_4, r1_5, Bool.not_true, Bool.not_false, cut03, cut63, cut64, cYes, nc0, nc1, nc2, nc3, nc4, nc5, nc6, beq_self_eq_true, eComp, compL, noOwn, wipeE, bindT, bindTs, seqI, seqP, callI, zipI, zipP, eqO, neO, eqS, eqI, Bool.and_true, Bool.true_and, Bool.and_self, Bool.false_and, Bool.and_false, evB, evS, evE, evEA, evEO, evR, evT, evTA, evTO, evA, evRl, evO, evP, evI, evC, sSeq, sIf, sRet, sRetV, sRetN, sSet, sAsg, sPar, sExpr, sNext, eBinR, eChain, eC, eVar, rVar, rPd, eAnd, eOr, eNot, eIf, eNeg, eTup, eLst, eSlice, eCall, eFun, tBool, tTru, tNotF, tAndF, tOrF, aNil, aCons, aStar, sNil, sCons, oNone, oSome, startE, endR, Res.bind_ok, Res.bind_exc, Res.bind_stuck, bindS_ok, bindS_exc, bindS_stuck, pd_sh, pd_ow, ix_tup, ix_lst, at0, at1, at2, at3, at4, at5, Bop.fn, Cop.fn, Bl.fn, List.map_cons, List.map_nil, List.length_cons, List.length_nil, List.replicate_succ, List.replicate_zero, List.getElem?_cons_zero, List.getElem?_cons_succ, List.cons_append, List.nil_append, List.append_nil, List.set_cons_zero, List.set_cons_succ, iteT', iteF', Nat.reduceAdd, Nat.reduceSub, Nat.reduceLeDiff, Nat.reduceEqDiff, if_true, if_false, reduceIte, decide_true, decide_false, lenL, gtI, ltI, hLL, c0, c1, mdn, intI, m0, cL, ne_eq, not_false_eq_true, hc]
    · have c1 : decide (i < L) = false := decide_eq_false hil
      have b := fmod_bd (a := (y * 7919 + i * 104729).fdiv 3) hm
      refine ⟨_, b.1, b.2, ?_⟩
      simp only [t__law_mix, r1_3, r1_4, r1_5, Bool.not_true, Bool.not_false, cut03, cut63, cut64, cYes, nc0, nc1, nc2, nc3, nc4, nc5, nc6, beq_self_eq_true, eComp, compL, noOwn, wipeE, bindT, bindTs, seqI, seqP, callI, zipI, zipP, eqO, neO, eqS, eqI, Bool.and_true, Bool.true_and, Bool.and_self, Bool.false_and, Bool.and_false, evB, evS, evE, evEA, evEO, evR, evT, evTA, evTO, evA, evRl, evO, evP, evI, evC, sSeq, sIf, sRet, sRetV, sRetN, sSet, sAsg, sPar, sExpr, sNext, eBinR, eChain, eC, eVar, rVar, rPd, eAnd, eOr, eNot, eIf, eNeg, eTup, eLst, eSlice, eCall, eFun, tBool, tTru, tNotF, tAndF, tOrF, aNil, aCons, aStar, sNil, sCons, oNone, oSome, startE, endR, Res.bind_ok, Res.bind_exc, Res.bind_stuck, bindS_ok, bindS_exc, bindS_stuck, pd_sh, pd_ow, ix_tup, ix_lst, at0, at1, at2, at3, at4, at5, Bop.fn, Cop.fn, Bl.fn, List.map_cons, List.map_nil, List.length_cons, List.length_nil, List.replicate_succ, List.replicate_zero, List.getElem?_cons_zero, List.getElem?_cons_succ, List.cons_append, List.nil_append, List.append_nil, List.set_cons_zero, List.set_cons_succ, iteT', iteF', Nat.reduceAdd, Nat.reduceSub, Nat.reduceLeDiff, Nat.reduceEqDiff, if_true, if_false, reduceIte, decide_true, decide_false, lenL, gtI, ltI, hLL, c0, c1, mulI, addI, fd3, mdn, intI, m0, cL, ne_eq, not_false_eq_true, hc, fi, fy, show fits 7919 = true by decide, show fits 104729 = true by decide]
  · have c0 : decide (0 < L) = false := decide_eq_false hL
    have c1 : decide (i < L) = false := decide_eq_false (by omega)
    have b := fmod_bd (a := (0 * 7919 + i * 104729).fdiv 3) hm
    refine ⟨_, b.1, b.2, ?_⟩
    simp only [t__law_mix, r1_3, r1_4, r1_5, Bool.not_true, Bool.not_false, cut03, cut63, cut64, cYes, nc0, nc1, nc2, nc3, nc4, nc5, nc6, beq_self_eq_true, eComp, compL, noOwn, wipeE, bindT, bindTs, seqI, seqP, callI, zipI, zipP, eqO, neO, eqS, eqI, Bool.and_true, Bool.true_and, Bool.and_self, Bool.false_and, Bool.and_false, evB, evS, evE, evEA, evEO, evR, evT, evTA, evTO, evA, evRl, evO, evP, evI, evC, sSeq, sIf, sRet, sRetV, sRetN, sSet, sAsg, sPar, sExpr, sNext, eBinR, eChain, eC, eVar, rVar, rPd, eAnd, eOr, eNot, eIf, eNeg, eTup, eLst, eSlice, eCall, eFun, tBool, tTru, tNotF, tAndF, tOrF, aNil, aCons, aStar, sNil, sCons, oNone, oSome, startE, endR, Res.bind_ok, Res.bind_exc, Res.bind_stuck, bindS_ok, bindS_exc, bindS_stuck, pd_sh, pd_ow, ix_tup, ix_lst, at0, at1, at2, at3, at4, at5, Bop.fn, Cop.fn, Bl.fn, List.map_cons, List.map_nil, List.length_cons, List.length_nil, List.replicate_succ, List.replicate_zero, List.getElem?_cons_zero, List.getElem?_cons_succ, List.cons_append, List.nil_append, List.append_nil, List.set_cons_zero, List.set_cons_succ, iteT', iteF', Nat.reduceAdd, Nat.reduceSub, Nat.reduceLeDiff, Nat.reduceEqDiff, if_true, if_false, reduceIte, decide_true, decide_false, lenL, gtI, ltI, hLL, c0, c1, mulI, addI, fd3, mdn, intI, m0, ne_eq, not_false_eq_true, fi, show fits 0 = true by decide, show fits 7919 = true by decide, show fits 104729 = true by decide]
theorem mix_ok (k : Nat) (ds : List Int) (hd : Dr ds) (i many : Int) (hi : 0 ≤ i) (hi2 : i ≤ 1000000) (hm : 0 < many) : ∃ r, 0 ≤ r ∧ r < many ∧ callF G (k + 1) "_law_mix" [inD ds, .int i, .int many] = .ok (.sh (.int r)) :=
  mix_gen k _ (fun p hp => by
    obtain ⟨y, hy, rfl⟩ := List.mem_map.mp hp
    exact ⟨y, rfl, hd.lo y hy, hd.hi y hy⟩) i many hi hi2 hm

/-! ### draws -/
def d_in : S := .for_ (.rng1 (.cons (.of (.int 60)) Rl.nil)) (.nm 4)
 (.cons (.ife (.cmp .gt (.var 3) (.of (.int 0)))
 (.cons (.app 1 (.bin .mod (.of (.blt .int (.cons (.var 3) Rl.nil))) (.of (.int 65536))))
 (.cons (.set 3 (.bin .fdiv (.var 3) (.of (.int 65536))))
 B.nil))
 B.nil)
 B.nil)
theorem app_ints (ds : List Int) (y : Int) : ds.map PyData.int ++ [PyData.int y] = (ds ++ [y]).map PyData.int := by simp
structure Rng (ds : List Int) (n : Nat) : Prop where
  lo : ∀ x ∈ ds, 0 ≤ x
  hi : ∀ x ∈ ds, x < 65536
  len : ds.length ≤ n
theorem Rng.add {ds : List Int} {n : Nat} (h : Rng ds n) {y : Int} (h1 : 0 ≤ y) (h2 : y < 65536) : Rng (ds ++ [y]) (n + 1) :=
  ⟨fun x hx => (List.mem_append.mp hx).elim (h.lo x) fun z => by rw [List.mem_singleton.mp z]; exact h1, fun x hx => (List.mem_append.mp hx).elim (h.hi x) fun z => by rw [List.mem_singleton.mp z]; exact h2, by
    rw [List.length_append]
    have := h.len
    show ds.length + 1 ≤ n + 1
    omega⟩
theorem Rng.up {ds : List Int} {n m : Nat} (h : Rng ds n) (l : n ≤ m) : Rng ds m := ⟨h.lo, h.hi, Nat.le_trans h.len l⟩
def d_body : B := .cons (.ife (.cmp .gt (.var 3) (.of (.int 0)))
 (.cons (.app 1 (.bin .mod (.of (.blt .int (.cons (.var 3) Rl.nil))) (.of (.int 65536))))
 (.cons (.set 3 (.bin .fdiv (.var 3) (.of (.int 65536))))
 B.nil))
 B.nil)
 B.nil
theorem d_body_ok (D : Tab) (a b c e : Option Sl) (ds : List Int) (n : Nat) (hn : n ≤ 5000) (hd : Rng ds n) (r : Int) (h0 : 0 ≤ r) : ∃ ds' r', evB D d_body [a, some (.ow (inD ds)), b, some (.sh (.int r)), c, e] = .nx [a, some (.ow (inD ds')), b, some (.sh (.int r')), c, e] ∧ Rng ds' (n + 1) ∧ 0 ≤ r' := by
  by_cases h : 0 < r
  · have c0 : decide (0 < r) = true := decide_eq_true h
    have b1 := fmod_bd (a := r) (b := 65536) (by decide)
    refine ⟨ds ++ [r.fmod 65536], r.fdiv 65536, ?_, hd.add b1.1 b1.2, by rw [fd_ediv (by decide)]; omega⟩
    have hl : ((ds.map PyData.int).length < 16777216) = True := by
      rw [len_ints]
      have := hd.len
      simp
      omega
    simp only [d_body, r1_3, r1_4, r1_5, Bool.not_true, Bool.not_false, cut03, cut63, cut64, cYes, nc0, nc1, nc2, nc3, nc4, nc5, nc6, beq_self_eq_true, eComp, compL, noOwn, wipeE, bindT, bindTs, seqI, seqP, callI, zipI, zipP, eqO, neO, eqS, eqI, Bool.and_true, Bool.true_and, Bool.and_self, Bool.false_and, Bool.and_false, evB, evS, evE, evEA, evEO, evR, evT, evTA, evTO, evA, evRl, evO, evP, evI, evC, sSeq, sIf, sRet, sRetV, sRetN, sSet, sAsg, sPar, sExpr, sNext, eBinR, eChain, eC, eVar, rVar, rPd, eAnd, eOr, eNot, eIf, eNeg, eTup, eLst, eSlice, eCall, eFun, tBool, tTru, tNotF, tAndF, tOrF, aNil, aCons, aStar, sNil, sCons, oNone, oSome, startE, endR, Res.bind_ok, Res.bind_exc, Res.bind_stuck, bindS_ok, bindS_exc, bindS_stuck, pd_sh, pd_ow, ix_tup, ix_lst, at0, at1, at2, at3, at4, at5, Bop.fn, Cop.fn, Bl.fn, List.map_cons, List.map_nil, List.length_cons, List.length_nil, List.replicate_succ, List.replicate_zero, List.getElem?_cons_zero, List.getElem?_cons_succ, List.cons_append, List.nil_append, List.append_nil, List.set_cons_zero, List.set_cons_succ, iteT', iteF', Nat.reduceAdd, Nat.reduceSub, Nat.reduceLeDiff, Nat.reduceEqDiff, if_true, if_false, reduceIte, decide_true, decide_false, gtI, c0, intI, mdn, show ((65536 : Int) = 0) = False by simp, ne_eq, not_false_eq_true, fd65536, sApp, hl, app_ints]
  · have c0 : decide (0 < r) = false := decide_eq_false h
    exact ⟨ds, r, by simp only [d_body, r1_3, r1_4, r1_5, Bool.not_true, Bool.not_false, cut03, cut63, cut64, cYes, nc0, nc1, nc2, nc3, nc4, nc5, nc6, beq_self_eq_true, eComp, compL, noOwn, wipeE, bindT, bindTs, seqI, seqP, callI, zipI, zipP, eqO, neO, eqS, eqI, Bool.and_true, Bool.true_and, Bool.and_self, Bool.false_and, Bool.and_false, evB, evS, evE, evEA, evEO, evR, evT, evTA, evTO, evA, evRl, evO, evP, evI, evC, sSeq, sIf, sRet, sRetV, sRetN, sSet, sAsg, sPar, sExpr, sNext, eBinR, eChain, eC, eVar, rVar, rPd, eAnd, eOr, eNot, eIf, eNeg, eTup, eLst, eSlice, eCall, eFun, tBool, tTru, tNotF, tAndF, tOrF, aNil, aCons, aStar, sNil, sCons, oNone, oSome, startE, endR, Res.bind_ok, Res.bind_exc, Res.bind_stuck, bindS_ok, bindS_exc, bindS_stuck, pd_sh, pd_ow, ix_tup, ix_lst, at0, at1, at2, at3, at4, at5, Bop.fn, Cop.fn, Bl.fn, List.map_cons, List.map_nil, List.length_cons, List.length_nil, List.replicate_succ, List.replicate_zero, List.getElem?_cons_zero, List.getElem?_cons_succ, List.cons_append, List.nil_append, List.append_nil, List.set_cons_zero, List.set_cons_succ, iteT', iteF', Nat.reduceAdd, Nat.reduceSub, Nat.reduceLeDiff, Nat.reduceEqDiff, if_true, if_false, reduceIte, decide_true, decide_false, gtI, c0], hd.up (by omega), h0⟩
theorem d_in_ok (D : Tab) (a b c e : Option Sl) (ds : List Int) (n : Nat) (hn : n ≤ 4000) (hd : Rng ds n) (r : Int) (h0 : 0 ≤ r) : ∃ ds' r' c', evS D d_in [a, some (.ow (inD ds)), b, some (.sh (.int r)), c, e] = .nx [a, some (.ow (inD ds')), b, some (.sh (.int r')), c', e] ∧ Rng ds' (n + 60) := by
  have hlen : (rngP 0 60).length = 60 := rfl
  obtain ⟨ρ', h1, ds', r', c', h2, h3, _⟩ := forL_inv (t := .nm 4) (f := evB D d_body) 60 (fun j ρ => ∃ ds' r' c', ρ = [a, some (.ow (inD ds')), b, some (.sh (.int r')), c', e] ∧ Rng ds' (n + j) ∧ 0 ≤ r') (fun _ => True) (fun j p ρ hj _ hI => by
    obtain ⟨ds', r', c', rfl, q1, q2⟩ := hI
    obtain ⟨ds2, r2, e1, e2, e3⟩ := d_body_ok D a b (some (.sh p)) e ds' (n + j) (by omega) q1 r' q2
    exact ⟨_, _, rfl, e1, ds2, r2, _, rfl, e2, e3⟩) (rngP 0 60) (fun _ _ => trivial) 0 _ (by rw [hlen]; omega) ⟨ds, r, c, rfl, hd, h0⟩
  rw [hlen] at h3
  refine ⟨ds', r', c', ?_, h3⟩
  rw [← h2, ← h1]
  rfl
/-- one turn of the outer loop -/
def d_out : B := .cons (.set 3 (.blt .abs (.cons (.of (.ix (.var 0) (.var 2))) Rl.nil)))
 (.cons (.ife (.cmp .ge (.var 3) (.of (.bin .pow (.of (.int 10)) (.of (.int 18)))))
 (.cons d_in
 B.nil)
 (.cons (.set 5 (.bin .mod (.of (.blt .int (.cons (.of (.bin .add (.of (.bin .mul (.var 3) (.of (.int 48271)))) (.of (.bin .mul (.of (.bin .add (.var 2) (.of (.int 1)))) (.of (.int 69621)))))) Rl.nil))) (.of (.int 2147483647))))
 (.cons (.set 5 (.bin .mod (.of (.blt .int (.cons (.of (.bin .add (.of (.bin .add (.of (.bin .mul (.var 5) (.of (.int 16807)))) (.of (.bin .mul (.of (.int 11)) (.var 2))))) (.of (.int 5)))) Rl.nil))) (.of (.int 2147483629))))
 (.cons (.app 1 (.bin .mod (.of (.blt .int (.cons (.var 5) Rl.nil))) (.of (.int 65536))))
 (.cons (.app 1 (.bin .mod (.of (.blt .int (.cons (.of (.bin .fdiv (.var 5) (.of (.int 65536)))) Rl.nil))) (.of (.int 32768))))
 B.nil)))))
 B.nil)
theorem d_out_ok (D : Tab) (ns : List Int) (i : Int) (h0 : 0 ≤ i) (hi : i < ns.length) (hi2 : i ≤ 63) (b c e : Option Sl) (ds : List Int) (n : Nat) (hn : n ≤ 4000) (hd : Rng ds n) :
    ∃ ds' b' c' e', evB D d_out [some (.sh (scrD ns)), some (.ow (inD ds)), some (.sh (.int i)), b, c, e] = .nx [some (.sh (scrD ns)), some (.ow (inD ds')), some (.sh (.int i)), b', c', e'] ∧ Rng ds' (n + 60) := by
  obtain ⟨x, hx, hm⟩ := atI_of (xs := ns.map PyData.int) h0 (by rw [len_ints]; exact hi)
  obtain ⟨y, _, rfl⟩ := List.mem_map.mp hm
  have e1 : evS D (.set 3 (.blt .abs (.cons (.of (.ix (.var 0) (.var 2))) Rl.nil))) [some (.sh (scrD ns)), some (.ow (inD ds)), some (.sh (.int i)), b, c, e] = .nx [some (.sh (scrD ns)), some (.ow (inD ds)), some (.sh (.int i)), some (.sh (.int (y.natAbs : Int))), c, e] := by
    simp only [r1_3, r1_4, r1_5, Bool.not_true, Bool.not_false, cut03, cut63, cut64, cYes, nc0, nc1, nc2, nc3, nc4, nc5, nc6, beq_self_eq_true, eComp, compL, noOwn, wipeE, bindT, bindTs, seqI, seqP, callI, zipI, zipP, eqO, neO, eqS, eqI, Bool.and_true, Bool.true_and, Bool.and_self, Bool.false_and, Bool.and_false, evB, evS, evE, evEA, evEO, evR, evT, evTA, evTO, evA, evRl, evO, evP, evI, evC, sSeq, sIf, sRet, sRetV, sRetN, sSet, sAsg, sPar, sExpr, sNext, eBinR, eChain, eC, eVar, rVar, rPd, eAnd, eOr, eNot, eIf, eNeg, eTup, eLst, eSlice, eCall, eFun, tBool, tTru, tNotF, tAndF, tOrF, aNil, aCons, aStar, sNil, sCons, oNone, oSome, startE, endR, Res.bind_ok, Res.bind_exc, Res.bind_stuck, bindS_ok, bindS_exc, bindS_stuck, pd_sh, pd_ow, ix_tup, ix_lst, at0, at1, at2, at3, at4, at5, Bop.fn, Cop.fn, Bl.fn, List.map_cons, List.map_nil, List.length_cons, List.length_nil, List.replicate_succ, List.replicate_zero, List.getElem?_cons_zero, List.getElem?_cons_succ, List.cons_append, List.nil_append, List.append_nil, List.set_cons_zero, List.set_cons_succ, iteT', iteF', Nat.reduceAdd, Nat.reduceSub, Nat.reduceLeDiff, Nat.reduceEqDiff, if_true, if_false, reduceIte, decide_true, decide_false, ix_scr, hx, absI]
  rw [d_out, evB_nx e1]
  by_cases hb : (1000000000000000000 : Int) ≤ (y.natAbs : Int)
  · obtain ⟨ds', r', c', q1, q2⟩ := d_in_ok D (some (.sh (scrD ns))) (some (.sh (.int i))) c e ds n hn hd (y.natAbs : Int) (by omega)
    have hd1 : decide ((1000000000000000000 : Int) ≤ (y.natAbs : Int)) = true := decide_eq_true hb
    refine ⟨ds', some (.sh (.int r')), c', e, ?_, q2⟩
    refine evB_nx (D := D) (b := B.nil) (ρ' := [some (.sh (scrD ns)), some (.ow (inD ds')), some (.sh (.int i)), some (.sh (.int r')), c', e]) ?_
    rw [evS_if]
    simp only [evT, evR, evE, tBool, eBinR, rVar, rPd, eC, Cop.fn, Bop.fn, List.getElem?_cons_zero, List.getElem?_cons_succ, Res.bind_ok, bindS_ok, pd_sh, pw18, geI, hd1, if_true]
    exact evB_nx q1
  · have hd1 : decide ((1000000000000000000 : Int) ≤ (y.natAbs : Int)) = false := decide_eq_false hb
    have b1 := fmod_bd (a := (y.natAbs : Int) * 48271 + (i + 1) * 69621) (b := 2147483647) (by decide)
    generalize hs1 : ((y.natAbs : Int) * 48271 + (i + 1) * 69621).fmod 2147483647 = s1 at b1
    have b2 := fmod_bd (a := s1 * 16807 + 11 * i + 5) (b := 2147483629) (by decide)
    generalize hs2 : (s1 * 16807 + 11 * i + 5).fmod 2147483629 = s2 at b2
    have b3 := fmod_bd (a := s2) (b := 65536) (by decide)
    have b4 := fmod_bd (a := s2.fdiv 65536) (b := 32768) (by decide)
    have hl : ((ds.map PyData.int).length < 16777216) = True := by
      rw [len_ints]
      have := hd.len
      simp
      omega
    have hl2 : (((ds ++ [s2.fmod 65536]).map PyData.int).length < 16777216) = True := by
      rw [len_ints, List.length_append]
      have := hd.len
      simp
      omega
    refine ⟨ds ++ [s2.fmod 65536] ++ [(s2.fdiv 65536).fmod 32768], some (.sh (.int (y.natAbs : Int))), c, some (.sh (.int s2)), ?_, ((hd.add b3.1 b3.2).add b4.1 (by omega)).up (by omega)⟩
    simp only [r1_3, r1_4, r1_5, Bool.not_true, Bool.not_false, cut03, cut63, cut64, cYes, nc0, nc1, nc2, nc3, nc4, nc5, nc6, beq_self_eq_true, eComp, compL, noOwn, wipeE, bindT, bindTs, seqI, seqP, callI, zipI, zipP, eqO, neO, eqS, eqI, Bool.and_true, Bool.true_and, Bool.and_self, Bool.false_and, Bool.and_false, evB, evS, evE, evEA, evEO, evR, evT, evTA, evTO, evA, evRl, evO, evP, evI, evC, sSeq, sIf, sRet, sRetV, sRetN, sSet, sAsg, sPar, sExpr, sNext, eBinR, eChain, eC, eVar, rVar, rPd, eAnd, eOr, eNot, eIf, eNeg, eTup, eLst, eSlice, eCall, eFun, tBool, tTru, tNotF, tAndF, tOrF, aNil, aCons, aStar, sNil, sCons, oNone, oSome, startE, endR, Res.bind_ok, Res.bind_exc, Res.bind_stuck, bindS_ok, bindS_exc, bindS_stuck, pd_sh, pd_ow, ix_tup, ix_lst, at0, at1, at2, at3, at4, at5, Bop.fn, Cop.fn, Bl.fn, List.map_cons, List.map_nil, List.length_cons, List.length_nil, List.replicate_succ, List.replicate_zero, List.getElem?_cons_zero, List.getElem?_cons_succ, List.cons_append, List.nil_append, List.append_nil, List.set_cons_zero, List.set_cons_succ, iteT', iteF', Nat.reduceAdd, Nat.reduceSub, Nat.reduceLeDiff, Nat.reduceEqDiff, if_true, if_false, reduceIte, decide_true, decide_false, pw18, geI, hd1, mulI, addI, intI, mdn, hs1, hs2, fd65536, sApp, hl, hl2, app_ints, show ((2147483647 : Int) = 0) = False by simp, show ((2147483629 : Int) = 0) = False by simp, show ((65536 : Int) = 0) = False by simp, show ((32768 : Int) = 0) = False by simp, ne_eq, not_false_eq_true,
      show fits (y.natAbs : Int) = true from fits_small (by omega) (by omega), show fits 48271 = true by decide, show fits (i + 1) = true from fits_small (by omega) (by omega), show fits 69621 = true by decide, show fits s1 = true from fits_small (by omega) (by omega), show fits 16807 = true by decide, show fits 11 = true by decide, show fits i = true from fits_small (by omega) (by omega)]
theorem draws_ok (k : Nat) (ns : List Int) (h : ns.length ≤ 63) : ∃ ds, Dr ds ∧ callF G (k + 1) "_law_draws" [scrD ns] = .ok (.ow (inD ds)) := by
  rw [call__law_draws]
  have hl : ((ns.map PyData.int).length : Int) = (ns.length : Int) := by rw [len_ints]
  have hmin : (if (ns.length : Int) < 63 then (ns.length : Int) else 63) = (ns.length : Int) := by split <;> omega
  obtain ⟨ρ', h1, ds, a, b, c, d, rfl, h3⟩ := forL_inv (t := .nm 2) (f := evB (tabF G (callF G k)) d_out) 63 (fun j ρ => ∃ ds a b c d, ρ = [some (.sh (scrD ns)), some (.ow (inD ds)), a, b, c, d] ∧ Rng ds (60 * j)) (fun p => ∃ i : Int, p = .int i ∧ 0 ≤ i ∧ i < ns.length) (fun j p ρ hj hp hI => by
    obtain ⟨i, rfl, i0, i1⟩ := hp
    obtain ⟨ds, a, b, c, d, rfl, q⟩ := hI
    obtain ⟨ds', b', c', e', e1, e2⟩ := d_out_ok (tabF G (callF G k)) ns i i0 i1 (by omega) b c d ds (60 * j) (by omega) q
    exact ⟨_, _, rfl, e1, ds', _, _, _, _, rfl, e2.up (by omega)⟩) (rngP 0 ns.length) (fun p hp => rngP_mem hp) 0 [some (.sh (scrD ns)), some (.ow (inD [])), none, none, none, none] (by rw [rngP_len]; omega) ⟨[], _, _, _, _, rfl, ⟨by simp, by simp, by simp⟩⟩
  refine ⟨ds, ⟨h3.lo, h3.hi, Nat.le_trans h3.len (by rw [rngP_len]; omega)⟩, ?_⟩
  have e0 : evS (tabF G (callF G k)) (.set 1 (.lst A.nil)) (startE 6 [scrD ns]) = .nx [some (.sh (scrD ns)), some (.ow (inD [])), none, none, none, none] := rfl
  show endR (evB (tabF G (callF G k)) (.cons (.set 1 (.lst A.nil)) (.cons (.for_ (.rng1 (.cons (.of (.blt .min (.cons (.of (.int 63)) (.cons (.of (.blt .len (.cons (.var 0) Rl.nil))) Rl.nil)))) Rl.nil)) (.nm 2) d_out) (.cons (.retV 1) B.nil))) (startE 6 [scrD ns])) = _
  rw [evB_nx e0]
  have e1 : evS (tabF G (callF G k)) (.for_ (.rng1 (.cons (.of (.blt .min (.cons (.of (.int 63)) (.cons (.of (.blt .len (.cons (.var 0) Rl.nil))) Rl.nil)))) Rl.nil)) (.nm 2) d_out) [some (.sh (scrD ns)), some (.ow (inD [])), none, none, none, none] = .nx [some (.sh (scrD ns)), some (.ow (inD ds)), a, b, c, d] := by
    rw [evS_for, ← h1]
    simp only [evI, callI, evRl, evR, evE, sCons, sNil, rPd, rVar, eC, eCall, Bl.fn, min2P, List.getElem?_cons_zero, Res.bind_ok, pd_sh, len_scr, hl, hmin]
    rw [rg1 _ (by omega) (by omega)]
    rfl
  rw [evB_nx e1]
  rfl
end K00
set_option linter.all false
set_option maxRecDepth 100000
set_option maxHeartbeats 4000000
namespace K00
open PySem FL

def names : List Str := [("OutOfRange" : Str), ("TooMany" : Str), ("BadFraction" : Str), ("BadMove" : Str), ("BadAxis" : Str), ("NoWay" : Str), ("BadShape" : Str), ("BadPlane" : Str), ("BadCorner" : Str), ("BadWindow" : Str), ("BadTriangle" : Str), ("BadDot" : Str), ("NoArea" : Str), ("BadRule" : Str), ("BadBlend" : Str), ("BadColour" : Str), ("BadCommand" : Str), ("BadLine" : Str), ("BadTile" : Str), ("BadWay" : Str), ("BadOrder" : Str), ("BadEdit" : Str), ("BadTexture" : Str), ("BadLevel" : Str), ("BadPlace" : Str), ("BadPacking" : Str), ("BadBlock" : Str)]
def hot (i : Nat) : List Bool := (List.range 27).map fun t => t == i
abbrev blD (l : List Bool) : PD := .list (l.map .bool)
abbrev dT' (k : Nat) : Tab := tabF G (callF G k)

theorem kinds_0 (k : Nat) (p : PD) : callF G (k + 1) "_law_kinds" [excD "OutOfRange" p] = .ok (.ow (blD (hot 0))) := rfl
theorem kinds_1 (k : Nat) (p : PD) : callF G (k + 1) "_law_kinds" [excD "TooMany" p] = .ok (.ow (blD (hot 1))) := rfl
theorem kinds_2 (k : Nat) (p : PD) : callF G (k + 1) "_law_kinds" [excD "BadFraction" p] = .ok (.ow (blD (hot 2))) := rfl
theorem kinds_3 (k : Nat) (p : PD) : callF G (k + 1) "_law_kinds" [excD "BadMove" p] = .ok (.ow (blD (hot 3))) := rfl
theorem kinds_4 (k : Nat) (p : PD) : callF G (k + 1) "_law_kinds" [excD "BadAxis" p] = .ok (.ow (blD (hot 4))) := rfl
theorem kinds_5 (k : Nat) (p : PD) : callF G (k + 1) "_law_kinds" [excD "NoWay" p] = .ok (.ow (blD (hot 5))) := rfl
theorem kinds_6 (k : Nat) (p : PD) : callF G (k + 1) "_law_kinds" [excD "BadShape" p] = .ok (.ow (blD (hot 6))) := rfl
theorem kinds_7 (k : Nat) (p : PD) : callF G (k + 1) "_law_kinds" [excD "BadPlane" p] = .ok (.ow (blD (hot 7))) := rfl
theorem kinds_8 (k : Nat) (p : PD) : callF G (k + 1) "_law_kinds" [excD "BadCorner" p] = .ok (.ow (blD (hot 8))) := rfl
theorem kinds_9 (k : Nat) (p : PD) : callF G (k + 1) "_law_kinds" [excD "BadWindow" p] = .ok (.ow (blD (hot 9))) := rfl
theorem kinds_10 (k : Nat) (p : PD) : callF G (k + 1) "_law_kinds" [excD "BadTriangle" p] = .ok (.ow (blD (hot 10))) := rfl
theorem kinds_11 (k : Nat) (p : PD) : callF G (k + 1) "_law_kinds" [excD "BadDot" p] = .ok (.ow (blD (hot 11))) := rfl
theorem kinds_12 (k : Nat) (p : PD) : callF G (k + 1) "_law_kinds" [excD "NoArea" p] = .ok (.ow (blD (hot 12))) := rfl
theorem kinds_13 (k : Nat) (p : PD) : callF G (k + 1) "_law_kinds" [excD "BadRule" p] = .ok (.ow (blD (hot 13))) := rfl
theorem kinds_14 (k : Nat) (p : PD) : callF G (k + 1) "_law_kinds" [excD "BadBlend" p] = .ok (.ow (blD (hot 14))) := rfl
theorem kinds_15 (k : Nat) (p : PD) : callF G (k + 1) "_law_kinds" [excD "BadColour" p] = .ok (.ow (blD (hot 15))) := rfl
theorem kinds_16 (k : Nat) (p : PD) : callF G (k + 1) "_law_kinds" [excD "BadCommand" p] = .ok (.ow (blD (hot 16))) := rfl
theorem kinds_17 (k : Nat) (p : PD) : callF G (k + 1) "_law_kinds" [excD "BadLine" p] = .ok (.ow (blD (hot 17))) := rfl
theorem kinds_18 (k : Nat) (p : PD) : callF G (k + 1) "_law_kinds" [excD "BadTile" p] = .ok (.ow (blD (hot 18))) := rfl
theorem kinds_19 (k : Nat) (p : PD) : callF G (k + 1) "_law_kinds" [excD "BadWay" p] = .ok (.ow (blD (hot 19))) := rfl
theorem kinds_20 (k : Nat) (p : PD) : callF G (k + 1) "_law_kinds" [excD "BadOrder" p] = .ok (.ow (blD (hot 20))) := rfl
theorem kinds_21 (k : Nat) (p : PD) : callF G (k + 1) "_law_kinds" [excD "BadEdit" p] = .ok (.ow (blD (hot 21))) := rfl
theorem kinds_22 (k : Nat) (p : PD) : callF G (k + 1) "_law_kinds" [excD "BadTexture" p] = .ok (.ow (blD (hot 22))) := rfl
theorem kinds_23 (k : Nat) (p : PD) : callF G (k + 1) "_law_kinds" [excD "BadLevel" p] = .ok (.ow (blD (hot 23))) := rfl
theorem kinds_24 (k : Nat) (p : PD) : callF G (k + 1) "_law_kinds" [excD "BadPlace" p] = .ok (.ow (blD (hot 24))) := rfl
theorem kinds_25 (k : Nat) (p : PD) : callF G (k + 1) "_law_kinds" [excD "BadPacking" p] = .ok (.ow (blD (hot 25))) := rfl
theorem kinds_26 (k : Nat) (p : PD) : callF G (k + 1) "_law_kinds" [excD "BadBlock" p] = .ok (.ow (blD (hot 26))) := rfl
theorem kinds_base (k : Nat) (p : PD) : callF G (k + 1) "_law_kinds" [excD "DrawError" p] = .ok (.ow (blD (hot 27))) := rfl
def madeL (n : Int) : List PD := [excD "OutOfRange" (.int (n + 0)), excD "TooMany" (.int (n + 1)), excD "BadFraction" (.int (n + 2)), excD "BadMove" (.int (n + 3)), excD "BadAxis" (.int (n + 4)), excD "NoWay" (.int (n + 5)), excD "BadShape" (.int (n + 6)), excD "BadPlane" (.int (n + 7)), excD "BadCorner" (.int (n + 8)), excD "BadWindow" (.int (n + 9)), excD "BadTriangle" (.int (n + 10)), excD "BadDot" (.int (n + 11)), excD "NoArea" (.int (n + 12)), excD "BadRule" (.int (n + 13)), excD "BadBlend" (.int (n + 14)), excD "BadColour" (.int (n + 15)), excD "BadCommand" (.int (n + 16)), excD "BadLine" (.int (n + 17)), excD "BadTile" (.int (n + 18)), excD "BadWay" (.int (n + 19)), excD "BadOrder" (.int (n + 20)), excD "BadEdit" (.int (n + 21)), excD "BadTexture" (.int (n + 22)), excD "BadLevel" (.int (n + 23)), excD "BadPlace" (.int (n + 24)), excD "BadPacking" (.int (n + 25)), excD "BadBlock" (.int (n + 26))]
theorem made_ok (k : Nat) (n : Int) : callF G (k + 1) "_law_made" [.int n] = .ok (.ow (.list (madeL n))) := rfl
end K00
set_option linter.all false
set_option maxRecDepth 100000
set_option maxHeartbeats 4000000
namespace K00
open PySem FL
theorem canB : ∀ l : List Bool, PyData.canLayAll0 (l.map PyData.bool) = true
  | [] => by simp [PyData.canLayAll0]
  | b :: l => by rw [List.map_cons, PyData.canLayAll0, canB l]; simp [PyData.canLay0]
theorem depB : ∀ l : List Bool, PyData.depthAll (l.map PyData.bool) ≤ 2
  | [] => by simp [PyData.depthAll]
  | b :: l => by
    have := depB l
    rw [List.map_cons, PyData.depthAll, PyData.depth]
    omega
theorem shB (l : List Bool) : SeqAt.shaped (blD l) = true := by
  unfold SeqAt.shaped
  rw [PyData.canLay0, canB l, PyData.depth]
  have := depB l
  simp
  omega
theorem eqvB : ∀ l m : List Bool, PyData.eqvAll (l.map PyData.bool) (m.map PyData.bool) = (l == m)
  | [], [] => by simp [PyData.eqvAll]
  | [], _ :: _ => by simp [PyData.eqvAll]
  | _ :: _, [] => by simp [PyData.eqvAll]
  | a :: l, b :: m => by
    rw [List.map_cons, List.map_cons, PyData.eqvAll, PyData.eqv, eqvB l m]
    rfl
theorem eqB (l m : List Bool) : eqP (blD l) (blD m) = some (l == m) := by
  refine (if_pos (by rw [shB, shB]; rfl)).trans ?_
  rw [PyData.eqv, eqvB]
def body : B := 
 (.cons (.ife (.or (.more (.not (.tru (.of (.isi (.of (.ix (.var 3) (.var 4))) "DrawError")))) (.more (.not (.tru (.of (.isi (.of (.ix (.var 3) (.var 4))) "ValueError")))) (.one (.cmp .ne (.of (.at (.of (.ix (.var 3) (.var 4))))) (.of (.bin .add (.var 2) (.var 4))))))))
 (.cons (.ret (.bl false))
 B.nil)
 B.nil)
 (.cons (.ife (.cmp .ne (.of (.call "_law_kinds" (.cons (.ix (.var 3) (.var 4)) A.nil))) (.of (.comp (.rng1 (.cons (.of (.blt .len (.cons (.var 3) Rl.nil))) Rl.nil)) [(("t" : Str), 8)] (.nm 8) C.none (.cmp .eq (.var 8) (.var 4)))))
 (.cons (.ret (.bl false))
 B.nil)
 B.nil)
 (.cons (.ife (.or (.more (.tru (.of (.isi (.of (.at (.of (.ix (.var 3) (.var 4))))) "bool"))) (.one (.not (.tru (.of (.isi (.of (.at (.of (.ix (.var 3) (.var 4))))) "int")))))))
 (.cons (.ret (.bl false))
 B.nil)
 B.nil)
 B.nil)))
def st (u v : Sl) (n : Int) (i : Int) : Ev := [some u, some v, some (.sh (.int n)), some (.ow (.list (madeL n))), some (.sh (.int i)), none, none, none, none]
theorem evB_ife {D : Tab} {t : T} {a b : B} {ρ : Ev} (h : evT D t ρ = .ok false) (hb : evB D b ρ = .nx ρ) : evS D (.ife t a b) ρ = .nx ρ := by
  rw [evS_if, h]
  exact hb
set_option linter.all false
set_option maxRecDepth 100000
set_option maxHeartbeats 4000000
end K00
namespace K00
open PySem FL
def t1 : T := .or (.more (.not (.tru (.of (.isi (.of (.ix (.var 3) (.var 4))) "DrawError")))) (.more (.not (.tru (.of (.isi (.of (.ix (.var 3) (.var 4))) "ValueError")))) (.one (.cmp .ne (.of (.at (.of (.ix (.var 3) (.var 4))))) (.of (.bin .add (.var 2) (.var 4)))))))
def t2 : T := .cmp .ne (.of (.call "_law_kinds" (.cons (.ix (.var 3) (.var 4)) A.nil))) (.of (.comp (.rng1 (.cons (.of (.blt .len (.cons (.var 3) Rl.nil))) Rl.nil)) [(("t" : Str), 8)] (.nm 8) C.none (.cmp .eq (.var 8) (.var 4))))
def t3 : T := .or (.more (.tru (.of (.isi (.of (.at (.of (.ix (.var 3) (.var 4))))) "bool"))) (.one (.not (.tru (.of (.isi (.of (.at (.of (.ix (.var 3) (.var 4))))) "int"))))))
def fin (r : Res Rt) : Res Bool := r.bind fun r => match r.pd with | .bool b => .ok b | _ => .stuck
theorem ne_hot (i : Nat) : fin (neO (blD (hot i)) (blD (hot i))) = .ok false := by
  unfold neO
  rw [eqB]
  simp [fin, Res.bind, Sl.pd]
theorem body_of {D : Tab} {u v : Sl} {n i : Int} {x : Int} {h : Nat} (a : evT D t1 (st u v n i) = .ok (!decide (x = x))) (b : evT D t2 (st u v n i) = fin (neO (blD (hot h)) (blD (hot h)))) (c : evT D t3 (st u v n i) = .ok false) : evB D body (st u v n i) = .nx (st u v n i) := by
  have a : evT D t1 (st u v n i) = .ok false := by rw [a]; simp
  rw [ne_hot] at b
  refine (evB_nx (evB_ife (t := t1) a rfl)).trans ?_
  refine (evB_nx (evB_ife (t := t2) b rfl)).trans ?_
  exact (evB_nx (evB_ife (t := t3) c rfl)).trans rfl

theorem b_0 (k : Nat) (u v : Sl) (n : Int) : evB (dT' (k + 1)) body (st u v n 0) = .nx (st u v n 0) := body_of (x := n + 0) (h := 0) (by kernel_rfl) (by kernel_rfl) (by kernel_rfl)
theorem b_1 (k : Nat) (u v : Sl) (n : Int) : evB (dT' (k + 1)) body (st u v n 1) = .nx (st u v n 1) := body_of (x := n + 1) (h := 1) (by kernel_rfl) (by kernel_rfl) (by kernel_rfl)
theorem b_2 (k : Nat) (u v : Sl) (n : Int) : evB (dT' (k + 1)) body (st u v n 2) = .nx (st u v n 2) := body_of (x := n + 2) (h := 2) (by kernel_rfl) (by kernel_rfl) (by kernel_rfl)
theorem b_3 (k : Nat) (u v : Sl) (n : Int) : evB (dT' (k + 1)) body (st u v n 3) = .nx (st u v n 3) := body_of (x := n + 3) (h := 3) (by kernel_rfl) (by kernel_rfl) (by kernel_rfl)
theorem b_4 (k : Nat) (u v : Sl) (n : Int) : evB (dT' (k + 1)) body (st u v n 4) = .nx (st u v n 4) := body_of (x := n + 4) (h := 4) (by kernel_rfl) (by kernel_rfl) (by kernel_rfl)
theorem b_5 (k : Nat) (u v : Sl) (n : Int) : evB (dT' (k + 1)) body (st u v n 5) = .nx (st u v n 5) := body_of (x := n + 5) (h := 5) (by kernel_rfl) (by kernel_rfl) (by kernel_rfl)
theorem b_6 (k : Nat) (u v : Sl) (n : Int) : evB (dT' (k + 1)) body (st u v n 6) = .nx (st u v n 6) := body_of (x := n + 6) (h := 6) (by kernel_rfl) (by kernel_rfl) (by kernel_rfl)
theorem b_7 (k : Nat) (u v : Sl) (n : Int) : evB (dT' (k + 1)) body (st u v n 7) = .nx (st u v n 7) := body_of (x := n + 7) (h := 7) (by kernel_rfl) (by kernel_rfl) (by kernel_rfl)
theorem b_8 (k : Nat) (u v : Sl) (n : Int) : evB (dT' (k + 1)) body (st u v n 8) = .nx (st u v n 8) := body_of (x := n + 8) (h := 8) (by kernel_rfl) (by kernel_rfl) (by kernel_rfl)
theorem b_9 (k : Nat) (u v : Sl) (n : Int) : evB (dT' (k + 1)) body (st u v n 9) = .nx (st u v n 9) := body_of (x := n + 9) (h := 9) (by kernel_rfl) (by kernel_rfl) (by kernel_rfl)
theorem b_10 (k : Nat) (u v : Sl) (n : Int) : evB (dT' (k + 1)) body (st u v n 10) = .nx (st u v n 10) := body_of (x := n + 10) (h := 10) (by kernel_rfl) (by kernel_rfl) (by kernel_rfl)
theorem b_11 (k : Nat) (u v : Sl) (n : Int) : evB (dT' (k + 1)) body (st u v n 11) = .nx (st u v n 11) := body_of (x := n + 11) (h := 11) (by kernel_rfl) (by kernel_rfl) (by kernel_rfl)
theorem b_12 (k : Nat) (u v : Sl) (n : Int) : evB (dT' (k + 1)) body (st u v n 12) = .nx (st u v n 12) := body_of (x := n + 12) (h := 12) (by kernel_rfl) (by kernel_rfl) (by kernel_rfl)
theorem b_13 (k : Nat) (u v : Sl) (n : Int) : evB (dT' (k + 1)) body (st u v n 13) = .nx (st u v n 13) := body_of (x := n + 13) (h := 13) (by kernel_rfl) (by kernel_rfl) (by kernel_rfl)
theorem b_14 (k : Nat) (u v : Sl) (n : Int) : evB (dT' (k + 1)) body (st u v n 14) = .nx (st u v n 14) := body_of (x := n + 14) (h := 14) (by kernel_rfl) (by kernel_rfl) (by kernel_rfl)
theorem b_15 (k : Nat) (u v : Sl) (n : Int) : evB (dT' (k + 1)) body (st u v n 15) = .nx (st u v n 15) := body_of (x := n + 15) (h := 15) (by kernel_rfl) (by kernel_rfl) (by kernel_rfl)
theorem b_16 (k : Nat) (u v : Sl) (n : Int) : evB (dT' (k + 1)) body (st u v n 16) = .nx (st u v n 16) := body_of (x := n + 16) (h := 16) (by kernel_rfl) (by kernel_rfl) (by kernel_rfl)
theorem b_17 (k : Nat) (u v : Sl) (n : Int) : evB (dT' (k + 1)) body (st u v n 17) = .nx (st u v n 17) := body_of (x := n + 17) (h := 17) (by kernel_rfl) (by kernel_rfl) (by kernel_rfl)
theorem b_18 (k : Nat) (u v : Sl) (n : Int) : evB (dT' (k + 1)) body (st u v n 18) = .nx (st u v n 18) := body_of (x := n + 18) (h := 18) (by kernel_rfl) (by kernel_rfl) (by kernel_rfl)
theorem b_19 (k : Nat) (u v : Sl) (n : Int) : evB (dT' (k + 1)) body (st u v n 19) = .nx (st u v n 19) := body_of (x := n + 19) (h := 19) (by kernel_rfl) (by kernel_rfl) (by kernel_rfl)
theorem b_20 (k : Nat) (u v : Sl) (n : Int) : evB (dT' (k + 1)) body (st u v n 20) = .nx (st u v n 20) := body_of (x := n + 20) (h := 20) (by kernel_rfl) (by kernel_rfl) (by kernel_rfl)
theorem b_21 (k : Nat) (u v : Sl) (n : Int) : evB (dT' (k + 1)) body (st u v n 21) = .nx (st u v n 21) := body_of (x := n + 21) (h := 21) (by kernel_rfl) (by kernel_rfl) (by kernel_rfl)
theorem b_22 (k : Nat) (u v : Sl) (n : Int) : evB (dT' (k + 1)) body (st u v n 22) = .nx (st u v n 22) := body_of (x := n + 22) (h := 22) (by kernel_rfl) (by kernel_rfl) (by kernel_rfl)
theorem b_23 (k : Nat) (u v : Sl) (n : Int) : evB (dT' (k + 1)) body (st u v n 23) = .nx (st u v n 23) := body_of (x := n + 23) (h := 23) (by kernel_rfl) (by kernel_rfl) (by kernel_rfl)
theorem b_24 (k : Nat) (u v : Sl) (n : Int) : evB (dT' (k + 1)) body (st u v n 24) = .nx (st u v n 24) := body_of (x := n + 24) (h := 24) (by kernel_rfl) (by kernel_rfl) (by kernel_rfl)
theorem b_25 (k : Nat) (u v : Sl) (n : Int) : evB (dT' (k + 1)) body (st u v n 25) = .nx (st u v n 25) := body_of (x := n + 25) (h := 25) (by kernel_rfl) (by kernel_rfl) (by kernel_rfl)
theorem b_26 (k : Nat) (u v : Sl) (n : Int) : evB (dT' (k + 1)) body (st u v n 26) = .nx (st u v n 26) := body_of (x := n + 26) (h := 26) (by kernel_rfl) (by kernel_rfl) (by kernel_rfl)
end K00
set_option linter.all false
set_option maxRecDepth 100000
set_option maxHeartbeats 4000000
namespace K00
open PySem FL
theorem loop_ok (k : Nat) (u v : Sl) (n : Int) (a : Option Sl) : forL (.nm 4) (evB (dT' (k + 1)) body) (rngP 0 27) [some u, some v, some (.sh (.int n)), some (.ow (.list (madeL n))), a, none, none, none, none] = .nx (st u v n 26) := by
  have e : rngP 0 27 = [.int 0, .int 1, .int 2, .int 3, .int 4, .int 5, .int 6, .int 7, .int 8, .int 9, .int 10, .int 11, .int 12, .int 13, .int 14, .int 15, .int 16, .int 17, .int 18, .int 19, .int 20, .int 21, .int 22, .int 23, .int 24, .int 25, .int 26] := rfl
  rw [e]
  refine (forL_nx (b_0 k u v n)).trans ?_
  refine (forL_nx (b_1 k u v n)).trans ?_
  refine (forL_nx (b_2 k u v n)).trans ?_
  refine (forL_nx (b_3 k u v n)).trans ?_
  refine (forL_nx (b_4 k u v n)).trans ?_
  refine (forL_nx (b_5 k u v n)).trans ?_
  refine (forL_nx (b_6 k u v n)).trans ?_
  refine (forL_nx (b_7 k u v n)).trans ?_
  refine (forL_nx (b_8 k u v n)).trans ?_
  refine (forL_nx (b_9 k u v n)).trans ?_
  refine (forL_nx (b_10 k u v n)).trans ?_
  refine (forL_nx (b_11 k u v n)).trans ?_
  refine (forL_nx (b_12 k u v n)).trans ?_
  refine (forL_nx (b_13 k u v n)).trans ?_
  refine (forL_nx (b_14 k u v n)).trans ?_
  refine (forL_nx (b_15 k u v n)).trans ?_
  refine (forL_nx (b_16 k u v n)).trans ?_
  refine (forL_nx (b_17 k u v n)).trans ?_
  refine (forL_nx (b_18 k u v n)).trans ?_
  refine (forL_nx (b_19 k u v n)).trans ?_
  refine (forL_nx (b_20 k u v n)).trans ?_
  refine (forL_nx (b_21 k u v n)).trans ?_
  refine (forL_nx (b_22 k u v n)).trans ?_
  refine (forL_nx (b_23 k u v n)).trans ?_
  refine (forL_nx (b_24 k u v n)).trans ?_
  refine (forL_nx (b_25 k u v n)).trans ?_
  refine (forL_nx (b_26 k u v n)).trans ?_
  rfl
theorem many_raised (k : Nat) : ∀ m : Int, (m = -1 ∨ m = 3 ∨ m = 99 ∨ m = -30) → callF G (k + 2) "_law_raised" [.int m] = .ok (.sh (excD "BadAxis" (.int m))) := by
  intro m h
  rcases h with rfl | rfl | rfl | rfl <;> rfl
def restB : B := match t_law with
  | .cons _ (.cons _ (.cons _ (.cons _ r))) => r
  | _ => .nil
def s5 : S := .set 5 (.mk "DrawError" (.cons (.var 2) A.nil))
def t6 : T := .or (.more (.cmp .ne (.of (.at (.var 5))) (.var 2)) (.more (.cmp .inn (.of (.bl true)) (.of (.call "_law_kinds" (.cons (.var 5) A.nil)))) (.one (.not (.tru (.of (.isi (.var 5) "ValueError")))))))
def s7 : S := .pre 1 (.set 6 (.ix (.of (.lst (.cons (.neg (.of (.int 1))) (.cons (.int 3) (.cons (.int 99) (.cons (.neg (.of (.int 30))) A.nil)))))) (.of (.call "_law_mix" (.cons (.var 1) (.cons (.int 1) (.cons (.int 4) A.nil)))))))
def s8 : S := .set 7 (.call "_law_raised" (.cons (.var 6) A.nil))
def e9 : E := .cmp .isn (.var 7) (.of E.non)
def e10 : E := .cmp .eq (.of (.at (.var 7))) (.var 6)
def e11 : E := .cmp .eq (.of (.call "_law_kinds" (.cons (.var 7) A.nil))) (.of (.comp (.rng1 (.cons (.of (.blt .len (.cons (.var 3) Rl.nil))) Rl.nil)) [(("t" : Str), 8)] (.nm 8) C.none (.cmp .eq (.var 8) (.of (.int 4)))))
def b6 : B := (.cons (.ret (.bl false)) B.nil)
theorem plain (ns : List Int) (h : ns.length ≤ 63) : callF G (lvl + 1) "law" [scrD ns] = .ok (.sh (.bool true)) := by
  rw [call_law]
  show endR (evB (dT' 30) t_law (startE 9 [scrD ns])) = _
  obtain ⟨ds, hd, e1⟩ := draws_ok 29 ns h
  obtain ⟨r, r0, r1, e2⟩ := mix_ok 29 ds hd 0 60000 (by decide) (by decide) (by decide)
  obtain ⟨q, q0, q1, e3⟩ := mix_ok 29 ds hd 1 4 (by decide) (by decide) (by decide)
  have a1 : evS (dT' 30) (.set 1 (.call "_law_draws" (.cons (.var 0) A.nil))) (startE 9 [scrD ns]) = .nx [some (.sh (scrD ns)), some (.ow (inD ds)), none, none, none, none, none, none, none] := by
    simp only [r1_3, r1_4, r1_5, Bool.not_true, Bool.not_false, cut03, cut63, cut64, cYes, nc0, nc1, nc2, nc3, nc4, nc5, nc6, beq_self_eq_true, eComp, compL, noOwn, wipeE, bindT, bindTs, seqI, seqP, callI, zipI, zipP, eqO, neO, eqS, eqI, Bool.and_true, Bool.true_and, Bool.and_self, Bool.false_and, Bool.and_false, evB, evS, evE, evEA, evEO, evR, evT, evTA, evTO, evA, evRl, evO, evP, evI, evC, sSeq, sIf, sRet, sRetV, sRetN, sSet, sAsg, sPar, sExpr, sNext, eBinR, eChain, eC, eVar, rVar, rPd, eAnd, eOr, eNot, eIf, eNeg, eTup, eLst, eSlice, eCall, eFun, tBool, tTru, tNotF, tAndF, tOrF, aNil, aCons, aStar, sNil, sCons, oNone, oSome, startE, endR, Res.bind_ok, Res.bind_exc, Res.bind_stuck, bindS_ok, bindS_exc, bindS_stuck, pd_sh, pd_ow, ix_tup, ix_lst, at0, at1, at2, at3, at4, at5, Bop.fn, Cop.fn, Bl.fn, List.map_cons, List.map_nil, List.length_cons, List.length_nil, List.replicate_succ, List.replicate_zero, List.getElem?_cons_zero, List.getElem?_cons_succ, List.cons_append, List.nil_append, List.append_nil, List.set_cons_zero, List.set_cons_succ, iteT', iteF', Nat.reduceAdd, Nat.reduceSub, Nat.reduceLeDiff, Nat.reduceEqDiff, if_true, if_false, reduceIte, decide_true, decide_false, fns__law_draws, e1]
  have a2 : evS (dT' 30) (.pre 1 (.set 2 (.bin .sub (.of (.call "_law_mix" (.cons (.var 1) (.cons (.int 0) (.cons (.int 60000) A.nil))))) (.of (.int 30000))))) [some (.sh (scrD ns)), some (.ow (inD ds)), none, none, none, none, none, none, none] = .nx [some (.sh (scrD ns)), some (.sh (inD ds)), some (.sh (.int (r - 30000))), none, none, none, none, none, none] := by
    rw [evS_pre]
    simp only [r1_3, r1_4, r1_5, Bool.not_true, Bool.not_false, cut03, cut63, cut64, cYes, nc0, nc1, nc2, nc3, nc4, nc5, nc6, beq_self_eq_true, eComp, compL, noOwn, wipeE, bindT, bindTs, seqI, seqP, callI, zipI, zipP, eqO, neO, eqS, eqI, Bool.and_true, Bool.true_and, Bool.and_self, Bool.false_and, Bool.and_false, evB, evS, evE, evEA, evEO, evR, evT, evTA, evTO, evA, evRl, evO, evP, evI, evC, sSeq, sIf, sRet, sRetV, sRetN, sSet, sAsg, sPar, sExpr, sNext, eBinR, eChain, eC, eVar, rVar, rPd, eAnd, eOr, eNot, eIf, eNeg, eTup, eLst, eSlice, eCall, eFun, tBool, tTru, tNotF, tAndF, tOrF, aNil, aCons, aStar, sNil, sCons, oNone, oSome, startE, endR, Res.bind_ok, Res.bind_exc, Res.bind_stuck, bindS_ok, bindS_exc, bindS_stuck, pd_sh, pd_ow, ix_tup, ix_lst, at0, at1, at2, at3, at4, at5, Bop.fn, Cop.fn, Bl.fn, List.map_cons, List.map_nil, List.length_cons, List.length_nil, List.replicate_succ, List.replicate_zero, List.getElem?_cons_zero, List.getElem?_cons_succ, List.cons_append, List.nil_append, List.append_nil, List.set_cons_zero, List.set_cons_succ, iteT', iteF', Nat.reduceAdd, Nat.reduceSub, Nat.reduceLeDiff, Nat.reduceEqDiff, if_true, if_false, reduceIte, decide_true, decide_false, shr, fns__law_mix, e2, subI]
  generalize r - 30000 = n at a2
  have a3 : evS (dT' 30) (.set 3 (.call "_law_made" (.cons (.var 2) A.nil))) [some (.sh (scrD ns)), some (.sh (inD ds)), some (.sh (.int n)), none, none, none, none, none, none] = .nx [some (.sh (scrD ns)), some (.sh (inD ds)), some (.sh (.int n)), some (.ow (.list (madeL n))), none, none, none, none, none] := rfl
  have a4 : evS (dT' 30) (.for_ (.rng1 (.cons (.of (.blt .len (.cons (.var 3) Rl.nil))) Rl.nil)) (.nm 4) body) [some (.sh (scrD ns)), some (.sh (inD ds)), some (.sh (.int n)), some (.ow (.list (madeL n))), none, none, none, none, none] = .nx (st (.sh (scrD ns)) (.sh (inD ds)) n 26) := by
    have ei : evI (dT' 30) (.rng1 (.cons (.of (.blt .len (.cons (.var 3) Rl.nil))) Rl.nil)) [some (.sh (scrD ns)), some (.sh (inD ds)), some (.sh (.int n)), some (.ow (.list (madeL n))), none, none, none, none, none] = .ok (rngP 0 27) := by kernel_rfl
    rw [evS_for, ei]
    exact loop_ok 29 (.sh (scrD ns)) (.sh (inD ds)) n none
  refine Eq.trans (congrArg endR (evB_nx a1)) ?_
  refine Eq.trans (congrArg endR (evB_nx a2)) ?_
  refine Eq.trans (congrArg endR (evB_nx a3)) ?_
  refine Eq.trans (congrArg endR (evB_nx a4)) ?_
  have a5 : evS (dT' 30) s5 (st (.sh (scrD ns)) (.sh (inD ds)) n 26) = .nx [some (.sh (scrD ns)), some (.sh (inD ds)), some (.sh (.int n)), some (.ow (.list (madeL n))), some (.sh (.int 26)), some (.sh (excD "DrawError" (.int n))), none, none, none] := rfl
  refine Eq.trans (congrArg endR (evB_nx a5)) ?_
  have a6 : evT (dT' 30) t6 [some (.sh (scrD ns)), some (.sh (inD ds)), some (.sh (.int n)), some (.ow (.list (madeL n))), some (.sh (.int 26)), some (.sh (excD "DrawError" (.int n))), none, none, none] = .ok false := by
    have z1 : evT (dT' 30) (.cmp .ne (.of (.at (.var 5))) (.var 2)) [some (.sh (scrD ns)), some (.sh (inD ds)), some (.sh (.int n)), some (.ow (.list (madeL n))), some (.sh (.int 26)), some (.sh (excD "DrawError" (.int n))), none, none, none] = .ok (!decide (n = n)) := by kernel_rfl
    have z1 : evT (dT' 30) (.cmp .ne (.of (.at (.var 5))) (.var 2)) [some (.sh (scrD ns)), some (.sh (inD ds)), some (.sh (.int n)), some (.ow (.list (madeL n))), some (.sh (.int 26)), some (.sh (excD "DrawError" (.int n))), none, none, none] = .ok false := by rw [z1]; simp
    have z2 : evTO (dT' 30) (.more (.cmp .inn (.of (.bl true)) (.of (.call "_law_kinds" (.cons (.var 5) A.nil)))) (.one (.not (.tru (.of (.isi (.var 5) "ValueError")))))) [some (.sh (scrD ns)), some (.sh (inD ds)), some (.sh (.int n)), some (.ow (.list (madeL n))), some (.sh (.int 26)), some (.sh (excD "DrawError" (.int n))), none, none, none] = .ok false := by kernel_rfl
    have z3 : ∀ (D : Tab) (t : T) (w : TW) (ρ : Ev), evT D t ρ = .ok false → evTO D w ρ = .ok false → evT D (.or (.more t w)) ρ = .ok false := fun D t w ρ y1 y2 => by
      have : evT D (.or (.more t w)) ρ = tOrF (evT D t) (evTO D w) ρ := by simp only [evT, evTO]
      rw [this]
      unfold tOrF
      rw [y1]
      exact y2
    exact z3 _ _ _ _ z1 z2
  refine Eq.trans (congrArg endR (evB_nx (evB_ife (a := b6) a6 rfl))) ?_
  have hm : ∃ m : Int, (m = -1 ∨ m = 3 ∨ m = 99 ∨ m = -30) ∧ L2.atI [PyData.int (-1), PyData.int 3, PyData.int 99, PyData.int (-30)] q = some (.int m) := by
    have : q = 0 ∨ q = 1 ∨ q = 2 ∨ q = 3 := by omega
    rcases this with rfl | rfl | rfl | rfl
    · exact ⟨-1, .inl rfl, rfl⟩
    · exact ⟨3, .inr (.inl rfl), rfl⟩
    · exact ⟨99, .inr (.inr (.inl rfl)), rfl⟩
    · exact ⟨-30, .inr (.inr (.inr rfl)), rfl⟩
  obtain ⟨m, hm1, hm2⟩ := hm
  have a7 : evS (dT' 30) s7 [some (.sh (scrD ns)), some (.sh (inD ds)), some (.sh (.int n)), some (.ow (.list (madeL n))), some (.sh (.int 26)), some (.sh (excD "DrawError" (.int n))), none, none, none] = .nx [some (.sh (scrD ns)), some (.sh (inD ds)), some (.sh (.int n)), some (.ow (.list (madeL n))), some (.sh (.int 26)), some (.sh (excD "DrawError" (.int n))), some (.sh (.int m)), none, none] := by
    generalize madeL n = L
    unfold s7
    rw [evS_pre]
    simp only [r1_3, r1_4, r1_5, Bool.not_true, Bool.not_false, cut03, cut63, cut64, cYes, nc0, nc1, nc2, nc3, nc4, nc5, nc6, beq_self_eq_true, eComp, compL, noOwn, wipeE, bindT, bindTs, seqI, seqP, callI, zipI, zipP, eqO, neO, eqS, eqI, Bool.and_true, Bool.true_and, Bool.and_self, Bool.false_and, Bool.and_false, evB, evS, evE, evEA, evEO, evR, evT, evTA, evTO, evA, evRl, evO, evP, evI, evC, sSeq, sIf, sRet, sRetV, sRetN, sSet, sAsg, sPar, sExpr, sNext, eBinR, eChain, eC, eVar, rVar, rPd, eAnd, eOr, eNot, eIf, eNeg, eTup, eLst, eSlice, eCall, eFun, tBool, tTru, tNotF, tAndF, tOrF, aNil, aCons, aStar, sNil, sCons, oNone, oSome, startE, endR, Res.bind_ok, Res.bind_exc, Res.bind_stuck, bindS_ok, bindS_exc, bindS_stuck, pd_sh, pd_ow, ix_tup, ix_lst, at0, at1, at2, at3, at4, at5, Bop.fn, Cop.fn, Bl.fn, List.map_cons, List.map_nil, List.length_cons, List.length_nil, List.replicate_succ, List.replicate_zero, List.getElem?_cons_zero, List.getElem?_cons_succ, List.cons_append, List.nil_append, List.append_nil, List.set_cons_zero, List.set_cons_succ, iteT', iteF', Nat.reduceAdd, Nat.reduceSub, Nat.reduceLeDiff, Nat.reduceEqDiff, if_true, if_false, reduceIte, decide_true, decide_false, shr, fns__law_mix, e3, negP, hm2]
  refine Eq.trans (congrArg endR (evB_nx a7)) ?_
  have a8 : evS (dT' 30) s8 [some (.sh (scrD ns)), some (.sh (inD ds)), some (.sh (.int n)), some (.ow (.list (madeL n))), some (.sh (.int 26)), some (.sh (excD "DrawError" (.int n))), some (.sh (.int m)), none, none] = .nx [some (.sh (scrD ns)), some (.sh (inD ds)), some (.sh (.int n)), some (.ow (.list (madeL n))), some (.sh (.int 26)), some (.sh (excD "DrawError" (.int n))), some (.sh (.int m)), some (.sh (excD "BadAxis" (.int m))), none] := by
    generalize madeL n = L
    unfold s8
    simp only [r1_3, r1_4, r1_5, Bool.not_true, Bool.not_false, cut03, cut63, cut64, cYes, nc0, nc1, nc2, nc3, nc4, nc5, nc6, beq_self_eq_true, eComp, compL, noOwn, wipeE, bindT, bindTs, seqI, seqP, callI, zipI, zipP, eqO, neO, eqS, eqI, Bool.and_true, Bool.true_and, Bool.and_self, Bool.false_and, Bool.and_false, evB, evS, evE, evEA, evEO, evR, evT, evTA, evTO, evA, evRl, evO, evP, evI, evC, sSeq, sIf, sRet, sRetV, sRetN, sSet, sAsg, sPar, sExpr, sNext, eBinR, eChain, eC, eVar, rVar, rPd, eAnd, eOr, eNot, eIf, eNeg, eTup, eLst, eSlice, eCall, eFun, tBool, tTru, tNotF, tAndF, tOrF, aNil, aCons, aStar, sNil, sCons, oNone, oSome, startE, endR, Res.bind_ok, Res.bind_exc, Res.bind_stuck, bindS_ok, bindS_exc, bindS_stuck, pd_sh, pd_ow, ix_tup, ix_lst, at0, at1, at2, at3, at4, at5, Bop.fn, Cop.fn, Bl.fn, List.map_cons, List.map_nil, List.length_cons, List.length_nil, List.replicate_succ, List.replicate_zero, List.getElem?_cons_zero, List.getElem?_cons_succ, List.cons_append, List.nil_append, List.append_nil, List.set_cons_zero, List.set_cons_succ, iteT', iteF', Nat.reduceAdd, Nat.reduceSub, Nat.reduceLeDiff, Nat.reduceEqDiff, if_true, if_false, reduceIte, decide_true, decide_false, fns__law_raised, many_raised 28 m hm1]
  refine Eq.trans (congrArg endR (evB_nx a8)) ?_
  have a9 : evE (dT' 30) e9 [some (.sh (scrD ns)), some (.sh (inD ds)), some (.sh (.int n)), some (.ow (.list (madeL n))), some (.sh (.int 26)), some (.sh (excD "DrawError" (.int n))), some (.sh (.int m)), some (.sh (excD "BadAxis" (.int m))), none] = .ok (.sh (.bool true)) := rfl
  have a10 : evE (dT' 30) e10 [some (.sh (scrD ns)), some (.sh (inD ds)), some (.sh (.int n)), some (.ow (.list (madeL n))), some (.sh (.int 26)), some (.sh (excD "DrawError" (.int n))), some (.sh (.int m)), some (.sh (excD "BadAxis" (.int m))), none] = .ok (.sh (.bool true)) := by
    have : evE (dT' 30) e10 [some (.sh (scrD ns)), some (.sh (inD ds)), some (.sh (.int n)), some (.ow (.list (madeL n))), some (.sh (.int 26)), some (.sh (excD "DrawError" (.int n))), some (.sh (.int m)), some (.sh (excD "BadAxis" (.int m))), none] = .ok (.sh (.bool (decide (m = m)))) := rfl
    rw [this]
    simp
  have a11 : evE (dT' 30) e11 [some (.sh (scrD ns)), some (.sh (inD ds)), some (.sh (.int n)), some (.ow (.list (madeL n))), some (.sh (.int 26)), some (.sh (excD "DrawError" (.int n))), some (.sh (.int m)), some (.sh (excD "BadAxis" (.int m))), none] = .ok (.sh (.bool true)) := by
    have : evE (dT' 30) e11 [some (.sh (scrD ns)), some (.sh (inD ds)), some (.sh (.int n)), some (.ow (.list (madeL n))), some (.sh (.int 26)), some (.sh (excD "DrawError" (.int n))), some (.sh (.int m)), some (.sh (excD "BadAxis" (.int m))), none] = eqO (blD (hot 4)) (blD (hot 4)) := by kernel_rfl
    rw [this]
    unfold eqO
    rw [eqB]
    simp
  have a12 := evEA_more (D := dT' 30) (w := .more e10 (.one e11)) a9 (evEA_more (w := .one e11) a10 (b := true) a11)
  refine Eq.trans (congrArg endR (evB_rt (s := .ret (.and (.more e9 (.more e10 (.one e11))))) (r := .sh (.bool true)) ?_)) rfl
  show sRet (evEA (dT' 30) _) _ = _
  unfold sRet
  rw [a12]
  rfl
end K00
open PySem PySem.W PyProof.Rows
set_option maxHeartbeats 0 in
theorem PySem.Challenge.cw_samplesonce_k00_errors_are_apart_holds : PySem.Challenge.rw_samplesonce_k00_errors_are_apart.Holds := by
  w_on; o_law; k_head; (case hw => w_witness2)
  k_fill
  refine L2.walk_of (l := PySem.Challenge.rw_samplesonce_k00_errors_are_apart) (n := 63) (k := K00.lvl + 1) (x := "script") (CX := fun w => L2.CX (PySem.Challenge.rw_samplesonce_k00_errors_are_apart).prog w) (sp := fun w => FL.spLaw _) rfl (by decide) rfl ⟨rfl, by decide, by decide⟩ (fun w h Y => PySem.W.kIn_of Y) ?F_1 (fun _ _ a ns hl _ hS => ⟨a, ns, rfl, hl, hS, fun _ => rfl⟩) (fun _ _ _ _ _ h => FL.cx_none h)
  case F_1 =>
    intro w mg fa h KX HG hmg
    refine FL.with_know (t := K00.tx) (P := (PySem.Challenge.rw_samplesonce_k00_errors_are_apart).prog) KX HG K00.bd K00.ck ?zf_2 ?zg_3 ?zl_4 ?ze_5 ?zp_6 ?zq_7 ?zs_8 ?zx_9 ?zi_10 ?zb_11 ?zgo_12
    case zf_2 =>
        refine' ⟨FL.FunIn.mk ?a_13 ?l_14 ?c_15 ?k_16, ?_⟩
        (case a_13 => k_is); (case l_14 => k_is); (case c_15 => k_is); (case k_16 => k_is)
        refine' ⟨FL.FunIn.mk ?a_17 ?l_18 ?c_19 ?k_20, ?_⟩
        (case a_17 => k_is); (case l_18 => k_is); (case c_19 => k_is); (case k_20 => k_is)
        refine' ⟨FL.FunIn.mk ?a_21 ?l_22 ?c_23 ?k_24, ?_⟩
        (case a_21 => k_is); (case l_22 => k_is); (case c_23 => k_is); (case k_24 => k_is)
        refine' ⟨FL.FunIn.mk ?a_25 ?l_26 ?c_27 ?k_28, ?_⟩
        (case a_25 => k_is); (case l_26 => k_is); (case c_27 => k_is); (case k_28 => k_is)
        refine' ⟨FL.FunIn.mk ?a_29 ?l_30 ?c_31 ?k_32, ?_⟩
        (case a_29 => k_is); (case l_30 => k_is); (case c_31 => k_is); (case k_32 => k_is)
        refine' ⟨FL.FunIn.mk ?a_33 ?l_34 ?c_35 ?k_36, ?_⟩
        (case a_33 => k_is); (case l_34 => k_is); (case c_35 => k_is); (case k_36 => k_is)
        refine' ⟨FL.FunIn.mk ?a_37 ?l_38 ?c_39 ?k_40, ?_⟩
        (case a_37 => k_is); (case l_38 => k_is); (case c_39 => k_is); (case k_40 => k_is)
        trivial
    case zg_3 =>
        refine' ⟨FL.gk_mk KX HG ?a_41 ?b_42, ?_⟩
        (case a_41 => k_is)
        case b_42 =>
          exact FL.gv_int
        trivial
    case zl_4 =>
        refine' ⟨?a_43, ?_⟩
        (case a_43 => k_is)
        refine' ⟨?a_44, ?_⟩
        (case a_44 => k_is)
        refine' ⟨?a_45, ?_⟩
        (case a_45 => k_is)
        refine' ⟨?a_46, ?_⟩
        (case a_46 => k_is)
        refine' ⟨?a_47, ?_⟩
        (case a_47 => k_is)
        refine' ⟨?a_48, ?_⟩
        (case a_48 => k_is)
        refine' ⟨?a_49, ?_⟩
        (case a_49 => k_is)
        trivial
    case ze_5 =>
        refine' ⟨PySem.AtX.ex_sub KX HG ?aC_50 ?xL_51 ?ne_52 ?sa_53 ?ga_54 ?gg_55 ?noN_56 ?iC_57 ?tC_58 ?kC_59 ?exC_60 ?veC_61 ?tyC_62 ?hdC_63 ?mD_64 ?cD_65 ?st_66 ?sup_67 ?top_68 ?I_69, ?_⟩
        (case aC_50 => k_is); (case xL_51 => k_is); (case ne_52 => decide +kernel)
        (case sa_53 => k_is); (case ga_54 => k_is); (case gg_55 => k_is); (case noN_56 => k_is); (case iC_57 => k_is); (case tC_58 => k_is); (case kC_59 => k_is); (case exC_60 => k_is); (case veC_61 => k_is); (case tyC_62 => k_is); (case hdC_63 => k_is); (case mD_64 => k_is); (case cD_65 => k_is); (case st_66 => k_is); (case sup_67 => k_is); (case top_68 => decide +kernel)
        case I_69 =>
          refine' PySem.AtX.init_mk ?l_70 ?c_71 ?cd_72 ?v_73 ?fl_74 ?cc_75 PySem.AtX.methForm
          (case l_70 => k_is); (case c_71 => k_is); (case cd_72 => k_is); (case v_73 => rfl); (case fl_74 => decide +kernel); (case cc_75 => k_is)
        refine' ⟨PySem.AtX.ex_base KX HG ?aC_76 ?xL_77 ?sa_78 ?ga_79 ?gg_80 ?noN_81 ?iC_82 ?tC_83 ?kC_84 ?exC_85 ?veC_86 ?tyC_87 ?hdC_88 ?mD_89 ?cD_90 ?st_91 ?sup_92 ?top_93 ?I_94, ?_⟩
        (case aC_76 => k_is); (case xL_77 => k_is)
        (case sa_78 => k_is); (case ga_79 => k_is); (case gg_80 => k_is); (case noN_81 => k_is); (case iC_82 => k_is); (case tC_83 => k_is); (case kC_84 => k_is); (case exC_85 => k_is); (case veC_86 => k_is); (case tyC_87 => k_is); (case hdC_88 => k_is); (case mD_89 => k_is); (case cD_90 => k_is); (case st_91 => k_is); (case sup_92 => k_is); (case top_93 => decide +kernel)
        case I_94 =>
          refine' PySem.AtX.init_mk ?l_95 ?c_96 ?cd_97 ?v_98 ?fl_99 ?cc_100 PySem.AtX.methForm
          (case l_95 => k_is); (case c_96 => k_is); (case cd_97 => k_is); (case v_98 => rfl); (case fl_99 => decide +kernel); (case cc_100 => k_is)
        refine' ⟨PySem.AtX.ex_sub KX HG ?aC_101 ?xL_102 ?ne_103 ?sa_104 ?ga_105 ?gg_106 ?noN_107 ?iC_108 ?tC_109 ?kC_110 ?exC_111 ?veC_112 ?tyC_113 ?hdC_114 ?mD_115 ?cD_116 ?st_117 ?sup_118 ?top_119 ?I_120, ?_⟩
        (case aC_101 => k_is); (case xL_102 => k_is); (case ne_103 => decide +kernel)
        (case sa_104 => k_is); (case ga_105 => k_is); (case gg_106 => k_is); (case noN_107 => k_is); (case iC_108 => k_is); (case tC_109 => k_is); (case kC_110 => k_is); (case exC_111 => k_is); (case veC_112 => k_is); (case tyC_113 => k_is); (case hdC_114 => k_is); (case mD_115 => k_is); (case cD_116 => k_is); (case st_117 => k_is); (case sup_118 => k_is); (case top_119 => decide +kernel)
        case I_120 =>
          refine' PySem.AtX.init_mk ?l_121 ?c_122 ?cd_123 ?v_124 ?fl_125 ?cc_126 PySem.AtX.methForm
          (case l_121 => k_is); (case c_122 => k_is); (case cd_123 => k_is); (case v_124 => rfl); (case fl_125 => decide +kernel); (case cc_126 => k_is)
        refine' ⟨PySem.AtX.ex_sub KX HG ?aC_127 ?xL_128 ?ne_129 ?sa_130 ?ga_131 ?gg_132 ?noN_133 ?iC_134 ?tC_135 ?kC_136 ?exC_137 ?veC_138 ?tyC_139 ?hdC_140 ?mD_141 ?cD_142 ?st_143 ?sup_144 ?top_145 ?I_146, ?_⟩
        (case aC_127 => k_is); (case xL_128 => k_is); (case ne_129 => decide +kernel)
        (case sa_130 => k_is); (case ga_131 => k_is); (case gg_132 => k_is); (case noN_133 => k_is); (case iC_134 => k_is); (case tC_135 => k_is); (case kC_136 => k_is); (case exC_137 => k_is); (case veC_138 => k_is); (case tyC_139 => k_is); (case hdC_140 => k_is); (case mD_141 => k_is); (case cD_142 => k_is); (case st_143 => k_is); (case sup_144 => k_is); (case top_145 => decide +kernel)
        case I_146 =>
          refine' PySem.AtX.init_mk ?l_147 ?c_148 ?cd_149 ?v_150 ?fl_151 ?cc_152 PySem.AtX.methForm
          (case l_147 => k_is); (case c_148 => k_is); (case cd_149 => k_is); (case v_150 => rfl); (case fl_151 => decide +kernel); (case cc_152 => k_is)
        refine' ⟨PySem.AtX.ex_sub KX HG ?aC_153 ?xL_154 ?ne_155 ?sa_156 ?ga_157 ?gg_158 ?noN_159 ?iC_160 ?tC_161 ?kC_162 ?exC_163 ?veC_164 ?tyC_165 ?hdC_166 ?mD_167 ?cD_168 ?st_169 ?sup_170 ?top_171 ?I_172, ?_⟩
        (case aC_153 => k_is); (case xL_154 => k_is); (case ne_155 => decide +kernel)
        (case sa_156 => k_is); (case ga_157 => k_is); (case gg_158 => k_is); (case noN_159 => k_is); (case iC_160 => k_is); (case tC_161 => k_is); (case kC_162 => k_is); (case exC_163 => k_is); (case veC_164 => k_is); (case tyC_165 => k_is); (case hdC_166 => k_is); (case mD_167 => k_is); (case cD_168 => k_is); (case st_169 => k_is); (case sup_170 => k_is); (case top_171 => decide +kernel)
        case I_172 =>
          refine' PySem.AtX.init_mk ?l_173 ?c_174 ?cd_175 ?v_176 ?fl_177 ?cc_178 PySem.AtX.methForm
          (case l_173 => k_is); (case c_174 => k_is); (case cd_175 => k_is); (case v_176 => rfl); (case fl_177 => decide +kernel); (case cc_178 => k_is)
        refine' ⟨PySem.AtX.ex_sub KX HG ?aC_179 ?xL_180 ?ne_181 ?sa_182 ?ga_183 ?gg_184 ?noN_185 ?iC_186 ?tC_187 ?kC_188 ?exC_189 ?veC_190 ?tyC_191 ?hdC_192 ?mD_193 ?cD_194 ?st_195 ?sup_196 ?top_197 ?I_198, ?_⟩
        (case aC_179 => k_is); (case xL_180 => k_is); (case ne_181 => decide +kernel)
        (case sa_182 => k_is); (case ga_183 => k_is); (case gg_184 => k_is); (case noN_185 => k_is); (case iC_186 => k_is); (case tC_187 => k_is); (case kC_188 => k_is); (case exC_189 => k_is); (case veC_190 => k_is); (case tyC_191 => k_is); (case hdC_192 => k_is); (case mD_193 => k_is); (case cD_194 => k_is); (case st_195 => k_is); (case sup_196 => k_is); (case top_197 => decide +kernel)
        case I_198 =>
          refine' PySem.AtX.init_mk ?l_199 ?c_200 ?cd_201 ?v_202 ?fl_203 ?cc_204 PySem.AtX.methForm
          (case l_199 => k_is); (case c_200 => k_is); (case cd_201 => k_is); (case v_202 => rfl); (case fl_203 => decide +kernel); (case cc_204 => k_is)
        refine' ⟨PySem.AtX.ex_sub KX HG ?aC_205 ?xL_206 ?ne_207 ?sa_208 ?ga_209 ?gg_210 ?noN_211 ?iC_212 ?tC_213 ?kC_214 ?exC_215 ?veC_216 ?tyC_217 ?hdC_218 ?mD_219 ?cD_220 ?st_221 ?sup_222 ?top_223 ?I_224, ?_⟩
        (case aC_205 => k_is); (case xL_206 => k_is); (case ne_207 => decide +kernel)
        (case sa_208 => k_is); (case ga_209 => k_is); (case gg_210 => k_is); (case noN_211 => k_is); (case iC_212 => k_is); (case tC_213 => k_is); (case kC_214 => k_is); (case exC_215 => k_is); (case veC_216 => k_is); (case tyC_217 => k_is); (case hdC_218 => k_is); (case mD_219 => k_is); (case cD_220 => k_is); (case st_221 => k_is); (case sup_222 => k_is); (case top_223 => decide +kernel)
        case I_224 =>
          refine' PySem.AtX.init_mk ?l_225 ?c_226 ?cd_227 ?v_228 ?fl_229 ?cc_230 PySem.AtX.methForm
          (case l_225 => k_is); (case c_226 => k_is); (case cd_227 => k_is); (case v_228 => rfl); (case fl_229 => decide +kernel); (case cc_230 => k_is)
        refine' ⟨PySem.AtX.ex_sub KX HG ?aC_231 ?xL_232 ?ne_233 ?sa_234 ?ga_235 ?gg_236 ?noN_237 ?iC_238 ?tC_239 ?kC_240 ?exC_241 ?veC_242 ?tyC_243 ?hdC_244 ?mD_245 ?cD_246 ?st_247 ?sup_248 ?top_249 ?I_250, ?_⟩
        (case aC_231 => k_is); (case xL_232 => k_is); (case ne_233 => decide +kernel)
        (case sa_234 => k_is); (case ga_235 => k_is); (case gg_236 => k_is); (case noN_237 => k_is); (case iC_238 => k_is); (case tC_239 => k_is); (case kC_240 => k_is); (case exC_241 => k_is); (case veC_242 => k_is); (case tyC_243 => k_is); (case hdC_244 => k_is); (case mD_245 => k_is); (case cD_246 => k_is); (case st_247 => k_is); (case sup_248 => k_is); (case top_249 => decide +kernel)
        case I_250 =>
          refine' PySem.AtX.init_mk ?l_251 ?c_252 ?cd_253 ?v_254 ?fl_255 ?cc_256 PySem.AtX.methForm
          (case l_251 => k_is); (case c_252 => k_is); (case cd_253 => k_is); (case v_254 => rfl); (case fl_255 => decide +kernel); (case cc_256 => k_is)
        refine' ⟨PySem.AtX.ex_sub KX HG ?aC_257 ?xL_258 ?ne_259 ?sa_260 ?ga_261 ?gg_262 ?noN_263 ?iC_264 ?tC_265 ?kC_266 ?exC_267 ?veC_268 ?tyC_269 ?hdC_270 ?mD_271 ?cD_272 ?st_273 ?sup_274 ?top_275 ?I_276, ?_⟩
        (case aC_257 => k_is); (case xL_258 => k_is); (case ne_259 => decide +kernel)
        (case sa_260 => k_is); (case ga_261 => k_is); (case gg_262 => k_is); (case noN_263 => k_is); (case iC_264 => k_is); (case tC_265 => k_is); (case kC_266 => k_is); (case exC_267 => k_is); (case veC_268 => k_is); (case tyC_269 => k_is); (case hdC_270 => k_is); (case mD_271 => k_is); (case cD_272 => k_is); (case st_273 => k_is); (case sup_274 => k_is); (case top_275 => decide +kernel)
        case I_276 =>
          refine' PySem.AtX.init_mk ?l_277 ?c_278 ?cd_279 ?v_280 ?fl_281 ?cc_282 PySem.AtX.methForm
          (case l_277 => k_is); (case c_278 => k_is); (case cd_279 => k_is); (case v_280 => rfl); (case fl_281 => decide +kernel); (case cc_282 => k_is)
        refine' ⟨PySem.AtX.ex_sub KX HG ?aC_283 ?xL_284 ?ne_285 ?sa_286 ?ga_287 ?gg_288 ?noN_289 ?iC_290 ?tC_291 ?kC_292 ?exC_293 ?veC_294 ?tyC_295 ?hdC_296 ?mD_297 ?cD_298 ?st_299 ?sup_300 ?top_301 ?I_302, ?_⟩
        (case aC_283 => k_is); (case xL_284 => k_is); (case ne_285 => decide +kernel)
        (case sa_286 => k_is); (case ga_287 => k_is); (case gg_288 => k_is); (case noN_289 => k_is); (case iC_290 => k_is); (case tC_291 => k_is); (case kC_292 => k_is); (case exC_293 => k_is); (case veC_294 => k_is); (case tyC_295 => k_is); (case hdC_296 => k_is); (case mD_297 => k_is); (case cD_298 => k_is); (case st_299 => k_is); (case sup_300 => k_is); (case top_301 => decide +kernel)
        case I_302 =>
          refine' PySem.AtX.init_mk ?l_303 ?c_304 ?cd_305 ?v_306 ?fl_307 ?cc_308 PySem.AtX.methForm
          (case l_303 => k_is); (case c_304 => k_is); (case cd_305 => k_is); (case v_306 => rfl); (case fl_307 => decide +kernel); (case cc_308 => k_is)
        refine' ⟨PySem.AtX.ex_sub KX HG ?aC_309 ?xL_310 ?ne_311 ?sa_312 ?ga_313 ?gg_314 ?noN_315 ?iC_316 ?tC_317 ?kC_318 ?exC_319 ?veC_320 ?tyC_321 ?hdC_322 ?mD_323 ?cD_324 ?st_325 ?sup_326 ?top_327 ?I_328, ?_⟩
        (case aC_309 => k_is); (case xL_310 => k_is); (case ne_311 => decide +kernel)
        (case sa_312 => k_is); (case ga_313 => k_is); (case gg_314 => k_is); (case noN_315 => k_is); (case iC_316 => k_is); (case tC_317 => k_is); (case kC_318 => k_is); (case exC_319 => k_is); (case veC_320 => k_is); (case tyC_321 => k_is); (case hdC_322 => k_is); (case mD_323 => k_is); (case cD_324 => k_is); (case st_325 => k_is); (case sup_326 => k_is); (case top_327 => decide +kernel)
        case I_328 =>
          refine' PySem.AtX.init_mk ?l_329 ?c_330 ?cd_331 ?v_332 ?fl_333 ?cc_334 PySem.AtX.methForm
          (case l_329 => k_is); (case c_330 => k_is); (case cd_331 => k_is); (case v_332 => rfl); (case fl_333 => decide +kernel); (case cc_334 => k_is)
        refine' ⟨PySem.AtX.ex_sub KX HG ?aC_335 ?xL_336 ?ne_337 ?sa_338 ?ga_339 ?gg_340 ?noN_341 ?iC_342 ?tC_343 ?kC_344 ?exC_345 ?veC_346 ?tyC_347 ?hdC_348 ?mD_349 ?cD_350 ?st_351 ?sup_352 ?top_353 ?I_354, ?_⟩
        (case aC_335 => k_is); (case xL_336 => k_is); (case ne_337 => decide +kernel)
        (case sa_338 => k_is); (case ga_339 => k_is); (case gg_340 => k_is); (case noN_341 => k_is); (case iC_342 => k_is); (case tC_343 => k_is); (case kC_344 => k_is); (case exC_345 => k_is); (case veC_346 => k_is); (case tyC_347 => k_is); (case hdC_348 => k_is); (case mD_349 => k_is); (case cD_350 => k_is); (case st_351 => k_is); (case sup_352 => k_is); (case top_353 => decide +kernel)
        case I_354 =>
          refine' PySem.AtX.init_mk ?l_355 ?c_356 ?cd_357 ?v_358 ?fl_359 ?cc_360 PySem.AtX.methForm
          (case l_355 => k_is); (case c_356 => k_is); (case cd_357 => k_is); (case v_358 => rfl); (case fl_359 => decide +kernel); (case cc_360 => k_is)
        refine' ⟨PySem.AtX.ex_sub KX HG ?aC_361 ?xL_362 ?ne_363 ?sa_364 ?ga_365 ?gg_366 ?noN_367 ?iC_368 ?tC_369 ?kC_370 ?exC_371 ?veC_372 ?tyC_373 ?hdC_374 ?mD_375 ?cD_376 ?st_377 ?sup_378 ?top_379 ?I_380, ?_⟩
        (case aC_361 => k_is); (case xL_362 => k_is); (case ne_363 => decide +kernel)
        (case sa_364 => k_is); (case ga_365 => k_is); (case gg_366 => k_is); (case noN_367 => k_is); (case iC_368 => k_is); (case tC_369 => k_is); (case kC_370 => k_is); (case exC_371 => k_is); (case veC_372 => k_is); (case tyC_373 => k_is); (case hdC_374 => k_is); (case mD_375 => k_is); (case cD_376 => k_is); (case st_377 => k_is); (case sup_378 => k_is); (case top_379 => decide +kernel)
        case I_380 =>
          refine' PySem.AtX.init_mk ?l_381 ?c_382 ?cd_383 ?v_384 ?fl_385 ?cc_386 PySem.AtX.methForm
          (case l_381 => k_is); (case c_382 => k_is); (case cd_383 => k_is); (case v_384 => rfl); (case fl_385 => decide +kernel); (case cc_386 => k_is)
        refine' ⟨PySem.AtX.ex_sub KX HG ?aC_387 ?xL_388 ?ne_389 ?sa_390 ?ga_391 ?gg_392 ?noN_393 ?iC_394 ?tC_395 ?kC_396 ?exC_397 ?veC_398 ?tyC_399 ?hdC_400 ?mD_401 ?cD_402 ?st_403 ?sup_404 ?top_405 ?I_406, ?_⟩
        (case aC_387 => k_is); (case xL_388 => k_is); (case ne_389 => decide +kernel)
        (case sa_390 => k_is); (case ga_391 => k_is); (case gg_392 => k_is); (case noN_393 => k_is); (case iC_394 => k_is); (case tC_395 => k_is); (case kC_396 => k_is); (case exC_397 => k_is); (case veC_398 => k_is); (case tyC_399 => k_is); (case hdC_400 => k_is); (case mD_401 => k_is); (case cD_402 => k_is); (case st_403 => k_is); (case sup_404 => k_is); (case top_405 => decide +kernel)
        case I_406 =>
          refine' PySem.AtX.init_mk ?l_407 ?c_408 ?cd_409 ?v_410 ?fl_411 ?cc_412 PySem.AtX.methForm
          (case l_407 => k_is); (case c_408 => k_is); (case cd_409 => k_is); (case v_410 => rfl); (case fl_411 => decide +kernel); (case cc_412 => k_is)
        refine' ⟨PySem.AtX.ex_sub KX HG ?aC_413 ?xL_414 ?ne_415 ?sa_416 ?ga_417 ?gg_418 ?noN_419 ?iC_420 ?tC_421 ?kC_422 ?exC_423 ?veC_424 ?tyC_425 ?hdC_426 ?mD_427 ?cD_428 ?st_429 ?sup_430 ?top_431 ?I_432, ?_⟩
        (case aC_413 => k_is); (case xL_414 => k_is); (case ne_415 => decide +kernel)
        (case sa_416 => k_is); (case ga_417 => k_is); (case gg_418 => k_is); (case noN_419 => k_is); (case iC_420 => k_is); (case tC_421 => k_is); (case kC_422 => k_is); (case exC_423 => k_is); (case veC_424 => k_is); (case tyC_425 => k_is); (case hdC_426 => k_is); (case mD_427 => k_is); (case cD_428 => k_is); (case st_429 => k_is); (case sup_430 => k_is); (case top_431 => decide +kernel)
        case I_432 =>
          refine' PySem.AtX.init_mk ?l_433 ?c_434 ?cd_435 ?v_436 ?fl_437 ?cc_438 PySem.AtX.methForm
          (case l_433 => k_is); (case c_434 => k_is); (case cd_435 => k_is); (case v_436 => rfl); (case fl_437 => decide +kernel); (case cc_438 => k_is)
        refine' ⟨PySem.AtX.ex_sub KX HG ?aC_439 ?xL_440 ?ne_441 ?sa_442 ?ga_443 ?gg_444 ?noN_445 ?iC_446 ?tC_447 ?kC_448 ?exC_449 ?veC_450 ?tyC_451 ?hdC_452 ?mD_453 ?cD_454 ?st_455 ?sup_456 ?top_457 ?I_458, ?_⟩
        (case aC_439 => k_is); (case xL_440 => k_is); (case ne_441 => decide +kernel)
        (case sa_442 => k_is); (case ga_443 => k_is); (case gg_444 => k_is); (case noN_445 => k_is); (case iC_446 => k_is); (case tC_447 => k_is); (case kC_448 => k_is); (case exC_449 => k_is); (case veC_450 => k_is); (case tyC_451 => k_is); (case hdC_452 => k_is); (case mD_453 => k_is); (case cD_454 => k_is); (case st_455 => k_is); (case sup_456 => k_is); (case top_457 => decide +kernel)
        case I_458 =>
          refine' PySem.AtX.init_mk ?l_459 ?c_460 ?cd_461 ?v_462 ?fl_463 ?cc_464 PySem.AtX.methForm
          (case l_459 => k_is); (case c_460 => k_is); (case cd_461 => k_is); (case v_462 => rfl); (case fl_463 => decide +kernel); (case cc_464 => k_is)
        refine' ⟨PySem.AtX.ex_sub KX HG ?aC_465 ?xL_466 ?ne_467 ?sa_468 ?ga_469 ?gg_470 ?noN_471 ?iC_472 ?tC_473 ?kC_474 ?exC_475 ?veC_476 ?tyC_477 ?hdC_478 ?mD_479 ?cD_480 ?st_481 ?sup_482 ?top_483 ?I_484, ?_⟩
        (case aC_465 => k_is); (case xL_466 => k_is); (case ne_467 => decide +kernel)
        (case sa_468 => k_is); (case ga_469 => k_is); (case gg_470 => k_is); (case noN_471 => k_is); (case iC_472 => k_is); (case tC_473 => k_is); (case kC_474 => k_is); (case exC_475 => k_is); (case veC_476 => k_is); (case tyC_477 => k_is); (case hdC_478 => k_is); (case mD_479 => k_is); (case cD_480 => k_is); (case st_481 => k_is); (case sup_482 => k_is); (case top_483 => decide +kernel)
        case I_484 =>
          refine' PySem.AtX.init_mk ?l_485 ?c_486 ?cd_487 ?v_488 ?fl_489 ?cc_490 PySem.AtX.methForm
          (case l_485 => k_is); (case c_486 => k_is); (case cd_487 => k_is); (case v_488 => rfl); (case fl_489 => decide +kernel); (case cc_490 => k_is)
        refine' ⟨PySem.AtX.ex_sub KX HG ?aC_491 ?xL_492 ?ne_493 ?sa_494 ?ga_495 ?gg_496 ?noN_497 ?iC_498 ?tC_499 ?kC_500 ?exC_501 ?veC_502 ?tyC_503 ?hdC_504 ?mD_505 ?cD_506 ?st_507 ?sup_508 ?top_509 ?I_510, ?_⟩
        (case aC_491 => k_is); (case xL_492 => k_is); (case ne_493 => decide +kernel)
        (case sa_494 => k_is); (case ga_495 => k_is); (case gg_496 => k_is); (case noN_497 => k_is); (case iC_498 => k_is); (case tC_499 => k_is); (case kC_500 => k_is); (case exC_501 => k_is); (case veC_502 => k_is); (case tyC_503 => k_is); (case hdC_504 => k_is); (case mD_505 => k_is); (case cD_506 => k_is); (case st_507 => k_is); (case sup_508 => k_is); (case top_509 => decide +kernel)
        case I_510 =>
          refine' PySem.AtX.init_mk ?l_511 ?c_512 ?cd_513 ?v_514 ?fl_515 ?cc_516 PySem.AtX.methForm
          (case l_511 => k_is); (case c_512 => k_is); (case cd_513 => k_is); (case v_514 => rfl); (case fl_515 => decide +kernel); (case cc_516 => k_is)
        refine' ⟨PySem.AtX.ex_sub KX HG ?aC_517 ?xL_518 ?ne_519 ?sa_520 ?ga_521 ?gg_522 ?noN_523 ?iC_524 ?tC_525 ?kC_526 ?exC_527 ?veC_528 ?tyC_529 ?hdC_530 ?mD_531 ?cD_532 ?st_533 ?sup_534 ?top_535 ?I_536, ?_⟩
        (case aC_517 => k_is); (case xL_518 => k_is); (case ne_519 => decide +kernel)
        (case sa_520 => k_is); (case ga_521 => k_is); (case gg_522 => k_is); (case noN_523 => k_is); (case iC_524 => k_is); (case tC_525 => k_is); (case kC_526 => k_is); (case exC_527 => k_is); (case veC_528 => k_is); (case tyC_529 => k_is); (case hdC_530 => k_is); (case mD_531 => k_is); (case cD_532 => k_is); (case st_533 => k_is); (case sup_534 => k_is); (case top_535 => decide +kernel)
        case I_536 =>
          refine' PySem.AtX.init_mk ?l_537 ?c_538 ?cd_539 ?v_540 ?fl_541 ?cc_542 PySem.AtX.methForm
          (case l_537 => k_is); (case c_538 => k_is); (case cd_539 => k_is); (case v_540 => rfl); (case fl_541 => decide +kernel); (case cc_542 => k_is)
        refine' ⟨PySem.AtX.ex_sub KX HG ?aC_543 ?xL_544 ?ne_545 ?sa_546 ?ga_547 ?gg_548 ?noN_549 ?iC_550 ?tC_551 ?kC_552 ?exC_553 ?veC_554 ?tyC_555 ?hdC_556 ?mD_557 ?cD_558 ?st_559 ?sup_560 ?top_561 ?I_562, ?_⟩
        (case aC_543 => k_is); (case xL_544 => k_is); (case ne_545 => decide +kernel)
        (case sa_546 => k_is); (case ga_547 => k_is); (case gg_548 => k_is); (case noN_549 => k_is); (case iC_550 => k_is); (case tC_551 => k_is); (case kC_552 => k_is); (case exC_553 => k_is); (case veC_554 => k_is); (case tyC_555 => k_is); (case hdC_556 => k_is); (case mD_557 => k_is); (case cD_558 => k_is); (case st_559 => k_is); (case sup_560 => k_is); (case top_561 => decide +kernel)
        case I_562 =>
          refine' PySem.AtX.init_mk ?l_563 ?c_564 ?cd_565 ?v_566 ?fl_567 ?cc_568 PySem.AtX.methForm
          (case l_563 => k_is); (case c_564 => k_is); (case cd_565 => k_is); (case v_566 => rfl); (case fl_567 => decide +kernel); (case cc_568 => k_is)
        refine' ⟨PySem.AtX.ex_sub KX HG ?aC_569 ?xL_570 ?ne_571 ?sa_572 ?ga_573 ?gg_574 ?noN_575 ?iC_576 ?tC_577 ?kC_578 ?exC_579 ?veC_580 ?tyC_581 ?hdC_582 ?mD_583 ?cD_584 ?st_585 ?sup_586 ?top_587 ?I_588, ?_⟩
        (case aC_569 => k_is); (case xL_570 => k_is); (case ne_571 => decide +kernel)
        (case sa_572 => k_is); (case ga_573 => k_is); (case gg_574 => k_is); (case noN_575 => k_is); (case iC_576 => k_is); (case tC_577 => k_is); (case kC_578 => k_is); (case exC_579 => k_is); (case veC_580 => k_is); (case tyC_581 => k_is); (case hdC_582 => k_is); (case mD_583 => k_is); (case cD_584 => k_is); (case st_585 => k_is); (case sup_586 => k_is); (case top_587 => decide +kernel)
        case I_588 =>
          refine' PySem.AtX.init_mk ?l_589 ?c_590 ?cd_591 ?v_592 ?fl_593 ?cc_594 PySem.AtX.methForm
          (case l_589 => k_is); (case c_590 => k_is); (case cd_591 => k_is); (case v_592 => rfl); (case fl_593 => decide +kernel); (case cc_594 => k_is)
        refine' ⟨PySem.AtX.ex_sub KX HG ?aC_595 ?xL_596 ?ne_597 ?sa_598 ?ga_599 ?gg_600 ?noN_601 ?iC_602 ?tC_603 ?kC_604 ?exC_605 ?veC_606 ?tyC_607 ?hdC_608 ?mD_609 ?cD_610 ?st_611 ?sup_612 ?top_613 ?I_614, ?_⟩
        (case aC_595 => k_is); (case xL_596 => k_is); (case ne_597 => decide +kernel)
        (case sa_598 => k_is); (case ga_599 => k_is); (case gg_600 => k_is); (case noN_601 => k_is); (case iC_602 => k_is); (case tC_603 => k_is); (case kC_604 => k_is); (case exC_605 => k_is); (case veC_606 => k_is); (case tyC_607 => k_is); (case hdC_608 => k_is); (case mD_609 => k_is); (case cD_610 => k_is); (case st_611 => k_is); (case sup_612 => k_is); (case top_613 => decide +kernel)
        case I_614 =>
          refine' PySem.AtX.init_mk ?l_615 ?c_616 ?cd_617 ?v_618 ?fl_619 ?cc_620 PySem.AtX.methForm
          (case l_615 => k_is); (case c_616 => k_is); (case cd_617 => k_is); (case v_618 => rfl); (case fl_619 => decide +kernel); (case cc_620 => k_is)
        refine' ⟨PySem.AtX.ex_sub KX HG ?aC_621 ?xL_622 ?ne_623 ?sa_624 ?ga_625 ?gg_626 ?noN_627 ?iC_628 ?tC_629 ?kC_630 ?exC_631 ?veC_632 ?tyC_633 ?hdC_634 ?mD_635 ?cD_636 ?st_637 ?sup_638 ?top_639 ?I_640, ?_⟩
        (case aC_621 => k_is); (case xL_622 => k_is); (case ne_623 => decide +kernel)
        (case sa_624 => k_is); (case ga_625 => k_is); (case gg_626 => k_is); (case noN_627 => k_is); (case iC_628 => k_is); (case tC_629 => k_is); (case kC_630 => k_is); (case exC_631 => k_is); (case veC_632 => k_is); (case tyC_633 => k_is); (case hdC_634 => k_is); (case mD_635 => k_is); (case cD_636 => k_is); (case st_637 => k_is); (case sup_638 => k_is); (case top_639 => decide +kernel)
        case I_640 =>
          refine' PySem.AtX.init_mk ?l_641 ?c_642 ?cd_643 ?v_644 ?fl_645 ?cc_646 PySem.AtX.methForm
          (case l_641 => k_is); (case c_642 => k_is); (case cd_643 => k_is); (case v_644 => rfl); (case fl_645 => decide +kernel); (case cc_646 => k_is)
        refine' ⟨PySem.AtX.ex_sub KX HG ?aC_647 ?xL_648 ?ne_649 ?sa_650 ?ga_651 ?gg_652 ?noN_653 ?iC_654 ?tC_655 ?kC_656 ?exC_657 ?veC_658 ?tyC_659 ?hdC_660 ?mD_661 ?cD_662 ?st_663 ?sup_664 ?top_665 ?I_666, ?_⟩
        (case aC_647 => k_is); (case xL_648 => k_is); (case ne_649 => decide +kernel)
        (case sa_650 => k_is); (case ga_651 => k_is); (case gg_652 => k_is); (case noN_653 => k_is); (case iC_654 => k_is); (case tC_655 => k_is); (case kC_656 => k_is); (case exC_657 => k_is); (case veC_658 => k_is); (case tyC_659 => k_is); (case hdC_660 => k_is); (case mD_661 => k_is); (case cD_662 => k_is); (case st_663 => k_is); (case sup_664 => k_is); (case top_665 => decide +kernel)
        case I_666 =>
          refine' PySem.AtX.init_mk ?l_667 ?c_668 ?cd_669 ?v_670 ?fl_671 ?cc_672 PySem.AtX.methForm
          (case l_667 => k_is); (case c_668 => k_is); (case cd_669 => k_is); (case v_670 => rfl); (case fl_671 => decide +kernel); (case cc_672 => k_is)
        refine' ⟨PySem.AtX.ex_sub KX HG ?aC_673 ?xL_674 ?ne_675 ?sa_676 ?ga_677 ?gg_678 ?noN_679 ?iC_680 ?tC_681 ?kC_682 ?exC_683 ?veC_684 ?tyC_685 ?hdC_686 ?mD_687 ?cD_688 ?st_689 ?sup_690 ?top_691 ?I_692, ?_⟩
        (case aC_673 => k_is); (case xL_674 => k_is); (case ne_675 => decide +kernel)
        (case sa_676 => k_is); (case ga_677 => k_is); (case gg_678 => k_is); (case noN_679 => k_is); (case iC_680 => k_is); (case tC_681 => k_is); (case kC_682 => k_is); (case exC_683 => k_is); (case veC_684 => k_is); (case tyC_685 => k_is); (case hdC_686 => k_is); (case mD_687 => k_is); (case cD_688 => k_is); (case st_689 => k_is); (case sup_690 => k_is); (case top_691 => decide +kernel)
        case I_692 =>
          refine' PySem.AtX.init_mk ?l_693 ?c_694 ?cd_695 ?v_696 ?fl_697 ?cc_698 PySem.AtX.methForm
          (case l_693 => k_is); (case c_694 => k_is); (case cd_695 => k_is); (case v_696 => rfl); (case fl_697 => decide +kernel); (case cc_698 => k_is)
        refine' ⟨PySem.AtX.ex_sub KX HG ?aC_699 ?xL_700 ?ne_701 ?sa_702 ?ga_703 ?gg_704 ?noN_705 ?iC_706 ?tC_707 ?kC_708 ?exC_709 ?veC_710 ?tyC_711 ?hdC_712 ?mD_713 ?cD_714 ?st_715 ?sup_716 ?top_717 ?I_718, ?_⟩
        (case aC_699 => k_is); (case xL_700 => k_is); (case ne_701 => decide +kernel)
        (case sa_702 => k_is); (case ga_703 => k_is); (case gg_704 => k_is); (case noN_705 => k_is); (case iC_706 => k_is); (case tC_707 => k_is); (case kC_708 => k_is); (case exC_709 => k_is); (case veC_710 => k_is); (case tyC_711 => k_is); (case hdC_712 => k_is); (case mD_713 => k_is); (case cD_714 => k_is); (case st_715 => k_is); (case sup_716 => k_is); (case top_717 => decide +kernel)
        case I_718 =>
          refine' PySem.AtX.init_mk ?l_719 ?c_720 ?cd_721 ?v_722 ?fl_723 ?cc_724 PySem.AtX.methForm
          (case l_719 => k_is); (case c_720 => k_is); (case cd_721 => k_is); (case v_722 => rfl); (case fl_723 => decide +kernel); (case cc_724 => k_is)
        refine' ⟨PySem.AtX.ex_sub KX HG ?aC_725 ?xL_726 ?ne_727 ?sa_728 ?ga_729 ?gg_730 ?noN_731 ?iC_732 ?tC_733 ?kC_734 ?exC_735 ?veC_736 ?tyC_737 ?hdC_738 ?mD_739 ?cD_740 ?st_741 ?sup_742 ?top_743 ?I_744, ?_⟩
        (case aC_725 => k_is); (case xL_726 => k_is); (case ne_727 => decide +kernel)
        (case sa_728 => k_is); (case ga_729 => k_is); (case gg_730 => k_is); (case noN_731 => k_is); (case iC_732 => k_is); (case tC_733 => k_is); (case kC_734 => k_is); (case exC_735 => k_is); (case veC_736 => k_is); (case tyC_737 => k_is); (case hdC_738 => k_is); (case mD_739 => k_is); (case cD_740 => k_is); (case st_741 => k_is); (case sup_742 => k_is); (case top_743 => decide +kernel)
        case I_744 =>
          refine' PySem.AtX.init_mk ?l_745 ?c_746 ?cd_747 ?v_748 ?fl_749 ?cc_750 PySem.AtX.methForm
          (case l_745 => k_is); (case c_746 => k_is); (case cd_747 => k_is); (case v_748 => rfl); (case fl_749 => decide +kernel); (case cc_750 => k_is)
        refine' ⟨PySem.AtX.ex_sub KX HG ?aC_751 ?xL_752 ?ne_753 ?sa_754 ?ga_755 ?gg_756 ?noN_757 ?iC_758 ?tC_759 ?kC_760 ?exC_761 ?veC_762 ?tyC_763 ?hdC_764 ?mD_765 ?cD_766 ?st_767 ?sup_768 ?top_769 ?I_770, ?_⟩
        (case aC_751 => k_is); (case xL_752 => k_is); (case ne_753 => decide +kernel)
        (case sa_754 => k_is); (case ga_755 => k_is); (case gg_756 => k_is); (case noN_757 => k_is); (case iC_758 => k_is); (case tC_759 => k_is); (case kC_760 => k_is); (case exC_761 => k_is); (case veC_762 => k_is); (case tyC_763 => k_is); (case hdC_764 => k_is); (case mD_765 => k_is); (case cD_766 => k_is); (case st_767 => k_is); (case sup_768 => k_is); (case top_769 => decide +kernel)
        case I_770 =>
          refine' PySem.AtX.init_mk ?l_771 ?c_772 ?cd_773 ?v_774 ?fl_775 ?cc_776 PySem.AtX.methForm
          (case l_771 => k_is); (case c_772 => k_is); (case cd_773 => k_is); (case v_774 => rfl); (case fl_775 => decide +kernel); (case cc_776 => k_is)
        trivial
    case zp_6 =>
        refine' ⟨FL.PairIn.mk ?a_777 ?b_778 ?c_779 ?d_780 ?e_781 ?f_782, ?_⟩
        (case a_777 => k_is); (case b_778 => k_is); (case c_779 => k_is); (case d_780 => k_is); (case e_781 => k_is); (case f_782 => k_is)
        trivial
    case zq_7 => decide +kernel
    case zs_8 => k_is
    case zx_9 =>
        refine' FL.xc_mk ?xb_783 ?xh_784 ?nd_785 ?hv_786
        case xb_783 =>
          refine' FL.XC.base ?ns_787 ?xl_788 ?ty_789 ?cl_790 ?ga_791 ?gg_792 ?be_793 ?cc_794 ?sp_795 ?tk_796 ?ob_797
          (case ns_787 => k_is); (case xl_788 => k_is); (case ty_789 => k_is); (case cl_790 => k_is); (case ga_791 => k_is); (case gg_792 => k_is); (case be_793 => k_is); (case cc_794 => k_is); (case sp_795 => k_is); (case tk_796 => k_is); (case ob_797 => k_is)
        case xh_784 =>
          refine' FL.AllXc.cons ?q_798 ?r_799
          case q_798 =>
            refine' FL.XC.sub ?ns_800 ?xl_801 ?ne_802 ?ty_803 ?cl_804 ?ga_805 ?gg_806 ?be_807 ?cc_808 ?sp_809 ?tk_810 ?ob_811
            (case ns_800 => k_is); (case xl_801 => k_is); (case ne_802 => decide); (case ty_803 => k_is); (case cl_804 => k_is); (case ga_805 => k_is); (case gg_806 => k_is); (case be_807 => k_is); (case cc_808 => k_is); (case sp_809 => k_is); (case tk_810 => k_is); (case ob_811 => k_is)
          case r_799 =>
           refine' FL.AllXc.cons ?q_812 ?r_813
           case q_812 =>
             refine' FL.XC.sub ?ns_814 ?xl_815 ?ne_816 ?ty_817 ?cl_818 ?ga_819 ?gg_820 ?be_821 ?cc_822 ?sp_823 ?tk_824 ?ob_825
             (case ns_814 => k_is); (case xl_815 => k_is); (case ne_816 => decide); (case ty_817 => k_is); (case cl_818 => k_is); (case ga_819 => k_is); (case gg_820 => k_is); (case be_821 => k_is); (case cc_822 => k_is); (case sp_823 => k_is); (case tk_824 => k_is); (case ob_825 => k_is)
           case r_813 =>
            refine' FL.AllXc.cons ?q_826 ?r_827
            case q_826 =>
              refine' FL.XC.sub ?ns_828 ?xl_829 ?ne_830 ?ty_831 ?cl_832 ?ga_833 ?gg_834 ?be_835 ?cc_836 ?sp_837 ?tk_838 ?ob_839
              (case ns_828 => k_is); (case xl_829 => k_is); (case ne_830 => decide); (case ty_831 => k_is); (case cl_832 => k_is); (case ga_833 => k_is); (case gg_834 => k_is); (case be_835 => k_is); (case cc_836 => k_is); (case sp_837 => k_is); (case tk_838 => k_is); (case ob_839 => k_is)
            case r_827 =>
             refine' FL.AllXc.cons ?q_840 ?r_841
             case q_840 =>
               refine' FL.XC.sub ?ns_842 ?xl_843 ?ne_844 ?ty_845 ?cl_846 ?ga_847 ?gg_848 ?be_849 ?cc_850 ?sp_851 ?tk_852 ?ob_853
               (case ns_842 => k_is); (case xl_843 => k_is); (case ne_844 => decide); (case ty_845 => k_is); (case cl_846 => k_is); (case ga_847 => k_is); (case gg_848 => k_is); (case be_849 => k_is); (case cc_850 => k_is); (case sp_851 => k_is); (case tk_852 => k_is); (case ob_853 => k_is)
             case r_841 =>
              refine' FL.AllXc.cons ?q_854 ?r_855
              case q_854 =>
                refine' FL.XC.sub ?ns_856 ?xl_857 ?ne_858 ?ty_859 ?cl_860 ?ga_861 ?gg_862 ?be_863 ?cc_864 ?sp_865 ?tk_866 ?ob_867
                (case ns_856 => k_is); (case xl_857 => k_is); (case ne_858 => decide); (case ty_859 => k_is); (case cl_860 => k_is); (case ga_861 => k_is); (case gg_862 => k_is); (case be_863 => k_is); (case cc_864 => k_is); (case sp_865 => k_is); (case tk_866 => k_is); (case ob_867 => k_is)
              case r_855 =>
               refine' FL.AllXc.cons ?q_868 ?r_869
               case q_868 =>
                 refine' FL.XC.sub ?ns_870 ?xl_871 ?ne_872 ?ty_873 ?cl_874 ?ga_875 ?gg_876 ?be_877 ?cc_878 ?sp_879 ?tk_880 ?ob_881
                 (case ns_870 => k_is); (case xl_871 => k_is); (case ne_872 => decide); (case ty_873 => k_is); (case cl_874 => k_is); (case ga_875 => k_is); (case gg_876 => k_is); (case be_877 => k_is); (case cc_878 => k_is); (case sp_879 => k_is); (case tk_880 => k_is); (case ob_881 => k_is)
               case r_869 =>
                refine' FL.AllXc.cons ?q_882 ?r_883
                case q_882 =>
                  refine' FL.XC.sub ?ns_884 ?xl_885 ?ne_886 ?ty_887 ?cl_888 ?ga_889 ?gg_890 ?be_891 ?cc_892 ?sp_893 ?tk_894 ?ob_895
                  (case ns_884 => k_is); (case xl_885 => k_is); (case ne_886 => decide); (case ty_887 => k_is); (case cl_888 => k_is); (case ga_889 => k_is); (case gg_890 => k_is); (case be_891 => k_is); (case cc_892 => k_is); (case sp_893 => k_is); (case tk_894 => k_is); (case ob_895 => k_is)
                case r_883 =>
                 refine' FL.AllXc.cons ?q_896 ?r_897
                 case q_896 =>
                   refine' FL.XC.sub ?ns_898 ?xl_899 ?ne_900 ?ty_901 ?cl_902 ?ga_903 ?gg_904 ?be_905 ?cc_906 ?sp_907 ?tk_908 ?ob_909
                   (case ns_898 => k_is); (case xl_899 => k_is); (case ne_900 => decide); (case ty_901 => k_is); (case cl_902 => k_is); (case ga_903 => k_is); (case gg_904 => k_is); (case be_905 => k_is); (case cc_906 => k_is); (case sp_907 => k_is); (case tk_908 => k_is); (case ob_909 => k_is)
                 case r_897 =>
                  refine' FL.AllXc.cons ?q_910 ?r_911
                  case q_910 =>
                    refine' FL.XC.sub ?ns_912 ?xl_913 ?ne_914 ?ty_915 ?cl_916 ?ga_917 ?gg_918 ?be_919 ?cc_920 ?sp_921 ?tk_922 ?ob_923
                    (case ns_912 => k_is); (case xl_913 => k_is); (case ne_914 => decide); (case ty_915 => k_is); (case cl_916 => k_is); (case ga_917 => k_is); (case gg_918 => k_is); (case be_919 => k_is); (case cc_920 => k_is); (case sp_921 => k_is); (case tk_922 => k_is); (case ob_923 => k_is)
                  case r_911 =>
                   refine' FL.AllXc.cons ?q_924 ?r_925
                   case q_924 =>
                     refine' FL.XC.sub ?ns_926 ?xl_927 ?ne_928 ?ty_929 ?cl_930 ?ga_931 ?gg_932 ?be_933 ?cc_934 ?sp_935 ?tk_936 ?ob_937
                     (case ns_926 => k_is); (case xl_927 => k_is); (case ne_928 => decide); (case ty_929 => k_is); (case cl_930 => k_is); (case ga_931 => k_is); (case gg_932 => k_is); (case be_933 => k_is); (case cc_934 => k_is); (case sp_935 => k_is); (case tk_936 => k_is); (case ob_937 => k_is)
                   case r_925 =>
                    refine' FL.AllXc.cons ?q_938 ?r_939
                    case q_938 =>
                      refine' FL.XC.sub ?ns_940 ?xl_941 ?ne_942 ?ty_943 ?cl_944 ?ga_945 ?gg_946 ?be_947 ?cc_948 ?sp_949 ?tk_950 ?ob_951
                      (case ns_940 => k_is); (case xl_941 => k_is); (case ne_942 => decide); (case ty_943 => k_is); (case cl_944 => k_is); (case ga_945 => k_is); (case gg_946 => k_is); (case be_947 => k_is); (case cc_948 => k_is); (case sp_949 => k_is); (case tk_950 => k_is); (case ob_951 => k_is)
                    case r_939 =>
                     refine' FL.AllXc.cons ?q_952 ?r_953
                     case q_952 =>
                       refine' FL.XC.sub ?ns_954 ?xl_955 ?ne_956 ?ty_957 ?cl_958 ?ga_959 ?gg_960 ?be_961 ?cc_962 ?sp_963 ?tk_964 ?ob_965
                       (case ns_954 => k_is); (case xl_955 => k_is); (case ne_956 => decide); (case ty_957 => k_is); (case cl_958 => k_is); (case ga_959 => k_is); (case gg_960 => k_is); (case be_961 => k_is); (case cc_962 => k_is); (case sp_963 => k_is); (case tk_964 => k_is); (case ob_965 => k_is)
                     case r_953 =>
                      refine' FL.AllXc.cons ?q_966 ?r_967
                      case q_966 =>
                        refine' FL.XC.sub ?ns_968 ?xl_969 ?ne_970 ?ty_971 ?cl_972 ?ga_973 ?gg_974 ?be_975 ?cc_976 ?sp_977 ?tk_978 ?ob_979
                        (case ns_968 => k_is); (case xl_969 => k_is); (case ne_970 => decide); (case ty_971 => k_is); (case cl_972 => k_is); (case ga_973 => k_is); (case gg_974 => k_is); (case be_975 => k_is); (case cc_976 => k_is); (case sp_977 => k_is); (case tk_978 => k_is); (case ob_979 => k_is)
                      case r_967 =>
                       refine' FL.AllXc.cons ?q_980 ?r_981
                       case q_980 =>
                         refine' FL.XC.sub ?ns_982 ?xl_983 ?ne_984 ?ty_985 ?cl_986 ?ga_987 ?gg_988 ?be_989 ?cc_990 ?sp_991 ?tk_992 ?ob_993
                         (case ns_982 => k_is); (case xl_983 => k_is); (case ne_984 => decide); (case ty_985 => k_is); (case cl_986 => k_is); (case ga_987 => k_is); (case gg_988 => k_is); (case be_989 => k_is); (case cc_990 => k_is); (case sp_991 => k_is); (case tk_992 => k_is); (case ob_993 => k_is)
                       case r_981 =>
                        refine' FL.AllXc.cons ?q_994 ?r_995
                        case q_994 =>
                          refine' FL.XC.sub ?ns_996 ?xl_997 ?ne_998 ?ty_999 ?cl_1000 ?ga_1001 ?gg_1002 ?be_1003 ?cc_1004 ?sp_1005 ?tk_1006 ?ob_1007
                          (case ns_996 => k_is); (case xl_997 => k_is); (case ne_998 => decide); (case ty_999 => k_is); (case cl_1000 => k_is); (case ga_1001 => k_is); (case gg_1002 => k_is); (case be_1003 => k_is); (case cc_1004 => k_is); (case sp_1005 => k_is); (case tk_1006 => k_is); (case ob_1007 => k_is)
                        case r_995 =>
                         refine' FL.AllXc.cons ?q_1008 ?r_1009
                         case q_1008 =>
                           refine' FL.XC.sub ?ns_1010 ?xl_1011 ?ne_1012 ?ty_1013 ?cl_1014 ?ga_1015 ?gg_1016 ?be_1017 ?cc_1018 ?sp_1019 ?tk_1020 ?ob_1021
                           (case ns_1010 => k_is); (case xl_1011 => k_is); (case ne_1012 => decide); (case ty_1013 => k_is); (case cl_1014 => k_is); (case ga_1015 => k_is); (case gg_1016 => k_is); (case be_1017 => k_is); (case cc_1018 => k_is); (case sp_1019 => k_is); (case tk_1020 => k_is); (case ob_1021 => k_is)
                         case r_1009 =>
                          refine' FL.AllXc.cons ?q_1022 ?r_1023
                          case q_1022 =>
                            refine' FL.XC.sub ?ns_1024 ?xl_1025 ?ne_1026 ?ty_1027 ?cl_1028 ?ga_1029 ?gg_1030 ?be_1031 ?cc_1032 ?sp_1033 ?tk_1034 ?ob_1035
                            (case ns_1024 => k_is); (case xl_1025 => k_is); (case ne_1026 => decide); (case ty_1027 => k_is); (case cl_1028 => k_is); (case ga_1029 => k_is); (case gg_1030 => k_is); (case be_1031 => k_is); (case cc_1032 => k_is); (case sp_1033 => k_is); (case tk_1034 => k_is); (case ob_1035 => k_is)
                          case r_1023 =>
                           refine' FL.AllXc.cons ?q_1036 ?r_1037
                           case q_1036 =>
                             refine' FL.XC.sub ?ns_1038 ?xl_1039 ?ne_1040 ?ty_1041 ?cl_1042 ?ga_1043 ?gg_1044 ?be_1045 ?cc_1046 ?sp_1047 ?tk_1048 ?ob_1049
                             (case ns_1038 => k_is); (case xl_1039 => k_is); (case ne_1040 => decide); (case ty_1041 => k_is); (case cl_1042 => k_is); (case ga_1043 => k_is); (case gg_1044 => k_is); (case be_1045 => k_is); (case cc_1046 => k_is); (case sp_1047 => k_is); (case tk_1048 => k_is); (case ob_1049 => k_is)
                           case r_1037 =>
                            refine' FL.AllXc.cons ?q_1050 ?r_1051
                            case q_1050 =>
                              refine' FL.XC.sub ?ns_1052 ?xl_1053 ?ne_1054 ?ty_1055 ?cl_1056 ?ga_1057 ?gg_1058 ?be_1059 ?cc_1060 ?sp_1061 ?tk_1062 ?ob_1063
                              (case ns_1052 => k_is); (case xl_1053 => k_is); (case ne_1054 => decide); (case ty_1055 => k_is); (case cl_1056 => k_is); (case ga_1057 => k_is); (case gg_1058 => k_is); (case be_1059 => k_is); (case cc_1060 => k_is); (case sp_1061 => k_is); (case tk_1062 => k_is); (case ob_1063 => k_is)
                            case r_1051 =>
                             refine' FL.AllXc.cons ?q_1064 ?r_1065
                             case q_1064 =>
                               refine' FL.XC.sub ?ns_1066 ?xl_1067 ?ne_1068 ?ty_1069 ?cl_1070 ?ga_1071 ?gg_1072 ?be_1073 ?cc_1074 ?sp_1075 ?tk_1076 ?ob_1077
                               (case ns_1066 => k_is); (case xl_1067 => k_is); (case ne_1068 => decide); (case ty_1069 => k_is); (case cl_1070 => k_is); (case ga_1071 => k_is); (case gg_1072 => k_is); (case be_1073 => k_is); (case cc_1074 => k_is); (case sp_1075 => k_is); (case tk_1076 => k_is); (case ob_1077 => k_is)
                             case r_1065 =>
                              refine' FL.AllXc.cons ?q_1078 ?r_1079
                              case q_1078 =>
                                refine' FL.XC.sub ?ns_1080 ?xl_1081 ?ne_1082 ?ty_1083 ?cl_1084 ?ga_1085 ?gg_1086 ?be_1087 ?cc_1088 ?sp_1089 ?tk_1090 ?ob_1091
                                (case ns_1080 => k_is); (case xl_1081 => k_is); (case ne_1082 => decide); (case ty_1083 => k_is); (case cl_1084 => k_is); (case ga_1085 => k_is); (case gg_1086 => k_is); (case be_1087 => k_is); (case cc_1088 => k_is); (case sp_1089 => k_is); (case tk_1090 => k_is); (case ob_1091 => k_is)
                              case r_1079 =>
                               refine' FL.AllXc.cons ?q_1092 ?r_1093
                               case q_1092 =>
                                 refine' FL.XC.sub ?ns_1094 ?xl_1095 ?ne_1096 ?ty_1097 ?cl_1098 ?ga_1099 ?gg_1100 ?be_1101 ?cc_1102 ?sp_1103 ?tk_1104 ?ob_1105
                                 (case ns_1094 => k_is); (case xl_1095 => k_is); (case ne_1096 => decide); (case ty_1097 => k_is); (case cl_1098 => k_is); (case ga_1099 => k_is); (case gg_1100 => k_is); (case be_1101 => k_is); (case cc_1102 => k_is); (case sp_1103 => k_is); (case tk_1104 => k_is); (case ob_1105 => k_is)
                               case r_1093 =>
                                refine' FL.AllXc.cons ?q_1106 ?r_1107
                                case q_1106 =>
                                  refine' FL.XC.sub ?ns_1108 ?xl_1109 ?ne_1110 ?ty_1111 ?cl_1112 ?ga_1113 ?gg_1114 ?be_1115 ?cc_1116 ?sp_1117 ?tk_1118 ?ob_1119
                                  (case ns_1108 => k_is); (case xl_1109 => k_is); (case ne_1110 => decide); (case ty_1111 => k_is); (case cl_1112 => k_is); (case ga_1113 => k_is); (case gg_1114 => k_is); (case be_1115 => k_is); (case cc_1116 => k_is); (case sp_1117 => k_is); (case tk_1118 => k_is); (case ob_1119 => k_is)
                                case r_1107 =>
                                 refine' FL.AllXc.cons ?q_1120 ?r_1121
                                 case q_1120 =>
                                   refine' FL.XC.sub ?ns_1122 ?xl_1123 ?ne_1124 ?ty_1125 ?cl_1126 ?ga_1127 ?gg_1128 ?be_1129 ?cc_1130 ?sp_1131 ?tk_1132 ?ob_1133
                                   (case ns_1122 => k_is); (case xl_1123 => k_is); (case ne_1124 => decide); (case ty_1125 => k_is); (case cl_1126 => k_is); (case ga_1127 => k_is); (case gg_1128 => k_is); (case be_1129 => k_is); (case cc_1130 => k_is); (case sp_1131 => k_is); (case tk_1132 => k_is); (case ob_1133 => k_is)
                                 case r_1121 =>
                                  refine' FL.AllXc.cons ?q_1134 ?r_1135
                                  case q_1134 =>
                                    refine' FL.XC.sub ?ns_1136 ?xl_1137 ?ne_1138 ?ty_1139 ?cl_1140 ?ga_1141 ?gg_1142 ?be_1143 ?cc_1144 ?sp_1145 ?tk_1146 ?ob_1147
                                    (case ns_1136 => k_is); (case xl_1137 => k_is); (case ne_1138 => decide); (case ty_1139 => k_is); (case cl_1140 => k_is); (case ga_1141 => k_is); (case gg_1142 => k_is); (case be_1143 => k_is); (case cc_1144 => k_is); (case sp_1145 => k_is); (case tk_1146 => k_is); (case ob_1147 => k_is)
                                  case r_1135 =>
                                   refine' FL.AllXc.cons ?q_1148 ?r_1149
                                   case q_1148 =>
                                     refine' FL.XC.sub ?ns_1150 ?xl_1151 ?ne_1152 ?ty_1153 ?cl_1154 ?ga_1155 ?gg_1156 ?be_1157 ?cc_1158 ?sp_1159 ?tk_1160 ?ob_1161
                                     (case ns_1150 => k_is); (case xl_1151 => k_is); (case ne_1152 => decide); (case ty_1153 => k_is); (case cl_1154 => k_is); (case ga_1155 => k_is); (case gg_1156 => k_is); (case be_1157 => k_is); (case cc_1158 => k_is); (case sp_1159 => k_is); (case tk_1160 => k_is); (case ob_1161 => k_is)
                                   case r_1149 =>
                                    refine' FL.AllXc.cons ?q_1162 ?r_1163
                                    case q_1162 =>
                                      refine' FL.XC.sub ?ns_1164 ?xl_1165 ?ne_1166 ?ty_1167 ?cl_1168 ?ga_1169 ?gg_1170 ?be_1171 ?cc_1172 ?sp_1173 ?tk_1174 ?ob_1175
                                      (case ns_1164 => k_is); (case xl_1165 => k_is); (case ne_1166 => decide); (case ty_1167 => k_is); (case cl_1168 => k_is); (case ga_1169 => k_is); (case gg_1170 => k_is); (case be_1171 => k_is); (case cc_1172 => k_is); (case sp_1173 => k_is); (case tk_1174 => k_is); (case ob_1175 => k_is)
                                    case r_1163 =>
                                     exact FL.AllXc.nil
        (case nd_785 => decide +kernel); (case hv_786 => k_is)
    case zi_10 =>
        refine' ⟨⟨.type "bool", FL.ClsIn.blt ?a_1176 (by decide +kernel) (by decide), L2.kit_ty (by decide +kernel)⟩, ?_⟩
        (case a_1176 => k_is)
        refine' ⟨⟨.type "int", FL.ClsIn.blt ?a_1177 (by decide +kernel) (by decide), L2.kit_ty (by decide +kernel)⟩, ?_⟩
        (case a_1177 => k_is)
        trivial
    case zb_11 =>
        refine' ⟨⟨.type "bool", FL.ClsIn.blt ?a_1178 (by decide +kernel) (by decide), L2.kit_ty (by decide +kernel)⟩, ?_⟩
        (case a_1178 => k_is)
        refine' ⟨⟨.type "int", FL.ClsIn.blt ?a_1179 (by decide +kernel) (by decide), L2.kit_ty (by decide +kernel)⟩, ?_⟩
        (case a_1179 => k_is)
        trivial
    case zgo_12 =>
    intro Y
    obtain ⟨a, fd, h1, h2, h3⟩ := Y.fns "law" K00.f_law rfl
    have e := hmg.symm.trans h1
    cases e
    obtain ⟨oc, od, kV, doc, pm, an, cdv, ct, osl, rfl, lk, hcd⟩ := h2.ex
    exact ⟨_, fun s v => .of_eq rfl, fun bs _ _ => FL.law_promise Y K00.lvl rfl rfl h2 K00.plain⟩
