import PyProof.Rows.All
import Wide.All
import OpenK.AllK
import Wide.FinOn
import HandS.ForMost
import HandS.ExcCtx
import HandS.HotCalls
import HandS.ExcIs
import HandS.CallSlots
import HandS.IsInst
import HandS.Zip
import HandS.Defaults
import HandS.TupAny
import HandS.TupMul
import HandS.Deep
import HandS.Conv
import HandS.SortOrd
import HandS.SetKeys
import HandS.Style
import HandS.Head0
import HandS.Head1
import HandS.Head2
import HandS.HeadEnd
import HandS.HeadHook1
import HandS.HeadHook2
import KE.GoesMore
import HandS.CallLocal
import KE.KDictZip
import PySem.Challenge.RW_mendhouse_k20_whole_part_of_a_tree
set_option Elab.async false
set_option linter.all false
set_option maxRecDepth 100000
set_option maxHeartbeats 4000000
/-! Z: deep data, frames' abstract states, and the denotations of Python's constructs -/
namespace Z
open PySem PySem.Spec PyProof.Rows L2

/-- deep data: what never changes (or is not changed any more) -/
inductive D where
  | non | bl (b : Bool) | int (i : Int) | str (s : Str)
  | tup (xs : List D) | lst (xs : List D)
  | dct (ks : List Key) (ds : List D) | dcT (ks : List (List Key)) (ds : List D)
  | fn (n : Nat) | scr (ns : List Int)

/-- the ground: the written part, where defs and error classes stand -/
structure Gm where
  K : PySem.W.Frag
  fa : Nat → Addr
  xa : Nat → Addr

mutual
inductive Rep (g : Gm) (L : Addr → Prop) (H : Hp) : D → V → Prop
  | non : Rep g L H .non .non
  | bl (b : Bool) : Rep g L H (.bl b) (.bl b)
  | int (i : Int) : Rep g L H (.int i) (.int i)
  | str (s : Str) (ok : PyData.strOk s = true) : Rep g L H (.str s) (.str s)
  | tup {a : Addr} {vs : List V} {ds : List D} : H a = some (.tup vs) → Reps g L H ds vs → Rep g L H (.tup ds) (.ref a)
  | lst {a : Addr} {vs : List V} {ds : List D} : L a → H a = some (.lst vs) → Reps g L H ds vs → Rep g L H (.lst ds) (.ref a)
  | scF {a : Addr} {o : Obj} {ns : List Int} : L a → H a = some (.frz o (.lst (ns.map V.int))) → Rep g L H (.scr ns) (.ref a)
  | scK {a : Addr} {ns : List Int} : (∀ H', SqL g.K H' a (ns.map V.int)) → Rep g L H (.scr ns) (.ref a)
  | dct {a : Addr} {vs : List V} {ks : List Key} {ds : List D} : L a → H a = some (.dK (ks.zip vs)) → ks.length = vs.length → Reps g L H ds vs → Rep g L H (.dct ks ds) (.ref a)
  | dcT {a : Addr} {vs : List V} {ks : List (List Key)} {ds : List D} : L a → H a = some (.dT (ks.zip vs)) → ks.length = vs.length → Reps g L H ds vs → Rep g L H (.dcT ks ds) (.ref a)
  | fn (n : Nat) : Rep g L H (.fn n) (.ref (g.fa n))
inductive Reps (g : Gm) (L : Addr → Prop) (H : Hp) : List D → List V → Prop
  | nil : Reps g L H [] []
  | cons {d : D} {v : V} {ds : List D} {vs : List V} : Rep g L H d v → Reps g L H ds vs → Reps g L H (d :: ds) (v :: vs)
end

section
variable {g : Gm} {L L' : Addr → Prop} {H H' : Hp}
mutual
theorem Rep.mono (hL : ∀ a, L a → L' a) (hT : ∀ a vs, H a = some (.tup vs) → H' a = some (.tup vs)) (hK : ∀ a o, L a → H a = some o → H' a = some o) : ∀ {d : D} {v : V}, Rep g L H d v → Rep g L' H' d v
  | _, _, .non => .non
  | _, _, .bl b => .bl b
  | _, _, .int i => .int i
  | _, _, .str s o => .str s o
  | _, _, .tup h r => .tup (hT _ _ h) (Reps.mono hL hT hK r)
  | _, _, .lst l h r => .lst (hL _ l) (hK _ _ l h) (Reps.mono hL hT hK r)
  | _, _, .scF l h => .scF (hL _ l) (hK _ _ l h)
  | _, _, .scK h => .scK h
  | _, _, .dct l h e r => .dct (hL _ l) (hK _ _ l h) e (Reps.mono hL hT hK r)
  | _, _, .dcT l h e r => .dcT (hL _ l) (hK _ _ l h) e (Reps.mono hL hT hK r)
  | _, _, .fn n => .fn n
theorem Reps.mono (hL : ∀ a, L a → L' a) (hT : ∀ a vs, H a = some (.tup vs) → H' a = some (.tup vs)) (hK : ∀ a o, L a → H a = some o → H' a = some o) : ∀ {ds : List D} {vs : List V}, Reps g L H ds vs → Reps g L' H' ds vs
  | _, _, .nil => .nil
  | _, _, .cons h r => .cons (Rep.mono hL hT hK h) (Reps.mono hL hT hK r)
end
theorem Reps.len : ∀ {ds : List D} {vs : List V}, Reps g L H ds vs → ds.length = vs.length
  | _, _, .nil => rfl
  | _, _, .cons _ r => congrArg (· + 1) (Reps.len r)
theorem Reps.get : ∀ {ds : List D} {vs : List V} {i : Nat} {d : D}, Reps g L H ds vs → ds[i]? = some d → ∃ v, vs[i]? = some v ∧ Rep g L H d v
  | _, _, _, _, .nil, e => by simp at e
  | _, _, 0, _, .cons h _, e => by simp at e; subst e; exact ⟨_, rfl, h⟩
  | _, _, i + 1, d, .cons _ r, e => by
    obtain ⟨v, h1, h2⟩ := Reps.get (i := i) (d := d) r (by simpa using e)
    exact ⟨v, by simpa using h1, h2⟩
theorem Reps.getV : ∀ {ds : List D} {vs : List V} {i : Nat} {v : V}, Reps g L H ds vs → vs[i]? = some v → ∃ d, ds[i]? = some d ∧ Rep g L H d v
  | _, _, _, _, .nil, e => by simp at e
  | _, _, 0, _, .cons h _, e => by simp at e; subst e; exact ⟨_, rfl, h⟩
  | _, _, i + 1, d, .cons _ r, e => by
    obtain ⟨v, h1, h2⟩ := Reps.getV (i := i) (v := d) r (by simpa using e)
    exact ⟨v, by simpa using h1, h2⟩
theorem Reps.app : ∀ {ds es : List D} {vs us : List V}, Reps g L H ds vs → Reps g L H es us → Reps g L H (ds ++ es) (vs ++ us)
  | _, _, _, _, .nil, s => s
  | _, _, _, _, .cons h r, s => .cons h (Reps.app r s)
theorem Reps.one {d : D} {v : V} (h : Rep g L H d v) : Reps g L H [d] [v] := .cons h .nil
theorem Reps.take : ∀ {ds : List D} {vs : List V} (n : Nat), Reps g L H ds vs → Reps g L H (ds.take n) (vs.take n)
  | _, _, 0, _ => .nil
  | _, _, _ + 1, .nil => .nil
  | _, _, n + 1, .cons h r => .cons h (Reps.take n r)
theorem Reps.drop : ∀ {ds : List D} {vs : List V} (n : Nat), Reps g L H ds vs → Reps g L H (ds.drop n) (vs.drop n)
  | _, _, 0, r => r
  | _, _, _ + 1, .nil => .nil
  | _, _, n + 1, .cons _ r => Reps.drop n r
theorem Reps.set : ∀ {ds : List D} {vs : List V} (n : Nat) {d : D} {v : V}, Rep g L H d v → Reps g L H ds vs → Reps g L H (ds.set n d) (vs.set n v)
  | _, _, _, _, _, _, .nil => .nil
  | _, _, 0, _, _, h, .cons _ r => .cons h r
  | _, _, n + 1, _, _, h, .cons q r => .cons q (Reps.set n h r)
theorem Reps.rev : ∀ {ds : List D} {vs : List V}, Reps g L H ds vs → Reps g L H ds.reverse vs.reverse
  | _, _, .nil => .nil
  | _, _, .cons h r => by
    rw [List.reverse_cons, List.reverse_cons]
    exact Reps.app (Reps.rev r) (.one h)
end

/-- the content of a mutable thing that stands at a, tracked -/
def OwnC (g : Gm) (L : Addr → Prop) (H : Hp) (d : D) (a : Addr) : Prop := match d with
  | .lst ds => ∃ vs, H a = some (.lst vs) ∧ Reps g L H ds vs
  | .dct ks ds => ∃ vs, H a = some (.dK (ks.zip vs)) ∧ ks.length = vs.length ∧ Reps g L H ds vs
  | .dcT ks ds => ∃ vs, H a = some (.dT (ks.zip vs)) ∧ ks.length = vs.length ∧ Reps g L H ds vs
  | _ => False
/-- what a value reads as now -/
def Cur (g : Gm) (L : Addr → Prop) (H : Hp) (d : D) (v : V) : Prop := Rep g L H d v ∨ ∃ a, v = .ref a ∧ OwnC g L H d a

/-- a slot's abstract state -/
inductive SV where
  | un | val (d : D) | ow (b : Bool) (d : D) | lck (d : D)
abbrev Fr := List SV

section
variable (g : Gm) (L : Addr → Prop) (H : Hp)
def SlotOk : SV → Option (Option V) → Prop
  | .un, _ => True
  | .val d, o => ∃ v, o = some (some v) ∧ Rep g L H d v
  | .ow _ d, o => ∃ a, o = some (some (.ref a)) ∧ ¬ L a ∧ OwnC g L H d a
  | .lck d, o => ∃ a, o = some (some (.ref a)) ∧ ¬ L a ∧ OwnC g L H d a
end
def SV.mut : SV → Bool
  | .ow _ _ => true
  | .lck _ => true
  | _ => false
/-- what stays of a slot: a locked thing as it is; an argument's thing, though it may change -/
def SV.key : SV → Option (Option D)
  | .lck d => some (some d)
  | .ow true _ => some none
  | _ => none
def kf (A : Fr) (i : Nat) : Option (Option D) := (A[i]?).bind SV.key
theorem kf_lck {A : Fr} {i : Nat} {d : D} : kf A i = some (some d) ↔ A[i]? = some (.lck d) := by
  unfold kf
  cases A[i]? with
  | none => simp
  | some sv => cases sv with
    | ow b x => cases b <;> simp [SV.key]
    | _ => simp [SV.key]
theorem kf_arg {A : Fr} {i : Nat} : kf A i = some none ↔ ∃ d, A[i]? = some (.ow true d) := by
  unfold kf
  cases A[i]? with
  | none => simp
  | some sv => cases sv with
    | ow b x => cases b <;> simp [SV.key]
    | _ => simp [SV.key]
theorem kf_set_ne {A : Fr} {i j : Nat} {sv : SV} (h : i ≠ j) : kf (A.set i sv) j = kf A j := by unfold kf; rw [List.getElem?_set_ne h]
theorem kf_set {A : Fr} {i : Nat} {s1 s2 : SV} (e : A[i]? = some s1) (k : s2.key = s1.key) (j : Nat) : kf (A.set i s2) j = kf A j := by
  by_cases h : i = j
  · subst h
    have hi : i < A.length := by
      rcases Nat.lt_or_ge i A.length with h | h
      · exact h
      · rw [List.getElem?_eq_none h] at e; cases e
    unfold kf
    rw [List.getElem?_set_self hi, e]
    exact k
  · exact kf_set_ne h
/-- the slot i holds the owned thing at a -/
def OwnAt (A : Fr) (σ : L2.St) (i : Nat) (a : Addr) : Prop := (∃ sv, A[i]? = some sv ∧ sv.mut = true) ∧ σ[i]? = some (some (.ref a))
def Own (A : Fr) (σ : L2.St) (a : Addr) : Prop := ∃ i, OwnAt A σ i a

structure Okf (g : Gm) (L : Addr → Prop) (A : Fr) (σ : L2.St) (H : Hp) : Prop where
  len : A.length = σ.length
  dom : ∀ a, L a → ∃ o, H a = some o
  slot : ∀ (i : Nat) sv, A[i]? = some sv → SlotOk g L H sv σ[i]?
  inj : ∀ i j a, OwnAt A σ i a → OwnAt A σ j a → i = j

structure Stp (L : Addr → Prop) (A : Fr) (σ : L2.St) (H : Hp) (L' : Addr → Prop) (A' : Fr) (σ' : L2.St) (H' : Hp) : Prop where
  mono : ∀ a, L a → L' a
  new : ∀ a, L' a → L a ∨ H a = none ∨ Own A σ a
  keep : ∀ a o, H a = some o → ¬ Own A σ a → H' a = some o
  own : ∀ a, Own A' σ' a → Own A σ a ∨ H a = none
  lk : ∀ (i : Nat) (d : Option D), kf A i = some d → kf A' i = some d ∧ σ'[i]? = σ[i]?
  dom : ∀ a o, H a = some o → ∃ o', H' a = some o'

section
variable {g : Gm} {L L' L1 L_2 : Addr → Prop} {A A' A1 A2 : Fr} {σ σ' σ1 σ2 : L2.St} {H H' H1 H2 : Hp}
theorem SV.mut_ok {sv : SV} {o : Option (Option V)} (h : SlotOk g L H sv o) (m : sv.mut = true) : ∃ a d, o = some (some (.ref a)) ∧ ¬ L a ∧ OwnC g L H d a ∧ ((∃ b, sv = .ow b d) ∨ sv = .lck d) := by
  cases sv with
  | ow b d => obtain ⟨a, e, n, c⟩ := h; exact ⟨a, d, e, n, c, .inl ⟨b, rfl⟩⟩
  | lck d => obtain ⟨a, e, n, c⟩ := h; exact ⟨a, d, e, n, c, .inr rfl⟩
  | un => cases m
  | val d => cases m
theorem OwnC.here {d : D} {a : Addr} (h : OwnC g L H d a) : ∃ o, H a = some o ∧ (∀ vs, o ≠ .tup vs) := by
  cases d with
  | lst ds => obtain ⟨vs, e, _⟩ := h; exact ⟨_, e, fun _ z => nomatch z⟩
  | dct ks ds => obtain ⟨vs, e, _⟩ := h; exact ⟨_, e, fun _ z => nomatch z⟩
  | dcT ks ds => obtain ⟨vs, e, _⟩ := h; exact ⟨_, e, fun _ z => nomatch z⟩
  | _ => exact h.elim
theorem Okf.ownAt (G : Okf g L A σ H) {i : Nat} {a : Addr} (h : OwnAt A σ i a) : ¬ L a ∧ ∃ d, OwnC g L H d a ∧ ((∃ b, A[i]? = some (.ow b d)) ∨ A[i]? = some (.lck d)) := by
  obtain ⟨⟨sv, e, m⟩, es⟩ := h
  obtain ⟨b, d, e1, n, c, k⟩ := SV.mut_ok (G.slot i sv e) m
  rw [es] at e1
  cases e1
  refine ⟨n, d, c, ?_⟩
  rcases k with ⟨b, rfl⟩ | rfl
  · exact .inl ⟨b, e⟩
  · exact .inr e
theorem Okf.own_none (G : Okf g L A σ H) {a : Addr} (h : Own A σ a) : ¬ L a ∧ ∃ o, H a = some o ∧ (∀ vs, o ≠ .tup vs) := by
  obtain ⟨i, h⟩ := h
  obtain ⟨n, d, c, _⟩ := G.ownAt h
  exact ⟨n, c.here⟩
theorem Okf.not_own {a : Addr} (G : Okf g L A σ H) (h : L a ∨ H a = none ∨ ∃ vs, H a = some (.tup vs)) : ¬ Own A σ a := fun o => by
  obtain ⟨n, ob, e, t⟩ := G.own_none o
  rcases h with h | h | ⟨vs, h⟩
  · exact n h
  · rw [e] at h; cases h
  · rw [e] at h; cases h; exact t _ rfl
theorem Stp.refl : Stp L A σ H L A σ H := ⟨fun _ h => h, fun _ h => .inl h, fun _ _ h _ => h, fun _ h => .inl h, fun _ _ h => ⟨h, rfl⟩, fun _ o h => ⟨o, h⟩⟩
theorem Stp.trans (a : Stp L A σ H L1 A1 σ1 H1) (b : Stp L1 A1 σ1 H1 L_2 A2 σ2 H2) : Stp L A σ H L_2 A2 σ2 H2 where
  mono := fun x h => b.mono x (a.mono x h)
  new := fun x h => by
    rcases b.new x h with h | h | h
    · exact a.new x h
    · cases e : H x with
      | none => exact .inr (.inl rfl)
      | some o =>
        by_cases q : Own A σ x
        · exact .inr (.inr q)
        · rw [a.keep x o e q] at h; cases h
    · rcases a.own x h with h | h
      · exact .inr (.inr h)
      · exact .inr (.inl h)
  keep := fun x o e q => b.keep x o (a.keep x o e q) fun z => by
    rcases a.own x z with z | z
    · exact q z
    · rw [e] at z; cases z
  own := fun x h => by
    rcases b.own x h with h | h
    · exact a.own x h
    · cases e : H x with
      | none => exact .inr rfl
      | some o =>
        by_cases q : Own A σ x
        · exact .inl q
        · rw [a.keep x o e q] at h; cases h
  lk := fun i d h => by
    obtain ⟨h1, h2⟩ := a.lk i d h
    obtain ⟨h3, h4⟩ := b.lk i d h1
    exact ⟨h3, h4.trans h2⟩
  dom := fun x o h => by
    obtain ⟨o1, h1⟩ := a.dom x o h
    exact b.dom x o1 h1
theorem Okf.keepT (G : Okf g L A σ H) (S : Stp L A σ H L' A' σ' H') : ∀ a vs, H a = some (.tup vs) → H' a = some (.tup vs) := fun a vs e => S.keep a _ e (G.not_own (.inr (.inr ⟨vs, e⟩)))
theorem Okf.keepL (G : Okf g L A σ H) (S : Stp L A σ H L' A' σ' H') : ∀ a o, L a → H a = some o → H' a = some o := fun a o l e => S.keep a _ e (G.not_own (.inl l))
theorem Rep.step {d : D} {v : V} (G : Okf g L A σ H) (S : Stp L A σ H L' A' σ' H') (h : Rep g L H d v) : Rep g L' H' d v := h.mono S.mono (G.keepT S) (G.keepL S)
theorem Reps.step {d : List D} {v : List V} (G : Okf g L A σ H) (S : Stp L A σ H L' A' σ' H') (h : Reps g L H d v) : Reps g L' H' d v := h.mono S.mono (G.keepT S) (G.keepL S)
theorem OwnC.move {d : D} {a : Addr} (h : OwnC g L H d a) (e : ∀ o, H a = some o → H' a = some o) (r : ∀ ds vs, Reps g L H ds vs → Reps g L' H' ds vs) : OwnC g L' H' d a := by
  cases d with
  | lst ds => obtain ⟨vs, q, k⟩ := h; exact ⟨vs, e _ q, r _ _ k⟩
  | dct ks ds => obtain ⟨vs, q, l, k⟩ := h; exact ⟨vs, e _ q, l, r _ _ k⟩
  | dcT ks ds => obtain ⟨vs, q, l, k⟩ := h; exact ⟨vs, e _ q, l, r _ _ k⟩
  | _ => exact h.elim
theorem OwnC.step {d : D} {a : Addr} (G : Okf g L A σ H) (S : Stp L A σ H L' A' σ' H') (n : ¬ Own A σ a) (h : OwnC g L H d a) : OwnC g L' H' d a :=
  h.move (fun o e => S.keep a o e n) fun _ _ r => r.step G S
theorem OwnC.rep {d : D} {a : Addr} (h : OwnC g L H d a) (l : L a) : Rep g L H d (.ref a) := by
  cases d with
  | lst ds => obtain ⟨vs, q, k⟩ := h; exact .lst l q k
  | dct ks ds => obtain ⟨vs, q, e, k⟩ := h; exact .dct l q e k
  | dcT ks ds => obtain ⟨vs, q, e, k⟩ := h; exact .dcT l q e k
  | _ => exact h.elim
/-- a heap that only grew, same frame -/
theorem Okf.same (G : Okf g L A σ H) (s : Same H H') : Stp L A σ H L A σ H' ∧ Okf g L A σ H' := by
  have S : Stp L A σ H L A σ H' := ⟨fun _ h => h, fun _ h => .inl h, fun a o e _ => s a o e, fun _ h => .inl h, fun _ _ h => ⟨h, rfl⟩, fun a o e => ⟨o, s a o e⟩⟩
  refine ⟨S, G.len, fun a h => ?_, fun i sv h => ?_, G.inj⟩
  · obtain ⟨o, e⟩ := G.dom a h; exact ⟨o, s a o e⟩
  · have q := G.slot i sv h
    cases sv with
    | un => trivial
    | val d => obtain ⟨v, e, r⟩ := q; exact ⟨v, e, r.step G S⟩
    | ow b d => obtain ⟨a, e, n, c⟩ := q; exact ⟨a, e, n, c.move (fun o e => s a o e) fun _ _ r => r.step G S⟩
    | lck d => obtain ⟨a, e, n, c⟩ := q; exact ⟨a, e, n, c.move (fun o e => s a o e) fun _ _ r => r.step G S⟩
end

/-! ### handles: an expression's value before it is used -/
inductive Hd where
  | d (d : D) | f (d : D) | s (i : Nat)
def pk : Hd → Fr → Option D
  | .d d, _ => some d
  | .f d, _ => some d
  | .s i, A => match A[i]? with
    | some (.val d) => some d
    | some (.ow _ d) => some d
    | some (.lck d) => some d
    | _ => none
def mv : Hd → Fr → Option (D × Fr)
  | .d d, A => some (d, A)
  | .f d, A => some (d, A)
  | .s i, A => match A[i]? with
    | some (.val d) => some (d, A)
    | some (.ow false d) => some (d, A.set i (.val d))
    | _ => none
/-- H₀: the heap ahead of the expression -/
def RelH (g : Gm) (L : Addr → Prop) (A : Fr) (σ : L2.St) (H₀ H : Hp) : Hd → V → Prop
  | .d d, v => Rep g L H d v
  | .f d, v => ∃ a, v = .ref a ∧ H₀ a = none ∧ ¬ L a ∧ ¬ Own A σ a ∧ OwnC g L H d a
  | .s i, v => σ[i]? = some (some v)

/-! ### outcomes -/
inductive Out (α : Type) where
  | ok (x : α) (A : Fr) | exc (c : Nat) (A : Fr) | stuck
def Out.bind {α β : Type} (o : Out α) (f : α → Fr → Out β) : Out β := match o with
  | .ok x A => f x A
  | .exc c A => .exc c A
  | .stuck => .stuck
abbrev M (α : Type) := Fr → Out α

def Wp {α : Type} (g : Gm) (W : WX) (σ : L2.St) (L : Addr → Prop) (A : Fr) (H : Hp) (o : Out α) (post : α → Fr → (Addr → Prop) → Hp → Prop) : Prop := match o with
  | .ok x A' => ∀ L' H', Stp L A σ H L' A' σ H' → Okf g L' A' σ H' → post x A' L' H'
  | .exc c A' => ∀ L' H', Stp L A σ H L' A' σ H' → Okf g L' A' σ H' → W (.ref (g.xa c)) none σ H'
  | .stuck => False
section
variable {α β : Type} {g : Gm} {W : WX} {σ : L2.St} {L : Addr → Prop} {A : Fr} {H : Hp}
theorem Wp.mono {o : Out α} {p q : α → Fr → (Addr → Prop) → Hp → Prop} (h : Wp g W σ L A H o p) (k : ∀ x A' L' H', Stp L A σ H L' A' σ H' → Okf g L' A' σ H' → p x A' L' H' → q x A' L' H') : Wp g W σ L A H o q := by
  cases o with
  | ok x A' => exact fun L' H' S G => k _ _ _ _ S G (h L' H' S G)
  | exc c A' => exact h
  | stuck => exact h
theorem Wp.bind {o : Out α} {f : α → Fr → Out β} {p : β → Fr → (Addr → Prop) → Hp → Prop} (h : Wp g W σ L A H (o.bind f) p) : Wp g W σ L A H o fun x A1 L1 H1 => Wp g W σ L1 A1 H1 (f x A1) p := by
  cases o with
  | ok x A1 =>
    intro L1 H1 S G
    have h : Wp g W σ L A H (f x A1) p := h
    show Wp g W σ L1 A1 H1 (f x A1) p
    cases e : f x A1 with
    | ok y A2 => rw [e] at h; exact fun L_2 H2 S2 G2 => h L_2 H2 (S.trans S2) G2
    | exc c A2 => rw [e] at h; exact fun L_2 H2 S2 G2 => h L_2 H2 (S.trans S2) G2
    | stuck => rw [e] at h; exact h
  | exc c A' => exact h
  | stuck => exact h
end

/-! ### readings -/
/-- an expression with its handle -/
def TEm (g : Gm) (W : WX) (m : M Hd) : TE := fun σ H Q => ∃ L A, Okf g L A σ H ∧ Wp g W σ L A H (m A) fun h A' L' H' => ∀ v, RelH g L' A' σ H H' h v → Q v H'
/-- an expression whose value is taken -/
def TEd (g : Gm) (W : WX) (m : M D) : TE := fun σ H Q => ∃ L A, Okf g L A σ H ∧ Wp g W σ L A H (m A) fun d A' L' H' => ∀ v, Rep g L' H' d v → Q v H'
/-- a test -/
def TTm (g : Gm) (W : WX) (m : M Bool) : TT := fun σ H Q => ∃ L A, Okf g L A σ H ∧ Wp g W σ L A H (m A) fun b _ _ H' => Q b H'
/-- arguments that are taken -/
def TAd (g : Gm) (W : WX) (m : M (List D)) : TA := fun σ H Q => ∃ L A, Okf g L A σ H ∧ Wp g W σ L A H (m A) fun ds A' L' H' => ∀ vs, Reps g L' H' ds vs → Q vs H'
/-- arguments that are looked at -/
inductive RelHs (g : Gm) (L : Addr → Prop) (A : Fr) (σ : L2.St) (H₀ H : Hp) : List Hd → List V → Prop
  | nil : RelHs g L A σ H₀ H [] []
  | cons {h : Hd} {v : V} {hs : List Hd} {vs : List V} : RelH g L A σ H₀ H h v → RelHs g L A σ H₀ H hs vs → RelHs g L A σ H₀ H (h :: hs) (v :: vs)
def TAm (g : Gm) (W : WX) (m : M (List Hd)) : TA := fun σ H Q => ∃ L A, Okf g L A σ H ∧ Wp g W σ L A H (m A) fun hs A' L' H' => ∀ vs, RelHs g L' A' σ H H' hs vs → Q vs H'

abbrev JE (g : Gm) (X : Cx) (W : WX) (e : Expr) (m : M Hd) : Prop := PE X e (TEm g W m)
abbrev JD (g : Gm) (X : Cx) (W : WX) (e : Expr) (m : M D) : Prop := PE X e (TEd g W m)
abbrev JT (g : Gm) (X : Cx) (W : WX) (e : Expr) (m : M Bool) : Prop := PT X e (TTm g W m)
abbrev JA (g : Gm) (X : Cx) (W : WX) (es : List Expr) (m : M (List D)) : Prop := PA X es (TAd g W m)
abbrev JH (g : Gm) (X : Cx) (W : WX) (es : List Expr) (m : M (List Hd)) : Prop := PA X es (TAm g W m)

section
variable {X : Cx}
theorem pe_imp {e : Expr} {t t' : TE} (h : PE X e t) (k : ∀ σ H Q, t' σ H Q → t σ H Q) : PE X e t' := ⟨fun pins s σ H Q I q => h.run pins s σ H Q I (k σ H Q q)⟩
theorem pt_imp {e : Expr} {t t' : TT} (h : PT X e t) (k : ∀ σ H Q, t' σ H Q → t σ H Q) : PT X e t' := ⟨fun pins s σ H Q I q => h.run pins s σ H Q I (k σ H Q q)⟩
theorem pw_imp {e : Expr} {t t' : TT} (h : PW X e t) (k : ∀ σ H Q, t' σ H Q → t σ H Q) : PW X e t' := ⟨fun wh pins s σ H Q I q => h.run wh pins s σ H Q I (k σ H Q q)⟩
theorem pa_imp {es : List Expr} {t t' : TA} (h : PA X es t) (k : ∀ σ H Q, t' σ H Q → t σ H Q) : PA X es t' := ⟨fun pos pins s σ H Q I q => h.run pos pins s σ H Q I (k σ H Q q)⟩
theorem ps_imp {e : Stmt} {t t' : TS} (h : PS X e t) (k : ∀ D σ H, t' D σ H → t D σ H) : PS X e t' := ⟨fun pins s σ H D I q => h.run pins s σ H D I (k D σ H q)⟩
theorem pss_imp {e : List Stmt} {t t' : TS} (h : PSs X e t) (k : ∀ D σ H, t' D σ H → t D σ H) : PSs X e t' := ⟨fun pins s σ H D I q => h.run pins s σ H D I (k D σ H q)⟩
end

/-! ### handles used -/
section
variable {g : Gm} {L L' : Addr → Prop} {A A' : Fr} {σ : L2.St} {H₀ H H' : Hp}
theorem RelH.step {h : Hd} {v : V} (G : Okf g L A σ H) (S : Stp L A σ H L' A' σ H') (r : RelH g L A σ H₀ H h v) : RelH g L' A' σ H₀ H' h v := by
  cases h with
  | d d => exact Rep.step G S r
  | f d =>
    obtain ⟨a, e, n, nl, no, c⟩ := r
    obtain ⟨o, eo, _⟩ := c.here
    refine ⟨a, e, n, fun z => ?_, fun z => ?_, c.step G S no⟩
    · rcases S.new a z with z | z | z
      · exact nl z
      · rw [eo] at z; cases z
      · exact no z
    · rcases S.own a z with z | z
      · exact no z
      · rw [eo] at z; cases z
  | s i => exact r
theorem RelHs.step {G : Okf g L A σ H} (S : Stp L A σ H L' A' σ H') : ∀ {h : List Hd} {v : List V}, RelHs g L A σ H₀ H h v → RelHs g L' A' σ H₀ H' h v
  | _, _, .nil => .nil
  | _, _, .cons r t => .cons (r.step G S) (RelHs.step (G := G) S t)
theorem Stp.none_back {σ' : L2.St} (S : Stp L A σ H L' A' σ' H') {a : Addr} (n : H' a = none) : H a = none := by
  cases e : H a with
  | none => rfl
  | some o =>
    obtain ⟨o', e'⟩ := S.dom a o e
    rw [e'] at n; cases n
/-- an earlier start -/
theorem RelH.back {H₁ : Hp} {h : Hd} {v : V} (hb : ∀ a, H₀ a = none → H₁ a = none) (r : RelH g L A σ H₀ H h v) : RelH g L A σ H₁ H h v := by
  cases h with
  | d d => exact r
  | f d => obtain ⟨a, e, n, k⟩ := r; exact ⟨a, e, hb a n, k⟩
  | s i => exact r
theorem RelHs.back {H₁ : Hp} (hb : ∀ a, H₀ a = none → H₁ a = none) : ∀ {h : List Hd} {v : List V}, RelHs g L A σ H₀ H h v → RelHs g L A σ H₁ H h v
  | _, _, .nil => .nil
  | _, _, .cons r t => .cons (r.back hb) (RelHs.back hb t)
theorem pk_ok {h : Hd} {v : V} {d : D} (G : Okf g L A σ H) (r : RelH g L A σ H₀ H h v) (e : pk h A = some d) : Cur g L H d v := by
  cases h with
  | d x => cases e; exact .inl r
  | f x => cases e; obtain ⟨a, e, _, _, _, c⟩ := r; exact .inr ⟨a, e, c⟩
  | s i =>
    have r : σ[i]? = some (some v) := r
    unfold pk at e
    cases q : A[i]? with
    | none => simp only [q] at e; cases e
    | some sv =>
      simp only [q] at e
      have k := G.slot i sv q
      rw [r] at k
      cases sv with
      | un => cases e
      | val x => cases e; obtain ⟨w, ew, rw'⟩ := k; cases ew; exact .inl rw'
      | ow b x => cases e; obtain ⟨a, ea, _, c⟩ := k; cases ea; exact .inr ⟨a, rfl, c⟩
      | lck x => cases e; obtain ⟨a, ea, _, c⟩ := k; cases ea; exact .inr ⟨a, rfl, c⟩
/-- an owned slot is let go: its thing is frozen -/
theorem Okf.frz {i : Nat} {d : D} {a : Addr} (G : Okf g L A σ H) (e : A[i]? = some (.ow false d)) (es : σ[i]? = some (some (.ref a))) :
    Stp L A σ H (fun x => L x ∨ x = a) (A.set i (.val d)) σ H ∧ Okf g (fun x => L x ∨ x = a) (A.set i (.val d)) σ H ∧ Rep g (fun x => L x ∨ x = a) H d (.ref a) := by
  have ow : OwnAt A σ i a := ⟨⟨_, e, rfl⟩, es⟩
  have hi : i < A.length := by
    rcases Nat.lt_or_ge i A.length with h | h
    · exact h
    · rw [List.getElem?_eq_none h] at e; cases e
  obtain ⟨b, eb, nl, c⟩ := G.slot i _ e
  rw [es] at eb
  cases eb
  have mo : ∀ x, L x → L x ∨ x = a := fun x h => .inl h
  have hr : ∀ ds vs, Reps g L H ds vs → Reps g (fun x => L x ∨ x = a) H ds vs := fun ds vs r => r.mono mo (fun _ _ h => h) fun _ _ _ h => h
  have hr1 : ∀ {x : D} {v : V}, Rep g L H x v → Rep g (fun x => L x ∨ x = a) H x v := fun r => r.mono mo (fun _ _ h => h) fun _ _ _ h => h
  have rp : Rep g (fun x => L x ∨ x = a) H d (.ref a) := (c.move (fun _ h => h) hr).rep (.inr rfl)
  have old : ∀ (j : Nat) sv, (A.set i (.val d))[j]? = some sv → sv.mut = true → j ≠ i ∧ A[j]? = some sv := fun j sv h m => by
    by_cases hj : i = j
    · subst hj
      rw [List.getElem?_set_self hi] at h
      cases h
      cases m
    · rw [List.getElem?_set_ne hj] at h
      exact ⟨fun z => hj z.symm, h⟩
  have ob : ∀ j b, OwnAt (A.set i (.val d)) σ j b → j ≠ i ∧ OwnAt A σ j b := fun j b h => by
    obtain ⟨⟨sv, h1, h2⟩, h3⟩ := h
    obtain ⟨n, h4⟩ := old j sv h1 h2
    exact ⟨n, ⟨sv, h4, h2⟩, h3⟩
  refine ⟨⟨mo, fun x h => ?_, fun _ _ h _ => h, fun x ⟨j, h⟩ => .inl ⟨j, (ob j x h).2⟩, fun j x h => ⟨?_, rfl⟩, fun _ o h => ⟨o, h⟩⟩, ⟨?_, fun x h => ?_, fun j sv h => ?_, fun j k x h1 h2 => G.inj j k x (ob j x h1).2 (ob k x h2).2⟩, rp⟩
  · rcases h with h | rfl
    · exact .inl h
    · exact .inr (.inr ⟨i, ow⟩)
  · rw [kf_set e (by rfl)]; exact h
  · rw [List.length_set]; exact G.len
  · rcases h with h | rfl
    · exact G.dom x h
    · obtain ⟨o, q, _⟩ := c.here; exact ⟨o, q⟩
  · by_cases hj : i = j
    · subst hj
      rw [List.getElem?_set_self hi] at h
      cases h
      exact ⟨_, es, rp⟩
    · rw [List.getElem?_set_ne hj] at h
      have q := G.slot j sv h
      have na : ∀ b, σ[j]? = some (some (.ref b)) → sv.mut = true → b ≠ a := fun b z m w => by
        subst w
        exact hj (G.inj i j b ow ⟨⟨sv, h, m⟩, z⟩)
      cases sv with
      | un => trivial
      | val x => obtain ⟨v, q1, q2⟩ := q; exact ⟨v, q1, hr1 q2⟩
      | ow b x => obtain ⟨b, q1, q2, q3⟩ := q; exact ⟨b, q1, fun z => z.elim q2 (na b q1 rfl), q3.move (fun _ h => h) hr⟩
      | lck x => obtain ⟨b, q1, q2, q3⟩ := q; exact ⟨b, q1, fun z => z.elim q2 (na b q1 rfl), q3.move (fun _ h => h) hr⟩
/-- a new thing is frozen -/
theorem Okf.frzF {d : D} {a : Addr} (G : Okf g L A σ H) (no : ¬ Own A σ a) (c : OwnC g L H d a) : Okf g (fun x => L x ∨ x = a) A σ H ∧ Rep g (fun x => L x ∨ x = a) H d (.ref a) := by
  have mo : ∀ x, L x → L x ∨ x = a := fun x h => .inl h
  have hr : ∀ ds vs, Reps g L H ds vs → Reps g (fun x => L x ∨ x = a) H ds vs := fun ds vs r => r.mono mo (fun _ _ h => h) fun _ _ _ h => h
  refine ⟨⟨G.len, fun x h => ?_, fun j sv h => ?_, G.inj⟩, (c.move (fun _ h => h) hr).rep (.inr rfl)⟩
  · rcases h with h | rfl
    · exact G.dom x h
    · obtain ⟨o, q, _⟩ := c.here; exact ⟨o, q⟩
  · have q := G.slot j sv h
    have na : ∀ b, σ[j]? = some (some (.ref b)) → sv.mut = true → b ≠ a := fun b z m w => by
      subst w
      exact no ⟨j, ⟨sv, h, m⟩, z⟩
    cases sv with
    | un => trivial
    | val x => obtain ⟨v, q1, q2⟩ := q; exact ⟨v, q1, q2.mono mo (fun _ _ h => h) fun _ _ _ h => h⟩
    | ow b x => obtain ⟨b, q1, q2, q3⟩ := q; exact ⟨b, q1, fun z => z.elim q2 (na b q1 rfl), q3.move (fun _ h => h) hr⟩
    | lck x => obtain ⟨b, q1, q2, q3⟩ := q; exact ⟨b, q1, fun z => z.elim q2 (na b q1 rfl), q3.move (fun _ h => h) hr⟩
end
end Z

namespace Z
open PySem PySem.Spec PyProof.Rows L2

/-! ### taking a value -/
def mvM (m : M Hd) : M D := fun A => (m A).bind fun h A1 => match mv h A1 with
  | some (d, A2) => .ok d A2
  | none => .stuck
/-- the result of a primitive: a value, or a new mutable thing -/
inductive RD where
  | v (d : D) | f (d : D)
def RD.hd : RD → Hd
  | .v d => .d d
  | .f d => .f d
def RelR (g : Gm) (L : Addr → Prop) (H H' : Hp) : RD → V → Prop
  | .v d, v => Rep g L H' d v
  | .f d, v => ∃ a, v = .ref a ∧ H a = none ∧ OwnC g L H' d a
section
variable {g : Gm} {X : Cx} {W : WX} {e : Expr}
theorem jd {m : M Hd} (h : JE g X W e m) : JD g X W e (mvM m) := by
  refine pe_imp h fun σ H Q q => ?_
  obtain ⟨L, A, G, w⟩ := q
  refine ⟨L, A, G, ?_⟩
  unfold mvM at w
  cases em : m A with
  | stuck => rw [em] at w; exact w
  | exc c A' => rw [em] at w; exact w
  | ok hd A1 =>
    rw [em] at w
    intro L1 H1 S G1 v r
    have w : Wp g W σ L A H (match mv hd A1 with
      | some (d, A2) => .ok d A2
      | none => .stuck) (fun d A' L' H' => ∀ v, Rep g L' H' d v → Q v H') := w
    cases hd with
    | d x => exact w L1 H1 S G1 v r
    | f x =>
      obtain ⟨a, rfl, n, nl, no, c⟩ := r
      obtain ⟨G2, rp⟩ := G1.frzF no c
      refine w _ H1 ⟨fun x h => .inl (S.mono x h), fun x h => ?_, S.keep, S.own, S.lk, S.dom⟩ G2 _ rp
      rcases h with h | rfl
      · exact S.new x h
      · exact .inr (.inl n)
    | s i =>
      have r : σ[i]? = some (some v) := r
      unfold mv at w
      cases q : A1[i]? with
      | none => simp only [q] at w; exact w.elim
      | some sv =>
        simp only [q] at w
        have k := G1.slot i sv q
        rw [r] at k
        cases sv with
        | un => exact w.elim
        | val x => obtain ⟨u, eu, ru⟩ := k; cases eu; exact w L1 H1 S G1 v ru
        | ow b x =>
          obtain ⟨a, ea, _, c⟩ := k
          cases ea
          cases b with
          | true => exact w.elim
          | false =>
          obtain ⟨S2, G2, rp⟩ := G1.frz q r
          exact w _ H1 (S.trans S2) G2 _ rp
        | lck x => exact w.elim

/-! ### constants and names -/
def mC (d : D) : M Hd := fun A => .ok (.d d) A
def mN (i : Nat) : M Hd := fun A => match A[i]? with
  | some (.val _) => .ok (.s i) A
  | some (.ow _ _) => .ok (.s i) A
  | some (.lck _) => .ok (.s i) A
  | _ => .stuck
/-- a constant of a form whose value needs no heap -/
theorem je_c {d : D} {v : V} (h : PE X e (tC v)) (r : ∀ L H, Rep g L H d v) : JE g X W e (mC d) :=
  pe_imp h fun σ H Q ⟨L, A, G, w⟩ => w L H Stp.refl G v (r L H)
theorem je_int {i j pos} : JE g X W (.Constant (.int i) j pos) (mC (.int i)) := je_c pe_int fun _ _ => .int i
theorem je_bl {b j pos} : JE g X W (.Constant (.bool b) j pos) (mC (.bl b)) := je_c pe_bl fun _ _ => .bl b
theorem je_non {j pos} : JE g X W (.Constant .none j pos) (mC .non) := je_c pe_non fun _ _ => .non
theorem je_str {x j pos} (ok : PyData.strOk x = true := by decide +kernel) : JE g X W (.Constant (.str x) j pos) (mC (.str x)) := je_c pe_str fun _ _ => .str x ok
theorem je_gint {x : Str} {i : Int} {pos : Pos} (hm : ∃ t, X.mg x = some (.int i t)) (hg : Gl X x := by rfl) (hd : (x == ("__debug__" : Str)) = false := by decide) : JE g X W (.Name x pos) (mC (.int i)) := by
  obtain ⟨t, hm⟩ := hm
  exact je_c (pe_glob hg hm (v := .int i) ⟨t, rfl⟩ hd) fun _ _ => .int i
theorem je_gstr {x : Str} {i : Str} {pos : Pos} (hm : ∃ t, X.mg x = some (.str i t)) (ok : PyData.strOk i = true := by decide +kernel) (hg : Gl X x := by rfl) (hd : (x == ("__debug__" : Str)) = false := by decide) : JE g X W (.Name x pos) (mC (.str i)) := by
  obtain ⟨t, hm⟩ := hm
  exact je_c (pe_glob hg hm (v := .str i) ⟨t, rfl⟩ hd) fun _ _ => .str i ok
theorem je_gfn {x : Str} {n : Nat} {pos : Pos} (hm : X.mg x = some (.ref (g.fa n))) (hg : Gl X x := by rfl) (hd : (x == ("__debug__" : Str)) = false := by decide) : JE g X W (.Name x pos) (mC (.fn n)) :=
  je_c (pe_glob hg hm (v := .ref (g.fa n)) rfl hd) fun _ _ => .fn n
theorem je_n (i : Nat) {x : Str} {pos : Pos} (hN : X.N[i]? = some x := by rfl) (hv : Vis X.env.scope x := by first | exact Or.inl rfl | exact Or.inr (Or.inl rfl) | exact Or.inr (Or.inr rfl)) (hd : (x == ("__debug__" : Str)) = false := by decide)
    (hcd : (x == ("__classdict__" : Str)) = false := by decide) : JE g X W (.Name x pos) (mN i) := by
  refine pe_imp (pe_var hN hv hd hcd) fun σ H Q ⟨L, A, G, w⟩ => ?_
  unfold mN at w
  cases q : A[i]? with
  | none => simp only [q] at w; exact w.elim
  | some sv =>
    simp only [q] at w
    have k := G.slot i sv q
    cases sv with
    | un => exact w.elim
    | val x => obtain ⟨u, eu, ru⟩ := k; exact ⟨u, eu, w L H Stp.refl G u eu⟩
    | ow b x => obtain ⟨a, ea, _⟩ := k; exact ⟨_, ea, w L H Stp.refl G _ ea⟩
    | lck x => obtain ⟨a, ea, _⟩ := k; exact ⟨_, ea, w L H Stp.refl G _ ea⟩
end

/-! ### two operands -/
def mBin (s : D → D → Option RD) (ma mb : M Hd) : M Hd := fun A => (ma A).bind fun h1 A1 => (mb A1).bind fun h2 A2 => match pk h1 A2, pk h2 A2 with
  | some d1, some d2 => (match s d1 d2 with
    | some r => .ok r.hd A2
    | none => .stuck)
  | _, _ => .stuck
def mUn (s : D → Option RD) (ma : M Hd) : M Hd := fun A => (ma A).bind fun h1 A1 => match pk h1 A1 with
  | some d1 => (match s d1 with
    | some r => .ok r.hd A1
    | none => .stuck)
  | _ => .stuck
/-- an operation on two values, by what they read as -/
def rD2 (g : Gm) (s : D → D → Option RD) : R2 := fun x y H Q => ∃ L d1 d2 r, Cur g L H d1 x ∧ Cur g L H d2 y ∧ s d1 d2 = some r ∧ ∀ v H', Same H H' → RelR g L H H' r v → Q v H'
def rD1 (g : Gm) (s : D → Option RD) : V → Hp → VK → Prop := fun x H Q => ∃ L d1 r, Cur g L H d1 x ∧ s d1 = some r ∧ ∀ v H', Same H H' → RelR g L H H' r v → Q v H'
inductive Curs (g : Gm) (L : Addr → Prop) (H : Hp) : List D → List V → Prop
  | nil : Curs g L H [] []
  | cons {d : D} {v : V} {ds : List D} {vs : List V} : Cur g L H d v → Curs g L H ds vs → Curs g L H (d :: ds) (v :: vs)
def rDn (g : Gm) (s : List D → Option RD) : List V → Hp → VK → Prop := fun xs H Q => ∃ L ds r, Curs g L H ds xs ∧ s ds = some r ∧ ∀ v H', Same H H' → RelR g L H H' r v → Q v H'
section
variable {g : Gm} {X : Cx} {W : WX} {a b c : Expr} {σ : L2.St}
theorem rel_hd {L : Addr → Prop} {A : Fr} {H₀ H H' : Hp} {r : RD} {v : V} (G : Okf g L A σ H) (hb : ∀ a, H a = none → H₀ a = none) (k : RelR g L H H' r v) : RelH g L A σ H₀ H' r.hd v := by
  cases r with
  | v d => exact k
  | f d =>
    obtain ⟨a, e, n, c⟩ := k
    refine ⟨a, e, hb a n, fun z => ?_, G.not_own (.inr (.inl n)), c⟩
    obtain ⟨o, q⟩ := G.dom a z
    rw [n] at q; cases q
theorem bin_ok {s : D → D → Option RD} {ma mb : M Hd} {H : Hp} {Q : VK} (h : TEm g W (mBin s ma mb) σ H Q) : TEm g W ma σ H fun x H1 => TEm g W mb σ H1 fun y H2 => rD2 g s x y H2 Q := by
  obtain ⟨L, A, G, w⟩ := h
  refine ⟨L, A, G, w.bind.mono fun h1 A1 L1 H1 S1 G1 w1 v1 r1 => ⟨L1, A1, G1, w1.bind.mono fun h2 A2 L_2 H2 S2 G2 w2 v2 r2 => ?_⟩⟩
  cases e1 : pk h1 A2 with
  | none => simp only [e1] at w2; exact w2.elim
  | some d1 =>
    cases e2 : pk h2 A2 with
    | none => simp only [e1, e2] at w2; exact w2.elim
    | some d2 =>
      simp only [e1, e2] at w2
      cases e3 : s d1 d2 with
      | none => simp only [e3] at w2; exact w2.elim
      | some r =>
        simp only [e3] at w2
        refine ⟨L_2, d1, d2, r, pk_ok G2 (r1.step G1 S2) e1, pk_ok G2 r2 e2, e3, fun v H' s' k => ?_⟩
        obtain ⟨S3, G3⟩ := G2.same s'
        exact w2 L_2 H' S3 G3 v (rel_hd G2 (fun a n => S1.none_back (S2.none_back n)) k)
theorem un_ok {s : D → Option RD} {ma : M Hd} {H : Hp} {Q : VK} (h : TEm g W (mUn s ma) σ H Q) : TEm g W ma σ H fun x H1 => rD1 g s x H1 Q := by
  obtain ⟨L, A, G, w⟩ := h
  refine ⟨L, A, G, w.bind.mono fun h1 A1 L1 H1 S1 G1 w1 v1 r1 => ?_⟩
  cases e1 : pk h1 A1 with
  | none => simp only [e1] at w1; exact w1.elim
  | some d1 =>
    simp only [e1] at w1
    cases e3 : s d1 with
    | none => simp only [e3] at w1; exact w1.elim
    | some r =>
      simp only [e3] at w1
      refine ⟨L1, d1, r, pk_ok G1 r1 e1, e3, fun v H' s' k => ?_⟩
      obtain ⟨S3, G3⟩ := G1.same s'
      exact w1 L1 H' S3 G3 v (rel_hd G1 (fun a n => S1.none_back n) k)
theorem je_op {op : Operator} {s : D → D → Option RD} {ma mb : M Hd} {pos : Pos} (ho : OpR X (binaryOp op) (rD2 g s)) (ha : JE g X W a ma) (hb : JE g X W b mb) : JE g X W (.BinOp a op b pos) (mBin s ma mb) :=
  pe_imp (pe_op ho ha hb) fun _ _ _ h => bin_ok h
theorem je_cmp {op : CmpOp} {s : D → D → Option RD} {ma mb : M Hd} {pos : Pos} (ho : OpR X (compareOp op) (rD2 g s)) (ha : JE g X W a ma) (hb : JE g X W b mb) (hm : behindInMarks op b = false) : JE g X W (.Compare a [op] [b] pos) (mBin s ma mb) :=
  pe_imp (pe_cmpR ho ha hb hm) fun _ _ _ h => bin_ok h
/-- a handle as a truth value -/
def mB (m : M Hd) : M Bool := fun A => (m A).bind fun h A1 => match pk h A1 with
  | some (.bl b) => .ok b A1
  | _ => .stuck
theorem Cur.bl {L : Addr → Prop} {H : Hp} {b : Bool} {v : V} (h : Cur g L H (.bl b) v) : v = .bl b := by
  rcases h with h | ⟨a, _, h⟩
  · cases h; rfl
  · exact h.elim
theorem mB_ok {m : M Hd} {H : Hp} {Q : Bool → Hp → Prop} (h : TTm g W (mB m) σ H Q) : TEm g W m σ H fun x H1 => ∃ k, x = .bl k ∧ Q k H1 := by
  obtain ⟨L, A, G, w⟩ := h
  refine ⟨L, A, G, w.bind.mono fun h1 A1 L1 H1 S1 G1 w1 v1 r1 => ?_⟩
  cases e1 : pk h1 A1 with
  | none => simp only [e1] at w1; exact w1.elim
  | some d1 =>
    cases d1 with
    | bl b => simp only [e1] at w1; exact ⟨b, (pk_ok G1 r1 e1).bl, w1 L1 H1 Stp.refl G1⟩
    | _ => simp only [e1] at w1; exact w1.elim
theorem jt_cmp {op : CmpOp} {s : D → D → Option RD} {ma mb : M Hd} {pos : Pos} (ho : OpR X (compareOp op) (rD2 g s)) (ha : JE g X W a ma) (hb : JE g X W b mb) (hm : behindInMarks op b = false) : JT g X W (.Compare a [op] [b] pos) (mB (mBin s ma mb)) :=
  pt_imp (pt_cmpR ho ha hb hm) fun _ _ _ h => bin_ok (mB_ok h)
theorem jt_val {m : M Hd} (h : JE g X W a m) (he : ∀ whole, isTrue a X.env whole = (do let v ← whole; standAt a.pos; holding [v] (truthy v)) := by intro _; rfl) : JT g X W a (mB m) :=
  pt_imp (pt_val h he) fun _ _ _ h => mB_ok h
/-! ### and, or, not -/
def mAndT (ma mb : M Bool) : M Bool := fun A => (ma A).bind fun c A1 => match c with
  | true => mb A1
  | false => .ok false A1
def mOrT (ma mb : M Bool) : M Bool := fun A => (ma A).bind fun c A1 => match c with
  | true => .ok true A1
  | false => mb A1
def mNotT (ma : M Bool) : M Bool := fun A => (ma A).bind fun c A1 => .ok (!c) A1
abbrev JW (g : Gm) (X : Cx) (W : WX) (e : Expr) (m : M Bool) : Prop := PW X e (TTm g W m)
variable {rest : List Expr} {pos : Pos}
theorem jw_and1 {m : M Bool} (h : JT g X W a m) : JW g X W (.BoolOp .And [a] pos) m := pw_and1 h
theorem jw_or1 {m : M Bool} (h : JT g X W a m) : JW g X W (.BoolOp .Or [a] pos) m := pw_or1 h
theorem jw_and {ma mb : M Bool} (ha : JT g X W a ma) (hb : JW g X W (.BoolOp .And (b :: rest) pos) mb) : JW g X W (.BoolOp .And (a :: b :: rest) pos) (mAndT ma mb) := by
  refine pw_imp (pw_and ha hb) fun σ H Q ⟨L, A, G, w⟩ => ?_
  refine ⟨L, A, G, w.bind.mono fun k A1 L1 H1 S1 G1 w1 => ?_⟩
  cases k with
  | true => rw [if_pos rfl]; exact ⟨L1, A1, G1, w1⟩
  | false => rw [if_neg Bool.false_ne_true]; exact w1 L1 H1 Stp.refl G1
theorem jw_or {ma mb : M Bool} (ha : JT g X W a ma) (hb : JW g X W (.BoolOp .Or (b :: rest) pos) mb) : JW g X W (.BoolOp .Or (a :: b :: rest) pos) (mOrT ma mb) := by
  refine pw_imp (pw_or ha hb) fun σ H Q ⟨L, A, G, w⟩ => ?_
  refine ⟨L, A, G, w.bind.mono fun k A1 L1 H1 S1 G1 w1 => ?_⟩
  cases k with
  | true => rw [if_pos rfl]; exact w1 L1 H1 Stp.refl G1
  | false => rw [if_neg Bool.false_ne_true]; exact ⟨L1, A1, G1, w1⟩
theorem jt_w {m : M Bool} (h : JW g X W a m) : JT g X W a m := h.pt
theorem jt_not {m : M Bool} (h : JT g X W a m) : JT g X W (.UnaryOp .Not a pos) (mNotT m) := by
  refine pt_imp (pt_not h) fun σ H Q ⟨L, A, G, w⟩ => ?_
  exact ⟨L, A, G, w.bind.mono fun k A1 L1 H1 S1 G1 w1 => w1 L1 H1 Stp.refl G1⟩
/-- .. as values -/
def mAndV (ma mb : M Hd) : M Hd := fun A => (ma A).bind fun h A1 => match pk h A1 with
  | some (.bl true) => mb A1
  | some (.bl false) => .ok (.d (.bl false)) A1
  | _ => .stuck
def mOrV (ma mb : M Hd) : M Hd := fun A => (ma A).bind fun h A1 => match pk h A1 with
  | some (.bl true) => .ok (.d (.bl true)) A1
  | some (.bl false) => mb A1
  | _ => .stuck
def mNotV (ma : M Hd) : M Hd := fun A => (ma A).bind fun h A1 => match pk h A1 with
  | some (.bl b) => .ok (.d (.bl !b)) A1
  | _ => .stuck
theorem je_one {m : M Hd} {op} (h : JE g X W a m) : JE g X W (.BoolOp op [a] pos) m := pe_one h
theorem TEm.back {m : M Hd} {L1 : Addr → Prop} {A1 : Fr} {H H1 : Hp} {Q : VK} (G1 : Okf g L1 A1 σ H1) (hb : ∀ a, H1 a = none → H a = none) (w1 : Wp g W σ L1 A1 H1 (m A1) fun h A' L' H' => ∀ v, RelH g L' A' σ H H' h v → Q v H') : TEm g W m σ H1 Q :=
  ⟨L1, A1, G1, w1.mono fun h A2 L_2 H2 S2 G2 w2 v r => w2 v (r.back hb)⟩
theorem je_and {ma mb : M Hd} (ha : JE g X W a ma) (hb : JE g X W (.BoolOp .And (b :: rest) pos) mb) : JE g X W (.BoolOp .And (a :: b :: rest) pos) (mAndV ma mb) := by
  refine pe_imp (pe_and ha hb) fun σ H Q ⟨L, A, G, w⟩ => ?_
  refine ⟨L, A, G, w.bind.mono fun h1 A1 L1 H1 S1 G1 w1 v1 r1 => ?_⟩
  cases e1 : pk h1 A1 with
  | none => simp only [e1] at w1; exact w1.elim
  | some d1 =>
    cases d1 with
    | bl b =>
      refine ⟨b, (pk_ok G1 r1 e1).bl, ?_⟩
      cases b with
      | true => simp only [e1] at w1; rw [if_pos rfl]; exact TEm.back G1 (fun a n => S1.none_back n) w1
      | false => simp only [e1] at w1; rw [if_neg Bool.false_ne_true]; exact w1 L1 H1 Stp.refl G1 _ (.bl false)
    | _ => simp only [e1] at w1; exact w1.elim
theorem je_or {ma mb : M Hd} (ha : JE g X W a ma) (hb : JE g X W (.BoolOp .Or (b :: rest) pos) mb) : JE g X W (.BoolOp .Or (a :: b :: rest) pos) (mOrV ma mb) := by
  refine pe_imp (pe_or ha hb) fun σ H Q ⟨L, A, G, w⟩ => ?_
  refine ⟨L, A, G, w.bind.mono fun h1 A1 L1 H1 S1 G1 w1 v1 r1 => ?_⟩
  cases e1 : pk h1 A1 with
  | none => simp only [e1] at w1; exact w1.elim
  | some d1 =>
    cases d1 with
    | bl b =>
      refine ⟨b, (pk_ok G1 r1 e1).bl, ?_⟩
      cases b with
      | true => simp only [e1] at w1; rw [if_pos rfl]; exact w1 L1 H1 Stp.refl G1 _ (.bl true)
      | false => simp only [e1] at w1; rw [if_neg Bool.false_ne_true]; exact TEm.back G1 (fun a n => S1.none_back n) w1
    | _ => simp only [e1] at w1; exact w1.elim
theorem je_not {ma : M Hd} (ha : JE g X W a ma) : JE g X W (.UnaryOp .Not a pos) (mNotV ma) := by
  refine pe_imp (pe_not ha) fun σ H Q ⟨L, A, G, w⟩ => ?_
  refine ⟨L, A, G, w.bind.mono fun h1 A1 L1 H1 S1 G1 w1 v1 r1 => ?_⟩
  cases e1 : pk h1 A1 with
  | none => simp only [e1] at w1; exact w1.elim
  | some d1 =>
    cases d1 with
    | bl b =>
      simp only [e1] at w1
      exact ⟨b, (pk_ok G1 r1 e1).bl, w1 L1 H1 Stp.refl G1 _ (.bl _)⟩
    | _ => simp only [e1] at w1; exact w1.elim
theorem je_un {op : UnaryOp} {s : D → Option RD} {ma : M Hd} (ho : UnR X (unaryOp op) (rD1 g s)) (ha : JE g X W a ma) : JE g X W (.UnaryOp op a pos) (mUn s ma) :=
  pe_imp (pe_un ho ha) fun _ _ _ h => un_ok h
/-! ### lists of operands -/
def mHs : List (M Hd) → M (List Hd)
  | [] => fun A => .ok [] A
  | m :: ms => fun A => (m A).bind fun h A1 => (mHs ms A1).bind fun hs A2 => .ok (h :: hs) A2
def mDs : List (M Hd) → M (List D)
  | [] => fun A => .ok [] A
  | m :: ms => fun A => (mvM m A).bind fun d A1 => (mDs ms A1).bind fun ds A2 => .ok (d :: ds) A2
variable {es : List Expr}
theorem jh_nil : JH g X W [] (mHs []) := pa_imp pa_nil fun σ H Q ⟨L, A, G, w⟩ => w L H Stp.refl G [] .nil
theorem jh_cons {m : M Hd} {ms : List (M Hd)} (ha : JE g X W a m) (hr : JH g X W es (mHs ms)) (hs : starEach (a :: es) X.env = (false, eval a X.env) :: starEach es X.env := by rfl) : JH g X W (a :: es) (mHs (m :: ms)) := by
  refine pa_imp (pa_cons ha hr hs) fun σ H Q ⟨L, A, G, w⟩ => ?_
  refine ⟨L, A, G, w.bind.mono fun h1 A1 L1 H1 S1 G1 w1 v1 r1 => ⟨L1, A1, G1, w1.bind.mono fun h2 A2 L_2 H2 S2 G2 w2 v2 r2 => ?_⟩⟩
  exact w2 L_2 H2 Stp.refl G2 _ (.cons (r1.step G1 S2) (r2.back fun a n => S1.none_back n))
theorem ja_nil : JA g X W [] (mDs []) := pa_imp pa_nil fun σ H Q ⟨L, A, G, w⟩ => w L H Stp.refl G [] .nil
theorem ja_cons {m : M Hd} {ms : List (M Hd)} (ha : JE g X W a m) (hr : JA g X W es (mDs ms)) (hs : starEach (a :: es) X.env = (false, eval a X.env) :: starEach es X.env := by rfl) : JA g X W (a :: es) (mDs (m :: ms)) := by
  refine pa_imp (pa_cons (jd ha) hr hs) fun σ H Q ⟨L, A, G, w⟩ => ?_
  refine ⟨L, A, G, w.bind.mono fun d1 A1 L1 H1 S1 G1 w1 v1 r1 => ⟨L1, A1, G1, w1.bind.mono fun ds A2 L_2 H2 S2 G2 w2 v2 r2 => ?_⟩⟩
  exact w2 L_2 H2 Stp.refl G2 _ (.cons (r1.step G1 S2) r2)
/-! ### displays -/
def mTup (ms : List (M Hd)) : M Hd := fun A => (mDs ms A).bind fun ds A1 => if ds.length ≤ sizeLine then .ok (.d (.tup ds)) A1 else .stuck
def mLst (ms : List (M Hd)) : M Hd := fun A => (mDs ms A).bind fun ds A1 => if ds.length ≤ sizeLine then .ok (.f (.lst ds)) A1 else .stuck
theorem same_new {H : Hp} {p : Addr} {o : HO} (h : H p = none) : Same H (upd H p o) := fun b x e => by
  rw [upd_ne (ne_of_none e h)]
  exact e
theorem je_tup {ms : List (M Hd)} {x1} (h : JA g X W es (mDs ms)) : JE g X W (.Tuple es x1 pos) (mTup ms) := by
  refine pe_imp (pe_tup h) fun σ H Q ⟨L, A, G, w⟩ => ?_
  refine ⟨L, A, G, w.bind.mono fun ds A1 L1 H1 S1 G1 w1 vs rs => ?_⟩
  by_cases hl : ds.length ≤ sizeLine
  · rw [if_pos hl] at w1
    refine ⟨by rw [← rs.len]; exact hl, fun p hp => ?_⟩
    obtain ⟨S2, G2⟩ := G1.same (same_new (o := .tup vs) hp)
    exact w1 L1 _ S2 G2 _ (.tup upd_same (rs.step G1 S2))
  · rw [if_neg hl] at w1
    exact w1.elim
theorem je_lst {ms : List (M Hd)} (h : JA g X W es (mDs ms)) : JE g X W (.List es pos) (mLst ms) := by
  refine pe_imp (pe_lst h) fun σ H Q ⟨L, A, G, w⟩ => ?_
  refine ⟨L, A, G, w.bind.mono fun ds A1 L1 H1 S1 G1 w1 vs rs => ?_⟩
  by_cases hl : ds.length ≤ sizeLine
  · rw [if_pos hl] at w1
    refine ⟨by rw [← rs.len]; exact hl, fun p hp => ?_⟩
    obtain ⟨S2, G2⟩ := G1.same (same_new (o := .lst vs) hp)
    exact w1 L1 _ S2 G2 _ (rel_hd (r := .f (.lst ds)) G1 (fun a n => S1.none_back n) ⟨p, rfl, hp, vs, upd_same, rs.step G1 S2⟩)
  · rw [if_neg hl] at w1
    exact w1.elim
/-! ### built-ins called -/
def pks : List Hd → Fr → Option (List D)
  | [], _ => some []
  | h :: hs, A => match pk h A, pks hs A with
    | some d, some ds => some (d :: ds)
    | _, _ => none
def mPrim (s : List D → Option RD) (ms : List (M Hd)) : M Hd := fun A => (mHs ms A).bind fun hs A1 => match pks hs A1 with
  | some ds => (match s ds with
    | some r => .ok r.hd A1
    | none => .stuck)
  | none => .stuck
theorem pks_ok {L : Addr → Prop} {A : Fr} {H₀ H : Hp} (G : Okf g L A σ H) : ∀ {hs : List Hd} {vs : List V} {ds : List D}, RelHs g L A σ H₀ H hs vs → pks hs A = some ds → Curs g L H ds vs
  | _, _, _, .nil, e => by cases e; exact .nil
  | _, _, _, .cons (h := h) (hs := hs) r t, e => by
    unfold pks at e
    cases e1 : pk h A with
    | none => simp only [e1] at e; cases e
    | some d =>
      cases e2 : pks hs A with
      | none => simp only [e1, e2] at e; cases e
      | some ds => simp only [e1, e2] at e; cases e; exact .cons (pk_ok G r e1) (pks_ok G t e2)
theorem prim_ok {s : List D → Option RD} {ms : List (M Hd)} {H : Hp} {Q : VK} (h : TEm g W (mPrim s ms) σ H Q) : TAm g W (mHs ms) σ H fun xs H1 => rDn g s xs H1 Q := by
  obtain ⟨L, A, G, w⟩ := h
  refine ⟨L, A, G, w.bind.mono fun hs A1 L1 H1 S1 G1 w1 vs rs => ?_⟩
  cases e1 : pks hs A1 with
  | none => simp only [e1] at w1; exact w1.elim
  | some ds =>
    simp only [e1] at w1
    cases e3 : s ds with
    | none => simp only [e3] at w1; exact w1.elim
    | some r =>
      simp only [e3] at w1
      refine ⟨L1, ds, r, pks_ok G1 rs e1, e3, fun v H' s' k => ?_⟩
      obtain ⟨S3, G3⟩ := G1.same s'
      exact w1 L1 H' S3 G3 v (rel_hd G1 (fun a n => S1.none_back n) k)
variable {x : Str} {p : Pos}
theorem je_callB {s : List D → Option RD} {ms : List (M Hd)} {id : String} (hc : CallR X (.builtin id) (rDn g s)) (hm : X.mg x = none) (hv : bootBuiltins x = some (.builtin id)) (ha : JH g X W (a :: es) (mHs ms)) (hg : Gl X x := by rfl) (hn : x ≠ "__name__" := by decide) (hdb : (x == ("__debug__" : Str)) = false := by decide)
    (he : starEach (a :: es) X.env = (false, eval a X.env) :: starEach es X.env := by rfl) (hpl : (backTo pos (starEach es X.env)).any (·.1) = false := by rfl) : JE g X W (.Call (.Name x p) (a :: es) [] pos) (mPrim s ms) :=
  pe_imp (pe_callB hc hg hm hv ha hn hdb he hpl) fun _ _ _ h => prim_ok h
theorem je_callTy {s : List D → Option RD} {ms : List (M Hd)} {T : String} (hc : CallR X (.type T) (rDn g s)) (hm : X.mg x = none) (hv : bootBuiltins x = some (.type T)) (ha : JH g X W (a :: es) (mHs ms)) (hg : Gl X x := by rfl) (hn : x ≠ "__name__" := by decide) (hdb : (x == ("__debug__" : Str)) = false := by decide)
    (he : starEach (a :: es) X.env = (false, eval a X.env) :: starEach es X.env := by rfl) (hpl : (backTo pos (starEach es X.env)).any (·.1) = false := by rfl) : JE g X W (.Call (.Name x p) (a :: es) [] pos) (mPrim s ms) :=
  pe_imp (pe_callTy hc hg hm hv ha hn hdb he hpl) fun _ _ _ h => prim_ok h
end
end Z

namespace Z
open PySem PySem.Spec PyProof.Rows L2

/-! ### statements -/
inductive SOut where
  | nx (A : Fr) | rt (d : D) (A : Fr) | bk (A : Fr) | ct (A : Fr) | exc (c : Nat) (A : Fr) | stuck
abbrev MS := Fr → SOut
def WpS (g : Gm) (W : WX) (En : Ends) (L : Addr → Prop) (A : Fr) (σ : L2.St) (H : Hp) (o : SOut) : Prop := match o with
  | .nx A' => ∀ L' σ' H', Stp L A σ H L' A' σ' H' → Okf g L' A' σ' H' → En.nx σ' H'
  | .bk A' => ∀ L' σ' H', Stp L A σ H L' A' σ' H' → Okf g L' A' σ' H' → En.bk σ' H'
  | .ct A' => ∀ L' σ' H', Stp L A σ H L' A' σ' H' → Okf g L' A' σ' H' → En.ct σ' H'
  | .rt d A' => ∀ L' σ' H' v, Stp L A σ H L' A' σ' H' → Okf g L' A' σ' H' → Rep g L' H' d v → En.rt v H'
  | .exc c A' => ∀ L' σ' H', Stp L A σ H L' A' σ' H' → Okf g L' A' σ' H' → W (.ref (g.xa c)) none σ' H'
  | .stuck => False
def TSm (g : Gm) (W : WX) (m : MS) : TS := fun En σ H => ∃ L A, Okf g L A σ H ∧ WpS g W En L A σ H (m A)
abbrev JS (g : Gm) (X : Cx) (W : WX) (st : Stmt) (m : MS) : Prop := PS X st (TSm g W m)
abbrev JB (g : Gm) (X : Cx) (W : WX) (st : List Stmt) (m : MS) : Prop := PSs X st (TSm g W m)
def sSeq (m1 m2 : MS) : MS := fun A => match m1 A with
  | .nx A1 => m2 A1
  | o => o
def sNil : MS := fun A => .nx A
section
variable {g : Gm} {X : Cx} {W : WX} {σ σ1 : L2.St} {L L1 : Addr → Prop} {A A1 : Fr} {H H1 : Hp} {En : Ends}
/-- from a later start -/
theorem WpS.later {o : SOut} (S : Stp L A σ H L1 A1 σ1 H1) (h : WpS g W En L A σ H o) : WpS g W En L1 A1 σ1 H1 o := by
  cases o with
  | nx A' => exact fun L' σ' H' S2 G => h L' σ' H' (S.trans S2) G
  | bk A' => exact fun L' σ' H' S2 G => h L' σ' H' (S.trans S2) G
  | ct A' => exact fun L' σ' H' S2 G => h L' σ' H' (S.trans S2) G
  | rt d A' => exact fun L' σ' H' v S2 G => h L' σ' H' v (S.trans S2) G
  | exc c A' => exact fun L' σ' H' S2 G => h L' σ' H' (S.trans S2) G
  | stuck => exact h
theorem WpS.mono {o : SOut} {En' : Ends} (h : WpS g W En L A σ H o) (nx : ∀ σ' H', En.nx σ' H' → En'.nx σ' H') (rt : ∀ v H', En.rt v H' → En'.rt v H') (bk : ∀ σ' H', En.bk σ' H' → En'.bk σ' H') (ct : ∀ σ' H', En.ct σ' H' → En'.ct σ' H') : WpS g W En' L A σ H o := by
  cases o with
  | nx A' => exact fun L' σ' H' S2 G => nx _ _ (h L' σ' H' S2 G)
  | bk A' => exact fun L' σ' H' S2 G => bk _ _ (h L' σ' H' S2 G)
  | ct A' => exact fun L' σ' H' S2 G => ct _ _ (h L' σ' H' S2 G)
  | rt d A' => exact fun L' σ' H' v S2 G r => rt _ _ (h L' σ' H' v S2 G r)
  | exc c A' => exact h
  | stuck => exact h
/-- behind an expression -/
def oS {α : Type} (o : Out α) (f : α → Fr → SOut) : SOut := match o with
  | .ok x A => f x A
  | .exc c A => .exc c A
  | .stuck => .stuck
theorem WpS.bind {α : Type} {o : Out α} {f : α → Fr → SOut} (h : WpS g W En L A σ H (oS o f)) : Wp g W σ L A H o fun x A1 L1 H1 => WpS g W En L1 A1 σ H1 (f x A1) := by
  cases o with
  | ok x A1 => exact fun L1 H1 S G => WpS.later S h
  | exc c A1 => exact fun L1 H1 S G => h L1 σ H1 S G
  | stuck => exact h
variable {st : Stmt} {sts : List Stmt} {e : Expr} {pos : Pos}
theorem jb_nil : JB g X W [] sNil := pss_imp pss_nil fun En σ H ⟨L, A, G, w⟩ => w L σ H Stp.refl G
theorem jb_cons {m1 m2 : MS} (h1 : JS g X W st m1) (h2 : JB g X W sts m2) : JB g X W (st :: sts) (sSeq m1 m2) := by
  refine pss_imp (pss_cons h1 h2) fun En σ H ⟨L, A, G, w⟩ => ⟨L, A, G, ?_⟩
  unfold sSeq at w
  cases e1 : m1 A with
  | nx A1 => simp only [e1] at w; exact fun L' σ' H' S G' => ⟨L', A1, G', WpS.later S w⟩
  | bk A1 => simp only [e1] at w; exact w
  | ct A1 => simp only [e1] at w; exact w
  | rt d A1 => simp only [e1] at w; exact w
  | exc c A1 => simp only [e1] at w; exact w
  | stuck => simp only [e1] at w; exact w
theorem jb_one {m : MS} (h1 : JS g X W st m) : JB g X W [st] m := pss_one h1
def sPass : MS := fun A => .nx A
theorem js_pass : JS g X W (.Pass pos) sPass := ps_imp ps_pass fun En σ H ⟨L, A, G, w⟩ => w L σ H Stp.refl G
def sExpr (m : M Hd) : MS := fun A => oS (m A) fun _ A1 => .nx A1
theorem js_expr {m : M Hd} (h : JE g X W e m) (hs : swapsWith e none pos.line X.env = pure false := by rfl) : JS g X W (.Expr e pos) (sExpr m) := by
  refine ps_imp (ps_expr h hs) fun En σ H ⟨L, A, G, w⟩ => ⟨L, A, G, w.bind.mono fun h1 A1 L1 H1 S1 G1 w1 v r => ?_⟩
  exact w1 L1 σ H1 Stp.refl G1
def sRet (m : M Hd) : MS := fun A => oS (mvM m A) fun d A1 => .rt d A1
theorem js_ret {m : M Hd} (h : JE g X W e m) : JS g X W (.Return (some e) pos) (sRet m) := by
  refine ps_imp (ps_ret (jd h)) fun En σ H ⟨L, A, G, w⟩ => ⟨L, A, G, w.bind.mono fun d A1 L1 H1 S1 G1 w1 v r => ?_⟩
  exact w1 L1 σ H1 v Stp.refl G1 r
def sIf (c : M Bool) (m1 m2 : MS) : MS := fun A => oS (c A) fun b A1 => match b with
  | true => m1 A1
  | false => m2 A1
theorem js_if {c : M Bool} {m1 m2 : MS} {a b : List Stmt} (hc : JT g X W e c) (ha : JB g X W a m1) (hb : JB g X W b m2) : JS g X W (.If e a b pos) (sIf c m1 m2) := by
  refine ps_imp (ps_if hc ha hb) fun En σ H ⟨L, A, G, w⟩ => ⟨L, A, G, w.bind.mono fun k A1 L1 H1 S1 G1 w1 => ?_⟩
  cases k with
  | true => rw [if_pos rfl]; exact ⟨L1, A1, G1, w1⟩
  | false => rw [if_neg Bool.false_ne_true]; exact ⟨L1, A1, G1, w1⟩
/-! ### stores -/
/-- a value into a slot that is not locked -/
def setV (i : Nat) (sv : SV) (A : Fr) : Option Fr := match A[i]? with
  | some (.lck _) => none
  | some (.ow true _) => none
  | some _ => some (A.set i sv)
  | none => none
theorem setV_some {i : Nat} {sv : SV} {A2 : Fr} (e : setV i sv A = some A2) : A2 = A.set i sv ∧ i < A.length ∧ kf A i = none := by
  unfold setV at e
  cases q : A[i]? with
  | none => simp only [q] at e; cases e
  | some s =>
    have hi : i < A.length := by
      rcases Nat.lt_or_ge i A.length with h | h
      · exact h
      · rw [List.getElem?_eq_none h] at q; cases q
    cases s with
    | lck d => simp only [q] at e; cases e
    | un => simp only [q] at e; cases e; exact ⟨rfl, hi, by unfold kf; rw [q]; rfl⟩
    | val d => simp only [q] at e; cases e; exact ⟨rfl, hi, by unfold kf; rw [q]; rfl⟩
    | ow b d =>
      cases b with
      | true => simp only [q] at e; cases e
      | false => simp only [q] at e; cases e; exact ⟨rfl, hi, by unfold kf; rw [q]; rfl⟩
/-- a slot is set: to a value, or to a new thing at a -/
theorem Okf.put {i : Nat} {sv : SV} {v : V} {A2 : Fr} (G : Okf g L A σ H) (e : setV i sv A = some A2) (k : SlotOk g L H sv (some (some v))) (nw : sv.mut = true → ∀ a, v = .ref a → ¬ Own A σ a) :
    Okf g L A2 (σ.set i (some v)) H ∧ (∀ a, Own A2 (σ.set i (some v)) a → Own A σ a ∨ (sv.mut = true ∧ v = .ref a)) ∧ (∀ (j : Nat) (d : Option D), kf A j = some d → kf A2 j = some d ∧ (σ.set i (some v))[j]? = σ[j]?) := by
  obtain ⟨rfl, hi, nl⟩ := setV_some e
  have his : i < σ.length := by rw [← G.len]; exact hi
  have ob : ∀ j a, OwnAt (A.set i sv) (σ.set i (some v)) j a → (j ≠ i ∧ OwnAt A σ j a) ∨ (j = i ∧ sv.mut = true ∧ v = .ref a) := fun j a h => by
    obtain ⟨⟨s, h1, h2⟩, h3⟩ := h
    by_cases hj : i = j
    · subst hj
      rw [List.getElem?_set_self hi] at h1
      rw [List.getElem?_set_self his] at h3
      cases h1
      exact .inr ⟨rfl, h2, Option.some.inj (Option.some.inj h3)⟩
    · rw [List.getElem?_set_ne hj] at h1 h3
      exact .inl ⟨fun z => hj z.symm, ⟨s, h1, h2⟩, h3⟩
  refine ⟨⟨?_, G.dom, fun j s h => ?_, fun j1 j2 a h1 h2 => ?_⟩, fun a ⟨j, h⟩ => ?_, fun j d h => ?_⟩
  · rw [List.length_set, List.length_set]; exact G.len
  · by_cases hj : i = j
    · subst hj
      rw [List.getElem?_set_self hi] at h
      rw [List.getElem?_set_self his]
      cases h
      exact k
    · rw [List.getElem?_set_ne hj] at h
      rw [List.getElem?_set_ne hj]
      exact G.slot j s h
  · rcases ob j1 a h1 with ⟨n1, o1⟩ | ⟨rfl, m1, e1⟩
    · rcases ob j2 a h2 with ⟨n2, o2⟩ | ⟨rfl, m2, e2⟩
      · exact G.inj j1 j2 a o1 o2
      · exact absurd ⟨j1, o1⟩ (nw m2 a e2)
    · rcases ob j2 a h2 with ⟨n2, o2⟩ | ⟨rfl, m2, e2⟩
      · exact absurd ⟨j2, o2⟩ (nw m1 a e1)
      · rfl
  · rcases ob j a h with ⟨n, o⟩ | ⟨rfl, m, e⟩
    · exact .inl ⟨j, o⟩
    · exact .inr ⟨m, e⟩
  · have hj : i ≠ j := fun z => by rw [← z, nl] at h; cases h
    rw [kf_set_ne hj, List.getElem?_set_ne hj]
    exact ⟨h, rfl⟩
/-- x = e: a new thing becomes the slot's own -/
def putH (i : Nat) (h : Hd) (A : Fr) : SOut := match h with
  | .f d => (match setV i (.ow false d) A with
    | some A2 => .nx A2
    | none => .stuck)
  | _ => (match mv h A with
    | some (d, A1) => (match setV i (.val d) A1 with
      | some A2 => .nx A2
      | none => .stuck)
    | none => .stuck)
def sAsg (i : Nat) (m : M Hd) : MS := fun A => oS (m A) fun h A1 => putH i h A1
theorem putH_ok {i : Nat} {h : Hd} {v : V} {L1 : Addr → Prop} {A1 : Fr} {H1 : Hp} (S1 : Stp L A σ H L1 A1 σ H1) (G1 : Okf g L1 A1 σ H1) (r : RelH g L1 A1 σ H H1 h v) (w : WpS g W En L A σ H (putH i h A1)) : En.nx (σ.set i (some v)) H1 := by
  have fin : ∀ {L2' : Addr → Prop} {A2 A3 : Fr} {d : D}, Stp L A σ H L2' A2 σ H1 → Okf g L2' A2 σ H1 → Rep g L2' H1 d v → setV i (.val d) A2 = some A3 → WpS g W En L A σ H (.nx A3) → En.nx (σ.set i (some v)) H1 := fun {L2' A2 A3 d} S2 G2 rp e w => by
    obtain ⟨G3, ow, lk⟩ := G2.put (v := v) e ⟨v, rfl, rp⟩ (fun m => by cases m)
    refine w L2' _ H1 ⟨S2.mono, S2.new, S2.keep, fun a o => ?_, fun j d h => ?_, S2.dom⟩ G3
    · rcases ow a o with o | ⟨m, _⟩
      · exact S2.own a o
      · cases m
    · obtain ⟨h1, h2⟩ := S2.lk j d h
      obtain ⟨h3, h4⟩ := lk j d h1
      exact ⟨h3, h4.trans h2⟩
  cases h with
  | d d =>
    have w : WpS g W En L A σ H (match setV i (.val d) A1 with
      | some A2 => .nx A2
      | none => .stuck) := w
    cases e : setV i (.val d) A1 with
    | none => simp only [e] at w; exact w.elim
    | some A2 => simp only [e] at w; exact fin S1 G1 r e w
  | f d =>
    obtain ⟨a, rfl, n, nl, no, c⟩ := r
    have w : WpS g W En L A σ H (match setV i (.ow false d) A1 with
      | some A2 => .nx A2
      | none => .stuck) := w
    cases e : setV i (.ow false d) A1 with
    | none => simp only [e] at w; exact w.elim
    | some A2 =>
      simp only [e] at w
      obtain ⟨G3, ow, lk⟩ := G1.put (v := .ref a) e ⟨a, rfl, nl, c⟩ (fun _ b z => by cases z; exact no)
      refine w L1 _ H1 ⟨S1.mono, S1.new, S1.keep, fun b o => ?_, fun j d h => ?_, S1.dom⟩ G3
      · rcases ow b o with o | ⟨_, z⟩
        · exact S1.own b o
        · cases z; exact .inr n
      · obtain ⟨h1, h2⟩ := S1.lk j d h
        obtain ⟨h3, h4⟩ := lk j d h1
        exact ⟨h3, h4.trans h2⟩
  | s j =>
    have r : σ[j]? = some (some v) := r
    unfold putH mv at w
    cases q : A1[j]? with
    | none => simp only [q] at w; exact w.elim
    | some sv =>
      simp only [q] at w
      have k := G1.slot j sv q
      rw [r] at k
      cases sv with
      | un => exact w.elim
      | val x =>
        obtain ⟨u, eu, ru⟩ := k
        cases eu
        simp only at w
        cases e : setV i (.val x) A1 with
        | none => simp only [e] at w; exact w.elim
        | some A2 => simp only [e] at w; exact fin S1 G1 ru e w
      | ow b x =>
        obtain ⟨a, ea, _, c⟩ := k
        cases ea
        cases b with
        | true => exact w.elim
        | false =>
        obtain ⟨S2, G2, rp⟩ := G1.frz q r
        simp only at w
        cases e : setV i (.val x) (A1.set j (.val x)) with
        | none => simp only [e] at w; exact w.elim
        | some A2 => simp only [e] at w; exact fin (S1.trans S2) G2 rp e w
      | lck x => exact w.elim
theorem js_asg {i : Nat} {x : Str} {m : M Hd} {pos' : Pos} (hN : X.N.Nodup) (h : JE g X W e m) (hi : X.N[i]? = some x := by rfl) (hx : Loc X.env.scope x := by first | exact Or.inl rfl | exact Or.inr rfl) (hs : swapsWith e (some (.Name x pos')) pos.line X.env = pure false := by rfl)
    (hf : X.fn x = true ∨ X.env.scope.names.lookup x = some .local := by first | exact .inl rfl | exact .inr rfl) : JS g X W (.Assign [.Name x pos'] e pos) (sAsg i m) := by
  refine ps_imp (ps_set hN hi hx h hs hf) fun En σ H ⟨L, A, G, w⟩ => ⟨L, A, G, ?_⟩
  unfold sAsg at w
  cases em : m A with
  | stuck => rw [em] at w; exact w
  | exc c A' => rw [em] at w; exact fun L' H' S G' => w L' σ H' S G'
  | ok hd A1 => rw [em] at w; exact fun L1 H1 S G1 v r => putH_ok S G1 r w
end
end Z

namespace Z
open PySem PySem.Spec PyProof.Rows L2

/-! ### targets -/
abbrev MT := D → Fr → Option Fr
abbrev MTs := List D → Fr → Option Fr
/-- the slots that may have changed -/
def Chg (is : List Nat) (σ σ' : L2.St) : Prop := σ'.length = σ.length ∧ ∀ j, j ∉ is → σ'[j]? = σ[j]?
def TGm (g : Gm) (t : MT) (is : List Nat) : TG := fun v σ H Q => ∃ L A d A', Okf g L A σ H ∧ Rep g L H d v ∧ t d A = some A' ∧ ∀ σ', Chg is σ σ' → Stp L A σ H L A' σ' H → Okf g L A' σ' H → Q σ' H
def TGsm (g : Gm) (t : MTs) (is : List Nat) : TGs := fun vs σ H Q => ∃ L A ds A', Okf g L A σ H ∧ Reps g L H ds vs ∧ t ds A = some A' ∧ ∀ σ', Chg is σ σ' → Stp L A σ H L A' σ' H → Okf g L A' σ' H → Q σ' H
abbrev JG (g : Gm) (X : Cx) (tg : Expr) (t : MT) (is : List Nat) : Prop := PG X tg (TGm g t is)
abbrev JGs (g : Gm) (X : Cx) (tgs : List Expr) (t : MTs) (is : List Nat) : Prop := PGs X tgs (TGsm g t is)
def tN (i : Nat) : MT := fun d A => setV i (.val d) A
def tNil : MTs := fun ds A => match ds with
  | [] => some A
  | _ => none
def tCons (t : MT) (ts : MTs) : MTs := fun ds A => match ds with
  | d :: r => (match t d A with
    | some A1 => ts r A1
    | none => none)
  | _ => none
def tT (n : Nat) (ts : MTs) : MT := fun d A => match d with
  | .tup ds => if ds.length = n then ts ds A else none
  | _ => none
section
variable {g : Gm} {X : Cx} {W : WX} {σ : L2.St} {L : Addr → Prop} {A : Fr} {H : Hp} {pos : Pos}
theorem pg_imp {tg : Expr} {t t' : TG} (h : PG X tg t) (k : ∀ v σ H Q, t' v σ H Q → t v σ H Q) : PG X tg t' := ⟨fun pins s σ H v u Q I r q => h.run pins s σ H v u Q I r (k v σ H Q q)⟩
theorem pgs_imp {tg : List Expr} {t t' : TGs} (h : PGs X tg t) (k : ∀ v σ H Q, t' v σ H Q → t v σ H Q) : PGs X tg t' := ⟨fun pins s σ H v u Q I r q => h.run pins s σ H v u Q I r (k v σ H Q q)⟩
theorem Okf.putV {i : Nat} {d : D} {v : V} {A2 : Fr} (G : Okf g L A σ H) (rp : Rep g L H d v) (e : setV i (.val d) A = some A2) : Stp L A σ H L A2 (σ.set i (some v)) H ∧ Okf g L A2 (σ.set i (some v)) H := by
  obtain ⟨G3, ow, lk⟩ := G.put (v := v) e ⟨v, rfl, rp⟩ (fun m => by cases m)
  refine ⟨⟨fun _ h => h, fun _ h => .inl h, fun _ _ h _ => h, fun a o => ?_, lk, fun _ o h => ⟨o, h⟩⟩, G3⟩
  rcases ow a o with o | ⟨m, _⟩
  · exact .inl o
  · cases m
theorem jg_n (i : Nat) {x : Str} (hN : X.N.Nodup) (hi : X.N[i]? = some x := by rfl) (hx : Loc X.env.scope x := by first | exact Or.inl rfl | exact Or.inr rfl) (hf : X.fn x = true ∨ X.env.scope.names.lookup x = some .local := by first | exact .inl rfl | exact .inr rfl) : JG g X (.Name x pos) (tN i) [i] := by
  refine pg_imp (pg_name hN hi hx hf) fun v σ H Q ⟨L, A, d, A', G, rp, e, k⟩ => ?_
  obtain ⟨S, G2⟩ := G.putV rp e
  refine k _ ⟨by rw [List.length_set], fun j hj => ?_⟩ S G2
  exact List.getElem?_set_ne fun z => hj (by simp [z])
theorem jgs_nil : JGs g X [] tNil [] := by
  refine pgs_imp pgs_nil fun vs σ H Q ⟨L, A, ds, A', G, rp, e, k⟩ => ?_
  cases rp with
  | nil => cases e; exact ⟨rfl, k _ ⟨rfl, fun _ _ => rfl⟩ Stp.refl G⟩
  | cons _ _ => cases e
theorem jgs_cons {e : Expr} {es : List Expr} {t : MT} {ts : MTs} {is js : List Nat} (h1 : JG g X e t is) (h2 : JGs g X es ts js) (ha : (assignEach (e :: es) X.env).map (·.2) = assign e X.env :: (assignEach es X.env).map (·.2) := by rfl) : JGs g X (e :: es) (tCons t ts) (is ++ js) := by
  refine pgs_imp (pgs_cons h1 h2 ha) fun vs σ H Q ⟨L, A, ds, A', G, rp, e, k⟩ => ?_
  cases rp with
  | nil => cases e
  | @cons d v ds vs r1 rr =>
    unfold tCons at e
    cases e1 : t d A with
    | none => simp only [e1] at e; cases e
    | some A1 =>
      simp only [e1] at e
      exact ⟨v, vs, rfl, L, A, d, A1, G, r1, e1, fun σ1 c1 S1 G1 => ⟨L, A1, ds, A', G1, rr, e, fun σ2 c2 S2 G2 => k σ2 ⟨c2.1.trans c1.1, fun j hj => (c2.2 j fun z => hj (List.mem_append_right _ z)).trans (c1.2 j fun z => hj (List.mem_append_left _ z))⟩ (S1.trans S2) G2⟩⟩
theorem jg_t {es : List Expr} {n k : Nat} {ts : MTs} {is : List Nat} (hc : X.calm = true) (h : JGs g X es ts is) (hn : (assignEach es X.env).length = n := by rfl) (hst : (assignEach es X.env).findIdx? (·.1) = none := by rfl) : JG g X (.Tuple es k pos) (tT n ts) is := by
  refine pg_imp (pg_tup hc h hn hst) fun v σ H Q ⟨L, A, d, A', G, rp, e, k⟩ => ?_
  cases rp with
  | @tup a vs ds ha rs =>
    unfold tT at e
    by_cases hl : ds.length = n
    · simp only [hl, if_true] at e
      exact ⟨a, vs, rfl, SqT.of ha, by rw [← rs.len]; exact hl, L, A, ds, A', G, rs, e, k⟩
    · simp only [hl, if_false] at e; cases e
  | _ => cases e
def sAsgT (t : MT) (m : M Hd) : MS := fun A => oS (mvM m A) fun d A1 => match t d A1 with
  | some A2 => .nx A2
  | none => .stuck
theorem js_asgT {tg e : Expr} {t : MT} {is : List Nat} {m : M Hd} (hg : JG g X tg t is) (h : JE g X W e m) (hs : swapsWithSole [tg] e pos.line X.env = pure false := by rfl) (hw : swappedStores [tg] e X.env = pure none := by rfl) (h1 : (assignEach [tg] X.env).map (·.2) = [assign tg X.env] := by rfl) : JS g X W (.Assign [tg] e pos) (sAsgT t m) := by
  refine ps_imp (ps_asg (jd h) hg hs hw h1) fun En σ H ⟨L, A, G, w⟩ => ⟨L, A, G, w.bind.mono fun d A1 L1 H1 S1 G1 w1 v r => ?_⟩
  cases e : t d A1 with
  | none => simp only [e] at w1; exact w1.elim
  | some A2 => simp only [e] at w1; exact ⟨L1, A1, d, A2, G1, r, e, fun σ' _ S2 G2 => w1 L1 σ' H1 S2 G2⟩
end

/-! ### defs -/
inductive FOut where
  | ok (d : D) (o : D) | exc (c : Nat) (o : D) | stuck
abbrev Phi := Nat → List D → FOut
structure StpF (L : Addr → Prop) (O : Addr → Prop) (H : Hp) (L' : Addr → Prop) (H' : Hp) : Prop where
  mono : ∀ a, L a → L' a
  new : ∀ a, L' a → L a ∨ H a = none
  keep : ∀ a o, H a = some o → ¬ O a → H' a = some o
  dom : ∀ a o, H a = some o → ∃ o', H' a = some o'
  ldom : ∀ a, L' a → ∃ o, H' a = some o
abbrev noO : Addr → Prop := fun _ => False
/-- a def's promise -/
def spF (g : Gm) (φ : List D → FOut) : Sp := fun vs H Q E => ∃ L ds, (∀ a, L a → ∃ o, H a = some o) ∧ Reps g L H ds vs ∧ match φ ds with
  | .ok d _ => ∀ L' v H', StpF L noO H L' H' → Rep g L' H' d v → Q v H'
  | .exc c _ => ∀ L' H', StpF L noO H L' H' → E (.ref (g.xa c)) none H'
  | .stuck => False
/-- a promise of a def that changes its last argument -/
def spI (g : Gm) (φ : List D → FOut) : Sp := fun vs H Q E => ∃ L ds us d₀ a, vs = us ++ [.ref a] ∧ (∀ a, L a → ∃ o, H a = some o) ∧ Reps g L H ds us ∧ ¬ L a ∧ OwnC g L H d₀ a ∧ match φ (ds ++ [d₀]) with
  | .ok d o => ∀ L' v H', StpF L (fun b => b = a) H L' H' → ¬ L' a → OwnC g L' H' o a → Rep g L' H' d v → Q v H'
  | .exc c o => ∀ L' H', StpF L (fun b => b = a) H L' H' → ¬ L' a → OwnC g L' H' o a → E (.ref (g.xa c)) none H'
  | .stuck => False
/-- a def that may be called -/
structure Cal (P : Program) (w : World) (K : PySem.W.Frag) (mg : Str → Option Value) (base : Heap) (g : Gm) (k : Nat) (n : Nat) (sp : Sp) (x : Str) : Prop where
  ex : ∃ fd ps, FnOk P w K mg base (L2N.CX P w) k (g.fa n) fd ps sp ∧ Binds K fd ps []
  kp : PySem.W.keepIn K (.ref (g.fa n)) = true
  at_ : mg x = some (.ref (g.fa n))
def mCall (Φ : Phi) (f : Nat) (ms : List (M Hd)) : M Hd := fun A => (mDs ms A).bind fun ds A1 => match Φ f ds with
  | .ok d _ => .ok (.d d) A1
  | .exc c _ => .exc c A1
  | .stuck => .stuck
section
variable {g : Gm} {X : Cx} {W : WX} {σ : L2.St} {L L' : Addr → Prop} {A : Fr} {H H' : Hp} {pos p : Pos}
/-- behind a call that changed nothing of ours -/
theorem Okf.called (G : Okf g L A σ H) (F : StpF L noO H L' H') : Stp L A σ H L' A σ H' ∧ Okf g L' A σ H' := by
  have S : Stp L A σ H L' A σ H' := ⟨F.mono, fun a h => (F.new a h).elim .inl fun z => .inr (.inl z), fun a o e _ => F.keep a o e (fun z => z), fun _ h => .inl h, fun _ _ h => ⟨h, rfl⟩, F.dom⟩
  have nl : ∀ a o, H a = some o → ¬ L a → ¬ L' a := fun a o e n z => by
    rcases F.new a z with z | z
    · exact n z
    · rw [e] at z; cases z
  refine ⟨S, G.len, F.ldom, fun i sv h => ?_, G.inj⟩
  have q := G.slot i sv h
  cases sv with
  | un => trivial
  | val d => obtain ⟨v, e, r⟩ := q; exact ⟨v, e, r.step G S⟩
  | ow b d => obtain ⟨a, e, n, c⟩ := q; obtain ⟨o, ho, _⟩ := c.here; exact ⟨a, e, nl a o ho n, c.move (fun o e => F.keep a o e (fun z => z)) fun _ _ r => r.step G S⟩
  | lck d => obtain ⟨a, e, n, c⟩ := q; obtain ⟨o, ho, _⟩ := c.here; exact ⟨a, e, nl a o ho n, c.move (fun o e => F.keep a o e (fun z => z)) fun _ _ r => r.step G S⟩
theorem je_call {Φ : Phi} {f k : Nat} {x : Str} {e : Expr} {es : List Expr} {ms : List (M Hd)} (C : Cal X.prog X.w X.K X.mg X.base g k f (spF g (Φ f)) x) (hr : Room k X.A) (tk : L2N.Takes X W) (ha : JA g X W (e :: es) (mDs ms)) (hg : Gl X x := by rfl) (hdb : (x == ("__debug__" : Str)) = false := by decide)
    (he : starEach (e :: es) X.env = (false, eval e X.env) :: starEach es X.env := by rfl) (hpl : (backTo pos (starEach es X.env)).any (·.1) = false := by rfl) : JE g X W (.Call (.Name x p) (e :: es) [] pos) (mCall Φ f ms) := by
  obtain ⟨fd, ps, F, hb⟩ := C.ex
  refine pe_imp (pe_callS F hr hg C.at_ C.kp hb (fun σ => L2N.passAt tk σ) ha hdb he hpl) fun σ H Q ⟨L, A, G, w⟩ => ⟨L, A, G, w.bind.mono fun ds A1 L1 H1 S1 G1 w1 vs rs => ?_⟩
  refine ⟨L1, ds, G1.dom, rs, ?_⟩
  cases e : Φ f ds with
  | ok d o =>
    simp only [e] at w1
    intro L' v H' F' r
    obtain ⟨S2, G2⟩ := G1.called F'
    exact w1 L' H' S2 G2 v r
  | exc c o =>
    simp only [e] at w1
    intro L' H' F'
    obtain ⟨S2, G2⟩ := G1.called F'
    exact w1 L' H' S2 G2
  | stuck => simp only [e] at w1; exact w1.elim
/-! ### in and out: the last argument is an owned thing -/
def TAi (g : Gm) (W : WX) (m : M (List D)) (i : Nat) : TA := fun σ H Q => ∃ L A, Okf g L A σ H ∧ Wp g W σ L A H (m A) fun ds A' L' H' => ∀ vs u, Reps g L' H' ds vs → σ[i]? = some (some u) → Q (vs ++ [u]) H'
abbrev JAi (g : Gm) (X : Cx) (W : WX) (es : List Expr) (m : M (List D)) (i : Nat) : Prop := PA X es (TAi g W m i)
/-- the slot is bound -/
def isOwn (i : Nat) (A : Fr) : Bool := match A[i]? with
  | some (.ow _ _) => true
  | _ => false
def mDi (i : Nat) : List (M Hd) → M (List D)
  | [] => fun A => if isOwn i A = true then .ok [] A else .stuck
  | m :: ms => fun A => (mvM m A).bind fun d A1 => (mDi i ms A1).bind fun ds A2 => .ok (d :: ds) A2
theorem jai_last (i : Nat) {x : Str} (hN : X.N[i]? = some x := by rfl) (hv : Vis X.env.scope x := by first | exact Or.inl rfl | exact Or.inr (Or.inl rfl) | exact Or.inr (Or.inr rfl)) (hd : (x == ("__debug__" : Str)) = false := by decide)
    (hcd : (x == ("__classdict__" : Str)) = false := by decide) : JAi g X W [.Name x p] (mDi i []) i := by
  refine pa_imp (pa_cons (pe_var hN hv hd hcd) pa_nil (by rfl)) fun σ H Q ⟨L, A, G, w⟩ => ?_
  unfold mDi at w
  by_cases ho : isOwn i A = true
  · rw [if_pos ho] at w
    unfold isOwn at ho
    cases q : A[i]? with
    | none => simp only [q] at ho; cases ho
    | some sv =>
      cases sv with
      | ow b d => obtain ⟨a, ea, _⟩ := G.slot i _ q; exact ⟨_, ea, w L H Stp.refl G [] _ .nil ea⟩
      | _ => simp only [q] at ho; cases ho
  · rw [if_neg ho] at w; exact w.elim
theorem jai_cons {i : Nat} {e : Expr} {es : List Expr} {m : M Hd} {ms : List (M Hd)} (ha : JE g X W e m) (hr : JAi g X W es (mDi i ms) i) (hs : starEach (e :: es) X.env = (false, eval e X.env) :: starEach es X.env := by rfl) : JAi g X W (e :: es) (mDi i (m :: ms)) i := by
  refine pa_imp (pa_cons (jd ha) hr hs) fun σ H Q ⟨L, A, G, w⟩ => ?_
  refine ⟨L, A, G, w.bind.mono fun d1 A1 L1 H1 S1 G1 w1 v1 r1 => ⟨L1, A1, G1, w1.bind.mono fun ds A2 L_2 H2 S2 G2 w2 vs u rs eu => ?_⟩⟩
  exact w2 L_2 H2 Stp.refl G2 _ u (.cons (r1.step G1 S2) rs) eu
def mCallI (Φ : Phi) (f : Nat) (ms : List (M Hd)) (i : Nat) : M Hd := fun A => (mDi i ms A).bind fun ds A1 => match A1[i]? with
  | some (.ow b d₀) => (match Φ f (ds ++ [d₀]) with
    | .ok d o => .ok (.d d) (A1.set i (.ow b o))
    | .exc c o => .exc c (A1.set i (.ow b o))
    | .stuck => .stuck)
  | _ => .stuck
/-- behind a call that changed the thing of slot i -/
theorem Okf.calledI {i : Nat} {fl : Bool} {a : Addr} {d₀ o : D} (G : Okf g L A σ H) (e : A[i]? = some (.ow fl d₀)) (es : σ[i]? = some (some (.ref a))) (F : StpF L (fun b => b = a) H L' H') (nl : ¬ L' a) (c : OwnC g L' H' o a) :
    Stp L A σ H L' (A.set i (.ow fl o)) σ H' ∧ Okf g L' (A.set i (.ow fl o)) σ H' := by
  have ow : OwnAt A σ i a := ⟨⟨_, e, rfl⟩, es⟩
  have hi : i < A.length := by
    rcases Nat.lt_or_ge i A.length with h | h
    · exact h
    · rw [List.getElem?_eq_none h] at e; cases e
  have ob : ∀ j b, OwnAt (A.set i (.ow fl o)) σ j b ↔ OwnAt A σ j b := fun j b => by
    by_cases hj : i = j
    · subst hj
      unfold OwnAt
      rw [List.getElem?_set_self hi]
      exact ⟨fun h => ⟨⟨_, e, rfl⟩, h.2⟩, fun h => ⟨⟨_, rfl, rfl⟩, h.2⟩⟩
    · unfold OwnAt
      rw [List.getElem?_set_ne hj]
  have na : ∀ b, L b ∨ (∃ vs, H b = some (.tup vs)) → b ≠ a := fun b h z => by
    subst z
    exact G.not_own (h.imp id .inr) ⟨i, ow⟩
  have S : Stp L A σ H L' (A.set i (.ow fl o)) σ H' := ⟨F.mono, fun b h => (F.new b h).elim .inl fun z => .inr (.inl z), fun b u q n => F.keep b u q fun z => n (by rw [z]; exact ⟨i, ow⟩), fun b ⟨j, h⟩ => .inl ⟨j, (ob j b).mp h⟩, fun j d h => ⟨by rw [kf_set e (s2 := .ow fl o) (by cases fl <;> rfl)]; exact h, rfl⟩, F.dom⟩
  have nl2 : ∀ b u, H b = some u → ¬ L b → ¬ L' b := fun b u q n z => by
    rcases F.new b z with z | z
    · exact n z
    · rw [q] at z; cases z
  refine ⟨S, by rw [List.length_set]; exact G.len, F.ldom, fun j sv h => ?_, fun j k b h1 h2 => G.inj j k b ((ob j b).mp h1) ((ob k b).mp h2)⟩
  by_cases hj : i = j
  · subst hj
    rw [List.getElem?_set_self hi] at h
    cases h
    exact ⟨a, es, nl, c⟩
  · rw [List.getElem?_set_ne hj] at h
    have q := G.slot j sv h
    have ne : ∀ b, σ[j]? = some (some (.ref b)) → sv.mut = true → b ≠ a := fun b z m w => by
      subst w
      exact hj (G.inj i j b ow ⟨⟨sv, h, m⟩, z⟩)
    cases sv with
    | un => trivial
    | val d => obtain ⟨v, e, r⟩ := q; exact ⟨v, e, r.step G S⟩
    | ow b d => obtain ⟨b, e, n, c⟩ := q; obtain ⟨u, hu, _⟩ := c.here; exact ⟨b, e, nl2 b u hu n, c.move (fun u q => F.keep b u q (ne b e rfl)) fun _ _ r => r.step G S⟩
    | lck d => obtain ⟨b, e, n, c⟩ := q; obtain ⟨u, hu, _⟩ := c.here; exact ⟨b, e, nl2 b u hu n, c.move (fun u q => F.keep b u q (ne b e rfl)) fun _ _ r => r.step G S⟩
theorem je_callI {Φ : Phi} {f k i : Nat} {x : Str} {e : Expr} {es : List Expr} {ms : List (M Hd)} (C : Cal X.prog X.w X.K X.mg X.base g k f (spI g (Φ f)) x) (hr : Room k X.A) (tk : L2N.Takes X W) (ha : JAi g X W (e :: es) (mDi i ms) i) (hg : Gl X x := by rfl) (hdb : (x == ("__debug__" : Str)) = false := by decide)
    (he : starEach (e :: es) X.env = (false, eval e X.env) :: starEach es X.env := by rfl) (hpl : (backTo pos (starEach es X.env)).any (·.1) = false := by rfl) : JE g X W (.Call (.Name x p) (e :: es) [] pos) (mCallI Φ f ms i) := by
  obtain ⟨fd, ps, F, hb⟩ := C.ex
  refine pe_imp (pe_callS F hr hg C.at_ C.kp hb (fun σ => L2N.passAt tk σ) ha hdb he hpl) fun σ H Q ⟨L, A, G, w⟩ => ⟨L, A, G, w.bind.mono fun ds A1 L1 H1 S1 G1 w1 vs u rs eu => ?_⟩
  cases q : A1[i]? with
  | none => simp only [q] at w1; exact w1.elim
  | some sv =>
    cases sv with
    | ow b d₀ =>
      simp only [q] at w1
      obtain ⟨a, ea, nl, c⟩ := G1.slot i _ q
      have eu' := eu
      rw [ea] at eu'
      cases eu'
      refine ⟨L1, ds, vs, d₀, a, rfl, G1.dom, rs, nl, c, ?_⟩
      cases e : Φ f (ds ++ [d₀]) with
      | ok d o =>
        simp only [e] at w1
        intro L' v H' F' nl' c' r
        obtain ⟨S2, G2⟩ := G1.calledI q ea F' nl' c'
        exact w1 L' H' S2 G2 v r
      | exc c o =>
        simp only [e] at w1
        intro L' H' F' nl' c'
        obtain ⟨S2, G2⟩ := G1.calledI q ea F' nl' c'
        exact w1 L' H' S2 G2
      | stuck => simp only [e] at w1; exact w1.elim
    | _ => simp only [q] at w1; exact w1.elim
end

/-! ### a def by its body -/
structure CF where
  np : Nat
  ns : Nat
  io : Bool
  body : Phi → MS
def fr0 (c : CF) (ds : List D) : Fr := match c.io with
  | false => ds.map .val ++ List.replicate (c.ns - c.np) .un
  | true => ds.dropLast.map .val ++ ((ds.getLast?.map (SV.ow true)).toList ++ List.replicate (c.ns - c.np) .un)
def ioOf (c : CF) (A : Fr) : Option D := match c.io with
  | false => some .non
  | true => (match A[c.np - 1]? with
    | some (.ow true d) => some d
    | _ => none)
def runF (c : CF) (Φ : Phi) (ds : List D) : FOut := if ds.length = c.np then (match c.body Φ (fr0 c ds) with
  | .rt d A => (match ioOf c A with
    | some o => .ok d o
    | none => .stuck)
  | .nx A => (match ioOf c A with
    | some o => .ok .non o
    | none => .stuck)
  | .exc x A => (match ioOf c A with
    | some o => .exc x o
    | none => .stuck)
  | _ => .stuck) else .stuck
def call (Pg : Nat → CF) : Nat → Phi
  | 0 => fun _ _ => .stuck
  | k + 1 => fun f ds => runF (Pg f) (call Pg k) ds
section
variable {P : Program} {w : World} {K : PySem.W.Frag} {mg : Str → Option Value} {base : Heap} {x qual : Str} {params : Arguments} {body : List Stmt} {scope : Scope} {f : Addr} {fd : FuncData} {N ps : List Str} {k : Nat} {g : Gm} {c : CF} {Φ : Phi}
theorem ok_fr0 {L : Addr → Prop} {H : Hp} {ds : List D} {vs : List V} (hc : c.io = false) (hl : ds.length = c.np) (hn : c.ns = N.length) (dm : ∀ a, L a → ∃ o, H a = some o) (rs : Reps g L H ds vs) : Okf g L (fr0 c ds) (start N vs) H ∧ ∀ a, ¬ Own (fr0 c ds) (start N vs) a := by
  have e0 : fr0 c ds = ds.map .val ++ List.replicate (c.ns - c.np) .un := by unfold fr0; rw [hc]
  have no : ∀ (i : Nat) sv, (fr0 c ds)[i]? = some sv → sv = .un ∨ ∃ d, ds[i]? = some d ∧ sv = .val d := fun i sv h => by
    rw [e0] at h
    by_cases hi : i < (ds.map SV.val).length
    · rw [List.getElem?_append_left hi, List.getElem?_map] at h
      cases q : ds[i]? with
      | none => rw [q] at h; cases h
      | some d => rw [q] at h; cases h; exact .inr ⟨d, rfl, rfl⟩
    · rw [List.getElem?_append_right (by omega)] at h
      exact .inl (List.eq_of_mem_replicate (List.mem_of_getElem? h))
  have nown : ∀ a, ¬ Own (fr0 c ds) (start N vs) a := fun a ⟨i, ⟨sv, h, m⟩, _⟩ => by
    rcases no i sv h with rfl | ⟨d, _, rfl⟩ <;> cases m
  refine ⟨⟨?_, dm, fun i sv h => ?_, fun i j a h1 => absurd ⟨i, h1⟩ (nown a)⟩, nown⟩
  · rw [e0]
    unfold L2.start
    simp only [List.length_append, List.length_map, List.length_replicate]
    rw [hl, hn, ← rs.len, hl]
  · rcases no i sv h with rfl | ⟨d, hd, rfl⟩
    · trivial
    · obtain ⟨v, hv, r⟩ := rs.get hd
      refine ⟨v, ?_, r⟩
      unfold L2.start
      have hi : i < vs.length := by
        rcases Nat.lt_or_ge i vs.length with z | z
        · exact z
        · rw [List.getElem?_eq_none z] at hv; cases hv
      rw [List.getElem?_append_left (by rw [List.length_map]; exact hi), List.getElem?_map, hv]
      rfl
theorem fn_ok (F : FunD K x qual params body scope [] [] f fd) (S : FnScope N ps scope) (hio : c.io = false) (hnp : c.np = ps.length) (hns : c.ns = N.length)
    (hb : ∀ (cdv : Value) (A : Around) (outer : List Env) (s : Shared) (H : Hp) (E : XK), Room k (A.deeper (envOfC qual scope s.heap.objs.size f cdv)) →
      JB g (cxOf (L2N.CX P w) P w K mg base N qual scope f cdv A outer s H E) (fun cls d _ H => E cls d H) body (c.body Φ)) : FnOk P w K mg base (L2N.CX P w) (k + 1) f fd ps (spF g (runF c Φ)) := by
  have hlen : ∀ vs H Q E, spF g (runF c Φ) vs H Q E → vs.length = ps.length := fun vs H Q E ⟨L, ds, _, rs, h⟩ => by
    rw [← rs.len]
    by_cases hl : ds.length = c.np
    · rw [hl, hnp]
    · unfold runF at h
      rw [if_neg hl] at h
      exact h.elim
  refine F.ok S hlen fun cdv A outer s H vs Q E hr hsp => ⟨_, hb cdv A outer s H E hr, ?_⟩
  obtain ⟨L, ds, dm, rs, h⟩ := hsp
  have hl : ds.length = c.np := by
    rw [hnp, rs.len]
    exact hlen vs H Q E ⟨L, ds, dm, rs, h⟩
  obtain ⟨G, no⟩ := ok_fr0 (c := c) hio hl hns dm rs
  refine ⟨L, fr0 c ds, G, ?_⟩
  unfold runF at h
  rw [if_pos hl] at h
  have fin : ∀ {L' : Addr → Prop} {A' : Fr} {σ' : L2.St} {H' : Hp}, Stp L (fr0 c ds) (start N vs) H L' A' σ' H' → Okf g L' A' σ' H' → StpF L noO H L' H' := fun S' G' =>
    ⟨S'.mono, fun a z => (S'.new a z).elim .inl fun z => z.elim .inr fun o => absurd o (no a), fun a o e _ => S'.keep a o e (no a), S'.dom, G'.dom⟩
  have eio : ∀ A', ioOf c A' = some .non := fun A' => by unfold ioOf; rw [hio]
  cases e : c.body Φ (fr0 c ds) with
  | rt d A' => simp only [e, eio] at h; exact fun L' σ' H' v S' G' r => h L' v H' (fin S' G') r
  | nx A' => simp only [e, eio] at h; exact fun L' σ' H' S' G' => h L' .non H' (fin S' G') .non
  | exc x A' => simp only [e, eio] at h; exact fun L' σ' H' S' G' => h L' H' (fin S' G')
  | bk A' => simp only [e] at h
  | ct A' => simp only [e] at h
  | stuck => simp only [e] at h
theorem ok_fr0I {L : Addr → Prop} {H : Hp} {ds : List D} {vs : List V} {d₀ : D} {a : Addr} (hc : c.io = true) (hl : ds.length + 1 = c.np) (hn : c.ns = N.length) (hk : c.np ≤ c.ns) (dm : ∀ a, L a → ∃ o, H a = some o) (rs : Reps g L H ds vs) (nl : ¬ L a) (ow : OwnC g L H d₀ a) :
    Okf g L (fr0 c (ds ++ [d₀])) (start N (vs ++ [.ref a])) H ∧ (∀ b, Own (fr0 c (ds ++ [d₀])) (start N (vs ++ [.ref a])) b → b = a) ∧ kf (fr0 c (ds ++ [d₀])) (c.np - 1) = some none ∧ (start N (vs ++ [.ref a]))[c.np - 1]? = some (some (.ref a)) := by
  have e0 : fr0 c (ds ++ [d₀]) = ds.map .val ++ (.ow true d₀ :: List.replicate (c.ns - c.np) .un) := by unfold fr0; rw [hc]; simp
  have hv : vs.length = ds.length := rs.len.symm
  have es : ∀ i v, (vs ++ [V.ref a])[i]? = some v → (start N (vs ++ [.ref a]))[i]? = some (some v) := fun i v h => by
    have hi : i < (vs ++ [V.ref a]).length := by
      rcases Nat.lt_or_ge i (vs ++ [V.ref a]).length with z | z
      · exact z
      · rw [List.getElem?_eq_none z] at h; cases h
    unfold L2.start
    rw [List.getElem?_append_left (by rw [List.length_map]; exact hi), List.getElem?_map, h]
    rfl
  have ea : (start N (vs ++ [.ref a]))[c.np - 1]? = some (some (.ref a)) := es _ _ (by rw [show c.np - 1 = vs.length by omega, List.getElem?_append_right (Nat.le_refl _)]; simp)
  have no : ∀ (i : Nat) sv, (fr0 c (ds ++ [d₀]))[i]? = some sv → sv = .un ∨ (∃ d, ds[i]? = some d ∧ sv = .val d) ∨ (i = ds.length ∧ sv = .ow true d₀) := fun i sv h => by
    rw [e0] at h
    by_cases hi : i < (ds.map SV.val).length
    · rw [List.getElem?_append_left hi, List.getElem?_map] at h
      cases q : ds[i]? with
      | none => rw [q] at h; cases h
      | some d => rw [q] at h; cases h; exact .inr (.inl ⟨d, rfl, rfl⟩)
    · rw [List.getElem?_append_right (by omega), List.length_map] at h
      rw [List.length_map] at hi
      rcases Nat.lt_or_ge ds.length i with z | z
      · obtain ⟨m, em⟩ : ∃ m, i - ds.length = m + 1 := ⟨i - ds.length - 1, by omega⟩
        rw [em, List.getElem?_cons_succ] at h
        exact .inl (List.eq_of_mem_replicate (List.mem_of_getElem? h))
      · have : i = ds.length := by omega
        subst this
        rw [Nat.sub_self, List.getElem?_cons_zero] at h
        cases h
        exact .inr (.inr ⟨rfl, rfl⟩)
  have nown : ∀ i b, OwnAt (fr0 c (ds ++ [d₀])) (start N (vs ++ [.ref a])) i b → i = ds.length ∧ b = a := fun i b ⟨⟨sv, h, m⟩, h2⟩ => by
    rcases no i sv h with rfl | ⟨d, _, rfl⟩ | ⟨rfl, rfl⟩
    · cases m
    · cases m
    · rw [show ds.length = c.np - 1 by omega, ea] at h2
      cases h2
      exact ⟨rfl, rfl⟩
  refine ⟨⟨?_, dm, fun i sv h => ?_, fun i j b h1 h2 => (nown i b h1).1.trans (nown j b h2).1.symm⟩, fun b ⟨i, h⟩ => (nown i b h).2, ?_, ea⟩
  · rw [e0]
    unfold L2.start
    simp only [List.length_append, List.length_map, List.length_replicate, List.length_cons, List.length_nil]
    omega
  · rcases no i sv h with rfl | ⟨d, hd, rfl⟩ | ⟨rfl, rfl⟩
    · trivial
    · obtain ⟨v, hv, r⟩ := rs.get hd
      have hi : i < vs.length := by
        rcases Nat.lt_or_ge i vs.length with z | z
        · exact z
        · rw [List.getElem?_eq_none z] at hv; cases hv
      exact ⟨v, es _ _ (by rw [List.getElem?_append_left hi]; exact hv), r⟩
    · exact ⟨a, by rw [show ds.length = c.np - 1 by omega]; exact ea, nl, ow⟩
  · refine kf_arg.2 ⟨d₀, ?_⟩
    rw [e0, List.getElem?_append_right (by rw [List.length_map]; omega), List.length_map, show c.np - 1 - ds.length = 0 by omega]
    rfl
theorem fn_okI (F : FunD K x qual params body scope [] [] f fd) (S : FnScope N ps scope) (hio : c.io = true) (hnp : c.np = ps.length) (hns : c.ns = N.length) (hk : c.np ≤ c.ns)
    (hb : ∀ (cdv : Value) (A : Around) (outer : List Env) (s : Shared) (H : Hp) (E : XK), Room k (A.deeper (envOfC qual scope s.heap.objs.size f cdv)) →
      JB g (cxOf (L2N.CX P w) P w K mg base N qual scope f cdv A outer s H E) (fun cls d _ H => E cls d H) body (c.body Φ)) : FnOk P w K mg base (L2N.CX P w) (k + 1) f fd ps (spI g (runF c Φ)) := by
  have hlen : ∀ vs H Q E, spI g (runF c Φ) vs H Q E → vs.length = ps.length := fun vs H Q E ⟨L, ds, us, d₀, a, ev, _, rs, _, _, h⟩ => by
    rw [ev, List.length_append, ← rs.len]
    by_cases hl : (ds ++ [d₀]).length = c.np
    · rw [← hnp, ← hl, List.length_append]; rfl
    · unfold runF at h
      rw [if_neg hl] at h
      exact h.elim
  refine F.ok S hlen fun cdv A outer s H vs Q E hr hsp => ⟨_, hb cdv A outer s H E hr, ?_⟩
  have hv := hlen vs H Q E hsp
  obtain ⟨L, ds, us, d₀, a, rfl, dm, rs, nl, ow, h⟩ := hsp
  have hl : ds.length + 1 = c.np := by
    rw [List.length_append, ← rs.len, ← hnp] at hv
    exact hv
  obtain ⟨G, no, kk, ea⟩ := ok_fr0I (c := c) hio hl hns hk dm rs nl ow
  refine ⟨L, fr0 c (ds ++ [d₀]), G, ?_⟩
  unfold runF at h
  rw [if_pos (by rw [List.length_append]; exact hl)] at h
  have fin : ∀ {L' : Addr → Prop} {A' : Fr} {σ' : L2.St} {H' : Hp} {o : D}, ioOf c A' = some o → Stp L (fr0 c (ds ++ [d₀])) (start N (us ++ [.ref a])) H L' A' σ' H' → Okf g L' A' σ' H' → StpF L (fun b => b = a) H L' H' ∧ ¬ L' a ∧ OwnC g L' H' o a := fun {L' A' σ' H' o} eo S' G' => by
    obtain ⟨k1, k2⟩ := S'.lk (c.np - 1) none kk
    unfold ioOf at eo
    rw [hio] at eo
    obtain ⟨d, ed⟩ := kf_arg.1 k1
    simp only [ed] at eo
    cases eo
    obtain ⟨b, e1, n1, o1⟩ := G'.slot _ _ ed
    rw [k2, ea] at e1
    cases e1
    refine ⟨⟨S'.mono, fun x z => (S'.new x z).elim .inl fun z2 => z2.elim .inr fun z3 => absurd (by rw [← no x z3]; exact z) n1, fun x o e n => S'.keep x o e fun z => n (no x z), S'.dom, G'.dom⟩, n1, o1⟩
  cases e : c.body Φ (fr0 c (ds ++ [d₀])) with
  | rt d A' =>
    simp only [e] at h
    cases q : ioOf c A' with
    | none => simp only [q] at h
    | some o => simp only [q] at h; exact fun L' σ' H' v S' G' r => h L' v H' (fin q S' G').1 (fin q S' G').2.1 (fin q S' G').2.2 r
  | nx A' =>
    simp only [e] at h
    cases q : ioOf c A' with
    | none => simp only [q] at h
    | some o => simp only [q] at h; exact fun L' σ' H' S' G' => h L' .non H' (fin q S' G').1 (fin q S' G').2.1 (fin q S' G').2.2 .non
  | exc x A' =>
    simp only [e] at h
    cases q : ioOf c A' with
    | none => simp only [q] at h
    | some o => simp only [q] at h; exact fun L' σ' H' S' G' => h L' H' (fin q S' G').1 (fin q S' G').2.1 (fin q S' G').2.2
  | bk A' => simp only [e] at h
  | ct A' => simp only [e] at h
  | stuck => simp only [e] at h
end
end Z

namespace Z
open PySem PySem.Spec PyProof.Rows L2

/-! ### what is walked -/
/-- J gives the items ds, wherever the frame may come to -/
def ItOk (g : Gm) (J : It) (L : Addr → Prop) (A : Fr) (σ : L2.St) (H : Hp) (ds : List D) : Prop := ∀ L2 A2 σ2 H2, Stp L A σ H L2 A2 σ2 H2 → Okf g L2 A2 σ2 H2 → ∀ i : Nat,
  (i < ds.length → J.go i H2) ∧ (∀ d, ds[i]? = some d → ∀ x H3, J.yld i H2 x H3 → Same H2 H3 ∧ Rep g L2 H3 d x) ∧ (ds.length ≤ i → J.stop i H2)
/-- the frame reached when the walk begins -/
def TIm (g : Gm) (W : WX) (m : M (List D)) : TI := fun σ H R => ∃ L A, Okf g L A σ H ∧ Wp g W σ L A H (m A) fun ds A' L' H' => ∀ J, ItOk g J L' A' σ H' ds → R J H'
abbrev JI (g : Gm) (X : Cx) (W : WX) (tg e : Expr) (m : M (List D)) : Prop := PI X tg e (TIm g W m)
theorem pi_imp {X : Cx} {tg e : Expr} {t t' : TI} (h : PI X tg e t) (k : ∀ σ H R, t' σ H R → t σ H R) : PI X tg e t' := ⟨fun pins s σ H R I q => h.run pins s σ H R I (k σ H R q)⟩
def mIL (m : M Hd) : M (List D) := fun A => (mvM m A).bind fun d A1 => match d with
  | .lst ds => .ok ds A1
  | _ => .stuck
def mIT (m : M Hd) : M (List D) := fun A => (mvM m A).bind fun d A1 => match d with
  | .tup ds => .ok ds A1
  | _ => .stuck
def signs (s : Str) : List D := s.cps.toList.map fun c => .str ⟨#[c]⟩
def mIS (m : M Hd) : M (List D) := fun A => (m A).bind fun h A1 => match pk h A1 with
  | some (.str s) => .ok (signs s) A1
  | _ => .stuck
def rangeL (lo : Int) (n : Nat) : List D := (List.range n).map fun i => .int (lo + (i : Nat))
/-- bounds of a range -/
def rgOk (j : Int) : Bool := decide (-(2 ^ 62) ≤ j) && decide (j < 2 ^ 62)
def mIR1 (m : M Hd) : M (List D) := fun A => (mHs [m] A).bind fun hs A1 => match pks hs A1 with
  | some [.int j] => if rgOk j = true then .ok (rangeL 0 j.toNat) A1 else .stuck
  | _ => .stuck
def mIR2 (m m2 : M Hd) : M (List D) := fun A => (mHs [m, m2] A).bind fun hs A1 => match pks hs A1 with
  | some [.int i, .int j] => if (rgOk i && rgOk j) = true then .ok (rangeL i (j - i).toNat) A1 else .stuck
  | _ => .stuck
section
variable {g : Gm} {X : Cx} {W : WX} {tg e : Expr} {σ : L2.St} {L : Addr → Prop} {A : Fr} {H : Hp} {pos p : Pos}
theorem rep_sqL {ds : List D} {v : V} (hK : g.K = X.K) (h : Rep g L H (.lst ds) v) : ∃ a vs, v = .ref a ∧ SqL X.K H a vs ∧ Reps g L H ds vs := by
  rw [← hK]
  cases h with
  | lst l r rs => exact ⟨_, _, rfl, SqL.of r, rs⟩
theorem itOk_list {a : Addr} {ds : List D} (h : ∀ L2 A2 σ2 H2, Stp L A σ H L2 A2 σ2 H2 → Okf g L2 A2 σ2 H2 → ∃ vs, SqL g.K H2 a vs ∧ Reps g L2 H2 ds vs) : ItOk g (Itl g.K a) L A σ H ds := by
  intro L2 A2 σ2 H2 S G i
  obtain ⟨vs, sq, rs⟩ := h L2 A2 σ2 H2 S G
  refine ⟨fun hi => ?_, fun d hd x H3 y => ?_, fun hi => ⟨vs, sq, by rw [← rs.len]; exact hi⟩⟩
  · obtain ⟨v, hv, _⟩ := rs.get (List.getElem?_eq_getElem hi)
    exact ⟨vs, v, sq, hv⟩
  · obtain ⟨rfl, y⟩ := y
    obtain ⟨v, hv, r⟩ := rs.get hd
    rw [y vs sq] at hv
    cases hv
    exact ⟨Same.refl _, r⟩
theorem itOk_tup {a : Addr} {ds : List D} (h : ∀ L2 A2 σ2 H2, Stp L A σ H L2 A2 σ2 H2 → Okf g L2 A2 σ2 H2 → ∃ vs, SqT g.K H2 a vs ∧ Reps g L2 H2 ds vs) : ItOk g (Itt g.K a) L A σ H ds := by
  intro L2 A2 σ2 H2 S G i
  obtain ⟨vs, sq, rs⟩ := h L2 A2 σ2 H2 S G
  refine ⟨fun hi => ?_, fun d hd x H3 y => ?_, fun hi => ⟨vs, sq, by rw [← rs.len]; exact hi⟩⟩
  · obtain ⟨v, hv, _⟩ := rs.get (List.getElem?_eq_getElem hi)
    exact ⟨vs, v, sq, hv⟩
  · obtain ⟨rfl, y⟩ := y
    obtain ⟨v, hv, r⟩ := rs.get hd
    rw [y vs sq] at hv
    cases hv
    exact ⟨Same.refl _, r⟩
theorem ji_l {m : M Hd} (hK : g.K = X.K) (h : JE g X W e m) : JI g X W tg e (mIL m) := by
  refine pi_imp (pi_list (jd h)) fun σ H R ⟨L, A, G, w⟩ => ⟨L, A, G, w.bind.mono fun d A1 L1 H1 S1 G1 w1 v r => ?_⟩
  cases d with
  | lst ds =>
    obtain ⟨a, vs, rfl, sq, rs⟩ := rep_sqL hK r
    refine ⟨a, rfl, ⟨vs, sq⟩, ?_⟩
    rw [← hK]
    refine w1 L1 H1 Stp.refl G1 _ (itOk_list fun L2 A2 σ2 H2 S2 G2 => ?_)
    obtain ⟨b, us, e, sq2, rs2⟩ := rep_sqL hK (r.step G1 S2)
    cases e
    exact ⟨us, by rw [hK]; exact sq2, rs2⟩
  | _ => exact w1.elim
theorem ji_t {m : M Hd} (hK : g.K = X.K) (h : JE g X W e m) : JI g X W tg e (mIT m) := by
  refine pi_imp (pi_tup (jd h)) fun σ H R ⟨L, A, G, w⟩ => ⟨L, A, G, w.bind.mono fun d A1 L1 H1 S1 G1 w1 v r => ?_⟩
  cases d with
  | tup ds =>
    have r' := r
    cases r with
    | @tup a vs _ ha rs =>
      refine ⟨a, rfl, ⟨vs, SqT.of ha⟩, ?_⟩
      rw [← hK]
      refine w1 L1 H1 Stp.refl G1 _ (itOk_tup fun L2 A2 σ2 H2 S2 G2 => ?_)
      have r2 := r'.step G1 S2
      cases r2 with
      | tup ha2 rs2 => exact ⟨_, SqT.of ha2, rs2⟩
  | _ => exact w1.elim
theorem Cur.str {s : Str} {v : V} (h : Cur g L H (.str s) v) : v = .str s ∧ PyData.strOk s = true := by
  rcases h with h | ⟨a, _, h⟩
  · cases h; exact ⟨rfl, by assumption⟩
  · exact h.elim
/-- a part of an orderly text -/
theorem strOk_of {s : Str} {l : List Nat} (h : PyData.strOk s = true) (hs : ∀ c ∈ l, c ∈ s.cps.toList) : PyData.strOk ⟨l.toArray⟩ = true := by
  unfold PyData.strOk at h ⊢
  rw [Array.all_eq_true'] at h ⊢
  intro c hc
  exact h c (Array.mem_def.mpr (hs c (by simpa using hc)))
theorem Cur.int {s : Int} {v : V} (h : Cur g L H (.int s) v) : v = .int s := by
  rcases h with h | ⟨a, _, h⟩
  · cases h; rfl
  · exact h.elim
theorem ji_s {m : M Hd} (h : JE g X W e m) : JI g X W tg e (mIS m) := by
  refine pi_imp (pi_str h) fun σ H R ⟨L, A, G, w⟩ => ⟨L, A, G, w.bind.mono fun h1 A1 L1 H1 S1 G1 w1 v r => ?_⟩
  cases e1 : pk h1 A1 with
  | none => simp only [e1] at w1; exact w1.elim
  | some d =>
    cases d with
    | str s =>
      simp only [e1] at w1
      refine ⟨s, (pk_ok G1 r e1).str.1, w1 L1 H1 Stp.refl G1 _ fun L2 A2 σ2 H2 S2 G2 i => ?_⟩
      have hl : (signs s).length = s.cps.size := by unfold signs; simp
      refine ⟨fun hi => by rw [hl] at hi; exact hi, fun d hd x H3 y => ?_, fun hi => by rw [hl] at hi; exact hi⟩
      obtain ⟨rfl, c, hc, rfl⟩ := y
      unfold signs at hd
      rw [List.getElem?_map, Array.getElem?_toList, hc] at hd
      cases hd
      exact ⟨Same.refl _, .str _ (strOk_of (l := [c]) (pk_ok G1 r e1).str.2 fun d hd => by cases List.mem_singleton.mp hd; exact Array.mem_toList_iff.mpr (Array.mem_of_getElem? hc))⟩
    | _ => simp only [e1] at w1; exact w1.elim
theorem itOk_range {lo : Int} {n : Nat} : ItOk g (Itr lo n) L A σ H (rangeL lo n) := by
  intro L2 A2 σ2 H2 S2 G2 i
  have hl : (rangeL lo n).length = n := by unfold rangeL; simp
  refine ⟨fun hi => by rw [hl] at hi; exact hi, fun d hd x H3 y => ?_, fun hi => by rw [hl] at hi; exact hi⟩
  obtain ⟨rfl, rfl⟩ := y
  unfold rangeL at hd
  rw [List.getElem?_map] at hd
  by_cases hi : i < n
  · rw [List.getElem?_range hi] at hd
    cases hd
    exact ⟨Same.refl _, .int _⟩
  · rw [List.getElem?_eq_none (by simpa using hi)] at hd
    cases hd
theorem rgOk_iff {j : Int} (h : rgOk j = true) : -(2 ^ 62) ≤ j ∧ j < 2 ^ 62 := by
  unfold rgOk at h
  rw [Bool.and_eq_true, decide_eq_true_iff, decide_eq_true_iff] at h
  exact h
theorem ji_r1 {a : Expr} {m : M Hd} (hm : X.mg "range" = none) (ha : JH g X W [a] (mHs [m])) (hg : Gl X "range" := by rfl) (hs : starEach [a] X.env = [(false, eval a X.env)] := by rfl) : JI g X W tg (.Call (.Name "range" p) [a] [] pos) (mIR1 m) := by
  refine pi_imp (pi_range1 hg hm ha hs) fun σ H R ⟨L, A, G, w⟩ => ⟨L, A, G, w.bind.mono fun hs A1 L1 H1 S1 G1 w1 vs rs => ?_⟩
  cases e1 : pks hs A1 with
  | none => simp only [e1] at w1; exact w1.elim
  | some ds =>
    simp only [e1] at w1
    have cs := pks_ok G1 rs e1
    split at w1
    · rename_i j he
      cases he
      by_cases hb : rgOk j = true
      · rw [if_pos hb] at w1
        cases cs with
        | cons c1 cr =>
          cases cr
          exact ⟨j, by rw [c1.int], (rgOk_iff hb).1, (rgOk_iff hb).2, w1 L1 H1 Stp.refl G1 _ itOk_range⟩
      · rw [if_neg hb] at w1; exact w1.elim
    · exact w1.elim
theorem ji_r2 {a b : Expr} {m m2 : M Hd} (hm : X.mg "range" = none) (ha : JH g X W [a, b] (mHs [m, m2])) (hg : Gl X "range" := by rfl) (hs : starEach [a, b] X.env = [(false, eval a X.env), (false, eval b X.env)] := by rfl) (hs2 : starEach [b] X.env = [(false, eval b X.env)] := by rfl) : JI g X W tg (.Call (.Name "range" p) [a, b] [] pos) (mIR2 m m2) := by
  refine pi_imp (pi_range2 hg hm ha hs hs2) fun σ H R ⟨L, A, G, w⟩ => ⟨L, A, G, w.bind.mono fun hs A1 L1 H1 S1 G1 w1 vs rs => ?_⟩
  cases e1 : pks hs A1 with
  | none => simp only [e1] at w1; exact w1.elim
  | some ds =>
    simp only [e1] at w1
    have cs := pks_ok G1 rs e1
    split at w1
    · rename_i i j he
      cases he
      by_cases hb : (rgOk i && rgOk j) = true
      · rw [if_pos hb] at w1
        rw [Bool.and_eq_true] at hb
        cases cs with
        | cons c1 cr =>
          cases cr with
          | cons c2 cr =>
            cases cr
            exact ⟨i, j, by rw [c1.int, c2.int], ⟨(rgOk_iff hb.1).1, (rgOk_iff hb.1).2, (rgOk_iff hb.2).1, (rgOk_iff hb.2).2⟩, w1 L1 H1 Stp.refl G1 _ itOk_range⟩
      · rw [if_neg hb] at w1; exact w1.elim
    · exact w1.elim
end

/-! ### for -/
def forL (t : MT) (b : MS) : List D → Fr → SOut
  | [], A => .nx A
  | d :: ds, A => match t d A with
    | none => .stuck
    | some A1 => (match b A1 with
      | .nx A2 => forL t b ds A2
      | .ct A2 => forL t b ds A2
      | .bk A2 => .nx A2
      | .rt d A2 => .rt d A2
      | .exc c A2 => .exc c A2
      | .stuck => .stuck)
def sFor (mi : M (List D)) (t : MT) (b : MS) : MS := fun A => oS (mi A) fun ds A1 => forL t b ds A1
section
variable {g : Gm} {X : Cx} {W : WX} {tg e : Expr} {body : List Stmt} {σ : L2.St} {L : Addr → Prop} {A : Fr} {H : Hp} {pos p : Pos} {En : Ends}
/-- the loop itself -/
theorem for_core {J : It} {ds : List D} {t : MT} {is : List Nat} {b : MS} (G : Okf g L A σ H) (it : ItOk g J L A σ H ds)
    (h : WpS g W En L A σ H (forL t b ds A)) :
    ∃ Wi : Nat → Nat → L2.St → Hp → Prop, (∃ m, Wi 0 m σ H) ∧ ∀ i m σ H, Wi i m σ H →
      (J.stop i H ∧ En.nx σ H) ∨ (J.go i H ∧ ∃ N : L2.St → Hp → Prop, (∀ σ' H', N σ' H' → ∃ m', m' < m ∧ Wi (i + 1) m' σ' H') ∧ ∀ x H', J.yld i H x H' → TGm g t is x σ H' fun σ2 H2 => TSm g W b { En with nx := N, ct := N, bk := En.nx } σ2 H2) := by
  let Pv : Nat → L2.St → Hp → Prop := fun i σ' H' => ∃ L' A', Stp L A σ H L' A' σ' H' ∧ Okf g L' A' σ' H' ∧ WpS g W En L A σ H (forL t b (ds.drop i) A')
  refine ⟨fun i m σ' H' => m = ds.length - i ∧ i ≤ ds.length ∧ Pv i σ' H', ⟨ds.length, by simp, Nat.zero_le _, L, A, Stp.refl, G, h⟩, ?_⟩
  rintro i m σ' H' ⟨rfl, hi, L', A', S', G', w⟩
  obtain ⟨go, yl, st⟩ := it L' A' σ' H' S' G' i
  by_cases hlt : i < ds.length
  · have ed : ds.drop i = ds[i] :: ds.drop (i + 1) := List.drop_eq_getElem_cons hlt
    rw [ed] at w
    unfold forL at w
    refine .inr ⟨go hlt, Pv (i + 1), fun σ2 H2 p => ⟨ds.length - (i + 1), by omega, rfl, hlt, p⟩, fun x H3 y => ?_⟩
    obtain ⟨sm, rp⟩ := yl _ (List.getElem?_eq_getElem hlt) x H3 y
    obtain ⟨S3, G3⟩ := G'.same sm
    cases et : t ds[i] A' with
    | none => simp only [et] at w; exact w.elim
    | some A1 =>
      simp only [et] at w
      refine ⟨L', A', ds[i], A1, G3, rp, et, fun σ4 _ S4 G4 => ⟨L', A1, G4, ?_⟩⟩
      have S5 := S'.trans (S3.trans S4)
      cases eb : b A1 with
      | nx A2 => simp only [eb] at w; exact fun L2 σ2 H2 S2 G2 => ⟨L2, A2, S5.trans S2, G2, w⟩
      | ct A2 => simp only [eb] at w; exact fun L2 σ2 H2 S2 G2 => ⟨L2, A2, S5.trans S2, G2, w⟩
      | bk A2 => simp only [eb] at w; exact fun L2 σ2 H2 S2 G2 => w L2 σ2 H2 (S5.trans S2) G2
      | rt d A2 => simp only [eb] at w; exact fun L2 σ2 H2 v S2 G2 r => w L2 σ2 H2 v (S5.trans S2) G2 r
      | exc c A2 => simp only [eb] at w; exact fun L2 σ2 H2 S2 G2 => w L2 σ2 H2 (S5.trans S2) G2
      | stuck => simp only [eb] at w; exact w.elim
  · have e : i = ds.length := by omega
    subst e
    rw [List.drop_length] at w
    exact .inl ⟨st (Nat.le_refl _), w L' σ' H' S' G'⟩
theorem js_for {mi : M (List D)} {t : MT} {is : List Nat} {b : MS} (hp : PassesOwn (model X.prog X.w) X.A X.env X.xe) (hc : X.calm = true) (hi : JI g X W tg e mi) (hg : JG g X tg t is) (hb : JB g X W body b) (hs : ∀ x, foldedSetIterable e X.env x = pure x := by intro _; rfl) :
    JS g X W (.For tg e body [] pos) (sFor mi t b) := by
  refine ps_imp (ps_for hp hc hi hg hb hs) fun En σ H ⟨L, A, G, w⟩ => ⟨L, A, G, w.bind.mono fun ds A1 L1 H1 S1 G1 w1 J it => ?_⟩
  exact for_core G1 it w1
/-! ### for over a name's list: it is locked meanwhile -/
def lockF (i : Nat) (A : Fr) : Option (List D × Fr) := match A[i]? with
  | some (.ow false (.lst ds)) => some (ds, A.set i (.lck (.lst ds)))
  | some (.lck (.lst ds)) => some (ds, A)
  | some (.val (.lst ds)) => some (ds, A)
  | _ => none
def unlk (i : Nat) (A A' : Fr) : Fr := match A[i]? with
  | some (.ow false _) => (match A'[i]? with
    | some (.lck d) => A'.set i (.ow false d)
    | _ => A')
  | _ => A'
def unlS (i : Nat) (A : Fr) : SOut → SOut
  | .nx A' => .nx (unlk i A A')
  | o => o
def sForN (i : Nat) (t : MT) (b : MS) : MS := fun A => match lockF i A with
  | some (ds, A1) => unlS i A (forL t b ds A1)
  | none => .stuck
theorem lt_of_get {i : Nat} {A : Fr} {sv : SV} (e : A[i]? = some sv) : i < A.length := by
  rcases Nat.lt_or_ge i A.length with h | h
  · exact h
  · rw [List.getElem?_eq_none h] at e; cases e
/-- a slot's mark is changed between own and locked -/
theorem Okf.mark {i : Nat} {s1 s2 : SV} {d : D} (G : Okf g L A σ H) (e : A[i]? = some s1) (h1 : s1 = .ow false d ∨ s1 = .lck d) (h2 : s2 = .ow false d ∨ s2 = .lck d) :
    Okf g L (A.set i s2) σ H ∧ ∀ a, Own (A.set i s2) σ a ↔ Own A σ a := by
  have hi := lt_of_get e
  have m1 : s1.mut = true := by rcases h1 with rfl | rfl <;> rfl
  have m2 : s2.mut = true := by rcases h2 with rfl | rfl <;> rfl
  have ob : ∀ j b, OwnAt (A.set i s2) σ j b ↔ OwnAt A σ j b := fun j b => by
    unfold OwnAt
    by_cases hj : i = j
    · subst hj
      rw [List.getElem?_set_self hi]
      exact ⟨fun h => ⟨⟨_, e, m1⟩, h.2⟩, fun h => ⟨⟨_, rfl, m2⟩, h.2⟩⟩
    · rw [List.getElem?_set_ne hj]
  refine ⟨⟨by rw [List.length_set]; exact G.len, G.dom, fun j sv h => ?_, fun j k b x1 x2 => G.inj j k b ((ob j b).mp x1) ((ob k b).mp x2)⟩, fun a => ⟨fun ⟨j, h⟩ => ⟨j, (ob j a).mp h⟩, fun ⟨j, h⟩ => ⟨j, (ob j a).mpr h⟩⟩⟩
  by_cases hj : i = j
  · subst hj
    rw [List.getElem?_set_self hi] at h
    cases h
    have q := G.slot i s1 e
    rcases h1 with rfl | rfl <;> rcases h2 with rfl | rfl <;> exact q
  · rw [List.getElem?_set_ne hj] at h
    exact G.slot j sv h
theorem lockF_ok {i : Nat} {ds : List D} {A1 : Fr} (G : Okf g L A σ H) (e : lockF i A = some (ds, A1)) :
    Stp L A σ H L A1 σ H ∧ Okf g L A1 σ H ∧ (∃ u, σ[i]? = some (some u) ∧ ∀ J, (∀ a, u = .ref a → J = Itl g.K a) → (∃ a, u = .ref a) → ItOk g J L A1 σ H ds) ∧ (∃ a vs, σ[i]? = some (some (.ref a)) ∧ SqL g.K H a vs) ∧
      ∀ L' A' σ' H', Stp L A1 σ H L' A' σ' H' → Okf g L' A' σ' H' → Stp L A σ H L' (unlk i A A') σ' H' ∧ Okf g L' (unlk i A A') σ' H' := by
  unfold lockF at e
  cases q : A[i]? with
  | none => simp only [q] at e; cases e
  | some sv =>
    simp only [q] at e
    have k := G.slot i sv q
    cases sv with
    | un => cases e
    | val d =>
      cases d with
      | lst ds' =>
        cases e
        obtain ⟨v, ev, r⟩ := k
        have un : ∀ A', unlk i A A' = A' := fun A' => by unfold unlk; simp only [q]
        have gt : ∀ {L2 H2}, Rep g L2 H2 (.lst ds) v → ∃ a vs, v = .ref a ∧ SqL g.K H2 a vs ∧ Reps g L2 H2 ds vs := fun r => by
          cases r with
          | lst l q rs => exact ⟨_, _, rfl, SqL.of q, rs⟩
        obtain ⟨a, vs, rfl, sq, rs⟩ := gt r
        refine ⟨Stp.refl, G, ⟨_, ev, fun J hJ _ => ?_⟩, ⟨a, vs, ev, sq⟩, fun L' A' σ' H' S' G' => by rw [un]; exact ⟨S', G'⟩⟩
        rw [hJ a rfl]
        refine itOk_list fun L2 A2 σ2 H2 S2 G2 => ?_
        obtain ⟨b, us, eb, sq2, rs2⟩ := gt (r.step G S2)
        cases eb
        exact ⟨us, sq2, rs2⟩
      | _ => cases e
    | ow fl d =>
      cases fl with
      | true => cases e
      | false =>
      cases d with
      | lst ds' =>
        cases e
        obtain ⟨a, ea, nl, c⟩ := k
        obtain ⟨G1, ow⟩ := G.mark q (.inl rfl) (s2 := .lck (.lst ds)) (.inr rfl)
        have hi := lt_of_get q
        have S1 : Stp L A σ H L (A.set i (.lck (.lst ds))) σ H := ⟨fun _ h => h, fun _ h => .inl h, fun _ _ h _ => h, fun a h => .inl ((ow a).mp h), fun j d h => by
          have hj : i ≠ j := fun z => by unfold kf at h; rw [← z, q] at h; cases h
          rw [kf_set_ne hj]; exact ⟨h, rfl⟩, fun _ o h => ⟨o, h⟩⟩
        refine ⟨S1, G1, ⟨_, ea, fun J hJ _ => ?_⟩, ⟨a, ?_⟩, fun L' A' σ' H' S' G' => ?_⟩
        · rw [hJ a rfl]
          refine itOk_list fun L2 A2 σ2 H2 S2 G2 => ?_
          obtain ⟨l1, l2⟩ := S2.lk i (some (.lst ds)) (kf_lck.2 (List.getElem?_set_self hi))
          have l1 := kf_lck.1 l1
          obtain ⟨b, eb, _, vs, hv, rs⟩ := G2.slot i _ l1
          rw [l2, ea] at eb
          cases eb
          exact ⟨vs, .inl (.inl hv), rs⟩
        · obtain ⟨vs, hv, rs⟩ := c
          exact ⟨vs, ea, .inl (.inl hv)⟩
        · obtain ⟨l1, l2⟩ := S'.lk i (some (.lst ds)) (kf_lck.2 (List.getElem?_set_self hi))
          have l1 := kf_lck.1 l1
          have un : unlk i A A' = A'.set i (.ow false (.lst ds)) := by unfold unlk; simp only [q, l1]
          rw [un]
          obtain ⟨G2, ow2⟩ := G'.mark l1 (.inr rfl) (s2 := .ow false (.lst ds)) (.inl rfl)
          have S2 := S1.trans S'
          refine ⟨⟨S2.mono, S2.new, S2.keep, fun b h => S2.own b ((ow2 b).mp h), fun j d h => ?_, S2.dom⟩, G2⟩
          have hj : i ≠ j := fun z => by unfold kf at h; rw [← z, q] at h; cases h
          rw [kf_set_ne hj]
          exact S2.lk j d h
      | _ => cases e
    | lck d =>
      cases d with
      | lst ds' =>
        cases e
        obtain ⟨a, ea, nl, c⟩ := k
        have un : ∀ A', unlk i A A' = A' := fun A' => by unfold unlk; simp only [q]
        refine ⟨Stp.refl, G, ⟨_, ea, fun J hJ _ => ?_⟩, ⟨a, ?_⟩, fun L' A' σ' H' S' G' => by rw [un]; exact ⟨S', G'⟩⟩
        · rw [hJ a rfl]
          refine itOk_list fun L2 A2 σ2 H2 S2 G2 => ?_
          obtain ⟨l1, l2⟩ := S2.lk i (some (.lst ds)) (kf_lck.2 q)
          have l1 := kf_lck.1 l1
          obtain ⟨b, eb, _, vs, hv, rs⟩ := G2.slot i _ l1
          rw [l2, ea] at eb
          cases eb
          exact ⟨vs, .inl (.inl hv), rs⟩
        · obtain ⟨vs, hv, rs⟩ := c
          exact ⟨vs, ea, .inl (.inl hv)⟩
      | _ => cases e
theorem js_forN (i : Nat) {x : Str} {t : MT} {is : List Nat} {b : MS} (hK : g.K = X.K) (hp : PassesOwn (model X.prog X.w) X.A X.env X.xe) (hc : X.calm = true) (hg : JG g X tg t is) (hb : JB g X W body b) (hN : X.N[i]? = some x := by rfl) (hv : Vis X.env.scope x := by first | exact Or.inl rfl | exact Or.inr (Or.inl rfl) | exact Or.inr (Or.inr rfl))
    (hd : (x == ("__debug__" : Str)) = false := by decide) (hcd : (x == ("__classdict__" : Str)) = false := by decide) (hs : ∀ y, foldedSetIterable (.Name x p) X.env y = pure y := by intro _; rfl) : JS g X W (.For tg (.Name x p) body [] pos) (sForN i t b) := by
  refine ps_imp (ps_for hp hc (pi_list (pe_var hN hv hd hcd)) hg hb hs) fun En σ H ⟨L, A, G, w⟩ => ?_
  unfold sForN at w
  cases e : lockF i A with
  | none => simp only [e] at w; exact w.elim
  | some q =>
    obtain ⟨ds, A1⟩ := q
    simp only [e] at w
    obtain ⟨S1, G1, ⟨u, eu, it⟩, ⟨a, vs, ea, sq⟩, back⟩ := lockF_ok G e
    have : u = .ref a := by rw [eu] at ea; cases ea; rfl
    subst this
    refine ⟨_, eu, a, rfl, ⟨vs, by rw [← hK]; exact sq⟩, ?_⟩
    have it1 := it (Itl X.K a) (fun b z => by cases z; rw [hK]) ⟨a, rfl⟩
    refine for_core (En := En) (b := b) (t := t) G1 it1 ?_
    cases ef : forL t b ds A1 with
    | nx A' => rw [ef] at w; exact fun L' σ' H' S' G' => by obtain ⟨S2, G2⟩ := back L' A' σ' H' S' G'; exact w L' σ' H' S2 G2
    | bk A' => rw [ef] at w; exact WpS.later S1 w
    | ct A' => rw [ef] at w; exact WpS.later S1 w
    | rt d A' => rw [ef] at w; exact WpS.later S1 w
    | exc c A' => rw [ef] at w; exact WpS.later S1 w
    | stuck => rw [ef] at w; exact w
/-! ### while -/
def whileL (c : M Bool) (b : MS) : Nat → Fr → SOut
  | 0, _ => .stuck
  | n + 1, A => oS (c A) fun k A1 => match k with
    | false => .nx A1
    | true => (match b A1 with
      | .nx A2 => whileL c b n A2
      | .ct A2 => whileL c b n A2
      | .bk A2 => .nx A2
      | .rt d A2 => .rt d A2
      | .exc c A2 => .exc c A2
      | .stuck => .stuck)
def sWhile (n : Nat) (c : M Bool) (b : MS) : MS := fun A => whileL c b n A
theorem js_while {n : Nat} {c : M Bool} {b : MS} (hp : PassesOwn (model X.prog X.w) X.A X.env X.xe) (hc : JT g X W e c) (hb : JB g X W body b) : JS g X W (.While e body [] pos) (sWhile n c b) := by
  refine ps_imp (ps_while hp hc hb) fun En σ H ⟨L, A, G, w⟩ => ?_
  refine ⟨fun m σ' H' => ∃ L' A', Okf g L' A' σ' H' ∧ WpS g W En L' A' σ' H' (whileL c b m A'), ⟨n, L, A, G, w⟩, ?_⟩
  rintro m σ' H' ⟨L', A', G', w⟩
  cases m with
  | zero => exact w.elim
  | succ m =>
    unfold whileL at w
    refine ⟨L', A', G', w.bind.mono fun k A1 L1 H1 S1 G1 w1 => ?_⟩
    cases k with
    | false => show En.nx σ' H1; exact w1 L1 σ' H1 Stp.refl G1
    | true =>
      refine ⟨fun σ'' H'' => ∃ L' A', Okf g L' A' σ'' H'' ∧ WpS g W En L' A' σ'' H'' (whileL c b m A'), fun σ'' H'' z => ⟨m, Nat.lt_succ_self m, z⟩, L1, A1, G1, ?_⟩
      simp only at w1
      cases eb : b A1 with
      | nx A2 => simp only [eb] at w1; exact fun L2 σ2 H2 S2 G2 => ⟨L2, A2, G2, w1.later S2⟩
      | ct A2 => simp only [eb] at w1; exact fun L2 σ2 H2 S2 G2 => ⟨L2, A2, G2, w1.later S2⟩
      | bk A2 => simp only [eb] at w1; exact fun L2 σ2 H2 S2 G2 => w1 L2 σ2 H2 S2 G2
      | rt d A2 => simp only [eb] at w1; exact fun L2 σ2 H2 v S2 G2 r => w1 L2 σ2 H2 v S2 G2 r
      | exc c A2 => simp only [eb] at w1; exact fun L2 σ2 H2 S2 G2 => w1 L2 σ2 H2 S2 G2
      | stuck => simp only [eb] at w1; exact w1.elim
end
end Z

namespace Z
open PySem PySem.Spec PyProof.Rows L2

/-! ### comprehensions -/
def wipeF (A : Fr) : List Nat → Fr
  | [] => A
  | v :: vs => (wipeF A vs).set v .un
/-- A' with the slots vs as they stand in A -/
def restF (A A' : Fr) : List Nat → Fr
  | [] => A'
  | v :: vs => match A[v]? with
    | some sv => (restF A A' vs).set v sv
    | none => restF A A' vs
def vsOk (vs : List Nat) (A : Fr) : Bool := vs.all fun v => match A[v]? with
  | some (.lck _) => false
  | some (.ow true _) => false
  | _ => true
def compL (t : MT) (tt : M Bool) (te : M Hd) (vs : List Nat) : List D → List D → Fr → Out (List D)
  | acc, [], A => .ok acc A
  | acc, d :: ds, A => match t d A with
    | none => .stuck
    | some A1 => (tt A1).bind fun b A2 => match b with
      | true => (mvM te A2).bind fun y A3 => compL t tt te vs (acc ++ [y]) ds (wipeF A3 vs)
      | false => compL t tt te vs acc ds (wipeF A2 vs)
def compR (t : MT) (tt : M Bool) (te : M Hd) (vs : List Nat) (ds : List D) (A1 : Fr) : Out Hd := if (vsOk vs A1 && decide (ds.length ≤ sizeLine)) = true then (match compL t tt te vs [] ds (wipeF A1 vs) with
    | .ok acc A2 => .ok (.f (.lst acc)) (restF A1 A2 vs)
    | _ => .stuck) else .stuck
def mComp (mi : M (List D)) (vs : List Nat) (t : MT) (tt : M Bool) (te : M Hd) : M Hd := fun A => (mi A).bind fun ds A1 => compR t tt te vs ds A1
def mTrue : M Bool := fun A => .ok true A
abbrev W0 : WX := fun _ _ _ _ => False
section
variable {g : Gm} {X : Cx} {W : WX} {σ : L2.St} {L L' : Addr → Prop} {A A' : Fr} {H H' : Hp}
theorem wipeF_length : ∀ (vs : List Nat), (wipeF A vs).length = A.length
  | [] => rfl
  | v :: vs => by unfold wipeF; rw [List.length_set, wipeF_length vs]
theorem wipeF_out {j : Nat} : ∀ {vs : List Nat}, j ∉ vs → (wipeF A vs)[j]? = A[j]?
  | [], _ => rfl
  | v :: vs, h => by
    unfold wipeF
    rw [List.getElem?_set_ne fun z => h (by simp [z])]
    exact wipeF_out fun z => h (List.mem_cons_of_mem _ z)
theorem wipeF_in {j : Nat} {sv : SV} : ∀ {vs : List Nat}, j ∈ vs → (wipeF A vs)[j]? = some sv → sv = .un
  | v :: vs, h, e => by
    unfold wipeF at e
    by_cases hj : v = j
    · subst hj
      rw [List.getElem?_set] at e
      by_cases hl : v < (wipeF A vs).length
      · rw [if_pos rfl, if_pos hl] at e; cases e; rfl
      · rw [if_pos rfl, if_neg hl] at e; cases e
    · rw [List.getElem?_set_ne hj] at e
      rcases List.mem_cons.mp h with z | z
      · exact absurd z.symm hj
      · exact wipeF_in z e
theorem wipe_in {j : Nat} {o : Option V} : ∀ {vs : List Nat}, j ∈ vs → (wipe σ vs)[j]? = some o → o = none
  | v :: vs, h, e => by
    unfold wipe at e
    by_cases hj : v = j
    · subst hj
      rw [List.getElem?_set] at e
      by_cases hl : v < (wipe σ vs).length
      · rw [if_pos rfl, if_pos hl] at e; cases e; rfl
      · rw [if_pos rfl, if_neg hl] at e; cases e
    · rw [List.getElem?_set_ne hj] at e
      rcases List.mem_cons.mp h with z | z
      · exact absurd z.symm hj
      · exact wipe_in z e
theorem wipe_out' {σ : L2.St} {j : Nat} : ∀ {vs : List Nat}, j ∉ vs → (wipe σ vs)[j]? = σ[j]?
  | [], _ => rfl
  | v :: vs, h => by
    unfold wipe
    rw [List.getElem?_set_ne fun z => h (by simp [z])]
    exact wipe_out' fun z => h (List.mem_cons_of_mem _ z)
theorem restF_out {j : Nat} : ∀ {vs : List Nat}, j ∉ vs → (restF A A' vs)[j]? = A'[j]?
  | [], _ => rfl
  | v :: vs, h => by
    unfold restF
    have ih : (restF A A' vs)[j]? = A'[j]? := restF_out fun z => h (List.mem_cons_of_mem _ z)
    cases A[v]? with
    | none => exact ih
    | some sv => simp only; rw [List.getElem?_set_ne fun z => h (by simp [z])]; exact ih
theorem restF_length : ∀ (vs : List Nat), (restF A A' vs).length = A'.length
  | [] => rfl
  | v :: vs => by
    unfold restF
    cases A[v]? with
    | none => exact restF_length vs
    | some sv => simp only; rw [List.length_set]; exact restF_length vs
theorem restF_in {j : Nat} (hl : A.length = A'.length) : ∀ {vs : List Nat}, j ∈ vs → (restF A A' vs)[j]? = A[j]?
  | v :: vs, h => by
    unfold restF
    by_cases hj : v = j
    · subst hj
      cases e : A[v]? with
      | none =>
        simp only
        have h1 : A.length ≤ v := by
          rcases Nat.lt_or_ge v A.length with z | z
          · rw [List.getElem?_eq_getElem z] at e; cases e
          · exact z
        exact List.getElem?_eq_none (by rw [restF_length]; omega)
      | some sv =>
        simp only
        have h1 := lt_of_get e
        rw [List.getElem?_set_self (by rw [restF_length]; omega)]
    · have hm : j ∈ vs := by
        rcases List.mem_cons.mp h with z | z
        · exact absurd z.symm hj
        · exact z
      cases A[v]? with
      | none => exact restF_in hl hm
      | some sv => simp only; rw [List.getElem?_set_ne hj]; exact restF_in hl hm
theorem vsOk_at {vs : List Nat} (h : vsOk vs A = true) {v : Nat} (hv : v ∈ vs) : kf A v = none := by
  unfold vsOk at h
  have q := List.all_eq_true.mp h v hv
  unfold kf
  cases z : A[v]? with
  | none => rfl
  | some sv =>
    cases sv with
    | lck d => simp only [z] at q; cases q
    | ow fl d =>
      cases fl with
      | true => simp only [z] at q; cases q
      | false => rfl
    | un => rfl
    | val d => rfl
theorem own_wipe {σ : L2.St} {vs : List Nat} {j : Nat} {a : Addr} (h : OwnAt (wipeF A vs) (wipe σ vs) j a) : j ∉ vs ∧ OwnAt A σ j a := by
  obtain ⟨⟨sv, h1, h2⟩, h3⟩ := h
  have hj : j ∉ vs := fun z => by
    rw [wipeF_in z h1] at h2; cases h2
  rw [wipeF_out hj] at h1
  rw [wipe_out' hj] at h3
  exact ⟨hj, ⟨sv, h1, h2⟩, h3⟩
theorem Okf.wipe {σ : L2.St} (vs : List Nat) (G : Okf g L A σ H) : Okf g L (wipeF A vs) (L2.wipe σ vs) H := by
  refine ⟨by rw [wipeF_length, wipe_length]; exact G.len, G.dom, fun j sv h => ?_, fun i j a h1 h2 => G.inj i j a (own_wipe h1).2 (own_wipe h2).2⟩
  by_cases hj : j ∈ vs
  · rw [wipeF_in hj h]; trivial
  · rw [wipeF_out hj] at h
    rw [wipe_out' hj]
    exact G.slot j sv h
/-- the loop's start, from ahead of the block -/
theorem Stp.wipe {σ : L2.St} {vs : List Nat} (hv : vsOk vs A = true) : Stp L A σ H L (wipeF A vs) (L2.wipe σ vs) H :=
  ⟨fun _ h => h, fun _ h => .inl h, fun _ _ h _ => h, fun a ⟨j, h⟩ => .inl ⟨j, (own_wipe h).2⟩, fun j d h => by
    have hj : j ∉ vs := fun z => by rw [vsOk_at hv z] at h; cases h
    unfold kf
    rw [wipeF_out hj, wipe_out' hj]
    exact ⟨h, rfl⟩, fun _ o h => ⟨o, h⟩⟩
/-- a turn's end: the block's names are forgotten -/
theorem Stp.rewipe {σ σ2 : L2.St} {vs : List Nat} {A0 : Fr} (h0 : ∀ v ∈ vs, kf A0 v = none) (ew : L2.wipe σ2 vs = L2.wipe σ vs) (S : Stp L A0 (L2.wipe σ vs) H L' A' σ2 H') : Stp L A0 (L2.wipe σ vs) H L' (wipeF A' vs) (L2.wipe σ vs) H' :=
  ⟨S.mono, S.new, S.keep, fun a ⟨j, h⟩ => S.own a ⟨j, (own_wipe (σ := σ2) (by rw [ew]; exact h)).2⟩, fun j d h => by
    have hj : j ∉ vs := fun z => by rw [h0 j z] at h; cases h
    unfold kf
    rw [wipeF_out hj]
    exact ⟨(S.lk j d h).1, rfl⟩, S.dom⟩
/-- behind the block -/
theorem rest_ok {σ : L2.St} {vs : List Nat} (G : Okf g L A σ H) (hv : vsOk vs A = true) (S : Stp L (wipeF A vs) (L2.wipe σ vs) H L' A' (L2.wipe σ vs) H') (G' : Okf g L' A' (L2.wipe σ vs) H') :
    Stp L A σ H L' (restF A A' vs) σ H' ∧ Okf g L' (restF A A' vs) σ H' := by
  have hl : A.length = A'.length := by
    have h1 := G.len
    have h2 := G'.len
    rw [wipe_length] at h2
    omega
  have nw : ∀ a, ¬ Own A σ a → ¬ Own (wipeF A vs) (L2.wipe σ vs) a := fun a n ⟨j, h⟩ => n ⟨j, (own_wipe h).2⟩
  have ob : ∀ j a, OwnAt (restF A A' vs) σ j a → (j ∈ vs ∧ OwnAt A σ j a) ∨ (j ∉ vs ∧ OwnAt A' (L2.wipe σ vs) j a) := fun j a ⟨⟨sv, h1, h2⟩, h3⟩ => by
    by_cases hj : j ∈ vs
    · rw [restF_in hl hj] at h1
      exact .inl ⟨hj, ⟨sv, h1, h2⟩, h3⟩
    · rw [restF_out hj] at h1
      exact .inr ⟨hj, ⟨sv, h1, h2⟩, by rw [wipe_out' hj]; exact h3⟩
  have mix : ∀ i j a, i ∈ vs → OwnAt A σ i a → OwnAt A' (L2.wipe σ vs) j a → False := fun i j a hi h1 h2 => by
    rcases S.own a ⟨j, h2⟩ with ⟨k, h3⟩ | h3
    · obtain ⟨hk, h4⟩ := own_wipe h3
      exact hk (G.inj i k a h1 h4 ▸ hi)
    · obtain ⟨_, o, e, _⟩ := G.own_none ⟨i, h1⟩
      rw [e] at h3; cases h3
  have hT : ∀ a xs, H a = some (.tup xs) → H' a = some (.tup xs) := fun a xs e => S.keep a _ e (nw a (G.not_own (.inr (.inr ⟨xs, e⟩))))
  have hK : ∀ a o, L a → H a = some o → H' a = some o := fun a o l e => S.keep a o e (nw a (G.not_own (.inl l)))
  have hin : ∀ j a d, j ∈ vs → OwnAt A σ j a → OwnC g L H d a → ¬ L' a ∧ OwnC g L' H' d a := fun j a d hj h c => by
    have nown : ¬ Own (wipeF A vs) (L2.wipe σ vs) a := fun ⟨k, h3⟩ => by
      obtain ⟨hk, h4⟩ := own_wipe h3
      exact hk (G.inj j k a h h4 ▸ hj)
    obtain ⟨o, e, _⟩ := c.here
    refine ⟨fun z => ?_, c.move (fun o e => S.keep a o e nown) fun _ _ r => r.mono S.mono hT hK⟩
    rcases S.new a z with z | z | z
    · exact (G.ownAt h).1 z
    · rw [e] at z; cases z
    · exact nown z
  refine ⟨⟨S.mono, fun a h => ?_, fun a o e n => S.keep a o e (nw a n), fun a ⟨j, h⟩ => ?_, fun j d h => ?_, S.dom⟩, ⟨by rw [restF_length]; exact hl.symm.trans G.len, G'.dom, fun j sv h => ?_, fun i j a h1 h2 => ?_⟩⟩
  · rcases S.new a h with h | h | ⟨j, h⟩
    · exact .inl h
    · exact .inr (.inl h)
    · exact .inr (.inr ⟨j, (own_wipe h).2⟩)
  · rcases ob j a h with ⟨_, h⟩ | ⟨_, h⟩
    · exact .inl ⟨j, h⟩
    · rcases S.own a ⟨j, h⟩ with ⟨k, h⟩ | h
      · exact .inl ⟨k, (own_wipe h).2⟩
      · exact .inr h
  · have hj : j ∉ vs := fun z => by rw [vsOk_at hv z] at h; cases h
    unfold kf
    rw [restF_out hj]
    exact ⟨(S.lk j d (by unfold kf; rw [wipeF_out hj]; exact h)).1, rfl⟩
  · by_cases hj : j ∈ vs
    · rw [restF_in hl hj] at h
      have q := G.slot j sv h
      cases sv with
      | un => trivial
      | val d => obtain ⟨v, e, r⟩ := q; exact ⟨v, e, r.mono S.mono hT hK⟩
      | ow fl d => obtain ⟨a, e, n, c⟩ := q; exact ⟨a, e, hin j a d hj ⟨⟨_, h, rfl⟩, e⟩ c⟩
      | lck d => obtain ⟨a, e, n, c⟩ := q; exact ⟨a, e, hin j a d hj ⟨⟨_, h, rfl⟩, e⟩ c⟩
    · rw [restF_out hj] at h
      have q := G'.slot j sv h
      rw [wipe_out' hj] at q
      exact q
  · rcases ob i a h1 with ⟨hi, h1⟩ | ⟨hi, h1⟩
    · rcases ob j a h2 with ⟨hj, h2⟩ | ⟨hj, h2⟩
      · exact G.inj i j a h1 h2
      · exact (mix i j a hi h1 h2).elim
    · rcases ob j a h2 with ⟨hj, h2⟩ | ⟨hj, h2⟩
      · exact (mix j i a hj h2 h1).elim
      · exact G'.inj i j a h1 h2
theorem wipe_chg {σ σ' : L2.St} {is vs : List Nat} (c : Chg is (L2.wipe σ vs) σ') (hs : ∀ i ∈ is, i ∈ vs) : L2.wipe σ' vs = L2.wipe σ vs := by
  apply List.ext_getElem?
  intro j
  by_cases hj : j ∈ vs
  · cases e1 : (L2.wipe σ' vs)[j]? with
    | none =>
      have : (L2.wipe σ' vs).length ≤ j := List.getElem?_eq_none_iff.mp e1
      rw [wipe_length, c.1, wipe_length] at this
      exact (List.getElem?_eq_none (by rw [wipe_length]; exact this)).symm
    | some o =>
      cases e2 : (L2.wipe σ vs)[j]? with
      | none =>
        have : (L2.wipe σ vs).length ≤ j := List.getElem?_eq_none_iff.mp e2
        rw [List.getElem?_eq_none (by rw [wipe_length, c.1]; exact this)] at e1
        cases e1
      | some o2 => rw [wipe_in hj e1, wipe_in hj e2]
  · rw [wipe_out' hj, c.2 j fun z => hj (hs j z)]
/-- the list that grows is nobody's: it may be changed -/
theorem Okf.updFree {σ : L2.St} {Dd : Addr} {xs ys : List V} (G : Okf g L A σ H) (e : H Dd = some (.lst xs)) (nl : ¬ L Dd) (no : ¬ Own A σ Dd) : Okf g L A σ (upd H Dd (.lst ys)) ∧ ∀ ds vs, Reps g L H ds vs → Reps g L (upd H Dd (.lst ys)) ds vs := by
  have hT : ∀ a xs, H a = some (.tup xs) → (upd H Dd (.lst ys)) a = some (.tup xs) := fun a xs q => by
    rw [upd_ne fun z => by rw [z, e] at q; cases q]; exact q
  have hK : ∀ a o, L a → H a = some o → (upd H Dd (.lst ys)) a = some o := fun a o l q => by
    rw [upd_ne fun z => nl (by rw [← z]; exact l)]; exact q
  have hr : ∀ ds vs, Reps g L H ds vs → Reps g L (upd H Dd (.lst ys)) ds vs := fun ds vs r => r.mono (fun _ h => h) hT hK
  refine ⟨⟨G.len, fun a h => ?_, fun j sv h => ?_, G.inj⟩, hr⟩
  · obtain ⟨o, q⟩ := G.dom a h; exact ⟨o, hK a o h q⟩
  · have q := G.slot j sv h
    have ne : ∀ b, σ[j]? = some (some (.ref b)) → sv.mut = true → b ≠ Dd := fun b z m w => no (w ▸ ⟨j, ⟨sv, h, m⟩, z⟩)
    cases sv with
    | un => trivial
    | val d => obtain ⟨v, e, r⟩ := q; exact ⟨v, e, r.mono (fun _ h => h) hT hK⟩
    | ow fl d => obtain ⟨b, e, n, c⟩ := q; exact ⟨b, e, n, c.move (fun o q => by rw [upd_ne (ne b e rfl)]; exact q) hr⟩
    | lck d => obtain ⟨b, e, n, c⟩ := q; exact ⟨b, e, n, c.move (fun o q => by rw [upd_ne (ne b e rfl)]; exact q) hr⟩
theorem comp_core {σ : L2.St} {J : It} {ds : List D} {vs is : List Nat} {t : MT} {tt : M Bool} {te : M Hd} {out : Hd} {Ar : Fr} {Q : VK} (G : Okf g L A σ H) (it : ItOk g J L A σ H ds) (his : ∀ i ∈ is, i ∈ vs)
    (e : compR t tt te vs ds A = .ok out Ar) (post : ∀ L' H' v, Stp L A σ H L' Ar σ H' → Okf g L' Ar σ H' → RelH g L' Ar σ H H' out v → Q v H') (Dd : Addr) (hD : H Dd = none) :
    ∃ Wi : Nat → Nat → Hp → Prop, (∃ m, Wi 0 m (upd H Dd (.lst []))) ∧ ∀ i m H, Wi i m H →
      (J.stop i H ∧ Q (.ref Dd) H) ∨ (J.go i H ∧ ∃ Nx : Hp → Prop, (∀ H', Nx H' → ∃ m', m' < m ∧ Wi (i + 1) m' H') ∧ ∀ x H', J.yld i H x H' → TGm g t is x (L2.wipe σ vs) H' fun σ2 H2 => L2.wipe σ2 vs = L2.wipe σ vs ∧ TTm g W0 tt σ2 H2 fun b H3 =>
        if b = true then TEd g W0 (mvM te) σ2 H3 fun y H4 => ∃ acc, H4 Dd = some (.lst acc) ∧ acc.length < sizeLine ∧ Nx (upd H4 Dd (.lst (acc ++ [y]))) else Nx H3) := by
  unfold compR at e
  by_cases hg : (vsOk vs A && decide (ds.length ≤ sizeLine)) = true
  · rw [if_pos hg] at e
    rw [Bool.and_eq_true, decide_eq_true_iff] at hg
    obtain ⟨hv, hlen⟩ := hg
    cases ec : compL t tt te vs [] ds (wipeF A vs) with
    | exc c A2 => rw [ec] at e; cases e
    | stuck => rw [ec] at e; cases e
    | ok accF A2 =>
      rw [ec] at e
      cases e
      have un0 : ∀ v ∈ vs, kf (wipeF A vs) v = none := fun v hv => by
        unfold kf
        cases z : (wipeF A vs)[v]? with
        | none => rfl
        | some sv => rw [wipeF_in hv z]; rfl
      let Pv : Nat → Hp → Prop := fun i H' => ∃ L' A' acc accv, Stp L (wipeF A vs) (L2.wipe σ vs) H L' A' (L2.wipe σ vs) H' ∧ Okf g L' A' (L2.wipe σ vs) H' ∧ H' Dd = some (.lst accv) ∧ Reps g L' H' acc accv ∧ ¬ L' Dd ∧ ¬ Own A' (L2.wipe σ vs) Dd ∧ acc.length ≤ i ∧ compL t tt te vs acc (ds.drop i) A' = .ok accF A2
      have nlD : ¬ L Dd := fun z => by obtain ⟨o, q⟩ := G.dom Dd z; rw [hD] at q; cases q
      have Gw := G.wipe vs
      obtain ⟨S0, G0⟩ := Gw.same (same_new (o := .lst []) hD)
      have noD : ¬ Own (wipeF A vs) (L2.wipe σ vs) Dd := Gw.not_own (.inr (.inl hD))
      refine ⟨fun i m H' => m = ds.length - i ∧ i ≤ ds.length ∧ Pv i H', ⟨ds.length, by simp, Nat.zero_le _, L, wipeF A vs, [], [], S0, G0, upd_same, .nil, nlD, noD, Nat.le_refl _, ec⟩, ?_⟩
      rintro i m H' ⟨rfl, hi, L', A', acc, accv, S', G', eD, ra, nl', no', hacc, ew⟩
      obtain ⟨go, yl, st⟩ := it L' A' _ H' ((Stp.wipe hv).trans S') G' i
      by_cases hlt : i < ds.length
      · refine .inr ⟨go hlt, Pv (i + 1), fun H2 p => ⟨ds.length - (i + 1), by omega, rfl, hlt, p⟩, fun x H3 y => ?_⟩
        obtain ⟨sm, rp⟩ := yl _ (List.getElem?_eq_getElem hlt) x H3 y
        obtain ⟨S3, G3⟩ := G'.same sm
        have ed : ds.drop i = ds[i] :: ds.drop (i + 1) := List.drop_eq_getElem_cons hlt
        rw [ed] at ew
        unfold compL at ew
        cases et : t ds[i] A' with
        | none => simp only [et] at ew; cases ew
        | some A1 =>
          simp only [et] at ew
          refine ⟨L', A', ds[i], A1, G3, rp, et, fun σ4 c4 S4 G4 => ⟨wipe_chg c4 his, L', A1, G4, ?_⟩⟩
          have ewp := wipe_chg c4 his
          have S34 := S3.trans S4
          have eD3 : H3 Dd = some (.lst accv) := sm _ _ eD
          -- what holds of the list behind a step
          have keepD : ∀ {L5 A5 σ5 H5}, Stp L' A' (L2.wipe σ vs) H' L5 A5 σ5 H5 → H5 Dd = some (.lst accv) ∧ ¬ L5 Dd ∧ ¬ Own A5 σ5 Dd := fun S5 => by
            refine ⟨S5.keep Dd _ eD no', fun z => ?_, fun z => ?_⟩
            · rcases S5.new Dd z with z | z | z
              · exact nl' z
              · rw [eD] at z; cases z
              · exact no' z
            · rcases S5.own Dd z with z | z
              · exact no' z
              · rw [eD] at z; cases z
          cases eb : tt A1 with
          | exc c A5 => rw [eb] at ew; cases ew
          | stuck => rw [eb] at ew; cases ew
          | ok b A5 =>
            rw [eb] at ew
            intro L5 H5 S5 G5
            have ew : (match b with
              | true => (mvM te A5).bind fun y A3 => compL t tt te vs (acc ++ [y]) (ds.drop (i + 1)) (wipeF A3 vs)
              | false => compL t tt te vs acc (ds.drop (i + 1)) (wipeF A5 vs)) = .ok accF A2 := ew
            have S345 := S34.trans S5
            cases b with
            | false =>
              show Pv (i + 1) H5
              obtain ⟨k1, k2, k3⟩ := keepD S345
              refine ⟨L5, wipeF A5 vs, acc, accv, Stp.rewipe un0 ewp (S'.trans S345), ?_, k1, ra.step G' S345, k2, ?_, by omega, ew⟩
              · rw [← ewp]; exact G5.wipe vs
              · rw [← ewp]; exact fun ⟨j, h⟩ => k3 ⟨j, (own_wipe h).2⟩
            | true =>
              show TEd g W0 (mvM te) σ4 H5 _
              refine ⟨L5, A5, G5, ?_⟩
              cases ey : mvM te A5 with
              | exc c A6 => simp only [ey] at ew; cases ew
              | stuck => simp only [ey] at ew; cases ew
              | ok yv A6 =>
                simp only [ey] at ew
                have ew : compL t tt te vs (acc ++ [yv]) (ds.drop (i + 1)) (wipeF A6 vs) = .ok accF A2 := ew
                intro L6 H6 S6 G6 v rv
                have SA := S345.trans S6
                obtain ⟨k1, k2, k3⟩ := keepD SA
                refine ⟨accv, k1, by rw [← ra.len]; omega, ?_⟩
                have G6w : Okf g L6 (wipeF A6 vs) (L2.wipe σ vs) H6 := by rw [← ewp]; exact G6.wipe vs
                have k3w : ¬ Own (wipeF A6 vs) (L2.wipe σ vs) Dd := by rw [← ewp]; exact fun ⟨j, h⟩ => k3 ⟨j, (own_wipe h).2⟩
                obtain ⟨G7, hr⟩ := G6w.updFree (ys := accv ++ [v]) k1 k2 k3w
                have SB := Stp.rewipe un0 ewp (S'.trans SA)
                refine ⟨L6, wipeF A6 vs, acc ++ [yv], accv ++ [v], ⟨SB.mono, SB.new, fun a o q n => ?_, SB.own, SB.lk, fun a o q => ?_⟩, G7, upd_same, hr _ _ (Reps.app (ra.step G' SA) (.one rv)), k2, k3w, ?_, ew⟩
                · rw [upd_ne (ne_of_none q hD)]
                  exact SB.keep a o q n
                · rw [upd_ne (ne_of_none q hD)]
                  exact SB.dom a o q
                · rw [List.length_append, List.length_singleton]; omega
      · have ei : i = ds.length := by omega
        subst ei
        rw [List.drop_length] at ew
        unfold compL at ew
        cases ew
        refine .inl ⟨st (Nat.le_refl _), ?_⟩
        obtain ⟨S9, G9⟩ := rest_ok G hv S' G'
        refine post L' H' _ S9 G9 ⟨Dd, rfl, hD, nl', fun z => ?_, accv, eD, ra⟩
        rcases S9.own Dd z with z | z
        · exact G.not_own (.inr (.inl hD)) z
        · obtain ⟨j, ⟨sv, h1, h2⟩, h3⟩ := ‹Own (restF A A2 vs) σ Dd›
          have hl : A.length = A2.length := by
            have q1 := G.len
            have q2 := G'.len
            rw [wipe_length] at q2
            omega
          by_cases hj : j ∈ vs
          · rw [restF_in hl hj] at h1
            exact G.not_own (.inr (.inl hD)) ⟨j, ⟨sv, h1, h2⟩, h3⟩
          · rw [restF_out hj] at h1
            exact no' ⟨j, ⟨sv, h1, h2⟩, by rw [wipe_out' hj]; exact h3⟩
  · rw [if_neg hg] at e; cases e
end
end Z

namespace Z
open PySem PySem.Spec PyProof.Rows L2

/-! ### comprehensions: the rules -/
section
variable {g : Gm} {X : Cx} {W : WX} {elt tg iter : Expr} {ifs : List Expr} {scope : Scope} {own : List (Str × Nat)} {is : List Nat} {pos : Pos} {mi : M (List D)} {t : MT} {tt : M Bool} {te : M Hd}
/-- in a block nothing is raised -/
theorem takesW0 : L2N.Takes X W0 := fun u s' ⟨_, _, _, _, _, _, _, _, _, _, _, _, _, _, _, _, z⟩ => z.elim
/-- the block's judgements -/
structure Blk (g : Gm) (X : Cx) (scope : Scope) (own : List (Str × Nat)) (is : List Nat) (elt tg : Expr) (ifs : List Expr) (t : MT) (tt : M Bool) (te : M Hd) : Prop where
  ok : BlkOk X.N X.env.scope scope own
  his : ∀ i ∈ is, i ∈ own.map (·.2)
  hg : ∀ (s : Shared) (H : Hp) (C : Addr) (cl : List (Str × Addr)) (fp : List Addr), JG g (X.blk s H scope (compEnvC scope cl C X.env) fp) tg t is
  ht : ∀ (s : Shared) (H : Hp) (C : Addr) (cl : List (Str × Addr)) (fp : List Addr), PTs (X.blk s H scope (compEnvC scope cl C X.env) fp) ifs (TTm g W0 tt)
  he : ∀ (s : Shared) (H : Hp) (C : Addr) (cl : List (Str × Addr)) (fp : List Addr), JE g (X.blk s H scope (compEnvC scope cl C X.env) fp) W0 elt te
theorem jts_nil : PTs X [] (TTm g W0 mTrue) := ⟨fun pins s σ H Q I ⟨L, A, G, w⟩ => pts_nil.run pins s σ H Q I (w L H Stp.refl G)⟩
theorem jts_one {c : Expr} {m : M Bool} (h : JT g X W0 c m) : PTs X [c] (TTm g W0 m) := pts_one h
theorem comp_ok {σ : L2.St} {H : Hp} {Q : VK} {vs : List Nat} (his : ∀ i ∈ is, i ∈ vs) {L : Addr → Prop} {A : Fr} (G : Okf g L A σ H) (f : Hd → Fr → Fr → Prop)
    (w : Wp g W σ L A H (mi A) fun ds A1 L1 H1 => ∃ out Ar, compR t tt te vs ds A1 = .ok out Ar ∧ ∀ L' H' v, Stp L1 A1 σ H1 L' Ar σ H' → Okf g L' Ar σ H' → RelH g L' Ar σ H1 H' out v → Q v H') :
    tLc (TIm g W mi) (TGm g t is) (TTm g W0 tt) (TEd g W0 (mvM te)) vs σ H Q := by
  refine ⟨L, A, G, w.mono fun ds A1 L1 H1 S1 G1 w1 J it => ?_⟩
  obtain ⟨out, Ar, e, post⟩ := w1
  exact fun Dd hD => comp_core G1 it his e post Dd hD
theorem je_comp (hc : X.calm = true) (hN : X.N.Nodup) (hi : JI g X W tg iter mi) (B : Blk g X scope own is elt tg ifs t tt te) (hs : ∀ x, foldedSetIterable iter X.env x = pure x := by intro _; rfl) :
    JE g X W (.ListComp elt [⟨tg, iter, ifs, 0⟩] scope pos) (mComp mi (own.map (·.2)) t tt te) := by
  refine pe_imp (pe_lc hc hN hi B.ok B.hg B.ht (fun s H C cl fp => jd (B.he s H C cl fp)) hs) fun σ H Q ⟨L, A, G, w⟩ => ?_
  refine comp_ok (W := W) B.his G (fun _ _ _ => True) (w.bind.mono fun ds A1 L1 H1 S1 G1 w1 => ?_)
  cases e : compR t tt te (own.map (·.2)) ds A1 with
  | exc c A2 => exfalso; unfold compR at e; split at e <;> (first | (split at e <;> cases e) | cases e)
  | stuck => rw [e] at w1; exact w1.elim
  | ok out Ar => rw [e] at w1; exact ⟨out, Ar, rfl, fun L' H' v S' G' r => w1 L' H' S' G' v (r.back fun a n => S1.none_back n)⟩
/-- y = [..] -/
theorem js_asgC {i : Nat} {y : Str} {py spos : Pos} (hc : X.calm = true) (hN : X.N.Nodup) (hsw : swapsWith (.ListComp elt [⟨tg, iter, ifs, 0⟩] scope pos) (some (.Name y py)) spos.line X.env = pure true) (hi : JI g X W tg iter mi) (B : Blk g X scope own is elt tg ifs t tt te)
    (hy : X.N[i]? = some y := by rfl) (hyl : X.env.scope.names.lookup y = some .local := by rfl) (hs : ∀ x, foldedSetIterable iter X.env x = pure x := by intro _; rfl) :
    JS g X W (.Assign [.Name y py] (.ListComp elt [⟨tg, iter, ifs, 0⟩] scope pos) spos) (sAsg i (mComp mi (own.map (·.2)) t tt te)) := by
  refine ps_imp (ps_setLc hc hN hy hyl hsw hi B.ok B.hg B.ht (fun s H C cl fp => jd (B.he s H C cl fp)) hs) fun En σ H ⟨L, A, G, w⟩ => ?_
  refine comp_ok (W := W) B.his G (fun _ _ _ => True) ?_
  unfold sAsg mComp at w
  cases em : mi A with
  | stuck => rw [em] at w; exact w
  | exc c A' => rw [em] at w; exact fun L' H' S G' => w L' σ H' S G'
  | ok ds A1 =>
    rw [em] at w
    intro L1 H1 S1 G1
    have w : WpS g W En L A σ H (oS (compR t tt te (own.map (·.2)) ds A1) fun h A1 => putH i h A1) := w
    cases e : compR t tt te (own.map (·.2)) ds A1 with
    | exc c A2 => exfalso; unfold compR at e; split at e <;> (first | (split at e <;> cases e) | cases e)
    | stuck => rw [e] at w; exact w.elim
    | ok out Ar => rw [e] at w; exact ⟨out, Ar, rfl, fun L' H' v S' G' r => putH_ok (S1.trans S') G' (r.back fun a n => S1.none_back n) w⟩
/-! ### over a name's list -/
def mCompN (i : Nat) (vs : List Nat) (t : MT) (tt : M Bool) (te : M Hd) : M Hd := fun A => match lockF i A with
  | some (ds, A1) => (match compR t tt te vs ds A1 with
    | .ok out Ar => .ok out (unlk i A Ar)
    | _ => .stuck)
  | none => .stuck
theorem compN_ok {σ : L2.St} {H : Hp} {Q : VK} {vs : List Nat} {i : Nat} {L : Addr → Prop} {A : Fr} (hK : g.K = X.K) (his : ∀ i ∈ is, i ∈ vs) (G : Okf g L A σ H)
    (w : Wp g W σ L A H (mCompN i vs t tt te A) fun h A' L' H' => ∀ v, RelH g L' A' σ H H' h v → Q v H') : tLc (iList X.K (tVar i)) (TGm g t is) (TTm g W0 tt) (TEd g W0 (mvM te)) vs σ H Q := by
  unfold mCompN at w
  cases e : lockF i A with
  | none => simp only [e] at w; exact w.elim
  | some q =>
    obtain ⟨ds, A1⟩ := q
    simp only [e] at w
    obtain ⟨S1, G1, ⟨u, eu, it⟩, ⟨a, vs', ea, sq⟩, back⟩ := lockF_ok G e
    have : u = .ref a := by rw [eu] at ea; cases ea; rfl
    subst this
    refine ⟨_, eu, a, rfl, ⟨vs', by rw [← hK]; exact sq⟩, fun Dd hD => ?_⟩
    have it1 := it (Itl X.K a) (fun b z => by cases z; rw [hK]) ⟨a, rfl⟩
    cases ec : compR t tt te vs ds A1 with
    | exc c A2 => simp only [ec] at w; exact w.elim
    | stuck => simp only [ec] at w; exact w.elim
    | ok out Ar =>
      simp only [ec] at w
      refine comp_core G1 it1 his ec (fun L' H' v S' G' r => ?_) Dd hD
      obtain ⟨S2, G2⟩ := back L' Ar σ H' S' G'
      refine w L' H' S2 G2 v ?_
      cases out with
      | d d => exact r
      | f d =>
        obtain ⟨b, e1, e2, e3, e4, e5⟩ := r
        refine ⟨b, e1, e2, e3, fun z => ?_, e5⟩
        rcases S2.own b z with z | z
        · exact G.not_own (.inr (.inl e2)) z
        · obtain ⟨j, ⟨sv, h1, h2⟩, h3⟩ := ‹Own (unlk i A Ar) σ b›
          refine e4 ⟨j, ?_, h3⟩
          unfold unlk at h1
          split at h1
          · split at h1
            · rename_i dd hdd
              by_cases hj : i = j
              · subst hj; exact ⟨_, hdd, rfl⟩
              · rw [List.getElem?_set_ne hj] at h1; exact ⟨sv, h1, h2⟩
            · exact ⟨sv, h1, h2⟩
          · exact ⟨sv, h1, h2⟩
      | s j => exact r
theorem je_compN (i : Nat) {x : Str} {p : Pos} (hK : g.K = X.K) (hc : X.calm = true) (hN : X.N.Nodup) (B : Blk g X scope own is elt tg ifs t tt te) (hx : X.N[i]? = some x := by rfl) (hv : Vis X.env.scope x := by first | exact Or.inl rfl | exact Or.inr (Or.inl rfl) | exact Or.inr (Or.inr rfl))
    (hd : (x == ("__debug__" : Str)) = false := by decide) (hcd : (x == ("__classdict__" : Str)) = false := by decide) (hs : ∀ y, foldedSetIterable (.Name x p) X.env y = pure y := by intro _; rfl) :
    JE g X W (.ListComp elt [⟨tg, .Name x p, ifs, 0⟩] scope pos) (mCompN i (own.map (·.2)) t tt te) :=
  pe_imp (pe_lc hc hN (pi_list (pe_var hx hv hd hcd)) B.ok B.hg B.ht (fun s H C cl fp => jd (B.he s H C cl fp)) hs) fun σ H Q ⟨L, A, G, w⟩ => compN_ok hK B.his G w
theorem js_asgCN {i : Nat} {y : Str} {py spos : Pos} (j : Nat) {x : Str} {p : Pos} (hK : g.K = X.K) (hc : X.calm = true) (hN : X.N.Nodup) (hsw : swapsWith (.ListComp elt [⟨tg, .Name x p, ifs, 0⟩] scope pos) (some (.Name y py)) spos.line X.env = pure true) (B : Blk g X scope own is elt tg ifs t tt te)
    (hx : X.N[j]? = some x := by rfl) (hv : Vis X.env.scope x := by first | exact Or.inl rfl | exact Or.inr (Or.inl rfl) | exact Or.inr (Or.inr rfl)) (hd : (x == ("__debug__" : Str)) = false := by decide) (hcd : (x == ("__classdict__" : Str)) = false := by decide)
    (hy : X.N[i]? = some y := by rfl) (hyl : X.env.scope.names.lookup y = some .local := by rfl) (hs : ∀ z, foldedSetIterable (.Name x p) X.env z = pure z := by intro _; rfl) :
    JS g X W (.Assign [.Name y py] (.ListComp elt [⟨tg, .Name x p, ifs, 0⟩] scope pos) spos) (sAsg i (mCompN j (own.map (·.2)) t tt te)) := by
  refine ps_imp (ps_setLc hc hN hy hyl hsw (pi_list (pe_var hx hv hd hcd)) B.ok B.hg B.ht (fun s H C cl fp => jd (B.he s H C cl fp)) hs) fun En σ H ⟨L, A, G, w⟩ => ?_
  refine compN_ok (W := W) hK B.his G ?_
  unfold sAsg at w
  cases em : mCompN j (own.map (·.2)) t tt te A with
  | stuck => rw [em] at w; exact w
  | exc c A' => rw [em] at w; exact fun L' H' S G' => w L' σ H' S G'
  | ok out Ar => rw [em] at w; exact fun L' H' S' G' v r => putH_ok S' G' r w
end

/-! ### methods that change an owned list -/
abbrev LM := List D → List D → Option (List D × D)
def mLM (i : Nat) (f : LM) (ms : List (M Hd)) : M Hd := fun A => if isOwnL i A = true then (mDs ms A).bind fun args A1 => match A1[i]? with
    | some (.ow fl (.lst xs)) => (match f xs args with
      | some (ys, d) => .ok (.d d) (A1.set i (.ow fl (.lst ys)))
      | none => .stuck)
    | _ => .stuck else .stuck
where
  /-- the slot owns a list -/
  isOwnL (i : Nat) (A : Fr) : Bool := match A[i]? with
    | some (.ow _ (.lst _)) => true
    | _ => false
/-- what a method's reading asks, by f -/
def LMok (g : Gm) (r : V → List V → Hp → VK → Prop) (f : LM) : Prop := ∀ (L : Addr → Prop) (H : Hp) (a : Addr) (xs args ys : List D) (d : D) (vs us : List V) (Q : VK), H a = some (.lst vs) → Reps g L H xs vs → Reps g L H args us → f xs args = some (ys, d) →
  (∀ ws v, Reps g L H ys ws → Rep g L H d v → Q v (upd H a (.lst ws))) → r (.ref a) us H Q
section
variable {g : Gm} {X : Cx} {W : WX} {σ : L2.St} {L : Addr → Prop} {A : Fr} {H : Hp} {f : LM} {r : V → List V → Hp → VK → Prop} {ms : List (M Hd)}
theorem own_list {i : Nat} (G : Okf g L A σ H) (h : mLM.isOwnL i A = true) : ∃ a vs, σ[i]? = some (some (.ref a)) ∧ H a = some (.lst vs) := by
  unfold mLM.isOwnL at h
  split at h
  · rename_i fl ds q
    obtain ⟨a, ea, _, vs, hv, _⟩ := G.slot i _ q
    exact ⟨a, vs, ea, hv⟩
  · cases h
theorem lm_end {i : Nat} {Q : VK} {args : List D} {us : List V} {H₀ : Hp} (hf : LMok g r f) (G : Okf g L A σ H) {a : Addr} (ea : σ[i]? = some (some (.ref a))) (rs : Reps g L H args us)
    (w : Wp g W σ L A H (match A[i]? with
      | some (.ow fl (.lst xs)) => (match f xs args with
        | some (ys, d) => .ok (.d d) (A.set i (.ow fl (.lst ys)))
        | none => .stuck)
      | _ => .stuck) fun h A' L' H' => ∀ v, RelH g L' A' σ H₀ H' h v → Q v H') : r (.ref a) us H Q := by
  split at w
  · rename_i fl xs q
    obtain ⟨b, eb, nl, vs, hv, rx⟩ := G.slot i _ q
    rw [ea] at eb
    cases eb
    split at w
    · rename_i ys d e
      refine hf L H a xs args ys d vs us Q hv rx rs e fun ws v rw' rd => ?_
      have na : ∀ b, L b → b ≠ a := fun b l z => nl (by rw [← z]; exact l)
      have nt : ∀ b zs, H b = some (.tup zs) → b ≠ a := fun b zs q z => by rw [z, hv] at q; cases q
      have hr : ∀ {ds : List D} {us : List V}, Reps g L H ds us → Reps g L (upd H a (.lst ws)) ds us := fun r => r.mono (fun _ h => h) (fun b zs q => by rw [upd_ne (nt b zs q)]; exact q) fun b o l q => by rw [upd_ne (na b l)]; exact q
      obtain ⟨S2, G2⟩ := G.calledI (L' := L) (H' := upd H a (.lst ws)) (o := .lst ys) q ea ⟨fun _ h => h, fun _ h => .inl h, fun b o q n => by rw [upd_ne n]; exact q, fun b o q => by
        by_cases z : b = a
        · rw [z, upd_same]; exact ⟨_, rfl⟩
        · rw [upd_ne z]; exact ⟨o, q⟩, fun b l => by
        obtain ⟨o, q⟩ := G.dom b l
        exact ⟨o, by rw [upd_ne (na b l)]; exact q⟩⟩ nl ⟨ws, upd_same, hr rw'⟩
      exact w L _ S2 G2 v (rd.step G S2)
    · exact w.elim
  · exact w.elim
variable {x : Str} {p apos cpos : Pos} {name : Str} {id : String}
theorem je_lm (i : Nat) {e : Expr} {es : List Expr} (slot : Slot "list" name id) (hty : typeOf (.builtin id) = pure (.type "method_descriptor")) (hm : MtR X id r) (hf : LMok g r f) (ha : JA g X W (e :: es) (mDs ms)) (hN : X.N[i]? = some x := by rfl)
    (hv : Vis X.env.scope x := by first | exact Or.inl rfl | exact Or.inr (Or.inl rfl) | exact Or.inr (Or.inr rfl)) (hd : (x == ("__debug__" : Str)) = false := by decide) (hcd : (x == ("__classdict__" : Str)) = false := by decide)
    (hbase : attributeBase (.Name x p) name X.env (eval (.Name x p) X.env) = eval (.Name x p) X.env := by rfl) (hfew : ((backTo cpos (starEach (e :: es) X.env)).all (fun x => !x.1) && (backToKw cpos (keywordEach [] X.env)).all (fun x => x.1.isSome) && decide ((e :: es).length + ([] : List Keyword).length + (if ([] : List Keyword).isEmpty then 0 else 1) < 30)) = true := by rfl)
    (hline : (apos.endLine == cpos.line) = true := by rfl) (hst : starEach (e :: es) X.env = (false, eval e X.env) :: starEach es X.env := by rfl) (hpl : (backTo cpos (starEach es X.env)).any (·.1) = false := by rfl) :
    JE g X W (.Call (.Attribute (.Name x p) name apos) (e :: es) [] cpos) (mLM i f ms) := by
  refine pe_imp (pe_bm PySem.F.plainAttrs_list slot hty hm (pe_var hN hv hd hcd) ha hbase hfew hline hst hpl) fun σ H Q ⟨L, A, G, w⟩ => ?_
  unfold mLM at w
  by_cases ho : mLM.isOwnL i A = true
  · rw [if_pos ho] at w
    obtain ⟨a, vs, ea, hv⟩ := own_list G ho
    refine ⟨_, ea, .inl ⟨rfl, vs, SqL.of hv⟩, L, A, G, w.bind.mono fun args A1 L1 H1 S1 G1 w1 us rs => ?_⟩
    exact lm_end hf G1 ea rs w1
  · rw [if_neg ho] at w; exact w.elim
theorem je_lm0 (i : Nat) (slot : Slot "list" name id) (hty : typeOf (.builtin id) = pure (.type "method_descriptor")) (hm : MtR X id r) (hf : LMok g r f) (hN : X.N[i]? = some x := by rfl)
    (hv : Vis X.env.scope x := by first | exact Or.inl rfl | exact Or.inr (Or.inl rfl) | exact Or.inr (Or.inr rfl)) (hd : (x == ("__debug__" : Str)) = false := by decide) (hcd : (x == ("__classdict__" : Str)) = false := by decide)
    (hbase : attributeBase (.Name x p) name X.env (eval (.Name x p) X.env) = eval (.Name x p) X.env := by rfl) (hline : (apos.endLine == cpos.line) = true := by rfl) :
    JE g X W (.Call (.Attribute (.Name x p) name apos) [] [] cpos) (mLM i f []) := by
  refine pe_imp (pe_bm0 PySem.F.plainAttrs_list slot hty hm (pe_var hN hv hd hcd) hbase hline) fun σ H Q ⟨L, A, G, w⟩ => ?_
  unfold mLM at w
  by_cases ho : mLM.isOwnL i A = true
  · rw [if_pos ho] at w
    obtain ⟨a, vs, ea, hv⟩ := own_list G ho
    exact ⟨_, ea, .inl ⟨rfl, vs, SqL.of hv⟩, lm_end hf G ea .nil w⟩
  · rw [if_neg ho] at w; exact w.elim
def lmAppend : LM := fun xs args => match args with
  | [y] => if xs.length < sizeLine then some (xs ++ [y], .non) else none
  | _ => none
def lmExtend : LM := fun xs args => match args with
  | [.lst zs] => if xs.length + zs.length ≤ sizeLine then some (xs ++ zs, .non) else none
  | _ => none
def lmPop : LM := fun xs args => match args with
  | [] => (match xs[xs.length - 1]? with
    | some y => some (xs.dropLast, y)
    | none => none)
  | _ => none
def lmPopAt : LM := fun xs args => match args with
  | [.int i] => if 0 ≤ i ∧ i < xs.length ∧ i < 2 ^ 63 then (match xs[i.toNat]? with
      | some y => some (xs.eraseIdx i.toNat, y)
      | none => none) else none
  | _ => none
def lmClear : LM := fun xs args => match args with
  | [] => some ([], .non)
  | _ => none
theorem lm_append : LMok g rAppend lmAppend := fun L H a xs args ys d vs us Q hv rx rs e k => by
  unfold lmAppend at e
  split at e
  · split at e
    · rename_i hl
      cases e
      cases rs with
      | cons r1 rr =>
        cases rr
        exact ⟨a, vs, _, rfl, rfl, hv, by rw [← rx.len]; exact hl, k _ _ (rx.app (.one r1)) .non⟩
    · cases e
  · cases e
theorem lm_extend : LMok g rExtend lmExtend := fun L H a xs args ys d vs us Q hv rx rs e k => by
  unfold lmExtend at e
  split at e
  · split at e
    · rename_i zs hl
      cases e
      cases rs with
      | cons r1 rr =>
        cases rr
        cases r1 with
        | lst l hb rz => exact ⟨a, _, vs, _, rfl, rfl, hv, hb, by rw [← rx.len, ← rz.len]; exact hl, k _ _ (rx.app rz) .non⟩
    · cases e
  · cases e
theorem Reps.dropLast {ds : List D} {vs : List V} (h : Reps g L H ds vs) : Reps g L H ds.dropLast vs.dropLast := by
  rw [List.dropLast_eq_take, List.dropLast_eq_take, ← h.len]
  exact h.take _
theorem lm_pop : LMok g rPop lmPop := fun L H a xs args ys d vs us Q hv rx rs e k => by
  unfold lmPop at e
  split at e
  · split at e
    · rename_i y hy
      cases e
      cases rs
      obtain ⟨v, h1, h2⟩ := rx.get hy
      exact ⟨a, vs, v, rfl, rfl, hv, by rw [← rx.len]; exact h1, k _ _ rx.dropLast h2⟩
    · cases e
  · cases e
theorem Reps.eraseIdx : ∀ {ds : List D} {vs : List V} (n : Nat), Reps g L H ds vs → Reps g L H (ds.eraseIdx n) (vs.eraseIdx n)
  | _, _, _, .nil => .nil
  | _, _, 0, .cons _ r => r
  | _, _, n + 1, .cons h r => .cons h (Reps.eraseIdx n r)
theorem lm_popAt : LMok g rPopAt lmPopAt := fun L H a xs args ys d vs us Q hv rx rs e k => by
  unfold lmPopAt at e
  split at e
  · split at e
    · rename_i i hi
      split at e
      · rename_i y hy
        cases e
        cases rs with
        | cons r1 rr =>
          cases rr
          cases r1
          obtain ⟨v, h1, h2⟩ := rx.get hy
          have e1 : ixN vs.length i = some i.toNat := by
            unfold ixN
            rw [if_pos hi.1, if_pos (by rw [← rx.len]; exact hi.2.1)]
          exact ⟨a, vs, i, i.toNat, v, rfl, rfl, hv, by omega, hi.2.2, (ixN_seq e1).1, h1, k _ _ (rx.eraseIdx _) h2⟩
      · cases e
    · cases e
  · cases e
theorem lm_clear : LMok g rClear lmClear := fun L H a xs args ys d vs us Q hv rx rs e k => by
  unfold lmClear at e
  split at e
  · cases e
    cases rs
    exact ⟨a, vs, rfl, rfl, hv, k _ _ .nil .non⟩
  · cases e
end
section
variable {g : Gm} {X : Cx} {W : WX} {σ : L2.St} {L : Addr → Prop} {A : Fr} {H : Hp} {pos p : Pos}
/-! ### raise -/
def sRaise (c : Nat) : MS := fun A => .exc c A
theorem js_raise {c : Nat} {x m : Str} {j : Nat} {p p2 pos pos' : Pos} (hc : X.calm = true) (tk : L2N.Takes X W) (q : PySem.W.excIn X.K (g.xa c) HandSPX.veTail "ValueError.__new__" = true) (gC : X.mg x = some (.ref (g.xa c))) (kC : PySem.W.keepIn X.K (.ref (g.xa c)) = true)
    (h1 : PySem.W.subIn X.K (.ref (g.xa c)) (.type "BaseException") = some true) (h2 : PySem.W.typeIn X.K (.ref (g.xa c)) = some (.type "type")) (hg : Gl X x := by rfl) (hdb : (x == ("__debug__" : Str)) = false := by decide) :
    JS g X W (.Raise (some (.Call (.Name x p) [.Constant (.str m) j p2] [] pos)) none pos') (sRaise c) :=
  ps_imp (L2N.ps_raise hc tk (L2N.pmk_own PySem.F.excBase_ValueError q gC kC (raises_own h1 h2) hg hdb)) fun En σ H ⟨L, A, G, w⟩ => w L σ H Stp.refl G
end
end Z

namespace Z
open PySem PySem.Spec PyProof.Rows L2

/-! ### data as the library's -/
mutual
def D.py : D → PyData
  | .non => .none
  | .bl b => .bool b
  | .int i => .int i
  | .str s => .str s
  | .tup ds => .tuple (D.pys ds)
  | .lst ds => .list (D.pys ds)
  | .dct _ _ => .dict []
  | .dcT _ _ => .dict []
  | .fn _ => .dict []
  | .scr ns => .list (ns.map PyData.int)
def D.pys : List D → List PyData
  | [] => []
  | d :: ds => d.py :: D.pys ds
end
mutual
/-- no dict, no def in it -/
def D.lay : D → Bool
  | .tup ds => D.lays ds
  | .lst ds => D.lays ds
  | .dct _ _ => false
  | .dcT _ _ => false
  | .fn _ => false
  | _ => true
def D.lays : List D → Bool
  | [] => true
  | d :: ds => d.lay && D.lays ds
end
def D.eq (a b : D) : Bool := PyData.eqv a.py b.py
def D.eqs (a b : List D) : Bool := PyData.eqvAll (D.pys a) (D.pys b)
def D.dep (a : D) : Nat := a.py.depth
section
variable {g : Gm} {X : Cx} {L : Addr → Prop} {H : Hp}
mutual
theorem Rep.dp (hK : g.K = X.K) : ∀ {d : D} {v : V}, Rep g L H d v → d.lay = true → Dp X.K H v d.py ∧ d.py.canLay0 = true
  | _, _, .non, _ => ⟨.non, rfl⟩
  | _, _, .bl b, _ => ⟨.bl b, rfl⟩
  | _, _, .int i, _ => ⟨.int i, rfl⟩
  | _, _, .str s o, _ => ⟨.str s, o⟩
  | _, _, .tup h r, l => ⟨.tup (SqT.of h) (Reps.dp hK r l).1, (Reps.dp hK r l).2⟩
  | _, _, .lst _ h r, l => ⟨.lst (SqL.of h) (Reps.dp hK r l).1, (Reps.dp hK r l).2⟩
  | _, _, .scF _ h, _ => ⟨.lst (.inl (.inr ⟨_, h⟩)) (dp_ints _), can_ints _⟩
  | _, _, .scK h, _ => ⟨.lst (by rw [← hK]; exact h H) (dp_ints _), can_ints _⟩
  | _, _, .dct _ _ _ _, l => nomatch l
  | _, _, .dcT _ _ _ _, l => nomatch l
  | _, _, .fn _, l => nomatch l
theorem Reps.dp (hK : g.K = X.K) : ∀ {ds : List D} {vs : List V}, Reps g L H ds vs → D.lays ds = true → DpAll X.K H vs (D.pys ds) ∧ PyData.canLayAll0 (D.pys ds) = true
  | _, _, .nil, _ => ⟨.nil, rfl⟩
  | _, _, .cons (d := d) (ds := ds) h r, l => by
    have l' : (d.lay && D.lays ds) = true := l
    rw [Bool.and_eq_true] at l'
    have q1 := Rep.dp hK h l'.1
    have q2 := Reps.dp hK r l'.2
    refine ⟨.cons q1.1 q2.1, ?_⟩
    show (PyData.canLay0 d.py && PyData.canLayAll0 (D.pys ds)) = true
    rw [q1.2, q2.2]; rfl
theorem dp_ints : ∀ ns : List Int, DpAll X.K H (ns.map V.int) (ns.map PyData.int)
  | [] => .nil
  | n :: ns => .cons (.int n) (dp_ints ns)
theorem can_ints : ∀ ns : List Int, PyData.canLayAll0 (ns.map PyData.int) = true
  | [] => rfl
  | n :: ns => can_ints ns
end
theorem Cur.lst {ds : List D} {v : V} (h : Cur g L H (.lst ds) v) : ∃ a vs, v = .ref a ∧ H a = some (.lst vs) ∧ Reps g L H ds vs := by
  rcases h with h | ⟨a, e, vs, h, r⟩
  · cases h with
    | lst l h r => exact ⟨_, _, rfl, h, r⟩
  · exact ⟨a, vs, e, h, r⟩
theorem Cur.tup {ds : List D} {v : V} (h : Cur g L H (.tup ds) v) : ∃ a vs, v = .ref a ∧ H a = some (.tup vs) ∧ Reps g L H ds vs := by
  rcases h with h | ⟨a, e, h⟩
  · cases h with
    | tup h r => exact ⟨_, _, rfl, h, r⟩
  · exact h.elim
theorem Cur.non {v : V} (h : Cur g L H .non v) : v = .non := by
  rcases h with h | ⟨a, _, h⟩
  · cases h; rfl
  · exact h.elim
theorem Cur.scr {ns : List Int} {v : V} (hK : g.K = X.K) (h : Cur g L H (.scr ns) v) : ∃ a, v = .ref a ∧ SqL X.K H a (ns.map V.int) := by
  rcases h with h | ⟨a, _, h⟩
  · cases h with
    | scF _ h => exact ⟨_, rfl, .inl (.inr ⟨_, h⟩)⟩
    | scK h => exact ⟨_, rfl, by rw [← hK]; exact h H⟩
  · exact h.elim
theorem Cur.dp (hK : g.K = X.K) {d : D} {v : V} (h : Cur g L H d v) (l : d.lay = true) : Dp X.K H v d.py ∧ d.py.canLay0 = true := by
  rcases h with h | ⟨a, rfl, h⟩
  · exact h.dp hK l
  · cases d with
    | lst ds => obtain ⟨vs, e, r⟩ := h; exact ⟨.lst (SqL.of e) (r.dp hK l).1, (r.dp hK l).2⟩
    | dct _ _ => cases l
    | dcT _ _ => cases l
    | _ => exact h.elim
/-! ### == and != -/
def cmpOk (a b : D) : Bool := a.lay && b.lay && decide (min a.dep b.dep ≤ 190)
def eqS (a b : D) : Option RD := if cmpOk a b = true then some (.v (.bl (D.eq a b))) else none
def neS (a b : D) : Option RD := if cmpOk a b = true then some (.v (.bl (!D.eq a b))) else none
theorem op_eqZ (hK : g.K = X.K) (hu : X.A.units + 191 < cLine) : OpR X (compareOp .Eq) (rD2 g eqS) := by
  intro pins s σ H x y v u Q I rx ry h
  obtain ⟨L, d1, d2, r, c1, c2, e, k⟩ := h
  unfold eqS at e
  by_cases hc : cmpOk d1 d2 = true
  · rw [if_pos hc] at e
    cases e
    unfold cmpOk at hc
    rw [Bool.and_eq_true, Bool.and_eq_true, decide_eq_true_iff] at hc
    obtain ⟨⟨l1, l2⟩, hd⟩ := hc
    obtain ⟨p1, q1⟩ := c1.dp hK l1
    obtain ⟨p2, q2⟩ := c2.dp hK l2
    obtain ⟨as, r1⟩ := Dp.reads I _ x v p1 rx
    obtain ⟨bs, r2⟩ := Dp.reads I _ y u p2 ry
    have hd : min d1.py.depth d2.py.depth ≤ 190 := hd
    exact SeqAt.compareEq_reads r1 r2 q1 q2 (by omega) ⟨.bl _, H, I, rfl, k _ H (Same.refl H) (.bl _)⟩
  · rw [if_neg hc] at e; cases e
theorem op_neZ (hK : g.K = X.K) (hu : X.A.units + 191 < cLine) : OpR X (compareOp .NotEq) (rD2 g neS) := by
  intro pins s σ H x y v u Q I rx ry h
  obtain ⟨L, d1, d2, r, c1, c2, e, k⟩ := h
  unfold neS at e
  by_cases hc : cmpOk d1 d2 = true
  · rw [if_pos hc] at e
    cases e
    unfold cmpOk at hc
    rw [Bool.and_eq_true, Bool.and_eq_true, decide_eq_true_iff] at hc
    obtain ⟨⟨l1, l2⟩, hd⟩ := hc
    obtain ⟨p1, q1⟩ := c1.dp hK l1
    obtain ⟨p2, q2⟩ := c2.dp hK l2
    obtain ⟨as, r1⟩ := Dp.reads I _ x v p1 rx
    obtain ⟨bs, r2⟩ := Dp.reads I _ y u p2 ry
    have hd : min d1.py.depth d2.py.depth ≤ 190 := hd
    exact SeqAt.compareNe_reads r1 r2 q1 q2 (by omega) ⟨.bl _, H, I, rfl, k _ H (Same.refl H) (.bl _)⟩
  · rw [if_neg hc] at e; cases e
theorem Room.u191 {k : Nat} {A : Around} (r : Room k A) : A.units + 191 < cLine := by have := r.un; omega
/-! ### order -/
def ltS (a b : D) : Option RD := match a, b with
  | .int i, .int j => some (.v (.bl (decide (i < j))))
  | .str i, .str j => some (.v (.bl (decide (i.cps.toList < j.cps.toList))))
  | _, _ => none
def gtS (a b : D) : Option RD := match a, b with
  | .int i, .int j => some (.v (.bl (decide (j < i))))
  | .str i, .str j => some (.v (.bl (decide (j.cps.toList < i.cps.toList))))
  | _, _ => none
def leS (a b : D) : Option RD := match a, b with
  | .int i, .int j => some (.v (.bl (decide (i ≤ j))))
  | _, _ => none
def geS (a b : D) : Option RD := match a, b with
  | .int i, .int j => some (.v (.bl (decide (j ≤ i))))
  | _, _ => none
theorem op_ltZ : OpR X (compareOp .Lt) (rD2 g ltS) := by
  intro pins s σ H x y v u Q I rx ry h
  obtain ⟨L, d1, d2, r, c1, c2, e, k⟩ := h
  unfold ltS at e
  split at e
  · cases e; exact op_lt pins s σ H x y v u Q I rx ry ⟨_, _, c1.int, c2.int, k _ H (Same.refl H) (.bl _)⟩
  · cases e; exact op_lt_str pins s σ H x y v u Q I rx ry ⟨_, _, c1.str.1, c2.str.1, k _ H (Same.refl H) (.bl _)⟩
  · cases e
theorem op_gtZ : OpR X (compareOp .Gt) (rD2 g gtS) := by
  intro pins s σ H x y v u Q I rx ry h
  obtain ⟨L, d1, d2, r, c1, c2, e, k⟩ := h
  unfold gtS at e
  split at e
  · cases e; exact op_gt pins s σ H x y v u Q I rx ry ⟨_, _, c1.int, c2.int, k _ H (Same.refl H) (.bl _)⟩
  · cases e; exact op_gt_str pins s σ H x y v u Q I rx ry ⟨_, _, c1.str.1, c2.str.1, k _ H (Same.refl H) (.bl _)⟩
  · cases e
theorem op_leZ : OpR X (compareOp .LtE) (rD2 g leS) := by
  intro pins s σ H x y v u Q I rx ry h
  obtain ⟨L, d1, d2, r, c1, c2, e, k⟩ := h
  unfold leS at e
  split at e
  · cases e; exact op_le pins s σ H x y v u Q I rx ry ⟨_, _, c1.int, c2.int, k _ H (Same.refl H) (.bl _)⟩
  · cases e
theorem op_geZ : OpR X (compareOp .GtE) (rD2 g geS) := by
  intro pins s σ H x y v u Q I rx ry h
  obtain ⟨L, d1, d2, r, c1, c2, e, k⟩ := h
  unfold geS at e
  split at e
  · cases e; exact op_ge pins s σ H x y v u Q I rx ry ⟨_, _, c1.int, c2.int, k _ H (Same.refl H) (.bl _)⟩
  · cases e
/-! ### is None -/
def D.isNon : D → Bool
  | .non => true
  | _ => false
def isS (a b : D) : Option RD := match b with
  | .non => some (.v (.bl a.isNon))
  | _ => none
def isNotS (a b : D) : Option RD := match b with
  | .non => some (.v (.bl (!a.isNon)))
  | _ => none
theorem Cur.isNon {d : D} {v : V} (h : Cur g L H d v) : decide (v = .non) = d.isNon := by
  rcases h with h | ⟨a, rfl, h⟩
  · cases h <;> first | rfl | simp [D.isNon]
  · cases d <;> first | exact h.elim | simp [D.isNon]
theorem op_isZ : OpR X (compareOp .Is) (rD2 g isS) := by
  intro pins s σ H x y v u Q I rx ry h
  obtain ⟨L, d1, d2, r, c1, c2, e, k⟩ := h
  unfold isS at e
  split at e
  · cases e
    exact op_isN pins s σ H x y v u Q I rx ry ⟨c2.non, by rw [c1.isNon]; exact k _ H (Same.refl H) (.bl _)⟩
  · cases e
theorem op_isNotZ : OpR X (compareOp .IsNot) (rD2 g isNotS) := by
  intro pins s σ H x y v u Q I rx ry h
  obtain ⟨L, d1, d2, r, c1, c2, e, k⟩ := h
  unfold isNotS at e
  split at e
  · cases e
    exact op_notN pins s σ H x y v u Q I rx ry ⟨c2.non, by rw [c1.isNon]; exact k _ H (Same.refl H) (.bl _)⟩
  · cases e
/-! ### arithmetic -/
def addS (a b : D) : Option RD := match a, b with
  | .int i, .int j => some (.v (.int (i + j)))
  | .str i, .str j => if i.length + j.length ≤ sizeLine then some (.v (.str (i ++ j))) else none
  | .tup xs, .tup ys => if xs.length + ys.length ≤ sizeLine then some (.v (.tup (xs ++ ys))) else none
  | .lst xs, .lst ys => if xs.length + ys.length ≤ sizeLine then some (.f (.lst (xs ++ ys))) else none
  | _, _ => none
def subS (a b : D) : Option RD := match a, b with
  | .int i, .int j => some (.v (.int (i - j)))
  | _, _ => none
/-- one factor small -/
def smallI (i : Int) : Bool := decide (-(2 ^ 64) < i) && decide (i < 2 ^ 64)
def mulS (a b : D) : Option RD := match a, b with
  | .int i, .int j => if (smallI i || smallI j) = true then some (.v (.int (i * j))) else none
  | .lst xs, .int k => if 0 ≤ k ∧ k < 2 ^ 63 ∧ xs.length * k.toNat ≤ sizeLine then some (.f (.lst (List.replicate k.toNat xs).flatten)) else none
  | .tup xs, .int k => if xs ≠ [] ∧ 2 ≤ k ∧ k ≤ 1000 ∧ xs.length ≤ 1000 then some (.v (.tup (List.replicate k.toNat xs).flatten)) else none
  | _, _ => none
def modS (a b : D) : Option RD := match a, b with
  | .int i, .int j => if 0 < j then some (.v (.int (i % j))) else none
  | _, _ => none
def fdivS (a b : D) : Option RD := match a, b with
  | .int i, .int j => if 0 < j ∧ j < 1073741824 then some (.v (.int (i / j))) else none
  | _, _ => none
theorem strOk_app {a b : Str} (ha : PyData.strOk a = true) (hb : PyData.strOk b = true) : PyData.strOk (a ++ b) = true := by
  unfold PyData.strOk at *
  have e : (a ++ b).cps = a.cps ++ b.cps := rfl
  rw [e, Array.all_append, ha, hb]; rfl
theorem op_addZ (hK : g.K = X.K) : OpR X (binaryOp .Add) (rD2 g addS) := by
  intro pins s σ H x y v u Q I rx ry h
  obtain ⟨L, d1, d2, r, c1, c2, e, k⟩ := h
  unfold addS at e
  split at e
  · cases e; exact op_add pins s σ H x y v u Q I rx ry ⟨_, _, c1.int, c2.int, k _ H (Same.refl H) (.int _)⟩
  · split at e
    · rename_i hl
      cases e
      exact op_add_str pins s σ H x y v u Q I rx ry ⟨_, _, c1.str.1, c2.str.1, hl, k _ H (Same.refl H) (.str _ (strOk_app c1.str.2 c2.str.2))⟩
    · cases e
  · split at e
    · rename_i hl
      cases e
      obtain ⟨a, vs, rfl, ha, ra⟩ := c1.tup
      obtain ⟨b, us, rfl, hb, rb⟩ := c2.tup
      refine op_catA pins s σ H _ _ v u Q I rx ry ⟨a, b, vs, us, rfl, rfl, SqT.of ha, SqT.of hb, by rw [← ra.len, ← rb.len]; exact hl, fun z => ?_, fun z1 z2 => ?_, fun z1 z2 p hp => ?_⟩
      · have : vs.length = 0 := by rw [z]; rfl
        rw [← ra.len] at this
        have e0 := List.eq_nil_of_length_eq_zero this
        rw [e0] at k
        exact k _ H (Same.refl H) (.tup hb rb)
      · have : us.length = 0 := by rw [z2]; rfl
        rw [← rb.len] at this
        have e0 := List.eq_nil_of_length_eq_zero this
        rw [e0, List.append_nil] at k
        exact k _ H (Same.refl H) (.tup ha ra)
      · have sm := same_new (o := .tup (vs ++ us)) hp
        exact k _ _ sm (.tup upd_same ((ra.app rb).mono (fun _ h => h) (fun a xs q => sm _ _ q) fun a o _ q => sm _ _ q))
    · cases e
  · split at e
    · rename_i hl
      cases e
      obtain ⟨a, vs, rfl, ha, ra⟩ := c1.lst
      obtain ⟨b, us, rfl, hb, rb⟩ := c2.lst
      refine op_cat pins s σ H _ _ v u Q I rx ry ⟨a, b, vs, us, rfl, rfl, ha, hb, by rw [← ra.len, ← rb.len]; exact hl, fun p hp => ?_⟩
      have sm := same_new (o := .lst (vs ++ us)) hp
      exact k _ _ sm ⟨p, rfl, hp, _, upd_same, (ra.app rb).mono (fun _ h => h) (fun a xs q => sm _ _ q) fun a o _ q => sm _ _ q⟩
    · cases e
  · cases e
theorem op_subZ : OpR X (binaryOp .Sub) (rD2 g subS) := by
  intro pins s σ H x y v u Q I rx ry h
  obtain ⟨L, d1, d2, r, c1, c2, e, k⟩ := h
  unfold subS at e
  split at e
  · cases e; exact op_sub pins s σ H x y v u Q I rx ry ⟨_, _, c1.int, c2.int, k _ H (Same.refl H) (.int _)⟩
  · cases e
theorem Reps.rep {ds : List D} {vs : List V} (h : Reps g L H ds vs) : ∀ k : Nat, Reps g L H (List.replicate k ds).flatten (List.replicate k vs).flatten
  | 0 => .nil
  | k + 1 => by
    rw [List.replicate_succ, List.replicate_succ, List.flatten_cons, List.flatten_cons]
    exact h.app (Reps.rep h k)
theorem op_mulZ : OpR X (binaryOp .Mult) (rD2 g mulS) := by
  intro pins s σ H x y v u Q I rx ry h
  obtain ⟨L, d1, d2, r, c1, c2, e, k⟩ := h
  unfold mulS at e
  split at e
  · split at e
    · rename_i i j hs
      cases e
      have hc : CMul i j := by
        rw [Bool.or_eq_true] at hs
        unfold smallI at hs
        simp only [Bool.and_eq_true, decide_eq_true_iff] at hs
        exact hs
      exact op_mul pins s σ H x y v u Q I rx ry ⟨_, _, c1.int, c2.int, hc, k _ H (Same.refl H) (.int _)⟩
    · cases e
  · split at e
    · rename_i xs kk hl
      cases e
      obtain ⟨a, vs, rfl, ha, ra⟩ := c1.lst
      refine op_rep pins s σ H _ _ v u Q I rx ry ⟨a, _, vs, rfl, c2.int, ha, by omega, hl.2.1, by rw [← ra.len]; exact hl.2.2, fun p hp => ?_⟩
      have sm := same_new (o := .lst (List.replicate kk.toNat vs).flatten) hp
      exact k _ _ sm ⟨p, rfl, hp, _, upd_same, (ra.rep _).mono (fun _ h => h) (fun a xs q => sm _ _ q) fun a o _ q => sm _ _ q⟩
    · cases e
  · split at e
    · rename_i xs kk hl
      cases e
      obtain ⟨a, vs, rfl, ha, ra⟩ := c1.tup
      refine op_repT pins s σ H _ _ v u Q I rx ry ⟨a, _, vs, rfl, c2.int, SqT.of ha, fun z => ?_, hl.2.1, hl.2.2.1, by rw [← ra.len]; exact hl.2.2.2, fun p hp => ?_⟩
      · have : vs.length = 0 := by rw [z]; rfl
        rw [← ra.len] at this
        exact hl.1 (List.eq_nil_of_length_eq_zero this)
      · have sm := same_new (o := .tup (List.replicate kk.toNat vs).flatten) hp
        exact k _ _ sm (.tup upd_same ((ra.rep _).mono (fun _ h => h) (fun a xs q => sm _ _ q) fun a o _ q => sm _ _ q))
    · cases e
  · cases e
theorem op_modZ : OpR X (binaryOp .Mod) (rD2 g modS) := by
  intro pins s σ H x y v u Q I rx ry h
  obtain ⟨L, d1, d2, r, c1, c2, e, k⟩ := h
  unfold modS at e
  split at e
  · split at e
    · rename_i hs
      cases e
      exact op_mod pins s σ H x y v u Q I rx ry ⟨_, _, c1.int, c2.int, hs, k _ H (Same.refl H) (.int _)⟩
    · cases e
  · cases e
theorem op_fdivZ : OpR X (binaryOp .FloorDiv) (rD2 g fdivS) := by
  intro pins s σ H x y v u Q I rx ry h
  obtain ⟨L, d1, d2, r, c1, c2, e, k⟩ := h
  unfold fdivS at e
  split at e
  · split at e
    · rename_i hs
      cases e
      exact op_fdiv pins s σ H x y v u Q I rx ry ⟨_, _, c1.int, c2.int, hs, k _ H (Same.refl H) (.int _)⟩
    · cases e
  · cases e
def negS (a : D) : Option RD := match a with
  | .int i => some (.v (.int (-i)))
  | _ => none
theorem un_negZ : UnR X (unaryOp .USub) (rD1 g negS) := by
  intro pins s σ H x v Q I rx h
  obtain ⟨L, d1, r, c1, e, k⟩ := h
  unfold negS at e
  split at e
  · cases e; exact un_neg pins s σ H x v Q I rx ⟨_, c1.int, k _ H (Same.refl H) (.int _)⟩
  · cases e
/-! ### in -/
/-- a sign in a text; a thing in a list -/
def inB (a b : D) : Option Bool := match a, b with
  | .str x, .str z => (match x.cps.toList with
    | [c] => some (decide (c ∈ z.cps.toList))
    | _ => none)
  | a, .lst ds => if (a.lay && D.lays ds && decide (a.dep ≤ 64) && decide ((D.lst ds).dep ≤ 64)) = true then some (ds.any fun z => D.eq z a) else none
  | _, _ => none
def inS (a b : D) : Option RD := (inB a b).map fun k => .v (.bl k)
def notInS (a b : D) : Option RD := (inB a b).map fun k => .v (.bl (!k))
theorem pys_any (a : D) : ∀ ds : List D, (D.pys ds).any (fun z => PyData.eqv z a.py) = ds.any fun z => D.eq z a
  | [] => rfl
  | d :: ds => by
    show (PyData.eqv d.py a.py || (D.pys ds).any fun z => PyData.eqv z a.py) = _
    rw [pys_any a ds]; rfl
theorem sh_of {d : D} (h1 : d.py.canLay0 = true) (h2 : d.dep ≤ 64) : SeqAt.shaped d.py = true := by
  unfold SeqAt.shaped
  rw [h1, Bool.true_and, decide_eq_true_iff]
  exact h2
theorem op_inZ (hK : g.K = X.K) (hu : X.A.units + 191 < cLine) : OpR X (compareOp .In) (rD2 g inS) := by
  intro pins s σ H x y v u Q I rx ry h
  obtain ⟨L, d1, d2, r, c1, c2, e, k⟩ := h
  unfold inS at e
  cases eb : inB d1 d2 with
  | none => rw [eb] at e; cases e
  | some b =>
    rw [eb] at e
    cases e
    unfold inB at eb
    split at eb
    · rename_i a z
      split at eb
      · rename_i c hc
        cases eb
        have ea : a = ⟨#[c]⟩ := by
          obtain ⟨arr⟩ := a
          obtain ⟨l⟩ := arr
          simp at hc
          rw [hc]
        rw [ea] at c1
        exact op_in_sign pins s σ H x y v u Q I rx ry ⟨c, z, c1.str.1, c2.str.1, k _ H (Same.refl H) (.bl _)⟩
      · cases eb
    · split at eb
      · rename_i hl
        cases eb
        simp only [Bool.and_eq_true, decide_eq_true_iff] at hl
        obtain ⟨⟨⟨l1, l2⟩, h1⟩, h2⟩ := hl
        obtain ⟨p1, q1⟩ := c1.dp hK l1
        obtain ⟨p2, q2⟩ := c2.dp hK l2
        refine op_inD (by omega) pins s σ H x y v u Q I rx ry ⟨_, _, p1, p2, sh_of q1 h1, sh_of (d := .lst _) q2 h2, ?_⟩
        rw [pys_any]
        exact k _ H (Same.refl H) (.bl _)
      · cases eb
    · cases eb
theorem op_notInZ (hK : g.K = X.K) (hu : X.A.units + 191 < cLine) : OpR X (compareOp .NotIn) (rD2 g notInS) := by
  intro pins s σ H x y v u Q I rx ry h
  obtain ⟨L, d1, d2, r, c1, c2, e, k⟩ := h
  unfold notInS at e
  cases eb : inB d1 d2 with
  | none => rw [eb] at e; cases e
  | some b =>
    rw [eb] at e
    cases e
    unfold inB at eb
    split at eb
    · rename_i a z
      split at eb
      · rename_i c hc
        cases eb
        have ea : a = ⟨#[c]⟩ := by
          obtain ⟨arr⟩ := a
          obtain ⟨l⟩ := arr
          simp at hc
          rw [hc]
        rw [ea] at c1
        exact op_notIn_sign pins s σ H x y v u Q I rx ry ⟨c, z, c1.str.1, c2.str.1, k _ H (Same.refl H) (.bl _)⟩
      · cases eb
    · split at eb
      · rename_i hl
        cases eb
        simp only [Bool.and_eq_true, decide_eq_true_iff] at hl
        obtain ⟨⟨⟨l1, l2⟩, h1⟩, h2⟩ := hl
        obtain ⟨p1, q1⟩ := c1.dp hK l1
        obtain ⟨p2, q2⟩ := c2.dp hK l2
        refine op_notInD (by omega) pins s σ H x y v u Q I rx ry ⟨_, _, p1, p2, sh_of q1 h1, sh_of (d := .lst _) q2 h2, ?_⟩
        rw [pys_any]
        exact k _ H (Same.refl H) (.bl _)
      · cases eb
    · cases eb
end
end Z

namespace Z
open PySem PySem.Spec PyProof.Rows L2

section
variable {g : Gm} {X : Cx} {W : WX} {L : Addr → Prop} {H : Hp} {a b c : Expr} {pos p : Pos} {σ : L2.St}
/-! ### subscripts -/
def ixS (x i : D) : Option RD := match x, i with
  | .lst ds, .int i => (atI ds i).map .v
  | .tup ds, .int i => (atI ds i).map .v
  | .str s, .int i => if s.length ≤ sizeLine then (atI s.cps.toList i).map fun c => .v (.str ⟨#[c]⟩) else none
  | .scr ns, .int i => (atI ns i).map fun n => .v (.int n)
  | _, _ => none
theorem Reps.atI {ds : List D} {vs : List V} {i : Int} {d : D} (r : Reps g L H ds vs) (e : L2.atI ds i = some d) : ∃ v, L2.atI vs i = some v ∧ Rep g L H d v := by
  unfold L2.atI at e ⊢
  rw [← r.len]
  cases q : ixN ds.length i with
  | none => rw [q] at e; cases e
  | some j => rw [q] at e; exact r.get e
theorem atI_mem {α : Type} {xs : List α} {i : Int} {x : α} (e : L2.atI xs i = some x) : x ∈ xs := by
  obtain ⟨j, _, h, _⟩ := atI_get e
  exact List.mem_of_getElem? h
theorem map_some {α β : Type} {o : Option α} {f : α → β} {b : β} (e : o.map f = some b) : ∃ a, o = some a ∧ f a = b := by
  cases o with
  | none => cases e
  | some a => exact ⟨a, rfl, Option.some.inj e⟩
theorem atI_map {α β : Type} (f : α → β) (xs : List α) (i : Int) : L2.atI (xs.map f) i = (L2.atI xs i).map f := by
  unfold L2.atI
  rw [List.length_map]
  cases ixN xs.length i with
  | none => rfl
  | some j => simp
theorem ix_Z (hK : g.K = X.K) : IxR X (rD2 g ixS) := by
  intro value slice pins s σ H x y v u Q I rx ry h hsub
  obtain ⟨L, d1, d2, r, c1, c2, e, k⟩ := h
  unfold ixS at e
  split at e
  · obtain ⟨d, e1, rfl⟩ := map_some e
    obtain ⟨a, vs, rfl, ha, ra⟩ := c1.lst
    obtain ⟨w, hw, rw'⟩ := ra.atI e1
    exact ix_list value slice pins s σ H _ y v u Q I rx ry ⟨a, vs, _, w, rfl, c2.int, SqL.of ha, hw, k _ H (Same.refl H) rw'⟩ hsub
  · obtain ⟨d, e1, rfl⟩ := map_some e
    obtain ⟨a, vs, rfl, ha, ra⟩ := c1.tup
    obtain ⟨w, hw, rw'⟩ := ra.atI e1
    exact ix_tup value slice pins s σ H _ y v u Q I rx ry ⟨a, vs, _, w, rfl, c2.int, SqT.of ha, hw, k _ H (Same.refl H) rw'⟩ hsub
  · split at e
    · rename_i hl
      obtain ⟨c, e1, rfl⟩ := map_some e
      exact ix_str value slice pins s σ H _ y v u Q I rx ry ⟨_, _, c, c1.str.1, c2.int, hl, e1, k _ H (Same.refl H) (.str _ (strOk_of (l := [c]) c1.str.2 fun d hd => by cases List.mem_singleton.mp hd; exact atI_mem e1))⟩ hsub
    · cases e
  · obtain ⟨n, e1, rfl⟩ := map_some e
    obtain ⟨a, rfl, sq⟩ := c1.scr (X := X) hK
    exact ix_list value slice pins s σ H _ y v u Q I rx ry ⟨a, _, _, .int n, rfl, c2.int, sq, by rw [atI_map, e1]; rfl, k _ H (Same.refl H) (.int n)⟩ hsub
  · cases e
theorem je_sub {ma mb : M Hd} (hK : g.K = X.K) (ha : JE g X W a ma) (hb : JE g X W b mb) (hs : PlainIx b := by exact fun _ _ => rfl) : JE g X W (.Subscript a b pos) (mBin ixS ma mb) :=
  pe_imp (pe_ix (ix_Z hK) ha hb hs) fun _ _ _ h => bin_ok h
/-! ### slices -/
def TOm (g : Gm) (W : WX) (m : M (Option Int)) : TO := fun σ H Q => ∃ L A, Okf g L A σ H ∧ Wp g W σ L A H (m A) fun o _ _ H' => Q o H'
abbrev JO (g : Gm) (X : Cx) (W : WX) (e : Option Expr) (m : M (Option Int)) : Prop := PO X e (TOm g W m)
theorem po_imp {e : Option Expr} {t t' : TO} (h : PO X e t) (k : ∀ σ H Q, t' σ H Q → t σ H Q) : PO X e t' := ⟨fun pins s σ H Q I q => h.run pins s σ H Q I (k σ H Q q)⟩
def mO0 : M (Option Int) := fun A => .ok none A
def mO1 (m : M Hd) : M (Option Int) := fun A => (m A).bind fun h A1 => match pk h A1 with
  | some (.int i) => .ok (some i) A1
  | _ => .stuck
theorem jo0 : JO g X W none mO0 := po_imp po_none fun σ H Q ⟨L, A, G, w⟩ => w L H Stp.refl G
theorem jo1 {m : M Hd} (h : JE g X W a m) : JO g X W (some a) (mO1 m) := by
  refine po_imp (po_some h) fun σ H Q ⟨L, A, G, w⟩ => ⟨L, A, G, w.bind.mono fun h1 A1 L1 H1 S1 G1 w1 v1 r1 => ?_⟩
  cases e1 : pk h1 A1 with
  | none => simp only [e1] at w1; exact w1.elim
  | some d1 =>
    cases d1 with
    | int i => simp only [e1] at w1; exact ⟨i, (pk_ok G1 r1 e1).int, w1 L1 H1 Stp.refl G1⟩
    | _ => simp only [e1] at w1; exact w1.elim
def cutD (xs : List D) (lo hi : Option Int) : List D := (xs.drop (HT.sIx xs.length 0 lo)).take (HT.sIx xs.length xs.length hi - HT.sIx xs.length 0 lo)
def slS (x : D) (lo hi : Option Int) : Option RD := match x with
  | .lst ds => some (.f (.lst (cutD ds lo hi)))
  | .tup ds => some (.v (.tup (cutD ds lo hi)))
  | .str s => if s.length ≤ sizeLine then some (.v (.str (cutS s lo hi))) else none
  | _ => none
def mSl (m : M Hd) (lo hi : M (Option Int)) : M Hd := fun A => (m A).bind fun h A1 => (lo A1).bind fun l A2 => (hi A2).bind fun u A3 => match pk h A3 with
  | some d => (match slS d l u with
    | some r => .ok r.hd A3
    | none => .stuck)
  | none => .stuck
def rSlZ (g : Gm) : V → Option Int → Option Int → Hp → VK → Prop := fun x lo hi H Q => ∃ L d r, Cur g L H d x ∧ slS d lo hi = some r ∧ ∀ v H', Same H H' → RelR g L H H' r v → Q v H'
theorem Reps.cut {ds : List D} {vs : List V} (r : Reps g L H ds vs) (lo hi : Option Int) : Reps g L H (cutD ds lo hi) (cutV vs lo hi) := by
  unfold cutD cutV
  rw [← r.len]
  exact (r.drop _).take _
theorem cutS_ok {z : Str} (h : PyData.strOk z = true) (lo hi : Option Int) : PyData.strOk (cutS z lo hi) = true :=
  strOk_of h fun _ hc => List.mem_of_mem_drop (List.mem_of_mem_take hc)
theorem Reps.same {H' : Hp} {ds : List D} {vs : List V} (sm : Same H H') (r : Reps g L H ds vs) : Reps g L H' ds vs := r.mono (fun _ h => h) (fun _ _ q => sm _ _ q) fun _ _ _ q => sm _ _ q
theorem cut_whole {ds : List D} {lo hi : Option Int} (h : HT.sIx ds.length 0 lo = 0 ∧ HT.sIx ds.length ds.length hi = ds.length) : cutD ds lo hi = ds := by
  unfold cutD
  rw [h.1, h.2, Nat.sub_zero, List.drop_zero, List.take_length]
theorem sl_Z : SlR X (rSlZ g) := by
  intro pins s σ H x v vl vu lo hi sl Q I rx hs pl pu h
  obtain ⟨L, d, r, c, e, k⟩ := h
  unfold slS at e
  split at e
  · cases e
    obtain ⟨a, vs, rfl, ha, ra⟩ := c.lst
    exact sl_list pins s σ H _ v vl vu lo hi sl Q I rx hs pl pu ⟨a, vs, rfl, SqL.of ha, fun p hp => k _ _ (same_new hp) ⟨p, rfl, hp, _, upd_same, (ra.cut lo hi).same (same_new hp)⟩⟩
  · cases e
    obtain ⟨a, vs, rfl, ha, ra⟩ := c.tup
    refine sl_tupA pins s σ H _ v vl vu lo hi sl Q I rx hs pl pu ⟨a, vs, rfl, SqT.of ha, fun z => ?_, fun z p hp => k _ _ (same_new hp) (.tup upd_same ((ra.cut lo hi).same (same_new hp)))⟩
    rw [← ra.len] at z
    rw [cut_whole z] at k
    exact k _ H (Same.refl H) (.tup ha ra)
  · split at e
    · rename_i hl
      cases e
      exact sl_str pins s σ H _ v vl vu lo hi sl Q I rx hs pl pu ⟨_, c.str.1, hl, k _ H (Same.refl H) (.str _ (cutS_ok c.str.2 lo hi))⟩
    · cases e
  · cases e
theorem je_slice {m : M Hd} {ml mh : M (Option Int)} {lo hi : Option Expr} {p2 : Pos} (he : JE g X W a m) (hl : JO g X W lo ml) (hh : JO g X W hi mh) : JE g X W (.Subscript a (.Slice lo hi none p2) pos) (mSl m ml mh) := by
  refine pe_imp (pe_slice (sl_Z (g := g)) he hl hh) fun σ H Q ⟨L, A, G, w⟩ => ?_
  refine ⟨L, A, G, w.bind.mono fun h1 A1 L1 H1 S1 G1 w1 v1 r1 => ⟨L1, A1, G1, w1.bind.mono fun l A2 L_2 H2 S2 G2 w2 => ⟨L_2, A2, G2, w2.bind.mono fun u A3 L3 H3 S3 G3 w3 => ?_⟩⟩⟩
  cases e1 : pk h1 A3 with
  | none => simp only [e1] at w3; exact w3.elim
  | some d =>
    simp only [e1] at w3
    cases e2 : slS d l u with
    | none => simp only [e2] at w3; exact w3.elim
    | some r =>
      simp only [e2] at w3
      refine ⟨L3, d, r, pk_ok G3 ((r1.step G1 S2).step G2 S3) e1, e2, fun v H' s' k => ?_⟩
      obtain ⟨S4, G4⟩ := G3.same s'
      exact w3 L3 H' S4 G4 v (rel_hd G3 (fun a n => S1.none_back (S2.none_back (S3.none_back n))) k)
/-! ### built-in functions -/
def lenS (ds : List D) : Option RD := match ds with
  | [.lst xs] => some (.v (.int xs.length))
  | [.tup xs] => some (.v (.int xs.length))
  | [.str s] => if s.length ≤ sizeLine then some (.v (.int s.length)) else none
  | [.scr ns] => some (.v (.int ns.length))
  | [.dct ks _] => some (.v (.int ks.length))
  | _ => none
theorem Curs.one {d : D} {xs : List V} (h : Curs g L H [d] xs) : ∃ v, xs = [v] ∧ Cur g L H d v := by
  cases h with
  | cons c r => cases r; exact ⟨_, rfl, c⟩
theorem Curs.two {d e : D} {xs : List V} (h : Curs g L H [d, e] xs) : ∃ v w, xs = [v, w] ∧ Cur g L H d v ∧ Cur g L H e w := by
  cases h with
  | cons c r =>
    cases r with
    | cons c2 r => cases r; exact ⟨_, _, rfl, c, c2⟩
theorem Cur.dct {ks : List Key} {ds : List D} {v : V} (h : Cur g L H (.dct ks ds) v) : ∃ a vs, v = .ref a ∧ H a = some (.dK (ks.zip vs)) ∧ ks.length = vs.length ∧ Reps g L H ds vs := by
  rcases h with h | ⟨a, e, vs, h, l, r⟩
  · cases h with
    | dct l h e r => exact ⟨_, _, rfl, h, e, r⟩
  · exact ⟨a, vs, e, h, l, r⟩
theorem c_len (hK : g.K = X.K) : CallR X (.builtin "len") (rDn g lenS) := by
  intro pins s σ H xs us Q I r h
  obtain ⟨L, ds, rr, c, e, k⟩ := h
  unfold lenS at e
  split at e
  · cases e
    obtain ⟨v, rfl, c1⟩ := c.one
    obtain ⟨a, vs, rfl, ha, ra⟩ := c1.lst
    exact call_len_seq pins s σ H _ us Q I r ⟨a, vs, rfl, .inl (SqL.of ha), by rw [← ra.len]; exact k _ H (Same.refl H) (.int _)⟩
  · cases e
    obtain ⟨v, rfl, c1⟩ := c.one
    obtain ⟨a, vs, rfl, ha, ra⟩ := c1.tup
    exact call_len_seq pins s σ H _ us Q I r ⟨a, vs, rfl, .inr (SqT.of ha), by rw [← ra.len]; exact k _ H (Same.refl H) (.int _)⟩
  · split at e
    · rename_i hl
      cases e
      obtain ⟨v, rfl, c1⟩ := c.one
      exact call_len_str pins s σ H _ us Q I r ⟨_, by rw [c1.str.1], hl, k _ H (Same.refl H) (.int _)⟩
    · cases e
  · cases e
    obtain ⟨v, rfl, c1⟩ := c.one
    obtain ⟨a, rfl, sq⟩   := c1.scr (X := X) hK
    exact call_len_seq pins s σ H _ us Q I r ⟨a, _, rfl, .inl sq, by rw [List.length_map]; exact k _ H (Same.refl H) (.int _)⟩
  · cases e
    obtain ⟨v, rfl, c1⟩ := c.one
    obtain ⟨a, vs, rfl, ha, hl, ra⟩ := c1.dct
    refine call_lenD pins s σ H _ us Q I r ⟨a, _, rfl, ha, ?_⟩
    rw [List.length_zip, ← hl, Nat.min_self]
    exact k _ H (Same.refl H) (.int _)
  · cases e
/-- all boolsD -/
def boolsD : List D → Option (List Bool)
  | [] => some []
  | .bl b :: ds => (boolsD ds).map (b :: ·)
  | _ => none
def intsD : List D → Option (List Int)
  | [] => some []
  | .int b :: ds => (intsD ds).map (b :: ·)
  | _ => none
def strsD : List D → Option (List Str)
  | [] => some []
  | .str b :: ds => (strsD ds).map (b :: ·)
  | _ => none
theorem boolsD_vs : ∀ {ds : List D} {vs : List V} {bs : List Bool}, Reps g L H ds vs → boolsD ds = some bs → vs = bs.map V.bl
  | _, _, _, .nil, e => by cases e; rfl
  | _, _, _, .cons (.bl b) r, e => by obtain ⟨x, e1, rfl⟩ := map_some e; rw [boolsD_vs r e1]; rfl
  | _, _, _, .cons .non _, e => by cases e
  | _, _, _, .cons (.int _) _, e => by cases e
  | _, _, _, .cons (.str _ _) _, e => by cases e
  | _, _, _, .cons (.tup _ _) _, e => by cases e
  | _, _, _, .cons (.lst _ _ _) _, e => by cases e
  | _, _, _, .cons (.scF _ _) _, e => by cases e
  | _, _, _, .cons (.scK _) _, e => by cases e
  | _, _, _, .cons (.dct _ _ _ _) _, e => by cases e
  | _, _, _, .cons (.dcT _ _ _ _) _, e => by cases e
  | _, _, _, .cons (.fn _) _, e => by cases e
theorem intsD_vs : ∀ {ds : List D} {vs : List V} {bs : List Int}, Reps g L H ds vs → intsD ds = some bs → vs = bs.map V.int
  | _, _, _, .nil, e => by cases e; rfl
  | _, _, _, .cons (.int b) r, e => by obtain ⟨x, e1, rfl⟩ := map_some e; rw [intsD_vs r e1]; rfl
  | _, _, _, .cons .non _, e => by cases e
  | _, _, _, .cons (.bl _) _, e => by cases e
  | _, _, _, .cons (.str _ _) _, e => by cases e
  | _, _, _, .cons (.tup _ _) _, e => by cases e
  | _, _, _, .cons (.lst _ _ _) _, e => by cases e
  | _, _, _, .cons (.scF _ _) _, e => by cases e
  | _, _, _, .cons (.scK _) _, e => by cases e
  | _, _, _, .cons (.dct _ _ _ _) _, e => by cases e
  | _, _, _, .cons (.dcT _ _ _ _) _, e => by cases e
  | _, _, _, .cons (.fn _) _, e => by cases e
theorem strsD_vs : ∀ {ds : List D} {vs : List V} {bs : List Str}, Reps g L H ds vs → strsD ds = some bs → vs = bs.map V.str ∧ ∀ z ∈ bs, PyData.strOk z = true
  | _, _, _, .nil, e => by cases e; exact ⟨rfl, fun z h => by cases h⟩
  | _, _, _, .cons (.str b o) r, e => by
    obtain ⟨x, e1, rfl⟩ := map_some e
    obtain ⟨h1, h2⟩ := strsD_vs r e1
    rw [h1]
    exact ⟨rfl, fun z hz => (List.mem_cons.mp hz).elim (fun q => by rw [q]; exact o) (h2 z)⟩
  | _, _, _, .cons .non _, e => by cases e
  | _, _, _, .cons (.bl _) _, e => by cases e
  | _, _, _, .cons (.int _) _, e => by cases e
  | _, _, _, .cons (.tup _ _) _, e => by cases e
  | _, _, _, .cons (.lst _ _ _) _, e => by cases e
  | _, _, _, .cons (.scF _ _) _, e => by cases e
  | _, _, _, .cons (.scK _) _, e => by cases e
  | _, _, _, .cons (.dct _ _ _ _) _, e => by cases e
  | _, _, _, .cons (.dcT _ _ _ _) _, e => by cases e
  | _, _, _, .cons (.fn _) _, e => by cases e
def allS (ds : List D) : Option RD := match ds with
  | [.lst xs] => (boolsD xs).map fun bs => .v (.bl (bs.all id))
  | _ => none
def anyS (ds : List D) : Option RD := match ds with
  | [.lst xs] => (boolsD xs).map fun bs => .v (.bl (bs.any id))
  | _ => none
def sumS (ds : List D) : Option RD := match ds with
  | [.lst xs] => (intsD xs).map fun bs => .v (.int bs.sum)
  | _ => none
theorem c_all (hc : X.calm = true) : CallR X (.builtin "all") (rDn g allS) := by
  intro pins s σ H xs us Q I r h
  obtain ⟨L, ds, rr, c, e, k⟩ := h
  unfold allS at e
  split at e
  · obtain ⟨bs, e1, rfl⟩ := map_some e
    obtain ⟨v, rfl, c1⟩ := c.one
    obtain ⟨a, vs, rfl, ha, ra⟩ := c1.lst
    rw [boolsD_vs ra e1] at ha
    exact cr_all hc pins s σ H _ us Q I r ⟨a, bs, rfl, SqL.of ha, k _ H (Same.refl H) (.bl _)⟩
  · cases e
theorem c_any (hc : X.calm = true) : CallR X (.builtin "any") (rDn g anyS) := by
  intro pins s σ H xs us Q I r h
  obtain ⟨L, ds, rr, c, e, k⟩ := h
  unfold anyS at e
  split at e
  · obtain ⟨bs, e1, rfl⟩ := map_some e
    obtain ⟨v, rfl, c1⟩ := c.one
    obtain ⟨a, vs, rfl, ha, ra⟩ := c1.lst
    rw [boolsD_vs ra e1] at ha
    exact cr_any hc pins s σ H _ us Q I r ⟨a, bs, rfl, SqL.of ha, k _ H (Same.refl H) (.bl _)⟩
  · cases e
theorem c_sum (hc : X.calm = true) : CallR X (.builtin "sum") (rDn g sumS) := by
  intro pins s σ H xs us Q I r h
  obtain ⟨L, ds, rr, c, e, k⟩ := h
  unfold sumS at e
  split at e
  · obtain ⟨bs, e1, rfl⟩ := map_some e
    obtain ⟨v, rfl, c1⟩ := c.one
    obtain ⟨a, vs, rfl, ha, ra⟩ := c1.lst
    rw [intsD_vs ra e1] at ha
    exact cr_sum hc pins s σ H _ us Q I r ⟨a, bs, rfl, SqL.of ha, k _ H (Same.refl H) (.int _)⟩
  · cases e
/-- a key as data -/
def keyD : Key → D
  | .inl i => .int i
  | .inr s => .str s
def listS (ds : List D) : Option RD := match ds with
  | [.lst xs] => some (.f (.lst xs))
  | [.tup xs] => some (.f (.lst xs))
  | _ => none
def tupleS (ds : List D) : Option RD := match ds with
  | [.lst xs] => some (.v (.tup xs))
  | [.tup xs] => some (.v (.tup xs))
  | _ => none
def intS (ds : List D) : Option RD := match ds with
  | [.int i] => some (.v (.int i))
  | [.bl b] => some (.v (.int (if b then 1 else 0)))
  | _ => none
theorem c_list : CallR X (.type "list") (rDn g listS) := by
  intro pins s σ H xs us Q I r h
  obtain ⟨L, ds, rr, c, e, k⟩ := h
  unfold listS at e
  split at e
  · cases e
    obtain ⟨v, rfl, c1⟩ := c.one
    obtain ⟨a, vs, rfl, ha, ra⟩ := c1.lst
    exact call_list_of pins s σ H _ us Q I r ⟨a, vs, rfl, .inl (SqL.of ha), fun p hp => k _ _ (same_new hp) ⟨p, rfl, hp, _, upd_same, ra.same (same_new hp)⟩⟩
  · cases e
    obtain ⟨v, rfl, c1⟩ := c.one
    obtain ⟨a, vs, rfl, ha, ra⟩ := c1.tup
    exact call_list_of pins s σ H _ us Q I r ⟨a, vs, rfl, .inr (SqT.of ha), fun p hp => k _ _ (same_new hp) ⟨p, rfl, hp, _, upd_same, ra.same (same_new hp)⟩⟩
  · cases e
theorem c_tuple : CallR X (.type "tuple") (rDn g tupleS) := by
  intro pins s σ H xs us Q I r h
  obtain ⟨L, ds, rr, c, e, k⟩ := h
  unfold tupleS at e
  split at e
  · cases e
    obtain ⟨v, rfl, c1⟩ := c.one
    obtain ⟨a, vs, rfl, ha, ra⟩ := c1.lst
    exact call_tuple_of pins s σ H _ us Q I r ⟨a, vs, rfl, .inl ⟨SqL.of ha, fun p hp => k _ _ (same_new hp) (.tup upd_same (ra.same (same_new hp)))⟩⟩
  · cases e
    obtain ⟨v, rfl, c1⟩ := c.one
    obtain ⟨a, vs, rfl, ha, ra⟩ := c1.tup
    exact call_tuple_of pins s σ H _ us Q I r ⟨a, vs, rfl, .inr ⟨SqT.of ha, k _ H (Same.refl H) (.tup ha ra)⟩⟩
  · cases e
theorem c_int : CallR X (.type "int") (rDn g intS) := by
  intro pins s σ H xs us Q I r h
  obtain ⟨L, ds, rr, c, e, k⟩ := h
  unfold intS at e
  split at e
  · cases e
    obtain ⟨v, rfl, c1⟩ := c.one
    exact call_int1 pins s σ H _ us Q I r (.inl ⟨_, by rw [c1.int], k _ H (Same.refl H) (.int _)⟩)
  · cases e
    obtain ⟨v, rfl, c1⟩ := c.one
    exact call_int1 pins s σ H _ us Q I r (.inr ⟨_, by rw [c1.bl], k _ H (Same.refl H) (.int _)⟩)
  · cases e
/-! ### isinstance with a built-in class -/
inductive Ty where
  | tint | tstr | tbool | ttup | tlst
def Ty.name : Ty → String
  | .tint => "int"
  | .tstr => "str"
  | .tbool => "bool"
  | .ttup => "tuple"
  | .tlst => "list"
def isiB (t : Ty) (d : D) : Option Bool := match d, t with
  | .non, _ => some false
  | .bl _, .tint => some true
  | .bl _, .tbool => some true
  | .bl _, _ => some false
  | .int _, .tint => some true
  | .int _, _ => some false
  | .str _, .tstr => some true
  | .str _, _ => some false
  | .tup _, .ttup => some true
  | .tup _, _ => some false
  | .lst _, .tlst => some true
  | .lst _, _ => some false
  | .dct _ _, _ => some false
  | _, _ => none
def isiS (t : Ty) (d : D) : Option RD := (isiB t d).map fun b => .v (.bl b)
theorem kit_all (t : Ty) : kitB "NoneType" t.name = some false ∧ kitB "dict" t.name = some false ∧ (kitB "bool" t.name = isiB t (.bl true)) ∧ (kitB "int" t.name = isiB t (.int 0)) ∧ (kitB "str" t.name = isiB t (.str ⟨#[]⟩)) ∧ (kitB "tuple" t.name = isiB t (.tup [])) ∧ (kitB "list" t.name = isiB t (.lst [])) := by
  cases t <;> decide +kernel
theorem isi_ty {t : Ty} {d : D} {v : V} {b : Bool} (c : Cur g L H d v) (e : isiB t d = some b) : ∃ ty, TyX X.K H v ty ∧ PySem.W.kitOne X.K ty (.type t.name) = some b := by
  obtain ⟨k1, k2, k3, k4, k5, k6, k7⟩ := kit_all t
  cases d with
  | non => cases t <;> cases e <;> exact ⟨_, .base (by rw [c.non]; exact .non), kit_ty k1⟩
  | bl x => exact ⟨_, .base (by rw [c.bl]; exact .bl x), kit_ty (by rw [k3, ← e]; cases t <;> rfl)⟩
  | int x => exact ⟨_, .base (by rw [c.int]; exact .int x), kit_ty (by rw [k4, ← e]; cases t <;> rfl)⟩
  | str x => exact ⟨_, .base (by rw [c.str.1]; exact .str x), kit_ty (by rw [k5, ← e]; cases t <;> rfl)⟩
  | tup x => obtain ⟨a, vs, rfl, ha, _⟩ := c.tup; exact ⟨_, .base (.tup ha), kit_ty (by rw [k6, ← e]; cases t <;> rfl)⟩
  | lst x => obtain ⟨a, vs, rfl, ha, _⟩ := c.lst; exact ⟨_, .base (.lst ha), kit_ty (by rw [k7, ← e]; cases t <;> rfl)⟩
  | dct x y => obtain ⟨a, vs, rfl, ha, _⟩ := c.dct; cases t <;> cases e <;> exact ⟨_, .base (.dK ha), kit_ty k2⟩
  | dcT x y => cases t <;> cases e
  | fn n => cases t <;> cases e
  | scr n => cases t <;> cases e
theorem je_isi (t : Ty) {m : M Hd} {x : Str} {p2 : Pos} (he : JE g X W a m) (hm : X.mg "isinstance" = none) (hx : X.mg x = none) (hv : bootBuiltins x = some (.type t.name)) (hg : Gl X "isinstance" := by rfl) (hgx : Gl X x := by rfl) (hn : x ≠ "__name__" := by decide) (hdb : (x == ("__debug__" : Str)) = false := by decide)
    (hs : starEach [a, .Name x p2] X.env = (false, eval a X.env) :: starEach [.Name x p2] X.env := by rfl) (hs2 : starEach [.Name x p2] X.env = (false, eval (.Name x p2) X.env) :: starEach [] X.env := by rfl) (hpl : (backTo pos (starEach [.Name x p2] X.env)).any (·.1) = false := by rfl) :
    JE g X W (.Call (.Name "isinstance" p) [a, .Name x p2] [] pos) (mUn (isiS t) m) := by
  refine pe_imp (pe_callB (id := "isinstance") call_isi hg hm (by decide +kernel) (pa_cons he (pa_cons (pe_bltn (v := .ty t.name) hgx hx hv rfl hn hdb) pa_nil hs2) hs) (by decide) (by decide) hs hpl) fun σ H Q h => ?_
  obtain ⟨L, A, G, w⟩ := un_ok h
  refine ⟨L, A, G, w.mono fun h1 A1 L1 H1 S1 G1 w1 v1 r1 => ?_⟩
  obtain ⟨L', d1, r, c1, e, k⟩ := w1 v1 r1
  obtain ⟨b, e1, rfl⟩ := map_some e
  obtain ⟨ty, t1, t2⟩ := isi_ty (X := X) c1 e1
  exact ⟨v1, .ty t.name, ty, _, b, rfl, .ty _, t1, t2, k _ H1 (Same.refl H1) (.bl b)⟩
/-! ### chains -/
def mCh (s s' : D → D → Option RD) (ma mb mc : M Hd) : M Hd := fun A => (ma A).bind fun h1 A1 => (mb A1).bind fun h2 A2 => match pk h1 A2, pk h2 A2 with
  | some d1, some d2 => (match s d1 d2 with
    | some (.v (.bl true)) => (mc A2).bind fun h3 A3 => (match pk h2 A3, pk h3 A3 with
      | some d2', some d3 => (match s' d2' d3 with
        | some r => .ok r.hd A3
        | none => .stuck)
      | _, _ => .stuck)
    | some (.v (.bl false)) => .ok (.d (.bl false)) A2
    | _ => .stuck)
  | _, _ => .stuck
theorem Wp.later {α : Type} {o : Out α} {q : α → Fr → (Addr → Prop) → Hp → Prop} {L1 : Addr → Prop} {A A1 : Fr} {H H1 : Hp} (S : Stp L A σ H L1 A1 σ H1) (h : Wp g W σ L A H o q) : Wp g W σ L1 A1 H1 o q := by
  cases o with
  | ok x A' => exact fun L' H' S2 G => h L' H' (S.trans S2) G
  | exc c A' => exact fun L' H' S2 G => h L' H' (S.trans S2) G
  | stuck => exact h
theorem chain_ok {s s' : D → D → Option RD} {ma mb mc : M Hd} {H : Hp} {Q : VK} (h : TEm g W (mCh s s' ma mb mc) σ H Q) : tChain (rD2 g s) (rD2 g s') (TEm g W ma) (TEm g W mb) (TEm g W mc) σ H Q := by
  obtain ⟨L, A, G, w⟩ := h
  refine ⟨L, A, G, w.bind.mono fun h1 A1 L1 H1 S1 G1 w1 v1 r1 => ⟨L1, A1, G1, w1.bind.mono fun h2 A2 L_2 H2 S2 G2 w2 v2 r2 => ?_⟩⟩
  cases e1 : pk h1 A2 with
  | none => simp only [e1] at w2; exact w2.elim
  | some d1 =>
    cases e2 : pk h2 A2 with
    | none => simp only [e1, e2] at w2; exact w2.elim
    | some d2 =>
      simp only [e1, e2] at w2
      split at w2
      · rename_i es
        refine ⟨L_2, d1, d2, _, pk_ok G2 (r1.step G1 S2) e1, pk_ok G2 r2 e2, es, fun v H' s' k => ?_⟩
        cases k
        refine ⟨true, rfl, ?_⟩
        rw [if_pos rfl]
        obtain ⟨S3, G3⟩ := G2.same s'
        refine ⟨L_2, A2, G3, (Wp.later S3 w2).bind.mono fun h3 A3 L3 H3 S4 G4 w3 v3 r3 => ?_⟩
        cases e3 : pk h2 A3 with
        | none => simp only [e3] at w3; exact w3.elim
        | some d2' =>
          cases e4 : pk h3 A3 with
          | none => simp only [e3, e4] at w3; exact w3.elim
          | some d3 =>
            simp only [e3, e4] at w3
            split at w3
            · rename_i rr es3
              refine ⟨L3, d2', d3, rr, pk_ok G4 ((r2.step G2 S3).step G3 S4) e3, pk_ok G4 r3 e4, es3, fun v H5 s5 k5 => ?_⟩
              obtain ⟨S6, G6⟩ := G4.same s5
              exact w3 L3 H5 S6 G6 v (rel_hd G4 (fun a n => S1.none_back (S2.none_back (S3.none_back (S4.none_back n)))) k5)
            · exact w3.elim
      · rename_i es
        refine ⟨L_2, d1, d2, _, pk_ok G2 (r1.step G1 S2) e1, pk_ok G2 r2 e2, es, fun v H' s' k => ?_⟩
        cases k
        refine ⟨false, rfl, ?_⟩
        rw [if_neg Bool.false_ne_true]
        obtain ⟨S3, G3⟩ := G2.same s'
        exact w2 L_2 H' S3 G3 _ (.bl false)
      · exact w2.elim
theorem je_ch {op op' : CmpOp} {s s' : D → D → Option RD} {ma mb mc : M Hd} (ho : OpR X (compareOp op) (rD2 g s)) (ho' : OpR X (compareOp op') (rD2 g s')) (ha : JE g X W a ma) (hb : JE g X W b mb) (hc : JE g X W c mc)
    (hm : lastMarks [op, op'] [b, c] = false := by with_unfolding_all rfl) : JE g X W (.Compare a [op, op'] [b, c] pos) (mCh s s' ma mb mc) :=
  pe_imp (pe_chain ho ho' ha hb hc hm) fun _ _ _ h => chain_ok h
theorem jt_ch {op op' : CmpOp} {s s' : D → D → Option RD} {ma mb mc : M Hd} (ho : OpR X (compareOp op) (rD2 g s)) (ho' : OpR X (compareOp op') (rD2 g s')) (ha : JE g X W a ma) (hb : JE g X W b mb) (hc : JE g X W c mc)
    (hm : lastMarks [op, op'] [b, c] = false := by with_unfolding_all rfl) : JT g X W (.Compare a [op, op'] [b, c] pos) (mB (mCh s s' ma mb mc)) :=
  pt_imp (pt_chain ho ho' ha hb hc hm) fun _ _ _ h => chain_ok (mB_ok h)
end
end Z

/-! the order of data: ints, texts, tuples of such; sorted -/
namespace Z
open PySem PySem.Spec PyProof.Rows L2
def tagY : PyData → Nat
  | .none => 0
  | .bool _ => 1
  | .int _ => 2
  | .str _ => 3
  | .tuple _ => 4
  | .list _ => 5
  | .dict _ => 6
mutual
def ltY : PyData → PyData → Bool
  | .int i, .int j => decide (i < j)
  | .str x, .str y => decide (x.cps.toList < y.cps.toList)
  | .tuple xs, .tuple ys => ltYs xs ys
  | a, b => decide (tagY a < tagY b)
def ltYs : List PyData → List PyData → Bool
  | [], [] => false
  | [], _ :: _ => true
  | _ :: _, [] => false
  | x :: xs, y :: ys => if PyData.eqv x y = true then ltYs xs ys else ltY x y
end
mutual
def ordY : PyData → Bool
  | .int _ => true
  | .str _ => true
  | .tuple xs => ordYs xs
  | _ => false
def ordYs : List PyData → Bool
  | [] => true
  | x :: xs => ordY x && ordYs xs
end
mutual
/-- no two unlike kinds are asked -/
def cmpY : PyData → PyData → Bool
  | .int _, .int _ => true
  | .str _, .str _ => true
  | .tuple xs, .tuple ys => cmpYs xs ys
  | _, _ => false
def cmpYs : List PyData → List PyData → Bool
  | x :: xs, y :: ys => if PyData.eqv x y = true then cmpYs xs ys else cmpY x y
  | _, _ => true
end
mutual
theorem eqv_iffY : ∀ a b : PyData, ordY a = true → ordY b = true → (PyData.eqv a b = true ↔ a = b)
  | .int i, .int j, _, _ => by simp [PyData.eqv]
  | .int i, .str j, _, _ => by simp [PyData.eqv]
  | .int i, .tuple j, _, _ => by simp [PyData.eqv]
  | .str i, .int j, _, _ => by simp [PyData.eqv]
  | .str i, .str j, _, _ => by simp [PyData.eqv]
  | .str i, .tuple j, _, _ => by simp [PyData.eqv]
  | .tuple i, .int j, _, _ => by simp [PyData.eqv]
  | .tuple i, .str j, _, _ => by simp [PyData.eqv]
  | .tuple i, .tuple j, h1, h2 => by
    rw [PyData.eqv, eqvs_iffY i j h1 h2]
    simp
theorem eqvs_iffY : ∀ a b : List PyData, ordYs a = true → ordYs b = true → (PyData.eqvAll a b = true ↔ a = b)
  | [], [], _, _ => by simp [PyData.eqvAll]
  | [], _ :: _, _, _ => by simp [PyData.eqvAll]
  | _ :: _, [], _, _ => by simp [PyData.eqvAll]
  | x :: xs, y :: ys, h1, h2 => by
    simp only [ordYs, Bool.and_eq_true] at h1 h2
    rw [PyData.eqvAll, Bool.and_eq_true, eqv_iffY x y h1.1 h2.1, eqvs_iffY xs ys h1.2 h2.2]
    simp
end
mutual
theorem ltY_irr : ∀ a : PyData, ordY a = true → ltY a a = false
  | .int i, _ => by simp [ltY]
  | .str i, _ => by simp [ltY]
  | .tuple xs, h => by rw [ltY]; exact ltYs_irr xs h
theorem ltYs_irr : ∀ a : List PyData, ordYs a = true → ltYs a a = false
  | [], _ => by simp [ltYs]
  | x :: xs, h => by
    simp only [ordYs, Bool.and_eq_true] at h
    rw [ltYs, if_pos ((eqv_iffY x x h.1 h.1).2 rfl)]
    exact ltYs_irr xs h.2
end
mutual
theorem ltY_tri : ∀ a b : PyData, ordY a = true → ordY b = true → ltY a b = true ∨ a = b ∨ ltY b a = true
  | .int i, .int j, _, _ => by simp only [ltY, decide_eq_true_iff, PyData.int.injEq]; omega
  | .int i, .str j, _, _ => by simp [ltY, tagY]
  | .int i, .tuple j, _, _ => by simp [ltY, tagY]
  | .str i, .int j, _, _ => by simp [ltY, tagY]
  | .str i, .str j, _, _ => by
    simp only [ltY, decide_eq_true_iff]
    rcases Classical.em (i.cps.toList < j.cps.toList) with h | h
    · exact .inl h
    · rcases Classical.em (j.cps.toList < i.cps.toList) with h2 | h2
      · exact .inr (.inr h2)
      · rw [List.not_lt] at h h2
        have e := List.le_antisymm h2 h
        refine .inr (.inl ?_)
        obtain ⟨⟨a⟩⟩ := i
        obtain ⟨⟨b⟩⟩ := j
        cases e
        rfl
  | .str i, .tuple j, _, _ => by simp [ltY, tagY]
  | .tuple i, .int j, _, _ => by simp [ltY, tagY]
  | .tuple i, .str j, _, _ => by simp [ltY, tagY]
  | .tuple i, .tuple j, h1, h2 => by
    rw [ltY, ltY]
    rcases ltYs_tri i j h1 h2 with h | h | h
    · exact .inl h
    · exact .inr (.inl (by rw [h]))
    · exact .inr (.inr h)
theorem ltYs_tri : ∀ a b : List PyData, ordYs a = true → ordYs b = true → ltYs a b = true ∨ a = b ∨ ltYs b a = true
  | [], [], _, _ => .inr (.inl rfl)
  | [], _ :: _, _, _ => .inl rfl
  | _ :: _, [], _, _ => .inr (.inr rfl)
  | x :: xs, y :: ys, h1, h2 => by
    simp only [ordYs, Bool.and_eq_true] at h1 h2
    have e1 := eqv_iffY x y h1.1 h2.1
    have e2 := eqv_iffY y x h2.1 h1.1
    by_cases e : x = y
    · subst e
      rw [ltYs, ltYs, if_pos (e1.2 rfl), if_pos (e1.2 rfl)]
      rcases ltYs_tri xs ys h1.2 h2.2 with h | h | h
      · exact .inl h
      · exact .inr (.inl (by rw [h]))
      · exact .inr (.inr h)
    · rw [ltYs, ltYs, if_neg (fun z => e (e1.1 z)), if_neg (fun z => e (e2.1 z).symm)]
      rcases ltY_tri x y h1.1 h2.1 with h | h | h
      · exact .inl h
      · exact absurd h e
      · exact .inr (.inr h)
end
mutual
theorem ltY_tr : ∀ a b c : PyData, ordY a = true → ordY b = true → ordY c = true → ltY a b = true → ltY b c = true → ltY a c = true
  | .int i, .int j, .int k, _, _, _, h1, h2 => by simp only [ltY, decide_eq_true_iff] at *; omega
  | .int i, .int j, .str k, _, _, _, h1, h2 => by simp [ltY, tagY]
  | .int i, .int j, .tuple k, _, _, _, h1, h2 => by simp [ltY, tagY]
  | .int i, .str j, .int k, _, _, _, h1, h2 => by simp [ltY, tagY] at h2
  | .int i, .str j, .str k, _, _, _, h1, h2 => by simp [ltY, tagY]
  | .int i, .str j, .tuple k, _, _, _, h1, h2 => by simp [ltY, tagY]
  | .int i, .tuple j, .int k, _, _, _, h1, h2 => by simp [ltY, tagY] at h2
  | .int i, .tuple j, .str k, _, _, _, h1, h2 => by simp [ltY, tagY]
  | .int i, .tuple j, .tuple k, _, _, _, h1, h2 => by simp [ltY, tagY]
  | .str i, .int j, _, _, _, _, h1, h2 => by simp [ltY, tagY] at h1
  | .str i, .str j, .int k, _, _, _, h1, h2 => by simp [ltY, tagY] at h2
  | .str i, .str j, .str k, _, _, _, h1, h2 => by simp only [ltY, decide_eq_true_iff] at *; exact List.lt_trans h1 h2
  | .str i, .str j, .tuple k, _, _, _, h1, h2 => by simp [ltY, tagY]
  | .str i, .tuple j, .int k, _, _, _, h1, h2 => by simp [ltY, tagY] at h2
  | .str i, .tuple j, .str k, _, _, _, h1, h2 => by simp [ltY, tagY] at h2
  | .str i, .tuple j, .tuple k, _, _, _, h1, h2 => by simp [ltY, tagY]
  | .tuple i, .int j, _, _, _, _, h1, h2 => by simp [ltY, tagY] at h1
  | .tuple i, .str j, _, _, _, _, h1, h2 => by simp [ltY, tagY] at h1
  | .tuple i, .tuple j, .int k, _, _, _, h1, h2 => by simp [ltY, tagY] at h2
  | .tuple i, .tuple j, .str k, _, _, _, h1, h2 => by simp [ltY, tagY] at h2
  | .tuple i, .tuple j, .tuple k, o1, o2, o3, h1, h2 => by
    rw [ltY] at h1 h2 ⊢
    exact ltYs_tr i j k o1 o2 o3 h1 h2
theorem ltYs_tr : ∀ a b c : List PyData, ordYs a = true → ordYs b = true → ordYs c = true → ltYs a b = true → ltYs b c = true → ltYs a c = true
  | [], [], _, _, _, _, h, _ => by simp [ltYs] at h
  | [], _ :: _, [], _, _, _, _, h => by simp [ltYs] at h
  | [], _ :: _, _ :: _, _, _, _, _, _ => rfl
  | _ :: _, [], _, _, _, _, h, _ => by simp [ltYs] at h
  | _ :: _, _ :: _, [], _, _, _, _, h => by simp [ltYs] at h
  | x :: xs, y :: ys, z :: zs, o1, o2, o3, h1, h2 => by
    simp only [ordYs, Bool.and_eq_true] at o1 o2 o3
    have exy := eqv_iffY x y o1.1 o2.1
    have eyz := eqv_iffY y z o2.1 o3.1
    have exz := eqv_iffY x z o1.1 o3.1
    by_cases e : x = y
    · subst e
      rw [ltYs, if_pos (exy.2 rfl)] at h1
      by_cases e2 : x = z
      · subst e2
        rw [ltYs, if_pos (eyz.2 rfl)] at h2
        rw [ltYs, if_pos (exz.2 rfl)]
        exact ltYs_tr xs ys zs o1.2 o2.2 o3.2 h1 h2
      · rw [ltYs, if_neg (fun w => e2 (eyz.1 w))] at h2
        rw [ltYs, if_neg (fun w => e2 (exz.1 w))]
        exact h2
    · rw [ltYs, if_neg (fun w => e (exy.1 w))] at h1
      by_cases e2 : y = z
      · subst e2
        rw [ltYs, if_neg (fun w => e (exz.1 w))]
        exact h1
      · rw [ltYs, if_neg (fun w => e2 (eyz.1 w))] at h2
        have h3 := ltY_tr x y z o1.1 o2.1 o3.1 h1 h2
        have ne : x ≠ z := fun w => by
          subst w
          rw [ltY_irr x o1.1] at h3; cases h3
        rw [ltYs, if_neg (fun w => ne (exz.1 w))]
        exact h3
end
theorem ltY_asym {a b : PyData} (ha : ordY a = true) (hb : ordY b = true) (h : ltY a b = true) : ltY b a = false := by
  cases q : ltY b a with
  | false => rfl
  | true =>
    have := ltY_tr a b a ha hb ha h q
    rw [ltY_irr a ha] at this; cases this
theorem ltY_ntr {a b c : PyData} (ha : ordY a = true) (hb : ordY b = true) (hc : ordY c = true) (h1 : ltY b a = false) (h2 : ltY c b = false) : ltY c a = false := by
  rcases ltY_tri a b ha hb with h | h | h
  · rcases ltY_tri b c hb hc with k | k | k
    · exact ltY_asym ha hc (ltY_tr a b c ha hb hc h k)
    · subst k; exact ltY_asym ha hb h
    · rw [h2] at k; cases k
  · subst h; exact h2
  · rw [h1] at h; cases h
theorem ltY_anti {a b : PyData} (ha : ordY a = true) (hb : ordY b = true) (h1 : ltY a b = false) (h2 : ltY b a = false) : a = b := by
  rcases ltY_tri a b ha hb with h | h | h
  · rw [h1] at h; cases h
  · exact h
  · rw [h2] at h; cases h
/-! ### a < b asked -/
def LtAt (A : Around) (s : Shared) (x y : Value) (b : Bool) : Prop :=
  ∀ (prog : Program) (w : World) (E : Value → Shared → Prop) (Q : Value → Shared → Prop), Q (.bool b) s → wpAny (model prog w) A (richCompare .Lt x y) Q E s
inductive LtL (A : Around) (s : Shared) : List Value → List Value → Bool → Prop
  | nn : LtL A s [] [] false
  | nc {w : Value} {ws : List Value} : LtL A s [] (w :: ws) true
  | cn {v : Value} {vs : List Value} : LtL A s (v :: vs) [] false
  | eq {v w : Value} {vs ws : List Value} {b : Bool} : SeqAt.EqAt A s v w true → LtL A s vs ws b → LtL A s (v :: vs) (w :: ws) b
  | ne {v w : Value} {vs ws : List Value} {b : Bool} : SeqAt.EqAt A s v w false → LtAt A s v w b → LtL A s (v :: vs) (w :: ws) b
section
open PySem.SeqAt
open PySem.AutoSeq1 (wpAny_loadPart')
open PySem.MeetsSeq PySem.MeetsSeq2 PySem.MeetsSeq3
theorem tuple_ltD (l b : Addr) (items items2 : Array Value) (n n2 : Nat) (dd dd2 : Option Addr) (sl sl2 : Array (Option Value)) (r : Bool) :
    Meets (Builtin.«tuple.__lt__» ⟨[.ref l, .ref b], []⟩)
      (fun A R s => s.heap.get? l = some { cls := .type "tuple", dict := dd, data := .seq items n, slots := sl } ∧ s.heap.get? b = some { cls := .type "tuple", dict := dd2, data := .seq items2 n2, slots := sl2 } ∧
        LtL A.in1 s items.toList items2.toList r ∧ R (.ok (.ret (.bool r))) s) :=
  .of_wp fun prog w A R s h => by
    obtain ⟨hp, g, d, tk, os⟩ := s; obtain ⟨hl, hb, hL, h⟩ := h
    have f2 := AutoSeq1.sub_tuple_tuple
    wp_walk using wpAny_loadPart' hl, wpAny_loadPart' hb, wpAny_forIn_list _ (fun rest b s' => b.1 = none ∧ s' = ⟨hp, g, d, tk, os⟩ ∧ ∃ (vs ws : List Value), rest = vs.zip ws ∧
      LtL A.in1 ⟨hp, g, d, tk, os⟩ vs ws r ∧ vs.length + items2.size = ws.length + items.size) _
    case turn =>
      rintro ⟨y, x⟩ rest b s' ⟨hb', rfl, vs, ws, hz, hvi, hlen⟩
      cases hvi with
      | nn => rw [List.zip_nil_left] at hz; cases hz
      | nc => rw [List.zip_nil_left] at hz; cases hz
      | cn => rw [List.zip_nil_right] at hz; cases hz
      | eq he hL' =>
        rw [List.zip_cons_cons] at hz
        injection hz with hyx hrest
        injection hyx with hy hx
        subst hy hx
        simp only [List.length_cons] at hlen
        refine wpAny_bind (he prog w _ _ ?_)
        wp_walk
        exact ⟨rfl, rfl, _, _, hrest, hL', by omega⟩
      | ne he hri =>
        rw [List.zip_cons_cons] at hz
        injection hz with hyx hrest
        injection hyx with hy hx
        subst hy hx
        refine wpAny_bind (he prog w _ _ ?_)
        have hri := hri prog w
        wp_walk using hri
        exact ⟨_, rfl, by simpa using h⟩
    case fin =>
      rintro ⟨b1, b2⟩ s' ⟨hb', rfl, vs, ws, hz, hvi, hlen⟩
      simp only at hb'
      subst hb'
      have hv : r = decide (items.size < items2.size) := by
        cases hvi with
        | nn => simp only [List.length_nil] at hlen; exact (decide_eq_false (by omega)).symm
        | nc => simp only [List.length_nil, List.length_cons] at hlen; exact (decide_eq_true (by omega)).symm
        | cn => simp only [List.length_nil, List.length_cons] at hlen; exact (decide_eq_false (by omega)).symm
        | eq _ _ => rw [List.zip_cons_cons] at hz; cases hz
        | ne _ _ => rw [List.zip_cons_cons] at hz; cases hz
      rw [hv] at h
      wp_walk
      exact ⟨_, rfl, by simpa [Builtin.Tuple.tupleCompareSizes] using h⟩
    case h =>
      exact ⟨rfl, rfl, items.toList, items2.toList, rfl, hL, by simp; omega⟩
theorem ltAt_tup {A : Around} {s : Shared} {l b : Addr} {items items2 : Array Value} {r : Bool} (hl : IsTup s.heap l items) (hb : IsTup s.heap b items2) (h : LtL A.in1 s items.toList items2.toList r) (hu : A.units < cLine) : LtAt A s (.ref l) (.ref b) r := by
  intro prog w E Q q
  obtain ⟨⟨cls, dd, data, sl⟩, ho, hc, n, hd⟩ := id hl
  obtain ⟨⟨cls2, dd2, data2, sl2⟩, ho2, hc2, n2, hd2⟩ := id hb
  simp only at hc hd hc2 hd2
  subst hc hd hc2 hd2
  exact richCompare_meets_room (op := .Lt) ⟨_, ho, rfl⟩ ⟨_, ho2, rfl⟩ PySem.F.slot_tuple_lt PySem.F.entry_tuple_lt (PySem.F.args_tuple_lt_2 _ _) (tuple_ltD l b items items2 n n2 dd dd2 sl sl2 r)
    ⟨ho, ho2, h, show Value.bool r ≠ Value.notImplemented ∧ Q (.bool r) s from ⟨(fun x => nomatch x), q⟩⟩ hu
mutual
theorem ltAt_reads : ∀ (da db : PyData) (A : Around) (s : Shared) (a b : Value) (as bs : List Addr), Reads s.heap a da as → Reads s.heap b db bs → da.canLay0 = true → db.canLay0 = true →
    cmpY da db = true → A.units + min da.depth db.depth < cLine → LtAt A s a b (ltY da db)
  | .int i, db, A, s, _, _, _, _, ra, rb, _, _, hc, hu => by
    cases db <;> first | (simp [cmpY] at hc; done) | skip
    cases ra
    cases rb
    intro prog w E Q q
    exact (PyProof.Rows.lt_int q : wpAny (model prog w) A (compareOp .Lt _ _) Q E s)
  | .str i, db, A, s, _, _, _, _, ra, rb, _, _, hc, hu => by
    cases db <;> first | (simp [cmpY] at hc; done) | skip
    cases ra
    cases rb
    intro prog w E Q q
    exact (PyProof.Rows.lt_str q : wpAny (model prog w) A (compareOp .Lt _ _) Q E s)
  | .tuple xs, db, A, s, _, _, _, _, ra, rb, ha, hb, hc, hu => by
    cases db <;> first | (simp [cmpY] at hc; done) | skip
    rename_i ys
    cases ra with
    | tuple h1 h2 h3 h4 =>
      cases rb with
      | tuple k1 k2 k3 k4 =>
        rw [ltY]
        exact ltAt_tup ⟨_, h1, h2, _, h3⟩ ⟨_, k1, k2, _, k3⟩ (ltL_reads xs ys A.in1 s _ _ _ _ h4 k4 ha hb (by simpa [cmpY] using hc) (room_in hu)) (room_here hu)
  | .none, db, _, _, _, _, _, _, _, _, _, _, hc, _ => by simp [cmpY] at hc
  | .bool _, db, _, _, _, _, _, _, _, _, _, _, hc, _ => by simp [cmpY] at hc
  | .list _, db, _, _, _, _, _, _, _, _, _, _, hc, _ => by simp [cmpY] at hc
  | .dict _, db, _, _, _, _, _, _, _, _, _, _, hc, _ => by simp [cmpY] at hc
theorem ltL_reads : ∀ (xs ys : List PyData) (A : Around) (s : Shared) (vs ws : List Value) (as bs : List Addr), ReadsAll s.heap vs xs as → ReadsAll s.heap ws ys bs → PyData.canLayAll0 xs = true → PyData.canLayAll0 ys = true →
    cmpYs xs ys = true → A.units + min (PyData.depthAll xs) (PyData.depthAll ys) < cLine → LtL A s vs ws (ltYs xs ys)
  | [], [], _, _, _, _, _, _, r1, r2, _, _, _, _ => by cases r1; cases r2; exact .nn
  | [], _ :: _, _, _, _, _, _, _, r1, r2, _, _, _, _ => by cases r1; cases r2; exact .nc
  | _ :: _, [], _, _, _, _, _, _, r1, r2, _, _, _, _ => by cases r1; cases r2; exact .cn
  | x :: xs, y :: ys, A, s, _, _, _, _, r1, r2, ha, hb, hc, hu => by
    have ha' : x.canLay0 = true ∧ PyData.canLayAll0 xs = true := by simpa [PyData.canLayAll0] using ha
    have hb' : y.canLay0 = true ∧ PyData.canLayAll0 ys = true := by simpa [PyData.canLayAll0] using hb
    cases r1 with
    | cons r rs =>
      cases r2 with
      | cons r' rs' =>
        have he := eqAt_reads x y A s _ _ _ _ r r' ha'.1 hb'.1 (room_head hu)
        rw [ltYs]
        rw [cmpYs] at hc
        by_cases q : PyData.eqv x y = true
        · rw [if_pos q] at hc ⊢
          rw [q] at he
          exact .eq he (ltL_reads xs ys A s _ _ _ _ rs rs' ha'.2 hb'.2 hc (room_tail hu))
        · rw [if_neg q] at hc ⊢
          rw [Bool.not_eq_true] at q
          rw [q] at he
          exact .ne he (ltAt_reads x y A s _ _ _ _ r r' ha'.1 hb'.1 hc (room_head hu))
end
end
end Z

/-! sorted of tuples -/
namespace Z
open PySem PySem.Spec PyProof.Rows L2 PySem.W
section
variable {prog : Program} {w : World} {A : Around} {E : Value → Shared → Prop} {s : Shared} {M : Model}
/-- the first item of a tuple -/
def fst0 (h : Heap) : Value → Option Value
  | .ref a => (match h.get? a with
    | some o => (match o.data with
      | .seq xs _ => xs[0]?
      | _ => none)
    | none => none)
  | _ => none
def TupAt (h : Heap) (v : Value) : Prop := ∃ a o xs n, v = .ref a ∧ h.get? a = some o ∧ o.cls = .type "tuple" ∧ o.data = .seq xs n
theorem firsts_map : ∀ (vs : List Value) {Q : List (Option Value) → Shared → Prop}, (∀ v, v ∈ vs → TupAt s.heap v) → Q (vs.map (fst0 s.heap)) s → wpAny M A (vs.mapM firstOfTuple') Q E s
  | [], _, _, h => by rw [List.mapM_nil]; exact wpAny_pure h
  | v :: vs, Q, t, h => by
    obtain ⟨a, o, xs, n, rfl, ho, hc, hd⟩ := t v List.mem_cons_self
    rw [List.mapM_cons]
    refine wpAny_bind ?_
    rw [kas_first_eq]
    refine wpAny_bind (Looks.here (show Looks M s.heap (typeOf (.ref a)) o.cls from (Looks.ld ho).andThen .now) ?_)
    rw [hc, if_neg (by first | decide | simp)]
    refine wpAny_bind (listItems_at ho hd (wpAny_pure ?_))
    have e0 : fst0 s.heap (.ref a) = xs[0]? := by simp only [fst0, ho, hd]
    rw [← e0]
    exact wpAny_bind (firsts_map vs (Q := fun bs s' => wpAny M A (pure (fst0 s.heap (.ref a) :: bs)) Q E s') (fun v hv => t v (List.mem_cons_of_mem _ hv)) (wpAny_pure h))
theorem kind_tuples {vs : List Value} {T : Value} {Q : SortKind → Shared → Prop} (h2 : 0 < vs.length) (t : ∀ v, v ∈ vs → TupAt s.heap v) (hs : ∀ v, v ∈ vs → ∃ f, fst0 s.heap v = some f ∧ Looks M s.heap (typeOf f) T) (hT2 : (T == T) = true) (h : Q (tuples' (T != Value.type "tuple")) s) :
    wpAny M A (keyKind' vs.toArray) Q E s := by
  have ex : ∃ fs : List Value, vs.map (fst0 s.heap) = fs.map some ∧ (∀ v, v ∈ fs → Looks M s.heap (typeOf v) T) ∧ fs.length = vs.length := by
    clear h2 t h
    induction vs with
    | nil => exact ⟨[], rfl, (fun v hv => nomatch hv), rfl⟩
    | cons v vs ih =>
      obtain ⟨fs, e, k, l⟩ := ih fun u hu => hs u (List.mem_cons_of_mem _ hu)
      obtain ⟨f, ef, lf⟩ := hs v List.mem_cons_self
      refine ⟨f :: fs, by rw [List.map_cons, List.map_cons, e, ef], fun u hu => ?_, by simp [l]⟩
      rcases List.mem_cons.1 hu with rfl | hu
      · exact lf
      · exact k u hu
  obtain ⟨fs, e, hT, hl⟩ := ex
  obtain ⟨f₁, fr, rfl⟩ : ∃ f₁ fr, fs = f₁ :: fr := by
    match fs, hl, h2 with
    | f₁ :: fr, _, _ => exact ⟨f₁, fr, rfl⟩
    | [], hl, h2 => rw [← hl] at h2; cases h2
  rw [kat_kind_eq, List.mapM_toArray, map_eq_pure_bind]
  refine wpAny_bind (wpAny_bind (firsts_map vs t (wpAny_pure ?_)))
  rw [e]
  have hall : (((f₁ :: fr).map some).toArray.all fun x => x.isSome) = true := by simp
  rw [if_pos hall]
  refine wpAny_bind (wpAny_rule ?_)
  have hfm : (((f₁ :: fr).map some).toArray.filterMap id) = (f₁ :: fr).toArray := by simp
  rw [hfm, oneTypeOnly'_eq, List.mapM_toArray, map_eq_pure_bind]
  refine wpAny_bind (wpAny_bind (wpAny_bind (kas_mapM (r := T) _ (fun v hv Q' hq => (hT v hv).here hq) (wpAny_pure ?_))))
  have hall2 : ((List.map (fun _ => T) (f₁ :: fr)).toArray.all fun x => x == T) = true := by
    simp only [List.all_toArray, List.all_map, List.all_eq_true]
    intro _ _
    exact hT2
  have h0 : (List.map (fun _ => T) (f₁ :: fr)).toArray[0]? = some T := by simp
  rw [h0]
  simp only [hall2, if_true]
  exact wpAny_pure (wpAny_pure h)
/-! ### the questions answered -/
theorem one_false {x y : Value} {r : Bool} {Q : Bool → Shared → Prop} (h : LtAt A s x y r) (q : Q r s) : wpAny (model prog w) A (oneLt' false x y) Q E s :=
  kat_one x y (h prog w E _ q)
theorem one_true_tup {l b : Addr} {items items2 : Array Value} {r : Bool} {Q : Bool → Shared → Prop} (hl : IsTup s.heap l items) (hb : IsTup s.heap b items2) (h : LtL A.in1 s items.toList items2.toList r) (hu : A.units < cLine) (q : Q r s) :
    wpAny (model prog w) A (oneLt' true (.ref l) (.ref b)) Q E s := by
  obtain ⟨⟨cls, dd, data, sl⟩, ho, hc, n, hd⟩ := id hl
  obtain ⟨⟨cls2, dd2, data2, sl2⟩, ho2, hc2, n2, hd2⟩ := id hb
  simp only at hc hd hc2 hd2
  subst hc hd hc2 hd2
  rw [oneLt'_eq]
  simp only [if_true]
  refine wpAny_bind (wpAny_cRoomFor hu ?_)
  refine wpAny_bind (wpAny_callSpecialIfBound?_slot ⟨_, ho, rfl⟩ PySem.F.slot_tuple_lt (call_meets PySem.F.slot_tuple_lt ⟨_, ho, rfl⟩ PySem.F.entry_tuple_lt (PySem.F.args_tuple_lt_2 _ _) (tuple_ltD l b items items2 n n2 dd dd2 sl sl2 r) ⟨ho, ho2, h, ?_⟩))
  exact wpAny_truthy_bool q
theorem katlex_tail {b : Bool} {Q : Bool → Shared → Prop} : ∀ {vs ws : List Value} {r : Bool} {i : Nat}, LtL A s vs ws r → Q r s → KatLex prog w A b (decide (vs.length < ws.length)) Q (vs.zip ws) (i + 1) s
  | _, _, _, _, .nn, q => kat_nil q
  | _, _, _, _, .nc, q => by
    rw [List.zip_nil_left]
    refine kat_nil ?_
    rw [decide_eq_true (by simp)]; exact q
  | _, _, _, _, .cn, q => by
    rw [List.zip_nil_right]
    refine kat_nil ?_
    rw [decide_eq_false (by simp)]; exact q
  | v :: vs, u :: ws, r, i, .eq he hL, q => by
    rw [List.zip_cons_cons]
    refine kat_cons (he prog w _ _ (kat_yes ?_))
    have e : decide ((v :: vs).length < (u :: ws).length) = decide (vs.length < ws.length) := by simp
    rw [e]
    exact katlex_tail hL q
  | _ :: vs, _ :: ws, r, i, .ne he hr, q => by
    rw [List.zip_cons_cons]
    refine kat_cons (he prog w _ _ (kat_no ?_))
    have e : (b && (i + 1 == 0)) = false := by simp
    rw [e]
    exact one_false hr q
theorem katlex_data {b : Bool} {Q : Bool → Shared → Prop} {vs ws : List Value} {xs ys : List PyData} {as bs : List Addr} (ra : ReadsAll s.heap vs xs as) (rb : ReadsAll s.heap ws ys bs) (ha : PyData.canLayAll0 xs = true) (hb : PyData.canLayAll0 ys = true) (hc : cmpYs xs ys = true)
    (hu : A.units + min (PyData.depthAll xs) (PyData.depthAll ys) < cLine) (q : Q (ltYs xs ys) s) (hf : b = true → ∀ x r y q, xs = x :: r → ys = y :: q → (∃ i j, x = .int i ∧ y = .int j) ∨ ∃ i j, x = .str i ∧ y = .str j) :
    KatLex prog w A b (decide (vs.length < ws.length)) Q (vs.zip ws) 0 s := by
  cases ra with
  | nil =>
    cases rb with
    | nil => exact kat_nil q
    | cons _ _ => rw [List.zip_nil_left]; refine kat_nil ?_; rw [decide_eq_true (by simp)]; exact q
  | @cons v vs x xs _ _ r rs =>
    cases rb with
    | nil => rw [List.zip_nil_right]; refine kat_nil ?_; rw [decide_eq_false (by simp)]; exact q
    | @cons w' ws y ys _ _ r' rs' =>
      have ha' : x.canLay0 = true ∧ PyData.canLayAll0 xs = true := by simpa [PyData.canLayAll0] using ha
      have hb' : y.canLay0 = true ∧ PyData.canLayAll0 ys = true := by simpa [PyData.canLayAll0] using hb
      have he := SeqAt.eqAt_reads x y A s _ _ _ _ r r' ha'.1 hb'.1 (SeqAt.room_head hu)
      rw [ltYs] at q
      rw [cmpYs] at hc
      rw [List.zip_cons_cons]
      by_cases z : PyData.eqv x y = true
      · rw [if_pos z] at hc q
        rw [z] at he
        refine kat_cons (he prog w _ _ (kat_yes ?_))
        have e : decide ((v :: vs).length < (w' :: ws).length) = decide (vs.length < ws.length) := by simp
        rw [e]
        exact katlex_tail (ltL_reads xs ys A s _ _ _ _ rs rs' ha'.2 hb'.2 hc (SeqAt.room_tail hu)) q
      · rw [if_neg z] at hc q
        rw [Bool.not_eq_true] at z
        rw [z] at he
        refine kat_cons (he prog w _ _ (kat_no ?_))
        cases b with
        | false => exact one_false (ltAt_reads x y A s _ _ _ _ r r' ha'.1 hb'.1 hc (SeqAt.room_head hu)) q
        | true =>
          rcases hf rfl x xs y ys rfl rfl with ⟨i, j, rfl, rfl⟩ | ⟨i, j, rfl, rfl⟩
          · cases r; cases r'
            exact oneLt_int (by rw [ltY] at q; exact q)
          · cases r; cases r'
            exact oneLt_str (by rw [ltY] at q; exact q)
end
/-! ### what is asked of the data -/
def headY : PyData → Option PyData
  | .tuple (x :: _) => some x
  | _ => none
def isTupY : PyData → Bool
  | .tuple _ => true
  | _ => false
def tyY (n : Nat) : Value := if n = 2 then .type "int" else if n = 3 then .type "str" else .type "tuple"
theorem tyY_eq (n : Nat) : (tyY n == tyY n) = true := by
  unfold tyY
  split
  · rfl
  · split <;> rfl
structure SrtOk (ds : List PyData) : Prop where
  tup : ∀ d, d ∈ ds → isTupY d = true
  ord : ∀ d, d ∈ ds → ordY d = true
  can : ∀ d, d ∈ ds → d.canLay0 = true
  dep : ∀ d, d ∈ ds → d.depth ≤ 64
  cmp : ∀ d e, d ∈ ds → e ∈ ds → cmpY d e = true
/-- how many stand before it -/
def rkY (ds : List PyData) (d : PyData) : Nat := ds.countP fun z => ltY z d
theorem rkY_lt {ds : List PyData} (ho : ∀ d, d ∈ ds → ordY d = true) {x y : PyData} (hx : x ∈ ds) (hy : y ∈ ds) : ltY x y = decide (rkY ds x < rkY ds y) := by
  have ox := ho x hx
  have oy := ho y hy
  cases h : ltY x y with
  | true =>
    refine (decide_eq_true ?_).symm
    have le : ∀ (l : List PyData), (∀ d, d ∈ l → ordY d = true) → rkY l x ≤ rkY l y := fun l hl => List.countP_mono_left fun z hz q => ltY_tr z x y (hl z hz) ox oy q h
    obtain ⟨s, t, rfl⟩ := List.append_of_mem hx
    have h1 := le s fun d hd => ho d (by simp [hd])
    have h2 := le t fun d hd => ho d (by simp [hd])
    unfold rkY at *
    rw [List.countP_append, List.countP_append, List.countP_cons, List.countP_cons]
    simp only [h, ltY_irr x ox, if_true, Bool.false_eq_true, if_false]
    omega
  | false =>
    refine (decide_eq_false ?_).symm
    have : rkY ds y ≤ rkY ds x := List.countP_mono_left fun z hz q => by
      cases k : ltY z x with
      | true => rfl
      | false =>
        have := ltY_ntr oy ox (ho z hz) h k
        rw [q] at this; cases this
    omega
section
variable {X : Cx} {s : Shared}
theorem vals_ref {h : Heap} {v : Value} {xs : List PyData} {as : List Addr} (r : Reads h v (.tuple xs) as) : ∃ a o vs n, v = .ref a ∧ h.get? a = some o ∧ o.cls = .type "tuple" ∧ o.data = .seq vs n ∧ ∃ as, ReadsAll h vs.toList xs as := by
  cases r with
  | tuple h1 h2 h3 h4 => exact ⟨_, _, _, _, rfl, h1, h2, h3, _, h4⟩
theorem sortable_data {prog : Program} {w : World} {A : Around} {s : Shared} {vs : List Value} {ds : List PyData} {dec : Value → PyData} (S : SrtOk ds) (hd : ∀ v, v ∈ vs → dec v ∈ ds ∧ ∃ as, Reads s.heap v (dec v) as) (h2 : 2 ≤ vs.length) (hu : A.units + 66 < cLine) :
    ∃ κ, (∀ (Q : SortKind → Shared → Prop) (E : Value → Shared → Prop), Q κ s → wpAny (model prog w) A (keyKind' vs.toArray) Q E s) ∧ SrtO.Cmp prog w A s κ (fun p => p.1 ∈ vs) (SrtO.lt2 fun v u => decide (rkY ds (dec v) < rkY ds (dec u))) := by
  have hT : ∀ v, v ∈ vs → ∃ a o xs n ys, v = .ref a ∧ s.heap.get? a = some o ∧ o.cls = .type "tuple" ∧ o.data = .seq xs n ∧ dec v = .tuple ys ∧ ∃ as, ReadsAll s.heap xs.toList ys as := fun v hv => by
    obtain ⟨hm, as, r⟩ := hd v hv
    have ht := S.tup _ hm
    cases e : dec v with
    | tuple ys =>
      rw [e] at r
      obtain ⟨a, o, xs, n, e1, e2, e3, e4, e5⟩ := vals_ref r
      exact ⟨a, o, xs, n, ys, e1, e2, e3, e4, rfl, e5⟩
    | _ => rw [e] at ht; cases ht
  have tup : ∀ v, v ∈ vs → TupAt s.heap v := fun v hv => by
    obtain ⟨a, o, xs, n, ys, e1, e2, e3, e4, _⟩ := hT v hv
    exact ⟨a, o, xs, n, e1, e2, e3, e4⟩
  -- the answer to a question between two keys
  have ans : ∀ v u, v ∈ vs → u ∈ vs → ∃ a b xs ys m n xs' ys', v = .ref a ∧ u = .ref b ∧ (∃ o, s.heap.get? a = some o ∧ o.cls = .type "tuple" ∧ o.data = .seq xs m) ∧ (∃ o, s.heap.get? b = some o ∧ o.cls = .type "tuple" ∧ o.data = .seq ys n) ∧ dec v = .tuple xs' ∧ dec u = .tuple ys' ∧ (∃ as, ReadsAll s.heap xs.toList xs' as) ∧ (∃ as, ReadsAll s.heap ys.toList ys' as) ∧
      (∀ A' : Around, A'.units ≤ A.units + 1 → LtL A' s xs.toList ys.toList (decide (rkY ds (dec v) < rkY ds (dec u)))) := fun v u hv hu' => by
    obtain ⟨a, o, xs, m, xs', e1, e2, e3, e4, e5, as, ra⟩ := hT v hv
    obtain ⟨b, o', ys, n, ys', k1, k2, k3, k4, k5, bs, rb⟩ := hT u hu'
    refine ⟨a, b, xs, ys, m, n, xs', ys', e1, k1, ⟨o, e2, e3, e4⟩, ⟨o', k2, k3, k4⟩, e5, k5, ⟨as, ra⟩, ⟨bs, rb⟩, fun A' hA => ?_⟩
    rw [← rkY_lt S.ord (hd v hv).1 (hd u hu').1, e5, k5, ltY]
    have c := S.cmp _ _ (hd v hv).1 (hd u hu').1
    have l1 := S.can _ (hd v hv).1
    have l2 := S.can _ (hd u hu').1
    have p1 := S.dep _ (hd v hv).1
    rw [e5] at c l1 p1
    rw [k5] at c l2
    refine ltL_reads xs' ys' A' s _ _ _ _ ra rb l1 l2 (by simpa [cmpY] using c) ?_
    have : PyData.depthAll xs' + 1 ≤ 64 := p1
    omega
  by_cases hall : ((vs.map (fst0 s.heap)).all fun x => x.isSome) = true
  · -- none is empty
    have hne : ∀ v, v ∈ vs → ∃ f x r as, fst0 s.heap v = some f ∧ dec v = .tuple (x :: r) ∧ Reads s.heap f x as := fun v hv => by
      obtain ⟨a, o, xs, n, ys, rfl, e2, e3, e4, e5, as, ra⟩ := hT v hv
      have h1 := List.all_eq_true.1 hall _ (List.mem_map.2 ⟨_, hv, rfl⟩)
      have e0 : fst0 s.heap (.ref a) = xs[0]? := by simp only [fst0, e2, e4]
      rw [e0] at h1 ⊢
      obtain ⟨l⟩ := xs
      cases l with
      | nil => simp at h1
      | cons f l =>
        cases ra with
        | cons r rs => exact ⟨f, _, _, _, by simp, e5, r⟩
    obtain ⟨v₀, vr, ev⟩ : ∃ v₀ vr, vs = v₀ :: vr := by
      match vs, h2 with
      | v₀ :: vr, _ => exact ⟨v₀, vr, rfl⟩
    have hv₀ : v₀ ∈ vs := by rw [ev]; exact List.mem_cons_self
    obtain ⟨f₀, x₀, r₀, as₀, ef₀, ed₀, rd₀⟩ := hne v₀ hv₀
    have okind : ∀ v, v ∈ vs → ∀ x r, dec v = .tuple (x :: r) → (∃ i, x = .int i) ∨ (∃ i, x = .str i) ∨ ∃ i, x = .tuple i := fun v hv x r e => by
      have := S.ord _ (hd v hv).1
      rw [e] at this
      simp only [ordY, ordYs, Bool.and_eq_true] at this
      cases x <;> first | exact .inl ⟨_, rfl⟩ | exact .inr (.inl ⟨_, rfl⟩) | exact .inr (.inr ⟨_, rfl⟩) | (exfalso; simp [ordY] at this)
    have same : ∀ v u, v ∈ vs → u ∈ vs → ∀ x r y q, dec v = .tuple (x :: r) → dec u = .tuple (y :: q) → tagY x = tagY y := fun v u hv hu' x r y q e1 e2 => by
      have c := S.cmp _ _ (hd v hv).1 (hd u hu').1
      have o1 := S.ord _ (hd v hv).1
      have o2 := S.ord _ (hd u hu').1
      rw [e1] at c o1
      rw [e2] at c o2
      simp only [ordY, ordYs, Bool.and_eq_true] at o1 o2
      simp only [cmpY, cmpYs] at c
      by_cases z : PyData.eqv x y = true
      · rw [(eqv_iffY x y o1.1 o2.1).1 z]
      · rw [if_neg z] at c
        cases x <;> cases y <;> first | rfl | (simp [cmpY] at c)
    let T : Value := tyY (tagY x₀)
    have looks : ∀ v, v ∈ vs → ∃ f, fst0 s.heap v = some f ∧ Looks (model prog w) s.heap (typeOf f) T := fun v hv => by
      obtain ⟨f, x, r, as, ef, ed, rd⟩ := hne v hv
      refine ⟨f, ef, ?_⟩
      have st : tagY x = tagY x₀ := same v v₀ hv hv₀ x r x₀ r₀ ed ed₀
      rcases okind v hv x r ed with ⟨i, rfl⟩ | ⟨i, rfl⟩ | ⟨i, rfl⟩
      · have : T = .type "int" := by show tyY (tagY x₀) = _; rw [← st]; rfl
        rw [this]
        cases rd
        exact Looks.now
      · have : T = .type "str" := by show tyY (tagY x₀) = _; rw [← st]; rfl
        rw [this]
        cases rd
        exact Looks.now
      · have : T = .type "tuple" := by show tyY (tagY x₀) = _; rw [← st]; rfl
        rw [this]
        cases rd with
        | @tuple a o _ _ _ _ h1 hc h3 h4 =>
          have : Looks (model prog w) s.heap (typeOf (.ref a)) o.cls := (Looks.ld h1).andThen .now
          rw [hc] at this
          exact this
    refine ⟨tuples' (T != Value.type "tuple"), fun Q E q => kind_tuples (by omega) tup looks ?_ q, fun p q hp hq => ?_⟩
    · exact tyY_eq _
    · obtain ⟨a, b, xs, ys, m, n, xs', ys', e1, e2, ⟨o1, h1, c1, d1⟩, ⟨o2, h2', c2, d2⟩, k1, k2, ⟨as, ra⟩, ⟨bs, rb⟩, L⟩ := ans p.1 q.1 hp hq
      show wpAny (model prog w) A (keyLt' _ p.1 q.1) _ _ s
      rw [e1, e2]
      have c := S.cmp _ _ (hd _ hp).1 (hd _ hq).1
      have l1 := S.can _ (hd _ hp).1
      have l2 := S.can _ (hd _ hq).1
      have p1 := S.dep _ (hd _ hp).1
      rw [k1] at c l1 p1
      rw [k2] at c l2
      refine kat_lt h1 d1 h2' d2 ?_
      have e0 : decide (xs.size < ys.size) = decide (xs.toList.length < ys.toList.length) := by simp
      rw [e0]
      have p1' : PyData.depthAll xs' + 1 ≤ 64 := p1
      refine katlex_data ra rb l1 l2 (by simpa [cmpY] using c) (by omega) ⟨rfl, ?_⟩ fun hb x r y q' z1 z2 => ?_
      · show ltYs xs' ys' = decide (rkY ds (dec p.1) < rkY ds (dec q.1))
        rw [← rkY_lt S.ord (hd _ hp).1 (hd _ hq).1, k1, k2, ltY]
      · rw [z1] at k1
        rw [z2] at k2
        have st : tagY x = tagY x₀ := same p.1 v₀ hp hv₀ x _ x₀ r₀ k1 ed₀
        have st2 : tagY y = tagY x₀ := same q.1 v₀ hq hv₀ y _ x₀ r₀ k2 ed₀
        rcases okind p.1 hp x _ k1 with ⟨i, rfl⟩ | ⟨i, rfl⟩ | ⟨i, rfl⟩
        · rcases okind q.1 hq y _ k2 with ⟨j, rfl⟩ | ⟨j, rfl⟩ | ⟨j, rfl⟩
          · exact .inl ⟨i, j, rfl, rfl⟩
          · rw [← st2] at st; cases st
          · rw [← st2] at st; cases st
        · rcases okind q.1 hq y _ k2 with ⟨j, rfl⟩ | ⟨j, rfl⟩ | ⟨j, rfl⟩
          · rw [← st2] at st; cases st
          · exact .inr ⟨i, j, rfl, rfl⟩
          · rw [← st2] at st; cases st
        · exfalso
          have : T = .type "tuple" := by show tyY (tagY x₀) = _; rw [← st]; rfl
          rw [this] at hb
          exact absurd hb (by decide)
  · rw [Bool.not_eq_true] at hall
    -- one is empty: either kind answers alike
    have c1 : SrtO.Cmp prog w A s general' (fun p => p.1 ∈ vs) (SrtO.lt2 fun v u => decide (rkY ds (dec v) < rkY ds (dec u))) := fun p q hp hq => by
      obtain ⟨a, b, xs, ys, m, n, xs', ys', e1, e2, ⟨o1, h1, c1, d1⟩, ⟨o2, h2', c2, d2⟩, k1, k2, _, _, L⟩ := ans p.1 q.1 hp hq
      show wpAny (model prog w) A (oneLt' false p.1 q.1) _ _ s
      rw [e1, e2]
      exact one_false (ltAt_tup ⟨o1, h1, c1, m, d1⟩ ⟨o2, h2', c2, n, d2⟩ (L A.in1 (Nat.le_refl _)) (by omega)) ⟨rfl, rfl⟩
    have c2 : SrtO.Cmp prog w A s oneType' (fun p => p.1 ∈ vs) (SrtO.lt2 fun v u => decide (rkY ds (dec v) < rkY ds (dec u))) := fun p q hp hq => by
      obtain ⟨a, b, xs, ys, m, n, xs', ys', e1, e2, ⟨o1, h1, c1, d1⟩, ⟨o2, h2', c2, d2⟩, k1, k2, _, _, L⟩ := ans p.1 q.1 hp hq
      show wpAny (model prog w) A (oneLt' true p.1 q.1) _ _ s
      rw [e1, e2]
      exact one_true_tup ⟨o1, h1, c1, m, d1⟩ ⟨o2, h2', c2, n, d2⟩ (L A.in1 (Nat.le_refl _)) (by omega) ⟨rfl, rfl⟩
    by_cases hf : (((vs.map (fst0 s.heap)).toArray[0]?).bind id).isSome = true
    · refine ⟨general', fun Q E q => ?_, c1⟩
      rw [kat_kind_eq, List.mapM_toArray, map_eq_pure_bind]
      refine wpAny_bind (wpAny_bind (firsts_map vs tup (wpAny_pure ?_)))
      have hall' : ((vs.map (fst0 s.heap)).toArray.all fun x => x.isSome) = false := by rw [List.all_toArray]; exact hall
      rw [if_neg (by rw [hall']; decide), if_pos hf]
      exact wpAny_pure q
    · refine ⟨oneType', fun Q E q => ?_, c2⟩
      rw [kat_kind_eq, List.mapM_toArray, map_eq_pure_bind]
      refine wpAny_bind (wpAny_bind (firsts_map vs tup (wpAny_pure ?_)))
      have hall' : ((vs.map (fst0 s.heap)).toArray.all fun x => x.isSome) = false := by rw [List.all_toArray]; exact hall
      rw [if_neg (by rw [hall']; decide), if_neg hf]
      rw [oneTypeOnly'_eq, List.mapM_toArray, map_eq_pure_bind]
      refine wpAny_bind (wpAny_bind (wpAny_bind (kas_mapM (r := Value.type "tuple") _ (fun v hv Q' hq => ?_) (wpAny_pure ?_))))
      · obtain ⟨a, o, xs, n, rfl, ho, hc, hd⟩ := tup v hv
        have : Looks (model prog w) s.heap (typeOf (.ref a)) o.cls := (Looks.ld ho).andThen .now
        rw [hc] at this
        exact this.here hq
      · obtain ⟨v₁, vr, rfl⟩ : ∃ v₁ vr, vs = v₁ :: vr := by
          match vs, h2 with
          | v₁ :: vr, _ => exact ⟨v₁, vr, rfl⟩
        have hall2 : ((List.map (fun _ => Value.type "tuple") (v₁ :: vr)).toArray.all fun x => x == Value.type "tuple") = true := by
          simp only [List.all_toArray, List.all_map, List.all_eq_true]
          intro _ _
          rfl
        have h0 : (List.map (fun _ => Value.type "tuple") (v₁ :: vr)).toArray[0]? = some (Value.type "tuple") := by simp
        rw [h0]
        simp only [hall2, if_true]
        exact wpAny_pure (wpAny_pure q)
end
end Z

namespace Z
open PySem PySem.Spec PyProof.Rows L2

/-! ### dicts by parallel lists -/
section
variable {α β : Type} {κ : Type} [DecidableEq κ]
def dlook (ks : List κ) (xs : List α) (k : κ) : Option α := match ks, xs with
  | k' :: ks, x :: xs => if k' = k then some x else dlook ks xs k
  | _, _ => none
def dset (ks : List κ) (xs : List α) (k : κ) (x : α) : List α := match ks, xs with
  | k' :: ks, y :: ys => (if k' = k then x else y) :: dset ks ys k x
  | _, _ => []
def dput (ks : List κ) (xs : List α) (k : κ) (x : α) : List κ × List α := if k ∈ ks then (ks, dset ks xs k x) else (ks ++ [k], xs ++ [x])
theorem valV_look : ∀ (ks : List κ) (vs : List V) (k : κ), valV (ks.zip vs) k = dlook ks vs k
  | [], _, _ => by simp [valV, dlook]
  | _ :: _, [], _ => by simp [valV, dlook]
  | k' :: ks, v :: vs, k => by
    have ih := valV_look ks vs k
    show valV ((k', v) :: ks.zip vs) k = _
    unfold dlook
    by_cases h : k' = k
    · rw [if_pos h, valV_pos (p := (k', v)) h]
    · rw [if_neg h, valV_neg (p := (k', v)) h, ih]
theorem any_mem : ∀ (ks : List κ) (vs : List V) (k : κ), ks.length = vs.length → ((ks.zip vs).any fun kv => decide (kv.1 = k)) = decide (k ∈ ks)
  | [], [], _, _ => by simp
  | k' :: ks, v :: vs, k, h => by
    have ih := any_mem ks vs k (by simpa using h)
    show (decide (k' = k) || (ks.zip vs).any _) = _
    rw [ih]
    by_cases e : k' = k
    · subst e; simp
    · have e' : ¬ k = k' := fun z => e z.symm
      simp [e, e']
theorem map_set : ∀ (ks : List κ) (vs : List V) (k : κ) (v : V), ks.length = vs.length → (ks.zip vs).map (fun kv => if kv.1 = k then (kv.1, v) else kv) = ks.zip (dset ks vs k v)
  | [], [], _, _, _ => rfl
  | k' :: ks, u :: vs, k, v, h => by
    have ih := map_set ks vs k v (by simpa using h)
    show (if k' = k then (k', v) else (k', u)) :: (ks.zip vs).map _ = _
    rw [ih]
    show _ = (k' :: ks).zip ((if k' = k then v else u) :: dset ks vs k v)
    by_cases e : k' = k
    · rw [if_pos e, if_pos e, List.zip_cons_cons]
    · rw [if_neg e, if_neg e, List.zip_cons_cons]
theorem dset_length : ∀ (ks : List κ) (vs : List α) (k : κ) (v : α), ks.length = vs.length → (dset ks vs k v).length = vs.length
  | [], [], _, _, _ => rfl
  | k' :: ks, u :: vs, k, v, h => by
    show (dset ks vs k v).length + 1 = vs.length + 1
    rw [dset_length ks vs k v (by simpa using h)]
theorem putK_dput (ks : List κ) (vs : List V) (k : κ) (v : V) (h : ks.length = vs.length) : putK (ks.zip vs) k v = (dput ks vs k v).1.zip (dput ks vs k v).2 ∧ (dput ks vs k v).1.length = (dput ks vs k v).2.length := by
  unfold putK dput
  rw [any_mem ks vs k h]
  by_cases e : k ∈ ks
  · rw [if_pos (decide_eq_true e), if_pos e]
    exact ⟨map_set ks vs k v h, by rw [dset_length ks vs k v h]; exact h⟩
  · rw [if_neg (by simpa using e), if_neg e]
    refine ⟨?_, by simp [h]⟩
    rw [List.zip_append h]
    rfl
end
section
variable {g : Gm} {X : Cx} {W : WX} {L : Addr → Prop} {H : Hp} {a b c : Expr} {pos p : Pos} {σ : L2.St}
theorem look_rep {κ : Type} [DecidableEq κ] : ∀ {ks : List κ} {ds : List D} {vs : List V} (k : κ), Reps g L H ds vs → (∀ d, dlook ks ds k = some d → ∃ v, dlook ks vs k = some v ∧ Rep g L H d v) ∧ (dlook ks ds k = none → dlook ks vs k = none)
  | [], _, _, k, _ => ⟨fun d h => by simp [dlook] at h, fun _ => by simp [dlook]⟩
  | _ :: _, _, _, k, .nil => ⟨fun d h => by simp [dlook] at h, fun _ => by simp [dlook]⟩
  | k' :: ks, _, _, k, .cons r rs => by
    obtain ⟨i1, i2⟩ := look_rep (ks := ks) k rs
    unfold dlook
    by_cases e : k' = k
    · rw [if_pos e, if_pos e]
      exact ⟨fun d h => by cases h; exact ⟨_, rfl, r⟩, fun h => by cases h⟩
    · rw [if_neg e, if_neg e]
      exact ⟨i1, i2⟩
theorem Reps.dset {κ : Type} [DecidableEq κ] {k : κ} {d : D} {v : V} (h : Rep g L H d v) : ∀ {ks : List κ} {ds : List D} {vs : List V}, Reps g L H ds vs → Reps g L H (Z.dset ks ds k d) (Z.dset ks vs k v)
  | [], _, _, _ => by unfold Z.dset; exact .nil
  | _ :: _, _, _, .nil => by unfold Z.dset; exact .nil
  | k' :: ks, _, _, .cons r rs => by
    unfold Z.dset
    by_cases e : k' = k
    · rw [if_pos e, if_pos e]; exact .cons h (Reps.dset h rs)
    · rw [if_neg e, if_neg e]; exact .cons r (Reps.dset h rs)
theorem Reps.dput {κ : Type} [DecidableEq κ] {k : κ} {ks : List κ} {d : D} {v : V} {ds : List D} {vs : List V} (h : Rep g L H d v) (rs : Reps g L H ds vs) : Reps g L H (Z.dput ks ds k d).2 (Z.dput ks vs k v).2 ∧ (Z.dput ks ds k d).1 = (Z.dput ks vs k v).1 := by
  unfold Z.dput
  by_cases e : k ∈ ks
  · rw [if_pos e, if_pos e]; exact ⟨rs.dset h, rfl⟩
  · rw [if_neg e, if_neg e]; exact ⟨rs.app (.one h), rfl⟩
/-- data as a key -/
def toKey : D → Option Key
  | .int i => some (.inl i)
  | .str s => some (.inr s)
  | _ => none
theorem toKey_v {d : D} {k : Key} {v : V} (c : Cur g L H d v) (e : toKey d = some k) : v = kV k := by
  cases d with
  | int i => cases e; rw [c.int]; rfl
  | str s => cases e; rw [c.str.1]; rfl
  | _ => cases e
/-! ### {} -/
def mDnew : M Hd := fun A => .ok (.f (.dct [] [])) A
theorem je_dnew : JE g X W (.Dict [] [] pos) mDnew := by
  refine pe_imp pe_dnewK fun σ H Q ⟨L, A, G, w⟩ => fun p hp => ?_
  obtain ⟨S2, G2⟩ := G.same (same_new (o := .dK []) hp)
  exact w L _ S2 G2 _ (rel_hd (r := .f (.dct [] [])) G (fun a n => n) ⟨p, rfl, hp, [], upd_same, rfl, .nil⟩)
/-! ### d[k], k in d -/
def dgetS (d k : D) : Option RD := match d, toKey k with
  | .dct ks ds, some k => (dlook ks ds k).map .v
  | _, _ => none
def dinS (k d : D) : Option RD := match d, toKey k with
  | .dct ks ds, some k => some (.v (.bl (dlook ks ds k).isSome))
  | _, _ => none
def dninS (k d : D) : Option RD := match d, toKey k with
  | .dct ks ds, some k => some (.v (.bl (!(dlook ks ds k).isSome)))
  | _, _ => none
theorem je_dget {md mk : M Hd} (hu : X.A.units + 1 < cLine) (hd : JE g X W a md) (hk : JE g X W b mk) (hs : NoSl b := by exact fun _ _ => rfl) : JE g X W (.Subscript a b pos) (mBin dgetS md mk) := by
  refine pe_imp (pe_dget hu hd hk hs) fun σ H Q h => ?_
  obtain ⟨L, A, G, w⟩ := bin_ok h
  refine ⟨L, A, G, w.mono fun h1 A1 L1 H1 S1 G1 w1 v1 r1 => ?_⟩
  obtain ⟨L2', A2, G2, w2⟩ := w1 v1 r1
  refine ⟨L2', A2, G2, w2.mono fun h2 A3 L3 H3 S3 G3 w3 v2 r2 => ?_⟩
  obtain ⟨L4, d1, d2, r, c1, c2, e, k⟩ := w3 v2 r2
  unfold dgetS at e
  split at e
  · rename_i ks ds kk hk2
    obtain ⟨d, e1, rfl⟩ := map_some e
    obtain ⟨ad, vs, rfl, ha, hl, ra⟩ := c1.dct
    obtain ⟨v, hv, rv⟩ := (look_rep kk ra).1 d e1
    refine ⟨ad, v, rfl, ?_, k _ H3 (Same.refl H3) rv⟩
    rw [toKey_v c2 hk2, ← hv, ← valV_look]
    exact DGet.k ha
  · cases e
theorem din_core {H3 : Hp} {v1 v2 : V} {Q : VK} {s : D → D → Option RD} {f : Bool → Bool} (hs : ∀ k d r, s k d = some r → ∃ ks ds kk, d = .dct ks ds ∧ toKey k = some kk ∧ r = .v (.bl (f (dlook ks ds kk).isSome))) (h : rD2 g s v1 v2 H3 Q) :
    ∃ a o, v2 = .ref a ∧ DGet H3 a v1 o ∧ Q (.bl (f o.isSome)) H3 := by
  obtain ⟨L4, d1, d2, r, c1, c2, e, k⟩ := h
  obtain ⟨ks, ds, kk, rfl, hk, rfl⟩ := hs _ _ _ e
  obtain ⟨ad, vs, rfl, ha, hl, ra⟩ := c2.dct
  refine ⟨ad, dlook ks vs kk, rfl, ?_, ?_⟩
  · rw [toKey_v c1 hk, ← valV_look]; exact DGet.k ha
  · have e2 : (dlook ks vs kk).isSome = (dlook ks ds kk).isSome := by
      cases q : dlook ks ds kk with
      | none => rw [(look_rep kk ra).2 q]; rfl
      | some d => obtain ⟨v, hv, _⟩ := (look_rep kk ra).1 d q; rw [hv]; rfl
    rw [e2]
    exact k _ H3 (Same.refl H3) (.bl _)
theorem dinS_inv (k d : D) (r : RD) (e : dinS k d = some r) : ∃ ks ds kk, d = .dct ks ds ∧ toKey k = some kk ∧ r = .v (.bl (id (dlook ks ds kk).isSome)) := by
  unfold dinS at e
  split at e
  · cases e; exact ⟨_, _, _, rfl, by assumption, rfl⟩
  · cases e
theorem dninS_inv (k d : D) (r : RD) (e : dninS k d = some r) : ∃ ks ds kk, d = .dct ks ds ∧ toKey k = some kk ∧ r = .v (.bl (!(dlook ks ds kk).isSome)) := by
  unfold dninS at e
  split at e
  · cases e; exact ⟨_, _, _, rfl, by assumption, rfl⟩
  · cases e
theorem din_ok {s : D → D → Option RD} {mk md : M Hd} {H : Hp} {Q : VK} {P : V → V → Hp → Prop} (hp : ∀ v1 v2 H3, rD2 g s v1 v2 H3 Q → P v1 v2 H3) (h : TEm g W (mBin s mk md) σ H Q) : TEm g W mk σ H fun x H1 => TEm g W md σ H1 fun y H2 => P x y H2 := by
  obtain ⟨L, A, G, w⟩ := bin_ok h
  refine ⟨L, A, G, w.mono fun h1 A1 L1 H1 S1 G1 w1 v1 r1 => ?_⟩
  obtain ⟨L2', A2, G2, w2⟩ := w1 v1 r1
  exact ⟨L2', A2, G2, w2.mono fun h2 A3 L3 H3 S3 G3 w3 v2 r2 => hp v1 v2 H3 (w3 v2 r2)⟩
theorem je_din {mk md : M Hd} (hu : X.A.units + 1 < cLine) (hk : JE g X W a mk) (hd : JE g X W b md) (h1 : behindInMarks .In b = false := by rfl) : JE g X W (.Compare a [.In] [b] pos) (mBin dinS mk md) :=
  pe_imp (pe_cmp (pc_din hu hk hd) h1) fun σ H Q h => din_ok (fun v1 v2 H3 q => din_core dinS_inv q) h
theorem je_dnin {mk md : M Hd} (hu : X.A.units + 1 < cLine) (hk : JE g X W a mk) (hd : JE g X W b md) (h1 : behindInMarks .NotIn b = false := by rfl) : JE g X W (.Compare a [.NotIn] [b] pos) (mBin dninS mk md) :=
  pe_imp (pe_cmp (pc_dnotin hu hk hd) h1) fun σ H Q h => din_ok (fun v1 v2 H3 q => din_core dninS_inv q) h
theorem jt_din {mk md : M Hd} (hu : X.A.units + 1 < cLine) (hk : JE g X W a mk) (hd : JE g X W b md) (h1 : behindInMarks .In b = false := by rfl) : JT g X W (.Compare a [.In] [b] pos) (mB (mBin dinS mk md)) :=
  pt_imp (pt_cmp (pc_din hu hk hd) h1) fun σ H Q h => din_ok (fun v1 v2 H3 q => din_core dinS_inv q) (mB_ok h)
theorem jt_dnin {mk md : M Hd} (hu : X.A.units + 1 < cLine) (hk : JE g X W a mk) (hd : JE g X W b md) (h1 : behindInMarks .NotIn b = false := by rfl) : JT g X W (.Compare a [.NotIn] [b] pos) (mB (mBin dninS mk md)) :=
  pt_imp (pt_cmp (pc_dnotin hu hk hd) h1) fun σ H Q h => din_ok (fun v1 v2 H3 q => din_core dninS_inv q) (mB_ok h)
/-! ### a slot's own thing is exchanged -/
theorem Okf.reown {fl : Bool} {A : Fr} {i : Nat} {ad : Addr} {d₀ o : D} {ob : HO} (G : Okf g L A σ H) (q : A[i]? = some (.ow fl d₀)) (ea : σ[i]? = some (some (.ref ad))) (hn : OwnC g L (upd H ad ob) o ad) :
    Stp L A σ H L (A.set i (.ow fl o)) σ (upd H ad ob) ∧ Okf g L (A.set i (.ow fl o)) σ (upd H ad ob) := by
  obtain ⟨b, eb, nl, c⟩ := G.slot i _ q
  rw [ea] at eb
  cases eb
  have na : ∀ b, L b → b ≠ ad := fun b l z => nl (by rw [← z]; exact l)
  exact G.calledI (L' := L) (H' := upd H ad ob) (o := o) q ea ⟨fun _ h => h, fun _ h => .inl h, fun b o q n => by rw [upd_ne n]; exact q, fun b o q => by
    by_cases z : b = ad
    · rw [z, upd_same]; exact ⟨_, rfl⟩
    · rw [upd_ne z]; exact ⟨o, q⟩, fun b l => by
    obtain ⟨o, q⟩ := G.dom b l
    exact ⟨o, by rw [upd_ne (na b l)]; exact q⟩⟩ nl hn
theorem Reps.reown {fl : Bool} {A : Fr} {i : Nat} {ad : Addr} {d₀ : D} {ob : HO} {ds : List D} {vs : List V} (G : Okf g L A σ H) (q : A[i]? = some (.ow fl d₀)) (ea : σ[i]? = some (some (.ref ad))) (r : Reps g L H ds vs) : Reps g L (upd H ad ob) ds vs := by
  obtain ⟨b, eb, nl, c⟩ := G.slot i _ q
  rw [ea] at eb
  cases eb
  obtain ⟨o, ho, nt⟩ := c.here
  exact r.mono (fun _ h => h) (fun b zs q => by rw [upd_ne fun z => nt zs (by rw [z, ho] at q; cases q; rfl)]; exact q) fun b o l q => by rw [upd_ne fun z => nl (by rw [← z]; exact l)]; exact q
/-! ### d[k] = v of an owned dict -/
def sDput (i : Nat) (mk mv : M Hd) : MS := fun A => oS (mvM mv A) fun v A1 => if isOwn i A1 = true then oS (mk A1) fun h A2 => (match pk h A2, A2[i]? with
  | some kd, some (.ow fl (.dct ks ds)) => (match toKey kd with
    | some k => if ks.length < sizeLine then .nx (A2.set i (.ow fl (.dct (dput ks ds k v).1 (dput ks ds k v).2))) else .stuck
    | none => .stuck)
  | _, _ => .stuck) else .stuck
theorem isOwn_at {A : Fr} {i : Nat} (G : Okf g L A σ H) (h : isOwn i A = true) : ∃ ad, σ[i]? = some (some (.ref ad)) := by
  unfold isOwn at h
  split at h
  · rename_i d q
    obtain ⟨a, ea, _⟩ := G.slot i _ q
    exact ⟨a, ea⟩
  · cases h
theorem js_dput (i : Nat) {x : Str} {e k : Expr} {mk mv : M Hd} {pos' p : Pos} (hu : X.A.units + 1 < cLine) (hk : JE g X W k mk) (hv : JE g X W e mv) (hN : X.N[i]? = some x := by rfl) (hvs : Vis X.env.scope x := by first | exact Or.inl rfl | exact Or.inr (Or.inl rfl) | exact Or.inr (Or.inr rfl)) (hd : (x == ("__debug__" : Str)) = false := by decide)
    (hcd : (x == ("__classdict__" : Str)) = false := by decide) (hs : swapsWith e (some (.Subscript (.Name x p) k pos')) pos.line X.env = pure false := by rfl) :
    JS g X W (.Assign [.Subscript (.Name x p) k pos'] e pos) (sDput i mk mv) := by
  refine ps_imp (ps_dput hu (pe_var hN hvs hd hcd) hk (jd hv) hs) fun En σ H ⟨L, A, G, w⟩ => ⟨L, A, G, w.bind.mono fun d A1 L1 H1 S1 G1 w1 v r => ?_⟩
  split at w1
  · rename_i ho
    obtain ⟨ad, ea⟩ := isOwn_at G1 ho
    refine ⟨_, ea, L1, A1, G1, w1.bind.mono fun h2 A2 L_2 H2 S2 G2 w2 vk rk => ?_⟩
    cases e1 : pk h2 A2 with
    | none => simp only [e1] at w2; exact w2.elim
    | some kd =>
      simp only [e1] at w2
      split at w2
      · rename_i _ _ _ ks ds he1 q
        cases he1
        split at w2
        · rename_i kk hkk
          split at w2
          · rename_i hlen
            obtain ⟨b, eb, nl, vs, hv', hl, ra⟩ := G2.slot i _ q
            have eb' := eb
            rw [ea] at eb'
            cases eb'
            have r2 := r.step G1 S2
            obtain ⟨p1, p2⟩ := putK_dput ks vs kk v hl
            obtain ⟨q1, q2⟩ := Reps.dput (k := kk) (ks := ks) r2 ra
            obtain ⟨S3, G3⟩ := G2.reown (o := .dct (dput ks ds kk d).1 (dput ks ds kk d).2) (ob := .dK (putK (ks.zip vs) kk v)) q ea ⟨(dput ks vs kk v).2, by rw [upd_same, p1, q2], by rw [q2]; exact p2, q1.reown G2 q ea⟩
            refine ⟨ad, _, rfl, .inl ⟨_, kk, hv', toKey_v (pk_ok G2 rk e1) hkk, ?_, rfl⟩, w2 L_2 σ _ S3 G3⟩
            rw [List.length_zip, ← hl, Nat.min_self]; exact hlen
          · exact w2.elim
        · exact w2.elim
      · exact w2.elim
  · exact w1.elim
/-! ### xs[i] = v of an owned list -/
def sLput (i : Nat) (mk mv : M Hd) : MS := fun A => oS (mvM mv A) fun v A1 => if isOwn i A1 = true then oS (mk A1) fun h A2 => (match pk h A2, A2[i]? with
  | some (.int k), some (.ow fl (.lst ds)) => (match ixN ds.length k with
    | some j => .nx (A2.set i (.ow fl (.lst (ds.set j v))))
    | none => .stuck)
  | _, _ => .stuck) else .stuck
theorem js_lput (i : Nat) {x : Str} {e k : Expr} {mk mv : M Hd} {pos' p : Pos} (hk : JE g X W k mk) (hv : JE g X W e mv) (hN : X.N[i]? = some x := by rfl) (hvs : Vis X.env.scope x := by first | exact Or.inl rfl | exact Or.inr (Or.inl rfl) | exact Or.inr (Or.inr rfl)) (hd : (x == ("__debug__" : Str)) = false := by decide)
    (hcd : (x == ("__classdict__" : Str)) = false := by decide) (hs : swapsWithSole [.Subscript (.Name x p) k pos'] e pos.line X.env = pure false := by rfl) (hw : swappedStores [.Subscript (.Name x p) k pos'] e X.env = pure none := by rfl)
    (h1 : (assignEach [.Subscript (.Name x p) k pos'] X.env).map (·.2) = [assign (.Subscript (.Name x p) k pos') X.env] := by rfl) (hsb : ∀ v : Value, assign (.Subscript (.Name x p) k pos') X.env v = assign (.Subscript (.Name x p) k pos') X.env v := by intro _; rfl)
    (hg : PG X (.Subscript (.Name x p) k pos') (gSub (tVar i) (TEm g W mk) rSetL)) :
    JS g X W (.Assign [.Subscript (.Name x p) k pos'] e pos) (sLput i mk mv) := by
  refine ps_imp (ps_asg (jd hv) hg hs hw h1) fun En σ H ⟨L, A, G, w⟩ => ⟨L, A, G, w.bind.mono fun d A1 L1 H1 S1 G1 w1 v r => ?_⟩
  split at w1
  · rename_i ho
    obtain ⟨ad, ea⟩ := isOwn_at G1 ho
    refine ⟨_, ea, L1, A1, G1, w1.bind.mono fun h2 A2 L_2 H2 S2 G2 w2 vk rk => ?_⟩
    split at w2
    · rename_i _ _ kk fl ds he1 q
      split at w2
      · rename_i j hj
        obtain ⟨b, eb, nl, vs, hv', ra⟩ := G2.slot i _ q
        have eb' := eb
        rw [ea] at eb'
        cases eb'
        have r2 := r.step G1 S2
        obtain ⟨S3, G3⟩ := G2.reown (o := .lst (ds.set j d)) (ob := .lst (vs.set j v)) q ea ⟨_, upd_same, (ra.set j r2).reown G2 q ea⟩
        exact ⟨ad, vs, kk, j, rfl, (pk_ok G2 rk he1).int, hv', by rw [← ra.len]; exact hj, w2 L_2 σ _ S3 G3⟩
      · exact w2.elim
    · exact w2.elim
  · exact w1.elim
/-! ### d.setdefault(k, v) of an owned dict -/
def isOwnD (i : Nat) (A : Fr) : Bool := match A[i]? with
  | some (.ow _ (.dct _ _)) => true
  | _ => false
def mSetd (i : Nat) (mk mv : M Hd) : M Hd := fun A => if isOwnD i A = true then (mk A).bind fun h A1 => (mvM mv A1).bind fun v A2 => (match pk h A2, A2[i]? with
  | some kd, some (.ow fl (.dct ks ds)) => (match toKey kd with
    | some k => if ks.length < sizeLine then (match dlook ks ds k with
        | some d => .ok (.d d) A2
        | none => .ok (.d v) (A2.set i (.ow fl (.dct (dput ks ds k v).1 (dput ks ds k v).2)))) else .stuck
    | none => .stuck)
  | _, _ => .stuck) else .stuck
theorem je_setd (i : Nat) {x : Str} {e f : Expr} {mk mv : M Hd} {apos cpos : Pos} (hk : JE g X W e mk) (hv : JE g X W f mv) (m : M2 X (.Name x p) "setdefault" apos e f cpos) (hN : X.N[i]? = some x := by rfl) (hvs : Vis X.env.scope x := by first | exact Or.inl rfl | exact Or.inr (Or.inl rfl) | exact Or.inr (Or.inr rfl))
    (hd : (x == ("__debug__" : Str)) = false := by decide) (hcd : (x == ("__classdict__" : Str)) = false := by decide) : JE g X W (.Call (.Attribute (.Name x p) "setdefault" apos) [e, f] [] cpos) (mSetd i mk mv) := by
  refine pe_imp (pe_dsetd (pe_var hN hvs hd hcd) hk (jd hv) m) fun σ H Q ⟨L, A, G, w⟩ => ?_
  unfold mSetd at w
  split at w
  · rename_i ho
    unfold isOwnD at ho
    split at ho
    · rename_i ks0 ds0 q0
      obtain ⟨ad, ea, _, vs0, hv0, _, _⟩ := G.slot i _ q0
      refine ⟨_, ea, ad, rfl, .inl ⟨_, .inl hv0⟩, L, A, G, w.bind.mono fun h1 A1 L1 H1 S1 G1 w1 v1 r1 => ⟨L1, A1, G1, w1.bind.mono fun v A2 L_2 H2 S2 G2 w2 v2 r2 => ?_⟩⟩
      cases e1 : pk h1 A2 with
      | none => simp only [e1] at w2; exact w2.elim
      | some kd =>
        simp only [e1] at w2
        split at w2
        · rename_i _ _ _ ks ds he1 q
          cases he1
          split at w2
          · rename_i kk hkk
            split at w2
            · rename_i hlen
              obtain ⟨b, eb, nl, vs, hv', hl, ra⟩ := G2.slot i _ q
              rw [ea] at eb
              cases eb
              refine ⟨_, kk, hv', toKey_v (pk_ok G2 (r1.step G1 S2) e1) hkk, by rw [List.length_zip, ← hl, Nat.min_self]; exact hlen, fun u hu => ?_, fun hn => ?_⟩
              · rw [valV_look] at hu
                cases ed : dlook ks ds kk with
                | none => rw [(look_rep kk ra).2 ed] at hu; cases hu
                | some d =>
                  simp only [ed] at w2
                  obtain ⟨u', hu', ru⟩ := (look_rep kk ra).1 d ed
                  rw [hu] at hu'
                  cases hu'
                  exact w2 L_2 H2 Stp.refl G2 _ ru
              · rw [valV_look] at hn
                cases ed : dlook ks ds kk with
                | some d => obtain ⟨u', hu', ru⟩ := (look_rep kk ra).1 d ed; rw [hn] at hu'; cases hu'
                | none =>
                  simp only [ed] at w2
                  obtain ⟨p1, p2⟩ := putK_dput ks vs kk v2 hl
                  obtain ⟨q1, q2⟩ := Reps.dput (k := kk) (ks := ks) r2 ra
                  obtain ⟨S3, G3⟩ := G2.reown (o := .dct (dput ks ds kk v).1 (dput ks ds kk v).2) (ob := .dK (putK (ks.zip vs) kk v2)) q ea ⟨(dput ks vs kk v2).2, by rw [upd_same, p1, q2], by rw [q2]; exact p2, q1.reown G2 q ea⟩
                  exact w2 L_2 _ S3 G3 _ (r2.step G2 S3)
            · exact w2.elim
          · exact w2.elim
        · exact w2.elim
    · cases ho
  · exact w.elim
/-! ### order on data; sorted -/
def D.lt (a b : D) : Bool := ltY a.py b.py
def insD (x : D) : List D → List D
  | [] => [x]
  | y :: ys => if D.lt y x = true then y :: insD x ys else x :: y :: ys
def sortD : List D → List D
  | [] => []
  | x :: xs => insD x (sortD xs)
theorem insD_perm (x : D) : ∀ ys : List D, (insD x ys).Perm (x :: ys)
  | [] => .refl _
  | y :: ys => by
    unfold insD
    split
    · exact ((insD_perm x ys).cons y).trans (.swap x y ys)
    · exact .refl _
theorem sortD_perm : ∀ xs : List D, (sortD xs).Perm xs
  | [] => .refl _
  | x :: xs => (insD_perm x (sortD xs)).trans ((sortD_perm xs).cons x)
/-- a total order on the things of a list -/
structure TotOn (S : D → Prop) : Prop where
  asym : ∀ x y, S x → S y → D.lt x y = true → D.lt y x = false
  tr : ∀ x y z, S x → S y → S z → D.lt y x = false → D.lt z y = false → D.lt z x = false
  anti : ∀ x y, S x → S y → D.lt x y = false → D.lt y x = false → x = y
def leD (x y : D) : Prop := D.lt y x = false
theorem insD_sorted {S : D → Prop} (T : TotOn S) {x : D} (hx : S x) : ∀ {ys : List D}, (∀ y ∈ ys, S y) → ys.Pairwise leD → (insD x ys).Pairwise leD
  | [], _, _ => List.pairwise_singleton _ _
  | y :: ys, hs, hp => by
    unfold insD
    have hp' := List.pairwise_cons.mp hp
    have sy := hs y List.mem_cons_self
    split
    · rename_i h
      refine List.pairwise_cons.mpr ⟨fun z hz => ?_, insD_sorted T hx (fun z hz => hs z (List.mem_cons_of_mem _ hz)) hp'.2⟩
      rcases List.mem_cons.mp ((insD_perm x ys).mem_iff.mp hz) with rfl | hz
      · exact T.asym _ _ sy hx h
      · exact hp'.1 z hz
    · rename_i h
      have h' : D.lt y x = false := by simpa using h
      refine List.pairwise_cons.mpr ⟨fun z hz => ?_, hp⟩
      rcases List.mem_cons.mp hz with rfl | hz
      · exact h'
      · exact T.tr x y z hx sy (hs z (List.mem_cons_of_mem _ hz)) h' (hp'.1 z hz)
theorem sortD_sorted {S : D → Prop} (T : TotOn S) : ∀ {xs : List D}, (∀ x ∈ xs, S x) → (sortD xs).Pairwise leD
  | [], _ => .nil
  | x :: xs, hs => insD_sorted T (hs x List.mem_cons_self) (fun y hy => hs y (List.mem_cons_of_mem _ ((sortD_perm xs).mem_iff.mp hy))) (sortD_sorted T fun y hy => hs y (List.mem_cons_of_mem _ hy))
/-- there is just one such list -/
theorem sortD_uniq {S : D → Prop} (T : TotOn S) {xs ys : List D} (hs : ∀ x ∈ xs, S x) (hp : ys.Perm xs) (hy : ys.Pairwise leD) : ys = sortD xs := by
  have hp2 : ys.Perm (sortD xs) := hp.trans (sortD_perm xs).symm
  refine List.Perm.eq_of_pairwise (le := leD) (fun x y hx hy' h1 h2 => ?_) hy (sortD_sorted T hs) hp2
  exact T.anti x y (hs x (hp.mem_iff.mp hx)) (hs y ((sortD_perm xs).mem_iff.mp hy')) h2 h1
def isStr : D → Prop
  | .str _ => True
  | _ => False
def isInt : D → Prop
  | .int _ => True
  | _ => False
theorem str_ext {x y : Str} (h : x.cps.toList = y.cps.toList) : x = y := by
  obtain ⟨⟨a⟩⟩ := x
  obtain ⟨⟨b⟩⟩ := y
  cases h
  rfl
theorem tot_str : TotOn isStr where
  asym := fun x y hx hy h => by
    cases x <;> cases y <;> first | exact hx.elim | exact hy.elim | skip
    rename_i x y
    have h : decide (x.cps.toList < y.cps.toList) = true := h
    show decide (y.cps.toList < x.cps.toList) = false
    rw [decide_eq_true_iff] at h
    exact decide_eq_false (List.lt_asymm h)
  tr := fun x y z hx hy hz h1 h2 => by
    cases x <;> cases y <;> cases z <;> first | exact hx.elim | exact hy.elim | exact hz.elim | skip
    rename_i x y z
    have h1 : decide (y.cps.toList < x.cps.toList) = false := h1
    have h2 : decide (z.cps.toList < y.cps.toList) = false := h2
    show decide (z.cps.toList < x.cps.toList) = false
    rw [decide_eq_false_iff_not] at h1 h2 ⊢
    rw [List.not_lt] at h1 h2 ⊢
    exact List.le_trans h1 h2
  anti := fun x y hx hy h1 h2 => by
    cases x <;> cases y <;> first | exact hx.elim | exact hy.elim | skip
    rename_i x y
    have h1 : decide (x.cps.toList < y.cps.toList) = false := h1
    have h2 : decide (y.cps.toList < x.cps.toList) = false := h2
    rw [decide_eq_false_iff_not, List.not_lt] at h1 h2
    rw [str_ext (List.le_antisymm h2 h1)]
theorem tot_int : TotOn isInt where
  asym := fun x y hx hy h => by
    cases x <;> cases y <;> first | exact hx.elim | exact hy.elim | skip
    rename_i x y
    have h : decide (x < y) = true := h
    show decide (y < x) = false
    rw [decide_eq_true_iff] at h
    exact decide_eq_false (by omega)
  tr := fun x y z hx hy hz h1 h2 => by
    cases x <;> cases y <;> cases z <;> first | exact hx.elim | exact hy.elim | exact hz.elim | skip
    rename_i x y z
    have h1 : decide (y < x) = false := h1
    have h2 : decide (z < y) = false := h2
    show decide (z < x) = false
    rw [decide_eq_false_iff_not] at h1 h2 ⊢
    omega
  anti := fun x y hx hy h1 h2 => by
    cases x <;> cases y <;> first | exact hx.elim | exact hy.elim | skip
    rename_i x y
    have h1 : decide (x < y) = false := h1
    have h2 : decide (y < x) = false := h2
    rw [decide_eq_false_iff_not] at h1 h2
    have : x = y := by omega
    rw [this]
theorem strsD_eq : ∀ {ds : List D} {xs : List Str}, strsD ds = some xs → ds = xs.map .str
  | [], xs, e => by cases e; rfl
  | .str x :: ds, xs, e => by obtain ⟨y, e1, rfl⟩ := map_some e; rw [strsD_eq e1]; rfl
  | .non :: _, _, e => by cases e
  | .bl _ :: _, _, e => by cases e
  | .int _ :: _, _, e => by cases e
  | .tup _ :: _, _, e => by cases e
  | .lst _ :: _, _, e => by cases e
  | .dct _ _ :: _, _, e => by cases e
  | .dcT _ _ :: _, _, e => by cases e
  | .fn _ :: _, _, e => by cases e
  | .scr _ :: _, _, e => by cases e
theorem intsD_eq : ∀ {ds : List D} {xs : List Int}, intsD ds = some xs → ds = xs.map .int
  | [], xs, e => by cases e; rfl
  | .int x :: ds, xs, e => by obtain ⟨y, e1, rfl⟩ := map_some e; rw [intsD_eq e1]; rfl
  | .non :: _, _, e => by cases e
  | .bl _ :: _, _, e => by cases e
  | .str _ :: _, _, e => by cases e
  | .tup _ :: _, _, e => by cases e
  | .lst _ :: _, _, e => by cases e
  | .dct _ _ :: _, _, e => by cases e
  | .dcT _ _ :: _, _, e => by cases e
  | .fn _ :: _, _, e => by cases e
  | .scr _ :: _, _, e => by cases e
theorem risingS_pw : ∀ {x : Str} {r : List Str}, risingS x r = true → ((x :: r).map D.str).Pairwise leD
  | x, [], _ => List.pairwise_singleton _ _
  | x, y :: r, h => by
    unfold risingS at h
    rw [Bool.and_eq_true] at h
    have ih := risingS_pw h.2
    have h1 : D.lt (.str y) (.str x) = false := by
      have h2 : (!decide (y.cps.toList < x.cps.toList)) = true := by rw [← PyProof.Rows.ltCps_eq]; exact h.1
      show decide (y.cps.toList < x.cps.toList) = false
      rw [Bool.not_eq_true'] at h2
      exact h2
    refine List.pairwise_cons.mpr ⟨fun z hz => ?_, ih⟩
    have hz2 : z ∈ ((y :: r).map D.str) := hz
    rcases List.mem_cons.mp hz2 with rfl | hz3
    · exact h1
    · have sz : isStr z := by obtain ⟨w, _, rfl⟩ := List.mem_map.mp hz3; trivial
      exact tot_str.tr (.str x) (.str y) z trivial trivial sz h1 ((List.pairwise_cons.mp ih).1 z hz3)
def tupOk1 (d : D) : Bool := isTupY d.py && (ordY d.py && (d.lay && decide (d.dep ≤ 64)))
def tupsOk (xs : List D) : Bool := xs.all tupOk1 && xs.all fun d => xs.all fun e => cmpY d.py e.py
mutual
theorem py_inj : ∀ a b : D, ordY a.py = true → a.py = b.py → a = b
  | .int i, b, _, e => by cases b <;> simp [D.py] at e ⊢ <;> exact e
  | .str i, b, _, e => by cases b <;> simp [D.py] at e ⊢ <;> exact e
  | .tup xs, b, h, e => by
    cases b <;> simp [D.py] at e ⊢
    exact pys_inj xs _ h e
  | .non, b, h, e => by simp [D.py, ordY] at h
  | .bl _, b, h, e => by simp [D.py, ordY] at h
  | .lst _, b, h, e => by simp [D.py, ordY] at h
  | .dct _ _, b, h, e => by simp [D.py, ordY] at h
  | .dcT _ _, b, h, e => by simp [D.py, ordY] at h
  | .fn _, b, h, e => by simp [D.py, ordY] at h
  | .scr _, b, h, e => by simp [D.py, ordY] at h
theorem pys_inj : ∀ a b : List D, ordYs (D.pys a) = true → D.pys a = D.pys b → a = b
  | [], [], _, _ => rfl
  | [], _ :: _, _, e => by simp [D.pys] at e
  | _ :: _, [], _, e => by simp [D.pys] at e
  | x :: xs, y :: ys, h, e => by
    simp only [D.pys, ordYs, Bool.and_eq_true, List.cons.injEq] at h e
    rw [py_inj x y h.1 e.1, pys_inj xs ys h.2 e.2]
end
theorem tot_ord : TotOn fun d => ordY d.py = true where
  asym := fun x y hx hy h => ltY_asym hx hy h
  tr := fun x y z hx hy hz h1 h2 => ltY_ntr hx hy hz h1 h2
  anti := fun x y hx hy h1 h2 => py_inj x y hx (ltY_anti hx hy h1 h2)
theorem Reps.perm {ys vs : List V} (p : ys.Perm vs) : ∀ {ds : List D}, Reps g L H ds vs → ∃ es, es.Perm ds ∧ Reps g L H es ys := by
  induction p with
  | nil => intro ds r; cases r; exact ⟨[], .refl _, .nil⟩
  | cons x _ ih =>
    intro ds r
    cases r with
    | cons h r =>
      obtain ⟨es, p, q⟩ := ih r
      exact ⟨_ :: es, p.cons _, .cons h q⟩
  | swap x y l =>
    intro ds r
    cases r with
    | cons h r =>
      cases r with
      | cons h2 r => exact ⟨_, .swap _ _ _, .cons h2 (.cons h r)⟩
  | trans _ _ ih1 ih2 =>
    intro ds r
    obtain ⟨es, p, q⟩ := ih2 r
    obtain ⟨fs, p2, q2⟩ := ih1 q
    exact ⟨fs, p2.trans p, q2⟩
theorem pys_map : ∀ ds : List D, D.pys ds = ds.map D.py
  | [] => rfl
  | d :: ds => by rw [D.pys, pys_map ds]; rfl
/-- the data's list, sorted -/
theorem sorted_tups {zs : List D} {vs : List V} {a : Addr} {pins : List (Addr × Obj)} {s : Shared} {Q : VK} {σ : L2.St} (hK : g.K = X.K) (hu : X.A.units + 191 < cLine) (I : L2.Inv X pins σ H s) (ha : H a = some (.lst vs)) (ra : Reps g L H zs vs) (ok : tupsOk zs = true)
    (k : ∀ p ys, H p = none → Reps g L H (sortD zs) ys → Q (.ref p) (upd H p (.lst ys))) : wpAny (model X.prog X.w) X.A (PySem.call (Value.builtin "sorted") [Value.ref a]) (EP X pins σ Q) X.xe s := by
  obtain ⟨its, rv, hl, hz⟩ := I.list (SqL.of ha)
  unfold tupsOk at ok
  rw [Bool.and_eq_true, List.all_eq_true, List.all_eq_true] at ok
  obtain ⟨o1, o2⟩ := ok
  have o1 : ∀ d, d ∈ zs → isTupY d.py = true ∧ ordY d.py = true ∧ d.lay = true ∧ d.dep ≤ 64 := fun d hd => by
    have := o1 d hd
    simp only [tupOk1, Bool.and_eq_true, decide_eq_true_iff] at this
    exact this
  have rd : ∀ d v u, Rep g L H d v → RelV v u → d.lay = true → (∃ as, Reads s.heap u d.py as) ∧ d.py.canLay0 = true := fun d v u r q l => by
    obtain ⟨p1, p2⟩ := r.dp hK l
    exact ⟨Dp.reads I _ v u p1 q, p2⟩
  -- each value by its data
  have each : ∀ {ds : List D} {ws : List V} {us : List Value}, Reps g L H ds ws → Vals ws us → (∀ d, d ∈ ds → d.lay = true) → (∀ u, u ∈ us → ∃ d, d ∈ ds ∧ ∃ as, Reads s.heap u d.py as) ∧ (∀ d, d ∈ ds → d.py.canLay0 = true) := fun {ds} => by
    induction ds with
    | nil => intro ws us r v _; cases r; cases v; exact ⟨fun u hu => (nomatch hu), fun d hd => (nomatch hd)⟩
    | cons d ds ih =>
      intro ws us r v hl
      cases r with
      | cons h r =>
        cases v with
        | cons q v =>
          obtain ⟨i1, i2⟩ := ih r v fun e he => hl e (List.mem_cons_of_mem _ he)
          obtain ⟨h1, h2⟩ := rd d _ _ h q (hl d List.mem_cons_self)
          refine ⟨fun u hu => ?_, fun e he => ?_⟩
          · rcases List.mem_cons.1 hu with rfl | hu
            · exact ⟨d, List.mem_cons_self, h1⟩
            · obtain ⟨e, he, q⟩ := i1 u hu; exact ⟨e, List.mem_cons_of_mem _ he, q⟩
          · rcases List.mem_cons.1 he with rfl | he
            · exact h2
            · exact i2 e he
  obtain ⟨e1, e2⟩ := each ra rv fun d hd => (o1 d hd).2.2.1
  have S : SrtOk (zs.map D.py) := ⟨fun d hd => by obtain ⟨z, hz, rfl⟩ := List.mem_map.1 hd; exact (o1 z hz).1, fun d hd => by obtain ⟨z, hz, rfl⟩ := List.mem_map.1 hd; exact (o1 z hz).2.1,
    fun d hd => by obtain ⟨z, hz, rfl⟩ := List.mem_map.1 hd; exact e2 z hz, fun d hd => by obtain ⟨z, hz, rfl⟩ := List.mem_map.1 hd; exact (o1 z hz).2.2.2,
    fun d e hd he => by obtain ⟨z, hz, rfl⟩ := List.mem_map.1 hd; obtain ⟨y, hy, rfl⟩ := List.mem_map.1 he; exact List.all_eq_true.1 (o2 z hz) y hy⟩
  have cho : ∀ u, ∃ d : PyData, u ∈ its → d ∈ zs.map D.py ∧ ∃ as, Reads s.heap u d as := fun u => by
    by_cases hm : u ∈ its
    · obtain ⟨d, hd, q⟩ := e1 u hm; exact ⟨d.py, fun _ => ⟨List.mem_map.2 ⟨d, hd, rfl⟩, q⟩⟩
    · exact ⟨.none, fun z => absurd z hm⟩
  obtain ⟨dec, hdec⟩ := Classical.axiomOfChoice cho
  have swo : SrtO.Swo fun v u : Value => decide (rkY (zs.map D.py) (dec v) < rkY (zs.map D.py) (dec u)) := ⟨fun x y h => by
    rw [decide_eq_true_iff] at h
    exact decide_eq_false (by omega), fun x y z h1 h2 => by
    rw [decide_eq_false_iff_not] at h1 h2
    exact decide_eq_false (by omega)⟩
  refine SrtO.sorted_ord swo hl.isList (by rw [← rv.length]; exact hz) (fun h2 h₁ b hb kk => ?_) fun out hs hb => ?_
  · intro h' kp
    refine sortable_data (s := { s with heap := h' }) S (fun v hv => ?_) h2 ?_
    · obtain ⟨q1, as, q2⟩ := hdec v hv
      exact ⟨q1, as, Reads.keeps (fun c o e => kp c o (kk c o e).1 (kk c o e).2) q2⟩
    · show X.A.units + 1 + 1 + 66 < cLine
      omega
  · have isref : ∀ d v, d ∈ zs → Rep g L H d v → ∃ t, v = .ref t := fun d v hd r => by
      have := (o1 d hd).1
      cases d with
      | tup xs =>
        cases r with
        | tup _ _ => exact ⟨_, rfl⟩
      | _ => exfalso; simp [D.py, isTupY] at this
    have vsref : ∀ v, v ∈ vs → ∃ t, v = V.ref t := fun v hv => by
      obtain ⟨i, hi⟩ := List.getElem?_of_mem hv
      obtain ⟨d, hd, r⟩ := ra.getV hi
      exact isref d v (List.mem_of_getElem? hd) r
    obtain ⟨b1, b2⟩ := refs_back rv vsref
    have pm : (out.map backV).Perm vs := by rw [b1]; exact hb.perm.map _
    obtain ⟨es, pe, re⟩ := Reps.perm pm ra
    have vb : Vals (out.map backV) out := vals_back fun u hu => b2 u (hb.perm.mem_iff.mp hu)
    have srt : es = sortD zs := by
      refine sortD_uniq tot_ord (fun x hx => (o1 x hx).2.1) pe ?_
      have ge : ∀ (i : Nat) e, es[i]? = some e → ∃ u, out[i]? = some u ∧ dec u = e.py := fun i e he => by
        obtain ⟨v, hv, r⟩ := re.get he
        have hi : i < out.length := by
          rcases Nat.lt_or_ge i out.length with z | z
          · exact z
          · rw [List.getElem?_eq_none (by rw [List.length_map]; exact z)] at hv; cases hv
        refine ⟨out[i], List.getElem?_eq_getElem hi, ?_⟩
        have em : e ∈ zs := pe.mem_iff.mp (List.mem_of_getElem? he)
        have hu2 : out[i] ∈ its := hb.perm.mem_iff.mp (List.getElem_mem hi)
        obtain ⟨t, et⟩ := b2 _ hu2
        have ev : v = V.ref t := by
          rw [List.getElem?_map, List.getElem?_eq_getElem hi, Option.map_some, et] at hv
          cases hv; rfl
        obtain ⟨⟨as, q⟩, _⟩ := rd e v out[i] r (by rw [ev, et]; rfl) (o1 e em).2.2.1
        obtain ⟨q1, bs, q2⟩ := hdec out[i] hu2
        exact SeqAt.Reads.unique _ _ _ _ _ (S.can _ q1) q2 q
      rw [List.pairwise_iff_getElem]
      intro i j hi hj hij
      obtain ⟨u, hu1, hu2⟩ := ge i _ (List.getElem?_eq_getElem hi)
      obtain ⟨v, hv1, hv2⟩ := ge j _ (List.getElem?_eq_getElem hj)
      have hi' : i < out.length := by
        rcases Nat.lt_or_ge i out.length with z | z
        · exact z
        · rw [List.getElem?_eq_none z] at hu1; cases hu1
      have hj' : j < out.length := by
        rcases Nat.lt_or_ge j out.length with z | z
        · exact z
        · rw [List.getElem?_eq_none z] at hv1; cases hv1
      have q := List.pairwise_iff_getElem.1 hs i j hi' hj' hij
      rw [List.getElem?_eq_getElem hi'] at hu1
      rw [List.getElem?_eq_getElem hj'] at hv1
      cases hu1; cases hv1
      have q : decide (rkY (zs.map D.py) (dec out[j]) < rkY (zs.map D.py) (dec out[i])) = false := q
      rw [hu2, hv2] at q
      show ltY es[j].py es[i].py = false
      rw [rkY_lt S.ord (List.mem_map.2 ⟨_, pe.mem_iff.mp (List.getElem_mem hj), rfl⟩) (List.mem_map.2 ⟨_, pe.mem_iff.mp (List.getElem_mem hi), rfl⟩)]
      exact q
    obtain ⟨n, hn⟩ := sortedAll_at s.heap its out.toArray
    have hd : s.heap.objs.size ≤ s.heap.objs.size + 1 := Nat.le_succ _
    refine ⟨.ref (s.heap.objs.size + 1), upd H (s.heap.objs.size + 1) (.lst (out.map backV)), I.laid (t' := s.toks) (fun b o e => sortedAll_old e) hd ⟨?_, out, n, vb, hn⟩, rfl, k _ _ (I.hok.fresh hd) (by rw [← srt]; exact re)⟩
    rw [pm.length_eq]; exact hz
def sortS (ds : List D) : Option RD := match ds with
  | [.lst xs] => (match strsD xs with
    | some ys => if ys.length < 64 then some (.f (.lst (sortD xs))) else none
    | none => (match intsD xs with
      | some ns => if ns.length < 64 then some (.f (.lst (sortD xs))) else none
      | none => if tupsOk xs = true then some (.f (.lst (sortD xs))) else none))
  | _ => none
theorem reps_strs : ∀ {ys : List Str}, (∀ z ∈ ys, PyData.strOk z = true) → Reps g L H (ys.map D.str) (ys.map V.str)
  | [], _ => .nil
  | y :: ys, h => .cons (.str y (h y List.mem_cons_self)) (reps_strs fun z hz => h z (List.mem_cons_of_mem _ hz))
theorem reps_ints : ∀ {ys : List Int}, Reps g L H (ys.map D.int) (ys.map V.int)
  | [] => .nil
  | y :: ys => .cons (.int y) reps_ints
theorem c_sorted (hK : g.K = X.K) (hu : X.A.units + 191 < cLine) : CallR X (.builtin "sorted") (rDn g sortS) := by
  intro pins s σ H xs us Q I r h
  obtain ⟨L, ds, rr, c, e, k⟩ := h
  unfold sortS at e
  split at e
  · rename_i zs
    obtain ⟨v, rfl, c1⟩ := c.one
    obtain ⟨a, vs, rfl, ha, ra⟩ := c1.lst
    split at e
    · rename_i ys e1
      split at e
      · rename_i hl
        cases e
        obtain ⟨h1, h2⟩ := strsD_vs ra e1
        rw [h1] at ha
        refine cr_sortedS pins s σ H _ us Q I r ⟨a, ys, rfl, SqL.of ha, hl, fun ws p hp hs hn => ?_⟩
        have e2 : ws.map D.str = sortD zs := by
          refine sortD_uniq tot_str (fun x hx => ?_) ?_ ?_
          · rw [strsD_eq e1] at hx; obtain ⟨w, _, rfl⟩ := List.mem_map.mp hx; trivial
          · rw [strsD_eq e1]; exact hp.map _
          · cases ws with
            | nil => exact .nil
            | cons w ws => exact risingS_pw hs
        refine k _ _ (same_new hn) ⟨p, rfl, hn, _, upd_same, ?_⟩
        rw [← e2]
        exact reps_strs fun z hz => h2 z (hp.mem_iff.mp hz)
      · cases e
    · split at e
      · rename_i ns e1
        split at e
        · rename_i hl
          cases e
          have h1 := intsD_vs ra e1
          rw [h1] at ha
          refine cr_sorted pins s σ H _ us Q I r ⟨a, ns, rfl, SqL.of ha, hl, fun ws p hp hs hn => ?_⟩
          have e2 : ws.map D.int = sortD zs := by
            refine sortD_uniq tot_int (fun x hx => ?_) ?_ ?_
            · rw [intsD_eq e1] at hx; obtain ⟨w, _, rfl⟩ := List.mem_map.mp hx; trivial
            · rw [intsD_eq e1]; exact hp.map _
            · refine List.pairwise_map.mpr (hs.imp fun {x y} h => ?_)
              show decide (y < x) = false
              exact decide_eq_false (by omega)
          refine k _ _ (same_new hn) ⟨p, rfl, hn, _, upd_same, ?_⟩
          rw [← e2]
          exact reps_ints
        · cases e
      · split at e
        · rename_i ok
          cases e
          obtain ⟨u, rfl, ru⟩ := r.one
          cases ru
          exact sorted_tups hK hu I ha ra ok fun p ys hn ry => k _ _ (same_new hn) ⟨p, rfl, hn, _, upd_same, ry.same (same_new hn)⟩
        · cases e
  · cases e
/-! ### list(d): its keys -/
def listKS (ds : List D) : Option RD := match ds with
  | [.dct ks vs] => if (ks.all fun k => match k with
      | .inl _ => true
      | .inr s => PyData.strOk s) = true then some (.f (.lst (ks.map keyD))) else none
  | _ => none
theorem reps_keys : ∀ {ks : List Key}, (ks.all fun k => match k with
      | .inl _ => true
      | .inr s => PyData.strOk s) = true → Reps g L H (ks.map keyD) (ks.map kV)
  | [], _ => .nil
  | .inl i :: ks, h => .cons (.int i) (reps_keys (by rw [List.all_cons, Bool.and_eq_true] at h; exact h.2))
  | .inr s :: ks, h => .cons (.str s (by rw [List.all_cons, Bool.and_eq_true] at h; exact h.1)) (reps_keys (by rw [List.all_cons, Bool.and_eq_true] at h; exact h.2))
theorem c_listK (hc : X.calm = true) : CallR X (.type "list") (rDn g listKS) := by
  intro pins s σ H xs us Q I r h
  obtain ⟨L, ds, rr, c, e, k⟩ := h
  unfold listKS at e
  split at e
  · rename_i ks vs
    split at e
    · rename_i hk
      cases e
      obtain ⟨v, rfl, c1⟩ := c.one
      obtain ⟨a, ws, rfl, ha, hl, ra⟩ := c1.dct
      refine call_list_dK hc pins s σ H _ us Q I r ⟨a, _, rfl, ha, fun p hp => ?_⟩
      have e1 : ((ks.zip ws).map fun kv => kV kv.1) = ks.map kV := by
        have : ((ks.zip ws).map Prod.fst).map kV = ks.map kV := by rw [List.map_fst_zip (by omega)]
        rw [List.map_map] at this
        exact this
      rw [e1]
      exact k _ _ (same_new hp) ⟨p, rfl, hp, _, upd_same, reps_keys hk⟩
    · cases e
  · cases e
end
end Z

namespace Z
open PySem PySem.Spec PyProof.Rows L2

/-! ### methods that only look: list.count, list.index, str.join -/
section
variable {g : Gm} {X : Cx} {W : WX} {L : Addr → Prop} {H : Hp} {a b c : Expr} {pos p : Pos} {σ : L2.St}
def rCountV (K : PySem.W.Frag) : V → List V → Hp → VK → Prop := fun x xs H Q => ∃ p vs y, x = .ref p ∧ xs = [y] ∧ SqL K H p vs ∧ flatV y = true ∧ vs.all flatV = true ∧ Q (.int (vs.countP fun z => eqV z y : Nat)) H
theorem countP_eqU {y : V} : ∀ {vs : List V} {us : List Value}, Vals vs us → vs.all flatV = true → us.countP (eqU y) = vs.countP fun z => eqV z y
  | _, _, .nil, _ => rfl
  | v :: vs, u :: us, .cons r t, f => by
    rw [List.all_cons, Bool.and_eq_true] at f
    rw [List.countP_cons, List.countP_cons, eqU_of r f.1, countP_eqU t f.2]
theorem mt_countV : MtR X "list.count" (rCountV X.K) := by
  intro pins s σ H x xs v us Q I rx rxs h
  obtain ⟨p, vs, y, rfl, rfl, sq, fy, fv, q⟩ := h
  cases rx
  obtain ⟨u, rfl, ru⟩ := rxs.one
  obtain ⟨its, rv, ⟨⟨cls, dd, data, sl⟩, n, ho, hc, hdn, hd⟩, hlen⟩ := I.list sq
  simp only at hc hd
  subst hc hd
  refine call_meets PySem.F.slot_list_count ⟨_, ho, rfl⟩ PySem.F.entry_list_count (PySem.F.args_list_count_2 _ _) (SeqAt.list_countAt p its.toArray n dd sl u (eqU y)) ⟨ho, fun z hz => mem_eqAt ru fy rv fv z (by simpa using hz), ?_⟩
  refine ⟨.int (vs.countP fun z => eqV z y : Nat), H, I.tok _, ⟨s.toks, ?_⟩, q⟩
  have e := countP_eqU (y := y) rv fv
  show Value.int ((its.toArray.toList.countP (eqU y) : Nat) : Int) s.toks = _
  rw [show its.toArray.toList = its by simp, e]
def flatD : D → Bool
  | .non => true
  | .bl _ => true
  | .int _ => true
  | .str _ => true
  | _ => false
theorem flat_v {d : D} {v : V} (r : Rep g L H d v) (f : flatD d = true) : flatV v = true := by
  cases r <;> first | rfl | cases f
theorem flat_eq {d e : D} {v u : V} (r : Rep g L H d v) (q : Rep g L H e u) (f : flatD d = true) (h : flatD e = true) : eqV v u = D.eq d e := by
  cases r <;> cases q <;> first | rfl | exact absurd f (by decide) | exact absurd h (by decide) | (exfalso; revert f; intro f; cases f) | (exfalso; cases h)
theorem Cur.flat {d : D} {v : V} (h : Cur g L H d v) (f : flatD d = true) : Rep g L H d v := by
  rcases h with h | ⟨a, _, h⟩
  · exact h
  · cases d <;> first | exact h.elim | cases f
theorem flats_v : ∀ {ds : List D} {vs : List V}, Reps g L H ds vs → ds.all flatD = true → vs.all flatV = true
  | _, _, .nil, _ => rfl
  | _, _, .cons r rs, f => by
    rw [List.all_cons, Bool.and_eq_true] at f
    rw [List.all_cons, flat_v r f.1, flats_v rs f.2]; rfl
theorem flats_count {d : D} {v : V} (r : Rep g L H d v) (f : flatD d = true) : ∀ {ds : List D} {vs : List V}, Reps g L H ds vs → ds.all flatD = true → (vs.countP fun z => eqV z v) = ds.countP fun z => D.eq z d
  | _, _, .nil, _ => rfl
  | _, _, .cons q rs, h => by
    rw [List.all_cons, Bool.and_eq_true] at h
    rw [List.countP_cons, List.countP_cons, flats_count r f rs h.2, flat_eq q r h.1 f]
/-- a list's method that looks: the receiver, the arguments -/
def mMt (s : D → List D → Option RD) (m : M Hd) (ms : List (M Hd)) : M Hd := fun A => (m A).bind fun h A1 => match pk h A1 with
  | some (.lst _) => (mHs ms A1).bind fun hs A2 => (match pk h A2, pks hs A2 with
    | some d, some ds => (match s d ds with
      | some r => .ok r.hd A2
      | none => .stuck)
    | _, _ => .stuck)
  | _ => .stuck
def rMt (g : Gm) (s : D → List D → Option RD) : V → List V → Hp → VK → Prop := fun x xs H Q => ∃ L d ds r, Cur g L H d x ∧ Curs g L H ds xs ∧ s d ds = some r ∧ ∀ v H', Same H H' → RelR g L H H' r v → Q v H'
theorem je_mtL {s : D → List D → Option RD} {m : M Hd} {ms : List (M Hd)} {e : Expr} {es : List Expr} {name : Str} {id : String} {apos cpos : Pos} (slot : Slot "list" name id) (hty : typeOf (.builtin id) = pure (.type "method_descriptor")) (hm : MtR X id (rMt g s)) (ho : JE g X W a m) (ha : JH g X W (e :: es) (mHs ms))
    (hbase : attributeBase a name X.env (eval a X.env) = eval a X.env := by rfl)
    (hfew : ((backTo cpos (starEach (e :: es) X.env)).all (fun x => !x.1) && (backToKw cpos (keywordEach [] X.env)).all (fun x => x.1.isSome) && decide ((e :: es).length + ([] : List Keyword).length + (if ([] : List Keyword).isEmpty then 0 else 1) < 30)) = true := by rfl)
    (hline : (apos.endLine == cpos.line) = true := by rfl) (hst : starEach (e :: es) X.env = (false, eval e X.env) :: starEach es X.env := by rfl) (hpl : (backTo cpos (starEach es X.env)).any (·.1) = false := by rfl) :
    JE g X W (.Call (.Attribute a name apos) (e :: es) [] cpos) (mMt s m ms) := by
  refine pe_imp (pe_bm PySem.F.plainAttrs_list slot hty hm ho ha hbase hfew hline hst hpl) fun σ H Q ⟨L, A, G, w⟩ => ⟨L, A, G, w.bind.mono fun h1 A1 L1 H1 S1 G1 w1 v1 r1 => ?_⟩
  split at w1
  · rename_i ds0 e0
    obtain ⟨ad, vs, rfl, hv, _⟩ := (pk_ok G1 r1 e0).lst
    refine ⟨.inl ⟨rfl, vs, SqL.of hv⟩, L1, A1, G1, w1.bind.mono fun hs A2 L_2 H2 S2 G2 w2 us rs => ?_⟩
    cases e1 : pk h1 A2 with
    | none => simp only [e1] at w2; exact w2.elim
    | some d =>
      cases e2 : pks hs A2 with
      | none => simp only [e1, e2] at w2; exact w2.elim
      | some ds =>
        simp only [e1, e2] at w2
        cases e3 : s d ds with
        | none => simp only [e3] at w2; exact w2.elim
        | some r =>
          simp only [e3] at w2
          refine ⟨L_2, d, ds, r, pk_ok G2 (r1.step G1 S2) e1, pks_ok G2 rs e2, e3, fun v H' s' k => ?_⟩
          obtain ⟨S3, G3⟩ := G2.same s'
          exact w2 L_2 H' S3 G3 v (rel_hd G2 (fun a n => S1.none_back (S2.none_back n)) k)
  · exact w1.elim
def countS (d : D) (args : List D) : Option RD := match d, args with
  | .lst ds, [x] => if (flatD x && ds.all flatD) = true then some (.v (.int (ds.countP fun z => D.eq z x : Nat))) else none
  | _, _ => none
theorem mt_count : MtR X "list.count" (rMt g countS) := by
  intro pins s σ H x xs v us Q I rx rxs h
  obtain ⟨L, d, ds, r, c, cs, e, k⟩ := h
  unfold countS at e
  split at e
  · split at e
    · rename_i zs y hf
      cases e
      rw [Bool.and_eq_true] at hf
      obtain ⟨ad, vs, rfl, hv, rs⟩ := c.lst
      obtain ⟨w, rfl, cw⟩ := cs.one
      have rw' := cw.flat hf.1
      refine mt_countV pins s σ H _ _ v us Q I rx rxs ⟨ad, vs, w, rfl, rfl, SqL.of hv, flat_v rw' hf.1, flats_v rs hf.2, ?_⟩
      rw [flats_count rw' hf.1 rs hf.2]
      exact k _ H (Same.refl H) (.int _)
    · cases e
  · cases e
def indexS (d : D) (args : List D) : Option RD := match d, args with
  | .lst ds, [x] => if (x.lay && D.lays ds && decide (x.dep ≤ 64) && decide ((D.lst ds).dep ≤ 64)) = true then (match ds.findIdx? fun z => D.eq z x with
      | some j => some (.v (.int (j : Nat)))
      | none => none) else none
  | _, _ => none
theorem pys_get : ∀ (ds : List D) (i : Nat), (D.pys ds)[i]? = (ds[i]?).map D.py
  | [], i => by simp [D.pys]
  | d :: ds, 0 => rfl
  | d :: ds, i + 1 => by
    show (d.py :: D.pys ds)[i + 1]? = ((d :: ds)[i + 1]?).map D.py
    rw [List.getElem?_cons_succ, List.getElem?_cons_succ]
    exact pys_get ds i
theorem mt_index (hK : g.K = X.K) (hu : X.A.units + 191 < cLine) : MtR X "list.index" (rMt g indexS) := by
  intro pins s σ H x xs v us Q I rx rxs h
  obtain ⟨L, d, ds, r, c, cs, e, k⟩ := h
  unfold indexS at e
  split at e
  · split at e
    · rename_i zs y hf
      split at e
      · rename_i j hj
        cases e
        simp only [Bool.and_eq_true, decide_eq_true_iff] at hf
        obtain ⟨⟨⟨l1, l2⟩, h1⟩, h2⟩ := hf
        obtain ⟨w, rfl, cw⟩ := cs.one
        obtain ⟨p1, q1⟩ := cw.dp hK l1
        have c' := c
        obtain ⟨p2, q2⟩ := c.dp hK (show (D.lst zs).lay = true from l2)
        obtain ⟨ad, vs, rfl, hv, rs⟩ := c'.lst
        obtain ⟨hlt, f1, f2⟩ := List.findIdx?_eq_some_iff_getElem.mp hj
        refine mt_indexD (by omega) pins s σ H _ _ v us Q I rx rxs ⟨ad, w, y.py, D.pys zs, j, (zs[j]).py, rfl, rfl, p2, p1, sh_of (d := .lst _) q2 h2, sh_of q1 h1, ?_, f1, fun m z' hm hz => ?_, k _ H (Same.refl H) (.int _)⟩
        · rw [pys_get, List.getElem?_eq_getElem hlt]; rfl
        · rw [pys_get] at hz
          have hm2 : m < zs.length := by omega
          rw [List.getElem?_eq_getElem hm2] at hz
          cases hz
          have f3 : D.eq zs[m] y = false := by simpa using f2 m hm
          exact f3
      · cases e
    · cases e
  · cases e
end

/-! ### the law's own refusals: try: .. except StyleError as e: return _law_which(e) -/
section
variable {g : Gm} {X : Cx} {W : WX}
theorem is_exc {ad Dc : Addr} {oe : Obj} (C : ExcC X.K Dc) (hp : (ad, oe) ∈ X.pn) (hz : oe.cls = .ref Dc ∧ oe.dict = none) (hf : ∃ vs, oe.data = .fields vs) : CallR X (.builtin "isinstance") (rIsE X.K Dc ad) := by
  intro pins s σ H xs us Q I r h
  obtain ⟨c, cv, b, rfl, hcv, e, q⟩ := h
  obtain ⟨u1, u2, rfl, rx, rt⟩ := r.two
  cases rx
  have ec := hcv _ rt
  subst ec
  have hget := (I.pin (ad, oe) (List.mem_append.mpr (.inl hp))).1
  obtain ⟨vs, hv⟩ := hf
  have J : PySem.W.InstAt s.heap ad oe Dc none := by
    obtain ⟨oc, od, oda, osl⟩ := oe
    obtain ⟨h1, h2⟩ := hz
    dsimp only at h1 h2 hv
    subst h1 h2 hv
    exact ⟨hget, rfl, rfl, trivial⟩
  exact PySem.W.kia_one (PySem.W.handS_kitx_exc C.hg C.hk C.hs C.hd C.ha C.hn C.ht C.hm) I.kIn J e (fun z => nomatch z) fun tk => ⟨.bl b, H, I.kept (t' := tk) fun _ _ z => z, rfl, q⟩
/-- what is known of the eight classes of refusals -/
structure Refs (K : PySem.W.Frag) (mg : Str → Option Value) (g : Gm) (S : Addr) : Prop where
  at_ : ∀ c x, (c, x) ∈ ([(0, "NoTree"), (1, "NoBook"), (2, "NoPlace"), (3, "NoFinding"), (4, "Clash"), (5, "TooMany"), (6, "NoPatches"), (7, "NoText")] : List (Nat × Str)) → mg x = some (.ref (g.xa c))
  exc : ∀ c, c < 8 → PySem.W.excIn K (g.xa c) HandSPX.veTail "ValueError.__new__" = true ∧ PySem.W.keepIn K (.ref (g.xa c)) = true ∧ PySem.W.subIn K (.ref (g.xa c)) (.type "BaseException") = some true ∧ PySem.W.typeIn K (.ref (g.xa c)) = some (.type "type")
  cls : ∀ c, c < 8 → ExcC K (g.xa c)
  one : ∀ c k, c < 8 → k < 8 → PySem.W.kitOne K (.ref (g.xa c)) (.ref (g.xa k)) = some (k == c)
  val : ∀ c, c < 8 → PySem.W.kitOne K (.ref (g.xa c)) (.type "ValueError") = some true
  sty : mg "StyleError" = some (.ref S)
  exm : ∀ c, c < 8 → PySem.W.exmOne K (.ref (g.xa c)) (.ref S) = some true
/-- isinstance(e, C), e in the slot 0 -/
def tIsE (K : PySem.W.Frag) (Dc ad : Addr) (v : V) : TE := tCB (rIsE K Dc ad) (L2.tCons (tVar 0) (L2.tCons (tC v) L2.tNil))
/-- the reading of _law_which -/
def tWhich (K : PySem.W.Frag) (g : Gm) (Dc ad : Addr) : TS :=
  tSeq (tAsg (tLst (L2.tCons (tIsE K Dc ad (.ref (g.xa 0))) (L2.tCons (tIsE K Dc ad (.ref (g.xa 1))) (L2.tCons (tIsE K Dc ad (.ref (g.xa 2))) (L2.tCons (tIsE K Dc ad (.ref (g.xa 3))) L2.tNil))))) (gName 1))
  (tSeq (tDrop (tBM K "list" rExtend (tVar 1) (L2.tCons (tLst (L2.tCons (tIsE K Dc ad (.ref (g.xa 4))) (L2.tCons (tIsE K Dc ad (.ref (g.xa 5))) (L2.tCons (tIsE K Dc ad (.ref (g.xa 6))) (L2.tCons (tIsE K Dc ad (.ref (g.xa 7))) L2.tNil))))) L2.tNil)))
  (tSeq (tIfS (tOr (tTest (tOp rNe (tBM K "list" (rCountV K) (tVar 1) (L2.tCons (tC (.bl true)) L2.tNil)) (tC (.int 1)))) (tNot (tB (tIsE K Dc ad (.ty "ValueError")))))
      (tRet (tTup (L2.tCons (tC (.str "refused")) (L2.tCons (tUn (rU fun i => .int (-i)) (tC (.int 1))) L2.tNil)))) tNext)
    (tRet (tTup (L2.tCons (tC (.str "refused")) (L2.tCons (tBM K "list" (rIndexD K) (tVar 1) (L2.tCons (tC (.bl true)) L2.tNil)) L2.tNil))))))
theorem isE_ok {K : PySem.W.Frag} {Dc ad : Addr} {v : V} {cv : Value} {b : Bool} {σ : L2.St} {H : Hp} {Q : VK} (h0 : σ[0]? = some (some (.ref ad))) (hv : ∀ u, RelV v u → u = cv) (hk : PySem.W.kitOne K (.ref Dc) cv = some b) (q : Q (.bl b) H) : tIsE K Dc ad v σ H Q :=
  ⟨_, h0, v, cv, b, rfl, hv, hk, q⟩
theorem which_pure {K : PySem.W.Frag} {mg : Str → Option Value} {S ad : Addr} {c : Nat} (hc : c < 8) (R : Refs K mg g S) (H : Hp) (Q : VK)
    (q : ∀ t H', Same H H' → H t = none → H' t = some (.tup [.str "refused", .int (c : Nat)]) → Q (.ref t) H') :
    tWhich K g (g.xa c) ad { nx := fun _ H' => Q .non H', rt := Q } [some (.ref ad), none] H := by
  have I : ∀ k, k < 8 → ∀ {σ : L2.St} {H : Hp} {Q : VK}, σ[0]? = some (some (.ref ad)) → Q (.bl (k == c)) H → tIsE K (g.xa c) ad (.ref (g.xa k)) σ H Q := fun k hk {σ H Q} h0 q => isE_ok h0 (fun u r => r) (R.one c k hc hk) q
  refine I 0 (by decide) rfl (I 1 (by decide) rfl (I 2 (by decide) rfl (I 3 (by decide) rfl ⟨by show 4 ≤ sizeLine; decide, fun l hl => ?_⟩)))
  have s1 : Same H (upd H l (.lst [.bl (0 == c), .bl (1 == c), .bl (2 == c), .bl (3 == c)])) := same_new hl
  refine ⟨_, rfl, .inl ⟨rfl, _, SqL.of upd_same⟩, ?_⟩
  refine I 4 (by decide) rfl (I 5 (by decide) rfl (I 6 (by decide) rfl (I 7 (by decide) rfl ⟨by show 4 ≤ sizeLine; decide, fun m hm => ?_⟩)))
  have ne : l ≠ m := fun z => by rw [← z, upd_same] at hm; cases hm
  refine ⟨l, m, _, _, rfl, rfl, by rw [upd_ne ne]; exact upd_same, upd_same, by show 4 + 4 ≤ sizeLine; decide, ?_⟩
  have s2 := s1.trans (same_new (o := .lst [.bl (4 == c), .bl (5 == c), .bl (6 == c), .bl (7 == c)]) hm)
  have s3 : Same H (upd (upd (upd H l (.lst [.bl (0 == c), .bl (1 == c), .bl (2 == c), .bl (3 == c)])) m (.lst [.bl (4 == c), .bl (5 == c), .bl (6 == c), .bl (7 == c)])) l (.lst ([.bl (0 == c), .bl (1 == c), .bl (2 == c), .bl (3 == c)] ++ [.bl (4 == c), .bl (5 == c), .bl (6 == c), .bl (7 == c)]))) := fun b o e => by
    rw [upd_ne (ne_of_none e hl)]; exact s2 b o e
  generalize eH : (upd (upd (upd H l (.lst [.bl (0 == c), .bl (1 == c), .bl (2 == c), .bl (3 == c)])) m (.lst [.bl (4 == c), .bl (5 == c), .bl (6 == c), .bl (7 == c)])) l (.lst ([.bl (0 == c), .bl (1 == c), .bl (2 == c), .bl (3 == c)] ++ [.bl (4 == c), .bl (5 == c), .bl (6 == c), .bl (7 == c)]))) = H3 at s3 ⊢
  have hl3 : H3 l = some (.lst [.bl (0 == c), .bl (1 == c), .bl (2 == c), .bl (3 == c), .bl (4 == c), .bl (5 == c), .bl (6 == c), .bl (7 == c)]) := by rw [← eH]; exact upd_same
  refine ⟨_, rfl, .inl ⟨rfl, _, SqL.of hl3⟩, l, _, .bl true, rfl, rfl, SqL.of hl3, rfl, rfl, ?_⟩
  have cnt : (([.bl (0 == c), .bl (1 == c), .bl (2 == c), .bl (3 == c), .bl (4 == c), .bl (5 == c), .bl (6 == c), .bl (7 == c)] : List V).countP fun z => eqV z (.bl true)) = 1 := by
    have : c = 0 ∨ c = 1 ∨ c = 2 ∨ c = 3 ∨ c = 4 ∨ c = 5 ∨ c = 6 ∨ c = 7 := by omega
    rcases this with rfl | rfl | rfl | rfl | rfl | rfl | rfl | rfl <;> rfl
  rw [cnt]
  refine ⟨rfl, false, by rfl, ?_⟩
  refine isE_ok rfl (fun u r => r) (R.val c hc) ⟨true, rfl, ?_⟩
  refine L2.iteF ?_
  refine ⟨_, rfl, .inl ⟨rfl, _, SqL.of hl3⟩, l, .bl true, .bool true, ([.bl (0 == c), .bl (1 == c), .bl (2 == c), .bl (3 == c), .bl (4 == c), .bl (5 == c), .bl (6 == c), .bl (7 == c)] : List D).map D.py, c, .bool true, rfl, rfl, ?_, .bl true, ?_, ?_, ?_, rfl, fun m z' hm hz => ?_, by show 2 ≤ sizeLine; decide, fun t ht => ?_⟩
  · exact .lst (SqL.of hl3) (.cons (.bl _) (.cons (.bl _) (.cons (.bl _) (.cons (.bl _) (.cons (.bl _) (.cons (.bl _) (.cons (.bl _) (.cons (.bl _) .nil))))))))
  · rfl
  · rfl
  · have : c = 0 ∨ c = 1 ∨ c = 2 ∨ c = 3 ∨ c = 4 ∨ c = 5 ∨ c = 6 ∨ c = 7 := by omega
    rcases this with rfl | rfl | rfl | rfl | rfl | rfl | rfl | rfl <;> rfl
  · have h8 : m < 8 := by omega
    have : m = 0 ∨ m = 1 ∨ m = 2 ∨ m = 3 ∨ m = 4 ∨ m = 5 ∨ m = 6 ∨ m = 7 := by omega
    have hmc : (m == c) = false := by simpa using Nat.ne_of_lt hm
    rcases this with rfl | rfl | rfl | rfl | rfl | rfl | rfl | rfl <;> (cases hz; show PyData.eqv (.bool _) (.bool true) = false; rw [hmc]; rfl)
  · exact q t _ (s3.trans (same_new ht)) (s3.free ht) upd_same
end
section
variable {P : Program} {w : World} {K : PySem.W.Frag} {mg : Str → Option Value} {base : Heap} {g : Gm} {S : Addr} {name qual : Str} {params : Arguments} {body : List Stmt} {scope : Scope} {f : Addr} {fd : FuncData}
/-- _law_which, called where the refusal of class c is handled -/
def WhichF (P : Program) (w : World) (K : PySem.W.Frag) (mg : Str → Option Value) (base : Heap) (g : Gm) (f : Addr) (fd : FuncData) : Prop :=
  ∀ (A : Around) (outer : List Env) (s : Shared) (H : Hp) (p : Addr × Obj) (c : Nat) (Q : VK) (E : XK), L2H.RoomH 1 A → L2H.PinOk outer H s p → Env0 P w K mg base A outer s H → c < 8 → p.2.cls = .ref (g.xa c) → p.2.dict = none → (∃ vs, p.2.data = .fields vs) →
    BindsTo s fd ⟨[.ref p.1], []⟩ [("e", .ref p.1)] → (∀ t H', Same H H' → H t = none → H' t = some (.tup [.str "refused", .int (c : Nat)]) → Q (.ref t) H') →
    codeAny (model P w) A (.call (.ref f) ⟨[.ref p.1], []⟩) (CR (L2N.CX P w) outer P w H s Q E) s
theorem which_fn (F : FunD K name qual params body scope [] [] f fd) (R : Refs K mg g S) (Sc : FnScope ["e", "own"] ["e"] scope)
    (hb : ∀ (cdv : Value) (A : Around) (outer : List Env) (s : Shared) (H : Hp) (E : XK) (p : Addr × Obj) (c : Nat), c < 8 → (∀ X : Cx, X.K = K → p ∈ X.pn → CallR X (.builtin "isinstance") (rIsE K (g.xa c) p.1)) → A.units + 65 + 3 < cLine →
      PSs (L2H.cxH (L2N.CX P w) P w K mg base ["e", "own"] qual scope f cdv A outer s H E p) body (tWhich K g (g.xa c) p.1)) : WhichF P w K mg base g f fd := by
  intro A outer s H p c Q E hr hpin e0 hc h1 h2 h3 hbi q
  obtain ⟨oc, od, dV, kV, doc, pm, an, cdv, ct, osl, rfl, lk, hcd, _, _⟩ := F.ex
  have kin : K.In s.heap := e0.mod.kin.keeps fun b o e => (e0.bs b o e).1
  have lim : s.heap.NoLimit := e0.mod.nolimit.keeps fun b o e => (e0.bs b o e).1
  have kinds : ∀ y ∈ [(("e" : Str), Value.ref p.1)], scope.names.lookup y.1 = some .local ∨ (scope.names.lookup y.1 = some .cell ∧ ((cellsFrom (s.heap.objs.size + 1) scope.names []).lookup y.1).isSome = true) := fun y hy => by
    cases List.mem_singleton.mp hy
    rcases Sc.par "e" (by simp) with z | z
    · exact .inl z
    · exact .inr ⟨z, PySem.W.cellsFrom_some _ _ _ (.inl z)⟩
  refine codeAny_call_function hr.depth (kin _ _ lk) rfl Sc.co Sc.gen rfl (PySem.W.codeRec_of kin hcd) (hbi _ _ _ _ ?_)
  refine wpAny_newFunctionEnv_cells Sc.kind kinds fun env he s1 x => ?_
  subst he
  refine ⟨lim.keeps x.toInCall.keep, codeAny_func ?_⟩
  have ht := hb cdv A outer s H E p c hc (fun X hX hp => by rw [← hX]; exact is_exc (by rw [hX]; exact R.cls c hc) hp ⟨h1, h2⟩ h3) (by have := hr.un; omega)
  have J0 : Inv (L2H.cxH (L2N.CX P w) P w K mg base ["e", "own"] qual scope f cdv A outer s H E p) [] (L2.start ["e", "own"] [.ref p.1]) H s1 := L2H.inv_startH (us := [.ref p.1]) Sc hpin e0 rfl (.cons rfl .nil) x
  refine wpAny_mono (ht.run [] s1 _ H _ J0 (which_pure hc R H Q q)) (fun fl s' hs => ?_) fun e s' hs => hs
  cases fl with
  | ret u => obtain ⟨v, σ', H', J, rv, z⟩ := hs; exact ⟨v, H', J.os, J.bare, J.base, J.hok, rv, z⟩
  | next => obtain ⟨σ', H', J, z⟩ := hs; exact ⟨V.non, H', J.os, J.bare, J.base, J.hok, rfl, z⟩
  | brk => obtain ⟨_, _, _, z⟩ := hs; exact z.elim
  | cont => obtain ⟨_, _, _, z⟩ := hs; exact z.elim
end
/-! ### try -/
def sTry (m : MS) : MS := fun A => match m A with
  | .exc c A1 => if c < 8 then .rt (.tup [.str "refused", .int (c : Nat)]) A1 else .stuck
  | o => o
section
variable {g : Gm} {X : Cx} {W : WX} {fw S : Addr} {fd : FuncData} {i : Nat} {n x : Str} {body : List Stmt} {m : MS} {pos pos' np p1 p2 p3 p4 : Pos}
theorem js_try (hw : WhichF X.prog X.w X.K X.mg X.base g fw fd) (bw : Binds X.K fd ["e"] []) (kw : PySem.W.keepIn X.K (.ref fw) = true) (aw : X.mg "_law_which" = some (.ref fw)) (R : Refs X.K X.mg g S) (hr : Room 1 X.A) (hN : X.N.Nodup)
    (hb : ∀ (W' : WX) (pn : List (Addr × Obj)) (xe : Value → Shared → Prop), L2N.Takes (X.tr pn xe) W' → PassesOwn (model X.prog X.w) X.A X.env xe → JB g (X.tr pn xe) W' body m) (tk : L2N.Takes X W)
    (hi : X.N[i]? = some ("e" : Str) := by rfl) (hln : X.env.kindOf "e" = some .local := by rfl) (hgS : Gl X "StyleError" := by rfl) (hgw : Gl X "_law_which" := by rfl) (hs : X.stack = X.env :: X.outer := by rfl) (hf : X.env.frame = some X.env.locals := by rfl) :
    JS g X W (.Try body [.ExceptHandler (some (.Name "StyleError" np)) (some "e") [.Return (some (.Call (.Name "_law_which" p1) [.Name "e" p2] [] p3)) p4] pos'] [] [] pos) (sTry m) := by
  have hlt : i < X.N.length := by
    rcases Nat.lt_or_ge i X.N.length with h | h
    · exact h
    · rw [List.getElem?_eq_none h] at hi; cases hi
  let tE : Addr → Value → Option Addr → TE := fun a cls d σ H Q => ∃ (c : Nat) (σ0 : L2.St), c < 8 ∧ cls = .ref (g.xa c) ∧ d = none ∧ σ = σ0.set i (some (.ref a)) ∧ ∀ t H', Same H H' → H t = none → H' t = some (.tup [.str "refused", .int (c : Nat)]) → Q (.ref t) H'
  have suite : ∀ (a : Addr) (oe : Obj) (cls : Value) (d : Option Addr) (pn : List (Addr × Obj)), L2N.Zn cls d oe → (∃ vs, oe.data = .fields vs) → PE (X.suite a ((a, oe) :: pn)) (.Call (.Name "_law_which" p1) [.Name "e" p2] [] p3) (tE a cls d) := fun a oe cls d pn hz hd => by
    refine ⟨fun pins s σ H Q I h => ?_⟩
    obtain ⟨c, σ0, hc, ecl, ed, eσ, q⟩ := h
    have hei : σ[i]? = some (some (.ref a)) := by
      have hl := I.len
      rw [eσ, List.length_set] at hl
      have hl' : σ0.length = X.N.length := hl
      rw [eσ, List.getElem?_set_self (by omega)]
    have hv : Vis (X.suite a ((a, oe) :: pn)).env.scope "e" := .inl hln
    have hargs : PA (X.suite a ((a, oe) :: pn)) [.Name "e" p2] (L2.tCons (tVar i) L2.tNil) := pa_cons (pe_var hi hv (by decide) (by decide)) pa_nil (by rfl)
    refine wpAny_Call_Name_kw (ld_glob I hgw aw ?_ (by decide))
    refine PySem.W.callWith_K (h₀ := X.base) I.ok.mod.kin kw (thn (hargs.run p3 pins s σ H (fun vs H1 => vs = [.ref a] ∧ H1 = H) I ⟨_, hei, rfl, rfl⟩) fun us s1 ⟨vs, H1, I1, r, q1, q2⟩ => ⟨I1.kIn, ?_⟩) (by rfl) (by rfl)
    subst q1 q2
    obtain ⟨u, rfl, ru⟩ := r.one
    cases ru
    have P1 := I1.pin (a, oe) (List.mem_append_left _ List.mem_cons_self)
    have hpin : L2H.PinOk X.stack H1 s1 (a, oe) := ⟨P1.1, P1.2.1, fun hm => (List.mem_cons.mp (I1.stkSub a hm)).elim P1.2.2.1 P1.2.2.2.1, P1.2.2.2.2⟩
    have hbi := bw s1 [.ref a] I1.kIn rfl
    refine wpAny_call (codeAny_mono (hw _ X.stack s1 H1 (a, oe) c Q (fun _ _ _ => False) ⟨hr.dp, hr.un⟩ hpin I1.env0 hc (hz.1.trans ecl) (hz.2.1.trans ed) hd hbi q) fun r s' hq => ?_)
    cases r with
    | error e => obtain ⟨_, _, _, _, _, _, _, _, _, _, _, _, z⟩ := hq; exact z.elim
    | ok fl =>
      cases fl with
      | ret u => exact I1.after hq
      | next => exact hq.elim
      | brk => exact hq.elim
      | cont => exact hq.elim
  refine ps_imp (L2N.ps_try_as (tb := fun W' => TSm g W' m) (ts := fun a cls d => tRet (tE a cls d)) (Wout := W) hs hf hN hi hln ⟨hgS, by decide, .inl R.sty⟩ tk hb (fun a oe cls d pn hz hd => pss_one (ps_ret (suite a oe cls d pn hz hd)))) fun En σ H ⟨L, A, G, w⟩ => ⟨L, A, G, ?_⟩
  unfold sTry at w
  cases em : m A with
  | nx A1 => simp only [em] at w; exact w
  | bk A1 => simp only [em] at w; exact w
  | ct A1 => simp only [em] at w; exact w
  | rt d A1 => simp only [em] at w; exact w
  | stuck => simp only [em] at w; exact w
  | exc c A1 =>
    simp only [em] at w
    by_cases hc : c < 8
    · rw [if_pos hc] at w
      intro L' σ' H' S' G'
      refine ⟨true, R.exm c hc, fun _ a ha => ⟨c, σ', hc, rfl, rfl, rfl, fun t H2 sm hn ht => ?_⟩, fun z => by cases z⟩
      obtain ⟨S2, G2⟩ := G'.same sm
      exact w L' σ' H2 (.ref t) (S'.trans S2) G2 (.tup ht (.cons (.str _ (by decide +kernel)) (.cons (.int _) .nil)))
    · rw [if_neg hc] at w; exact w.elim
end
end Z

namespace Z
open PySem PySem.Spec PyProof.Rows L2
section
variable {g : Gm} {X : Cx} {W : WX} {L : Addr → Prop} {H : Hp} {a b c : Expr} {pos p : Pos} {σ : L2.St}
/-! ### xs[::-1] -/
def revS (d : D) : Option RD := match d with
  | .lst xs => some (.f (.lst xs.reverse))
  | _ => none
theorem je_rev {m : M Hd} {k : Nat} {p1 p2 p3 : Pos} (he : JE g X W a m) : JE g X W (.Subscript a (.Slice none none (some (.UnaryOp .USub (.Constant (.int 1) k p1) p2)) p3) pos) (mUn revS m) := by
  refine pe_imp (pe_revL he) fun σ H Q h => ?_
  obtain ⟨L, A, G, w⟩ := un_ok h
  refine ⟨L, A, G, w.mono fun h1 A1 L1 H1 S1 G1 w1 v1 r1 => ?_⟩
  obtain ⟨L', d1, r, c1, e, k⟩ := w1 v1 r1
  unfold revS at e
  split at e
  · cases e
    obtain ⟨ad, vs, rfl, ha, ra⟩ := c1.lst
    exact ⟨ad, vs, rfl, SqL.of ha, fun p hp => k _ _ (same_new hp) ⟨p, rfl, hp, _, upd_same, ra.rev.same (same_new hp)⟩⟩
  · cases e
end
/-- the context of a def's body; its wish about refusals -/
abbrev cxZ (P : Program) (w : World) (K : PySem.W.Frag) (mg : Str → Option Value) (base : Heap) (N : List Str) (qual : Str) (scope : Scope) (f : Addr) (cdv : Value) (A : Around) (outer : List Env) (s : Shared) (H : Hp) (E : XK) : Cx := cxOf (L2N.CX P w) P w K mg base N qual scope f cdv A outer s H E
abbrev wE (E : XK) : WX := fun cls d _ H => E cls d H
/-- a def's row: its id, name, parameters -/
theorem cal_of {P : Program} {w : World} {K : PySem.W.Frag} {mg : Str → Option Value} {base : Heap} {g : Gm} {k n : Nat} {sp : Sp} {x : Str} {fd : FuncData} {ps : List Str} (F : FnOk P w K mg base (L2N.CX P w) k (g.fa n) fd ps sp) (b : Binds K fd ps []) (kp : PySem.W.keepIn K (.ref (g.fa n)) = true) (m : mg x = some (.ref (g.fa n))) : Cal P w K mg base g k n sp x := ⟨⟨fd, ps, F, b⟩, kp, m⟩
end Z
namespace Z
open PySem PySem.Spec PyProof.Rows L2
/-! ### the head's facts -/
def clsN : Nat → Str
  | 0 => "NoTree"
  | 1 => "NoBook"
  | 2 => "NoPlace"
  | 3 => "NoFinding"
  | 4 => "Clash"
  | 5 => "TooMany"
  | 6 => "NoPatches"
  | 7 => "NoText"
  | _ => "StyleError"
def xaK (K : PySem.W.Frag) (c : Nat) : Addr := He.ga K (clsN c)
def excB (K : PySem.W.Frag) (D : Addr) : Bool :=
  He.eqO (PySem.W.findIn K (.ref D) "__getattribute__") (some (some (.builtin "BaseException.__getattribute__"))) && (He.eqO (PySem.W.findIn K (.ref D) "__getattr__") (some none) && (decide (PySem.W.subIn K (.ref D) (.type "BaseException") = some true) && (PySem.W.hasDictIn K D &&
    (He.eqO (PySem.W.findIn K (.ref D) "__class__") (some (some (.builtin "object.__class__"))) && (He.eqO (PySem.W.specialIn K (.builtin "object.__class__") "__get__") (some (some (.builtin "getset_descriptor.__get__"))) && (decide (PySem.W.takesIn K (.builtin "object.__class__") = some true) && decide (PySem.W.mroIn K D (.type "object") = some true)))))))
theorem excB_ok {K : PySem.W.Frag} {D : Addr} (h : excB K D = true) : ExcC K D := by
  unfold excB at h
  simp only [Bool.and_eq_true, decide_eq_true_iff] at h
  obtain ⟨h1, h2, h3, h4, h5, h6, h7, h8⟩ := h
  exact ⟨He.eqO_ok h1, He.eqO_ok h2, h3, h4, He.eqO_ok h5, He.eqO_ok h6, h7, h8⟩
def clsB (K : PySem.W.Frag) (c : Nat) : Bool := (He.Fa.glo (clsN c)).ok K && ((He.Fa.exc (clsN c)).ok K && (excB K (xaK K c) && ((List.range 8).all (fun k => decide (PySem.W.kitOne K (.ref (xaK K c)) (.ref (xaK K k)) = some (k == c))) && (decide (PySem.W.kitOne K (.ref (xaK K c)) (.type "ValueError") = some true) && (He.Fa.exm (clsN c) "StyleError" true).ok K))))
def ckB (K : PySem.W.Frag) : Bool := (He.Fa.glo "StyleError").ok K && (List.range 8).all (clsB K)
theorem refs_of {K : PySem.W.Frag} {h : Heap} {mg : Str → Option Value} {fa : Nat → Addr} (X : K.In h) (G : h.Ns mainGlobals mg) (c : ckB K = true) : Refs K mg ⟨K, fa, xaK K⟩ (He.ga K "StyleError") := by
  unfold ckB at c
  rw [Bool.and_eq_true] at c
  have hc : ∀ i, i < 8 → clsB K i = true := fun i hi => List.all_eq_true.mp c.2 i (List.mem_range.mpr hi)
  have hq : ∀ i, i < 8 → _ := fun i hi => (by have := hc i hi; unfold clsB at this; simp only [Bool.and_eq_true, decide_eq_true_iff] at this; exact this)
  refine ⟨fun i x hx => ?_, fun i hi => ?_, fun i hi => excB_ok (hq i hi).2.2.1, fun i k hi hk => ?_, fun i hi => (hq i hi).2.2.2.2.1, He.glo_ok X G c.1, fun i hi => He.exm_ok (hq i hi).2.2.2.2.2⟩
  · have : ∀ j, j < 8 → mg (clsN j) = some (.ref (xaK K j)) := fun j hj => He.glo_ok X G (hq j hj).1
    simp only [List.mem_cons, Prod.mk.injEq, List.not_mem_nil, or_false] at hx
    rcases hx with ⟨rfl, rfl⟩ | ⟨rfl, rfl⟩ | ⟨rfl, rfl⟩ | ⟨rfl, rfl⟩ | ⟨rfl, rfl⟩ | ⟨rfl, rfl⟩ | ⟨rfl, rfl⟩ | ⟨rfl, rfl⟩
    · exact this 0 (by decide)
    · exact this 1 (by decide)
    · exact this 2 (by decide)
    · exact this 3 (by decide)
    · exact this 4 (by decide)
    · exact this 5 (by decide)
    · exact this 6 (by decide)
    · exact this 7 (by decide)
  · have q := He.exc_ok (hq i hi).2.1
    exact ⟨q.1, q.2.1, q.2.2.1, q.2.2.2⟩
  · have q := List.all_eq_true.mp (hq i hi).2.2.2.1 k (List.mem_range.mpr hk)
    exact of_decide_eq_true q
abbrev AlZ : Type := Bool × He.AlD
def obsZ (fa : List He.Fa) (fn : List He.DefD) (K : PySem.W.Frag) : AlZ := (ckB K, He.obsD fa fn K)
def valZ (fn : List He.DefD) : AlZ := (true, He.valD fn)
def obsZG (n : Nat) (fa : List He.Fa) (fn : List He.DefD) (g : Addr → Option Obj) : AlZ := obsZ fa fn (He.frG g (He.asD g n))
def hookZ (n : Nat) (fa : List He.Fa) (fn : List He.DefD) : PySem.W.Hook where
  α := AlZ
  obs := fun s => obsZG n fa fn s.heap.get?
  val := fun _ => valZ fn
  says := fun _ h => ∃ K : PySem.W.Frag, K.In h ∧ ckB K = true ∧ He.SaysD fa fn K
  of := fun _ _ e => ⟨_, He.frG_in, congrArg (fun z : AlZ => z.1) e, congrArg (fun z : AlZ => z.2) e⟩
  keeps := fun _ _ _ ⟨K, hK, c⟩ k => ⟨K, PySem.W.Frag.In.keeps hK k, c⟩
theorem obsZG_eq {n : Nat} {fa : List He.Fa} {fn : List He.DefD} {g : Addr → Option Obj} {s : Shared} (h : ∀ a, g a = s.heap.get? a) : obsZG n fa fn g = (hookZ n fa fn).obs s := by
  have e : g = s.heap.get? := funext h
  rw [e] <;> rfl
/-- a def that is never asked -/
theorem fn_stuck {P : Program} {w : World} {K : PySem.W.Frag} {mg : Str → Option Value} {base : Heap} {g : Gm} {k : Nat} {f : Addr} {fd : FuncData} {ps : List Str} : FnOk P w K mg base (L2N.CX P w) k f fd ps (spF g fun _ => .stuck) :=
  ⟨fun vs H Q E ⟨_, _, _, _, z⟩ => z.elim, fun A outer s H args us vs Q E _ _ _ _ ⟨_, _, _, _, z⟩ => z.elim⟩
theorem fn_stuckI {P : Program} {w : World} {K : PySem.W.Frag} {mg : Str → Option Value} {base : Heap} {g : Gm} {k : Nat} {f : Addr} {fd : FuncData} {ps : List Str} : FnOk P w K mg base (L2N.CX P w) k f fd ps (spI g fun _ => .stuck) :=
  ⟨fun vs H Q E ⟨_, _, _, _, _, _, _, _, _, _, z⟩ => z.elim, fun A outer s H args us vs Q E _ _ _ _ ⟨_, _, _, _, _, _, _, _, _, _, z⟩ => z.elim⟩
/-- the script handed to the law -/
theorem law_sp {g : Gm} {φ : List D → FOut} {K : PySem.W.Frag} (hK : g.K = K) {H : Hp} {a : Addr} {ns : List Int} (hO : Only H) (hS : SqL K H a (ns.map V.int)) (h : ∃ o, φ [.scr ns] = .ok (.bl true) o) : spF g φ [.ref a] H (fun v _ => v = .bl true) fun _ _ _ => False := by
  obtain ⟨o, h⟩ := h
  refine ⟨fun b => ∃ o, H b = some o, [.scr ns], fun b hb => hb, .cons ?_ .nil, ?_⟩
  · rcases hS with (hS | ⟨ob, hS⟩) | hS
    · rcases hO a with z | ⟨_, _, z⟩
      · rw [hS] at z; cases z
      · rw [hS] at z; cases z
    · exact .scF ⟨_, hS⟩ hS
    · exact .scK fun H' => .inr (by rw [hK]; exact hS)
  · rw [h]
    intro L' v H' _ r
    cases r
    rfl
end Z
namespace Z
open PySem PySem.Spec PyProof.Rows L2
/-- what may leave a def, the world forgotten -/
def CXA : CXT := fun outer H s E e s' => ∃ P w, L2N.CX P w outer H s E e s'
theorem FnOk.anyCX {P : Program} {w : World} {K : PySem.W.Frag} {mg : Str → Option Value} {base : Heap} {k : Nat} {f : Addr} {fd : FuncData} {ps : List Str} {sp : Sp} (F : FnOk P w K mg base (L2N.CX P w) k f fd ps sp) : FnOk P w K mg base CXA k f fd ps sp :=
  ⟨F.len, fun A outer s H args us vs Q E hr he hb hv hs => codeAny_mono (F.run A outer s H args us vs Q E hr he hb hv hs) fun r s' h => by
    cases r with
    | ok fl => cases fl <;> exact h
    | error e => exact ⟨P, w, h⟩⟩
theorem CXA.out {H : Hp} {s : Shared} {e : Value} {s' : Shared} (z : CXA [] H s (fun _ _ _ => False) e s') : False := by
  obtain ⟨_, _, _, _, _, _, _, _, _, _, _, _, _, _, z⟩ := z
  exact z
end Z

/-! zip, enumerate, max, min -/
namespace Z
open PySem PySem.Spec PyProof.Rows L2
theorem Rep.same {g : Gm} {L : Addr → Prop} {H H' : Hp} (s : Same H H') {d : D} {v : V} (r : Rep g L H d v) : Rep g L H' d v := r.mono (fun _ h => h) (fun a vs h => s a _ h) fun a o _ h => s a o h
def pairD (a b : D) : D := .tup [a, b]
def mIZ (m1 m2 : M Hd) : M (List D) := fun A => (mDs [m1, m2] A).bind fun ds A1 => match ds with
  | [.tup xs, .tup ys] => .ok (List.zipWith pairD xs ys) A1
  | _ => .stuck
section
variable {g : Gm} {X : Cx} {W : WX} {σ : L2.St} {L : Addr → Prop} {A : Fr} {H : Hp} {pos p tpos : Pos}
theorem itOk_zip {a b : Addr} {xs ys : List D} (h1 : ∀ L2 A2 σ2 H2, Stp L A σ H L2 A2 σ2 H2 → Okf g L2 A2 σ2 H2 → ∃ vs, SqT g.K H2 a vs ∧ Reps g L2 H2 xs vs) (h2 : ∀ L2 A2 σ2 H2, Stp L A σ H L2 A2 σ2 H2 → Okf g L2 A2 σ2 H2 → ∃ vs, SqT g.K H2 b vs ∧ Reps g L2 H2 ys vs) :
    ItOk g (RZ.ItzT g.K a b) L A σ H (List.zipWith pairD xs ys) := by
  intro L2 A2 σ2 H2 S G i
  obtain ⟨vs, sq, rs⟩ := h1 L2 A2 σ2 H2 S G
  obtain ⟨us, sq2, rs2⟩ := h2 L2 A2 σ2 H2 S G
  refine ⟨fun hi => ?_, fun d hd x H3 y => ?_, fun hi => ⟨vs, us, sq, sq2, ?_⟩⟩
  · rw [List.length_zipWith] at hi
    obtain ⟨v, hv, _⟩ := rs.get (List.getElem?_eq_getElem (show i < xs.length by omega))
    obtain ⟨u, hu, _⟩ := rs2.get (List.getElem?_eq_getElem (show i < ys.length by omega))
    exact ⟨vs, us, v, u, sq, sq2, hv, hu⟩
  · obtain ⟨T, x1, y1, rfl, n, rfl, e1, e2⟩ := y
    rw [List.getElem?_zipWith] at hd
    cases q1 : xs[i]? with
    | none => rw [q1] at hd; cases hd
    | some d1 =>
      cases q2 : ys[i]? with
      | none => rw [q1, q2] at hd; cases hd
      | some d2 =>
        rw [q1, q2] at hd
        cases hd
        obtain ⟨v, hv, r1⟩ := rs.get q1
        obtain ⟨u, hu, r2⟩ := rs2.get q2
        rw [e1 vs sq] at hv
        rw [e2 us sq2] at hu
        cases hv; cases hu
        have s : Same H2 (upd H2 T (.tup [x1, y1])) := same_new n
        exact ⟨s, .tup upd_same (.cons (r1.same s) (.cons (r2.same s) .nil))⟩
  · rw [List.length_zipWith] at hi
    rw [← rs.len, ← rs2.len]; omega
theorem rep_tup {ds : List D} {v : V} (G : Okf g L A σ H) (r : Rep g L H (.tup ds) v) : ∃ a, v = .ref a ∧ (∃ vs, SqT g.K H a vs) ∧ ∀ L2 A2 σ2 H2, Stp L A σ H L2 A2 σ2 H2 → Okf g L2 A2 σ2 H2 → ∃ vs, SqT g.K H2 a vs ∧ Reps g L2 H2 ds vs := by
  have r' := r
  cases r with
  | @tup a vs _ ha rs =>
    refine ⟨a, rfl, ⟨vs, SqT.of ha⟩, fun L2 A2 σ2 H2 S2 G2 => ?_⟩
    have r2 := r'.step G S2
    cases r2 with
    | tup ha2 rs2 => exact ⟨_, SqT.of ha2, rs2⟩
theorem ji_zip {e e2 : Expr} {elts : List Expr} {kk : Nat} {m1 m2 : M Hd} (hK : g.K = X.K) (hm : X.mg "zip" = none) (ha : JA g X W [e, e2] (mDs [m1, m2])) (hg : Gl X "zip" := by rfl)
    (hs : starEach [e, e2] X.env = (false, eval e X.env) :: starEach [e2] X.env := by rfl) (hpl : (backTo pos (starEach [e2] X.env)).any (·.1) = false := by rfl) :
    JI g X W (.Tuple elts kk tpos) (.Call (.Name "zip" p) [e, e2] [] pos) (mIZ m1 m2) := by
  refine pi_imp (RZ.pi_zipA hg hm ha hs hpl) fun σ H R ⟨L, A, G, w⟩ => ⟨L, A, G, w.bind.mono fun ds A1 L1 H1 S1 G1 w1 vs rs => ?_⟩
  split at w1
  · rename_i xs ys
    cases rs with
    | cons r1 rr =>
      cases rr with
      | cons r2 rr =>
        cases rr
        obtain ⟨a, rfl, ⟨us, q1⟩, h1⟩ := rep_tup G1 r1
        obtain ⟨b, rfl, ⟨ws, q2⟩, h2⟩ := rep_tup G1 r2
        rw [hK] at q1 q2
        refine ⟨a, b, us, ws, rfl, .inr ⟨q1, q2, ?_⟩⟩
        rw [← hK]
        exact w1 L1 H1 Stp.refl G1 _ (itOk_zip h1 h2)
  · exact w1.elim
/-! ### max, min -/
def maxL : List Int → Int
  | [] => 0
  | [x] => x
  | x :: xs => max x (maxL xs)
def minL : List Int → Int
  | [] => 0
  | [x] => x
  | x :: xs => min x (minL xs)
theorem maxL_ok : ∀ {l : List Int}, l ≠ [] → maxL l ∈ l ∧ ∀ y, y ∈ l → y ≤ maxL l
  | [x], _ => by simp [maxL]
  | x :: y :: l, _ => by
    obtain ⟨a, b⟩ := maxL_ok (l := y :: l) (by simp)
    simp only [maxL]
    refine ⟨?_, fun z hz => ?_⟩
    · rcases Int.le_total x (maxL (y :: l)) with h | h
      · rw [Int.max_eq_right h]; exact List.mem_cons_of_mem _ a
      · rw [Int.max_eq_left h]; simp
    · rcases List.mem_cons.1 hz with rfl | hz
      · omega
      · have := b z hz; omega
theorem minL_ok : ∀ {l : List Int}, l ≠ [] → minL l ∈ l ∧ ∀ y, y ∈ l → minL l ≤ y
  | [x], _ => by simp [minL]
  | x :: y :: l, _ => by
    obtain ⟨a, b⟩ := minL_ok (l := y :: l) (by simp)
    simp only [minL]
    refine ⟨?_, fun z hz => ?_⟩
    · rcases Int.le_total x (minL (y :: l)) with h | h
      · rw [Int.min_eq_left h]; simp
      · rw [Int.min_eq_right h]; exact List.mem_cons_of_mem _ a
    · rcases List.mem_cons.1 hz with rfl | hz
      · omega
      · have := b z hz; omega
def maxS (ds : List D) : Option RD := match ds with
  | [.int i, .int j] => some (.v (.int (if j > i then j else i)))
  | [.lst xs] => (match intsD xs with
    | some (n :: ns) => some (.v (.int (maxL (n :: ns))))
    | _ => none)
  | _ => none
def minS (ds : List D) : Option RD := match ds with
  | [.int i, .int j] => some (.v (.int (if j < i then j else i)))
  | [.lst xs] => (match intsD xs with
    | some (n :: ns) => some (.v (.int (minL (n :: ns))))
    | _ => none)
  | _ => none
theorem c_max (hc : X.calm = true) : CallR X (.builtin "max") (rDn g maxS) := by
  intro pins s σ H xs us Q I r h
  obtain ⟨L, ds, rr, c, e, k⟩ := h
  unfold maxS at e
  split at e
  · cases e
    cases c with
    | cons c1 cr =>
      cases cr with
      | cons c2 cr =>
        cases cr
        exact call_max2 hc pins s σ H _ us Q I r ⟨_, _, by rw [c1.int, c2.int], k _ H (Same.refl H) (.int _)⟩
  · split at e
    · rename_i n ns e1
      cases e
      obtain ⟨v, rfl, c1⟩ := c.one
      obtain ⟨a, vs, rfl, ha, ra⟩ := c1.lst
      rw [intsD_vs ra e1] at ha
      obtain ⟨m1, m2⟩ := maxL_ok (l := n :: ns) (by simp)
      refine cr_max hc pins s σ H _ us Q I r ⟨a, n :: ns, rfl, SqL.of ha, by simp, fun m h1 h2 => ?_⟩
      have : m = maxL (n :: ns) := Int.le_antisymm (m2 m h1) (h2 _ m1)
      rw [this]
      exact k _ H (Same.refl H) (.int _)
    · cases e
  · cases e
theorem c_min (hc : X.calm = true) : CallR X (.builtin "min") (rDn g minS) := by
  intro pins s σ H xs us Q I r h
  obtain ⟨L, ds, rr, c, e, k⟩ := h
  unfold minS at e
  split at e
  · cases e
    cases c with
    | cons c1 cr =>
      cases cr with
      | cons c2 cr =>
        cases cr
        exact call_min2 hc pins s σ H _ us Q I r ⟨_, _, by rw [c1.int, c2.int], k _ H (Same.refl H) (.int _)⟩
  · split at e
    · rename_i n ns e1
      cases e
      obtain ⟨v, rfl, c1⟩ := c.one
      obtain ⟨a, vs, rfl, ha, ra⟩ := c1.lst
      rw [intsD_vs ra e1] at ha
      obtain ⟨m1, m2⟩ := minL_ok (l := n :: ns) (by simp)
      refine cr_min hc pins s σ H _ us Q I r ⟨a, n :: ns, rfl, SqL.of ha, by simp, fun m h1 h2 => ?_⟩
      have : m = minL (n :: ns) := Int.le_antisymm (h2 _ m1) (m2 m h1)
      rw [this]
      exact k _ H (Same.refl H) (.int _)
    · cases e
  · cases e
end
end Z

/-! enumerate over a tuple -/
namespace Z
open PySem PySem.Spec PyProof.Rows L2
open Sem (wp)
open AutoSeq1 (wpAny_loadPart')
set_option maxHeartbeats 1000000 in
theorem meets_enumT (tp : Addr) (its : Array Value) (ob : Obj) (hcl : ob.cls = .type "tuple") (hdt : ∃ k, ob.data = .seq its k) :
    Meets (Builtin.«enumerate.__new__» ⟨[.type "enumerate", .ref tp], []⟩) (fun _ R s => s.heap.get? tp = some ob ∧
      R (.ok (.ret (.ref (s.heap.push { cls := .type "tuple_iterator", data := .fields #[.ref tp, .int 0 0] }).objs.size)))
        { s with heap := (s.heap.push { cls := .type "tuple_iterator", data := .fields #[.ref tp, .int 0 0] }).push { cls := .type "enumerate", data := .fields #[.none, .bool false, .ref s.heap.objs.size, rawInt 0, .none, .none] } }) :=
  .of_wp fun prog w A R s h => by
    obtain ⟨c, dct, dt, sl⟩ := ob
    replace hcl : c = .type "tuple" := hcl
    obtain ⟨k, hdt⟩ := hdt
    replace hdt : dt = .seq its k := hdt
    subst hcl hdt
    obtain ⟨hp, g, d, tk, os⟩ := s
    obtain ⟨ht, h⟩ := h
    have hsub := sub_enumerate
    have hT : Heap.IsTuple (Shared.heap ⟨hp, g, d, tk, os⟩) tp its := ⟨_, ht, rfl, k, rfl⟩
    wp_walk using wpAny_loadPart' ht
    refine wpAny_stack_any fun st => wpAny_pure ?_
    split
    · rename_i c _ _ _ _ _
      cases (c == Value.type "enumerate")
      · wp_walk using wpAny_loadPart' ht, wpAny_pyIter_tuple hT
        exact ⟨_, rfl, h⟩
      · wp_walk using wpAny_loadPart' ht, wpAny_pyIter_tuple hT
        exact ⟨_, rfl, h⟩
    · wp_walk using wpAny_loadPart' ht, wpAny_pyIter_tuple hT
      exact ⟨_, rfl, h⟩
theorem call_enumT {prog : Program} {w : World} {A : Around} {E : Value → Shared → Prop} {s : Shared} {tp : Addr} {its : Array Value} {Q : Value → Shared → Prop} (hT : s.heap.IsTuple tp its)
    (h : ∀ h', IsEnum h' (s.heap.objs.size + 1) s.heap.objs.size 0 .none → h'.IsTupleIter s.heap.objs.size tp 0 → (∀ b o, s.heap.get? b = some o → h'.get? b = some o) → Q (.ref (s.heap.objs.size + 1)) { s with heap := h' }) :
    wpAny (model prog w) A (PySem.call (.type "enumerate") [.ref tp]) Q E s := by
  obtain ⟨ob, ho, hc, hd⟩ := hT
  refine callType_new F.called_enumerate (by decide) (F.typeCall_enumerate_1 _) (F.newCall_enumerate_1 _) (fun q => F.args_object_init_2 q _) F.entry_enumerate_new (meets_enumT tp its ob hc hd) ⟨ho, ?_⟩
  have hz : (s.heap.push { cls := .type "tuple_iterator", data := .fields #[.ref tp, .int 0 0] }).objs.size = s.heap.objs.size + 1 := Heap.size_push ..
  show _ ∧ _
  rw [hz]
  have he : IsEnum ((s.heap.push { cls := .type "tuple_iterator", data := .fields #[.ref tp, .int 0 0] }).push
      { cls := .type "enumerate", data := .fields #[.none, .bool false, .ref s.heap.objs.size, rawInt 0, .none, .none] }) (s.heap.objs.size + 1) s.heap.objs.size 0 .none := by
    have q := Heap.get?_push_size (s.heap.push { cls := .type "tuple_iterator", data := .fields #[.ref tp, .int 0 0] }) (o := { cls := .type "enumerate", data := .fields #[.none, .bool false, .ref s.heap.objs.size, rawInt 0, .none, .none] }) rfl
    rw [hz] at q; exact q
  exact ⟨⟨_, he, rfl⟩, h _ he ⟨_, Heap.get?_push_of_some _ (Heap.get?_push_size _ rfl), rfl, rfl⟩ fun b o y => Heap.get?_push_of_some _ (Heap.get?_push_of_some _ y)⟩
theorem next_enumT_end {prog : Program} {w : World} {A : Around} {E : Value → Shared → Prop} {s : Shared} {e it tp : Addr} {i : Nat} {its : Array Value} {old : Value} {Q : Option Value → Shared → Prop} (hh : A.handled = none)
    (he : IsEnum s.heap e it i old) (hit : s.heap.IsTupleIter it tp i) (hp : s.heap.IsTuple tp its) (hx : its[i]? = none) (hQ : ∀ h', Heap.ExtBut it s.heap h' → Q none { s with heap := h' }) : wpAny (model prog w) A (pyNext (.ref e)) Q E s := by
  have ty : s.TypeIs (.ref e) "enumerate" := ⟨_, he, rfl⟩
  unfold pyNext
  refine wpAny_bind (wpAny_attempt (wpAny_callSpecial?_slot (name := Str.ofString "__next__") ty F.slot_enumerate_next (wpAny_call_entry F.slot_enumerate_next ty F.entry_enumerate_next ?_ (F.args_enumerate_next_1 _))))
  show wpAny _ _ (field (.ref e) 2 >>= fun _ => _) _ _ _
  refine wpAny_bind (wpAny_field he rfl (x := .ref it) rfl (wpAny_bind (wpAny_nextOf_tuple_end hh hit hp hx fun h' x he' hx' => ?_)))
  obtain ⟨o, ho, hc⟩ := hx'
  exact wpAny_bind (wpAny_isInstance (T := "StopIteration") (b := true) ⟨o, ho, hc⟩ isSubtype_stop (wpAny_pure (hQ _ he')))
/-- the tuple at a, each item in a new pair -/
def IteT (K : PySem.W.Frag) (a : Addr) : It :=
  ⟨fun i H => ∃ (xs : List V) (x : V), SqT K H a xs ∧ xs[i]? = some x, fun i H v H' => ∃ T x, v = .ref T ∧ H T = none ∧ H' = upd H T (.tup [.int (i : Nat), x]) ∧ ∀ xs, SqT K H a xs → xs[i]? = some x, fun i H => ∃ xs : List V, SqT K H a xs ∧ xs.length ≤ i⟩
theorem turn_enumT {P : Program} {w : World} {K : PySem.W.Frag} {elts : List Expr} {kk : Nat} {tpos : Pos} (a e it : Addr) :
    Turn P w K (.Tuple elts kk tpos) (IteT K a) [e, it] e (fun i h => (∃ old, IsEnum h e it ((i : Nat) : Int) old) ∧ h.IsTupleIter it a i ∧ e ≠ it ∧ a ≠ it ∧ e ≠ a) where
  mem := by simp
  obj := fun i h st b hb => by
    obtain ⟨⟨old, he⟩, ⟨o, ho, hc, hd⟩, _⟩ := st
    rcases (by simpa using hb : b = e ∨ b = it) with z | z
    · rw [z]; exact ⟨_, he, fun v q => nomatch q⟩
    · rw [z]; exact ⟨o, ho, fun v q => by rw [hd] at q; cases q⟩
  keep := fun i h h' st k => let ⟨⟨old, he⟩, hi, hne⟩ := st; ⟨⟨old, k e (by simp) _ he⟩, hi.at fun o q => k it (by simp) o q, hne⟩
  item := by
    intro X hP hw hK hc i pins s σ H E I hf st hg
    subst hP hw hK
    obtain ⟨⟨old, he⟩, hit, hne, hai, hea⟩ := st
    obtain ⟨xs, x, hq, hx⟩ := hg
    obtain ⟨its, rv, p, hz⟩ := I.tuple hq
    obtain ⟨u, hu, ru⟩ := rv.get hx
    have hel : e < s.heap.objs.size := Heap.lt_size he
    have hil : it < s.heap.objs.size := by obtain ⟨_, q, _⟩ := hit; exact Heap.lt_size q
    have hi : i < its.toArray.size := by
      rcases Nat.lt_or_ge i its.length with z | z
      · simpa using z
      · rw [List.getElem?_eq_none z] at hu; cases hu
    refine wpAny_pyNext_enum_itemD (Draws.tuple (A := X.A.in1) (show X.A.in1.handled = none from I.ok.hd hc) it a hai its.toArray) he ⟨hit, p⟩ hi hne (by simp [hne, hea]) fun y h' tk hy ho hst hT hsz hk => ?_
    have ey : y = u := by
      have := hy.symm.trans (show its.toArray[i]? = some u by simpa using hu)
      exact Option.some.inj this
    subst ey
    refine ⟨_, rfl, wpAny_letOwnedTupleGo_enum (s := { s with heap := h', toks := tk + 1 }) ho fun h'' he' sb => ?_⟩
    have hT2 : h''.get? s.heap.objs.size = some { cls := .type "tuple", data := .seq #[.int i tk, y] } := (sb.2 _ (Nat.ne_of_gt hel)).trans hT
    have new : ObjOk X.prog X.w (upd H s.heap.objs.size (.tup [.int (i : Nat), x])) h'' s.heap.objs.size (.tup [.int (i : Nat), x]) :=
      ⟨by show 2 ≤ sizeLine; decide, [.int i tk, y], .cons ⟨_, rfl⟩ (.cons ru .nil), ⟨_, hT2, rfl, _, rfl⟩⟩
    have I1 : Inv X pins σ (upd H s.heap.objs.size (.tup [.int (i : Nat), x])) { s with heap := h'', toks := tk + 1 } :=
      I.turnedNew (ch := [e, it]) (fun b ob hb q => (sb.2 b (fun z => hb (by simp [z]))).trans (hk b ob (fun z => hb (by simp [z])) (fun z => hb (by simp [z])) q)) hf (Nat.le_refl _) new
    refine ⟨.ref s.heap.objs.size, _, I1, rfl, ⟨_, x, rfl, I.hok.fresh (Nat.le_refl _), rfl, fun ys hy => by rw [I.tuple_inj hy hq]; exact hx⟩, ⟨⟨y, ?_⟩, hst.1.at fun o q => (sb.2 it (Ne.symm hne)).trans q, hne, hai, hea⟩, fun b hb => ?_⟩
    · have e1 : ((i + 1 : Nat) : Int) = (i : Int) + 1 := by omega
      rw [e1]; exact he'
    · have hb' : b < s.heap.objs.size := by
        rcases (by simpa using hb : b = e ∨ b = it) with z | z
        · rw [z]; exact hel
        · rw [z]; exact hil
      rw [upd_ne (Nat.ne_of_lt hb')]
      exact (hf b hb).1
  done := by
    intro X hP hw hK hc i pins s σ H E I hf st hg
    subst hP hw hK
    obtain ⟨⟨old, he⟩, hit, hne, hai, hea⟩ := st
    obtain ⟨xs, hq, hx⟩ := hg
    obtain ⟨its, rv, p, hz⟩ := I.tuple hq
    obtain ⟨f0, f1, f2, f3, f4, f5⟩ := hf it (by simp)
    have hl := rv.length
    exact next_enumT_end (I.ok.hd hc) he hit p (by simp; omega) fun h' eb => ⟨rfl, I.turned (t' := s.toks) (fun b o hb q => eb b o hb q) f0 f1 f3 f4 f5⟩
  self := fun A i s Q E st h => let ⟨⟨_, he⟩, _⟩ := st; wpAny_pyIter_enum he h
def iEnumT (K : PySem.W.Frag) (ta : TA) : TI := fun σ H R => ta σ H fun vs H1 => ∃ a xs, vs = [.ref a] ∧ SqT K H1 a xs ∧ R (IteT K a) H1
theorem pi_enumT {X : Cx} {e : Expr} {ta : TA} {p pos tpos : Pos} {elts : List Expr} {kk : Nat} (hg : Gl X "enumerate") (hm : X.mg "enumerate" = none) (ha : PA X [e] ta) (hs : starEach [e] X.env = [(false, eval e X.env)] := by rfl) : PI X (.Tuple elts kk tpos) (.Call (.Name "enumerate" p) [e] [] pos) (iEnumT X.K ta) := by
  refine ⟨fun pins s σ H R I h => Call_ (ld_blt I hg hm boot_enumerate (PyProof.Rows.callWith_type1 (thn (ha.run pos pins s σ H _ I h) fun us s1 ⟨vs, H1, I1, r1, q1⟩ => ?_) hs rfl))⟩
  obtain ⟨a, xs, ex, hq, q⟩ := q1
  subst ex
  cases r1 with
  | cons r rr =>
    cases rr
    cases r
    obtain ⟨its, rv, p', hz⟩ := I1.tuple hq
    have al : a < s1.heap.objs.size := by obtain ⟨o, ho, _⟩ := id p'; exact Heap.lt_size ho
    refine call_enumT (show s1.heap.IsTuple a its.toArray from p') fun h' he hit hk => wpAny_pyIter_enum he ?_
    have I2 : Inv X pins σ H1 { s1 with heap := h' } := I1.kept (t' := s1.toks) hk
    refine ⟨s1.heap.objs.size + 1, [s1.heap.objs.size + 1, s1.heap.objs.size], _, _, H1, rfl, I2, turn_enumT a (s1.heap.objs.size + 1) s1.heap.objs.size, ⟨⟨.none, he⟩, hit, Nat.succ_ne_self _, Nat.ne_of_lt al, Nat.ne_of_gt (Nat.lt_succ_of_lt al)⟩, fun b hb => ?_, q⟩
    have hle : s1.heap.objs.size ≤ b := by
      rcases (by simpa using hb : b = s1.heap.objs.size + 1 ∨ b = s1.heap.objs.size) with z | z
      · rw [z]; exact Nat.le_add_right _ _
      · rw [z]; exact Nat.le_refl _
    exact I1.fpOk hle (I1.hok.fresh hle)
def enumD (xs : List D) : List D := List.zipWith pairD (rangeL 0 xs.length) xs
def mIE (m : M Hd) : M (List D) := fun A => (mDs [m] A).bind fun ds A1 => match ds with
  | [.tup xs] => .ok (enumD xs) A1
  | _ => .stuck
section
variable {g : Gm} {X : Cx} {W : WX} {σ : L2.St} {L : Addr → Prop} {A : Fr} {H : Hp} {pos p tpos : Pos}
theorem enumD_get {xs : List D} {i : Nat} : (enumD xs)[i]? = (xs[i]?).map fun d => pairD (.int (i : Nat)) d := by
  unfold enumD rangeL
  rw [List.getElem?_zipWith, List.getElem?_map]
  cases q : xs[i]? with
  | none =>
    cases (List.range xs.length)[i]? <;> rfl
  | some d =>
    have hi : i < xs.length := by
      rcases Nat.lt_or_ge i xs.length with z | z
      · exact z
      · rw [List.getElem?_eq_none z] at q; cases q
    rw [List.getElem?_range hi]
    simp [pairD]
theorem enumD_len {xs : List D} : (enumD xs).length = xs.length := by
  unfold enumD rangeL
  simp
theorem itOk_enum {a : Addr} {xs : List D} (h1 : ∀ L2 A2 σ2 H2, Stp L A σ H L2 A2 σ2 H2 → Okf g L2 A2 σ2 H2 → ∃ vs, SqT g.K H2 a vs ∧ Reps g L2 H2 xs vs) : ItOk g (IteT g.K a) L A σ H (enumD xs) := by
  intro L2 A2 σ2 H2 S G i
  obtain ⟨vs, sq, rs⟩ := h1 L2 A2 σ2 H2 S G
  refine ⟨fun hi => ?_, fun d hd x H3 y => ?_, fun hi => ⟨vs, sq, ?_⟩⟩
  · rw [enumD_len] at hi
    obtain ⟨v, hv, _⟩ := rs.get (List.getElem?_eq_getElem hi)
    exact ⟨vs, v, sq, hv⟩
  · obtain ⟨T, x1, rfl, n, rfl, e1⟩ := y
    rw [enumD_get] at hd
    cases q1 : xs[i]? with
    | none => rw [q1] at hd; cases hd
    | some d1 =>
      rw [q1] at hd
      cases hd
      obtain ⟨v, hv, r1⟩ := rs.get q1
      rw [e1 vs sq] at hv
      cases hv
      have s : Same H2 (upd H2 T (.tup [.int (i : Nat), x1])) := same_new n
      exact ⟨s, .tup upd_same (.cons (.int _) (.cons (r1.same s) .nil))⟩
  · rw [enumD_len] at hi
    rw [← rs.len]; exact hi
theorem ji_enum {e : Expr} {elts : List Expr} {kk : Nat} {m : M Hd} (hK : g.K = X.K) (hm : X.mg "enumerate" = none) (ha : JA g X W [e] (mDs [m])) (hg : Gl X "enumerate" := by rfl) (hs : starEach [e] X.env = [(false, eval e X.env)] := by rfl) :
    JI g X W (.Tuple elts kk tpos) (.Call (.Name "enumerate" p) [e] [] pos) (mIE m) := by
  refine pi_imp (pi_enumT hg hm ha hs) fun σ H R ⟨L, A, G, w⟩ => ⟨L, A, G, w.bind.mono fun ds A1 L1 H1 S1 G1 w1 vs rs => ?_⟩
  split at w1
  · rename_i xs
    cases rs with
    | cons r1 rr =>
      cases rr
      obtain ⟨a, rfl, ⟨us, q1⟩, h1⟩ := rep_tup G1 r1
      rw [hK] at q1
      refine ⟨a, us, rfl, q1, ?_⟩
      rw [← hK]
      exact w1 L1 H1 Stp.refl G1 _ (itOk_enum h1)
  · exact w1.elim
end
end Z

/-! the head where only some error classes stand in the linked text -/
namespace Z
open PySem PySem.Spec PyProof.Rows L2
structure RefsC (cs : List Nat) (K : PySem.W.Frag) (mg : Str → Option Value) (g : Gm) : Prop where
  at_ : ∀ c, c ∈ cs → mg (clsN c) = some (.ref (g.xa c))
  exc : ∀ c, c ∈ cs → PySem.W.excIn K (g.xa c) HandSPX.veTail "ValueError.__new__" = true ∧ PySem.W.keepIn K (.ref (g.xa c)) = true ∧ PySem.W.subIn K (.ref (g.xa c)) (.type "BaseException") = some true ∧ PySem.W.typeIn K (.ref (g.xa c)) = some (.type "type")
def clsC (K : PySem.W.Frag) (c : Nat) : Bool := (He.Fa.glo (clsN c)).ok K && (He.Fa.exc (clsN c)).ok K
def ckC (cs : List Nat) (K : PySem.W.Frag) : Bool := cs.all (clsC K)
theorem refsC_of {cs : List Nat} {K : PySem.W.Frag} {h : Heap} {mg : Str → Option Value} {fa : Nat → Addr} (X : K.In h) (G : h.Ns mainGlobals mg) (c : ckC cs K = true) : RefsC cs K mg ⟨K, fa, xaK K⟩ := by
  have hq : ∀ i, i ∈ cs → (He.Fa.glo (clsN i)).ok K = true ∧ (He.Fa.exc (clsN i)).ok K = true := fun i hi => by
    have := List.all_eq_true.mp c i hi
    unfold clsC at this
    rw [Bool.and_eq_true] at this
    exact this
  refine ⟨fun i hi => He.glo_ok X G (hq i hi).1, fun i hi => ?_⟩
  have q := He.exc_ok (hq i hi).2
  exact ⟨q.1, q.2.1, q.2.2.1, q.2.2.2⟩
def obsC (cs : List Nat) (n : Nat) (fa : List He.Fa) (fn : List He.DefD) (g : Addr → Option Obj) : AlZ := (ckC cs (He.frG g (He.asD g n)), He.obsD fa fn (He.frG g (He.asD g n)))
def hookC (cs : List Nat) (n : Nat) (fa : List He.Fa) (fn : List He.DefD) : PySem.W.Hook where
  α := AlZ
  obs := fun s => obsC cs n fa fn s.heap.get?
  val := fun _ => valZ fn
  says := fun _ h => ∃ K : PySem.W.Frag, K.In h ∧ ckC cs K = true ∧ He.SaysD fa fn K
  of := fun _ _ e => ⟨_, He.frG_in, congrArg (fun z : AlZ => z.1) e, congrArg (fun z : AlZ => z.2) e⟩
  keeps := fun _ _ _ ⟨K, hK, c⟩ k => ⟨K, PySem.W.Frag.In.keeps hK k, c⟩
theorem obsC_eq {cs : List Nat} {n : Nat} {fa : List He.Fa} {fn : List He.DefD} {g : Addr → Option Obj} {s : Shared} (h : ∀ a, g a = s.heap.get? a) : obsC cs n fa fn g = (hookC cs n fa fn).obs s := by
  have e : g = s.heap.get? := funext h
  rw [e] <;> rfl
end Z

/-! calls of a local name; zip and enumerate over lists; len(set(..)) -/
namespace Z
open PySem PySem.Spec PyProof.Rows L2
def mCallL (Φ : Phi) (ns : List Nat) (i : Nat) (ms : List (M Hd)) : M Hd := fun A => match A[i]? with
  | some (.val (.fn n)) => if n ∈ ns then (mDs ms A).bind fun ds A1 => (match Φ n ds with
      | .ok d _ => .ok (.d d) A1
      | .exc c _ => .exc c A1
      | .stuck => .stuck) else .stuck
  | _ => .stuck
section
variable {g : Gm} {X : Cx} {W : WX} {σ : L2.St} {L : Addr → Prop} {A : Fr} {H : Hp} {pos p tpos : Pos}
theorem je_callL (ns : List Nat) (i : Nat) {Φ : Phi} {k : Nat} {x : Str} {e : Expr} {es : List Expr} {ms : List (M Hd)} (C : ∀ n, n ∈ ns → ∃ y, Cal X.prog X.w X.K X.mg X.base g k n (spF g (Φ n)) y) (hr : Room k X.A) (tk : L2N.Takes X W) (ha : JA g X W (e :: es) (mDs ms))
    (hN : X.N[i]? = some x := by rfl) (hv : Vis X.env.scope x := by first | exact Or.inl rfl | exact Or.inr (Or.inl rfl) | exact Or.inr (Or.inr rfl)) (hdb : (x == ("__debug__" : Str)) = false := by decide) (hcd : (x == ("__classdict__" : Str)) = false := by decide)
    (he : starEach (e :: es) X.env = (false, eval e X.env) :: starEach es X.env := by rfl) (hpl : (backTo pos (starEach es X.env)).any (·.1) = false := by rfl) : JE g X W (.Call (.Name x p) (e :: es) [] pos) (mCallL Φ ns i ms) := by
  refine ⟨fun pins s σ H Q I h => ?_⟩
  obtain ⟨L, A, G, w⟩ := h
  unfold mCallL at w
  split at w
  · rename_i n q
    split at w
    · rename_i hn
      obtain ⟨y, C⟩ := C n hn
      obtain ⟨fd, ps, F, hb⟩ := C.ex
      obtain ⟨v, ev, rv⟩ := G.slot i _ q
      cases rv
      refine wpAny_Call_Name_kw (thn ((pe_var (pos := p) hN hv hdb hcd).run pins s σ H (fun v H1 => v = .ref (g.fa n) ∧ H1 = H) I ⟨_, ev, rfl, rfl⟩) fun u s1 ⟨v, H1, I1, r1, q1⟩ => ?_)
      obtain ⟨rfl, rfl⟩ := q1
      cases r1
      have hargs : TAd g W (mDs ms) σ _ fun vs H2 => spF g (Φ n) vs H2 Q (L2.WE W σ) := ⟨L, A, G, w.bind.mono fun ds A1 L1 H1 S1 G1 w1 vs rs => by
        refine ⟨L1, ds, G1.dom, rs, ?_⟩
        cases e : Φ n ds with
        | ok d o =>
          simp only [e] at w1
          intro L' v H' F' r
          obtain ⟨S2, G2⟩ := G1.called F'
          exact w1 L' H' S2 G2 v r
        | exc c o =>
          simp only [e] at w1
          intro L' H' F'
          obtain ⟨S2, G2⟩ := G1.called F'
          exact w1 L' H' S2 G2
        | stuck => simp only [e] at w1; exact w1.elim⟩
      refine PySem.W.callWith_K (h₀ := X.base) I.ok.mod.kin C.kp (thn (ha.run pos pins s1 σ _ _ I1 hargs) fun us s2 ⟨vs, H2, I2, r, q⟩ => ⟨I2.kIn, ?_⟩) he hpl
      have q' : spF g (Φ n) (vs ++ []) H2 Q (L2.WE W σ) := by rw [List.append_nil]; exact q
      exact run_fnSD (E := fun σ => L2.WE W σ) F hr hb .nil (L2N.passAt tk σ) I2 r q'
    · exact w.elim
  · exact w.elim
/-! ### zip, enumerate over lists -/
def mIZL (m1 m2 : M Hd) : M (List D) := fun A => (mDs [m1, m2] A).bind fun ds A1 => match ds with
  | [.lst xs, .lst ys] => .ok (List.zipWith pairD xs ys) A1
  | _ => .stuck
def mIEL (m : M Hd) : M (List D) := fun A => (mDs [m] A).bind fun ds A1 => match ds with
  | [.lst xs] => .ok (enumD xs) A1
  | _ => .stuck
theorem rep_lst {ds : List D} {v : V} (G : Okf g L A σ H) (r : Rep g L H (.lst ds) v) : ∃ a, v = .ref a ∧ (∃ vs, SqL g.K H a vs) ∧ ∀ L2 A2 σ2 H2, Stp L A σ H L2 A2 σ2 H2 → Okf g L2 A2 σ2 H2 → ∃ vs, SqL g.K H2 a vs ∧ Reps g L2 H2 ds vs := by
  have r' := r
  cases r with
  | @lst a vs _ la ha rs =>
    refine ⟨a, rfl, ⟨vs, SqL.of ha⟩, fun L2 A2 σ2 H2 S2 G2 => ?_⟩
    have r2 := r'.step G S2
    cases r2 with
    | lst _ ha2 rs2 => exact ⟨_, SqL.of ha2, rs2⟩
theorem itOk_zipL {a b : Addr} {xs ys : List D} (h1 : ∀ L2 A2 σ2 H2, Stp L A σ H L2 A2 σ2 H2 → Okf g L2 A2 σ2 H2 → ∃ vs, SqL g.K H2 a vs ∧ Reps g L2 H2 xs vs) (h2 : ∀ L2 A2 σ2 H2, Stp L A σ H L2 A2 σ2 H2 → Okf g L2 A2 σ2 H2 → ∃ vs, SqL g.K H2 b vs ∧ Reps g L2 H2 ys vs) :
    ItOk g (Itz g.K a b) L A σ H (List.zipWith pairD xs ys) := by
  intro L2 A2 σ2 H2 S G i
  obtain ⟨vs, sq, rs⟩ := h1 L2 A2 σ2 H2 S G
  obtain ⟨us, sq2, rs2⟩ := h2 L2 A2 σ2 H2 S G
  refine ⟨fun hi => ?_, fun d hd x H3 y => ?_, fun hi => ⟨vs, us, sq, sq2, ?_⟩⟩
  · rw [List.length_zipWith] at hi
    obtain ⟨v, hv, _⟩ := rs.get (List.getElem?_eq_getElem (show i < xs.length by omega))
    obtain ⟨u, hu, _⟩ := rs2.get (List.getElem?_eq_getElem (show i < ys.length by omega))
    exact ⟨vs, us, v, u, sq, sq2, hv, hu⟩
  · obtain ⟨T, x1, y1, rfl, n, rfl, e1, e2⟩ := y
    rw [List.getElem?_zipWith] at hd
    cases q1 : xs[i]? with
    | none => rw [q1] at hd; cases hd
    | some d1 =>
      cases q2 : ys[i]? with
      | none => rw [q1, q2] at hd; cases hd
      | some d2 =>
        rw [q1, q2] at hd
        cases hd
        obtain ⟨v, hv, r1⟩ := rs.get q1
        obtain ⟨u, hu, r2⟩ := rs2.get q2
        rw [e1 vs sq] at hv
        rw [e2 us sq2] at hu
        cases hv; cases hu
        have s : Same H2 (upd H2 T (.tup [x1, y1])) := same_new n
        exact ⟨s, .tup upd_same (.cons (r1.same s) (.cons (r2.same s) .nil))⟩
  · rw [List.length_zipWith] at hi
    rw [← rs.len, ← rs2.len]; omega
theorem ji_zipL {e e2 : Expr} {elts : List Expr} {kk : Nat} {m1 m2 : M Hd} (hK : g.K = X.K) (hm : X.mg "zip" = none) (ha : JA g X W [e, e2] (mDs [m1, m2])) (hg : Gl X "zip" := by rfl)
    (hs : starEach [e, e2] X.env = (false, eval e X.env) :: starEach [e2] X.env := by rfl) (hpl : (backTo pos (starEach [e2] X.env)).any (·.1) = false := by rfl) :
    JI g X W (.Tuple elts kk tpos) (.Call (.Name "zip" p) [e, e2] [] pos) (mIZL m1 m2) := by
  refine pi_imp (RZ.pi_zipA hg hm ha hs hpl) fun σ H R ⟨L, A, G, w⟩ => ⟨L, A, G, w.bind.mono fun ds A1 L1 H1 S1 G1 w1 vs rs => ?_⟩
  split at w1
  · rename_i xs ys
    cases rs with
    | cons r1 rr =>
      cases rr with
      | cons r2 rr =>
        cases rr
        obtain ⟨a, rfl, ⟨us, q1⟩, h1⟩ := rep_lst G1 r1
        obtain ⟨b, rfl, ⟨ws, q2⟩, h2⟩ := rep_lst G1 r2
        rw [hK] at q1 q2
        refine ⟨a, b, us, ws, rfl, .inl ⟨q1, q2, ?_⟩⟩
        rw [← hK]
        exact w1 L1 H1 Stp.refl G1 _ (itOk_zipL h1 h2)
  · exact w1.elim
theorem itOk_enumL {a : Addr} {xs : List D} (h1 : ∀ L2 A2 σ2 H2, Stp L A σ H L2 A2 σ2 H2 → Okf g L2 A2 σ2 H2 → ∃ vs, SqL g.K H2 a vs ∧ Reps g L2 H2 xs vs) : ItOk g (Ite g.K a) L A σ H (enumD xs) := by
  intro L2 A2 σ2 H2 S G i
  obtain ⟨vs, sq, rs⟩ := h1 L2 A2 σ2 H2 S G
  refine ⟨fun hi => ?_, fun d hd x H3 y => ?_, fun hi => ⟨vs, sq, ?_⟩⟩
  · rw [enumD_len] at hi
    obtain ⟨v, hv, _⟩ := rs.get (List.getElem?_eq_getElem hi)
    exact ⟨vs, v, sq, hv⟩
  · obtain ⟨T, x1, rfl, n, rfl, e1⟩ := y
    rw [enumD_get] at hd
    cases q1 : xs[i]? with
    | none => rw [q1] at hd; cases hd
    | some d1 =>
      rw [q1] at hd
      cases hd
      obtain ⟨v, hv, r1⟩ := rs.get q1
      rw [e1 vs sq] at hv
      cases hv
      have s : Same H2 (upd H2 T (.tup [.int (i : Nat), x1])) := same_new n
      exact ⟨s, .tup upd_same (.cons (.int _) (.cons (r1.same s) .nil))⟩
  · rw [enumD_len] at hi
    rw [← rs.len]; exact hi
theorem ji_enumL {e : Expr} {elts : List Expr} {kk : Nat} {m : M Hd} (hK : g.K = X.K) (hm : X.mg "enumerate" = none) (ha : JA g X W [e] (mDs [m])) (hg : Gl X "enumerate" := by rfl) (hs : starEach [e] X.env = [(false, eval e X.env)] := by rfl) :
    JI g X W (.Tuple elts kk tpos) (.Call (.Name "enumerate" p) [e] [] pos) (mIEL m) := by
  refine pi_imp (pi_enum hg hm ha hs) fun σ H R ⟨L, A, G, w⟩ => ⟨L, A, G, w.bind.mono fun ds A1 L1 H1 S1 G1 w1 vs rs => ?_⟩
  split at w1
  · rename_i xs
    cases rs with
    | cons r1 rr =>
      cases rr
      obtain ⟨a, rfl, ⟨us, q1⟩, h1⟩ := rep_lst G1 r1
      rw [hK] at q1
      refine ⟨a, us, rfl, q1, ?_⟩
      rw [← hK]
      exact w1 L1 H1 Stp.refl G1 _ (itOk_enumL h1)
  · exact w1.elim
/-! ### len(set(xs)), xs a list of ints -/
/-- how many different ones -/
def distI (ns : List Int) : Nat := (PyProof.Rows.firstMet (fun i => ns.getD i 0) ns.length).length
def lenSetS (d : D) : Option RD := match d with
  | .lst xs => (match intsD xs with
    | some ns => if ns.length ≤ 4000 then some (.v (.int (distI ns : Nat))) else none
    | none => none)
  | _ => none
theorem firstMet_le (f : Nat → Int) : ∀ n, (PyProof.Rows.firstMet f n).length ≤ n
  | 0 => Nat.le_refl _
  | n + 1 => by
    rw [PyProof.Rows.firstMet_succ]
    have := firstMet_le f n
    unfold PyProof.Rows.step_dedup
    split <;> simp <;> omega
def tLenS (K : PySem.W.Frag) (ta : TE) : TE := fun σ H Q => ta σ H fun x H1 => ∃ (l : Addr) (ns : List Int), x = .ref l ∧ SqL K H1 l (ns.map V.int) ∧ ns.length ≤ 4000 ∧ Q (.int (distI ns : Nat)) H1
theorem pe_lenS {a : Expr} {ta : TE} {p2 q : Pos} (hg : Gl X "len") (hm : X.mg "len" = none) (hg2 : Gl X "set") (hm2 : X.mg "set" = none) (ha : PE X a ta) (hc : X.calm = true)
    (na : starEach [a] X.env = (false, eval a X.env) :: starEach [] X.env) : PE X (.Call (.Name "len" p) [.Call (.Name "set" p2) [a] [] q] [] pos) (tLenS X.K ta) := by
  refine ⟨fun pins s σ H Q I h => ?_⟩
  refine Call_ (ld_blt I hg hm boot_len (PyProof.Rows.callWith_builtin1 (PyProof.Rows.args_cons ?_ rfl) rfl rfl))
  refine Call_ (ld_blt I hg2 hm2 boot_set (PyProof.Rows.callWith_type1 (PyProof.Rows.args_cons (thn (ha.run pins s σ H _ I h) fun v s1 ⟨x, H1, I1, r1, q1⟩ => PyProof.Rows.args_nil ?_) na) na rfl))
  obtain ⟨l, ns, rfl, hq, hl, q1⟩ := q1
  cases r1
  obtain ⟨its, r, pl, hz⟩ := I1.list hq
  have el : its.toArray.size = ns.length := by rw [List.size_toArray, ← r.length, List.length_map]
  refine call_set_list (I1.ok.hd hc) pl.isList (by simpa using RZ.intsAre_vals r) (by rw [el]; unfold scanBound; omega) fun h' tk hS hk => PyProof.Rows.args_nil ?_
  rw [el] at hS
  have le := firstMet_le (fun i => ns.getD i 0) ns.length
  obtain ⟨o, es, ep, t, ho, hex, hd, _, _, _, hf, hn⟩ := hS
  have I2 : L2.Inv X pins σ H1 { s1 with heap := h', toks := tk } := I1.kept fun b o e => hk b o (Heap.lt_size e) e
  exact call_len_set ho hex hd hf (by rw [hn] <;> omega) ⟨.int (distI ns : Nat), H1, I2.tok _, ⟨_, by rw [hn] <;> rfl⟩, q1⟩
theorem je_lenSet {a : Expr} {m : M Hd} {p2 q : Pos} (hm : X.mg "len" = none) (hm2 : X.mg "set" = none) (ha : JE g X W a m) (hc : X.calm = true) (hg : Gl X "len" := by rfl) (hg2 : Gl X "set" := by rfl) (na : starEach [a] X.env = (false, eval a X.env) :: starEach [] X.env := by rfl) :
    JE g X W (.Call (.Name "len" p) [.Call (.Name "set" p2) [a] [] q] [] pos) (mUn lenSetS m) := by
  refine pe_imp (pe_lenS hg hm hg2 hm2 ha hc na) fun σ H Q h => ?_
  obtain ⟨L, A, G, w⟩ := un_ok h
  refine ⟨L, A, G, w.mono fun h1 A1 L1 H1 S1 G1 w1 v1 r1 => ?_⟩
  obtain ⟨L', d1, r, c1, e, k⟩ := w1 v1 r1
  unfold lenSetS at e
  split at e
  · split at e
    · rename_i ns e1
      split at e
      · rename_i hl
        cases e
        obtain ⟨ad, vs, rfl, ha, ra⟩ := c1.lst
        rw [intsD_vs ra e1] at ha
        exact ⟨ad, ns, rfl, SqL.of ha, hl, k _ H1 (Same.refl H1) (.int _)⟩
      · cases e
    · cases e
  · cases e
/-! ### a call with a new dict as its last argument, that the def may change -/
def mCallF (Φ : Phi) (f : Nat) (ms : List (M Hd)) : M Hd := fun A => (mDs ms A).bind fun ds A1 => match Φ f (ds ++ [.dct [] []]) with
  | .ok d _ => .ok (.d d) A1
  | .exc c _ => .exc c A1
  | .stuck => .stuck
/-- arguments that are taken, a new dict behind them -/
def TAf (g : Gm) (W : WX) (m : M (List D)) : TA := fun σ H Q => ∃ L A, Okf g L A σ H ∧ Wp g W σ L A H (m A) fun ds A' L' H' => ∀ vs a, Reps g L' (upd H' a (.dK [])) ds vs → H' a = none → Q (vs ++ [.ref a]) (upd H' a (.dK []))
abbrev JAf (g : Gm) (X : Cx) (W : WX) (es : List Expr) (m : M (List D)) : Prop := PA X es (TAf g W m)
theorem jaf_last {dp : Pos} (hs : starEach [.Dict [] [] dp] X.env = (false, eval (.Dict [] [] dp) X.env) :: starEach [] X.env := by rfl) : JAf g X W [.Dict [] [] dp] (mDs []) := by
  refine pa_imp (pa_cons pe_dnewK pa_nil hs) fun σ H Q ⟨L, A, G, w⟩ => ?_
  exact fun a ha => w L H Stp.refl G [] a .nil ha
theorem jaf_cons {e : Expr} {es : List Expr} {m : M Hd} {ms : List (M Hd)} (ha : JE g X W e m) (hr : JAf g X W es (mDs ms)) (hs : starEach (e :: es) X.env = (false, eval e X.env) :: starEach es X.env := by rfl) : JAf g X W (e :: es) (mDs (m :: ms)) := by
  refine pa_imp (pa_cons (jd ha) hr hs) fun σ H Q ⟨L, A, G, w⟩ => ?_
  refine ⟨L, A, G, w.bind.mono fun d1 A1 L1 H1 S1 G1 w1 v1 r1 => ⟨L1, A1, G1, w1.bind.mono fun ds A2 L_2 H2 S2 G2 w2 vs a rs hn => ?_⟩⟩
  exact w2 L_2 H2 Stp.refl G2 _ a (.cons ((r1.step G1 S2).same (same_new hn)) rs) hn
theorem je_callF {Φ : Phi} {f k : Nat} {x : Str} {e : Expr} {es : List Expr} {ms : List (M Hd)} (C : Cal X.prog X.w X.K X.mg X.base g k f (spI g (Φ f)) x) (hr : Room k X.A) (tk : L2N.Takes X W) (ha : JAf g X W (e :: es) (mDs ms)) (hg : Gl X x := by rfl) (hdb : (x == ("__debug__" : Str)) = false := by decide)
    (he : starEach (e :: es) X.env = (false, eval e X.env) :: starEach es X.env := by rfl) (hpl : (backTo pos (starEach es X.env)).any (·.1) = false := by rfl) : JE g X W (.Call (.Name x p) (e :: es) [] pos) (mCallF Φ f ms) := by
  obtain ⟨fd, ps, F, hb⟩ := C.ex
  refine pe_imp (pe_callS F hr hg C.at_ C.kp hb (fun σ => L2N.passAt tk σ) ha hdb he hpl) fun σ H Q ⟨L, A, G, w⟩ => ⟨L, A, G, w.bind.mono fun ds A1 L1 H1 S1 G1 w1 vs a rs hn => ?_⟩
  have nl : ¬ L1 a := fun z => by obtain ⟨o, q⟩ := G1.dom a z; rw [hn] at q; cases q
  have sm : Same H1 (upd H1 a (.dK [])) := same_new hn
  obtain ⟨S2, G2⟩ := G1.same sm
  have no : ¬ Own A1 σ a := G1.not_own (.inr (.inl hn))
  refine ⟨L1, ds, vs, .dct [] [], a, rfl, G2.dom, rs, nl, ⟨[], upd_same, rfl, .nil⟩, ?_⟩
  -- what the call did to the new dict is nobody's
  have step : ∀ {L' : Addr → Prop} {H' : Hp}, StpF L1 (fun b => b = a) (upd H1 a (.dK [])) L' H' → StpF L1 noO H1 L' H' := fun {L' H'} F' => by
    refine ⟨F'.mono, fun b hb => ?_, fun b o eb _ => ?_, fun b o eb => F'.dom b o (sm b o eb), F'.ldom⟩
    · rcases F'.new b hb with z | z
      · exact .inl z
      · refine .inr ?_
        cases q : H1 b with
        | none => rfl
        | some o => rw [sm b o q] at z; cases z
    · exact F'.keep b o (sm b o eb) fun z => by rw [z, hn] at eb; cases eb
  cases e : Φ f (ds ++ [.dct [] []]) with
  | ok d o =>
    simp only [e] at w1
    intro L' v H' F' _ _ r
    obtain ⟨S3, G3⟩ := G1.called (step F')
    exact w1 L' H' S3 G3 v r
  | exc c o =>
    simp only [e] at w1
    intro L' H' F' _ _
    obtain ⟨S3, G3⟩ := G1.called (step F')
    exact w1 L' H' S3 G3
  | stuck => simp only [e] at w1; exact w1.elim
end
end Z

/-! list(zip(a, b)) of two tuples -/
namespace Z
open PySem PySem.Spec PyProof.Rows L2 PySem.W
/-! ### several new objects at once -/
/-- the heap with new things -/
def lays (H : Hp) (N : Addr → Option HO) : Hp := fun b => match N b with
  | some o => some o
  | none => H b
section
variable {X : Cx} {pins : List (Addr × Obj)} {σ : L2.St} {H : Hp} {s : Shared} {N : Addr → Option HO} {h' : Heap}
theorem lays_new {b : Addr} {o : HO} (e : N b = some o) : lays H N b = some o := by unfold lays; rw [e]
theorem lays_old (I : L2.Inv X pins σ H s) (hl : ∀ a o, N a = some o → s.heap.objs.size ≤ a) {b : Addr} {o : HO} (e : H b = some o) : lays H N b = some o := by
  unfold lays
  cases q : N b with
  | none => exact e
  | some o' =>
    have := I.hok.fresh (hl b o' q)
    rw [e] at this; cases this
theorem inv_lays {t' : Nat} (I : L2.Inv X pins σ H s) (k : ∀ b u, s.heap.get? b = some u → h'.get? b = some u) (hl : ∀ a o, N a = some o → s.heap.objs.size ≤ a) (ok : ∀ a o, N a = some o → ObjOk X.prog X.w (lays H N) h' a o) : L2.Inv X pins σ (lays H N) { s with heap := h', toks := t' } := by
  have old : ∀ {b : Addr} {o : HO}, H b = some o → lays H N b = some o := fun e => lays_old I hl e
  have u : Un X.fs [] H (lays H N) s.heap h' := ⟨fun b u q _ _ _ => k b u q, fun b u q _ _ _ => ⟨u.slots, k b u q⟩, fun b u q n _ => by
    unfold lays
    cases z : N b with
    | none => exact n
    | some o => exact absurd (hl b o z) (Nat.not_le_of_lt (Heap.lt_size q)), fun b u q _ => ⟨u, k b u q⟩, fun b xs q => old q, fun b u xs q => old q, fun b ps q => ⟨#[], by rw [old q]; simp⟩⟩
  refine I.un u fun b o e => ?_
  unfold lays at e
  cases z : N b with
  | none =>
    simp only [z] at e
    exact (I.hok b o e).stay (fun c v _ q => k c v q) (fun c q => old q) fun c xs q => old q
  | some o' =>
    simp only [z] at e
    cases e
    exact ok b _ z
end
theorem reps_get {g : Gm} {L : Addr → Prop} {H : Hp} : ∀ {ds : List D} {vs : List V}, ds.length = vs.length → (∀ (i : Nat) d v, ds[i]? = some d → vs[i]? = some v → Rep g L H d v) → Reps g L H ds vs
  | [], [], _, _ => .nil
  | d :: ds, v :: vs, hl, h => .cons (h 0 d v rfl rfl) (reps_get (by simpa using hl) fun i e u a b => h (i + 1) e u a b)
/-! ### next, while the tuple of before is still there: tuples -/
section
variable {prog : Program} {w : World} {A : Around} {E : Value → Shared → Prop} {s : Shared}
theorem zipT_item_held {z TI TO T i1 i2 l1 l2 : Addr} {f : Bool} {oT : Obj} {k1 k2 : Nat} {xs ys : Array Value} {x y : Value} {Q : Value → Shared → Prop} (D : ZipApart z TI TO i1 i2 l1 l2)
    (hz : IsZipHeld s.heap z TI TO T f) (hT : s.heap.get? T = some oT) (hTI : IsPair s.heap TI (.ref i1) (.ref i2))
    (h1 : s.heap.IsTupleIter i1 l1 k1) (h2 : s.heap.IsTupleIter i2 l2 k2) (hl1 : s.heap.IsTuple l1 xs) (hl2 : s.heap.IsTuple l2 ys) (hx : xs[k1]? = some x) (hy : ys[k2]? = some y)
    (hQ : ∀ h', IsZipHeld h' z TI TO T true → h'.IsTupleIter i1 l1 (k1 + 1) → h'.IsTupleIter i2 l2 (k2 + 1) → IsPair h' s.heap.objs.size x y →
      (∀ c o, c ≠ z → c ≠ i1 → c ≠ i2 → s.heap.get? c = some o → h'.get? c = some o) → Q (.ref s.heap.objs.size) { s with heap := h' }) :
    wpAny (model prog w) A (Builtin.«zip.__next__» ⟨[.ref z], []⟩) (fun fin s' => ∃ v, fin = .done (.ret v) ∧ Q v s') E s := by
  show wpAny _ _ (field (.ref z) 2 >>= _) _ _ _
  refine wpAny_bind (wpAny_field hz rfl (x := .bool false) rfl ?_)
  show wpAny _ _ (field (.ref z) 3 >>= _) _ _ _
  refine wpAny_bind (wpAny_field hz rfl (x := .ref TI) rfl (wpAny_bind (wpAny_seqItems hTI rfl ?_)))
  show wpAny _ _ (Builtin.SmallTypes.ownedTupleIsFree (.ref z) >>= _) _ _ _
  refine wpAny_bind (wpAny_tupleHeld_zip hz hT fun g1 hz1 hs1 => ?_)
  simp only [Bool.false_eq_true, if_false]
  refine wpAny_bind ?_
  rw [← Array.forIn_toList]
  simp only [List.forIn_cons, List.forIn_nil]
  refine wpAny_bind (wpAny_bind (wpAny_holding ?_))
  show wpAny _ _ (Builtin.SmallTypes.nextOf (.ref i1) >>= _) _ _ _
  refine wpAny_bind (RZ.nextOf_tuple_item (s := { s with heap := g1 }) (h1.extBut hs1.extBut D.i1z) (hl1.extBut hs1.extBut D.l1z) hx fun g2 h12 hs2 => wpAny_pure (wpAny_pure ?_))
  refine wpAny_bind (wpAny_bind (wpAny_holding ?_))
  show wpAny _ _ (Builtin.SmallTypes.nextOf (.ref i2) >>= _) _ _ _
  refine wpAny_bind (RZ.nextOf_tuple_item (s := { s with heap := g2 }) ((h2.extBut hs1.extBut D.i2z).extBut hs2.extBut D.i12.symm) ((hl2.extBut hs1.extBut D.l2z).extBut hs2.extBut D.l2i1) hy fun g3 h23 hs3 => wpAny_pure (wpAny_pure (wpAny_pure ?_)))
  show wpAny _ _ (newTuple [x, y] >>= _) _ _ _
  refine wpAny_bind (wpAny_newTuple ?_)
  have sz : g3.objs.size = s.heap.objs.size := by rw [hs3.1, hs2.1, hs1.1]
  have kp : ∀ c o, c ≠ z → c ≠ i1 → c ≠ i2 → s.heap.get? c = some o → g3.get? c = some o := fun c o c1 c2 c3 e => hs3.extBut _ _ c3 (hs2.extBut _ _ c2 (hs1.extBut _ _ c1 e))
  refine wpAny_pure ⟨_, rfl, ?_⟩
  show Q (.ref g3.objs.size) _
  have np : IsPair (g3.push { cls := .type "tuple", data := .seq #[x, y] }) g3.objs.size x y := Heap.get?_push_size _ rfl
  rw [sz] at np ⊢
  exact hQ _ (Heap.get?_push_of_some _ (hs3.extBut _ _ D.i2z.symm (hs2.extBut _ _ D.i1z.symm hz1))) ((h12.extBut hs3.extBut D.i12).at fun o e => Heap.get?_push_of_some _ e) (h23.at fun o e => Heap.get?_push_of_some _ e) np fun c o c1 c2 c3 e => Heap.get?_push_of_some _ (kp c o c1 c2 c3 e)
theorem zipT_end_held {z TI TO T i1 i2 l1 l2 : Addr} {f : Bool} {oT : Obj} {k1 k2 : Nat} {xs ys : Array Value} {Q : PySem.Fin → Shared → Prop} (hh : A.handled = none) (D : ZipApart z TI TO i1 i2 l1 l2)
    (hz : IsZipHeld s.heap z TI TO T f) (hT : s.heap.get? T = some oT) (hTI : IsPair s.heap TI (.ref i1) (.ref i2))
    (h1 : s.heap.IsTupleIter i1 l1 k1) (h2 : s.heap.IsTupleIter i2 l2 k2) (hl1 : s.heap.IsTuple l1 xs) (hl2 : s.heap.IsTuple l2 ys) (hend : xs[k1]? = none ∨ ys[k2]? = none)
    (hE : ∀ h' e, (∀ c o, c ≠ z → c ≠ i1 → c ≠ i2 → s.heap.get? c = some o → h'.get? c = some o) → (∃ o, h'.get? e = some o ∧ o.cls = .type "StopIteration") → E (.ref e) { s with heap := h' }) :
    wpAny (model prog w) A (Builtin.«zip.__next__» ⟨[.ref z], []⟩) Q E s := by
  show wpAny _ _ (field (.ref z) 2 >>= _) _ _ _
  refine wpAny_bind (wpAny_field hz rfl (x := .bool false) rfl ?_)
  show wpAny _ _ (field (.ref z) 3 >>= _) _ _ _
  refine wpAny_bind (wpAny_field hz rfl (x := .ref TI) rfl (wpAny_bind (wpAny_seqItems hTI rfl ?_)))
  show wpAny _ _ (Builtin.SmallTypes.ownedTupleIsFree (.ref z) >>= _) _ _ _
  refine wpAny_bind (wpAny_tupleHeld_zip hz hT fun g1 hz1 hs1 => ?_)
  simp only [Bool.false_eq_true, if_false]
  refine wpAny_bind ?_
  rw [← Array.forIn_toList]
  simp only [List.forIn_cons, List.forIn_nil]
  refine wpAny_bind (wpAny_bind (wpAny_holding ?_))
  show wpAny _ _ (Builtin.SmallTypes.nextOf (.ref i1) >>= _) _ _ _
  cases hx : xs[k1]? with
  | none =>
    refine wpAny_bind (RZ.nextOf_tuple_end (s := { s with heap := g1 }) hh (h1.extBut hs1.extBut D.i1z) (hl1.extBut hs1.extBut D.l1z) hx fun g2 e hs2 he => ?_)
    exact hE g2 e (fun c o c1 c2 _ x => hs2 _ _ c2 (hs1.extBut _ _ c1 x)) he
  | some x =>
    have hy : ys[k2]? = none := by rcases hend with h | h; rw [hx] at h; cases h; exact h
    refine wpAny_bind (RZ.nextOf_tuple_item (s := { s with heap := g1 }) (h1.extBut hs1.extBut D.i1z) (hl1.extBut hs1.extBut D.l1z) hx fun g2 h12 hs2 => wpAny_pure (wpAny_pure ?_))
    refine wpAny_bind (wpAny_bind (wpAny_holding ?_))
    show wpAny _ _ (Builtin.SmallTypes.nextOf (.ref i2) >>= _) _ _ _
    refine wpAny_bind (RZ.nextOf_tuple_end (s := { s with heap := g2 }) hh ((h2.extBut hs1.extBut D.i2z).extBut hs2.extBut D.i12.symm) ((hl2.extBut hs1.extBut D.l2z).extBut hs2.extBut D.l2i1) hy fun g3 e hs3 he => ?_)
    exact hE g3 e (fun c o c1 c2 c3 x => hs3 _ _ c3 (hs2.extBut _ _ c2 (hs1.extBut _ _ c1 x))) he
theorem pyNext_zipT_item_held {z TI TO T i1 i2 l1 l2 : Addr} {f : Bool} {oT : Obj} {k1 k2 : Nat} {xs ys : Array Value} {x y : Value} {Q : Option Value → Shared → Prop} (D : ZipApart z TI TO i1 i2 l1 l2)
    (hz : IsZipHeld s.heap z TI TO T f) (hT : s.heap.get? T = some oT) (hTI : IsPair s.heap TI (.ref i1) (.ref i2))
    (h1 : s.heap.IsTupleIter i1 l1 k1) (h2 : s.heap.IsTupleIter i2 l2 k2) (hl1 : s.heap.IsTuple l1 xs) (hl2 : s.heap.IsTuple l2 ys) (hx : xs[k1]? = some x) (hy : ys[k2]? = some y)
    (hQ : ∀ h', IsZipHeld h' z TI TO T true → h'.IsTupleIter i1 l1 (k1 + 1) → h'.IsTupleIter i2 l2 (k2 + 1) → IsPair h' s.heap.objs.size x y →
      (∀ c o, c ≠ z → c ≠ i1 → c ≠ i2 → s.heap.get? c = some o → h'.get? c = some o) → Q (some (.ref s.heap.objs.size)) { s with heap := h' }) :
    wpAny (model prog w) A (pyNext (.ref z)) Q E s := by
  have ty : s.TypeIs (.ref z) "zip" := ⟨_, hz, rfl⟩
  unfold pyNext
  exact wpAny_bind (wpAny_attempt (wpAny_callSpecial?_slot (name := Str.ofString "__next__") ty F.slot_zip_next (wpAny_call_entry F.slot_zip_next ty F.entry_zip_next (zipT_item_held D hz hT hTI h1 h2 hl1 hl2 hx hy fun h' a1 a3 a4 a5 a7 => wpAny_pure (hQ h' a1 a3 a4 a5 a7)) (F.args_zip_next_1 _))))
theorem pyNext_zipT_end_held {z TI TO T i1 i2 l1 l2 : Addr} {f : Bool} {oT : Obj} {k1 k2 : Nat} {xs ys : Array Value} {Q : Option Value → Shared → Prop} (hh : A.handled = none) (D : ZipApart z TI TO i1 i2 l1 l2)
    (hz : IsZipHeld s.heap z TI TO T f) (hT : s.heap.get? T = some oT) (hTI : IsPair s.heap TI (.ref i1) (.ref i2))
    (h1 : s.heap.IsTupleIter i1 l1 k1) (h2 : s.heap.IsTupleIter i2 l2 k2) (hl1 : s.heap.IsTuple l1 xs) (hl2 : s.heap.IsTuple l2 ys) (hend : xs[k1]? = none ∨ ys[k2]? = none)
    (hQ : ∀ h', (∀ c o, c ≠ z → c ≠ i1 → c ≠ i2 → s.heap.get? c = some o → h'.get? c = some o) → Q none { s with heap := h' }) : wpAny (model prog w) A (pyNext (.ref z)) Q E s := by
  have ty : s.TypeIs (.ref z) "zip" := ⟨_, hz, rfl⟩
  unfold pyNext
  refine wpAny_bind (wpAny_attempt (wpAny_callSpecial?_slot (name := Str.ofString "__next__") ty F.slot_zip_next (wpAny_call_entry F.slot_zip_next ty F.entry_zip_next (zipT_end_held hh D hz hT hTI h1 h2 hl1 hl2 hend fun h' e hk he => ?_) (F.args_zip_next_1 _))))
  obtain ⟨o, ho, hc⟩ := he
  refine wpAny_bind (wpAny_isInstance (T := "StopIteration") (b := true) ⟨o, ho, hc⟩ isSubtype_stop ?_)
  exact wpAny_pure (hQ _ hk)
/-! ### the loop of list.extend -/
/-- the zip's cells between two turns -/
structure ZSt (z TI TO i1 i2 l1 l2 S : Addr) (xs ys : Array Value) (i : Nat) (h : Heap) : Prop where
  zip : (i = 0 ∧ IsZip h z TI TO .none ∧ ∃ a b, IsPair h TO a b) ∨ ∃ T f oT, IsZipHeld h z TI TO T f ∧ h.get? T = some oT ∧ T ≠ z ∧ T ≠ i1 ∧ T ≠ i2 ∧ T ≠ S
  to : ∃ o, h.get? TO = some o
  ti : IsPair h TI (.ref i1) (.ref i2)
  i1 : h.IsTupleIter i1 l1 i
  i2 : h.IsTupleIter i2 l2 i
  l1 : h.IsTuple l1 xs
  l2 : h.IsTuple l2 ys
def PrOf (h : Heap) (xs ys : Array Value) (n0 : Nat) (bad : List Addr) (j : Nat) (v : Value) : Prop := ∃ T x y, v = .ref T ∧ IsPair h T x y ∧ xs[j]? = some x ∧ ys[j]? = some y ∧ n0 ≤ T ∧ T ∉ bad
theorem zip_loop {R : Result → Shared → Prop} {z TI TO i1 i2 l1 l2 S : Addr} {xs ys : Array Value} {res : Value} {n0 : Nat} (hh : A.handled = none) (D : ZipApart z TI TO i1 i2 l1 l2) (hS : S ≠ z ∧ S ≠ TI ∧ S ≠ TO ∧ S ≠ i1 ∧ S ≠ i2 ∧ S ≠ l1 ∧ S ≠ l2)
    (hn : min xs.size ys.size ≤ sizeLine) :
    ∀ (k i : Nat) (s : Shared) (acc : Array Value) (c : Nat), min xs.size ys.size - i = k → i ≤ min xs.size ys.size → ZSt z TI TO i1 i2 l1 l2 S xs ys i s.heap → n0 ≤ s.heap.objs.size → s.heap.get? S = some { cls := .type "list", dict := none, data := .seq acc c, slots := #[] } → acc.size = i →
    (∀ j v, acc[j]? = some v → PrOf s.heap xs ys n0 [S, z, TO, i1, i2] j v) →
    (∀ h' acc' c', (∀ b o, b ∉ [S, z, TO, i1, i2] → s.heap.get? b = some o → h'.get? b = some o) → h'.get? S = some { cls := .type "list", dict := none, data := .seq acc' c', slots := #[] } → acc'.size = min xs.size ys.size → (∀ j v, acc'[j]? = some v → PrOf h' xs ys n0 [S, z, TO, i1, i2] j v) → R (.ok (.ret res)) { s with heap := h' }) →
    codeAny (model prog w) A (.builtin "list.extend.loop" ⟨[.ref S, .ref z, res], []⟩) R s := by
  have hh1 : A.in1.handled = none := hh
  intro k
  induction k with
  | zero =>
    intro i s acc c hk hi st hn0 hSl ha hacc hR
    have hin : i = min xs.size ys.size := by omega
    refine codeAny_builtin F.entry_extend_loop ?_
    rw [Around.under_plainId F.plain_extend_loop _]
    show wpAny _ A.in1 (pyNext (.ref z) >>= _) _ _ s
    have he : xs[i]? = none ∨ ys[i]? = none := by
      rcases Nat.le_total xs.size ys.size with z | z
      · exact .inl (by rw [Array.getElem?_eq_none]; omega)
      · exact .inr (by rw [Array.getElem?_eq_none]; omega)
    have fin : ∀ h', (∀ c o, c ≠ z → c ≠ TO → c ≠ i1 → c ≠ i2 → s.heap.get? c = some o → h'.get? c = some o) → R (.ok (.ret res)) { s with heap := h' } := fun h' kp => by
      refine hR h' acc c (fun b o hb e => ?_) (kp S _ hS.1 hS.2.2.1 hS.2.2.2.1 hS.2.2.2.2.1 hSl) (ha.trans hin) fun j v e => ?_
      · simp only [List.mem_cons, List.not_mem_nil, or_false, not_or] at hb
        exact kp b o hb.2.1 hb.2.2.1 hb.2.2.2.1 hb.2.2.2.2 e
      · obtain ⟨T, x, y, e1, e2, e3, e4, e5, e6⟩ := hacc j v e
        have hb := e6
        simp only [List.mem_cons, List.not_mem_nil, or_false, not_or] at hb
        exact ⟨T, x, y, e1, kp T _ hb.2.1 hb.2.2.1 hb.2.2.2.1 hb.2.2.2.2 e2, e3, e4, e5, e6⟩
    rcases st.zip with ⟨_, hz, a, b, hTO⟩ | ⟨T, f, oT, hz, hT, _⟩
    · exact wpAny_bind (RZ.pyNext_zipT_end hh1 D hz st.ti hTO st.i1 st.i2 st.l1 st.l2 he fun h' kp => wpAny_pure (fin h' kp))
    · exact wpAny_bind (pyNext_zipT_end_held hh1 D hz hT st.ti st.i1 st.i2 st.l1 st.l2 he fun h' kp => wpAny_pure (fin h' fun c o c1 _ c3 c4 e => kp c o c1 c3 c4 e))
  | succ k ih =>
    intro i s acc c hk hi st hn0 hSl ha hacc hR
    have hlt : i < min xs.size ys.size := by omega
    refine codeAny_builtin F.entry_extend_loop ?_
    rw [Around.under_plainId F.plain_extend_loop _]
    show wpAny _ A.in1 (pyNext (.ref z) >>= _) _ _ s
    have hx : xs[i]? = some xs[i] := by rw [Array.getElem?_eq_getElem]
    have hy : ys[i]? = some ys[i] := by rw [Array.getElem?_eq_getElem]
    have ltS : S < s.heap.objs.size := Heap.lt_size hSl
    have ltz : z < s.heap.objs.size := by
      rcases st.zip with ⟨_, hz, _⟩ | ⟨_, _, _, hz, _⟩
      · exact Heap.lt_size hz
      · exact Heap.lt_size hz
    have nTO : TO ≠ s.heap.objs.size := by obtain ⟨o, ho⟩ := st.to; exact Nat.ne_of_lt (Heap.lt_size ho)
    have lti1 : i1 < s.heap.objs.size := by obtain ⟨_, e, _⟩ := st.i1; exact Heap.lt_size e
    have lti2 : i2 < s.heap.objs.size := by obtain ⟨_, e, _⟩ := st.i2; exact Heap.lt_size e
    -- behind the turn
    have turn : ∀ (h' : Heap) (T : Addr) (f : Bool) (oT : Obj), (∃ o, h'.get? TO = some o) → IsZipHeld h' z TI TO T f → h'.get? T = some oT → T ≠ z → T ≠ i1 → T ≠ i2 → T ≠ S → h'.IsTupleIter i1 l1 (i + 1) → h'.IsTupleIter i2 l2 (i + 1) → IsPair h' s.heap.objs.size xs[i] ys[i] → (∀ c o, c ≠ z → c ≠ TO → c ≠ i1 → c ≠ i2 → s.heap.get? c = some o → h'.get? c = some o) →
        wpAny (model prog w) A.in1 (updateSeq S (·.push (.ref s.heap.objs.size)) >>= fun _ => again (.builtin "list.extend.loop" ⟨[.ref S, .ref z, res], []⟩)) (fun fin s' => match fin with | .done f => R (.ok f) s' | .again c' => c'.quiet = true ∧ codeAny (model prog w) A c' R s') (fun e s' => R (.error e) s') { s with heap := h' } := fun h' T f oT hTO' hz hT t1 t2 t3 t4 j1 j2 hp kp => by
      have hS' := kp S _ hS.1 hS.2.2.1 hS.2.2.2.1 hS.2.2.2.2.1 hSl
      have ut : ∀ b, S ≠ b → ∀ o, h'.get? b = some o → (h'.update S (Obj.mapSeq (·.push (Value.ref s.heap.objs.size)))).get? b = some o := fun b nb o e => (Heap.get?_update_other _ _ nb).trans e
      refine wpAny_bind (wpAny_updateSeq (s := { s with heap := h' }) hS' rfl (wpAny_pure ⟨plainId_quiet F.plain_extend_loop _, ih (i + 1) _ (acc.push (.ref s.heap.objs.size)) _ (by omega) hlt ?st ?n0 (Heap.get?_update_self _ hS' rfl) (by rw [Array.size_push, ha]) ?acc ?R⟩) (by rw [ha]; omega) (by show (acc.push _).size ≤ sizeLine + 1; rw [Array.size_push, ha]; omega))
      case st =>
        refine ⟨.inr ⟨T, f, oT, ut z hS.1 _ hz, ut T t4.symm _ hT, t1, t2, t3, t4⟩, (by obtain ⟨o, ho⟩ := hTO'; exact ⟨o, ut TO hS.2.2.1 o ho⟩), ut TI hS.2.1 _ (kp TI _ D.TIz D.TITO D.TIi1 D.TIi2 st.ti), j1.at fun o e => ut i1 hS.2.2.2.1 o e, j2.at fun o e => ut i2 hS.2.2.2.2.1 o e, ?_, ?_⟩
        · obtain ⟨o, ho, r⟩ := st.l1; exact ⟨o, ut l1 hS.2.2.2.2.2.1 o (kp l1 o D.l1z D.l1TO D.l1i1 D.l1i2 ho), r⟩
        · obtain ⟨o, ho, r⟩ := st.l2; exact ⟨o, ut l2 hS.2.2.2.2.2.2 o (kp l2 o D.l2z D.l2TO D.l2i1 D.l2i2 ho), r⟩
      case n0 =>
        show n0 ≤ (h'.update S _).objs.size
        rw [Heap.size_update]
        exact Nat.le_trans hn0 (Nat.le_of_lt (Heap.lt_size hp))
      case acc =>
        intro j v e
        rw [Array.getElem?_push] at e
        split at e
        · rename_i ej
          cases e
          rw [ha] at ej
          subst ej
          refine ⟨_, _, _, rfl, ut _ (Nat.ne_of_lt ltS) _ hp, hx, hy, hn0, ?_⟩
          simp only [List.mem_cons, List.not_mem_nil, or_false, not_or]
          exact ⟨Nat.ne_of_gt ltS, Nat.ne_of_gt ltz, nTO.symm, Nat.ne_of_gt lti1, Nat.ne_of_gt lti2⟩
        · obtain ⟨T', x, y, e1, e2, e3, e4, e5, e6⟩ := hacc j v e
          have hb := e6
          simp only [List.mem_cons, List.not_mem_nil, or_false, not_or] at hb
          exact ⟨T', x, y, e1, ut T' (fun q => hb.1 q.symm) _ (kp T' _ hb.2.1 hb.2.2.1 hb.2.2.2.1 hb.2.2.2.2 e2), e3, e4, e5, e6⟩
      case R =>
        intro h2 acc' c' kp2 e1 e2 e3
        refine hR h2 acc' c' (fun b o hb e => ?_) e1 e2 e3
        have hb' := hb
        simp only [List.mem_cons, List.not_mem_nil, or_false, not_or] at hb'
        exact kp2 b o hb (ut b (fun q => hb'.1 q.symm) o (kp b o hb'.2.1 hb'.2.2.1 hb'.2.2.2.1 hb'.2.2.2.2 e))
    rcases st.zip with ⟨_, hz, a, b, hTO⟩ | ⟨T, f, oT, hz, hT, t1, t2, t3, t4⟩
    · refine wpAny_bind (RZ.pyNext_zipT_item D hz st.ti hTO st.i1 st.i2 st.l1 st.l2 hx hy fun h' a1 a2 a3 a4 a5 _ kp => ?_)
      exact turn h' s.heap.objs.size false _ ⟨_, a2⟩ a1 a5 (Nat.ne_of_gt ltz) (Nat.ne_of_gt lti1) (Nat.ne_of_gt lti2) (Nat.ne_of_gt ltS) a3 a4 a5 kp
    · refine wpAny_bind (pyNext_zipT_item_held D hz hT st.ti st.i1 st.i2 st.l1 st.l2 hx hy fun h' a1 a3 a4 a5 kp => ?_)
      obtain ⟨oo, hoo⟩ := st.to
      exact turn h' T true oT ⟨oo, kp TO oo D.TOz D.TOi1 D.TOi2 hoo⟩ a1 (kp T _ t1 t2 t3 hT) t1 t2 t3 t4 a3 a4 a5 fun c o c1 _ c3 c4 e => kp c o c1 c3 c4 e
theorem zip_len0 : typeLookup (.type "zip") "__len__" = pure none := by rw [typeLookup_type, builtinLookup_eq_fast]; kernel_rfl
theorem zip_hint0 : typeLookup (.type "zip") "__length_hint__" = pure none := by rw [typeLookup_type, builtinLookup_eq_fast]; kernel_rfl
theorem ZSt.over {z TI TO i1 i2 l1 l2 S : Addr} {xs ys : Array Value} {i : Nat} {h h' : Heap} (st : ZSt z TI TO i1 i2 l1 l2 S xs ys i h) (hS : S ≠ z ∧ S ≠ TI ∧ S ≠ TO ∧ S ≠ i1 ∧ S ≠ i2 ∧ S ≠ l1 ∧ S ≠ l2) (k : ∀ b o, b ≠ S → h.get? b = some o → h'.get? b = some o) : ZSt z TI TO i1 i2 l1 l2 S xs ys i h' := by
  refine ⟨?_, ?_, k _ _ hS.2.1.symm st.ti, st.i1.at fun o e => k _ o hS.2.2.2.1.symm e, st.i2.at fun o e => k _ o hS.2.2.2.2.1.symm e, ?_, ?_⟩
  · rcases st.zip with ⟨e, hz, a, b, hTO⟩ | ⟨T, f, oT, hz, hT, t1, t2, t3, t4⟩
    · exact .inl ⟨e, k _ _ hS.1.symm hz, a, b, k _ _ hS.2.2.1.symm hTO⟩
    · exact .inr ⟨T, f, oT, k _ _ hS.1.symm hz, k _ _ t4 hT, t1, t2, t3, t4⟩
  · obtain ⟨o, ho⟩ := st.to; exact ⟨o, k _ o hS.2.2.1.symm ho⟩
  · obtain ⟨o, ho, r⟩ := st.l1; exact ⟨o, k _ o hS.2.2.2.2.2.1.symm ho, r⟩
  · obtain ⟨o, ho, r⟩ := st.l2; exact ⟨o, k _ o hS.2.2.2.2.2.2.symm ho, r⟩
theorem zip_extend {R : Result → Shared → Prop} {z TI TO i1 i2 l1 l2 S : Addr} {xs ys : Array Value} {res : Value} {n0 c0 : Nat} (hh : A.handled = none) (D : ZipApart z TI TO i1 i2 l1 l2) (hS : S ≠ z ∧ S ≠ TI ∧ S ≠ TO ∧ S ≠ i1 ∧ S ≠ i2 ∧ S ≠ l1 ∧ S ≠ l2) (hn : min xs.size ys.size ≤ sizeLine)
    (hz : IsZip s.heap z TI TO .none) (st : ZSt z TI TO i1 i2 l1 l2 S xs ys 0 s.heap) (hn0 : n0 ≤ s.heap.objs.size) (hSl : s.heap.get? S = some { cls := .type "list", data := .seq #[] c0 })
    (hR : ∀ h' acc' c', (∀ b o, b ∉ [S, z, TO, i1, i2] → s.heap.get? b = some o → h'.get? b = some o) → h'.get? S = some { cls := .type "list", dict := none, data := .seq acc' c', slots := #[] } → acc'.size = min xs.size ys.size → (∀ j v, acc'[j]? = some v → PrOf h' xs ys n0 [S, z, TO, i1, i2] j v) → R (.ok (.ret res)) { s with heap := h' }) :
    wpAny (model prog w) A.in1 (Builtin.List.listExtendWith (.ref S) (.ref z) res) (fun fin s' => match fin with | .done f => R (.ok f) s' | .again c' => c'.quiet = true ∧ codeAny (model prog w) A c' R s') (fun e s' => R (.error e) s') s := by
  have ty : s.TypeIs (.ref z) "zip" := ⟨_, hz, rfl⟩
  unfold Builtin.List.listExtendWith
  refine wpAny_bind (wpAny_typeOf ty ?_)
  have q1 : Builtin.List.listSameRef (.ref S) (.ref z) = false := by simp [Builtin.List.listSameRef, hS.1]
  have q2 : (Value.type "zip" == Value.type "list") = false := by decide
  have q3 : (Value.type "zip" == Value.type "tuple") = false := by decide
  simp only [q1, q2, q3, Bool.or_false, Bool.false_eq_true, if_false]
  refine wpAny_bind (wpAny_pyIter_zip hz (wpAny_bind (wpAny_holding ?_)))
  unfold Builtin.List.listLengthHint
  refine wpAny_bind (wpAny_specialOf ty zip_len0 ?_)
  show wpAny _ A.in1 (specialOf (Value.ref z) (Str.ofString "__length_hint__") >>= _) _ _ _
  refine wpAny_bind (wpAny_specialOf ty zip_hint0 (wpAny_pure ?_))
  show wpAny _ A.in1 (rule "list.extend.makes-room" >>= fun _ => Builtin.List.listTouch (.ref S) >>= fun _ => again (.builtin "list.extend.loop" ⟨[.ref S, .ref z, res], []⟩)) _ _ _
  refine wpAny_bind (wpAny_rule (wpAny_bind ?_))
  show wpAny _ A.in1 (updateSeq S (·.push .none) >>= fun _ => updateSeq S (·.pop)) _ _ _
  refine wpAny_bind (wpAny_updateSeq hSl rfl ?_)
  have e2 := Heap.get?_update_self (Obj.mapSeq (·.push Value.none)) hSl rfl
  refine wpAny_updateSeq (hz := by seq_fits) e2 rfl ?_
  have e3 := Heap.get?_update_self (Obj.mapSeq (·.pop)) e2 rfl
  have oth : ∀ b o, b ≠ S → s.heap.get? b = some o → ((s.heap.update S (Obj.mapSeq (·.push Value.none))).update S (Obj.mapSeq (·.pop))).get? b = some o := fun b o hb e => (Heap.get?_update_other _ _ (Ne.symm hb)).trans ((Heap.get?_update_other _ _ (Ne.symm hb)).trans e)
  refine wpAny_pure ⟨plainId_quiet F.plain_extend_loop _, zip_loop (n0 := n0) hh D hS hn _ 0 _ _ _ rfl (Nat.zero_le _) (st.over hS oth) ?_ e3 rfl (fun j v e => by simp [Obj.mapSeq] at e) fun h' acc' c' kp a1 a2 a3 => hR h' acc' c' (fun b o hb e => kp b o hb (oth b o (fun q => hb (by simp [q])) e)) a1 a2 a3⟩
  show n0 ≤ ((s.heap.update S _).update S _).objs.size
  rw [Heap.size_update, Heap.size_update]; exact hn0
theorem call_list_zip {Q : Value → Shared → Prop} {z TI TO i1 i2 l1 l2 : Addr} {xs ys : Array Value} {n0 : Nat} (hh : A.handled = none) (D : ZipApart z TI TO i1 i2 l1 l2) (hn : min xs.size ys.size ≤ sizeLine) (hz : IsZip s.heap z TI TO .none) (hTO : ∃ a b, IsPair s.heap TO a b) (hTI : IsPair s.heap TI (.ref i1) (.ref i2))
    (h1 : s.heap.IsTupleIter i1 l1 0) (h2 : s.heap.IsTupleIter i2 l2 0) (hl1 : s.heap.IsTuple l1 xs) (hl2 : s.heap.IsTuple l2 ys) (hn0 : n0 ≤ s.heap.objs.size)
    (hQ : ∀ h' acc' c', (∀ b o, b ∉ [z, TO, i1, i2] → s.heap.get? b = some o → h'.get? b = some o) → h'.get? s.heap.objs.size = some { cls := .type "list", dict := none, data := .seq acc' c', slots := #[] } → acc'.size = min xs.size ys.size → (∀ j v, acc'[j]? = some v → PrOf h' xs ys n0 [s.heap.objs.size, z, TO, i1, i2] j v) → Q (.ref s.heap.objs.size) { s with heap := h' }) :
    wpAny (model prog w) A (PySem.call (.type "list") [.ref z]) Q E s := by
  have lt : ∀ {b : Addr} {o : Obj}, s.heap.get? b = some o → s.heap.objs.size ≠ b := fun e => Nat.ne_of_gt (Heap.lt_size e)
  have hS : s.heap.objs.size ≠ z ∧ s.heap.objs.size ≠ TI ∧ s.heap.objs.size ≠ TO ∧ s.heap.objs.size ≠ i1 ∧ s.heap.objs.size ≠ i2 ∧ s.heap.objs.size ≠ l1 ∧ s.heap.objs.size ≠ l2 := by
    obtain ⟨_, _, e3⟩ := hTO
    obtain ⟨_, e4, _⟩ := id h1
    obtain ⟨_, e5, _⟩ := id h2
    obtain ⟨_, e6, _⟩ := id hl1
    obtain ⟨_, e7, _⟩ := id hl2
    exact ⟨lt hz, lt hTI, lt e3, lt e4, lt e5, lt e6, lt e7⟩
  refine callType_codes (Q₁ := fun obj s₁ => obj = .ref s.heap.objs.size ∧ s₁ = { s with heap := s.heap.push { cls := .type "list", data := .seq #[] } }) F.called_list (F.typeCall_list_1 _) F.entry_list_init (code_list_new _ ⟨rfl, rfl⟩) fun obj s₁ q => ?_
  obtain ⟨rfl, rfl⟩ := q
  have e0 : (s.heap.push { cls := .type "list", data := .seq #[] }).get? s.heap.objs.size = some { cls := .type "list", data := .seq #[] } := Heap.get?_push_size _ rfl
  have up : ∀ b o, s.heap.get? b = some o → (s.heap.push { cls := .type "list", data := .seq #[] }).get? b = some o := fun b o e => Heap.get?_push_of_some _ e
  refine ⟨⟨_, e0, rfl⟩, F.args_list_init_2 _ _, ?_⟩
  show wpAny _ A.in1.in1 (do let old ← Builtin.List.listItems (.ref s.heap.objs.size); Builtin.List.listUpdate (.ref s.heap.objs.size) (fun _ => #[]); letGo old.toList.reverse; Builtin.List.listExtendWith (.ref s.heap.objs.size) (.ref z) .none) _ _ _
  refine wpAny_bind ?_
  unfold Builtin.List.listItems
  refine wpAny_bind (wpAny_seqItems e0 rfl (wpAny_pure ?_))
  show wpAny _ A.in1.in1 (updateSeq s.heap.objs.size (fun _ => #[]) >>= fun _ => letGo (#[] : Array Value).toList.reverse >>= fun _ => Builtin.List.listExtendWith (.ref s.heap.objs.size) (.ref z) .none) _ _ _
  refine wpAny_bind (wpAny_updateSeq e0 rfl ?_)
  have e2 := Heap.get?_update_self (Obj.mapSeq (fun _ => (#[] : Array Value))) e0 rfl
  have oth : ∀ b o, b ≠ s.heap.objs.size → s.heap.get? b = some o → ((s.heap.push { cls := .type "list", data := .seq #[] }).update s.heap.objs.size (Obj.mapSeq (fun _ => (#[] : Array Value)))).get? b = some o := fun b o hb e => (Heap.get?_update_other _ _ (Ne.symm hb)).trans (up b o e)
  have st0 : ZSt z TI TO i1 i2 l1 l2 s.heap.objs.size xs ys 0 s.heap := by
    obtain ⟨a, b, e3⟩ := id hTO
    exact ⟨.inl ⟨rfl, hz, hTO⟩, ⟨_, e3⟩, hTI, h1, h2, hl1, hl2⟩
  refine wpAny_bind (wpAny_letGo (zip_extend (A := A.in1) (n0 := n0) hh D hS hn (oth _ _ hS.1.symm hz) (st0.over hS oth) ?_ e2 fun h' acc' c' kp a1 a2 a3 => ⟨rfl, hQ h' acc' c' (fun b o hb e => kp b o (fun q => ?_) (oth b o (Nat.ne_of_lt (Heap.lt_size e)) e)) a1 a2 a3⟩))
  · show n0 ≤ ((s.heap.push _).update _ _).objs.size
    rw [Heap.size_update]
    exact Nat.le_trans hn0 (Nat.le_of_lt (Heap.lt_size e0))
  · rcases List.mem_cons.1 q with q | q
    · exact Nat.ne_of_lt (Heap.lt_size e) q
    · exact hb q
end
theorem vals_getU : ∀ {xs : List V} {us : List Value} {i : Nat} {u : Value}, Vals xs us → us[i]? = some u → ∃ x, xs[i]? = some x ∧ RelV x u
  | _, _, _, _, .nil, e => by simp at e
  | _, _, 0, _, .cons r _, e => by simp at e; subst e; exact ⟨_, rfl, r⟩
  | _, _, i + 1, _, .cons _ t, e => by
    obtain ⟨x, a, b⟩ := vals_getU (i := i) t (by simpa using e)
    exact ⟨x, by simpa using a, b⟩
/-! ### as a rule -/
def mLZ (m1 m2 : M Hd) : M Hd := fun A => (mDs [m1, m2] A).bind fun ds A1 => match ds with
  | [.tup xs, .tup ys] => .ok (.f (.lst (List.zipWith pairD xs ys))) A1
  | _ => .stuck
section
variable {g : Gm} {X : Cx} {W : WX} {pos p : Pos}
open Classical in
theorem je_lz {e e2 : Expr} {m1 m2 : M Hd} {p2 q : Pos} (hK : g.K = X.K) (hc : X.calm = true) (hm : X.mg "list" = none) (hm2 : X.mg "zip" = none) (ha : JA g X W [e, e2] (mDs [m1, m2])) (hg : Gl X "list" := by rfl) (hg2 : Gl X "zip" := by rfl)
    (hs : starEach [e, e2] X.env = (false, eval e X.env) :: starEach [e2] X.env := by rfl) (hpl : (backTo q (starEach [e2] X.env)).any (·.1) = false := by rfl) :
    JE g X W (.Call (.Name "list" p) [.Call (.Name "zip" p2) [e, e2] [] q] [] pos) (mLZ m1 m2) := by
  refine ⟨fun pins s σ H Q I h => ?_⟩
  obtain ⟨L, A, G, w⟩ := h
  refine Call_ (ld_blt I hg hm PyProof.Rows.boot_list (PyProof.Rows.callWith_type1 (PyProof.Rows.args_cons ?_ rfl) rfl rfl))
  have hargs : TAd g W (mDs [m1, m2]) σ H fun vs H1 => ∃ L1 A1 xs ys v1 v2, vs = [v1, v2] ∧ Okf g L1 A1 σ H1 ∧ Rep g L1 H1 (.tup xs) v1 ∧ Rep g L1 H1 (.tup ys) v2 ∧ ∀ L' H' v, Stp L1 A1 σ H1 L' A1 σ H' → Okf g L' A1 σ H' → RelH g L' A1 σ H1 H' (.f (.lst (List.zipWith pairD xs ys))) v → Q v H' := ⟨L, A, G, w.bind.mono fun ds A1 L1 H1 S1 G1 w1 vs rs => by
    split at w1
    · rename_i xs ys
      cases rs with
      | cons r1 rr =>
        cases rr with
        | cons r2 rr =>
          cases rr
          exact ⟨L1, A1, xs, ys, _, _, rfl, G1, r1, r2, fun L' H' v S' G' r => w1 L' H' S' G' v (r.back fun a n => S1.none_back n)⟩
    · exact w1.elim⟩
  refine Call_ (ld_blt I hg2 hm2 PyProof.Rows.boot_zip (PyProof.Rows.callWith_type1 (thn (ha.run q pins s σ H _ I hargs) fun us s1 ⟨vs, H1, I1, r1, q1⟩ => ?_) hs hpl))
  obtain ⟨L1, A1, xs, ys, v1, v2, rfl, G1, rx, ry, fin⟩ := q1
  obtain ⟨u1, u2, rfl, ru1, ru2⟩ := r1.two
  cases rx with
  | @tup a vs1 _ ha1 rs1 =>
    cases ry with
    | @tup b vs2 _ hb1 rs2 =>
      cases ru1; cases ru2
      obtain ⟨its, rv, p1, z1⟩ := I1.tuple (SqT.of ha1)
      obtain ⟨its2, rv2, p2', z2⟩ := I1.tuple (SqT.of hb1)
      obtain ⟨o1, ho1, _⟩ := id p1
      obtain ⟨o2, ho2, _⟩ := id p2'
      refine RZ.call_zipT (show s1.heap.IsTuple a its.toArray from p1) (show s1.heap.IsTuple b its2.toArray from p2') fun h' hz hTI hTO h1 h2 hsz hk => ?_
      refine PyProof.Rows.args_nil ?_
      have hl1 : h'.IsTuple a its.toArray := by obtain ⟨o, ho, r⟩ := (show s1.heap.IsTuple a its.toArray from p1); exact ⟨o, hk _ _ ho, r⟩
      have hl2 : h'.IsTuple b its2.toArray := by obtain ⟨o, ho, r⟩ := (show s1.heap.IsTuple b its2.toArray from p2'); exact ⟨o, hk _ _ ho, r⟩
      have hle : min its.toArray.size its2.toArray.size ≤ sizeLine := by
        have := rv.length
        simp only [List.size_toArray]
        omega
      refine call_list_zip (s := { s1 with heap := h' }) (n0 := s1.heap.objs.size) (I1.ok.hd hc) (PySem.W.ktu_apart s1.heap.objs.size a b (Heap.lt_size ho1) (Heap.lt_size ho2)) hle hz ⟨_, _, hTO⟩ hTI h1 h2 hl1 hl2 (by show _ ≤ h'.objs.size; rw [hsz]; exact Nat.le_add_right _ _) fun h2' acc c' kp eS ea ec => ?_
      have kp' : ∀ c o, s1.heap.get? c = some o → h2'.get? c = some o := fun c o ee => kp c o (fun hm => by
        have lt : c < s1.heap.objs.size := Heap.lt_size ee
        simp only [List.mem_cons, List.not_mem_nil, or_false] at hm
        rcases hm with rfl | rfl | rfl | rfl
        · exact absurd lt (Nat.not_lt_of_le (Nat.le_add_right _ _))
        · exact absurd lt (Nat.not_lt_of_le (Nat.le_add_right _ _))
        · exact absurd lt (Nat.lt_irrefl _)
        · exact absurd lt (Nat.not_lt_of_le (Nat.le_add_right _ _))) (hk c o ee)
      -- what stands at the new addresses
      let P : Addr → Nat × V × V → Prop := fun t q => acc[q.1]? = some (.ref t) ∧ vs1[q.1]? = some q.2.1 ∧ vs2[q.1]? = some q.2.2
      let N : Addr → Option HO := fun t => if t = h'.objs.size then some (.lst (acc.toList.map backV)) else if hx : ∃ q, P t q then some (.tup [(Classical.choose hx).2.1, (Classical.choose hx).2.2]) else none
      have hacc : ∀ (j : Nat) v, acc[j]? = some v → ∃ T x y v1 v2, v = .ref T ∧ IsPair h2' T x y ∧ vs1[j]? = some v1 ∧ vs2[j]? = some v2 ∧ RelV v1 x ∧ RelV v2 y ∧ s1.heap.objs.size ≤ T ∧ T ≠ h'.objs.size := fun j v ej => by
        obtain ⟨T, x, y, e1, e2', e3, e4, e5, e6⟩ := ec j v ej
        have e3' : its[j]? = some x := by simpa using e3
        have e4' : its2[j]? = some y := by simpa using e4
        obtain ⟨v1, q1, r1⟩ := vals_getU rv e3'
        obtain ⟨v2, q2, r2⟩ := vals_getU rv2 e4'
        exact ⟨T, x, y, v1, v2, e1, e2', q1, q2, r1, r2, e5, fun z => e6 (by simp [z])⟩
      have hN : ∀ (j : Nat) T v1 v2, acc[j]? = some (.ref T) → vs1[j]? = some v1 → vs2[j]? = some v2 → N T = some (.tup [v1, v2]) := fun j T v1 v2 ej q1 q2 => by
        obtain ⟨T', x, y, w1, w2, e1, e2', k1, k2, r1, r2, _, ne⟩ := hacc j _ ej
        cases e1
        rw [q1] at k1; cases k1
        rw [q2] at k2; cases k2
        have hx : ∃ q, P T q := ⟨(j, v1, v2), ej, q1, q2⟩
        show (if T = h'.objs.size then _ else if hx : ∃ q, P T q then _ else none) = _
        rw [if_neg ne, dif_pos hx]
        obtain ⟨c1, c2, c3⟩ := Classical.choose_spec hx
        obtain ⟨T'', x', y', w1', w2', e1', e2'', k1', k2', r1', r2', _, _⟩ := hacc _ _ c1
        cases e1'
        have he := e2'.symm.trans e2''
        have hxy : x = x' ∧ y = y' := by
          injection he with he
          injection he with _ _ hd _
          injection hd with ha _
          injection ha with ha
          injection ha with h1 h2
          injection h2 with h2 _
          exact ⟨h1, h2⟩
        rw [c2] at k1'; cases k1'
        rw [c3] at k2'; cases k2'
        rw [← hxy.1] at r1'
        rw [← hxy.2] at r2'
        rw [RelV.inj r1' r1, RelV.inj r2' r2]
      have hNi : ∀ t o, N t = some o → (t = h'.objs.size ∧ o = .lst (acc.toList.map backV)) ∨ (t ≠ h'.objs.size ∧ ∃ (j : Nat) (v1 v2 : V), acc[j]? = some (.ref t) ∧ vs1[j]? = some v1 ∧ vs2[j]? = some v2 ∧ o = .tup [v1, v2]) := fun t o et => by
        have et : (if t = h'.objs.size then some (.lst (acc.toList.map backV)) else if hx : ∃ q, P t q then some (.tup [(Classical.choose hx).2.1, (Classical.choose hx).2.2]) else none) = some o := et
        by_cases z : t = h'.objs.size
        · rw [if_pos z] at et; cases et; exact .inl ⟨z, rfl⟩
        · rw [if_neg z] at et
          by_cases hx : ∃ q, P t q
          · rw [dif_pos hx] at et
            cases et
            obtain ⟨c1, c2, c3⟩ := Classical.choose_spec hx
            exact .inr ⟨z, _, _, _, c1, c2, c3, rfl⟩
          · rw [dif_neg hx] at et; cases et
      have hge : ∀ t o, N t = some o → s1.heap.objs.size ≤ t := fun t o et => by
        rcases hNi t o et with ⟨rfl, _⟩ | ⟨_, j, v1, v2, ej, _⟩
        · rw [hsz]; exact Nat.le_add_right _ _
        · obtain ⟨T, _, _, _, _, e1, _, _, _, _, _, e5, _⟩ := hacc j _ ej
          cases e1
          exact e5
      have vb : Vals (acc.toList.map backV) acc.toList := vals_back fun u hu => by
        obtain ⟨j, ej⟩ := List.getElem?_of_mem hu
        obtain ⟨T, _, _, _, _, e1, _⟩ := hacc j u (by simpa using ej)
        exact ⟨T, e1⟩
      have lacc : acc.toList.length = min its.length its2.length := by rw [Array.length_toList, ea, List.size_toArray, List.size_toArray]
      have I3 : L2.Inv X pins σ (lays H1 N) { s1 with heap := h2', toks := s1.toks } := inv_lays I1 kp' hge fun t o et => by
        rcases hNi t o et with ⟨rfl, rfl⟩ | ⟨_, j, v1, v2, ej, q1, q2, rfl⟩
        · exact ⟨by rw [List.length_map, lacc]; have := rv.length; omega, acc.toList, c', vb, by simpa using eS⟩
        · obtain ⟨T, x, y, w1, w2, e1, e2', k1, k2, r1, r2, _, _⟩ := hacc j _ ej
          cases e1
          rw [q1] at k1; cases k1
          rw [q2] at k2; cases k2
          exact ⟨by show 2 ≤ sizeLine; decide, [x, y], .cons r1 (.cons r2 .nil), ⟨_, e2', rfl, _, rfl⟩⟩
      have sm : Same H1 (lays H1 N) := fun b o eb => lays_old I1 hge eb
      obtain ⟨S4, G4⟩ := G1.same sm
      have hSn : H1 h'.objs.size = none := I1.hok.fresh (by rw [hsz]; exact Nat.le_add_right _ _)
      have hNS : N h'.objs.size = some (.lst (acc.toList.map backV)) := by
        show (if h'.objs.size = h'.objs.size then _ else _) = _
        rw [if_pos rfl]
      refine ⟨.ref h'.objs.size, lays H1 N, I3, rfl, fin L1 (lays H1 N) _ S4 G4 (rel_hd (r := .f (.lst (List.zipWith pairD xs ys))) G1 (fun a n => n) ⟨h'.objs.size, rfl, hSn, acc.toList.map backV, lays_new hNS, ?_⟩)⟩
      refine reps_get (by rw [List.length_zipWith, List.length_map, lacc, rs1.len, rs2.len, rv.length, rv2.length]) fun i d v ed ev => ?_
      rw [List.getElem?_map] at ev
      obtain ⟨u, eu, rfl⟩ := map_some ev
      have ej : acc[i]? = some u := by simpa using eu
      obtain ⟨T, x, y, w1, w2, rfl, e2', k1, k2, r1, r2, _, _⟩ := hacc i u ej
      rw [List.getElem?_zipWith] at ed
      cases p1' : xs[i]? with
      | none => rw [p1'] at ed; cases ed
      | some d1 =>
        cases p2' : ys[i]? with
        | none => rw [p1', p2'] at ed; cases ed
        | some d2 =>
          rw [p1', p2'] at ed
          cases ed
          obtain ⟨a1, b1, c1⟩ := rs1.get p1'
          obtain ⟨a2, b2, c2⟩ := rs2.get p2'
          rw [k1] at b1; cases b1
          rw [k2] at b2; cases b2
          exact .tup (lays_new (hN i T w1 w2 ej k1 k2)) (.cons (c1.same sm) (.cons (c2.same sm) .nil))
end
end Z

/-! plain Lean: loops, trees -/
namespace Z
open PySem PySem.Spec PyProof.Rows L2
theorem compL_map {t : MT} {tt : M Bool} {te : M Hd} {vs : List Nat} {A : Fr} (f : D → D) : ∀ (ds acc : List D), (∀ d, d ∈ ds → ∃ A1 A2 A3, t d A = some A1 ∧ tt A1 = .ok true A2 ∧ mvM te A2 = .ok (f d) A3 ∧ wipeF A3 vs = A) →
    compL t tt te vs acc ds A = .ok (acc ++ ds.map f) A
  | [], acc, _ => by simp [compL]
  | d :: ds, acc, h => by
    obtain ⟨A1, A2, A3, e1, e2, e3, e4⟩ := h d (by simp)
    unfold compL
    simp only [e1, e2, e3, Out.bind, e4]
    rw [compL_map f ds (acc ++ [f d]) fun x hx => h x (by simp [hx])]
    simp
theorem compL_filt {t : MT} {tt : M Bool} {te : M Hd} {vs : List Nat} {A : Fr} (p : D → Bool) (f : D → D) : ∀ (ds acc : List D), (∀ d, d ∈ ds → ∃ A1 A2, t d A = some A1 ∧ tt A1 = .ok (p d) A2 ∧
      (p d = false → wipeF A2 vs = A) ∧ (p d = true → ∃ A3, mvM te A2 = .ok (f d) A3 ∧ wipeF A3 vs = A)) →
    compL t tt te vs acc ds A = .ok (acc ++ (ds.filter p).map f) A
  | [], acc, _ => by simp [compL]
  | d :: ds, acc, h => by
    obtain ⟨A1, A2, e1, e2, e3, e4⟩ := h d (by simp)
    have ih := fun acc => compL_filt p f ds acc fun x hx => h x (by simp [hx])
    unfold compL
    cases q : p d with
    | false => simp only [e1, e2, q, Out.bind, e3 q, ih, List.filter_cons]; simp
    | true =>
      obtain ⟨A3, e5, e6⟩ := e4 q
      simp only [e1, e2, q, Out.bind, e5, e6, ih, List.filter_cons]; simp
theorem compR_map {t : MT} {tt : M Bool} {te : M Hd} {vs : List Nat} {A B C : Fr} {ds : List D} (f : D → D) (hv : vsOk vs A = true) (hl : ds.length ≤ sizeLine) (hB : wipeF A vs = B) (hC : restF A B vs = C)
    (h : ∀ d, d ∈ ds → ∃ A1 A2 A3, t d B = some A1 ∧ tt A1 = .ok true A2 ∧ mvM te A2 = .ok (f d) A3 ∧ wipeF A3 vs = B) :
    compR t tt te vs ds A = .ok (.f (.lst (ds.map f))) C := by
  unfold compR
  rw [hv, decide_eq_true hl, hB, compL_map f ds [] h]
  simp [hC]
theorem compR_filt {t : MT} {tt : M Bool} {te : M Hd} {vs : List Nat} {A B C : Fr} {ds : List D} (p : D → Bool) (f : D → D) (hv : vsOk vs A = true) (hl : ds.length ≤ sizeLine) (hB : wipeF A vs = B) (hC : restF A B vs = C)
    (h : ∀ d, d ∈ ds → ∃ A1 A2, t d B = some A1 ∧ tt A1 = .ok (p d) A2 ∧ (p d = false → wipeF A2 vs = B) ∧ (p d = true → ∃ A3, mvM te A2 = .ok (f d) A3 ∧ wipeF A3 vs = B)) :
    compR t tt te vs ds A = .ok (.f (.lst ((ds.filter p).map f))) C := by
  unfold compR
  rw [hv, decide_eq_true hl, hB, compL_filt p f ds [] h]
  simp [hC]
theorem forL_fold {β : Type} {t : MT} {b : MS} (inv : β → Fr → Prop) (step : β → D → β) : ∀ (ds : List D) (x : β) (A : Fr), (∀ x A d, d ∈ ds → inv x A → ∃ A1 A2, t d A = some A1 ∧ b A1 = .nx A2 ∧ inv (step x d) A2) →
    inv x A → ∃ A', forL t b ds A = .nx A' ∧ inv (ds.foldl step x) A'
  | [], x, A, _, i => ⟨A, rfl, i⟩
  | d :: ds, x, A, h, i => by
    obtain ⟨A1, A2, e1, e2, i2⟩ := h x A d (by simp) i
    obtain ⟨A', e3, i3⟩ := forL_fold inv step ds _ A2 (fun x A d hd => h x A d (by simp [hd])) i2
    refine ⟨A', ?_, i3⟩
    unfold forL
    simp only [e1, e2]
    exact e3
/-- a slot that may be stored to -/
def nl : SV → Bool
  | .lck _ => false
  | .ow true _ => false
  | _ => true
theorem nl_cases {s : SV} (h : nl s = true) : s = .un ∨ (∃ d, s = .val d) ∨ ∃ d, s = .ow false d := by
  cases s with
  | un => exact .inl rfl
  | val d => exact .inr (.inl ⟨d, rfl⟩)
  | ow b d =>
    cases b with
    | true => cases h
    | false => exact .inr (.inr ⟨d, rfl⟩)
  | lck d => cases h
theorem whileL_no {c : M Bool} {b : MS} {n : Nat} {A A1 : Fr} (h : c A = .ok false A1) : whileL c b (n + 1) A = .nx A1 := by unfold whileL; simp only [h, oS]
theorem whileL_yes {c : M Bool} {b : MS} {n : Nat} {A A1 A2 : Fr} (h : c A = .ok true A1) (k : b A1 = .nx A2) : whileL c b (n + 1) A = whileL c b n A2 := by
  conv => lhs; unfold whileL
  simp only [h, oS, k]
theorem sl0 : (0 : Nat) ≤ sizeLine := by decide
theorem sl1 : (1 : Nat) ≤ sizeLine := by decide
theorem sl2 : (2 : Nat) ≤ sizeLine := by decide
theorem sl3 : (3 : Nat) ≤ sizeLine := by decide
theorem sl4 : (4 : Nat) ≤ sizeLine := by decide
theorem sl5 : (5 : Nat) ≤ sizeLine := by decide
theorem sl6 : (6 : Nat) ≤ sizeLine := by decide
theorem sl7 : (7 : Nat) ≤ sizeLine := by decide
theorem sl8 : (8 : Nat) ≤ sizeLine := by decide
theorem sl9 : (9 : Nat) ≤ sizeLine := by decide
theorem sl10 : (10 : Nat) ≤ sizeLine := by decide
theorem sl11 : (11 : Nat) ≤ sizeLine := by decide
theorem sl12 : (12 : Nat) ≤ sizeLine := by decide
theorem sl13 : (13 : Nat) ≤ sizeLine := by decide
theorem sl14 : (14 : Nat) ≤ sizeLine := by decide
theorem sl15 : (15 : Nat) ≤ sizeLine := by decide
theorem sl16 : (16 : Nat) ≤ sizeLine := by decide
theorem sl17 : (17 : Nat) ≤ sizeLine := by decide
theorem sl64 {n : Nat} (h : n ≤ 64) : n ≤ sizeLine := Nat.le_trans h (by decide)
theorem boolsD_map {α : Type} (f : α → Bool) : ∀ l : List α, boolsD (l.map fun x => .bl (f x)) = some (l.map f)
  | [] => rfl
  | x :: l => by simp only [List.map_cons, boolsD, boolsD_map f l, Option.map_some]
theorem intsD_map {α : Type} (f : α → Int) : ∀ l : List α, intsD (l.map fun x => .int (f x)) = some (l.map f)
  | [] => rfl
  | x :: l => by simp only [List.map_cons, intsD, intsD_map f l, Option.map_some]
theorem strsD_map {α : Type} (f : α → Str) : ∀ l : List α, strsD (l.map fun x => .str (f x)) = some (l.map f)
  | [] => rfl
  | x :: l => by simp only [List.map_cons, strsD, strsD_map f l, Option.map_some]

/-! ### patterns and trees -/
inductive T where
  | h (i : Int) | n (w : Str) (ps : List T)
mutual
def T.d : T → D
  | .h i => .int i
  | .n w ps => .tup [.str w, .tup (T.ds ps)]
def T.ds : List T → List D
  | [] => []
  | t :: ts => t.d :: T.ds ts
end
theorem T.ds_map : ∀ l, T.ds l = l.map T.d
  | [] => rfl
  | t :: ts => by rw [T.ds, T.ds_map ts]; rfl
mutual
def T.holes : T → List Int
  | .h i => [i]
  | .n _ ps => T.holesL ps
def T.holesL : List T → List Int
  | [] => []
  | t :: ts => t.holes ++ T.holesL ts
end
mutual
def T.cnt : T → Nat
  | .h _ => 0
  | .n _ ps => 1 + T.cnts ps
def T.cnts : List T → Nat
  | [] => 0
  | t :: ts => t.cnt + T.cnts ts
end
mutual
def T.dep : T → Nat
  | .h _ => 0
  | .n _ ps => 1 + T.deps ps
def T.deps : List T → Nat
  | [] => 0
  | t :: ts => max t.dep (T.deps ts)
end
mutual
/-- words and holes -/
def T.sz : T → Nat
  | .h _ => 1
  | .n _ ps => 1 + T.szs ps
def T.szs : List T → Nat
  | [] => 0
  | t :: ts => t.sz + T.szs ts
end
def abc : Str := "abcdefghijklmnopqrstuvwxyz"
def isW (s : Str) : Prop := 1 ≤ s.length ∧ s.length ≤ 6 ∧ ∀ c, c ∈ s.cps.toList → c ∈ abc.cps.toList
def qt : Str := "quiet"
mutual
/-- what may stand in a rule, but for its size -/
def T.good : T → Prop
  | .h i => 0 ≤ i ∧ i < 2
  | .n w ps => isW w ∧ w ≠ qt ∧ ps.length ≤ 4 ∧ T.goods ps
def T.goods : List T → Prop
  | [] => True
  | t :: ts => t.good ∧ T.goods ts
end
theorem T.goods_mem : ∀ {l : List T}, T.goods l ↔ ∀ t, t ∈ l → t.good
  | [] => by simp [T.goods]
  | t :: ts => by simp [T.goods, T.goods_mem (l := ts)]
theorem T.dep_mem : ∀ {l : List T} {t : T}, t ∈ l → t.dep ≤ T.deps l
  | t :: ts, x, hm => by
    rcases List.mem_cons.1 hm with rfl | hm
    · exact Nat.le_max_left _ _
    · exact Nat.le_trans (T.dep_mem hm) (Nat.le_max_right _ _)
mutual
theorem T.sz_pos : ∀ t : T, 1 ≤ t.sz
  | .h _ => Nat.le_refl 1
  | .n _ _ => by unfold T.sz; omega
theorem T.szs_len : ∀ l : List T, l.length ≤ T.szs l
  | [] => Nat.le_refl 0
  | t :: ts => by have a := T.sz_pos t; have b := T.szs_len ts; simp only [T.szs, List.length_cons]; omega
end
mutual
theorem T.dep_sz : ∀ t : T, t.dep ≤ t.sz
  | .h _ => by simp [T.dep, T.sz]
  | .n _ ps => by have a := T.deps_szs ps; simp only [T.dep, T.sz]; omega
theorem T.deps_szs : ∀ l : List T, T.deps l ≤ T.szs l
  | [] => Nat.le_refl 0
  | t :: ts => by have a := T.dep_sz t; have b := T.deps_szs ts; simp only [T.szs, T.deps]; omega
end
end Z

namespace Z
open PySem PySem.Spec PyProof.Rows L2
def b_is_word_e1 (Φ : Phi) : M Hd :=
    (mBin inS (mN 1) (mC (.str "abcdefghijklmnopqrstuvwxyz")))
def b_is_word (Φ : Phi) : MS :=
    (sRet (mAndV (mUn (isiS .tstr) (mN 0)) (mAndV (mCh leS leS (mC (.int 1)) (mPrim lenS [(mN 0)]) (mC (.int 6))) (mPrim allS [(mComp (mIS (mN 0)) [1] (tN 1) mTrue (b_is_word_e1 Φ))]))))
def c_is_word : CF := ⟨1, 2, false, b_is_word⟩

def b_is_hole (Φ : Phi) : MS :=
    (sRet (mAndV (mUn (isiS .tint) (mN 0)) (mAndV (mNotV (mUn (isiS .tbool) (mN 0))) (mCh leS ltS (mC (.int 0)) (mN 0) (mC (.int 2))))))
def c_is_hole : CF := ⟨1, 1, false, b_is_hole⟩

def b_is_pattern_c1 (Φ : Phi) : M Bool :=
    (mB (mBin neS (mN 1) (mLst [])))
def b_is_pattern_w1 (Φ : Phi) : MS :=
    (sSeq (sAsg 3 (mLM 1 lmPop []))
    (sSeq (sAsg 2 (mBin addS (mN 2) (mC (.int 1))))
    (sSeq (sIf (mB (mBin gtS (mN 2) (mC (.int 6)))) (sRet (mC (.bl false))) sNil)
    (sIf (mNotT (mB (mCall Φ 2 [(mN 3)]))) (sSeq (sIf (mOrT (mNotT (mB (mUn (isiS .ttup) (mN 3)))) (mOrT (mB (mBin neS (mPrim lenS [(mN 3)]) (mC (.int 2)))) (mOrT (mNotT (mB (mCall Φ 1 [(mBin ixS (mN 3) (mC (.int 0)))]))) (mB (mBin eqS (mBin ixS (mN 3) (mC (.int 0))) (mC (.str "quiet"))))))) (sRet (mC (.bl false))) sNil)
    (sSeq (sIf (mOrT (mNotT (mB (mUn (isiS .ttup) (mBin ixS (mN 3) (mC (.int 1)))))) (mB (mBin gtS (mPrim lenS [(mBin ixS (mN 3) (mC (.int 1)))]) (mC (.int 4))))) (sRet (mC (.bl false))) sNil)
    (sExpr (mLM 1 lmExtend [(mPrim listS [(mBin ixS (mN 3) (mC (.int 1)))])])))) sNil))))
def b_is_pattern (Φ : Phi) : MS :=
    (sSeq (sAsg 1 (mLst [(mN 0)]))
    (sSeq (sAsg 2 (mC (.int 0)))
    (sSeq (sWhile 100000 (b_is_pattern_c1 Φ) (b_is_pattern_w1 Φ))
    (sRet (mC (.bl true))))))
def c_is_pattern : CF := ⟨1, 4, false, b_is_pattern⟩

def b_holes_in_l1 (Φ : Phi) : MS :=
    (sExpr (mLM 1 lmExtend [(mCall Φ 4 [(mN 2)])]))
def b_holes_in (Φ : Phi) : MS :=
    (sSeq (sIf (mB (mUn (isiS .tint) (mN 0))) (sRet (mLst [(mN 0)])) sNil)
    (sSeq (sAsg 1 (mLst []))
    (sSeq (sFor (mIT (mBin ixS (mN 0) (mC (.int 1)))) (tN 2) (b_holes_in_l1 Φ))
    (sRet (mN 1)))))
def c_holes_in : CF := ⟨1, 3, false, b_holes_in⟩

def b_words_in_e1 (Φ : Phi) : M Hd :=
    (mCall Φ 5 [(mN 1)])
def b_words_in (Φ : Phi) : MS :=
    (sSeq (sIf (mB (mUn (isiS .tint) (mN 0))) (sRet (mC (.int 0))) sNil)
    (sRet (mBin addS (mC (.int 1)) (mPrim sumS [(mComp (mIT (mBin ixS (mN 0) (mC (.int 1)))) [1] (tN 1) mTrue (b_words_in_e1 Φ))]))))
def c_words_in : CF := ⟨1, 2, false, b_words_in⟩

def b_is_rule_e1 (Φ : Phi) : M Hd :=
    (mBin leS (mMt countS (mN 2) [(mN 3)]) (mMt countS (mN 1) [(mN 3)]))
def b_is_rule (Φ : Phi) : MS :=
    (sSeq (sIf (mOrT (mNotT (mB (mUn (isiS .ttup) (mN 0)))) (mOrT (mB (mBin neS (mPrim lenS [(mN 0)]) (mC (.int 3)))) (mNotT (mB (mCall Φ 1 [(mBin ixS (mN 0) (mC (.int 0)))]))))) (sRet (mC (.bl false))) sNil)
    (sSeq (sIf (mOrT (mNotT (mB (mCall Φ 3 [(mBin ixS (mN 0) (mC (.int 1)))]))) (mOrT (mNotT (mB (mCall Φ 3 [(mBin ixS (mN 0) (mC (.int 2)))]))) (mB (mUn (isiS .tint) (mBin ixS (mN 0) (mC (.int 1))))))) (sRet (mC (.bl false))) sNil)
    (sSeq (sAsgT (tT 2 (tCons (tN 1) (tCons (tN 2) tNil))) (mTup [(mCall Φ 4 [(mBin ixS (mN 0) (mC (.int 1)))]), (mCall Φ 4 [(mBin ixS (mN 0) (mC (.int 2)))])]))
    (sSeq (sIf (mNotT (mB (mPrim allS [(mComp (mIR1 (mC (.int 2))) [3] (tN 3) mTrue (b_is_rule_e1 Φ))]))) (sRet (mC (.bl false))) sNil)
    (sRet (mBin ltS (mCall Φ 5 [(mBin ixS (mN 0) (mC (.int 2)))]) (mCall Φ 5 [(mBin ixS (mN 0) (mC (.int 1)))])))))))
def c_is_rule : CF := ⟨1, 4, false, b_is_rule⟩

def b_is_book_e1 (Φ : Phi) : M Hd :=
    (mCall Φ 6 [(mN 2)])
def b_is_book_e2 (Φ : Phi) : M Hd :=
    (mBin ltS (mBin ixS (mBin ixS (mN 0) (mN 1)) (mC (.int 0))) (mBin ixS (mBin ixS (mN 0) (mBin addS (mN 1) (mC (.int 1)))) (mC (.int 0))))
def b_is_book (Φ : Phi) : MS :=
    (sSeq (sIf (mOrT (mNotT (mB (mUn (isiS .ttup) (mN 0)))) (mOrT (mB (mBin gtS (mPrim lenS [(mN 0)]) (mC (.int 4)))) (mNotT (mB (mPrim allS [(mComp (mIT (mN 0)) [2] (tN 2) mTrue (b_is_book_e1 Φ))]))))) (sRet (mC (.bl false))) sNil)
    (sRet (mPrim allS [(mComp (mIR1 (mBin subS (mPrim lenS [(mN 0)]) (mC (.int 1)))) [1] (tN 1) mTrue (b_is_book_e2 Φ))])))
def c_is_book : CF := ⟨1, 3, false, b_is_book⟩

def b_need_book (Φ : Phi) : MS :=
    (sIf (mNotT (mB (mCall Φ 7 [(mN 0)]))) (sRaise 1) sNil)
def c_need_book : CF := ⟨1, 1, false, b_need_book⟩

def b_checked (Φ : Phi) : MS :=
    (sSeq (sExpr (mCall Φ 8 [(mN 0)]))
    (sRet (mN 0)))
def c_checked : CF := ⟨1, 1, false, b_checked⟩

def b__law_cell_at (Φ : Phi) : MS :=
    (sSeq (sIf (mB (mBin ltS (mN 1) (mPrim lenS [(mN 0)]))) (sRet (mBin ixS (mN 0) (mN 1))) sNil)
    (sSeq (sIf (mB (mBin eqS (mN 0) (mLst []))) (sRet (mC (.int 0))) sNil)
    (sRet (mBin addS (mBin mulS (mBin ixS (mN 0) (mBin modS (mN 1) (mPrim lenS [(mN 0)]))) (mC (.int 31))) (mN 1)))))
def c__law_cell_at : CF := ⟨2, 2, false, b__law_cell_at⟩

def b__law_mixed (Φ : Phi) : MS :=
    (sSeq (sAsg 3 (mBin modS (mBin mulS (mBin addS (mBin addS (mCall Φ 10 [(mN 0), (mN 1)]) (mBin mulS (mC (.int 7919)) (mN 1))) (mC (.int 1))) (mC (.int 48271))) (mC (.int 2147483647))))
    (sRet (mBin modS (mBin modS (mBin addS (mBin addS (mBin mulS (mN 3) (mN 3)) (mBin mulS (mC (.int 7)) (mN 3))) (mN 1)) (mC (.int 2147483629))) (mN 2))))
def c__law_mixed : CF := ⟨3, 4, false, b__law_mixed⟩

def b__law_word_l1 (Φ : Phi) : MS :=
    (sAsg 2 (mBin addS (mN 2) (mBin ixS (mC (.str "abcdefghijklmnopqrstuvwxyz")) (mCall Φ 11 [(mN 0), (mBin addS (mBin addS (mN 1) (mC (.int 1))) (mN 3)), (mC (.int 26))]))))
def b__law_word (Φ : Phi) : MS :=
    (sSeq (sAsg 2 (mC (.str "")))
    (sSeq (sFor (mIR1 (mBin ixS (mLst [(mC (.int 1)), (mC (.int 2)), (mC (.int 3)), (mC (.int 6)), (mC (.int 1)), (mC (.int 5))]) (mCall Φ 11 [(mN 0), (mN 1), (mC (.int 6))]))) (tN 3) (b__law_word_l1 Φ))
    (sRet (mBin ixS (mLst [(mN 2), (mC (.str "quick"))]) (mPrim intS [(mBin eqS (mN 2) (mC (.str "quiet")))])))))
def c__law_word : CF := ⟨2, 4, false, b__law_word⟩

def b__law_words_l1 (Φ : Phi) : MS :=
    (sSeq (sAsg 4 (mBin ixS (mN 2) (mUn negS (mC (.int 1)))))
    (sSeq (sAsg 5 (mCall Φ 11 [(mN 0), (mBin addS (mN 1) (mBin mulS (mC (.int 10)) (mN 3))), (mPrim lenS [(mN 4)])]))
    (sSeq (sAsg 6 (mBin ixS (mCall Φ 12 [(mN 0), (mBin addS (mBin addS (mN 1) (mBin mulS (mC (.int 10)) (mN 3))) (mC (.int 1)))]) (mC (.int 0))))
    (sSeq (sAsg 7 (mLst [(mBin addS (mBin addS (mSl (mN 4) mO0 (mO1 (mN 5))) (mN 6)) (mSl (mN 4) (mO1 (mBin addS (mN 5) (mC (.int 1)))) mO0)), (mCall Φ 12 [(mN 0), (mBin addS (mN 1) (mBin mulS (mC (.int 10)) (mN 3)))])]))
    (sExpr (mLM 2 lmAppend [(mBin ixS (mN 7) (mCall Φ 11 [(mN 0), (mBin addS (mBin addS (mN 1) (mC (.int 40))) (mN 3)), (mC (.int 2))]))]))))))
def b__law_words_e1 (Φ : Phi) : M Hd :=
    (mBin ixS (mLst [(mN 8), (mC (.str "quick"))]) (mPrim intS [(mBin eqS (mN 8) (mC (.str "quiet")))]))
def b__law_words (Φ : Phi) : MS :=
    (sSeq (sAsg 2 (mLst [(mCall Φ 12 [(mN 0), (mN 1)])]))
    (sSeq (sFor (mIR2 (mC (.int 1)) (mC (.int 4))) (tN 3) (b__law_words_l1 Φ))
    (sRet (mCompN 2 [8] (tN 8) mTrue (b__law_words_e1 Φ)))))
def c__law_words : CF := ⟨2, 9, false, b__law_words⟩

def b__law_part (Φ : Phi) : MS :=
    (sSeq (sAsg 4 (mCall Φ 11 [(mN 0), (mN 1), (mC (.int 6))]))
    (sSeq (sAsg 5 (mBin ixS (mN 2) (mCall Φ 11 [(mN 0), (mBin addS (mN 1) (mC (.int 1))), (mC (.int 4))])))
    (sSeq (sIf (mB (mBin ltS (mN 4) (mC (.int 3)))) (sRet (mBin ixS (mLst [(mC (.int 0)), (mC (.int 0)), (mC (.int 1))]) (mN 4))) sNil)
    (sSeq (sIf (mOrT (mB (mBin eqS (mN 4) (mC (.int 3)))) (mB (mN 3))) (sRet (mTup [(mN 5), (mTup [])])) sNil)
    (sRet (mTup [(mN 5), (mTup [(mBin ixS (mLst [(mC (.int 0)), (mC (.int 1)), (mTup [(mBin ixS (mN 2) (mCall Φ 11 [(mN 0), (mBin addS (mN 1) (mC (.int 3))), (mC (.int 4))])), (mTup [])])]) (mCall Φ 11 [(mN 0), (mBin addS (mN 1) (mC (.int 2))), (mC (.int 3))]))])]))))))
def c__law_part : CF := ⟨4, 6, false, b__law_part⟩

def b__law_pattern_e1 (Φ : Phi) : M Hd :=
    (mCall Φ 14 [(mN 0), (mBin addS (mBin addS (mN 1) (mC (.int 2))) (mBin mulS (mC (.int 5)) (mN 5))), (mN 2), (mBin eqS (mN 3) (mC (.int 3)))])
def b__law_pattern (Φ : Phi) : MS :=
    (sSeq (sAsg 3 (mBin ixS (mLst [(mC (.int 1)), (mC (.int 2)), (mC (.int 2)), (mC (.int 3)), (mC (.int 1))]) (mCall Φ 11 [(mN 0), (mN 1), (mC (.int 5))])))
    (sSeq (sAsg 4 (mComp (mIR1 (mN 3)) [5] (tN 5) mTrue (b__law_pattern_e1 Φ)))
    (sRet (mTup [(mBin ixS (mN 2) (mCall Φ 11 [(mN 0), (mBin addS (mN 1) (mC (.int 1))), (mC (.int 4))])), (mPrim tupleS [(mN 4)])]))))
def c__law_pattern : CF := ⟨3, 6, false, b__law_pattern⟩

def b__law_holes_l1 (Φ : Phi) : MS :=
    (sExpr (mLM 1 lmExtend [(mCall Φ 16 [(mN 2)])]))
def b__law_holes (Φ : Phi) : MS :=
    (sSeq (sIf (mB (mUn (isiS .tint) (mN 0))) (sRet (mLst [(mN 0)])) sNil)
    (sSeq (sAsg 1 (mLst []))
    (sSeq (sFor (mIT (mBin ixS (mN 0) (mC (.int 1)))) (tN 2) (b__law_holes_l1 Φ))
    (sRet (mN 1)))))
def c__law_holes : CF := ⟨1, 3, false, b__law_holes⟩

def b__law_count_e1 (Φ : Phi) : M Hd :=
    (mCall Φ 17 [(mN 1)])
def b__law_count (Φ : Phi) : MS :=
    (sSeq (sIf (mB (mUn (isiS .tint) (mN 0))) (sRet (mC (.int 0))) sNil)
    (sRet (mBin addS (mC (.int 1)) (mPrim sumS [(mComp (mIT (mBin ixS (mN 0) (mC (.int 1)))) [1] (tN 1) mTrue (b__law_count_e1 Φ))]))))
def c__law_count : CF := ⟨1, 2, false, b__law_count⟩

def b__law_mend (Φ : Phi) : MS :=
    (sSeq (sAsg 4 (mCall Φ 16 [(mN 3)]))
    (sSeq (sAsg 5 (mCall Φ 17 [(mN 3)]))
    (sSeq (sAsg 6 (mBin ixS (mN 2) (mCall Φ 11 [(mN 0), (mN 1), (mC (.int 4))])))
    (sSeq (sAsg 7 (mPrim listS [(mN 4)]))
    (sSeq (sIf (mB (mBin gtS (mN 5) (mC (.int 1)))) (sExpr (mLM 7 lmExtend [(mLst [(mTup [(mN 6), (mTup [])]), (mTup [(mN 6), (mPrim tupleS [(mSl (mN 4) mO0 (mO1 (mC (.int 1))))])]), (mTup [(mN 6), (mPrim tupleS [(mSl (mUn revS (mN 4)) mO0 (mO1 (mC (.int 4))))])])])])) sNil)
    (sSeq (sIf (mB (mBin gtS (mN 5) (mC (.int 2)))) (sExpr (mLM 7 lmAppend [(mTup [(mN 6), (mTup [(mTup [(mBin ixS (mN 2) (mCall Φ 11 [(mN 0), (mBin addS (mN 1) (mC (.int 1))), (mC (.int 4))])), (mPrim tupleS [(mSl (mN 4) mO0 (mO1 (mC (.int 1))))])])])])])) sNil)
    (sRet (mBin ixS (mN 7) (mCall Φ 11 [(mN 0), (mBin addS (mN 1) (mC (.int 2))), (mPrim lenS [(mN 7)])])))))))))
def c__law_mend : CF := ⟨4, 8, false, b__law_mend⟩

def b__law_book_l1 (Φ : Phi) : MS :=
    (sSeq (sAsg 6 (mBin addS (mN 1) (mBin mulS (mC (.int 60)) (mBin addS (mN 5) (mC (.int 1))))))
    (sSeq (sAsg 7 (mCall Φ 15 [(mN 0), (mN 6), (mN 2)]))
    (sDput 4 (mCall Φ 12 [(mN 0), (mBin addS (mN 6) (mC (.int 30)))]) (mTup [(mN 7), (mCall Φ 18 [(mN 0), (mBin addS (mN 6) (mC (.int 40))), (mN 2), (mN 7)])]))))
def b__law_book_e1 (Φ : Phi) : M Hd :=
    (mBin addS (mTup [(mN 8)]) (mBin dgetS (mN 4) (mN 8)))
def b__law_book (Φ : Phi) : MS :=
    (sSeq (sAsg 4 mDnew)
    (sSeq (sFor (mIR1 (mCall Φ 11 [(mN 0), (mN 1), (mBin addS (mN 3) (mC (.int 1)))])) (tN 5) (b__law_book_l1 Φ))
    (sRet (mPrim tupleS [(mComp (mIL (mPrim sortS [(mPrim listKS [(mN 4)])])) [8] (tN 8) mTrue (b__law_book_e1 Φ))]))))
def c__law_book : CF := ⟨4, 9, false, b__law_book⟩

def b__law_bad_book_e1 (Φ : Phi) : M Hd :=
    (mTup [(mN 10), (mTup [(mC (.str "f")), (mTup [(mC (.int 0))])]), (mC (.int 0))])
def b__law_bad_book (Φ : Phi) : MS :=
    (sSeq (sAsg 3 (mTup [(mC (.str "b")), (mTup [])]))
    (sSeq (sAsg 4 (mTup [(mC (.str "a")), (mTup [(mC (.str "f")), (mTup [(mC (.int 0))])]), (mC (.int 0))]))
    (sSeq (sAsg 5 (mLst [(mTup [(mC (.str "a")), (mC (.int 0)), (mC (.int 0))]), (mTup [(mC (.str "a")), (mN 3), (mC (.int 0))]), (mTup [(mC (.str "a")), (mN 3), (mN 3)]), (mTup [(mC (.str "a")), (mTup [(mC (.str "f")), (mTup [(mC (.int 0))])]), (mTup [(mC (.str "g")), (mTup [(mC (.int 0))])])]), (mTup [(mC (.str "a")), (mTup [(mC (.str "f")), (mTup [(mC (.int 0)), (mN 3)])]), (mC (.int 1))])]))
    (sSeq (sExpr (mLM 5 lmExtend [(mLst [(mTup [(mC (.str "a")), (mTup [(mC (.str "f")), (mTup [(mC (.int 0)), (mN 3)])]), (mTup [(mC (.str "g")), (mTup [(mC (.int 0)), (mC (.int 0))])])]), (mTup [(mC (.str "a")), (mTup [(mC (.str "f")), (mTup [(mC (.int 2)), (mN 3)])]), (mN 3)]), (mTup [(mC (.str "a")), (mTup [(mC (.str "quiet")), (mTup [(mC (.int 0)), (mN 3)])]), (mC (.int 0))])])]))
    (sSeq (sExpr (mLM 5 lmExtend [(mLst [(mTup [(mC (.str "A")), (mTup [(mC (.str "f")), (mTup [(mC (.int 0))])]), (mC (.int 0))]), (mTup [(mC (.str "a")), (mTup [(mC (.str "f")), (mTup [(mC (.int 0))])])]), (mLst [(mC (.str "a")), (mTup [(mC (.str "f")), (mTup [(mC (.int 0))])]), (mC (.int 0))]), (mC .non), (mTup [(mC (.str "a")), (mTup [(mC (.str "f")), (mLst [(mC (.int 0))])]), (mC (.int 0))])])]))
    (sSeq (sExpr (mLM 5 lmExtend [(mLst [(mTup [(mC (.str "a")), (mTup [(mC (.str "f")), (mTup [(mC (.bl true)), (mN 3)])]), (mN 3)]), (mTup [(mC (.str "a")), (mTup [(mC (.str "f")), (mTup [(mN 3), (mN 3)])]), (mTup [(mC (.str "quiet")), (mTup [(mN 3)])])])])]))
    (sSeq (sExpr (mLM 5 lmAppend [(mTup [(mC (.str "a")), (mTup [(mC (.str "f")), (mTup [(mC (.int 0))])]), (mC .non)])]))
    (sSeq (sExpr (mLM 5 lmAppend [(mTup [(mC (.str "a")), (mTup [(mC (.str "f")), (mTup [(mTup [(mC (.str "g")), (mTup [(mN 3), (mN 3), (mN 3), (mN 3)])]), (mN 3)])]), (mN 3)])]))
    (sSeq (sAsg 6 (mBin ixS (mN 5) (mCall Φ 11 [(mN 0), (mN 1), (mC (.int 17))])))
    (sSeq (sAsg 7 (mPrim tupleS [(mComp (mIS (mC (.str "abcde"))) [10] (tN 10) mTrue (b__law_bad_book_e1 Φ))]))
    (sSeq (sAsg 8 (mCall Φ 11 [(mN 0), (mBin addS (mN 1) (mC (.int 2))), (mBin addS (mPrim lenS [(mN 2)]) (mC (.int 1)))]))
    (sSeq (sAsg 9 (mLst [(mTup [(mN 6)]), (mBin addS (mBin addS (mSl (mN 2) mO0 (mO1 (mN 8))) (mTup [(mN 6)])) (mSl (mN 2) (mO1 (mN 8)) mO0)), (mPrim listS [(mN 2)]), (mC .non), (mTup [(mN 4), (mN 4)]), (mN 7), (mTup [(mBin ixS (mN 7) (mC (.int 1))), (mBin ixS (mN 7) (mC (.int 0)))])]))
    (sRet (mBin ixS (mN 9) (mBin ixS (mLst [(mC (.int 0)), (mC (.int 0)), (mC (.int 0)), (mC (.int 0)), (mC (.int 1)), (mC (.int 1)), (mC (.int 2)), (mC (.int 3)), (mC (.int 4)), (mC (.int 5)), (mC (.int 6))]) (mCall Φ 11 [(mN 0), (mBin addS (mN 1) (mC (.int 1))), (mC (.int 11))]))))))))))))))))
def c__law_bad_book : CF := ⟨3, 11, false, b__law_bad_book⟩

def b__law_asked_one (Φ : Phi) : MS :=
    (sTry (sRet (mCall Φ 9 [(mN 0)])))
def c__law_asked_one : CF := ⟨1, 2, false, b__law_asked_one⟩

def b_is_node (Φ : Phi) : MS :=
    (sSeq (sIf (mOrT (mNotT (mB (mUn (isiS .ttup) (mN 0)))) (mOrT (mB (mBin neS (mPrim lenS [(mN 0)]) (mC (.int 2)))) (mNotT (mB (mCall Φ 1 [(mBin ixS (mN 0) (mC (.int 0)))]))))) (sRet (mC (.bl false))) sNil)
    (sSeq (sIf (mOrT (mNotT (mB (mUn (isiS .ttup) (mBin ixS (mN 0) (mC (.int 1)))))) (mB (mBin gtS (mPrim lenS [(mBin ixS (mN 0) (mC (.int 1)))]) (mC (.int 4))))) (sRet (mC (.bl false))) sNil)
    (sRet (mOrV (mBin neS (mBin ixS (mN 0) (mC (.int 0))) (mC (.str "quiet"))) (mBin eqS (mPrim lenS [(mBin ixS (mN 0) (mC (.int 1)))]) (mC (.int 1)))))))
def c_is_node : CF := ⟨1, 1, false, b_is_node⟩

def b_is_tree_c1 (Φ : Phi) : M Bool :=
    (mB (mBin neS (mN 1) (mLst [])))
def b_is_tree_w1 (Φ : Phi) : MS :=
    (sSeq (sAsg 3 (mLM 1 lmPop []))
    (sSeq (sAsg 2 (mBin addS (mN 2) (mC (.int 1))))
    (sSeq (sIf (mOrT (mB (mBin gtS (mN 2) (mC (.int 60)))) (mNotT (mB (mCall Φ 24 [(mN 3)])))) (sRet (mC (.bl false))) sNil)
    (sExpr (mLM 1 lmExtend [(mPrim listS [(mBin ixS (mN 3) (mC (.int 1)))])])))))
def b_is_tree (Φ : Phi) : MS :=
    (sSeq (sAsg 1 (mLst [(mN 0)]))
    (sSeq (sAsg 2 (mC (.int 0)))
    (sSeq (sWhile 100000 (b_is_tree_c1 Φ) (b_is_tree_w1 Φ))
    (sRet (mC (.bl true))))))
def c_is_tree : CF := ⟨1, 4, false, b_is_tree⟩

def b_need_tree (Φ : Phi) : MS :=
    (sIf (mNotT (mB (mCall Φ 25 [(mN 0)]))) (sRaise 0) sNil)
def c_need_tree : CF := ⟨1, 1, false, b_need_tree⟩

def b_found_at_l1 (Φ : Phi) : MS :=
    (sSeq (sIf (mOrT (mNotT (mB (mUn (isiS .tint) (mN 2)))) (mOrT (mB (mUn (isiS .tbool) (mN 2))) (mNotT (mB (mCh leS ltS (mC (.int 0)) (mN 2) (mPrim lenS [(mBin ixS (mN 0) (mC (.int 1)))])))))) (sRet (mC .non)) sNil)
    (sAsg 0 (mBin ixS (mBin ixS (mN 0) (mC (.int 1))) (mN 2))))
def b_found_at (Φ : Phi) : MS :=
    (sSeq (sFor (mIT (mN 1)) (tN 2) (b_found_at_l1 Φ))
    (sRet (mN 0)))
def c_found_at : CF := ⟨2, 3, false, b_found_at⟩

def b_places_from_l1 (Φ : Phi) : MS :=
    (sExpr (mLM 3 lmExtend [(mCall Φ 28 [(mN 5), (mBin addS (mN 1) (mTup [(mN 4)])), (mN 2)])]))
def b_places_from (Φ : Phi) : MS :=
    (sSeq (sIf (mAndT (mB (mN 2)) (mB (mBin eqS (mBin ixS (mN 0) (mC (.int 0))) (mC (.str "quiet"))))) (sRet (mLst [])) sNil)
    (sSeq (sAsg 3 (mLst [(mN 1)]))
    (sSeq (sFor (mIE (mBin ixS (mN 0) (mC (.int 1)))) (tT 2 (tCons (tN 4) (tCons (tN 5) tNil))) (b_places_from_l1 Φ))
    (sRet (mN 3)))))
def c_places_from : CF := ⟨3, 6, false, b_places_from⟩

def b_fits_e1 (Φ : Phi) : M Hd :=
    (mCallI Φ 29 [(mN 3), (mN 4)] 2)
def b_fits (Φ : Phi) : MS :=
    (sSeq (sIf (mB (mUn (isiS .tint) (mN 0))) (sRet (mBin eqS (mSetd 2 (mN 0) (mN 1)) (mN 1))) sNil)
    (sSeq (sIf (mOrT (mB (mBin neS (mBin ixS (mN 0) (mC (.int 0))) (mBin ixS (mN 1) (mC (.int 0))))) (mB (mBin neS (mPrim lenS [(mBin ixS (mN 0) (mC (.int 1)))]) (mPrim lenS [(mBin ixS (mN 1) (mC (.int 1)))])))) (sRet (mC (.bl false))) sNil)
    (sRet (mPrim allS [(mComp (mIZ (mBin ixS (mN 0) (mC (.int 1))) (mBin ixS (mN 1) (mC (.int 1)))) [3, 4] (tT 2 (tCons (tN 3) (tCons (tN 4) tNil))) mTrue (b_fits_e1 Φ))]))))
def c_fits : CF := ⟨3, 5, true, b_fits⟩

def b_filled_e1 (Φ : Phi) : M Hd :=
    (mCall Φ 30 [(mN 2), (mN 1)])
def b_filled (Φ : Phi) : MS :=
    (sSeq (sIf (mB (mUn (isiS .tint) (mN 0))) (sRet (mBin dgetS (mN 1) (mN 0))) sNil)
    (sRet (mTup [(mBin ixS (mN 0) (mC (.int 0))), (mPrim tupleS [(mComp (mIT (mBin ixS (mN 0) (mC (.int 1)))) [2] (tN 2) mTrue (b_filled_e1 Φ))])])))
def c_filled : CF := ⟨2, 3, false, b_filled⟩

def b_mended (Φ : Phi) : MS :=
    (sSeq (sAsg 2 mDnew)
    (sSeq (sIf (mNotT (mB (mCallI Φ 29 [(mBin ixS (mN 0) (mC (.int 1))), (mN 1)] 2))) (sRet (mC .non)) sNil)
    (sRet (mCall Φ 30 [(mBin ixS (mN 0) (mC (.int 2))), (mN 2)]))))
def c_mended : CF := ⟨2, 3, false, b_mended⟩

def b_findings_at_t1 (Φ : Phi) : M Bool :=
    (mB (mBin isNotS (mCall Φ 31 [(mN 6), (mN 5)]) (mC .non)))
def b_findings_at_e1 (Φ : Phi) : M Hd :=
    (mTup [(mN 4), (mBin ixS (mN 6) (mC (.int 0)))])
def b_findings_at_l1 (Φ : Phi) : MS :=
    (sSeq (sAsg 5 (mCall Φ 27 [(mN 1), (mN 4)]))
    (sExpr (mLM 3 lmExtend [(mComp (mIT (mN 0)) [6] (tN 6) (b_findings_at_t1 Φ) (b_findings_at_e1 Φ))])))
def b_findings_at (Φ : Phi) : MS :=
    (sSeq (sAsg 3 (mLst []))
    (sSeq (sForN 2 (tN 4) (b_findings_at_l1 Φ))
    (sRet (mN 3))))
def c_findings_at : CF := ⟨3, 7, false, b_findings_at⟩

def b_all_findings (Φ : Phi) : MS :=
    (sRet (mCall Φ 32 [(mN 0), (mN 1), (mCall Φ 28 [(mN 1), (mTup []), (mC (.bl true))])]))
def c_all_findings : CF := ⟨2, 2, false, b_all_findings⟩

def b_findings (Φ : Phi) : MS :=
    (sSeq (sExpr (mCall Φ 8 [(mN 0)]))
    (sSeq (sExpr (mCall Φ 26 [(mN 1)]))
    (sRet (mCall Φ 33 [(mN 0), (mN 1)]))))
def c_findings : CF := ⟨2, 2, false, b_findings⟩

def b__law_filled_e1 (Φ : Phi) : M Hd :=
    (mCall Φ 35 [(mN 2), (mN 1)])
def b__law_filled (Φ : Phi) : MS :=
    (sSeq (sIf (mB (mUn (isiS .tint) (mN 0))) (sRet (mBin dgetS (mN 1) (mN 0))) sNil)
    (sRet (mTup [(mBin ixS (mN 0) (mC (.int 0))), (mPrim tupleS [(mComp (mIT (mBin ixS (mN 0) (mC (.int 1)))) [2] (tN 2) mTrue (b__law_filled_e1 Φ))])])))
def c__law_filled : CF := ⟨2, 3, false, b__law_filled⟩

def b__law_tree_l1 (Φ : Phi) : MS :=
    (sDput 9 (mN 10) (mCall Φ 36 [(mN 0), (mBin addS (mBin addS (mBin mulS (mC (.int 5)) (mN 1)) (mC (.int 2))) (mN 10)), (mN 2), (mN 3), (mN 8)]))
def b__law_tree_e1 (Φ : Phi) : M Hd :=
    (mCall Φ 36 [(mN 0), (mBin addS (mBin addS (mBin mulS (mC (.int 5)) (mN 1)) (mC (.int 1))) (mN 10)), (mN 2), (mN 3), (mBin subS (mN 4) (mC (.int 1)))])
def b__law_tree (Φ : Phi) : MS :=
    (sSeq (sIf (mB (mBin eqS (mN 4) (mC (.int 1)))) (sRet (mTup [(mBin ixS (mN 2) (mCall Φ 11 [(mN 0), (mN 1), (mC (.int 4))])), (mTup [])])) sNil)
    (sSeq (sAsg 5 (mCall Φ 11 [(mN 0), (mN 1), (mC (.int 12))]))
    (sSeq (sIf (mB (mBin eqS (mN 5) (mC (.int 0)))) (sRet (mTup [(mC (.str "quiet")), (mTup [(mCall Φ 36 [(mN 0), (mBin addS (mBin mulS (mC (.int 5)) (mN 1)) (mC (.int 1))), (mN 2), (mN 3), (mBin subS (mN 4) (mC (.int 1)))])])])) sNil)
    (sSeq (sIf (mAndT (mB (mBin ltS (mN 5) (mC (.int 6)))) (mB (mBin neS (mN 3) (mTup [])))) (sSeq (sAsg 8 (mPrim maxS [(mC (.int 1)), (mBin subS (mN 4) (mC (.int 2)))]))
    (sSeq (sAsg 9 mDnew)
    (sSeq (sFor (mIR1 (mC (.int 2))) (tN 10) (b__law_tree_l1 Φ))
    (sRet (mCall Φ 35 [(mBin ixS (mBin ixS (mN 3) (mCall Φ 11 [(mN 0), (mBin addS (mN 1) (mC (.int 1))), (mPrim lenS [(mN 3)])])) (mC (.int 1))), (mN 9)]))))) sNil)
    (sSeq (sAsg 6 (mBin ixS (mLst [(mC (.int 0)), (mC (.int 1)), (mC (.int 2)), (mC (.int 2)), (mBin ixS (mLst [(mC (.int 1)), (mC (.int 4))]) (mPrim intS [(mBin eqS (mN 4) (mC (.int 2)))])), (mC (.int 3))]) (mCall Φ 11 [(mN 0), (mBin addS (mN 1) (mC (.int 2))), (mC (.int 6))])))
    (sSeq (sAsg 7 (mComp (mIR1 (mN 6)) [10] (tN 10) mTrue (b__law_tree_e1 Φ)))
    (sRet (mTup [(mBin ixS (mN 2) (mCall Φ 11 [(mN 0), (mBin addS (mN 1) (mC (.int 3))), (mC (.int 4))])), (mPrim tupleS [(mN 7)])]))))))))
def c__law_tree : CF := ⟨5, 11, false, b__law_tree⟩

def b__law_case (Φ : Phi) : MS :=
    (sSeq (sAsg 3 (mCall Φ 13 [(mN 0), (mC (.int 20))]))
    (sSeq (sAsg 4 (mCall Φ 19 [(mN 0), (mC (.int 100)), (mN 3), (mN 1)]))
    (sRet (mTup [(mN 3), (mN 4), (mCall Φ 36 [(mN 0), (mC (.int 30)), (mN 3), (mN 4), (mN 2)])]))))
def c__law_case : CF := ⟨3, 5, false, b__law_case⟩

def b_size_of_e1 (Φ : Phi) : M Hd :=
    (mCall Φ 39 [(mN 1)])
def b_size_of (Φ : Phi) : MS :=
    (sRet (mBin addS (mC (.int 1)) (mPrim sumS [(mComp (mIT (mBin ixS (mN 0) (mC (.int 1)))) [1] (tN 1) mTrue (b_size_of_e1 Φ))])))
def c_size_of : CF := ⟨1, 2, false, b_size_of⟩

def b_size (Φ : Phi) : MS :=
    (sSeq (sExpr (mCall Φ 26 [(mN 0)]))
    (sRet (mCall Φ 39 [(mN 0)])))
def c_size : CF := ⟨1, 1, false, b_size⟩

def b_need_place (Φ : Phi) : MS :=
    (sSeq (sExpr (mCall Φ 26 [(mN 0)]))
    (sIf (mOrT (mNotT (mB (mUn (isiS .ttup) (mN 1)))) (mB (mBin isS (mCall Φ 27 [(mN 0), (mN 1)]) (mC .non)))) (sRaise 2) sNil))
def c_need_place : CF := ⟨2, 2, false, b_need_place⟩

def b_part_at (Φ : Phi) : MS :=
    (sSeq (sExpr (mCall Φ 41 [(mN 0), (mN 1)]))
    (sRet (mCall Φ 27 [(mN 0), (mN 1)])))
def c_part_at : CF := ⟨2, 2, false, b_part_at⟩

def b_put_in (Φ : Phi) : MS :=
    (sSeq (sIf (mB (mBin eqS (mN 1) (mTup []))) (sRet (mN 2)) sNil)
    (sSeq (sAsg 3 (mPrim listS [(mBin ixS (mN 0) (mC (.int 1)))]))
    (sSeq (sLput 3 (mBin ixS (mN 1) (mC (.int 0))) (mCall Φ 43 [(mBin ixS (mN 3) (mBin ixS (mN 1) (mC (.int 0)))), (mSl (mN 1) (mO1 (mC (.int 1))) mO0), (mN 2)]))
    (sRet (mTup [(mBin ixS (mN 0) (mC (.int 0))), (mPrim tupleS [(mN 3)])])))))
def c_put_in : CF := ⟨3, 4, false, b_put_in⟩

def b_put_at (Φ : Phi) : MS :=
    (sSeq (sExpr (mCall Φ 41 [(mN 0), (mN 1)]))
    (sSeq (sExpr (mCall Φ 26 [(mN 2)]))
    (sSeq (sAsg 3 (mCall Φ 43 [(mN 0), (mN 1), (mN 2)]))
    (sSeq (sIf (mNotT (mB (mCall Φ 25 [(mN 3)]))) (sRaise 5) sNil)
    (sRet (mN 3))))))
def c_put_at : CF := ⟨3, 4, false, b_put_at⟩

def b_places (Φ : Phi) : MS :=
    (sSeq (sExpr (mCall Φ 26 [(mN 0)]))
    (sRet (mCall Φ 28 [(mN 0), (mTup []), (mC (.bl false))])))
def c_places : CF := ⟨1, 1, false, b_places⟩

def b_loud_places (Φ : Phi) : MS :=
    (sSeq (sExpr (mCall Φ 26 [(mN 0)]))
    (sRet (mCall Φ 28 [(mN 0), (mTup []), (mC (.bl true))])))
def c_loud_places : CF := ⟨1, 1, false, b_loud_places⟩

def b__law_places_e1 (Φ : Phi) : M Hd :=
    (mTup [(mBin addS (mN 4) (mTup [(mN 6)])), (mN 7)])
def b__law_places_c1 (Φ : Phi) : M Bool :=
    (mB (mBin neS (mN 3) (mLst [])))
def b__law_places_w1 (Φ : Phi) : MS :=
    (sSeq (sAsgT (tT 2 (tCons (tN 4) (tCons (tN 5) tNil))) (mLM 3 lmPop []))
    (sIf (mOrT (mNotT (mB (mN 1))) (mB (mBin neS (mBin ixS (mN 5) (mC (.int 0))) (mC (.str "quiet"))))) (sSeq (sExpr (mLM 2 lmAppend [(mN 4)]))
    (sExpr (mLM 3 lmExtend [(mComp (mIE (mBin ixS (mN 5) (mC (.int 1)))) [6, 7] (tT 2 (tCons (tN 6) (tCons (tN 7) tNil))) mTrue (b__law_places_e1 Φ))]))) sNil))
def b__law_places (Φ : Phi) : MS :=
    (sSeq (sAsg 2 (mLst []))
    (sSeq (sAsg 3 (mLst [(mTup [(mTup []), (mN 0)])]))
    (sSeq (sWhile 100000 (b__law_places_c1 Φ) (b__law_places_w1 Φ))
    (sRet (mPrim sortS [(mN 2)])))))
def c__law_places : CF := ⟨2, 8, false, b__law_places⟩

def b__law_at_l1 (Φ : Phi) : MS :=
    (sAsg 0 (mBin ixS (mBin ixS (mN 0) (mC (.int 1))) (mN 2)))
def b__law_at (Φ : Phi) : MS :=
    (sSeq (sFor (mIT (mN 1)) (tN 2) (b__law_at_l1 Φ))
    (sRet (mN 0)))
def c__law_at : CF := ⟨2, 3, false, b__law_at⟩

def b__law_put (Φ : Phi) : MS :=
    (sSeq (sIf (mB (mBin eqS (mN 1) (mTup []))) (sRet (mN 2)) sNil)
    (sSeq (sAsg 3 (mPrim listS [(mBin ixS (mN 0) (mC (.int 1)))]))
    (sSeq (sLput 3 (mBin ixS (mN 1) (mC (.int 0))) (mCall Φ 49 [(mBin ixS (mN 3) (mBin ixS (mN 1) (mC (.int 0)))), (mSl (mN 1) (mO1 (mC (.int 1))) mO0), (mN 2)]))
    (sRet (mTup [(mBin ixS (mN 0) (mC (.int 0))), (mPrim tupleS [(mN 3)])])))))
def c__law_put : CF := ⟨3, 4, false, b__law_put⟩

def b__law_chain_l1 (Φ : Phi) : MS :=
    (sAsg 2 (mTup [(mN 0), (mTup [(mN 2)])]))
def b__law_chain (Φ : Phi) : MS :=
    (sSeq (sAsg 2 (mTup [(mN 0), (mTup [])]))
    (sSeq (sFor (mIR1 (mBin subS (mN 1) (mC (.int 1)))) (tN 3) (b__law_chain_l1 Φ))
    (sRet (mN 2))))
def c__law_chain : CF := ⟨2, 4, false, b__law_chain⟩

def b__law_bad_tree (Φ : Phi) : MS :=
    (sSeq (sAsg 3 (mLst [(mC .non), (mBin ixS (mN 2) (mC (.int 0))), (mPrim listS [(mN 2)]), (mTup [(mBin ixS (mN 2) (mC (.int 0)))]), (mTup [(mBin ixS (mN 2) (mC (.int 0))), (mLst [(mN 2)])]), (mTup [(mC (.str "")), (mTup [])]), (mTup [(mC (.str "Ab")), (mTup [])]), (mTup [(mC (.str "abcdefg")), (mTup [])]), (mC (.int 0)), (mTup [(mC (.int 1)), (mTup [])])]))
    (sSeq (sExpr (mLM 3 lmExtend [(mLst [(mTup [(mC (.str "quiet")), (mTup [])]), (mTup [(mC (.str "quiet")), (mTup [(mN 2), (mN 2)])]), (mTup [(mBin ixS (mN 2) (mC (.int 0))), (mBin mulS (mTup [(mTup [(mC (.str "a")), (mTup [])])]) (mC (.int 5)))]), (mTup [(mC (.str "a")), (mTup [(mC .non)])]), (mTup [(mC (.str "b")), (mTup [(mC (.int 0))])])])]))
    (sSeq (sExpr (mLM 3 lmExtend [(mLst [(mTup [(mC (.str "a")), (mTup [(mTup [(mC (.str "b")), (mTup [])]), (mTup [(mC (.str "c")), (mTup [(mC (.str "d"))])])])]), (mTup [(mBin ixS (mN 2) (mC (.int 0))), (mBin ixS (mN 2) (mC (.int 1))), (mBin ixS (mN 2) (mC (.int 1)))]), (mCall Φ 50 [(mC (.str "a")), (mC (.int 61))])])]))
    (sRet (mBin ixS (mN 3) (mCall Φ 11 [(mN 0), (mN 1), (mC (.int 18))]))))))
def c__law_bad_tree : CF := ⟨3, 4, false, b__law_bad_tree⟩

def b__law_told (FNS : List Nat) (Φ : Phi) : MS :=
    (sTry (sRet (mCallL Φ FNS 0 [(mN 1), (mN 2)])))
def c__law_told (FNS : List Nat) : CF := ⟨3, 4, false, b__law_told FNS⟩

def b__law_told_three (FNS : List Nat) (Φ : Phi) : MS :=
    (sTry (sRet (mCallL Φ FNS 0 [(mN 1), (mN 2), (mN 3)])))
def c__law_told_three (FNS : List Nat) : CF := ⟨4, 5, false, b__law_told_three FNS⟩

def b__law_size (Φ : Phi) : MS :=
    (sRet (mPrim lenS [(mCall Φ 47 [(mN 0), (mC (.bl false))])]))
def c__law_size : CF := ⟨1, 1, false, b__law_size⟩

def b__law_fits_c1 (Φ : Phi) : M Bool :=
    (mB (mBin neS (mN 3) (mLst [])))
def b__law_fits_w1 (Φ : Phi) : MS :=
    (sSeq (sAsgT (tT 2 (tCons (tN 4) (tCons (tN 5) tNil))) (mLM 3 lmPop []))
    (sIf (mB (mUn (isiS .tint) (mN 4))) (sIf (mB (mBin neS (mSetd 2 (mN 4) (mN 5)) (mN 5))) (sRet (mC (.bl false))) sNil) (sIf (mOrT (mB (mBin neS (mBin ixS (mN 4) (mC (.int 0))) (mBin ixS (mN 5) (mC (.int 0))))) (mB (mBin neS (mPrim lenS [(mBin ixS (mN 4) (mC (.int 1)))]) (mPrim lenS [(mBin ixS (mN 5) (mC (.int 1)))])))) (sRet (mC (.bl false))) (sExpr (mLM 3 lmExtend [(mLZ (mBin ixS (mN 4) (mC (.int 1))) (mBin ixS (mN 5) (mC (.int 1))))])))))
def b__law_fits (Φ : Phi) : MS :=
    (sSeq (sAsg 3 (mLst [(mTup [(mN 0), (mN 1)])]))
    (sSeq (sWhile 100000 (b__law_fits_c1 Φ) (b__law_fits_w1 Φ))
    (sRet (mC (.bl true)))))
def c__law_fits : CF := ⟨3, 6, true, b__law_fits⟩

def b__law_findings_l1 (Φ : Phi) : MS :=
    (sIf (mB (mCallF Φ 56 [(mN 5), (mCall Φ 48 [(mN 1), (mN 3)])])) (sExpr (mLM 2 lmAppend [(mTup [(mN 3), (mN 4)])])) sNil)
def b__law_findings_l2 (Φ : Phi) : MS :=
    (sFor (mIT (mN 0)) (tT 3 (tCons (tN 4) (tCons (tN 5) (tCons (tN 6) tNil)))) (b__law_findings_l1 Φ))
def b__law_findings (Φ : Phi) : MS :=
    (sSeq (sAsg 2 (mLst []))
    (sSeq (sFor (mIL (mCall Φ 47 [(mN 1), (mC (.bl true))])) (tN 3) (b__law_findings_l2 Φ))
    (sRet (mN 2))))
def c__law_findings : CF := ⟨2, 7, false, b__law_findings⟩

def b_rule_of_t1 (Φ : Phi) : M Bool :=
    (mB (mBin eqS (mBin ixS (mN 2) (mC (.int 0))) (mN 1)))
def b_rule_of_e1 (Φ : Phi) : M Hd :=
    (mN 2)
def b_rule_of (Φ : Phi) : MS :=
    (sRet (mBin ixS (mComp (mIT (mN 0)) [2] (tN 2) (b_rule_of_t1 Φ) (b_rule_of_e1 Φ)) (mC (.int 0))))
def c_rule_of : CF := ⟨2, 3, false, b_rule_of⟩

def b_done (Φ : Phi) : MS :=
    (sSeq (sAsgT (tT 2 (tCons (tN 3) (tCons (tN 4) tNil))) (mN 2))
    (sRet (mCall Φ 43 [(mN 1), (mN 3), (mCall Φ 31 [(mCall Φ 59 [(mN 0), (mN 4)]), (mCall Φ 27 [(mN 1), (mN 3)])])])))
def c_done : CF := ⟨3, 5, false, b_done⟩

def b_mend_at (Φ : Phi) : MS :=
    (sSeq (sExpr (mCall Φ 8 [(mN 0)]))
    (sSeq (sExpr (mCall Φ 26 [(mN 1)]))
    (sSeq (sIf (mB (mBin notInS (mN 2) (mCall Φ 33 [(mN 0), (mN 1)]))) (sRaise 3) sNil)
    (sRet (mCall Φ 60 [(mN 0), (mN 1), (mN 2)])))))
def c_mend_at : CF := ⟨3, 3, false, b_mend_at⟩

def b__law_mended_t1 (Φ : Phi) : M Bool :=
    (mB (mBin eqS (mBin ixS (mN 7) (mC (.int 0))) (mN 6)))
def b__law_mended_e1 (Φ : Phi) : M Hd :=
    (mN 7)
def b__law_mended (Φ : Phi) : MS :=
    (sSeq (sAsgT (tT 2 (tCons (tN 5) (tCons (tN 6) tNil))) (mN 2))
    (sSeq (sAsg 3 (mBin ixS (mComp (mIT (mN 0)) [7] (tN 7) (b__law_mended_t1 Φ) (b__law_mended_e1 Φ)) (mC (.int 0))))
    (sSeq (sAsg 4 mDnew)
    (sSeq (sExpr (mCallI Φ 56 [(mBin ixS (mN 3) (mC (.int 1))), (mCall Φ 48 [(mN 1), (mN 5)])] 4))
    (sRet (mCall Φ 49 [(mN 1), (mN 5), (mCall Φ 35 [(mBin ixS (mN 3) (mC (.int 2))), (mN 4)])]))))))
def c__law_mended : CF := ⟨3, 8, false, b__law_mended⟩

def b__law_apart (Φ : Phi) : MS :=
    (sSeq (sAsg 2 (mPrim minS [(mPrim lenS [(mN 0)]), (mPrim lenS [(mN 1)])]))
    (sRet (mBin neS (mSl (mN 0) mO0 (mO1 (mN 2))) (mSl (mN 1) mO0 (mO1 (mN 2))))))
def c__law_apart : CF := ⟨2, 3, false, b__law_apart⟩

def b_begins (Φ : Phi) : MS :=
    (sRet (mBin eqS (mSl (mN 1) mO0 (mO1 (mPrim lenS [(mN 0)]))) (mN 0)))
def c_begins : CF := ⟨2, 2, false, b_begins⟩

def b_are_apart (Φ : Phi) : MS :=
    (sRet (mAndV (mNotV (mCall Φ 65 [(mN 0), (mN 1)])) (mNotV (mCall Φ 65 [(mN 1), (mN 0)]))))
def c_are_apart : CF := ⟨2, 2, false, b_are_apart⟩

def b_together_l1 (Φ : Phi) : MS :=
    (sAsg 1 (mCall Φ 60 [(mN 0), (mN 1), (mN 3)]))
def b_together (Φ : Phi) : MS :=
    (sSeq (sForN 2 (tN 3) (b_together_l1 Φ))
    (sRet (mN 1)))
def c_together : CF := ⟨3, 4, false, b_together⟩

def b_at_once_e1 (Φ : Phi) : M Hd :=
    (mBin inS (mN 6) (mN 3))
def b_at_once_e2 (Φ : Phi) : M Hd :=
    (mCall Φ 66 [(mBin ixS (mN 5) (mC (.int 0))), (mBin ixS (mN 7) (mC (.int 0)))])
def b_at_once_l1 (Φ : Phi) : MS :=
    (sIf (mNotT (mB (mPrim allS [(mComp (mIL (mSl (mN 2) mO0 (mO1 (mN 4)))) [7] (tN 7) mTrue (b_at_once_e2 Φ))]))) (sRaise 4) sNil)
def b_at_once (Φ : Phi) : MS :=
    (sSeq (sExpr (mCall Φ 8 [(mN 0)]))
    (sSeq (sExpr (mCall Φ 26 [(mN 1)]))
    (sSeq (sAsg 3 (mCall Φ 33 [(mN 0), (mN 1)]))
    (sSeq (sIf (mOrT (mNotT (mB (mUn (isiS .tlst) (mN 2)))) (mNotT (mB (mPrim allS [(mCompN 2 [6] (tN 6) mTrue (b_at_once_e1 Φ))])))) (sRaise 3) sNil)
    (sSeq (sFor (mIEL (mN 2)) (tT 2 (tCons (tN 4) (tCons (tN 5) tNil))) (b_at_once_l1 Φ))
    (sRet (mCall Φ 67 [(mN 0), (mN 1), (mN 2)])))))))
def c_at_once : CF := ⟨3, 8, false, b_at_once⟩

def b_chosen_e1 (Φ : Phi) : M Hd :=
    (mCall Φ 66 [(mBin ixS (mN 3) (mC (.int 0))), (mBin ixS (mN 4) (mC (.int 0)))])
def b_chosen_l1 (Φ : Phi) : MS :=
    (sIf (mB (mPrim allS [(mCompN 2 [4] (tN 4) mTrue (b_chosen_e1 Φ))])) (sExpr (mLM 2 lmAppend [(mN 3)])) sNil)
def b_chosen (Φ : Phi) : MS :=
    (sSeq (sAsg 2 (mLst []))
    (sSeq (sFor (mIL (mCall Φ 33 [(mN 0), (mN 1)])) (tN 3) (b_chosen_l1 Φ))
    (sRet (mN 2))))
def c_chosen : CF := ⟨2, 5, false, b_chosen⟩

def b_choice (Φ : Phi) : MS :=
    (sSeq (sExpr (mCall Φ 8 [(mN 0)]))
    (sSeq (sExpr (mCall Φ 26 [(mN 1)]))
    (sRet (mCall Φ 70 [(mN 0), (mN 1)]))))
def c_choice : CF := ⟨2, 2, false, b_choice⟩

def b_all_rounds_c1 (Φ : Phi) : M Bool :=
    (mB (mBin neS (mN 3) (mLst [])))
def b_all_rounds_w1 (Φ : Phi) : MS :=
    (sSeq (sExpr (mLM 2 lmAppend [(mCall Φ 67 [(mN 0), (mBin ixS (mN 2) (mUn negS (mC (.int 1)))), (mN 3)])]))
    (sAsg 3 (mCall Φ 70 [(mN 0), (mBin ixS (mN 2) (mUn negS (mC (.int 1))))])))
def b_all_rounds (Φ : Phi) : MS :=
    (sSeq (sAsg 2 (mLst [(mN 1)]))
    (sSeq (sAsg 3 (mCall Φ 70 [(mN 0), (mN 1)]))
    (sSeq (sWhile 100000 (b_all_rounds_c1 Φ) (b_all_rounds_w1 Φ))
    (sRet (mN 2)))))
def c_all_rounds : CF := ⟨2, 4, false, b_all_rounds⟩

def b_rounds (Φ : Phi) : MS :=
    (sSeq (sExpr (mCall Φ 8 [(mN 0)]))
    (sSeq (sExpr (mCall Φ 26 [(mN 1)]))
    (sRet (mCall Φ 72 [(mN 0), (mN 1)]))))
def c_rounds : CF := ⟨2, 2, false, b_rounds⟩

def b_end_of (Φ : Phi) : MS :=
    (sRet (mBin ixS (mCall Φ 72 [(mN 0), (mN 1)]) (mUn negS (mC (.int 1)))))
def c_end_of : CF := ⟨2, 2, false, b_end_of⟩

def b_end (Φ : Phi) : MS :=
    (sSeq (sExpr (mCall Φ 8 [(mN 0)]))
    (sSeq (sExpr (mCall Φ 26 [(mN 1)]))
    (sRet (mCall Φ 74 [(mN 0), (mN 1)]))))
def c_end : CF := ⟨2, 2, false, b_end⟩

def b_deep_e1 (Φ : Phi) : M Hd :=
    (mCall Φ 78 [(mN 1)])
def b_deep (Φ : Phi) : MS :=
    (sSeq (sIf (mB (mUn (isiS .tint) (mN 0))) (sRet (mC (.int 0))) sNil)
    (sRet (mBin addS (mC (.int 1)) (mPrim maxS [(mBin addS (mComp (mIT (mBin ixS (mN 0) (mC (.int 1)))) [1] (tN 1) mTrue (b_deep_e1 Φ)) (mLst [(mC (.int 0))]))]))))
def c_deep : CF := ⟨1, 2, false, b_deep⟩

def b_reach_l1 (Φ : Phi) : MS :=
    (sSeq (sAsg 5 (mCall Φ 4 [(mN 3)]))
    (sSeq (sIf (mB (mBin neS (mUn lenSetS (mN 5)) (mPrim lenS [(mN 5)]))) (sRet (mC .non)) sNil)
    (sAsg 1 (mPrim maxS [(mN 1), (mCall Φ 78 [(mN 3)])]))))
def b_reach (Φ : Phi) : MS :=
    (sSeq (sAsg 1 (mC (.int 0)))
    (sSeq (sFor (mIT (mN 0)) (tT 3 (tCons (tN 2) (tCons (tN 3) (tCons (tN 4) tNil)))) (b_reach_l1 Φ))
    (sRet (mN 1))))
def c_reach : CF := ⟨1, 6, false, b_reach⟩

def b_places_looked_l1 (Φ : Phi) : MS :=
    (sIf (mB (mCall Φ 65 [(mN 2), (mN 5)])) (sExpr (mLM 4 lmAppend [(mN 5)])) (sIf (mAndT (mB (mCall Φ 65 [(mN 5), (mN 2)])) (mOrT (mB (mBin isS (mN 3) (mC .non))) (mB (mBin ltS (mBin subS (mPrim lenS [(mN 2)]) (mPrim lenS [(mN 5)])) (mN 3))))) (sExpr (mLM 4 lmAppend [(mN 5)])) sNil))
def b_places_looked (Φ : Phi) : MS :=
    (sSeq (sAsg 3 (mCall Φ 79 [(mN 0)]))
    (sSeq (sAsg 4 (mLst []))
    (sSeq (sFor (mIL (mCall Φ 28 [(mN 1), (mTup []), (mC (.bl true))])) (tN 5) (b_places_looked_l1 Φ))
    (sRet (mN 4)))))
def c_places_looked : CF := ⟨3, 6, false, b_places_looked⟩

def b_looked (Φ : Phi) : MS :=
    (sSeq (sExpr (mCall Φ 8 [(mN 0)]))
    (sSeq (sExpr (mCall Φ 41 [(mN 1), (mN 2)]))
    (sRet (mCall Φ 80 [(mN 0), (mN 1), (mN 2)]))))
def c_looked : CF := ⟨3, 3, false, b_looked⟩

def b__law_deep_e1 (Φ : Phi) : M Hd :=
    (mCall Φ 82 [(mN 1)])
def b__law_deep (Φ : Phi) : MS :=
    (sSeq (sIf (mB (mUn (isiS .tint) (mN 0))) (sRet (mC (.int 0))) sNil)
    (sRet (mBin addS (mC (.int 1)) (mPrim maxS [(mBin addS (mComp (mIT (mBin ixS (mN 0) (mC (.int 1)))) [1] (tN 1) mTrue (b__law_deep_e1 Φ)) (mLst [(mC (.int 0))]))]))))
def c__law_deep : CF := ⟨1, 2, false, b__law_deep⟩

def b_again_t1 (Φ : Phi) : M Bool :=
    (mAndT (mB (mBin notInS (mBin ixS (mN 6) (mC (.int 0))) (mN 4))) (mNotT (mB (mCall Φ 65 [(mN 3), (mBin ixS (mN 6) (mC (.int 0)))]))))
def b_again_e1 (Φ : Phi) : M Hd :=
    (mN 6)
def b_again (Φ : Phi) : MS :=
    (sSeq (sExpr (mCall Φ 8 [(mN 0)]))
    (sSeq (sExpr (mCall Φ 41 [(mN 2), (mN 3)]))
    (sSeq (sAsg 4 (mCall Φ 80 [(mN 0), (mN 2), (mN 3)]))
    (sSeq (sAsg 5 (mCompN 1 [6] (tN 6) (b_again_t1 Φ) (b_again_e1 Φ)))
    (sRet (mPrim sortS [(mBin addS (mN 5) (mCall Φ 32 [(mN 0), (mN 2), (mN 4)]))]))))))
def c_again : CF := ⟨4, 7, false, b_again⟩

def b_law_k20_t1 (Φ : Phi) : M Bool :=
    (mB (mBin eqS (mSl (mN 10) mO0 (mO1 (mPrim lenS [(mN 2)]))) (mN 2)))
def b_law_k20_e1 (Φ : Phi) : M Hd :=
    (mTup [(mSl (mN 10) (mO1 (mPrim lenS [(mN 2)])) mO0), (mN 11)])
def b_law_k20_l1 (Φ : Phi) : MS :=
    (sSeq (sAsg 9 (mCall Φ 61 [(mN 4), (mN 5), (mTup [(mBin addS (mN 2) (mBin ixS (mN 8) (mC (.int 0)))), (mBin ixS (mN 8) (mC (.int 1)))])]))
    (sIf (mB (mBin neS (mCall Φ 44 [(mN 5), (mN 2), (mCall Φ 61 [(mN 4), (mN 6), (mN 8)])]) (mN 9))) (sRet (mC (.bl false))) sNil))
def b_law_k20_l2 (Φ : Phi) : MS :=
    (sSeq (sAsg 6 (mCall Φ 42 [(mN 5), (mN 2)]))
    (sSeq (sAsg 7 (mCompN 1 [10, 11] (tT 2 (tCons (tN 10) (tCons (tN 11) tNil))) (b_law_k20_t1 Φ) (b_law_k20_e1 Φ)))
    (sSeq (sIf (mB (mBin neS (mCall Φ 34 [(mN 4), (mN 6)]) (mN 7))) (sRet (mC (.bl false))) sNil)
    (sFor (mIL (mSl (mN 7) mO0 (mO1 (mC (.int 3))))) (tN 8) (b_law_k20_l1 Φ)))))
def b_law_k20 (Φ : Phi) : MS :=
    (sSeq (sAsgT (tT 3 (tCons (tN 3) (tCons (tN 4) (tCons (tN 5) tNil)))) (mCall Φ 37 [(mN 0), (mC (.int 4)), (mC (.int 4))]))
    (sSeq (sAsg 1 (mCall Φ 34 [(mN 4), (mN 5)]))
    (sSeq (sFor (mIL (mSl (mCall Φ 46 [(mN 5)]) mO0 (mO1 (mC (.int 12))))) (tN 2) (b_law_k20_l2 Φ))
    (sRet (mC (.bl true))))))
def c_law_k20 : CF := ⟨1, 12, false, b_law_k20⟩

def b_lifted_e1 (Φ : Phi) : M Hd :=
    (mCall Φ 87 [(mN 1)])
def b_lifted (Φ : Phi) : MS :=
    (sSeq (sIf (mB (mUn (isiS .tint) (mN 0))) (sRet (mBin addS (mN 0) (mC (.int 2)))) sNil)
    (sRet (mTup [(mBin ixS (mN 0) (mC (.int 0))), (mPrim tupleS [(mComp (mIT (mBin ixS (mN 0) (mC (.int 1)))) [1] (tN 1) mTrue (b_lifted_e1 Φ))])])))
def c_lifted : CF := ⟨1, 2, false, b_lifted⟩

def b_top_c1 (Φ : Phi) : M Bool :=
    (mAndT (mB (mUn (isiS .tint) (mN 0))) (mB (mBin inS (mN 0) (mN 1))))
def b_top_w1 (Φ : Phi) : MS :=
    (sAsg 0 (mBin ixS (mN 1) (mN 0)))
def b_top (Φ : Phi) : MS :=
    (sSeq (sWhile 100000 (b_top_c1 Φ) (b_top_w1 Φ))
    (sRet (mN 0)))
def c_top : CF := ⟨2, 2, false, b_top⟩

def b_has_e1 (Φ : Phi) : M Hd :=
    (mCall Φ 89 [(mN 0), (mN 3), (mN 2)])
def b_has (Φ : Phi) : MS :=
    (sSeq (sAsg 1 (mCall Φ 88 [(mN 1), (mN 2)]))
    (sSeq (sIf (mB (mUn (isiS .tint) (mN 1))) (sRet (mBin eqS (mN 1) (mN 0))) sNil)
    (sRet (mPrim anyS [(mComp (mIT (mBin ixS (mN 1) (mC (.int 1)))) [3] (tN 3) mTrue (b_has_e1 Φ))]))))
def c_has : CF := ⟨3, 4, false, b_has⟩

def b_one_of_l1 (Φ : Phi) : MS :=
    (sIf (mNotT (mB (mCall Φ 90 [(mN 3), (mN 4), (mN 2)]))) (sRet (mC (.bl false))) sNil)
def b_one_of (Φ : Phi) : MS :=
    (sSeq (sAsg 0 (mCall Φ 88 [(mN 0), (mN 2)]))
    (sSeq (sAsg 1 (mCall Φ 88 [(mN 1), (mN 2)]))
    (sSeq (sIf (mB (mBin eqS (mN 0) (mN 1))) (sRet (mC (.bl true))) sNil)
    (sSeq (sIf (mB (mUn (isiS .tint) (mN 0))) (sSeq (sIf (mB (mCall Φ 89 [(mN 0), (mN 1), (mN 2)])) (sRet (mC (.bl false))) sNil)
    (sSeq (sLput 2 (mN 0) (mN 1))
    (sRet (mC (.bl true))))) sNil)
    (sSeq (sIf (mB (mUn (isiS .tint) (mN 1))) (sRet (mCall Φ 90 [(mN 1), (mN 0), (mN 2)])) sNil)
    (sSeq (sIf (mOrT (mB (mBin neS (mBin ixS (mN 0) (mC (.int 0))) (mBin ixS (mN 1) (mC (.int 0))))) (mB (mBin neS (mPrim lenS [(mBin ixS (mN 0) (mC (.int 1)))]) (mPrim lenS [(mBin ixS (mN 1) (mC (.int 1)))])))) (sRet (mC (.bl false))) sNil)
    (sSeq (sFor (mIZ (mBin ixS (mN 0) (mC (.int 1))) (mBin ixS (mN 1) (mC (.int 1)))) (tT 2 (tCons (tN 3) (tCons (tN 4) tNil))) (b_one_of_l1 Φ))
    (sRet (mC (.bl true))))))))))
def c_one_of : CF := ⟨3, 5, false, b_one_of⟩

def b_whole_e1 (Φ : Phi) : M Hd :=
    (mCall Φ 91 [(mN 2), (mN 1)])
def b_whole (Φ : Phi) : MS :=
    (sSeq (sAsg 0 (mCall Φ 88 [(mN 0), (mN 1)]))
    (sSeq (sIf (mB (mUn (isiS .tint) (mN 0))) (sRet (mN 0)) sNil)
    (sRet (mTup [(mBin ixS (mN 0) (mC (.int 0))), (mPrim tupleS [(mComp (mIT (mBin ixS (mN 0) (mC (.int 1)))) [2] (tN 2) mTrue (b_whole_e1 Φ))])]))))
def c_whole : CF := ⟨2, 3, false, b_whole⟩

def b_inner_places_l1 (Φ : Phi) : MS :=
    (sExpr (mLM 2 lmExtend [(mCall Φ 92 [(mN 4), (mBin addS (mN 1) (mTup [(mN 3)]))])]))
def b_inner_places (Φ : Phi) : MS :=
    (sSeq (sIf (mB (mUn (isiS .tint) (mN 0))) (sRet (mLst [])) sNil)
    (sSeq (sAsg 2 (mLst [(mN 1)]))
    (sSeq (sFor (mIE (mBin ixS (mN 0) (mC (.int 1)))) (tT 2 (tCons (tN 3) (tCons (tN 4) tNil))) (b_inner_places_l1 Φ))
    (sRet (mN 2)))))
def c_inner_places : CF := ⟨2, 5, false, b_inner_places⟩

def b_inner_at_l1 (Φ : Phi) : MS :=
    (sAsg 0 (mBin ixS (mBin ixS (mN 0) (mC (.int 1))) (mN 2)))
def b_inner_at (Φ : Phi) : MS :=
    (sSeq (sFor (mIT (mN 1)) (tN 2) (b_inner_at_l1 Φ))
    (sRet (mN 0)))
def c_inner_at : CF := ⟨2, 3, false, b_inner_at⟩

def b_words_of_l1 (Φ : Phi) : MS :=
    (sExpr (mLM 2 lmExtend [(mLst [(mN 4), (mN 5)])]))
def b_words_of_c1 (Φ : Phi) : M Bool :=
    (mB (mBin neS (mN 2) (mLst [])))
def b_words_of_w1 (Φ : Phi) : MS :=
    (sSeq (sAsg 6 (mLM 2 lmPop []))
    (sIf (mNotT (mB (mUn (isiS .tint) (mN 6)))) (sSeq (sLput 1 (mBin ixS (mN 6) (mC (.int 0))) (mC (.bl true)))
    (sExpr (mLM 2 lmExtend [(mPrim listS [(mBin ixS (mN 6) (mC (.int 1)))])]))) sNil))
def b_words_of (Φ : Phi) : MS :=
    (sSeq (sAsg 1 mDnew)
    (sSeq (sAsg 2 (mLst []))
    (sSeq (sFor (mIT (mN 0)) (tT 3 (tCons (tN 3) (tCons (tN 4) (tCons (tN 5) tNil)))) (b_words_of_l1 Φ))
    (sSeq (sWhile 100000 (b_words_of_c1 Φ) (b_words_of_w1 Φ))
    (sRet (mN 1))))))
def c_words_of : CF := ⟨1, 7, false, b_words_of⟩

def b_fresh_words_e1 (Φ : Phi) : M Hd :=
    (mN 4)
def b_fresh_words_e2 (Φ : Phi) : M Hd :=
    (mBin addS (mN 4) (mN 6))
def b_fresh_words_l1 (Φ : Phi) : MS :=
    (sExpr (mLM 3 lmExtend [(mComp (mIS (mC (.str "abcdefghijklmnopqrstuvwxyz"))) [6] (tN 6) mTrue (b_fresh_words_e2 Φ))]))
def b_fresh_words_t1 (Φ : Phi) : M Bool :=
    (mB (mBin notInS (mN 5) (mN 2)))
def b_fresh_words_e3 (Φ : Phi) : M Hd :=
    (mN 5)
def b_fresh_words (Φ : Phi) : MS :=
    (sSeq (sAsg 2 (mCall Φ 94 [(mN 0)]))
    (sSeq (sLput 2 (mC (.str "quiet")) (mC (.bl true)))
    (sSeq (sAsg 3 (mComp (mIS (mC (.str "abcdefghijklmnopqrstuvwxyz"))) [4] (tN 4) mTrue (b_fresh_words_e1 Φ)))
    (sSeq (sFor (mIS (mC (.str "abcdefghijklmnopqrstuvwxyz"))) (tN 4) (b_fresh_words_l1 Φ))
    (sRet (mSl (mCompN 3 [5] (tN 5) (b_fresh_words_t1 Φ) (b_fresh_words_e3 Φ)) mO0 (mO1 (mN 1))))))))
def c_fresh_words : CF := ⟨2, 7, false, b_fresh_words⟩

def b_named_e1 (Φ : Phi) : M Hd :=
    (mCall Φ 96 [(mN 2), (mN 1)])
def b_named (Φ : Phi) : MS :=
    (sSeq (sIf (mB (mUn (isiS .tint) (mN 0))) (sRet (mTup [(mBin ixS (mN 1) (mN 0)), (mTup [])])) sNil)
    (sRet (mTup [(mBin ixS (mN 0) (mC (.int 0))), (mPrim tupleS [(mComp (mIT (mBin ixS (mN 0) (mC (.int 1)))) [2] (tN 2) mTrue (b_named_e1 Φ))])])))
def c_named : CF := ⟨2, 3, false, b_named⟩

def b_count_e1 (Φ : Phi) : M Hd :=
    (mCall Φ 97 [(mN 1)])
def b_count (Φ : Phi) : MS :=
    (sRet (mBin addS (mC (.int 1)) (mPrim sumS [(mComp (mIT (mBin ixS (mN 0) (mC (.int 1)))) [1] (tN 1) mTrue (b_count_e1 Φ))])))
def c_count : CF := ⟨1, 2, false, b_count⟩

def b_crossing (Φ : Phi) : MS :=
    (sSeq (sAsg 4 mDnew)
    (sSeq (sIf (mNotT (mB (mCall Φ 90 [(mCall Φ 93 [(mBin ixS (mN 1) (mC (.int 1))), (mN 3)]), (mCall Φ 87 [(mBin ixS (mN 2) (mC (.int 1)))]), (mN 4)]))) (sRet (mC .non)) sNil)
    (sSeq (sAsg 5 (mCall Φ 95 [(mN 0), (mBin mulS (mC (.int 2)) (mC (.int 2)))]))
    (sSeq (sAsg 6 (mCall Φ 96 [(mCall Φ 91 [(mBin ixS (mN 1) (mC (.int 1))), (mN 4)]), (mN 5)]))
    (sSeq (sIf (mB (mBin gtS (mCall Φ 97 [(mN 6)]) (mC (.int 60)))) (sRaise 5) sNil)
    (sSeq (sAsg 7 (mCall Φ 96 [(mCall Φ 91 [(mBin ixS (mN 1) (mC (.int 2))), (mN 4)]), (mN 5)]))
    (sRet (mTup [(mN 6), (mN 7), (mCall Φ 43 [(mN 6), (mN 3), (mCall Φ 96 [(mCall Φ 91 [(mCall Φ 87 [(mBin ixS (mN 2) (mC (.int 2)))]), (mN 4)]), (mN 5)])])]))))))))
def c_crossing : CF := ⟨4, 8, false, b_crossing⟩

def b_crossings_of_l1 (Φ : Phi) : MS :=
    (sIf (mOrT (mB (mBin neS (mN 4) (mTup []))) (mB (mBin gtS (mBin ixS (mN 3) (mC (.int 0))) (mBin ixS (mN 2) (mC (.int 0)))))) (sSeq (sAsg 5 (mCall Φ 98 [(mN 0), (mN 2), (mN 3), (mN 4)]))
    (sIf (mB (mBin isNotS (mN 5) (mC .non))) (sExpr (mLM 1 lmAppend [(mN 5)])) sNil)) sNil)
def b_crossings_of_l2 (Φ : Phi) : MS :=
    (sFor (mIL (mCall Φ 92 [(mBin ixS (mN 2) (mC (.int 1))), (mTup [])])) (tN 4) (b_crossings_of_l1 Φ))
def b_crossings_of_l3 (Φ : Phi) : MS :=
    (sFor (mIT (mN 0)) (tN 3) (b_crossings_of_l2 Φ))
def b_crossings_of (Φ : Phi) : MS :=
    (sSeq (sAsg 1 (mLst []))
    (sSeq (sFor (mIT (mN 0)) (tN 2) (b_crossings_of_l3 Φ))
    (sRet (mN 1))))
def c_crossings_of : CF := ⟨1, 6, false, b_crossings_of⟩

def b_parted_in_l1 (Φ : Phi) : MS :=
    (sSeq (sAsg 4 (mCall Φ 74 [(mN 0), (mN 2)]))
    (sSeq (sAsg 5 (mCall Φ 74 [(mN 0), (mN 3)]))
    (sIf (mB (mBin neS (mN 4) (mN 5))) (sRet (mTup [(mN 1), (mN 4), (mN 5)])) sNil)))
def b_parted_in (Φ : Phi) : MS :=
    (sSeq (sFor (mIL (mCall Φ 99 [(mN 0)])) (tT 3 (tCons (tN 1) (tCons (tN 2) (tCons (tN 3) tNil)))) (b_parted_in_l1 Φ))
    (sRet (mC .non)))
def c_parted_in : CF := ⟨1, 6, false, b_parted_in⟩

def b_is_sure (Φ : Phi) : MS :=
    (sSeq (sExpr (mCall Φ 8 [(mN 0)]))
    (sRet (mBin isS (mCall Φ 100 [(mN 0)]) (mC .non))))
def c_is_sure : CF := ⟨1, 1, false, b_is_sure⟩

def b__law_asked (FNS : List Nat) (Φ : Phi) : MS :=
    (sTry (sRet (mCallL Φ FNS 0 [(mN 1)])))
def c__law_asked (FNS : List Nat) : CF := ⟨2, 3, false, b__law_asked FNS⟩

def b_leads_l1 (Φ : Phi) : MS :=
    (sSeq (sIf (mB (mBin notInS (mN 3) (mCall Φ 33 [(mN 0), (mN 1)]))) (sRaise 3) sNil)
    (sAsg 1 (mCall Φ 60 [(mN 0), (mN 1), (mN 3)])))
def b_leads (Φ : Phi) : MS :=
    (sSeq (sExpr (mCall Φ 8 [(mN 0)]))
    (sSeq (sExpr (mCall Φ 26 [(mN 1)]))
    (sSeq (sIf (mNotT (mB (mUn (isiS .tlst) (mN 2)))) (sRaise 3) sNil)
    (sSeq (sForN 2 (tN 3) (b_leads_l1 Φ))
    (sRet (mN 1))))))
def c_leads : CF := ⟨3, 4, false, b_leads⟩

end Z
/-! the row of law_k20_whole_part_of_a_tree: derivations, head -/
namespace Z
open PySem PySem.Spec PyProof.Rows L2
def top (i : Nat) : Stmt := PySem.Challenge.pw_mendhouse_k20_whole_part_of_a_tree.main.body.getD i (.Pass ⟨0, 0, 0, 0⟩)
structure Tx (P : Program) (w : World) (K : PySem.W.Frag) (mg : Str → Option Value) (base : Heap) (g : Gm) (S fw : Addr) (fdw : FuncData) : Prop where
  g_SIGNS : ∃ t, mg "SIGNS" = some (.str "abcdefghijklmnopqrstuvwxyz" t)
  g_LONGEST : ∃ t, mg "LONGEST" = some (.int 6 t)
  g_PARTS : ∃ t, mg "PARTS" = some (.int 4 t)
  g_MOST : ∃ t, mg "MOST" = some (.int 60 t)
  g_QUIET : ∃ t, mg "QUIET" = some (.str "quiet" t)
  g_NODES : ∃ t, mg "NODES" = some (.int 6 t)
  g_HOLES : ∃ t, mg "HOLES" = some (.int 2 t)
  g_RULES : ∃ t, mg "RULES" = some (.int 4 t)
  b_all : mg "all" = none
  b_bool : mg "bool" = none
  b_enumerate : mg "enumerate" = none
  b_int : mg "int" = none
  b_isinstance : mg "isinstance" = none
  b_len : mg "len" = none
  b_list : mg "list" = none
  b_max : mg "max" = none
  b_range : mg "range" = none
  b_sorted : mg "sorted" = none
  b_str : mg "str" = none
  b_sum : mg "sum" = none
  b_tuple : mg "tuple" = none
  b_zip : mg "zip" = none
  R : RefsC [0, 1, 2, 3, 5] K mg g
structure Cs (P : Program) (w : World) (K : PySem.W.Frag) (mg : Str → Option Value) (base : Heap) (g : Gm) (k : Nat) (Φ : Phi) : Prop where
  c_is_word : Cal P w K mg base g k 1 (spF g (Φ 1)) "is_word"
  c_is_node : Cal P w K mg base g k 24 (spF g (Φ 24)) "is_node"
  c_is_tree : Cal P w K mg base g k 25 (spF g (Φ 25)) "is_tree"
  c_need_tree : Cal P w K mg base g k 26 (spF g (Φ 26)) "need_tree"
  c_found_at : Cal P w K mg base g k 27 (spF g (Φ 27)) "found_at"
  c_need_place : Cal P w K mg base g k 41 (spF g (Φ 41)) "need_place"
  c_part_at : Cal P w K mg base g k 42 (spF g (Φ 42)) "part_at"
  c_put_in : Cal P w K mg base g k 43 (spF g (Φ 43)) "put_in"
  c_put_at : Cal P w K mg base g k 44 (spF g (Φ 44)) "put_at"
  c_places_from : Cal P w K mg base g k 28 (spF g (Φ 28)) "places_from"
  c_loud_places : Cal P w K mg base g k 46 (spF g (Φ 46)) "loud_places"
  c_is_hole : Cal P w K mg base g k 2 (spF g (Φ 2)) "is_hole"
  c_is_pattern : Cal P w K mg base g k 3 (spF g (Φ 3)) "is_pattern"
  c_holes_in : Cal P w K mg base g k 4 (spF g (Φ 4)) "holes_in"
  c_words_in : Cal P w K mg base g k 5 (spF g (Φ 5)) "words_in"
  c_is_rule : Cal P w K mg base g k 6 (spF g (Φ 6)) "is_rule"
  c_is_book : Cal P w K mg base g k 7 (spF g (Φ 7)) "is_book"
  c_need_book : Cal P w K mg base g k 8 (spF g (Φ 8)) "need_book"
  c_fits : Cal P w K mg base g k 29 (spI g (Φ 29)) "fits"
  c_filled : Cal P w K mg base g k 30 (spF g (Φ 30)) "filled"
  c_mended : Cal P w K mg base g k 31 (spF g (Φ 31)) "mended"
  c_findings_at : Cal P w K mg base g k 32 (spF g (Φ 32)) "findings_at"
  c_all_findings : Cal P w K mg base g k 33 (spF g (Φ 33)) "all_findings"
  c_findings : Cal P w K mg base g k 34 (spF g (Φ 34)) "findings"
  c_rule_of : Cal P w K mg base g k 59 (spF g (Φ 59)) "rule_of"
  c_done : Cal P w K mg base g k 60 (spF g (Φ 60)) "done"
  c_mend_at : Cal P w K mg base g k 61 (spF g (Φ 61)) "mend_at"
  c__law_cell_at : Cal P w K mg base g k 10 (spF g (Φ 10)) "_law_cell_at"
  c__law_mixed : Cal P w K mg base g k 11 (spF g (Φ 11)) "_law_mixed"
  c__law_word : Cal P w K mg base g k 12 (spF g (Φ 12)) "_law_word"
  c__law_words : Cal P w K mg base g k 13 (spF g (Φ 13)) "_law_words"
  c__law_part : Cal P w K mg base g k 14 (spF g (Φ 14)) "_law_part"
  c__law_pattern : Cal P w K mg base g k 15 (spF g (Φ 15)) "_law_pattern"
  c__law_holes : Cal P w K mg base g k 16 (spF g (Φ 16)) "_law_holes"
  c__law_count : Cal P w K mg base g k 17 (spF g (Φ 17)) "_law_count"
  c__law_mend : Cal P w K mg base g k 18 (spF g (Φ 18)) "_law_mend"
  c__law_book : Cal P w K mg base g k 19 (spF g (Φ 19)) "_law_book"
  c__law_filled : Cal P w K mg base g k 35 (spF g (Φ 35)) "_law_filled"
  c__law_tree : Cal P w K mg base g k 36 (spF g (Φ 36)) "_law_tree"
  c__law_case : Cal P w K mg base g k 37 (spF g (Φ 37)) "_law_case"
  c_law : Cal P w K mg base g k 86 (spF g (Φ 86)) "law"
section
variable {P : Program} {w : World} {K : PySem.W.Frag} {mg : Str → Option Value} {base : Heap} {g : Gm} {k : Nat} {Φ : Phi} {S fw : Addr} {fdw : FuncData}
theorem sc_is_word : FnScope ["thing", "sign"] ["thing"] (defScope (top 13)) := ⟨rfl, rfl, rfl, by decide +kernel, rfl, by decide +kernel, by decide +kernel⟩
theorem d_is_word (hK : g.K = K) (T : Tx P w K mg base g S fw fdw) (C : Cs P w K mg base g k Φ) {f : Addr} (cdv : Value) (A : Around) (outer : List Env) (s : Shared) (H : Hp) (E : XK) (hr : Room k (A.deeper (envOfC "is_word" (defScope (top 13)) s.heap.objs.size f cdv))) (h1 : 1 ≤ k) :
    JB g (cxZ P w K mg base ["thing", "sign"] "is_word" (defScope (top 13)) f cdv A outer s H E) (wE E) (defBody (top 13)) (b_is_word Φ) := by
  have nd := (sc_is_word).nd
  have hu := Room.u191 hr
  have hu1 := hu_of hr
  have tk : L2N.Takes (cxZ P w K mg base ["thing", "sign"] "is_word" (defScope (top 13)) f cdv A outer s H E) (wE E) := L2N.takes_of rfl rfl rfl rfl
  have hp : PassesOwn (model P w) (cxZ P w K mg base ["thing", "sign"] "is_word" (defScope (top 13)) f cdv A outer s H E).A (cxZ P w K mg base ["thing", "sign"] "is_word" (defScope (top 13)) f cdv A outer s H E).env (cxZ P w K mg base ["thing", "sign"] "is_word" (defScope (top 13)) f cdv A outer s H E).xe := passes_of (X := (cxZ P w K mg base ["thing", "sign"] "is_word" (defScope (top 13)) f cdv A outer s H E)) rfl
  exact (jb_one (js_ret (je_and (je_isi .tstr (je_n 0) T.b_isinstance T.b_str (by decide +kernel)) (je_and (je_ch op_leZ op_leZ je_int (je_callB (c_len hK) T.b_len (by decide +kernel) (jh_cons (je_n 0) jh_nil)) (je_gint T.g_LONGEST)) (je_one (je_callB (c_all rfl) T.b_all (by decide +kernel) (jh_cons (je_comp rfl nd (ji_s (je_n 0)) (own := [("sign", 1)]) ⟨blkOk_by (N := ["thing", "sign"]) (sc := defScope (top 13)) (by decide +kernel), by decide, fun _ _ _ _ _ => (jg_n 1 nd), fun _ _ _ _ _ => jts_nil, fun _ _ _ _ _ => (je_cmp (op_inZ hK hu) (je_n 1) (je_gstr T.g_SIGNS) (by rfl))⟩) jh_nil)))))))
theorem sc_is_node : FnScope ["thing"] ["thing"] (defScope (top 14)) := ⟨rfl, rfl, rfl, by decide +kernel, rfl, by decide +kernel, by decide +kernel⟩
theorem d_is_node (hK : g.K = K) (T : Tx P w K mg base g S fw fdw) (C : Cs P w K mg base g k Φ) {f : Addr} (cdv : Value) (A : Around) (outer : List Env) (s : Shared) (H : Hp) (E : XK) (hr : Room k (A.deeper (envOfC "is_node" (defScope (top 14)) s.heap.objs.size f cdv))) (h1 : 1 ≤ k) :
    JB g (cxZ P w K mg base ["thing"] "is_node" (defScope (top 14)) f cdv A outer s H E) (wE E) (defBody (top 14)) (b_is_node Φ) := by
  have nd := (sc_is_node).nd
  have hu := Room.u191 hr
  have hu1 := hu_of hr
  have tk : L2N.Takes (cxZ P w K mg base ["thing"] "is_node" (defScope (top 14)) f cdv A outer s H E) (wE E) := L2N.takes_of rfl rfl rfl rfl
  have hp : PassesOwn (model P w) (cxZ P w K mg base ["thing"] "is_node" (defScope (top 14)) f cdv A outer s H E).A (cxZ P w K mg base ["thing"] "is_node" (defScope (top 14)) f cdv A outer s H E).env (cxZ P w K mg base ["thing"] "is_node" (defScope (top 14)) f cdv A outer s H E).xe := passes_of (X := (cxZ P w K mg base ["thing"] "is_node" (defScope (top 14)) f cdv A outer s H E)) rfl
  exact (jb_cons (js_if (jt_w (jw_or (jt_not (jt_val (je_isi .ttup (je_n 0) T.b_isinstance T.b_tuple (by decide +kernel)))) (jw_or (jt_cmp (op_neZ hK hu) (je_callB (c_len hK) T.b_len (by decide +kernel) (jh_cons (je_n 0) jh_nil)) je_int (nomark _)) (jw_or1 (jt_not (jt_val (je_call C.c_is_word hr tk (ja_cons (je_sub hK (je_n 0) je_int) ja_nil)))))))) (jb_one (js_ret je_bl)) jb_nil)
    (jb_cons (js_if (jt_w (jw_or (jt_not (jt_val (je_isi .ttup (je_sub hK (je_n 0) je_int) T.b_isinstance T.b_tuple (by decide +kernel)))) (jw_or1 (jt_cmp op_gtZ (je_callB (c_len hK) T.b_len (by decide +kernel) (jh_cons (je_sub hK (je_n 0) je_int) jh_nil)) (je_gint T.g_PARTS) (nomark _))))) (jb_one (js_ret je_bl)) jb_nil)
    (jb_one (js_ret (je_or (je_cmp (op_neZ hK hu) (je_sub hK (je_n 0) je_int) (je_gstr T.g_QUIET) (nomark _)) (je_one (je_cmp (op_eqZ hK hu) (je_callB (c_len hK) T.b_len (by decide +kernel) (jh_cons (je_sub hK (je_n 0) je_int) jh_nil)) je_int (nomark _))))))))
theorem sc_is_tree : FnScope ["thing", "row", "many", "one"] ["thing"] (defScope (top 15)) := ⟨rfl, rfl, rfl, by decide +kernel, rfl, by decide +kernel, by decide +kernel⟩
theorem d_is_tree (hK : g.K = K) (T : Tx P w K mg base g S fw fdw) (C : Cs P w K mg base g k Φ) {f : Addr} (cdv : Value) (A : Around) (outer : List Env) (s : Shared) (H : Hp) (E : XK) (hr : Room k (A.deeper (envOfC "is_tree" (defScope (top 15)) s.heap.objs.size f cdv))) (h1 : 1 ≤ k) :
    JB g (cxZ P w K mg base ["thing", "row", "many", "one"] "is_tree" (defScope (top 15)) f cdv A outer s H E) (wE E) (defBody (top 15)) (b_is_tree Φ) := by
  have nd := (sc_is_tree).nd
  have hu := Room.u191 hr
  have hu1 := hu_of hr
  have tk : L2N.Takes (cxZ P w K mg base ["thing", "row", "many", "one"] "is_tree" (defScope (top 15)) f cdv A outer s H E) (wE E) := L2N.takes_of rfl rfl rfl rfl
  have hp : PassesOwn (model P w) (cxZ P w K mg base ["thing", "row", "many", "one"] "is_tree" (defScope (top 15)) f cdv A outer s H E).A (cxZ P w K mg base ["thing", "row", "many", "one"] "is_tree" (defScope (top 15)) f cdv A outer s H E).env (cxZ P w K mg base ["thing", "row", "many", "one"] "is_tree" (defScope (top 15)) f cdv A outer s H E).xe := passes_of (X := (cxZ P w K mg base ["thing", "row", "many", "one"] "is_tree" (defScope (top 15)) f cdv A outer s H E)) rfl
  exact (jb_cons (js_asg (i := 1) nd (je_lst (ja_cons (je_n 0) ja_nil)))
    (jb_cons (js_asg (i := 2) nd je_int)
    (jb_cons (js_while hp (jt_cmp (op_neZ hK hu) (je_n 1) (je_lst ja_nil) (nomark _)) (jb_cons (js_asg (i := 3) nd (je_lm0 1 PySem.F.slot_list_pop PySem.F.type_list_pop mt_pop lm_pop))
    (jb_cons (js_asg (i := 2) nd (je_op (op_addZ hK) (je_n 2) je_int))
    (jb_cons (js_if (jt_w (jw_or (jt_cmp op_gtZ (je_n 2) (je_gint T.g_MOST) (nomark _)) (jw_or1 (jt_not (jt_val (je_call C.c_is_node hr tk (ja_cons (je_n 3) ja_nil))))))) (jb_one (js_ret je_bl)) jb_nil)
    (jb_one (js_expr (je_lm 1 PySem.F.slot_list_extend PySem.F.type_list_extend mt_extend lm_extend (ja_cons (je_callTy c_list T.b_list (by decide +kernel) (jh_cons (je_sub hK (je_n 3) je_int) jh_nil)) ja_nil))))))))
    (jb_one (js_ret je_bl)))))
theorem sc_need_tree : FnScope ["tree"] ["tree"] (defScope (top 16)) := ⟨rfl, rfl, rfl, by decide +kernel, rfl, by decide +kernel, by decide +kernel⟩
theorem d_need_tree (hK : g.K = K) (T : Tx P w K mg base g S fw fdw) (C : Cs P w K mg base g k Φ) {f : Addr} (cdv : Value) (A : Around) (outer : List Env) (s : Shared) (H : Hp) (E : XK) (hr : Room k (A.deeper (envOfC "need_tree" (defScope (top 16)) s.heap.objs.size f cdv))) (h1 : 1 ≤ k) :
    JB g (cxZ P w K mg base ["tree"] "need_tree" (defScope (top 16)) f cdv A outer s H E) (wE E) (defBody (top 16)) (b_need_tree Φ) := by
  have nd := (sc_need_tree).nd
  have hu := Room.u191 hr
  have hu1 := hu_of hr
  have tk : L2N.Takes (cxZ P w K mg base ["tree"] "need_tree" (defScope (top 16)) f cdv A outer s H E) (wE E) := L2N.takes_of rfl rfl rfl rfl
  have hp : PassesOwn (model P w) (cxZ P w K mg base ["tree"] "need_tree" (defScope (top 16)) f cdv A outer s H E).A (cxZ P w K mg base ["tree"] "need_tree" (defScope (top 16)) f cdv A outer s H E).env (cxZ P w K mg base ["tree"] "need_tree" (defScope (top 16)) f cdv A outer s H E).xe := passes_of (X := (cxZ P w K mg base ["tree"] "need_tree" (defScope (top 16)) f cdv A outer s H E)) rfl
  exact (jb_one (js_if (jt_not (jt_val (je_call C.c_is_tree hr tk (ja_cons (je_n 0) ja_nil)))) (jb_one (js_raise (c := 0) rfl tk (T.R.exc 0 (by decide)).1 (T.R.at_ 0 (by decide)) (T.R.exc 0 (by decide)).2.1 (T.R.exc 0 (by decide)).2.2.1 (T.R.exc 0 (by decide)).2.2.2)) jb_nil))
theorem sc_found_at : FnScope ["tree", "place", "number"] ["tree", "place"] (defScope (top 17)) := ⟨rfl, rfl, rfl, by decide +kernel, rfl, by decide +kernel, by decide +kernel⟩
theorem d_found_at (hK : g.K = K) (T : Tx P w K mg base g S fw fdw) (C : Cs P w K mg base g k Φ) {f : Addr} (cdv : Value) (A : Around) (outer : List Env) (s : Shared) (H : Hp) (E : XK) (hr : Room k (A.deeper (envOfC "found_at" (defScope (top 17)) s.heap.objs.size f cdv))) (h1 : 1 ≤ k) :
    JB g (cxZ P w K mg base ["tree", "place", "number"] "found_at" (defScope (top 17)) f cdv A outer s H E) (wE E) (defBody (top 17)) (b_found_at Φ) := by
  have nd := (sc_found_at).nd
  have hu := Room.u191 hr
  have hu1 := hu_of hr
  have tk : L2N.Takes (cxZ P w K mg base ["tree", "place", "number"] "found_at" (defScope (top 17)) f cdv A outer s H E) (wE E) := L2N.takes_of rfl rfl rfl rfl
  have hp : PassesOwn (model P w) (cxZ P w K mg base ["tree", "place", "number"] "found_at" (defScope (top 17)) f cdv A outer s H E).A (cxZ P w K mg base ["tree", "place", "number"] "found_at" (defScope (top 17)) f cdv A outer s H E).env (cxZ P w K mg base ["tree", "place", "number"] "found_at" (defScope (top 17)) f cdv A outer s H E).xe := passes_of (X := (cxZ P w K mg base ["tree", "place", "number"] "found_at" (defScope (top 17)) f cdv A outer s H E)) rfl
  exact (jb_cons (js_for hp rfl (ji_t hK (je_n 1)) (jg_n 2 nd) (jb_cons (js_if (jt_w (jw_or (jt_not (jt_val (je_isi .tint (je_n 2) T.b_isinstance T.b_int (by decide +kernel)))) (jw_or (jt_val (je_isi .tbool (je_n 2) T.b_isinstance T.b_bool (by decide +kernel))) (jw_or1 (jt_not (jt_ch op_leZ op_ltZ je_int (je_n 2) (je_callB (c_len hK) T.b_len (by decide +kernel) (jh_cons (je_sub hK (je_n 0) je_int) jh_nil)))))))) (jb_one (js_ret je_non)) jb_nil)
    (jb_one (js_asg (i := 0) nd (je_sub hK (je_sub hK (je_n 0) je_int) (je_n 2))))))
    (jb_one (js_ret (je_n 0))))
theorem sc_need_place : FnScope ["tree", "place"] ["tree", "place"] (defScope (top 18)) := ⟨rfl, rfl, rfl, by decide +kernel, rfl, by decide +kernel, by decide +kernel⟩
theorem d_need_place (hK : g.K = K) (T : Tx P w K mg base g S fw fdw) (C : Cs P w K mg base g k Φ) {f : Addr} (cdv : Value) (A : Around) (outer : List Env) (s : Shared) (H : Hp) (E : XK) (hr : Room k (A.deeper (envOfC "need_place" (defScope (top 18)) s.heap.objs.size f cdv))) (h1 : 1 ≤ k) :
    JB g (cxZ P w K mg base ["tree", "place"] "need_place" (defScope (top 18)) f cdv A outer s H E) (wE E) (defBody (top 18)) (b_need_place Φ) := by
  have nd := (sc_need_place).nd
  have hu := Room.u191 hr
  have hu1 := hu_of hr
  have tk : L2N.Takes (cxZ P w K mg base ["tree", "place"] "need_place" (defScope (top 18)) f cdv A outer s H E) (wE E) := L2N.takes_of rfl rfl rfl rfl
  have hp : PassesOwn (model P w) (cxZ P w K mg base ["tree", "place"] "need_place" (defScope (top 18)) f cdv A outer s H E).A (cxZ P w K mg base ["tree", "place"] "need_place" (defScope (top 18)) f cdv A outer s H E).env (cxZ P w K mg base ["tree", "place"] "need_place" (defScope (top 18)) f cdv A outer s H E).xe := passes_of (X := (cxZ P w K mg base ["tree", "place"] "need_place" (defScope (top 18)) f cdv A outer s H E)) rfl
  exact (jb_cons (js_expr (je_call C.c_need_tree hr tk (ja_cons (je_n 0) ja_nil)))
    (jb_one (js_if (jt_w (jw_or (jt_not (jt_val (je_isi .ttup (je_n 1) T.b_isinstance T.b_tuple (by decide +kernel)))) (jw_or1 (jt_cmp op_isZ (je_call C.c_found_at hr tk (ja_cons (je_n 0) (ja_cons (je_n 1) ja_nil))) je_non (nomark _))))) (jb_one (js_raise (c := 2) rfl tk (T.R.exc 2 (by decide)).1 (T.R.at_ 2 (by decide)) (T.R.exc 2 (by decide)).2.1 (T.R.exc 2 (by decide)).2.2.1 (T.R.exc 2 (by decide)).2.2.2)) jb_nil)))
theorem sc_part_at : FnScope ["tree", "place"] ["tree", "place"] (defScope (top 19)) := ⟨rfl, rfl, rfl, by decide +kernel, rfl, by decide +kernel, by decide +kernel⟩
theorem d_part_at (hK : g.K = K) (T : Tx P w K mg base g S fw fdw) (C : Cs P w K mg base g k Φ) {f : Addr} (cdv : Value) (A : Around) (outer : List Env) (s : Shared) (H : Hp) (E : XK) (hr : Room k (A.deeper (envOfC "part_at" (defScope (top 19)) s.heap.objs.size f cdv))) (h1 : 1 ≤ k) :
    JB g (cxZ P w K mg base ["tree", "place"] "part_at" (defScope (top 19)) f cdv A outer s H E) (wE E) (defBody (top 19)) (b_part_at Φ) := by
  have nd := (sc_part_at).nd
  have hu := Room.u191 hr
  have hu1 := hu_of hr
  have tk : L2N.Takes (cxZ P w K mg base ["tree", "place"] "part_at" (defScope (top 19)) f cdv A outer s H E) (wE E) := L2N.takes_of rfl rfl rfl rfl
  have hp : PassesOwn (model P w) (cxZ P w K mg base ["tree", "place"] "part_at" (defScope (top 19)) f cdv A outer s H E).A (cxZ P w K mg base ["tree", "place"] "part_at" (defScope (top 19)) f cdv A outer s H E).env (cxZ P w K mg base ["tree", "place"] "part_at" (defScope (top 19)) f cdv A outer s H E).xe := passes_of (X := (cxZ P w K mg base ["tree", "place"] "part_at" (defScope (top 19)) f cdv A outer s H E)) rfl
  exact (jb_cons (js_expr (je_call C.c_need_place hr tk (ja_cons (je_n 0) (ja_cons (je_n 1) ja_nil))))
    (jb_one (js_ret (je_call C.c_found_at hr tk (ja_cons (je_n 0) (ja_cons (je_n 1) ja_nil))))))
theorem sc_put_in : FnScope ["tree", "place", "part", "parts"] ["tree", "place", "part"] (defScope (top 20)) := ⟨rfl, rfl, rfl, by decide +kernel, rfl, by decide +kernel, by decide +kernel⟩
theorem d_put_in (hK : g.K = K) (T : Tx P w K mg base g S fw fdw) (C : Cs P w K mg base g k Φ) {f : Addr} (cdv : Value) (A : Around) (outer : List Env) (s : Shared) (H : Hp) (E : XK) (hr : Room k (A.deeper (envOfC "put_in" (defScope (top 20)) s.heap.objs.size f cdv))) (h1 : 1 ≤ k) :
    JB g (cxZ P w K mg base ["tree", "place", "part", "parts"] "put_in" (defScope (top 20)) f cdv A outer s H E) (wE E) (defBody (top 20)) (b_put_in Φ) := by
  have nd := (sc_put_in).nd
  have hu := Room.u191 hr
  have hu1 := hu_of hr
  have tk : L2N.Takes (cxZ P w K mg base ["tree", "place", "part", "parts"] "put_in" (defScope (top 20)) f cdv A outer s H E) (wE E) := L2N.takes_of rfl rfl rfl rfl
  have hp : PassesOwn (model P w) (cxZ P w K mg base ["tree", "place", "part", "parts"] "put_in" (defScope (top 20)) f cdv A outer s H E).A (cxZ P w K mg base ["tree", "place", "part", "parts"] "put_in" (defScope (top 20)) f cdv A outer s H E).env (cxZ P w K mg base ["tree", "place", "part", "parts"] "put_in" (defScope (top 20)) f cdv A outer s H E).xe := passes_of (X := (cxZ P w K mg base ["tree", "place", "part", "parts"] "put_in" (defScope (top 20)) f cdv A outer s H E)) rfl
  exact (jb_cons (js_if (jt_cmp (op_eqZ hK hu) (je_n 1) (je_tup ja_nil) (nomark _)) (jb_one (js_ret (je_n 2))) jb_nil)
    (jb_cons (js_asg (i := 3) nd (je_callTy c_list T.b_list (by decide +kernel) (jh_cons (je_sub hK (je_n 0) je_int) jh_nil)))
    (jb_cons (js_lput 3 (je_sub hK (je_n 1) je_int) (je_call C.c_put_in hr tk (ja_cons (je_sub hK (je_n 3) (je_sub hK (je_n 1) je_int)) (ja_cons (je_slice (je_n 1) (jo1 je_int) jo0) (ja_cons (je_n 2) ja_nil)))) (hg := pg_sub (pe_var rfl (by first | exact Or.inl rfl | exact Or.inr (Or.inl rfl)) (by decide) (by decide)) (je_sub hK (je_n 1) je_int) set_list))
    (jb_one (js_ret (je_tup (ja_cons (je_sub hK (je_n 0) je_int) (ja_cons (je_callTy c_tuple T.b_tuple (by decide +kernel) (jh_cons (je_n 3) jh_nil)) ja_nil))))))))
theorem sc_put_at : FnScope ["tree", "place", "part", "made"] ["tree", "place", "part"] (defScope (top 21)) := ⟨rfl, rfl, rfl, by decide +kernel, rfl, by decide +kernel, by decide +kernel⟩
theorem d_put_at (hK : g.K = K) (T : Tx P w K mg base g S fw fdw) (C : Cs P w K mg base g k Φ) {f : Addr} (cdv : Value) (A : Around) (outer : List Env) (s : Shared) (H : Hp) (E : XK) (hr : Room k (A.deeper (envOfC "put_at" (defScope (top 21)) s.heap.objs.size f cdv))) (h1 : 1 ≤ k) :
    JB g (cxZ P w K mg base ["tree", "place", "part", "made"] "put_at" (defScope (top 21)) f cdv A outer s H E) (wE E) (defBody (top 21)) (b_put_at Φ) := by
  have nd := (sc_put_at).nd
  have hu := Room.u191 hr
  have hu1 := hu_of hr
  have tk : L2N.Takes (cxZ P w K mg base ["tree", "place", "part", "made"] "put_at" (defScope (top 21)) f cdv A outer s H E) (wE E) := L2N.takes_of rfl rfl rfl rfl
  have hp : PassesOwn (model P w) (cxZ P w K mg base ["tree", "place", "part", "made"] "put_at" (defScope (top 21)) f cdv A outer s H E).A (cxZ P w K mg base ["tree", "place", "part", "made"] "put_at" (defScope (top 21)) f cdv A outer s H E).env (cxZ P w K mg base ["tree", "place", "part", "made"] "put_at" (defScope (top 21)) f cdv A outer s H E).xe := passes_of (X := (cxZ P w K mg base ["tree", "place", "part", "made"] "put_at" (defScope (top 21)) f cdv A outer s H E)) rfl
  exact (jb_cons (js_expr (je_call C.c_need_place hr tk (ja_cons (je_n 0) (ja_cons (je_n 1) ja_nil))))
    (jb_cons (js_expr (je_call C.c_need_tree hr tk (ja_cons (je_n 2) ja_nil)))
    (jb_cons (js_asg (i := 3) nd (je_call C.c_put_in hr tk (ja_cons (je_n 0) (ja_cons (je_n 1) (ja_cons (je_n 2) ja_nil)))))
    (jb_cons (js_if (jt_not (jt_val (je_call C.c_is_tree hr tk (ja_cons (je_n 3) ja_nil)))) (jb_one (js_raise (c := 5) rfl tk (T.R.exc 5 (by decide)).1 (T.R.at_ 5 (by decide)) (T.R.exc 5 (by decide)).2.1 (T.R.exc 5 (by decide)).2.2.1 (T.R.exc 5 (by decide)).2.2.2)) jb_nil)
    (jb_one (js_ret (je_n 3)))))))
theorem sc_places_from : FnScope ["tree", "place", "loud", "found", "number", "part"] ["tree", "place", "loud"] (defScope (top 22)) := ⟨rfl, rfl, rfl, by decide +kernel, rfl, by decide +kernel, by decide +kernel⟩
theorem d_places_from (hK : g.K = K) (T : Tx P w K mg base g S fw fdw) (C : Cs P w K mg base g k Φ) {f : Addr} (cdv : Value) (A : Around) (outer : List Env) (s : Shared) (H : Hp) (E : XK) (hr : Room k (A.deeper (envOfC "places_from" (defScope (top 22)) s.heap.objs.size f cdv))) (h1 : 1 ≤ k) :
    JB g (cxZ P w K mg base ["tree", "place", "loud", "found", "number", "part"] "places_from" (defScope (top 22)) f cdv A outer s H E) (wE E) (defBody (top 22)) (b_places_from Φ) := by
  have nd := (sc_places_from).nd
  have hu := Room.u191 hr
  have hu1 := hu_of hr
  have tk : L2N.Takes (cxZ P w K mg base ["tree", "place", "loud", "found", "number", "part"] "places_from" (defScope (top 22)) f cdv A outer s H E) (wE E) := L2N.takes_of rfl rfl rfl rfl
  have hp : PassesOwn (model P w) (cxZ P w K mg base ["tree", "place", "loud", "found", "number", "part"] "places_from" (defScope (top 22)) f cdv A outer s H E).A (cxZ P w K mg base ["tree", "place", "loud", "found", "number", "part"] "places_from" (defScope (top 22)) f cdv A outer s H E).env (cxZ P w K mg base ["tree", "place", "loud", "found", "number", "part"] "places_from" (defScope (top 22)) f cdv A outer s H E).xe := passes_of (X := (cxZ P w K mg base ["tree", "place", "loud", "found", "number", "part"] "places_from" (defScope (top 22)) f cdv A outer s H E)) rfl
  exact (jb_cons (js_if (jt_w (jw_and (jt_val (je_n 2)) (jw_and1 (jt_cmp (op_eqZ hK hu) (je_sub hK (je_n 0) je_int) (je_gstr T.g_QUIET) (nomark _))))) (jb_one (js_ret (je_lst ja_nil))) jb_nil)
    (jb_cons (js_asg (i := 3) nd (je_lst (ja_cons (je_n 1) ja_nil)))
    (jb_cons (js_for hp rfl (ji_enum hK T.b_enumerate (ja_cons (je_sub hK (je_n 0) je_int) ja_nil)) (jg_t rfl (jgs_cons (jg_n 4 nd) (jgs_cons (jg_n 5 nd) jgs_nil))) (jb_one (js_expr (je_lm 3 PySem.F.slot_list_extend PySem.F.type_list_extend mt_extend lm_extend (ja_cons (je_call C.c_places_from hr tk (ja_cons (je_n 5) (ja_cons (je_op (op_addZ hK) (je_n 1) (je_tup (ja_cons (je_n 4) ja_nil))) (ja_cons (je_n 2) ja_nil)))) ja_nil)))))
    (jb_one (js_ret (je_n 3))))))
theorem sc_loud_places : FnScope ["tree"] ["tree"] (defScope (top 23)) := ⟨rfl, rfl, rfl, by decide +kernel, rfl, by decide +kernel, by decide +kernel⟩
theorem d_loud_places (hK : g.K = K) (T : Tx P w K mg base g S fw fdw) (C : Cs P w K mg base g k Φ) {f : Addr} (cdv : Value) (A : Around) (outer : List Env) (s : Shared) (H : Hp) (E : XK) (hr : Room k (A.deeper (envOfC "loud_places" (defScope (top 23)) s.heap.objs.size f cdv))) (h1 : 1 ≤ k) :
    JB g (cxZ P w K mg base ["tree"] "loud_places" (defScope (top 23)) f cdv A outer s H E) (wE E) (defBody (top 23)) (b_loud_places Φ) := by
  have nd := (sc_loud_places).nd
  have hu := Room.u191 hr
  have hu1 := hu_of hr
  have tk : L2N.Takes (cxZ P w K mg base ["tree"] "loud_places" (defScope (top 23)) f cdv A outer s H E) (wE E) := L2N.takes_of rfl rfl rfl rfl
  have hp : PassesOwn (model P w) (cxZ P w K mg base ["tree"] "loud_places" (defScope (top 23)) f cdv A outer s H E).A (cxZ P w K mg base ["tree"] "loud_places" (defScope (top 23)) f cdv A outer s H E).env (cxZ P w K mg base ["tree"] "loud_places" (defScope (top 23)) f cdv A outer s H E).xe := passes_of (X := (cxZ P w K mg base ["tree"] "loud_places" (defScope (top 23)) f cdv A outer s H E)) rfl
  exact (jb_cons (js_expr (je_call C.c_need_tree hr tk (ja_cons (je_n 0) ja_nil)))
    (jb_one (js_ret (je_call C.c_places_from hr tk (ja_cons (je_n 0) (ja_cons (je_tup ja_nil) (ja_cons je_bl ja_nil)))))))
theorem sc_is_hole : FnScope ["thing"] ["thing"] (defScope (top 28)) := ⟨rfl, rfl, rfl, by decide +kernel, rfl, by decide +kernel, by decide +kernel⟩
theorem d_is_hole (hK : g.K = K) (T : Tx P w K mg base g S fw fdw) (C : Cs P w K mg base g k Φ) {f : Addr} (cdv : Value) (A : Around) (outer : List Env) (s : Shared) (H : Hp) (E : XK) (hr : Room k (A.deeper (envOfC "is_hole" (defScope (top 28)) s.heap.objs.size f cdv))) (h1 : 1 ≤ k) :
    JB g (cxZ P w K mg base ["thing"] "is_hole" (defScope (top 28)) f cdv A outer s H E) (wE E) (defBody (top 28)) (b_is_hole Φ) := by
  have nd := (sc_is_hole).nd
  have hu := Room.u191 hr
  have hu1 := hu_of hr
  have tk : L2N.Takes (cxZ P w K mg base ["thing"] "is_hole" (defScope (top 28)) f cdv A outer s H E) (wE E) := L2N.takes_of rfl rfl rfl rfl
  have hp : PassesOwn (model P w) (cxZ P w K mg base ["thing"] "is_hole" (defScope (top 28)) f cdv A outer s H E).A (cxZ P w K mg base ["thing"] "is_hole" (defScope (top 28)) f cdv A outer s H E).env (cxZ P w K mg base ["thing"] "is_hole" (defScope (top 28)) f cdv A outer s H E).xe := passes_of (X := (cxZ P w K mg base ["thing"] "is_hole" (defScope (top 28)) f cdv A outer s H E)) rfl
  exact (jb_one (js_ret (je_and (je_isi .tint (je_n 0) T.b_isinstance T.b_int (by decide +kernel)) (je_and (je_not (je_isi .tbool (je_n 0) T.b_isinstance T.b_bool (by decide +kernel))) (je_one (je_ch op_leZ op_ltZ je_int (je_n 0) (je_gint T.g_HOLES)))))))
theorem sc_is_pattern : FnScope ["thing", "row", "many", "one"] ["thing"] (defScope (top 29)) := ⟨rfl, rfl, rfl, by decide +kernel, rfl, by decide +kernel, by decide +kernel⟩
theorem d_is_pattern (hK : g.K = K) (T : Tx P w K mg base g S fw fdw) (C : Cs P w K mg base g k Φ) {f : Addr} (cdv : Value) (A : Around) (outer : List Env) (s : Shared) (H : Hp) (E : XK) (hr : Room k (A.deeper (envOfC "is_pattern" (defScope (top 29)) s.heap.objs.size f cdv))) (h1 : 1 ≤ k) :
    JB g (cxZ P w K mg base ["thing", "row", "many", "one"] "is_pattern" (defScope (top 29)) f cdv A outer s H E) (wE E) (defBody (top 29)) (b_is_pattern Φ) := by
  have nd := (sc_is_pattern).nd
  have hu := Room.u191 hr
  have hu1 := hu_of hr
  have tk : L2N.Takes (cxZ P w K mg base ["thing", "row", "many", "one"] "is_pattern" (defScope (top 29)) f cdv A outer s H E) (wE E) := L2N.takes_of rfl rfl rfl rfl
  have hp : PassesOwn (model P w) (cxZ P w K mg base ["thing", "row", "many", "one"] "is_pattern" (defScope (top 29)) f cdv A outer s H E).A (cxZ P w K mg base ["thing", "row", "many", "one"] "is_pattern" (defScope (top 29)) f cdv A outer s H E).env (cxZ P w K mg base ["thing", "row", "many", "one"] "is_pattern" (defScope (top 29)) f cdv A outer s H E).xe := passes_of (X := (cxZ P w K mg base ["thing", "row", "many", "one"] "is_pattern" (defScope (top 29)) f cdv A outer s H E)) rfl
  exact (jb_cons (js_asg (i := 1) nd (je_lst (ja_cons (je_n 0) ja_nil)))
    (jb_cons (js_asg (i := 2) nd je_int)
    (jb_cons (js_while hp (jt_cmp (op_neZ hK hu) (je_n 1) (je_lst ja_nil) (nomark _)) (jb_cons (js_asg (i := 3) nd (je_lm0 1 PySem.F.slot_list_pop PySem.F.type_list_pop mt_pop lm_pop))
    (jb_cons (js_asg (i := 2) nd (je_op (op_addZ hK) (je_n 2) je_int))
    (jb_cons (js_if (jt_cmp op_gtZ (je_n 2) (je_gint T.g_NODES) (nomark _)) (jb_one (js_ret je_bl)) jb_nil)
    (jb_one (js_if (jt_not (jt_val (je_call C.c_is_hole hr tk (ja_cons (je_n 3) ja_nil)))) (jb_cons (js_if (jt_w (jw_or (jt_not (jt_val (je_isi .ttup (je_n 3) T.b_isinstance T.b_tuple (by decide +kernel)))) (jw_or (jt_cmp (op_neZ hK hu) (je_callB (c_len hK) T.b_len (by decide +kernel) (jh_cons (je_n 3) jh_nil)) je_int (nomark _)) (jw_or (jt_not (jt_val (je_call C.c_is_word hr tk (ja_cons (je_sub hK (je_n 3) je_int) ja_nil)))) (jw_or1 (jt_cmp (op_eqZ hK hu) (je_sub hK (je_n 3) je_int) (je_gstr T.g_QUIET) (nomark _))))))) (jb_one (js_ret je_bl)) jb_nil)
    (jb_cons (js_if (jt_w (jw_or (jt_not (jt_val (je_isi .ttup (je_sub hK (je_n 3) je_int) T.b_isinstance T.b_tuple (by decide +kernel)))) (jw_or1 (jt_cmp op_gtZ (je_callB (c_len hK) T.b_len (by decide +kernel) (jh_cons (je_sub hK (je_n 3) je_int) jh_nil)) (je_gint T.g_PARTS) (nomark _))))) (jb_one (js_ret je_bl)) jb_nil)
    (jb_one (js_expr (je_lm 1 PySem.F.slot_list_extend PySem.F.type_list_extend mt_extend lm_extend (ja_cons (je_callTy c_list T.b_list (by decide +kernel) (jh_cons (je_sub hK (je_n 3) je_int) jh_nil)) ja_nil)))))) jb_nil))))))
    (jb_one (js_ret je_bl)))))
theorem sc_holes_in : FnScope ["pattern", "found", "part"] ["pattern"] (defScope (top 30)) := ⟨rfl, rfl, rfl, by decide +kernel, rfl, by decide +kernel, by decide +kernel⟩
theorem d_holes_in (hK : g.K = K) (T : Tx P w K mg base g S fw fdw) (C : Cs P w K mg base g k Φ) {f : Addr} (cdv : Value) (A : Around) (outer : List Env) (s : Shared) (H : Hp) (E : XK) (hr : Room k (A.deeper (envOfC "holes_in" (defScope (top 30)) s.heap.objs.size f cdv))) (h1 : 1 ≤ k) :
    JB g (cxZ P w K mg base ["pattern", "found", "part"] "holes_in" (defScope (top 30)) f cdv A outer s H E) (wE E) (defBody (top 30)) (b_holes_in Φ) := by
  have nd := (sc_holes_in).nd
  have hu := Room.u191 hr
  have hu1 := hu_of hr
  have tk : L2N.Takes (cxZ P w K mg base ["pattern", "found", "part"] "holes_in" (defScope (top 30)) f cdv A outer s H E) (wE E) := L2N.takes_of rfl rfl rfl rfl
  have hp : PassesOwn (model P w) (cxZ P w K mg base ["pattern", "found", "part"] "holes_in" (defScope (top 30)) f cdv A outer s H E).A (cxZ P w K mg base ["pattern", "found", "part"] "holes_in" (defScope (top 30)) f cdv A outer s H E).env (cxZ P w K mg base ["pattern", "found", "part"] "holes_in" (defScope (top 30)) f cdv A outer s H E).xe := passes_of (X := (cxZ P w K mg base ["pattern", "found", "part"] "holes_in" (defScope (top 30)) f cdv A outer s H E)) rfl
  exact (jb_cons (js_if (jt_val (je_isi .tint (je_n 0) T.b_isinstance T.b_int (by decide +kernel))) (jb_one (js_ret (je_lst (ja_cons (je_n 0) ja_nil)))) jb_nil)
    (jb_cons (js_asg (i := 1) nd (je_lst ja_nil))
    (jb_cons (js_for hp rfl (ji_t hK (je_sub hK (je_n 0) je_int)) (jg_n 2 nd) (jb_one (js_expr (je_lm 1 PySem.F.slot_list_extend PySem.F.type_list_extend mt_extend lm_extend (ja_cons (je_call C.c_holes_in hr tk (ja_cons (je_n 2) ja_nil)) ja_nil)))))
    (jb_one (js_ret (je_n 1))))))
theorem sc_words_in : FnScope ["pattern", "part"] ["pattern"] (defScope (top 31)) := ⟨rfl, rfl, rfl, by decide +kernel, rfl, by decide +kernel, by decide +kernel⟩
theorem d_words_in (hK : g.K = K) (T : Tx P w K mg base g S fw fdw) (C : Cs P w K mg base g k Φ) {f : Addr} (cdv : Value) (A : Around) (outer : List Env) (s : Shared) (H : Hp) (E : XK) (hr : Room k (A.deeper (envOfC "words_in" (defScope (top 31)) s.heap.objs.size f cdv))) (h1 : 1 ≤ k) :
    JB g (cxZ P w K mg base ["pattern", "part"] "words_in" (defScope (top 31)) f cdv A outer s H E) (wE E) (defBody (top 31)) (b_words_in Φ) := by
  have nd := (sc_words_in).nd
  have hu := Room.u191 hr
  have hu1 := hu_of hr
  have tk : L2N.Takes (cxZ P w K mg base ["pattern", "part"] "words_in" (defScope (top 31)) f cdv A outer s H E) (wE E) := L2N.takes_of rfl rfl rfl rfl
  have hp : PassesOwn (model P w) (cxZ P w K mg base ["pattern", "part"] "words_in" (defScope (top 31)) f cdv A outer s H E).A (cxZ P w K mg base ["pattern", "part"] "words_in" (defScope (top 31)) f cdv A outer s H E).env (cxZ P w K mg base ["pattern", "part"] "words_in" (defScope (top 31)) f cdv A outer s H E).xe := passes_of (X := (cxZ P w K mg base ["pattern", "part"] "words_in" (defScope (top 31)) f cdv A outer s H E)) rfl
  exact (jb_cons (js_if (jt_val (je_isi .tint (je_n 0) T.b_isinstance T.b_int (by decide +kernel))) (jb_one (js_ret je_int)) jb_nil)
    (jb_one (js_ret (je_op (op_addZ hK) je_int (je_callB (c_sum rfl) T.b_sum (by decide +kernel) (jh_cons (je_comp rfl nd (ji_t hK (je_sub hK (je_n 0) je_int)) (own := [("part", 1)]) ⟨blkOk_by (N := ["pattern", "part"]) (sc := defScope (top 31)) (by decide +kernel), by decide, fun _ _ _ _ _ => (jg_n 1 nd), fun _ _ _ _ _ => jts_nil, fun _ _ _ _ _ => (je_call C.c_words_in hr takesW0 (ja_cons (je_n 1) ja_nil))⟩) jh_nil))))))
theorem sc_is_rule : FnScope ["thing", "before", "behind", "hole"] ["thing"] (defScope (top 32)) := ⟨rfl, rfl, rfl, by decide +kernel, rfl, by decide +kernel, by decide +kernel⟩
theorem d_is_rule (hK : g.K = K) (T : Tx P w K mg base g S fw fdw) (C : Cs P w K mg base g k Φ) {f : Addr} (cdv : Value) (A : Around) (outer : List Env) (s : Shared) (H : Hp) (E : XK) (hr : Room k (A.deeper (envOfC "is_rule" (defScope (top 32)) s.heap.objs.size f cdv))) (h1 : 1 ≤ k) :
    JB g (cxZ P w K mg base ["thing", "before", "behind", "hole"] "is_rule" (defScope (top 32)) f cdv A outer s H E) (wE E) (defBody (top 32)) (b_is_rule Φ) := by
  have nd := (sc_is_rule).nd
  have hu := Room.u191 hr
  have hu1 := hu_of hr
  have tk : L2N.Takes (cxZ P w K mg base ["thing", "before", "behind", "hole"] "is_rule" (defScope (top 32)) f cdv A outer s H E) (wE E) := L2N.takes_of rfl rfl rfl rfl
  have hp : PassesOwn (model P w) (cxZ P w K mg base ["thing", "before", "behind", "hole"] "is_rule" (defScope (top 32)) f cdv A outer s H E).A (cxZ P w K mg base ["thing", "before", "behind", "hole"] "is_rule" (defScope (top 32)) f cdv A outer s H E).env (cxZ P w K mg base ["thing", "before", "behind", "hole"] "is_rule" (defScope (top 32)) f cdv A outer s H E).xe := passes_of (X := (cxZ P w K mg base ["thing", "before", "behind", "hole"] "is_rule" (defScope (top 32)) f cdv A outer s H E)) rfl
  exact (jb_cons (js_if (jt_w (jw_or (jt_not (jt_val (je_isi .ttup (je_n 0) T.b_isinstance T.b_tuple (by decide +kernel)))) (jw_or (jt_cmp (op_neZ hK hu) (je_callB (c_len hK) T.b_len (by decide +kernel) (jh_cons (je_n 0) jh_nil)) je_int (nomark _)) (jw_or1 (jt_not (jt_val (je_call C.c_is_word hr tk (ja_cons (je_sub hK (je_n 0) je_int) ja_nil)))))))) (jb_one (js_ret je_bl)) jb_nil)
    (jb_cons (js_if (jt_w (jw_or (jt_not (jt_val (je_call C.c_is_pattern hr tk (ja_cons (je_sub hK (je_n 0) je_int) ja_nil)))) (jw_or (jt_not (jt_val (je_call C.c_is_pattern hr tk (ja_cons (je_sub hK (je_n 0) je_int) ja_nil)))) (jw_or1 (jt_val (je_isi .tint (je_sub hK (je_n 0) je_int) T.b_isinstance T.b_int (by decide +kernel))))))) (jb_one (js_ret je_bl)) jb_nil)
    (jb_cons (js_asgT (jg_t rfl (jgs_cons (jg_n 1 nd) (jgs_cons (jg_n 2 nd) jgs_nil))) (je_tup (ja_cons (je_call C.c_holes_in hr tk (ja_cons (je_sub hK (je_n 0) je_int) ja_nil)) (ja_cons (je_call C.c_holes_in hr tk (ja_cons (je_sub hK (je_n 0) je_int) ja_nil)) ja_nil))))
    (jb_cons (js_if (jt_not (jt_val (je_callB (c_all rfl) T.b_all (by decide +kernel) (jh_cons (je_comp rfl nd (ji_r1 T.b_range (jh_cons (je_gint T.g_HOLES) jh_nil)) (own := [("hole", 3)]) ⟨blkOk_by (N := ["thing", "before", "behind", "hole"]) (sc := defScope (top 32)) (by decide +kernel), by decide, fun _ _ _ _ _ => (jg_n 3 nd), fun _ _ _ _ _ => jts_nil, fun _ _ _ _ _ => (je_cmp op_leZ (je_mtL PySem.F.slot_list_count PySem.F.type_list_count mt_count (je_n 2) (jh_cons (je_n 3) jh_nil)) (je_mtL PySem.F.slot_list_count PySem.F.type_list_count mt_count (je_n 1) (jh_cons (je_n 3) jh_nil)) (nomark _))⟩) jh_nil)))) (jb_one (js_ret je_bl)) jb_nil)
    (jb_one (js_ret (je_cmp op_ltZ (je_call C.c_words_in hr tk (ja_cons (je_sub hK (je_n 0) je_int) ja_nil)) (je_call C.c_words_in hr tk (ja_cons (je_sub hK (je_n 0) je_int) ja_nil)) (nomark _))))))))
theorem sc_is_book : FnScope ["thing", "k", "rule"] ["thing"] (defScope (top 33)) := ⟨rfl, rfl, rfl, by decide +kernel, rfl, by decide +kernel, by decide +kernel⟩
theorem d_is_book (hK : g.K = K) (T : Tx P w K mg base g S fw fdw) (C : Cs P w K mg base g k Φ) {f : Addr} (cdv : Value) (A : Around) (outer : List Env) (s : Shared) (H : Hp) (E : XK) (hr : Room k (A.deeper (envOfC "is_book" (defScope (top 33)) s.heap.objs.size f cdv))) (h1 : 1 ≤ k) :
    JB g (cxZ P w K mg base ["thing", "k", "rule"] "is_book" (defScope (top 33)) f cdv A outer s H E) (wE E) (defBody (top 33)) (b_is_book Φ) := by
  have nd := (sc_is_book).nd
  have hu := Room.u191 hr
  have hu1 := hu_of hr
  have tk : L2N.Takes (cxZ P w K mg base ["thing", "k", "rule"] "is_book" (defScope (top 33)) f cdv A outer s H E) (wE E) := L2N.takes_of rfl rfl rfl rfl
  have hp : PassesOwn (model P w) (cxZ P w K mg base ["thing", "k", "rule"] "is_book" (defScope (top 33)) f cdv A outer s H E).A (cxZ P w K mg base ["thing", "k", "rule"] "is_book" (defScope (top 33)) f cdv A outer s H E).env (cxZ P w K mg base ["thing", "k", "rule"] "is_book" (defScope (top 33)) f cdv A outer s H E).xe := passes_of (X := (cxZ P w K mg base ["thing", "k", "rule"] "is_book" (defScope (top 33)) f cdv A outer s H E)) rfl
  exact (jb_cons (js_if (jt_w (jw_or (jt_not (jt_val (je_isi .ttup (je_n 0) T.b_isinstance T.b_tuple (by decide +kernel)))) (jw_or (jt_cmp op_gtZ (je_callB (c_len hK) T.b_len (by decide +kernel) (jh_cons (je_n 0) jh_nil)) (je_gint T.g_RULES) (nomark _)) (jw_or1 (jt_not (jt_val (je_callB (c_all rfl) T.b_all (by decide +kernel) (jh_cons (je_comp rfl nd (ji_t hK (je_n 0)) (own := [("rule", 2)]) ⟨blkOk_by (N := ["thing", "k", "rule"]) (sc := defScope (top 33)) (by decide +kernel), by decide, fun _ _ _ _ _ => (jg_n 2 nd), fun _ _ _ _ _ => jts_nil, fun _ _ _ _ _ => (je_call C.c_is_rule hr takesW0 (ja_cons (je_n 2) ja_nil))⟩) jh_nil)))))))) (jb_one (js_ret je_bl)) jb_nil)
    (jb_one (js_ret (je_callB (c_all rfl) T.b_all (by decide +kernel) (jh_cons (je_comp rfl nd (ji_r1 T.b_range (jh_cons (je_op op_subZ (je_callB (c_len hK) T.b_len (by decide +kernel) (jh_cons (je_n 0) jh_nil)) je_int) jh_nil)) (own := [("k", 1)]) ⟨blkOk_by (N := ["thing", "k", "rule"]) (sc := defScope (top 33)) (by decide +kernel), by decide, fun _ _ _ _ _ => (jg_n 1 nd), fun _ _ _ _ _ => jts_nil, fun _ _ _ _ _ => (je_cmp op_ltZ (je_sub hK (je_sub hK (je_n 0) (je_n 1)) je_int) (je_sub hK (je_sub hK (je_n 0) (je_op (op_addZ hK) (je_n 1) je_int)) je_int) (nomark _))⟩) jh_nil)))))
theorem sc_need_book : FnScope ["book"] ["book"] (defScope (top 34)) := ⟨rfl, rfl, rfl, by decide +kernel, rfl, by decide +kernel, by decide +kernel⟩
theorem d_need_book (hK : g.K = K) (T : Tx P w K mg base g S fw fdw) (C : Cs P w K mg base g k Φ) {f : Addr} (cdv : Value) (A : Around) (outer : List Env) (s : Shared) (H : Hp) (E : XK) (hr : Room k (A.deeper (envOfC "need_book" (defScope (top 34)) s.heap.objs.size f cdv))) (h1 : 1 ≤ k) :
    JB g (cxZ P w K mg base ["book"] "need_book" (defScope (top 34)) f cdv A outer s H E) (wE E) (defBody (top 34)) (b_need_book Φ) := by
  have nd := (sc_need_book).nd
  have hu := Room.u191 hr
  have hu1 := hu_of hr
  have tk : L2N.Takes (cxZ P w K mg base ["book"] "need_book" (defScope (top 34)) f cdv A outer s H E) (wE E) := L2N.takes_of rfl rfl rfl rfl
  have hp : PassesOwn (model P w) (cxZ P w K mg base ["book"] "need_book" (defScope (top 34)) f cdv A outer s H E).A (cxZ P w K mg base ["book"] "need_book" (defScope (top 34)) f cdv A outer s H E).env (cxZ P w K mg base ["book"] "need_book" (defScope (top 34)) f cdv A outer s H E).xe := passes_of (X := (cxZ P w K mg base ["book"] "need_book" (defScope (top 34)) f cdv A outer s H E)) rfl
  exact (jb_one (js_if (jt_not (jt_val (je_call C.c_is_book hr tk (ja_cons (je_n 0) ja_nil)))) (jb_one (js_raise (c := 1) rfl tk (T.R.exc 1 (by decide)).1 (T.R.at_ 1 (by decide)) (T.R.exc 1 (by decide)).2.1 (T.R.exc 1 (by decide)).2.2.1 (T.R.exc 1 (by decide)).2.2.2)) jb_nil))
theorem sc_fits : FnScope ["pattern", "tree", "found", "one", "part"] ["pattern", "tree", "found"] (defScope (top 35)) := ⟨rfl, rfl, rfl, by decide +kernel, rfl, by decide +kernel, by decide +kernel⟩
theorem d_fits (hK : g.K = K) (T : Tx P w K mg base g S fw fdw) (C : Cs P w K mg base g k Φ) {f : Addr} (cdv : Value) (A : Around) (outer : List Env) (s : Shared) (H : Hp) (E : XK) (hr : Room k (A.deeper (envOfC "fits" (defScope (top 35)) s.heap.objs.size f cdv))) (h1 : 1 ≤ k) :
    JB g (cxZ P w K mg base ["pattern", "tree", "found", "one", "part"] "fits" (defScope (top 35)) f cdv A outer s H E) (wE E) (defBody (top 35)) (b_fits Φ) := by
  have nd := (sc_fits).nd
  have hu := Room.u191 hr
  have hu1 := hu_of hr
  have tk : L2N.Takes (cxZ P w K mg base ["pattern", "tree", "found", "one", "part"] "fits" (defScope (top 35)) f cdv A outer s H E) (wE E) := L2N.takes_of rfl rfl rfl rfl
  have hp : PassesOwn (model P w) (cxZ P w K mg base ["pattern", "tree", "found", "one", "part"] "fits" (defScope (top 35)) f cdv A outer s H E).A (cxZ P w K mg base ["pattern", "tree", "found", "one", "part"] "fits" (defScope (top 35)) f cdv A outer s H E).env (cxZ P w K mg base ["pattern", "tree", "found", "one", "part"] "fits" (defScope (top 35)) f cdv A outer s H E).xe := passes_of (X := (cxZ P w K mg base ["pattern", "tree", "found", "one", "part"] "fits" (defScope (top 35)) f cdv A outer s H E)) rfl
  exact (jb_cons (js_if (jt_val (je_isi .tint (je_n 0) T.b_isinstance T.b_int (by decide +kernel))) (jb_one (js_ret (je_cmp (op_eqZ hK hu) (je_setd 2 (je_n 0) (je_n 1) ⟨rfl, rfl, rfl, rfl⟩) (je_n 1) (nomark _)))) jb_nil)
    (jb_cons (js_if (jt_w (jw_or (jt_cmp (op_neZ hK hu) (je_sub hK (je_n 0) je_int) (je_sub hK (je_n 1) je_int) (nomark _)) (jw_or1 (jt_cmp (op_neZ hK hu) (je_callB (c_len hK) T.b_len (by decide +kernel) (jh_cons (je_sub hK (je_n 0) je_int) jh_nil)) (je_callB (c_len hK) T.b_len (by decide +kernel) (jh_cons (je_sub hK (je_n 1) je_int) jh_nil)) (nomark _))))) (jb_one (js_ret je_bl)) jb_nil)
    (jb_one (js_ret (je_callB (c_all rfl) T.b_all (by decide +kernel) (jh_cons (je_comp rfl nd (ji_zip hK T.b_zip (ja_cons (je_sub hK (je_n 0) je_int) (ja_cons (je_sub hK (je_n 1) je_int) ja_nil))) (own := [("one", 3), ("part", 4)]) ⟨blkOk_by (N := ["pattern", "tree", "found", "one", "part"]) (sc := defScope (top 35)) (by decide +kernel), by decide, fun _ _ _ _ _ => (jg_t rfl (jgs_cons (jg_n 3 nd) (jgs_cons (jg_n 4 nd) jgs_nil))), fun _ _ _ _ _ => jts_nil, fun _ _ _ _ _ => (je_callI C.c_fits hr takesW0 (jai_cons (je_n 3) (jai_cons (je_n 4) (jai_last 2))))⟩) jh_nil))))))
theorem sc_filled : FnScope ["pattern", "found", "part"] ["pattern", "found"] (defScope (top 36)) := ⟨rfl, rfl, rfl, by decide +kernel, rfl, by decide +kernel, by decide +kernel⟩
theorem d_filled (hK : g.K = K) (T : Tx P w K mg base g S fw fdw) (C : Cs P w K mg base g k Φ) {f : Addr} (cdv : Value) (A : Around) (outer : List Env) (s : Shared) (H : Hp) (E : XK) (hr : Room k (A.deeper (envOfC "filled" (defScope (top 36)) s.heap.objs.size f cdv))) (h1 : 1 ≤ k) :
    JB g (cxZ P w K mg base ["pattern", "found", "part"] "filled" (defScope (top 36)) f cdv A outer s H E) (wE E) (defBody (top 36)) (b_filled Φ) := by
  have nd := (sc_filled).nd
  have hu := Room.u191 hr
  have hu1 := hu_of hr
  have tk : L2N.Takes (cxZ P w K mg base ["pattern", "found", "part"] "filled" (defScope (top 36)) f cdv A outer s H E) (wE E) := L2N.takes_of rfl rfl rfl rfl
  have hp : PassesOwn (model P w) (cxZ P w K mg base ["pattern", "found", "part"] "filled" (defScope (top 36)) f cdv A outer s H E).A (cxZ P w K mg base ["pattern", "found", "part"] "filled" (defScope (top 36)) f cdv A outer s H E).env (cxZ P w K mg base ["pattern", "found", "part"] "filled" (defScope (top 36)) f cdv A outer s H E).xe := passes_of (X := (cxZ P w K mg base ["pattern", "found", "part"] "filled" (defScope (top 36)) f cdv A outer s H E)) rfl
  exact (jb_cons (js_if (jt_val (je_isi .tint (je_n 0) T.b_isinstance T.b_int (by decide +kernel))) (jb_one (js_ret (je_dget hu1 (je_n 1) (je_n 0)))) jb_nil)
    (jb_one (js_ret (je_tup (ja_cons (je_sub hK (je_n 0) je_int) (ja_cons (je_callTy c_tuple T.b_tuple (by decide +kernel) (jh_cons (je_comp rfl nd (ji_t hK (je_sub hK (je_n 0) je_int)) (own := [("part", 2)]) ⟨blkOk_by (N := ["pattern", "found", "part"]) (sc := defScope (top 36)) (by decide +kernel), by decide, fun _ _ _ _ _ => (jg_n 2 nd), fun _ _ _ _ _ => jts_nil, fun _ _ _ _ _ => (je_call C.c_filled hr takesW0 (ja_cons (je_n 2) (ja_cons (je_n 1) ja_nil)))⟩) jh_nil)) ja_nil))))))
theorem sc_mended : FnScope ["rule", "tree", "found"] ["rule", "tree"] (defScope (top 37)) := ⟨rfl, rfl, rfl, by decide +kernel, rfl, by decide +kernel, by decide +kernel⟩
theorem d_mended (hK : g.K = K) (T : Tx P w K mg base g S fw fdw) (C : Cs P w K mg base g k Φ) {f : Addr} (cdv : Value) (A : Around) (outer : List Env) (s : Shared) (H : Hp) (E : XK) (hr : Room k (A.deeper (envOfC "mended" (defScope (top 37)) s.heap.objs.size f cdv))) (h1 : 1 ≤ k) :
    JB g (cxZ P w K mg base ["rule", "tree", "found"] "mended" (defScope (top 37)) f cdv A outer s H E) (wE E) (defBody (top 37)) (b_mended Φ) := by
  have nd := (sc_mended).nd
  have hu := Room.u191 hr
  have hu1 := hu_of hr
  have tk : L2N.Takes (cxZ P w K mg base ["rule", "tree", "found"] "mended" (defScope (top 37)) f cdv A outer s H E) (wE E) := L2N.takes_of rfl rfl rfl rfl
  have hp : PassesOwn (model P w) (cxZ P w K mg base ["rule", "tree", "found"] "mended" (defScope (top 37)) f cdv A outer s H E).A (cxZ P w K mg base ["rule", "tree", "found"] "mended" (defScope (top 37)) f cdv A outer s H E).env (cxZ P w K mg base ["rule", "tree", "found"] "mended" (defScope (top 37)) f cdv A outer s H E).xe := passes_of (X := (cxZ P w K mg base ["rule", "tree", "found"] "mended" (defScope (top 37)) f cdv A outer s H E)) rfl
  exact (jb_cons (js_asg (i := 2) nd je_dnew)
    (jb_cons (js_if (jt_not (jt_val (je_callI C.c_fits hr tk (jai_cons (je_sub hK (je_n 0) je_int) (jai_cons (je_n 1) (jai_last 2)))))) (jb_one (js_ret je_non)) jb_nil)
    (jb_one (js_ret (je_call C.c_filled hr tk (ja_cons (je_sub hK (je_n 0) je_int) (ja_cons (je_n 2) ja_nil)))))))
theorem sc_findings_at : FnScope ["book", "tree", "places", "made", "place", "part", "rule"] ["book", "tree", "places"] (defScope (top 39)) := ⟨rfl, rfl, rfl, by decide +kernel, rfl, by decide +kernel, by decide +kernel⟩
theorem d_findings_at (hK : g.K = K) (T : Tx P w K mg base g S fw fdw) (C : Cs P w K mg base g k Φ) {f : Addr} (cdv : Value) (A : Around) (outer : List Env) (s : Shared) (H : Hp) (E : XK) (hr : Room k (A.deeper (envOfC "findings_at" (defScope (top 39)) s.heap.objs.size f cdv))) (h1 : 1 ≤ k) :
    JB g (cxZ P w K mg base ["book", "tree", "places", "made", "place", "part", "rule"] "findings_at" (defScope (top 39)) f cdv A outer s H E) (wE E) (defBody (top 39)) (b_findings_at Φ) := by
  have nd := (sc_findings_at).nd
  have hu := Room.u191 hr
  have hu1 := hu_of hr
  have tk : L2N.Takes (cxZ P w K mg base ["book", "tree", "places", "made", "place", "part", "rule"] "findings_at" (defScope (top 39)) f cdv A outer s H E) (wE E) := L2N.takes_of rfl rfl rfl rfl
  have hp : PassesOwn (model P w) (cxZ P w K mg base ["book", "tree", "places", "made", "place", "part", "rule"] "findings_at" (defScope (top 39)) f cdv A outer s H E).A (cxZ P w K mg base ["book", "tree", "places", "made", "place", "part", "rule"] "findings_at" (defScope (top 39)) f cdv A outer s H E).env (cxZ P w K mg base ["book", "tree", "places", "made", "place", "part", "rule"] "findings_at" (defScope (top 39)) f cdv A outer s H E).xe := passes_of (X := (cxZ P w K mg base ["book", "tree", "places", "made", "place", "part", "rule"] "findings_at" (defScope (top 39)) f cdv A outer s H E)) rfl
  exact (jb_cons (js_asg (i := 3) nd (je_lst ja_nil))
    (jb_cons (js_forN 2 hK hp rfl (jg_n 4 nd) (jb_cons (js_asg (i := 5) nd (je_call C.c_found_at hr tk (ja_cons (je_n 1) (ja_cons (je_n 4) ja_nil))))
    (jb_one (js_expr (je_lm 3 PySem.F.slot_list_extend PySem.F.type_list_extend mt_extend lm_extend (ja_cons (je_comp rfl nd (ji_t hK (je_n 0)) (own := [("rule", 6)]) ⟨blkOk_by (N := ["book", "tree", "places", "made", "place", "part", "rule"]) (sc := defScope (top 39)) (by decide +kernel), by decide, fun _ _ _ _ _ => (jg_n 6 nd), fun _ _ _ _ _ => (jts_one (jt_cmp op_isNotZ (je_call C.c_mended hr takesW0 (ja_cons (je_n 6) (ja_cons (je_n 5) ja_nil))) je_non (nomark _))), fun _ _ _ _ _ => (je_tup (ja_cons (je_n 4) (ja_cons (je_sub hK (je_n 6) je_int) ja_nil)))⟩) ja_nil))))))
    (jb_one (js_ret (je_n 3)))))
theorem sc_all_findings : FnScope ["book", "tree"] ["book", "tree"] (defScope (top 40)) := ⟨rfl, rfl, rfl, by decide +kernel, rfl, by decide +kernel, by decide +kernel⟩
theorem d_all_findings (hK : g.K = K) (T : Tx P w K mg base g S fw fdw) (C : Cs P w K mg base g k Φ) {f : Addr} (cdv : Value) (A : Around) (outer : List Env) (s : Shared) (H : Hp) (E : XK) (hr : Room k (A.deeper (envOfC "all_findings" (defScope (top 40)) s.heap.objs.size f cdv))) (h1 : 1 ≤ k) :
    JB g (cxZ P w K mg base ["book", "tree"] "all_findings" (defScope (top 40)) f cdv A outer s H E) (wE E) (defBody (top 40)) (b_all_findings Φ) := by
  have nd := (sc_all_findings).nd
  have hu := Room.u191 hr
  have hu1 := hu_of hr
  have tk : L2N.Takes (cxZ P w K mg base ["book", "tree"] "all_findings" (defScope (top 40)) f cdv A outer s H E) (wE E) := L2N.takes_of rfl rfl rfl rfl
  have hp : PassesOwn (model P w) (cxZ P w K mg base ["book", "tree"] "all_findings" (defScope (top 40)) f cdv A outer s H E).A (cxZ P w K mg base ["book", "tree"] "all_findings" (defScope (top 40)) f cdv A outer s H E).env (cxZ P w K mg base ["book", "tree"] "all_findings" (defScope (top 40)) f cdv A outer s H E).xe := passes_of (X := (cxZ P w K mg base ["book", "tree"] "all_findings" (defScope (top 40)) f cdv A outer s H E)) rfl
  exact (jb_one (js_ret (je_call C.c_findings_at hr tk (ja_cons (je_n 0) (ja_cons (je_n 1) (ja_cons (je_call C.c_places_from hr tk (ja_cons (je_n 1) (ja_cons (je_tup ja_nil) (ja_cons je_bl ja_nil)))) ja_nil))))))
theorem sc_findings : FnScope ["book", "tree"] ["book", "tree"] (defScope (top 41)) := ⟨rfl, rfl, rfl, by decide +kernel, rfl, by decide +kernel, by decide +kernel⟩
theorem d_findings (hK : g.K = K) (T : Tx P w K mg base g S fw fdw) (C : Cs P w K mg base g k Φ) {f : Addr} (cdv : Value) (A : Around) (outer : List Env) (s : Shared) (H : Hp) (E : XK) (hr : Room k (A.deeper (envOfC "findings" (defScope (top 41)) s.heap.objs.size f cdv))) (h1 : 1 ≤ k) :
    JB g (cxZ P w K mg base ["book", "tree"] "findings" (defScope (top 41)) f cdv A outer s H E) (wE E) (defBody (top 41)) (b_findings Φ) := by
  have nd := (sc_findings).nd
  have hu := Room.u191 hr
  have hu1 := hu_of hr
  have tk : L2N.Takes (cxZ P w K mg base ["book", "tree"] "findings" (defScope (top 41)) f cdv A outer s H E) (wE E) := L2N.takes_of rfl rfl rfl rfl
  have hp : PassesOwn (model P w) (cxZ P w K mg base ["book", "tree"] "findings" (defScope (top 41)) f cdv A outer s H E).A (cxZ P w K mg base ["book", "tree"] "findings" (defScope (top 41)) f cdv A outer s H E).env (cxZ P w K mg base ["book", "tree"] "findings" (defScope (top 41)) f cdv A outer s H E).xe := passes_of (X := (cxZ P w K mg base ["book", "tree"] "findings" (defScope (top 41)) f cdv A outer s H E)) rfl
  exact (jb_cons (js_expr (je_call C.c_need_book hr tk (ja_cons (je_n 0) ja_nil)))
    (jb_cons (js_expr (je_call C.c_need_tree hr tk (ja_cons (je_n 1) ja_nil)))
    (jb_one (js_ret (je_call C.c_all_findings hr tk (ja_cons (je_n 0) (ja_cons (je_n 1) ja_nil)))))))
theorem sc_rule_of : FnScope ["book", "name", "rule"] ["book", "name"] (defScope (top 42)) := ⟨rfl, rfl, rfl, by decide +kernel, rfl, by decide +kernel, by decide +kernel⟩
theorem d_rule_of (hK : g.K = K) (T : Tx P w K mg base g S fw fdw) (C : Cs P w K mg base g k Φ) {f : Addr} (cdv : Value) (A : Around) (outer : List Env) (s : Shared) (H : Hp) (E : XK) (hr : Room k (A.deeper (envOfC "rule_of" (defScope (top 42)) s.heap.objs.size f cdv))) (h1 : 1 ≤ k) :
    JB g (cxZ P w K mg base ["book", "name", "rule"] "rule_of" (defScope (top 42)) f cdv A outer s H E) (wE E) (defBody (top 42)) (b_rule_of Φ) := by
  have nd := (sc_rule_of).nd
  have hu := Room.u191 hr
  have hu1 := hu_of hr
  have tk : L2N.Takes (cxZ P w K mg base ["book", "name", "rule"] "rule_of" (defScope (top 42)) f cdv A outer s H E) (wE E) := L2N.takes_of rfl rfl rfl rfl
  have hp : PassesOwn (model P w) (cxZ P w K mg base ["book", "name", "rule"] "rule_of" (defScope (top 42)) f cdv A outer s H E).A (cxZ P w K mg base ["book", "name", "rule"] "rule_of" (defScope (top 42)) f cdv A outer s H E).env (cxZ P w K mg base ["book", "name", "rule"] "rule_of" (defScope (top 42)) f cdv A outer s H E).xe := passes_of (X := (cxZ P w K mg base ["book", "name", "rule"] "rule_of" (defScope (top 42)) f cdv A outer s H E)) rfl
  exact (jb_one (js_ret (je_sub hK (je_comp rfl nd (ji_t hK (je_n 0)) (own := [("rule", 2)]) ⟨blkOk_by (N := ["book", "name", "rule"]) (sc := defScope (top 42)) (by decide +kernel), by decide, fun _ _ _ _ _ => (jg_n 2 nd), fun _ _ _ _ _ => (jts_one (jt_cmp (op_eqZ hK hu) (je_sub hK (je_n 2) je_int) (je_n 1) (nomark _))), fun _ _ _ _ _ => (je_n 2)⟩) je_int)))
theorem sc_done : FnScope ["book", "tree", "finding", "place", "name"] ["book", "tree", "finding"] (defScope (top 43)) := ⟨rfl, rfl, rfl, by decide +kernel, rfl, by decide +kernel, by decide +kernel⟩
theorem d_done (hK : g.K = K) (T : Tx P w K mg base g S fw fdw) (C : Cs P w K mg base g k Φ) {f : Addr} (cdv : Value) (A : Around) (outer : List Env) (s : Shared) (H : Hp) (E : XK) (hr : Room k (A.deeper (envOfC "done" (defScope (top 43)) s.heap.objs.size f cdv))) (h1 : 1 ≤ k) :
    JB g (cxZ P w K mg base ["book", "tree", "finding", "place", "name"] "done" (defScope (top 43)) f cdv A outer s H E) (wE E) (defBody (top 43)) (b_done Φ) := by
  have nd := (sc_done).nd
  have hu := Room.u191 hr
  have hu1 := hu_of hr
  have tk : L2N.Takes (cxZ P w K mg base ["book", "tree", "finding", "place", "name"] "done" (defScope (top 43)) f cdv A outer s H E) (wE E) := L2N.takes_of rfl rfl rfl rfl
  have hp : PassesOwn (model P w) (cxZ P w K mg base ["book", "tree", "finding", "place", "name"] "done" (defScope (top 43)) f cdv A outer s H E).A (cxZ P w K mg base ["book", "tree", "finding", "place", "name"] "done" (defScope (top 43)) f cdv A outer s H E).env (cxZ P w K mg base ["book", "tree", "finding", "place", "name"] "done" (defScope (top 43)) f cdv A outer s H E).xe := passes_of (X := (cxZ P w K mg base ["book", "tree", "finding", "place", "name"] "done" (defScope (top 43)) f cdv A outer s H E)) rfl
  exact (jb_cons (js_asgT (jg_t rfl (jgs_cons (jg_n 3 nd) (jgs_cons (jg_n 4 nd) jgs_nil))) (je_n 2))
    (jb_one (js_ret (je_call C.c_put_in hr tk (ja_cons (je_n 1) (ja_cons (je_n 3) (ja_cons (je_call C.c_mended hr tk (ja_cons (je_call C.c_rule_of hr tk (ja_cons (je_n 0) (ja_cons (je_n 4) ja_nil))) (ja_cons (je_call C.c_found_at hr tk (ja_cons (je_n 1) (ja_cons (je_n 3) ja_nil))) ja_nil))) ja_nil)))))))
theorem sc_mend_at : FnScope ["book", "tree", "finding"] ["book", "tree", "finding"] (defScope (top 44)) := ⟨rfl, rfl, rfl, by decide +kernel, rfl, by decide +kernel, by decide +kernel⟩
theorem d_mend_at (hK : g.K = K) (T : Tx P w K mg base g S fw fdw) (C : Cs P w K mg base g k Φ) {f : Addr} (cdv : Value) (A : Around) (outer : List Env) (s : Shared) (H : Hp) (E : XK) (hr : Room k (A.deeper (envOfC "mend_at" (defScope (top 44)) s.heap.objs.size f cdv))) (h1 : 1 ≤ k) :
    JB g (cxZ P w K mg base ["book", "tree", "finding"] "mend_at" (defScope (top 44)) f cdv A outer s H E) (wE E) (defBody (top 44)) (b_mend_at Φ) := by
  have nd := (sc_mend_at).nd
  have hu := Room.u191 hr
  have hu1 := hu_of hr
  have tk : L2N.Takes (cxZ P w K mg base ["book", "tree", "finding"] "mend_at" (defScope (top 44)) f cdv A outer s H E) (wE E) := L2N.takes_of rfl rfl rfl rfl
  have hp : PassesOwn (model P w) (cxZ P w K mg base ["book", "tree", "finding"] "mend_at" (defScope (top 44)) f cdv A outer s H E).A (cxZ P w K mg base ["book", "tree", "finding"] "mend_at" (defScope (top 44)) f cdv A outer s H E).env (cxZ P w K mg base ["book", "tree", "finding"] "mend_at" (defScope (top 44)) f cdv A outer s H E).xe := passes_of (X := (cxZ P w K mg base ["book", "tree", "finding"] "mend_at" (defScope (top 44)) f cdv A outer s H E)) rfl
  exact (jb_cons (js_expr (je_call C.c_need_book hr tk (ja_cons (je_n 0) ja_nil)))
    (jb_cons (js_expr (je_call C.c_need_tree hr tk (ja_cons (je_n 1) ja_nil)))
    (jb_cons (js_if (jt_cmp (op_notInZ hK hu) (je_n 2) (je_call C.c_all_findings hr tk (ja_cons (je_n 0) (ja_cons (je_n 1) ja_nil))) (by rfl)) (jb_one (js_raise (c := 3) rfl tk (T.R.exc 3 (by decide)).1 (T.R.at_ 3 (by decide)) (T.R.exc 3 (by decide)).2.1 (T.R.exc 3 (by decide)).2.2.1 (T.R.exc 3 (by decide)).2.2.2)) jb_nil)
    (jb_one (js_ret (je_call C.c_done hr tk (ja_cons (je_n 0) (ja_cons (je_n 1) (ja_cons (je_n 2) ja_nil)))))))))
theorem sc__law_cell_at : FnScope ["script", "k"] ["script", "k"] (defScope (top 46)) := ⟨rfl, rfl, rfl, by decide +kernel, rfl, by decide +kernel, by decide +kernel⟩
theorem d__law_cell_at (hK : g.K = K) (T : Tx P w K mg base g S fw fdw) (C : Cs P w K mg base g k Φ) {f : Addr} (cdv : Value) (A : Around) (outer : List Env) (s : Shared) (H : Hp) (E : XK) (hr : Room k (A.deeper (envOfC "_law_cell_at" (defScope (top 46)) s.heap.objs.size f cdv))) (h1 : 1 ≤ k) :
    JB g (cxZ P w K mg base ["script", "k"] "_law_cell_at" (defScope (top 46)) f cdv A outer s H E) (wE E) (defBody (top 46)) (b__law_cell_at Φ) := by
  have nd := (sc__law_cell_at).nd
  have hu := Room.u191 hr
  have hu1 := hu_of hr
  have tk : L2N.Takes (cxZ P w K mg base ["script", "k"] "_law_cell_at" (defScope (top 46)) f cdv A outer s H E) (wE E) := L2N.takes_of rfl rfl rfl rfl
  have hp : PassesOwn (model P w) (cxZ P w K mg base ["script", "k"] "_law_cell_at" (defScope (top 46)) f cdv A outer s H E).A (cxZ P w K mg base ["script", "k"] "_law_cell_at" (defScope (top 46)) f cdv A outer s H E).env (cxZ P w K mg base ["script", "k"] "_law_cell_at" (defScope (top 46)) f cdv A outer s H E).xe := passes_of (X := (cxZ P w K mg base ["script", "k"] "_law_cell_at" (defScope (top 46)) f cdv A outer s H E)) rfl
  exact (jb_cons (js_if (jt_cmp op_ltZ (je_n 1) (je_callB (c_len hK) T.b_len (by decide +kernel) (jh_cons (je_n 0) jh_nil)) (nomark _)) (jb_one (js_ret (je_sub hK (je_n 0) (je_n 1)))) jb_nil)
    (jb_cons (js_if (jt_cmp (op_eqZ hK hu) (je_n 0) (je_lst ja_nil) (nomark _)) (jb_one (js_ret je_int)) jb_nil)
    (jb_one (js_ret (je_op (op_addZ hK) (je_op op_mulZ (je_sub hK (je_n 0) (je_op op_modZ (je_n 1) (je_callB (c_len hK) T.b_len (by decide +kernel) (jh_cons (je_n 0) jh_nil)))) je_int) (je_n 1))))))
theorem sc__law_mixed : FnScope ["script", "k", "many", "drawn"] ["script", "k", "many"] (defScope (top 47)) := ⟨rfl, rfl, rfl, by decide +kernel, rfl, by decide +kernel, by decide +kernel⟩
theorem d__law_mixed (hK : g.K = K) (T : Tx P w K mg base g S fw fdw) (C : Cs P w K mg base g k Φ) {f : Addr} (cdv : Value) (A : Around) (outer : List Env) (s : Shared) (H : Hp) (E : XK) (hr : Room k (A.deeper (envOfC "_law_mixed" (defScope (top 47)) s.heap.objs.size f cdv))) (h1 : 1 ≤ k) :
    JB g (cxZ P w K mg base ["script", "k", "many", "drawn"] "_law_mixed" (defScope (top 47)) f cdv A outer s H E) (wE E) (defBody (top 47)) (b__law_mixed Φ) := by
  have nd := (sc__law_mixed).nd
  have hu := Room.u191 hr
  have hu1 := hu_of hr
  have tk : L2N.Takes (cxZ P w K mg base ["script", "k", "many", "drawn"] "_law_mixed" (defScope (top 47)) f cdv A outer s H E) (wE E) := L2N.takes_of rfl rfl rfl rfl
  have hp : PassesOwn (model P w) (cxZ P w K mg base ["script", "k", "many", "drawn"] "_law_mixed" (defScope (top 47)) f cdv A outer s H E).A (cxZ P w K mg base ["script", "k", "many", "drawn"] "_law_mixed" (defScope (top 47)) f cdv A outer s H E).env (cxZ P w K mg base ["script", "k", "many", "drawn"] "_law_mixed" (defScope (top 47)) f cdv A outer s H E).xe := passes_of (X := (cxZ P w K mg base ["script", "k", "many", "drawn"] "_law_mixed" (defScope (top 47)) f cdv A outer s H E)) rfl
  exact (jb_cons (js_asg (i := 3) nd (je_op op_modZ (je_op op_mulZ (je_op (op_addZ hK) (je_op (op_addZ hK) (je_call C.c__law_cell_at hr tk (ja_cons (je_n 0) (ja_cons (je_n 1) ja_nil))) (je_op op_mulZ je_int (je_n 1))) je_int) je_int) je_int))
    (jb_one (js_ret (je_op op_modZ (je_op op_modZ (je_op (op_addZ hK) (je_op (op_addZ hK) (je_op op_mulZ (je_n 3) (je_n 3)) (je_op op_mulZ je_int (je_n 3))) (je_n 1)) je_int) (je_n 2)))))
theorem sc__law_word : FnScope ["script", "at", "made", "k"] ["script", "at"] (defScope (top 48)) := ⟨rfl, rfl, rfl, by decide +kernel, rfl, by decide +kernel, by decide +kernel⟩
theorem d__law_word (hK : g.K = K) (T : Tx P w K mg base g S fw fdw) (C : Cs P w K mg base g k Φ) {f : Addr} (cdv : Value) (A : Around) (outer : List Env) (s : Shared) (H : Hp) (E : XK) (hr : Room k (A.deeper (envOfC "_law_word" (defScope (top 48)) s.heap.objs.size f cdv))) (h1 : 1 ≤ k) :
    JB g (cxZ P w K mg base ["script", "at", "made", "k"] "_law_word" (defScope (top 48)) f cdv A outer s H E) (wE E) (defBody (top 48)) (b__law_word Φ) := by
  have nd := (sc__law_word).nd
  have hu := Room.u191 hr
  have hu1 := hu_of hr
  have tk : L2N.Takes (cxZ P w K mg base ["script", "at", "made", "k"] "_law_word" (defScope (top 48)) f cdv A outer s H E) (wE E) := L2N.takes_of rfl rfl rfl rfl
  have hp : PassesOwn (model P w) (cxZ P w K mg base ["script", "at", "made", "k"] "_law_word" (defScope (top 48)) f cdv A outer s H E).A (cxZ P w K mg base ["script", "at", "made", "k"] "_law_word" (defScope (top 48)) f cdv A outer s H E).env (cxZ P w K mg base ["script", "at", "made", "k"] "_law_word" (defScope (top 48)) f cdv A outer s H E).xe := passes_of (X := (cxZ P w K mg base ["script", "at", "made", "k"] "_law_word" (defScope (top 48)) f cdv A outer s H E)) rfl
  exact (jb_cons (js_asg (i := 2) nd je_str)
    (jb_cons (js_for hp rfl (ji_r1 T.b_range (jh_cons (je_sub hK (je_lst (ja_cons je_int (ja_cons je_int (ja_cons je_int (ja_cons je_int (ja_cons je_int (ja_cons je_int ja_nil))))))) (je_call C.c__law_mixed hr tk (ja_cons (je_n 0) (ja_cons (je_n 1) (ja_cons je_int ja_nil))))) jh_nil)) (jg_n 3 nd) (jb_one (js_asg (i := 2) nd (je_op (op_addZ hK) (je_n 2) (je_sub hK je_str (je_call C.c__law_mixed hr tk (ja_cons (je_n 0) (ja_cons (je_op (op_addZ hK) (je_op (op_addZ hK) (je_n 1) je_int) (je_n 3)) (ja_cons je_int ja_nil)))))))))
    (jb_one (js_ret (je_sub hK (je_lst (ja_cons (je_n 2) (ja_cons je_str ja_nil))) (je_callTy c_int T.b_int (by decide +kernel) (jh_cons (je_cmp (op_eqZ hK hu) (je_n 2) je_str (nomark _)) jh_nil)))))))
theorem sc__law_words : FnScope ["script", "at", "made", "k", "last", "place", "sign", "some", "word"] ["script", "at"] (defScope (top 49)) := ⟨rfl, rfl, rfl, by decide +kernel, rfl, by decide +kernel, by decide +kernel⟩
theorem d__law_words (hK : g.K = K) (T : Tx P w K mg base g S fw fdw) (C : Cs P w K mg base g k Φ) {f : Addr} (cdv : Value) (A : Around) (outer : List Env) (s : Shared) (H : Hp) (E : XK) (hr : Room k (A.deeper (envOfC "_law_words" (defScope (top 49)) s.heap.objs.size f cdv))) (h1 : 1 ≤ k) :
    JB g (cxZ P w K mg base ["script", "at", "made", "k", "last", "place", "sign", "some", "word"] "_law_words" (defScope (top 49)) f cdv A outer s H E) (wE E) (defBody (top 49)) (b__law_words Φ) := by
  have nd := (sc__law_words).nd
  have hu := Room.u191 hr
  have hu1 := hu_of hr
  have tk : L2N.Takes (cxZ P w K mg base ["script", "at", "made", "k", "last", "place", "sign", "some", "word"] "_law_words" (defScope (top 49)) f cdv A outer s H E) (wE E) := L2N.takes_of rfl rfl rfl rfl
  have hp : PassesOwn (model P w) (cxZ P w K mg base ["script", "at", "made", "k", "last", "place", "sign", "some", "word"] "_law_words" (defScope (top 49)) f cdv A outer s H E).A (cxZ P w K mg base ["script", "at", "made", "k", "last", "place", "sign", "some", "word"] "_law_words" (defScope (top 49)) f cdv A outer s H E).env (cxZ P w K mg base ["script", "at", "made", "k", "last", "place", "sign", "some", "word"] "_law_words" (defScope (top 49)) f cdv A outer s H E).xe := passes_of (X := (cxZ P w K mg base ["script", "at", "made", "k", "last", "place", "sign", "some", "word"] "_law_words" (defScope (top 49)) f cdv A outer s H E)) rfl
  exact (jb_cons (js_asg (i := 2) nd (je_lst (ja_cons (je_call C.c__law_word hr tk (ja_cons (je_n 0) (ja_cons (je_n 1) ja_nil))) ja_nil)))
    (jb_cons (js_for hp rfl (ji_r2 T.b_range (jh_cons je_int (jh_cons je_int jh_nil))) (jg_n 3 nd) (jb_cons (js_asg (i := 4) nd (je_sub hK (je_n 2) (je_un un_negZ je_int)))
    (jb_cons (js_asg (i := 5) nd (je_call C.c__law_mixed hr tk (ja_cons (je_n 0) (ja_cons (je_op (op_addZ hK) (je_n 1) (je_op op_mulZ je_int (je_n 3))) (ja_cons (je_callB (c_len hK) T.b_len (by decide +kernel) (jh_cons (je_n 4) jh_nil)) ja_nil)))))
    (jb_cons (js_asg (i := 6) nd (je_sub hK (je_call C.c__law_word hr tk (ja_cons (je_n 0) (ja_cons (je_op (op_addZ hK) (je_op (op_addZ hK) (je_n 1) (je_op op_mulZ je_int (je_n 3))) je_int) ja_nil))) je_int))
    (jb_cons (js_asg (i := 7) nd (je_lst (ja_cons (je_op (op_addZ hK) (je_op (op_addZ hK) (je_slice (je_n 4) jo0 (jo1 (je_n 5))) (je_n 6)) (je_slice (je_n 4) (jo1 (je_op (op_addZ hK) (je_n 5) je_int)) jo0)) (ja_cons (je_call C.c__law_word hr tk (ja_cons (je_n 0) (ja_cons (je_op (op_addZ hK) (je_n 1) (je_op op_mulZ je_int (je_n 3))) ja_nil))) ja_nil))))
    (jb_one (js_expr (je_lm 2 PySem.F.slot_list_append PySem.F.type_list_append mt_append lm_append (ja_cons (je_sub hK (je_n 7) (je_call C.c__law_mixed hr tk (ja_cons (je_n 0) (ja_cons (je_op (op_addZ hK) (je_op (op_addZ hK) (je_n 1) je_int) (je_n 3)) (ja_cons je_int ja_nil))))) ja_nil)))))))))
    (jb_one (js_ret (je_compN 2 hK rfl nd (own := [("word", 8)]) ⟨blkOk_by (N := ["script", "at", "made", "k", "last", "place", "sign", "some", "word"]) (sc := defScope (top 49)) (by decide +kernel), by decide, fun _ _ _ _ _ => (jg_n 8 nd), fun _ _ _ _ _ => jts_nil, fun _ _ _ _ _ => (je_sub hK (je_lst (ja_cons (je_n 8) (ja_cons je_str ja_nil))) (je_callTy c_int T.b_int (by decide +kernel) (jh_cons (je_cmp (op_eqZ hK hu) (je_n 8) je_str (nomark _)) jh_nil)))⟩)))))
theorem sc__law_part : FnScope ["script", "at", "words", "small", "kind", "word"] ["script", "at", "words", "small"] (defScope (top 50)) := ⟨rfl, rfl, rfl, by decide +kernel, rfl, by decide +kernel, by decide +kernel⟩
theorem d__law_part (hK : g.K = K) (T : Tx P w K mg base g S fw fdw) (C : Cs P w K mg base g k Φ) {f : Addr} (cdv : Value) (A : Around) (outer : List Env) (s : Shared) (H : Hp) (E : XK) (hr : Room k (A.deeper (envOfC "_law_part" (defScope (top 50)) s.heap.objs.size f cdv))) (h1 : 1 ≤ k) :
    JB g (cxZ P w K mg base ["script", "at", "words", "small", "kind", "word"] "_law_part" (defScope (top 50)) f cdv A outer s H E) (wE E) (defBody (top 50)) (b__law_part Φ) := by
  have nd := (sc__law_part).nd
  have hu := Room.u191 hr
  have hu1 := hu_of hr
  have tk : L2N.Takes (cxZ P w K mg base ["script", "at", "words", "small", "kind", "word"] "_law_part" (defScope (top 50)) f cdv A outer s H E) (wE E) := L2N.takes_of rfl rfl rfl rfl
  have hp : PassesOwn (model P w) (cxZ P w K mg base ["script", "at", "words", "small", "kind", "word"] "_law_part" (defScope (top 50)) f cdv A outer s H E).A (cxZ P w K mg base ["script", "at", "words", "small", "kind", "word"] "_law_part" (defScope (top 50)) f cdv A outer s H E).env (cxZ P w K mg base ["script", "at", "words", "small", "kind", "word"] "_law_part" (defScope (top 50)) f cdv A outer s H E).xe := passes_of (X := (cxZ P w K mg base ["script", "at", "words", "small", "kind", "word"] "_law_part" (defScope (top 50)) f cdv A outer s H E)) rfl
  exact (jb_cons (js_asg (i := 4) nd (je_call C.c__law_mixed hr tk (ja_cons (je_n 0) (ja_cons (je_n 1) (ja_cons je_int ja_nil)))))
    (jb_cons (js_asg (i := 5) nd (je_sub hK (je_n 2) (je_call C.c__law_mixed hr tk (ja_cons (je_n 0) (ja_cons (je_op (op_addZ hK) (je_n 1) je_int) (ja_cons je_int ja_nil))))))
    (jb_cons (js_if (jt_cmp op_ltZ (je_n 4) je_int (nomark _)) (jb_one (js_ret (je_sub hK (je_lst (ja_cons je_int (ja_cons je_int (ja_cons je_int ja_nil)))) (je_n 4)))) jb_nil)
    (jb_cons (js_if (jt_w (jw_or (jt_cmp (op_eqZ hK hu) (je_n 4) je_int (nomark _)) (jw_or1 (jt_val (je_n 3))))) (jb_one (js_ret (je_tup (ja_cons (je_n 5) (ja_cons (je_tup ja_nil) ja_nil))))) jb_nil)
    (jb_one (js_ret (je_tup (ja_cons (je_n 5) (ja_cons (je_tup (ja_cons (je_sub hK (je_lst (ja_cons je_int (ja_cons je_int (ja_cons (je_tup (ja_cons (je_sub hK (je_n 2) (je_call C.c__law_mixed hr tk (ja_cons (je_n 0) (ja_cons (je_op (op_addZ hK) (je_n 1) je_int) (ja_cons je_int ja_nil))))) (ja_cons (je_tup ja_nil) ja_nil))) ja_nil)))) (je_call C.c__law_mixed hr tk (ja_cons (je_n 0) (ja_cons (je_op (op_addZ hK) (je_n 1) je_int) (ja_cons je_int ja_nil))))) ja_nil)) ja_nil)))))))))
theorem sc__law_pattern : FnScope ["script", "at", "words", "many", "parts", "k"] ["script", "at", "words"] (defScope (top 51)) := ⟨rfl, rfl, rfl, by decide +kernel, rfl, by decide +kernel, by decide +kernel⟩
theorem d__law_pattern (hK : g.K = K) (T : Tx P w K mg base g S fw fdw) (C : Cs P w K mg base g k Φ) {f : Addr} (cdv : Value) (A : Around) (outer : List Env) (s : Shared) (H : Hp) (E : XK) (hr : Room k (A.deeper (envOfC "_law_pattern" (defScope (top 51)) s.heap.objs.size f cdv))) (h1 : 1 ≤ k) :
    JB g (cxZ P w K mg base ["script", "at", "words", "many", "parts", "k"] "_law_pattern" (defScope (top 51)) f cdv A outer s H E) (wE E) (defBody (top 51)) (b__law_pattern Φ) := by
  have nd := (sc__law_pattern).nd
  have hu := Room.u191 hr
  have hu1 := hu_of hr
  have tk : L2N.Takes (cxZ P w K mg base ["script", "at", "words", "many", "parts", "k"] "_law_pattern" (defScope (top 51)) f cdv A outer s H E) (wE E) := L2N.takes_of rfl rfl rfl rfl
  have hp : PassesOwn (model P w) (cxZ P w K mg base ["script", "at", "words", "many", "parts", "k"] "_law_pattern" (defScope (top 51)) f cdv A outer s H E).A (cxZ P w K mg base ["script", "at", "words", "many", "parts", "k"] "_law_pattern" (defScope (top 51)) f cdv A outer s H E).env (cxZ P w K mg base ["script", "at", "words", "many", "parts", "k"] "_law_pattern" (defScope (top 51)) f cdv A outer s H E).xe := passes_of (X := (cxZ P w K mg base ["script", "at", "words", "many", "parts", "k"] "_law_pattern" (defScope (top 51)) f cdv A outer s H E)) rfl
  exact (jb_cons (js_asg (i := 3) nd (je_sub hK (je_lst (ja_cons je_int (ja_cons je_int (ja_cons je_int (ja_cons je_int (ja_cons je_int ja_nil)))))) (je_call C.c__law_mixed hr tk (ja_cons (je_n 0) (ja_cons (je_n 1) (ja_cons je_int ja_nil))))))
    (jb_cons (js_asgC (i := 4) rfl nd (sw_true rfl rfl rfl (by decide +kernel)) (ji_r1 T.b_range (jh_cons (je_n 3) jh_nil)) (own := [("k", 5)]) ⟨blkOk_by (N := ["script", "at", "words", "many", "parts", "k"]) (sc := defScope (top 51)) (by decide +kernel), by decide, fun _ _ _ _ _ => (jg_n 5 nd), fun _ _ _ _ _ => jts_nil, fun _ _ _ _ _ => (je_call C.c__law_part hr takesW0 (ja_cons (je_n 0) (ja_cons (je_op (op_addZ hK) (je_op (op_addZ hK) (je_n 1) je_int) (je_op op_mulZ je_int (je_n 5))) (ja_cons (je_n 2) (ja_cons (je_cmp (op_eqZ hK hu) (je_n 3) je_int (nomark _)) ja_nil)))))⟩)
    (jb_one (js_ret (je_tup (ja_cons (je_sub hK (je_n 2) (je_call C.c__law_mixed hr tk (ja_cons (je_n 0) (ja_cons (je_op (op_addZ hK) (je_n 1) je_int) (ja_cons je_int ja_nil))))) (ja_cons (je_callTy c_tuple T.b_tuple (by decide +kernel) (jh_cons (je_n 4) jh_nil)) ja_nil)))))))
theorem sc__law_holes : FnScope ["pattern", "found", "part"] ["pattern"] (defScope (top 52)) := ⟨rfl, rfl, rfl, by decide +kernel, rfl, by decide +kernel, by decide +kernel⟩
theorem d__law_holes (hK : g.K = K) (T : Tx P w K mg base g S fw fdw) (C : Cs P w K mg base g k Φ) {f : Addr} (cdv : Value) (A : Around) (outer : List Env) (s : Shared) (H : Hp) (E : XK) (hr : Room k (A.deeper (envOfC "_law_holes" (defScope (top 52)) s.heap.objs.size f cdv))) (h1 : 1 ≤ k) :
    JB g (cxZ P w K mg base ["pattern", "found", "part"] "_law_holes" (defScope (top 52)) f cdv A outer s H E) (wE E) (defBody (top 52)) (b__law_holes Φ) := by
  have nd := (sc__law_holes).nd
  have hu := Room.u191 hr
  have hu1 := hu_of hr
  have tk : L2N.Takes (cxZ P w K mg base ["pattern", "found", "part"] "_law_holes" (defScope (top 52)) f cdv A outer s H E) (wE E) := L2N.takes_of rfl rfl rfl rfl
  have hp : PassesOwn (model P w) (cxZ P w K mg base ["pattern", "found", "part"] "_law_holes" (defScope (top 52)) f cdv A outer s H E).A (cxZ P w K mg base ["pattern", "found", "part"] "_law_holes" (defScope (top 52)) f cdv A outer s H E).env (cxZ P w K mg base ["pattern", "found", "part"] "_law_holes" (defScope (top 52)) f cdv A outer s H E).xe := passes_of (X := (cxZ P w K mg base ["pattern", "found", "part"] "_law_holes" (defScope (top 52)) f cdv A outer s H E)) rfl
  exact (jb_cons (js_if (jt_val (je_isi .tint (je_n 0) T.b_isinstance T.b_int (by decide +kernel))) (jb_one (js_ret (je_lst (ja_cons (je_n 0) ja_nil)))) jb_nil)
    (jb_cons (js_asg (i := 1) nd (je_lst ja_nil))
    (jb_cons (js_for hp rfl (ji_t hK (je_sub hK (je_n 0) je_int)) (jg_n 2 nd) (jb_one (js_expr (je_lm 1 PySem.F.slot_list_extend PySem.F.type_list_extend mt_extend lm_extend (ja_cons (je_call C.c__law_holes hr tk (ja_cons (je_n 2) ja_nil)) ja_nil)))))
    (jb_one (js_ret (je_n 1))))))
theorem sc__law_count : FnScope ["pattern", "part"] ["pattern"] (defScope (top 53)) := ⟨rfl, rfl, rfl, by decide +kernel, rfl, by decide +kernel, by decide +kernel⟩
theorem d__law_count (hK : g.K = K) (T : Tx P w K mg base g S fw fdw) (C : Cs P w K mg base g k Φ) {f : Addr} (cdv : Value) (A : Around) (outer : List Env) (s : Shared) (H : Hp) (E : XK) (hr : Room k (A.deeper (envOfC "_law_count" (defScope (top 53)) s.heap.objs.size f cdv))) (h1 : 1 ≤ k) :
    JB g (cxZ P w K mg base ["pattern", "part"] "_law_count" (defScope (top 53)) f cdv A outer s H E) (wE E) (defBody (top 53)) (b__law_count Φ) := by
  have nd := (sc__law_count).nd
  have hu := Room.u191 hr
  have hu1 := hu_of hr
  have tk : L2N.Takes (cxZ P w K mg base ["pattern", "part"] "_law_count" (defScope (top 53)) f cdv A outer s H E) (wE E) := L2N.takes_of rfl rfl rfl rfl
  have hp : PassesOwn (model P w) (cxZ P w K mg base ["pattern", "part"] "_law_count" (defScope (top 53)) f cdv A outer s H E).A (cxZ P w K mg base ["pattern", "part"] "_law_count" (defScope (top 53)) f cdv A outer s H E).env (cxZ P w K mg base ["pattern", "part"] "_law_count" (defScope (top 53)) f cdv A outer s H E).xe := passes_of (X := (cxZ P w K mg base ["pattern", "part"] "_law_count" (defScope (top 53)) f cdv A outer s H E)) rfl
  exact (jb_cons (js_if (jt_val (je_isi .tint (je_n 0) T.b_isinstance T.b_int (by decide +kernel))) (jb_one (js_ret je_int)) jb_nil)
    (jb_one (js_ret (je_op (op_addZ hK) je_int (je_callB (c_sum rfl) T.b_sum (by decide +kernel) (jh_cons (je_comp rfl nd (ji_t hK (je_sub hK (je_n 0) je_int)) (own := [("part", 1)]) ⟨blkOk_by (N := ["pattern", "part"]) (sc := defScope (top 53)) (by decide +kernel), by decide, fun _ _ _ _ _ => (jg_n 1 nd), fun _ _ _ _ _ => jts_nil, fun _ _ _ _ _ => (je_call C.c__law_count hr takesW0 (ja_cons (je_n 1) ja_nil))⟩) jh_nil))))))
theorem sc__law_mend : FnScope ["script", "at", "words", "pattern", "holes", "many", "word", "some"] ["script", "at", "words", "pattern"] (defScope (top 54)) := ⟨rfl, rfl, rfl, by decide +kernel, rfl, by decide +kernel, by decide +kernel⟩
theorem d__law_mend (hK : g.K = K) (T : Tx P w K mg base g S fw fdw) (C : Cs P w K mg base g k Φ) {f : Addr} (cdv : Value) (A : Around) (outer : List Env) (s : Shared) (H : Hp) (E : XK) (hr : Room k (A.deeper (envOfC "_law_mend" (defScope (top 54)) s.heap.objs.size f cdv))) (h1 : 1 ≤ k) :
    JB g (cxZ P w K mg base ["script", "at", "words", "pattern", "holes", "many", "word", "some"] "_law_mend" (defScope (top 54)) f cdv A outer s H E) (wE E) (defBody (top 54)) (b__law_mend Φ) := by
  have nd := (sc__law_mend).nd
  have hu := Room.u191 hr
  have hu1 := hu_of hr
  have tk : L2N.Takes (cxZ P w K mg base ["script", "at", "words", "pattern", "holes", "many", "word", "some"] "_law_mend" (defScope (top 54)) f cdv A outer s H E) (wE E) := L2N.takes_of rfl rfl rfl rfl
  have hp : PassesOwn (model P w) (cxZ P w K mg base ["script", "at", "words", "pattern", "holes", "many", "word", "some"] "_law_mend" (defScope (top 54)) f cdv A outer s H E).A (cxZ P w K mg base ["script", "at", "words", "pattern", "holes", "many", "word", "some"] "_law_mend" (defScope (top 54)) f cdv A outer s H E).env (cxZ P w K mg base ["script", "at", "words", "pattern", "holes", "many", "word", "some"] "_law_mend" (defScope (top 54)) f cdv A outer s H E).xe := passes_of (X := (cxZ P w K mg base ["script", "at", "words", "pattern", "holes", "many", "word", "some"] "_law_mend" (defScope (top 54)) f cdv A outer s H E)) rfl
  exact (jb_cons (js_asg (i := 4) nd (je_call C.c__law_holes hr tk (ja_cons (je_n 3) ja_nil)))
    (jb_cons (js_asg (i := 5) nd (je_call C.c__law_count hr tk (ja_cons (je_n 3) ja_nil)))
    (jb_cons (js_asg (i := 6) nd (je_sub hK (je_n 2) (je_call C.c__law_mixed hr tk (ja_cons (je_n 0) (ja_cons (je_n 1) (ja_cons je_int ja_nil))))))
    (jb_cons (js_asg (i := 7) nd (je_callTy c_list T.b_list (by decide +kernel) (jh_cons (je_n 4) jh_nil)))
    (jb_cons (js_if (jt_cmp op_gtZ (je_n 5) je_int (nomark _)) (jb_one (js_expr (je_lm 7 PySem.F.slot_list_extend PySem.F.type_list_extend mt_extend lm_extend (ja_cons (je_lst (ja_cons (je_tup (ja_cons (je_n 6) (ja_cons (je_tup ja_nil) ja_nil))) (ja_cons (je_tup (ja_cons (je_n 6) (ja_cons (je_callTy c_tuple T.b_tuple (by decide +kernel) (jh_cons (je_slice (je_n 4) jo0 (jo1 je_int)) jh_nil)) ja_nil))) (ja_cons (je_tup (ja_cons (je_n 6) (ja_cons (je_callTy c_tuple T.b_tuple (by decide +kernel) (jh_cons (je_slice (je_rev (je_n 4)) jo0 (jo1 je_int)) jh_nil)) ja_nil))) ja_nil)))) ja_nil)))) jb_nil)
    (jb_cons (js_if (jt_cmp op_gtZ (je_n 5) je_int (nomark _)) (jb_one (js_expr (je_lm 7 PySem.F.slot_list_append PySem.F.type_list_append mt_append lm_append (ja_cons (je_tup (ja_cons (je_n 6) (ja_cons (je_tup (ja_cons (je_tup (ja_cons (je_sub hK (je_n 2) (je_call C.c__law_mixed hr tk (ja_cons (je_n 0) (ja_cons (je_op (op_addZ hK) (je_n 1) je_int) (ja_cons je_int ja_nil))))) (ja_cons (je_callTy c_tuple T.b_tuple (by decide +kernel) (jh_cons (je_slice (je_n 4) jo0 (jo1 je_int)) jh_nil)) ja_nil))) ja_nil)) ja_nil))) ja_nil)))) jb_nil)
    (jb_one (js_ret (je_sub hK (je_n 7) (je_call C.c__law_mixed hr tk (ja_cons (je_n 0) (ja_cons (je_op (op_addZ hK) (je_n 1) je_int) (ja_cons (je_callB (c_len hK) T.b_len (by decide +kernel) (jh_cons (je_n 7) jh_nil)) ja_nil)))))))))))))
theorem sc__law_book : FnScope ["script", "at", "words", "most", "made", "k", "here", "pattern", "name"] ["script", "at", "words", "most"] (defScope (top 55)) := ⟨rfl, rfl, rfl, by decide +kernel, rfl, by decide +kernel, by decide +kernel⟩
theorem d__law_book (hK : g.K = K) (T : Tx P w K mg base g S fw fdw) (C : Cs P w K mg base g k Φ) {f : Addr} (cdv : Value) (A : Around) (outer : List Env) (s : Shared) (H : Hp) (E : XK) (hr : Room k (A.deeper (envOfC "_law_book" (defScope (top 55)) s.heap.objs.size f cdv))) (h1 : 1 ≤ k) :
    JB g (cxZ P w K mg base ["script", "at", "words", "most", "made", "k", "here", "pattern", "name"] "_law_book" (defScope (top 55)) f cdv A outer s H E) (wE E) (defBody (top 55)) (b__law_book Φ) := by
  have nd := (sc__law_book).nd
  have hu := Room.u191 hr
  have hu1 := hu_of hr
  have tk : L2N.Takes (cxZ P w K mg base ["script", "at", "words", "most", "made", "k", "here", "pattern", "name"] "_law_book" (defScope (top 55)) f cdv A outer s H E) (wE E) := L2N.takes_of rfl rfl rfl rfl
  have hp : PassesOwn (model P w) (cxZ P w K mg base ["script", "at", "words", "most", "made", "k", "here", "pattern", "name"] "_law_book" (defScope (top 55)) f cdv A outer s H E).A (cxZ P w K mg base ["script", "at", "words", "most", "made", "k", "here", "pattern", "name"] "_law_book" (defScope (top 55)) f cdv A outer s H E).env (cxZ P w K mg base ["script", "at", "words", "most", "made", "k", "here", "pattern", "name"] "_law_book" (defScope (top 55)) f cdv A outer s H E).xe := passes_of (X := (cxZ P w K mg base ["script", "at", "words", "most", "made", "k", "here", "pattern", "name"] "_law_book" (defScope (top 55)) f cdv A outer s H E)) rfl
  exact (jb_cons (js_asg (i := 4) nd je_dnew)
    (jb_cons (js_for hp rfl (ji_r1 T.b_range (jh_cons (je_call C.c__law_mixed hr tk (ja_cons (je_n 0) (ja_cons (je_n 1) (ja_cons (je_op (op_addZ hK) (je_n 3) je_int) ja_nil)))) jh_nil)) (jg_n 5 nd) (jb_cons (js_asg (i := 6) nd (je_op (op_addZ hK) (je_n 1) (je_op op_mulZ je_int (je_op (op_addZ hK) (je_n 5) je_int))))
    (jb_cons (js_asg (i := 7) nd (je_call C.c__law_pattern hr tk (ja_cons (je_n 0) (ja_cons (je_n 6) (ja_cons (je_n 2) ja_nil)))))
    (jb_one (js_dput 4 hu1 (je_call C.c__law_word hr tk (ja_cons (je_n 0) (ja_cons (je_op (op_addZ hK) (je_n 6) je_int) ja_nil))) (je_tup (ja_cons (je_n 7) (ja_cons (je_call C.c__law_mend hr tk (ja_cons (je_n 0) (ja_cons (je_op (op_addZ hK) (je_n 6) je_int) (ja_cons (je_n 2) (ja_cons (je_n 7) ja_nil))))) ja_nil))))))))
    (jb_one (js_ret (je_callTy c_tuple T.b_tuple (by decide +kernel) (jh_cons (je_comp rfl nd (ji_l hK (je_callB (c_sorted hK hu) T.b_sorted (by decide +kernel) (jh_cons (je_callTy (c_listK rfl) T.b_list (by decide +kernel) (jh_cons (je_n 4) jh_nil)) jh_nil))) (own := [("name", 8)]) ⟨blkOk_by (N := ["script", "at", "words", "most", "made", "k", "here", "pattern", "name"]) (sc := defScope (top 55)) (by decide +kernel), by decide, fun _ _ _ _ _ => (jg_n 8 nd), fun _ _ _ _ _ => jts_nil, fun _ _ _ _ _ => (je_op (op_addZ hK) (je_tup (ja_cons (je_n 8) ja_nil)) (je_dget hu1 (je_n 4) (je_n 8)))⟩) jh_nil))))))
theorem sc__law_filled : FnScope ["pattern", "found", "part"] ["pattern", "found"] (defScope (top 56)) := ⟨rfl, rfl, rfl, by decide +kernel, rfl, by decide +kernel, by decide +kernel⟩
theorem d__law_filled (hK : g.K = K) (T : Tx P w K mg base g S fw fdw) (C : Cs P w K mg base g k Φ) {f : Addr} (cdv : Value) (A : Around) (outer : List Env) (s : Shared) (H : Hp) (E : XK) (hr : Room k (A.deeper (envOfC "_law_filled" (defScope (top 56)) s.heap.objs.size f cdv))) (h1 : 1 ≤ k) :
    JB g (cxZ P w K mg base ["pattern", "found", "part"] "_law_filled" (defScope (top 56)) f cdv A outer s H E) (wE E) (defBody (top 56)) (b__law_filled Φ) := by
  have nd := (sc__law_filled).nd
  have hu := Room.u191 hr
  have hu1 := hu_of hr
  have tk : L2N.Takes (cxZ P w K mg base ["pattern", "found", "part"] "_law_filled" (defScope (top 56)) f cdv A outer s H E) (wE E) := L2N.takes_of rfl rfl rfl rfl
  have hp : PassesOwn (model P w) (cxZ P w K mg base ["pattern", "found", "part"] "_law_filled" (defScope (top 56)) f cdv A outer s H E).A (cxZ P w K mg base ["pattern", "found", "part"] "_law_filled" (defScope (top 56)) f cdv A outer s H E).env (cxZ P w K mg base ["pattern", "found", "part"] "_law_filled" (defScope (top 56)) f cdv A outer s H E).xe := passes_of (X := (cxZ P w K mg base ["pattern", "found", "part"] "_law_filled" (defScope (top 56)) f cdv A outer s H E)) rfl
  exact (jb_cons (js_if (jt_val (je_isi .tint (je_n 0) T.b_isinstance T.b_int (by decide +kernel))) (jb_one (js_ret (je_dget hu1 (je_n 1) (je_n 0)))) jb_nil)
    (jb_one (js_ret (je_tup (ja_cons (je_sub hK (je_n 0) je_int) (ja_cons (je_callTy c_tuple T.b_tuple (by decide +kernel) (jh_cons (je_comp rfl nd (ji_t hK (je_sub hK (je_n 0) je_int)) (own := [("part", 2)]) ⟨blkOk_by (N := ["pattern", "found", "part"]) (sc := defScope (top 56)) (by decide +kernel), by decide, fun _ _ _ _ _ => (jg_n 2 nd), fun _ _ _ _ _ => jts_nil, fun _ _ _ _ _ => (je_call C.c__law_filled hr takesW0 (ja_cons (je_n 2) (ja_cons (je_n 1) ja_nil)))⟩) jh_nil)) ja_nil))))))
theorem sc__law_tree : FnScope ["script", "at", "words", "book", "levels", "kind", "many", "parts", "less", "found", "k"] ["script", "at", "words", "book", "levels"] (defScope (top 57)) := ⟨rfl, rfl, rfl, by decide +kernel, rfl, by decide +kernel, by decide +kernel⟩
theorem d__law_tree (hK : g.K = K) (T : Tx P w K mg base g S fw fdw) (C : Cs P w K mg base g k Φ) {f : Addr} (cdv : Value) (A : Around) (outer : List Env) (s : Shared) (H : Hp) (E : XK) (hr : Room k (A.deeper (envOfC "_law_tree" (defScope (top 57)) s.heap.objs.size f cdv))) (h1 : 1 ≤ k) :
    JB g (cxZ P w K mg base ["script", "at", "words", "book", "levels", "kind", "many", "parts", "less", "found", "k"] "_law_tree" (defScope (top 57)) f cdv A outer s H E) (wE E) (defBody (top 57)) (b__law_tree Φ) := by
  have nd := (sc__law_tree).nd
  have hu := Room.u191 hr
  have hu1 := hu_of hr
  have tk : L2N.Takes (cxZ P w K mg base ["script", "at", "words", "book", "levels", "kind", "many", "parts", "less", "found", "k"] "_law_tree" (defScope (top 57)) f cdv A outer s H E) (wE E) := L2N.takes_of rfl rfl rfl rfl
  have hp : PassesOwn (model P w) (cxZ P w K mg base ["script", "at", "words", "book", "levels", "kind", "many", "parts", "less", "found", "k"] "_law_tree" (defScope (top 57)) f cdv A outer s H E).A (cxZ P w K mg base ["script", "at", "words", "book", "levels", "kind", "many", "parts", "less", "found", "k"] "_law_tree" (defScope (top 57)) f cdv A outer s H E).env (cxZ P w K mg base ["script", "at", "words", "book", "levels", "kind", "many", "parts", "less", "found", "k"] "_law_tree" (defScope (top 57)) f cdv A outer s H E).xe := passes_of (X := (cxZ P w K mg base ["script", "at", "words", "book", "levels", "kind", "many", "parts", "less", "found", "k"] "_law_tree" (defScope (top 57)) f cdv A outer s H E)) rfl
  exact (jb_cons (js_if (jt_cmp (op_eqZ hK hu) (je_n 4) je_int (nomark _)) (jb_one (js_ret (je_tup (ja_cons (je_sub hK (je_n 2) (je_call C.c__law_mixed hr tk (ja_cons (je_n 0) (ja_cons (je_n 1) (ja_cons je_int ja_nil))))) (ja_cons (je_tup ja_nil) ja_nil))))) jb_nil)
    (jb_cons (js_asg (i := 5) nd (je_call C.c__law_mixed hr tk (ja_cons (je_n 0) (ja_cons (je_n 1) (ja_cons je_int ja_nil)))))
    (jb_cons (js_if (jt_cmp (op_eqZ hK hu) (je_n 5) je_int (nomark _)) (jb_one (js_ret (je_tup (ja_cons je_str (ja_cons (je_tup (ja_cons (je_call C.c__law_tree hr tk (ja_cons (je_n 0) (ja_cons (je_op (op_addZ hK) (je_op op_mulZ je_int (je_n 1)) je_int) (ja_cons (je_n 2) (ja_cons (je_n 3) (ja_cons (je_op op_subZ (je_n 4) je_int) ja_nil)))))) ja_nil)) ja_nil))))) jb_nil)
    (jb_cons (js_if (jt_w (jw_and (jt_cmp op_ltZ (je_n 5) je_int (nomark _)) (jw_and1 (jt_cmp (op_neZ hK hu) (je_n 3) (je_tup ja_nil) (nomark _))))) (jb_cons (js_asg (i := 8) nd (je_callB (c_max rfl) T.b_max (by decide +kernel) (jh_cons je_int (jh_cons (je_op op_subZ (je_n 4) je_int) jh_nil))))
    (jb_cons (js_asg (i := 9) nd je_dnew)
    (jb_cons (js_for hp rfl (ji_r1 T.b_range (jh_cons je_int jh_nil)) (jg_n 10 nd) (jb_one (js_dput 9 hu1 (je_n 10) (je_call C.c__law_tree hr tk (ja_cons (je_n 0) (ja_cons (je_op (op_addZ hK) (je_op (op_addZ hK) (je_op op_mulZ je_int (je_n 1)) je_int) (je_n 10)) (ja_cons (je_n 2) (ja_cons (je_n 3) (ja_cons (je_n 8) ja_nil)))))))))
    (jb_one (js_ret (je_call C.c__law_filled hr tk (ja_cons (je_sub hK (je_sub hK (je_n 3) (je_call C.c__law_mixed hr tk (ja_cons (je_n 0) (ja_cons (je_op (op_addZ hK) (je_n 1) je_int) (ja_cons (je_callB (c_len hK) T.b_len (by decide +kernel) (jh_cons (je_n 3) jh_nil)) ja_nil))))) je_int) (ja_cons (je_n 9) ja_nil)))))))) jb_nil)
    (jb_cons (js_asg (i := 6) nd (je_sub hK (je_lst (ja_cons je_int (ja_cons je_int (ja_cons je_int (ja_cons je_int (ja_cons (je_sub hK (je_lst (ja_cons je_int (ja_cons je_int ja_nil))) (je_callTy c_int T.b_int (by decide +kernel) (jh_cons (je_cmp (op_eqZ hK hu) (je_n 4) je_int (nomark _)) jh_nil))) (ja_cons je_int ja_nil))))))) (je_call C.c__law_mixed hr tk (ja_cons (je_n 0) (ja_cons (je_op (op_addZ hK) (je_n 1) je_int) (ja_cons je_int ja_nil))))))
    (jb_cons (js_asgC (i := 7) rfl nd (sw_true rfl rfl rfl (by decide +kernel)) (ji_r1 T.b_range (jh_cons (je_n 6) jh_nil)) (own := [("k", 10)]) ⟨blkOk_by (N := ["script", "at", "words", "book", "levels", "kind", "many", "parts", "less", "found", "k"]) (sc := defScope (top 57)) (by decide +kernel), by decide, fun _ _ _ _ _ => (jg_n 10 nd), fun _ _ _ _ _ => jts_nil, fun _ _ _ _ _ => (je_call C.c__law_tree hr takesW0 (ja_cons (je_n 0) (ja_cons (je_op (op_addZ hK) (je_op (op_addZ hK) (je_op op_mulZ je_int (je_n 1)) je_int) (je_n 10)) (ja_cons (je_n 2) (ja_cons (je_n 3) (ja_cons (je_op op_subZ (je_n 4) je_int) ja_nil))))))⟩)
    (jb_one (js_ret (je_tup (ja_cons (je_sub hK (je_n 2) (je_call C.c__law_mixed hr tk (ja_cons (je_n 0) (ja_cons (je_op (op_addZ hK) (je_n 1) je_int) (ja_cons je_int ja_nil))))) (ja_cons (je_callTy c_tuple T.b_tuple (by decide +kernel) (jh_cons (je_n 7) jh_nil)) ja_nil)))))))))))
theorem sc__law_case : FnScope ["script", "most", "levels", "words", "book"] ["script", "most", "levels"] (defScope (top 58)) := ⟨rfl, rfl, rfl, by decide +kernel, rfl, by decide +kernel, by decide +kernel⟩
theorem d__law_case (hK : g.K = K) (T : Tx P w K mg base g S fw fdw) (C : Cs P w K mg base g k Φ) {f : Addr} (cdv : Value) (A : Around) (outer : List Env) (s : Shared) (H : Hp) (E : XK) (hr : Room k (A.deeper (envOfC "_law_case" (defScope (top 58)) s.heap.objs.size f cdv))) (h1 : 1 ≤ k) :
    JB g (cxZ P w K mg base ["script", "most", "levels", "words", "book"] "_law_case" (defScope (top 58)) f cdv A outer s H E) (wE E) (defBody (top 58)) (b__law_case Φ) := by
  have nd := (sc__law_case).nd
  have hu := Room.u191 hr
  have hu1 := hu_of hr
  have tk : L2N.Takes (cxZ P w K mg base ["script", "most", "levels", "words", "book"] "_law_case" (defScope (top 58)) f cdv A outer s H E) (wE E) := L2N.takes_of rfl rfl rfl rfl
  have hp : PassesOwn (model P w) (cxZ P w K mg base ["script", "most", "levels", "words", "book"] "_law_case" (defScope (top 58)) f cdv A outer s H E).A (cxZ P w K mg base ["script", "most", "levels", "words", "book"] "_law_case" (defScope (top 58)) f cdv A outer s H E).env (cxZ P w K mg base ["script", "most", "levels", "words", "book"] "_law_case" (defScope (top 58)) f cdv A outer s H E).xe := passes_of (X := (cxZ P w K mg base ["script", "most", "levels", "words", "book"] "_law_case" (defScope (top 58)) f cdv A outer s H E)) rfl
  exact (jb_cons (js_asg (i := 3) nd (je_call C.c__law_words hr tk (ja_cons (je_n 0) (ja_cons je_int ja_nil))))
    (jb_cons (js_asg (i := 4) nd (je_call C.c__law_book hr tk (ja_cons (je_n 0) (ja_cons je_int (ja_cons (je_n 3) (ja_cons (je_n 1) ja_nil))))))
    (jb_one (js_ret (je_tup (ja_cons (je_n 3) (ja_cons (je_n 4) (ja_cons (je_call C.c__law_tree hr tk (ja_cons (je_n 0) (ja_cons je_int (ja_cons (je_n 3) (ja_cons (je_n 4) (ja_cons (je_n 2) ja_nil)))))) ja_nil))))))))
theorem sc_law : FnScope ["script", "found", "place", "words", "book", "tree", "part", "inside", "finding", "made", "one", "name"] ["script"] (defScope (top 59)) := ⟨rfl, rfl, rfl, by decide +kernel, rfl, by decide +kernel, by decide +kernel⟩
theorem d_law (hK : g.K = K) (T : Tx P w K mg base g S fw fdw) (C : Cs P w K mg base g k Φ) {f : Addr} (cdv : Value) (A : Around) (outer : List Env) (s : Shared) (H : Hp) (E : XK) (hr : Room k (A.deeper (envOfC "law" (defScope (top 59)) s.heap.objs.size f cdv))) (h1 : 1 ≤ k) :
    JB g (cxZ P w K mg base ["script", "found", "place", "words", "book", "tree", "part", "inside", "finding", "made", "one", "name"] "law" (defScope (top 59)) f cdv A outer s H E) (wE E) (defBody (top 59)) (b_law_k20 Φ) := by
  have nd := (sc_law).nd
  have hu := Room.u191 hr
  have hu1 := hu_of hr
  have tk : L2N.Takes (cxZ P w K mg base ["script", "found", "place", "words", "book", "tree", "part", "inside", "finding", "made", "one", "name"] "law" (defScope (top 59)) f cdv A outer s H E) (wE E) := L2N.takes_of rfl rfl rfl rfl
  have hp : PassesOwn (model P w) (cxZ P w K mg base ["script", "found", "place", "words", "book", "tree", "part", "inside", "finding", "made", "one", "name"] "law" (defScope (top 59)) f cdv A outer s H E).A (cxZ P w K mg base ["script", "found", "place", "words", "book", "tree", "part", "inside", "finding", "made", "one", "name"] "law" (defScope (top 59)) f cdv A outer s H E).env (cxZ P w K mg base ["script", "found", "place", "words", "book", "tree", "part", "inside", "finding", "made", "one", "name"] "law" (defScope (top 59)) f cdv A outer s H E).xe := passes_of (X := (cxZ P w K mg base ["script", "found", "place", "words", "book", "tree", "part", "inside", "finding", "made", "one", "name"] "law" (defScope (top 59)) f cdv A outer s H E)) rfl
  exact (jb_cons (js_asgT (jg_t rfl (jgs_cons (jg_n 3 nd) (jgs_cons (jg_n 4 nd) (jgs_cons (jg_n 5 nd) jgs_nil)))) (je_call C.c__law_case hr tk (ja_cons (je_n 0) (ja_cons je_int (ja_cons je_int ja_nil)))))
    (jb_cons (js_asg (i := 1) nd (je_call C.c_findings hr tk (ja_cons (je_n 4) (ja_cons (je_n 5) ja_nil))))
    (jb_cons (js_for hp rfl (ji_l hK (je_slice (je_call C.c_loud_places hr tk (ja_cons (je_n 5) ja_nil)) jo0 (jo1 je_int))) (jg_n 2 nd) (jb_cons (js_asg (i := 6) nd (je_call C.c_part_at hr tk (ja_cons (je_n 5) (ja_cons (je_n 2) ja_nil))))
    (jb_cons (js_asgCN (i := 7) 1 hK rfl nd (sw_true rfl rfl rfl (by decide +kernel)) (own := [("one", 10), ("name", 11)]) ⟨blkOk_by (N := ["script", "found", "place", "words", "book", "tree", "part", "inside", "finding", "made", "one", "name"]) (sc := defScope (top 59)) (by decide +kernel), by decide, fun _ _ _ _ _ => (jg_t rfl (jgs_cons (jg_n 10 nd) (jgs_cons (jg_n 11 nd) jgs_nil))), fun _ _ _ _ _ => (jts_one (jt_cmp (op_eqZ hK hu) (je_slice (je_n 10) jo0 (jo1 (je_callB (c_len hK) T.b_len (by decide +kernel) (jh_cons (je_n 2) jh_nil)))) (je_n 2) (nomark _))), fun _ _ _ _ _ => (je_tup (ja_cons (je_slice (je_n 10) (jo1 (je_callB (c_len hK) T.b_len (by decide +kernel) (jh_cons (je_n 2) jh_nil))) jo0) (ja_cons (je_n 11) ja_nil)))⟩)
    (jb_cons (js_if (jt_cmp (op_neZ hK hu) (je_call C.c_findings hr tk (ja_cons (je_n 4) (ja_cons (je_n 6) ja_nil))) (je_n 7) (nomark _)) (jb_one (js_ret je_bl)) jb_nil)
    (jb_one (js_for hp rfl (ji_l hK (je_slice (je_n 7) jo0 (jo1 je_int))) (jg_n 8 nd) (jb_cons (js_asg (i := 9) nd (je_call C.c_mend_at hr tk (ja_cons (je_n 4) (ja_cons (je_n 5) (ja_cons (je_tup (ja_cons (je_op (op_addZ hK) (je_n 2) (je_sub hK (je_n 8) je_int)) (ja_cons (je_sub hK (je_n 8) je_int) ja_nil))) ja_nil)))))
    (jb_one (js_if (jt_cmp (op_neZ hK hu) (je_call C.c_put_at hr tk (ja_cons (je_n 5) (ja_cons (je_n 2) (ja_cons (je_call C.c_mend_at hr tk (ja_cons (je_n 4) (ja_cons (je_n 6) (ja_cons (je_n 8) ja_nil)))) ja_nil)))) (je_n 9) (nomark _)) (jb_one (js_ret je_bl)) jb_nil)))))))))
    (jb_one (js_ret je_bl)))))
theorem ok_is_word (hK : g.K = K) (T : Tx P w K mg base g S fw fdw) (C : Cs P w K mg base g k Φ) (h1 : 1 ≤ k) {f : Addr} {fd : FuncData} (F : FunD K "is_word" "is_word" (defArgs (top 13)) (defBody (top 13)) (defScope (top 13)) [] [] f fd) : FnOk P w K mg base (L2N.CX P w) (k + 1) f fd ["thing"] (spF g (runF c_is_word Φ)) :=
  fn_ok F sc_is_word rfl rfl rfl fun cdv A outer s H E hr => d_is_word hK T C cdv A outer s H E hr h1
theorem ok_is_node (hK : g.K = K) (T : Tx P w K mg base g S fw fdw) (C : Cs P w K mg base g k Φ) (h1 : 1 ≤ k) {f : Addr} {fd : FuncData} (F : FunD K "is_node" "is_node" (defArgs (top 14)) (defBody (top 14)) (defScope (top 14)) [] [] f fd) : FnOk P w K mg base (L2N.CX P w) (k + 1) f fd ["thing"] (spF g (runF c_is_node Φ)) :=
  fn_ok F sc_is_node rfl rfl rfl fun cdv A outer s H E hr => d_is_node hK T C cdv A outer s H E hr h1
theorem ok_is_tree (hK : g.K = K) (T : Tx P w K mg base g S fw fdw) (C : Cs P w K mg base g k Φ) (h1 : 1 ≤ k) {f : Addr} {fd : FuncData} (F : FunD K "is_tree" "is_tree" (defArgs (top 15)) (defBody (top 15)) (defScope (top 15)) [] [] f fd) : FnOk P w K mg base (L2N.CX P w) (k + 1) f fd ["thing"] (spF g (runF c_is_tree Φ)) :=
  fn_ok F sc_is_tree rfl rfl rfl fun cdv A outer s H E hr => d_is_tree hK T C cdv A outer s H E hr h1
theorem ok_need_tree (hK : g.K = K) (T : Tx P w K mg base g S fw fdw) (C : Cs P w K mg base g k Φ) (h1 : 1 ≤ k) {f : Addr} {fd : FuncData} (F : FunD K "need_tree" "need_tree" (defArgs (top 16)) (defBody (top 16)) (defScope (top 16)) [] [] f fd) : FnOk P w K mg base (L2N.CX P w) (k + 1) f fd ["tree"] (spF g (runF c_need_tree Φ)) :=
  fn_ok F sc_need_tree rfl rfl rfl fun cdv A outer s H E hr => d_need_tree hK T C cdv A outer s H E hr h1
theorem ok_found_at (hK : g.K = K) (T : Tx P w K mg base g S fw fdw) (C : Cs P w K mg base g k Φ) (h1 : 1 ≤ k) {f : Addr} {fd : FuncData} (F : FunD K "found_at" "found_at" (defArgs (top 17)) (defBody (top 17)) (defScope (top 17)) [] [] f fd) : FnOk P w K mg base (L2N.CX P w) (k + 1) f fd ["tree", "place"] (spF g (runF c_found_at Φ)) :=
  fn_ok F sc_found_at rfl rfl rfl fun cdv A outer s H E hr => d_found_at hK T C cdv A outer s H E hr h1
theorem ok_need_place (hK : g.K = K) (T : Tx P w K mg base g S fw fdw) (C : Cs P w K mg base g k Φ) (h1 : 1 ≤ k) {f : Addr} {fd : FuncData} (F : FunD K "need_place" "need_place" (defArgs (top 18)) (defBody (top 18)) (defScope (top 18)) [] [] f fd) : FnOk P w K mg base (L2N.CX P w) (k + 1) f fd ["tree", "place"] (spF g (runF c_need_place Φ)) :=
  fn_ok F sc_need_place rfl rfl rfl fun cdv A outer s H E hr => d_need_place hK T C cdv A outer s H E hr h1
theorem ok_part_at (hK : g.K = K) (T : Tx P w K mg base g S fw fdw) (C : Cs P w K mg base g k Φ) (h1 : 1 ≤ k) {f : Addr} {fd : FuncData} (F : FunD K "part_at" "part_at" (defArgs (top 19)) (defBody (top 19)) (defScope (top 19)) [] [] f fd) : FnOk P w K mg base (L2N.CX P w) (k + 1) f fd ["tree", "place"] (spF g (runF c_part_at Φ)) :=
  fn_ok F sc_part_at rfl rfl rfl fun cdv A outer s H E hr => d_part_at hK T C cdv A outer s H E hr h1
theorem ok_put_in (hK : g.K = K) (T : Tx P w K mg base g S fw fdw) (C : Cs P w K mg base g k Φ) (h1 : 1 ≤ k) {f : Addr} {fd : FuncData} (F : FunD K "put_in" "put_in" (defArgs (top 20)) (defBody (top 20)) (defScope (top 20)) [] [] f fd) : FnOk P w K mg base (L2N.CX P w) (k + 1) f fd ["tree", "place", "part"] (spF g (runF c_put_in Φ)) :=
  fn_ok F sc_put_in rfl rfl rfl fun cdv A outer s H E hr => d_put_in hK T C cdv A outer s H E hr h1
theorem ok_put_at (hK : g.K = K) (T : Tx P w K mg base g S fw fdw) (C : Cs P w K mg base g k Φ) (h1 : 1 ≤ k) {f : Addr} {fd : FuncData} (F : FunD K "put_at" "put_at" (defArgs (top 21)) (defBody (top 21)) (defScope (top 21)) [] [] f fd) : FnOk P w K mg base (L2N.CX P w) (k + 1) f fd ["tree", "place", "part"] (spF g (runF c_put_at Φ)) :=
  fn_ok F sc_put_at rfl rfl rfl fun cdv A outer s H E hr => d_put_at hK T C cdv A outer s H E hr h1
theorem ok_places_from (hK : g.K = K) (T : Tx P w K mg base g S fw fdw) (C : Cs P w K mg base g k Φ) (h1 : 1 ≤ k) {f : Addr} {fd : FuncData} (F : FunD K "places_from" "places_from" (defArgs (top 22)) (defBody (top 22)) (defScope (top 22)) [] [] f fd) : FnOk P w K mg base (L2N.CX P w) (k + 1) f fd ["tree", "place", "loud"] (spF g (runF c_places_from Φ)) :=
  fn_ok F sc_places_from rfl rfl rfl fun cdv A outer s H E hr => d_places_from hK T C cdv A outer s H E hr h1
theorem ok_loud_places (hK : g.K = K) (T : Tx P w K mg base g S fw fdw) (C : Cs P w K mg base g k Φ) (h1 : 1 ≤ k) {f : Addr} {fd : FuncData} (F : FunD K "loud_places" "loud_places" (defArgs (top 23)) (defBody (top 23)) (defScope (top 23)) [] [] f fd) : FnOk P w K mg base (L2N.CX P w) (k + 1) f fd ["tree"] (spF g (runF c_loud_places Φ)) :=
  fn_ok F sc_loud_places rfl rfl rfl fun cdv A outer s H E hr => d_loud_places hK T C cdv A outer s H E hr h1
theorem ok_is_hole (hK : g.K = K) (T : Tx P w K mg base g S fw fdw) (C : Cs P w K mg base g k Φ) (h1 : 1 ≤ k) {f : Addr} {fd : FuncData} (F : FunD K "is_hole" "is_hole" (defArgs (top 28)) (defBody (top 28)) (defScope (top 28)) [] [] f fd) : FnOk P w K mg base (L2N.CX P w) (k + 1) f fd ["thing"] (spF g (runF c_is_hole Φ)) :=
  fn_ok F sc_is_hole rfl rfl rfl fun cdv A outer s H E hr => d_is_hole hK T C cdv A outer s H E hr h1
theorem ok_is_pattern (hK : g.K = K) (T : Tx P w K mg base g S fw fdw) (C : Cs P w K mg base g k Φ) (h1 : 1 ≤ k) {f : Addr} {fd : FuncData} (F : FunD K "is_pattern" "is_pattern" (defArgs (top 29)) (defBody (top 29)) (defScope (top 29)) [] [] f fd) : FnOk P w K mg base (L2N.CX P w) (k + 1) f fd ["thing"] (spF g (runF c_is_pattern Φ)) :=
  fn_ok F sc_is_pattern rfl rfl rfl fun cdv A outer s H E hr => d_is_pattern hK T C cdv A outer s H E hr h1
theorem ok_holes_in (hK : g.K = K) (T : Tx P w K mg base g S fw fdw) (C : Cs P w K mg base g k Φ) (h1 : 1 ≤ k) {f : Addr} {fd : FuncData} (F : FunD K "holes_in" "holes_in" (defArgs (top 30)) (defBody (top 30)) (defScope (top 30)) [] [] f fd) : FnOk P w K mg base (L2N.CX P w) (k + 1) f fd ["pattern"] (spF g (runF c_holes_in Φ)) :=
  fn_ok F sc_holes_in rfl rfl rfl fun cdv A outer s H E hr => d_holes_in hK T C cdv A outer s H E hr h1
theorem ok_words_in (hK : g.K = K) (T : Tx P w K mg base g S fw fdw) (C : Cs P w K mg base g k Φ) (h1 : 1 ≤ k) {f : Addr} {fd : FuncData} (F : FunD K "words_in" "words_in" (defArgs (top 31)) (defBody (top 31)) (defScope (top 31)) [] [] f fd) : FnOk P w K mg base (L2N.CX P w) (k + 1) f fd ["pattern"] (spF g (runF c_words_in Φ)) :=
  fn_ok F sc_words_in rfl rfl rfl fun cdv A outer s H E hr => d_words_in hK T C cdv A outer s H E hr h1
theorem ok_is_rule (hK : g.K = K) (T : Tx P w K mg base g S fw fdw) (C : Cs P w K mg base g k Φ) (h1 : 1 ≤ k) {f : Addr} {fd : FuncData} (F : FunD K "is_rule" "is_rule" (defArgs (top 32)) (defBody (top 32)) (defScope (top 32)) [] [] f fd) : FnOk P w K mg base (L2N.CX P w) (k + 1) f fd ["thing"] (spF g (runF c_is_rule Φ)) :=
  fn_ok F sc_is_rule rfl rfl rfl fun cdv A outer s H E hr => d_is_rule hK T C cdv A outer s H E hr h1
theorem ok_is_book (hK : g.K = K) (T : Tx P w K mg base g S fw fdw) (C : Cs P w K mg base g k Φ) (h1 : 1 ≤ k) {f : Addr} {fd : FuncData} (F : FunD K "is_book" "is_book" (defArgs (top 33)) (defBody (top 33)) (defScope (top 33)) [] [] f fd) : FnOk P w K mg base (L2N.CX P w) (k + 1) f fd ["thing"] (spF g (runF c_is_book Φ)) :=
  fn_ok F sc_is_book rfl rfl rfl fun cdv A outer s H E hr => d_is_book hK T C cdv A outer s H E hr h1
theorem ok_need_book (hK : g.K = K) (T : Tx P w K mg base g S fw fdw) (C : Cs P w K mg base g k Φ) (h1 : 1 ≤ k) {f : Addr} {fd : FuncData} (F : FunD K "need_book" "need_book" (defArgs (top 34)) (defBody (top 34)) (defScope (top 34)) [] [] f fd) : FnOk P w K mg base (L2N.CX P w) (k + 1) f fd ["book"] (spF g (runF c_need_book Φ)) :=
  fn_ok F sc_need_book rfl rfl rfl fun cdv A outer s H E hr => d_need_book hK T C cdv A outer s H E hr h1
theorem ok_fits (hK : g.K = K) (T : Tx P w K mg base g S fw fdw) (C : Cs P w K mg base g k Φ) (h1 : 1 ≤ k) {f : Addr} {fd : FuncData} (F : FunD K "fits" "fits" (defArgs (top 35)) (defBody (top 35)) (defScope (top 35)) [] [] f fd) : FnOk P w K mg base (L2N.CX P w) (k + 1) f fd ["pattern", "tree", "found"] (spI g (runF c_fits Φ)) :=
  fn_okI F sc_fits rfl rfl rfl (by decide) fun cdv A outer s H E hr => d_fits hK T C cdv A outer s H E hr h1
theorem ok_filled (hK : g.K = K) (T : Tx P w K mg base g S fw fdw) (C : Cs P w K mg base g k Φ) (h1 : 1 ≤ k) {f : Addr} {fd : FuncData} (F : FunD K "filled" "filled" (defArgs (top 36)) (defBody (top 36)) (defScope (top 36)) [] [] f fd) : FnOk P w K mg base (L2N.CX P w) (k + 1) f fd ["pattern", "found"] (spF g (runF c_filled Φ)) :=
  fn_ok F sc_filled rfl rfl rfl fun cdv A outer s H E hr => d_filled hK T C cdv A outer s H E hr h1
theorem ok_mended (hK : g.K = K) (T : Tx P w K mg base g S fw fdw) (C : Cs P w K mg base g k Φ) (h1 : 1 ≤ k) {f : Addr} {fd : FuncData} (F : FunD K "mended" "mended" (defArgs (top 37)) (defBody (top 37)) (defScope (top 37)) [] [] f fd) : FnOk P w K mg base (L2N.CX P w) (k + 1) f fd ["rule", "tree"] (spF g (runF c_mended Φ)) :=
  fn_ok F sc_mended rfl rfl rfl fun cdv A outer s H E hr => d_mended hK T C cdv A outer s H E hr h1
theorem ok_findings_at (hK : g.K = K) (T : Tx P w K mg base g S fw fdw) (C : Cs P w K mg base g k Φ) (h1 : 1 ≤ k) {f : Addr} {fd : FuncData} (F : FunD K "findings_at" "findings_at" (defArgs (top 39)) (defBody (top 39)) (defScope (top 39)) [] [] f fd) : FnOk P w K mg base (L2N.CX P w) (k + 1) f fd ["book", "tree", "places"] (spF g (runF c_findings_at Φ)) :=
  fn_ok F sc_findings_at rfl rfl rfl fun cdv A outer s H E hr => d_findings_at hK T C cdv A outer s H E hr h1
theorem ok_all_findings (hK : g.K = K) (T : Tx P w K mg base g S fw fdw) (C : Cs P w K mg base g k Φ) (h1 : 1 ≤ k) {f : Addr} {fd : FuncData} (F : FunD K "all_findings" "all_findings" (defArgs (top 40)) (defBody (top 40)) (defScope (top 40)) [] [] f fd) : FnOk P w K mg base (L2N.CX P w) (k + 1) f fd ["book", "tree"] (spF g (runF c_all_findings Φ)) :=
  fn_ok F sc_all_findings rfl rfl rfl fun cdv A outer s H E hr => d_all_findings hK T C cdv A outer s H E hr h1
theorem ok_findings (hK : g.K = K) (T : Tx P w K mg base g S fw fdw) (C : Cs P w K mg base g k Φ) (h1 : 1 ≤ k) {f : Addr} {fd : FuncData} (F : FunD K "findings" "findings" (defArgs (top 41)) (defBody (top 41)) (defScope (top 41)) [] [] f fd) : FnOk P w K mg base (L2N.CX P w) (k + 1) f fd ["book", "tree"] (spF g (runF c_findings Φ)) :=
  fn_ok F sc_findings rfl rfl rfl fun cdv A outer s H E hr => d_findings hK T C cdv A outer s H E hr h1
theorem ok_rule_of (hK : g.K = K) (T : Tx P w K mg base g S fw fdw) (C : Cs P w K mg base g k Φ) (h1 : 1 ≤ k) {f : Addr} {fd : FuncData} (F : FunD K "rule_of" "rule_of" (defArgs (top 42)) (defBody (top 42)) (defScope (top 42)) [] [] f fd) : FnOk P w K mg base (L2N.CX P w) (k + 1) f fd ["book", "name"] (spF g (runF c_rule_of Φ)) :=
  fn_ok F sc_rule_of rfl rfl rfl fun cdv A outer s H E hr => d_rule_of hK T C cdv A outer s H E hr h1
theorem ok_done (hK : g.K = K) (T : Tx P w K mg base g S fw fdw) (C : Cs P w K mg base g k Φ) (h1 : 1 ≤ k) {f : Addr} {fd : FuncData} (F : FunD K "done" "done" (defArgs (top 43)) (defBody (top 43)) (defScope (top 43)) [] [] f fd) : FnOk P w K mg base (L2N.CX P w) (k + 1) f fd ["book", "tree", "finding"] (spF g (runF c_done Φ)) :=
  fn_ok F sc_done rfl rfl rfl fun cdv A outer s H E hr => d_done hK T C cdv A outer s H E hr h1
theorem ok_mend_at (hK : g.K = K) (T : Tx P w K mg base g S fw fdw) (C : Cs P w K mg base g k Φ) (h1 : 1 ≤ k) {f : Addr} {fd : FuncData} (F : FunD K "mend_at" "mend_at" (defArgs (top 44)) (defBody (top 44)) (defScope (top 44)) [] [] f fd) : FnOk P w K mg base (L2N.CX P w) (k + 1) f fd ["book", "tree", "finding"] (spF g (runF c_mend_at Φ)) :=
  fn_ok F sc_mend_at rfl rfl rfl fun cdv A outer s H E hr => d_mend_at hK T C cdv A outer s H E hr h1
theorem ok__law_cell_at (hK : g.K = K) (T : Tx P w K mg base g S fw fdw) (C : Cs P w K mg base g k Φ) (h1 : 1 ≤ k) {f : Addr} {fd : FuncData} (F : FunD K "_law_cell_at" "_law_cell_at" (defArgs (top 46)) (defBody (top 46)) (defScope (top 46)) [] [] f fd) : FnOk P w K mg base (L2N.CX P w) (k + 1) f fd ["script", "k"] (spF g (runF c__law_cell_at Φ)) :=
  fn_ok F sc__law_cell_at rfl rfl rfl fun cdv A outer s H E hr => d__law_cell_at hK T C cdv A outer s H E hr h1
theorem ok__law_mixed (hK : g.K = K) (T : Tx P w K mg base g S fw fdw) (C : Cs P w K mg base g k Φ) (h1 : 1 ≤ k) {f : Addr} {fd : FuncData} (F : FunD K "_law_mixed" "_law_mixed" (defArgs (top 47)) (defBody (top 47)) (defScope (top 47)) [] [] f fd) : FnOk P w K mg base (L2N.CX P w) (k + 1) f fd ["script", "k", "many"] (spF g (runF c__law_mixed Φ)) :=
  fn_ok F sc__law_mixed rfl rfl rfl fun cdv A outer s H E hr => d__law_mixed hK T C cdv A outer s H E hr h1
theorem ok__law_word (hK : g.K = K) (T : Tx P w K mg base g S fw fdw) (C : Cs P w K mg base g k Φ) (h1 : 1 ≤ k) {f : Addr} {fd : FuncData} (F : FunD K "_law_word" "_law_word" (defArgs (top 48)) (defBody (top 48)) (defScope (top 48)) [] [] f fd) : FnOk P w K mg base (L2N.CX P w) (k + 1) f fd ["script", "at"] (spF g (runF c__law_word Φ)) :=
  fn_ok F sc__law_word rfl rfl rfl fun cdv A outer s H E hr => d__law_word hK T C cdv A outer s H E hr h1
theorem ok__law_words (hK : g.K = K) (T : Tx P w K mg base g S fw fdw) (C : Cs P w K mg base g k Φ) (h1 : 1 ≤ k) {f : Addr} {fd : FuncData} (F : FunD K "_law_words" "_law_words" (defArgs (top 49)) (defBody (top 49)) (defScope (top 49)) [] [] f fd) : FnOk P w K mg base (L2N.CX P w) (k + 1) f fd ["script", "at"] (spF g (runF c__law_words Φ)) :=
  fn_ok F sc__law_words rfl rfl rfl fun cdv A outer s H E hr => d__law_words hK T C cdv A outer s H E hr h1
theorem ok__law_part (hK : g.K = K) (T : Tx P w K mg base g S fw fdw) (C : Cs P w K mg base g k Φ) (h1 : 1 ≤ k) {f : Addr} {fd : FuncData} (F : FunD K "_law_part" "_law_part" (defArgs (top 50)) (defBody (top 50)) (defScope (top 50)) [] [] f fd) : FnOk P w K mg base (L2N.CX P w) (k + 1) f fd ["script", "at", "words", "small"] (spF g (runF c__law_part Φ)) :=
  fn_ok F sc__law_part rfl rfl rfl fun cdv A outer s H E hr => d__law_part hK T C cdv A outer s H E hr h1
theorem ok__law_pattern (hK : g.K = K) (T : Tx P w K mg base g S fw fdw) (C : Cs P w K mg base g k Φ) (h1 : 1 ≤ k) {f : Addr} {fd : FuncData} (F : FunD K "_law_pattern" "_law_pattern" (defArgs (top 51)) (defBody (top 51)) (defScope (top 51)) [] [] f fd) : FnOk P w K mg base (L2N.CX P w) (k + 1) f fd ["script", "at", "words"] (spF g (runF c__law_pattern Φ)) :=
  fn_ok F sc__law_pattern rfl rfl rfl fun cdv A outer s H E hr => d__law_pattern hK T C cdv A outer s H E hr h1
theorem ok__law_holes (hK : g.K = K) (T : Tx P w K mg base g S fw fdw) (C : Cs P w K mg base g k Φ) (h1 : 1 ≤ k) {f : Addr} {fd : FuncData} (F : FunD K "_law_holes" "_law_holes" (defArgs (top 52)) (defBody (top 52)) (defScope (top 52)) [] [] f fd) : FnOk P w K mg base (L2N.CX P w) (k + 1) f fd ["pattern"] (spF g (runF c__law_holes Φ)) :=
  fn_ok F sc__law_holes rfl rfl rfl fun cdv A outer s H E hr => d__law_holes hK T C cdv A outer s H E hr h1
theorem ok__law_count (hK : g.K = K) (T : Tx P w K mg base g S fw fdw) (C : Cs P w K mg base g k Φ) (h1 : 1 ≤ k) {f : Addr} {fd : FuncData} (F : FunD K "_law_count" "_law_count" (defArgs (top 53)) (defBody (top 53)) (defScope (top 53)) [] [] f fd) : FnOk P w K mg base (L2N.CX P w) (k + 1) f fd ["pattern"] (spF g (runF c__law_count Φ)) :=
  fn_ok F sc__law_count rfl rfl rfl fun cdv A outer s H E hr => d__law_count hK T C cdv A outer s H E hr h1
theorem ok__law_mend (hK : g.K = K) (T : Tx P w K mg base g S fw fdw) (C : Cs P w K mg base g k Φ) (h1 : 1 ≤ k) {f : Addr} {fd : FuncData} (F : FunD K "_law_mend" "_law_mend" (defArgs (top 54)) (defBody (top 54)) (defScope (top 54)) [] [] f fd) : FnOk P w K mg base (L2N.CX P w) (k + 1) f fd ["script", "at", "words", "pattern"] (spF g (runF c__law_mend Φ)) :=
  fn_ok F sc__law_mend rfl rfl rfl fun cdv A outer s H E hr => d__law_mend hK T C cdv A outer s H E hr h1
theorem ok__law_book (hK : g.K = K) (T : Tx P w K mg base g S fw fdw) (C : Cs P w K mg base g k Φ) (h1 : 1 ≤ k) {f : Addr} {fd : FuncData} (F : FunD K "_law_book" "_law_book" (defArgs (top 55)) (defBody (top 55)) (defScope (top 55)) [] [] f fd) : FnOk P w K mg base (L2N.CX P w) (k + 1) f fd ["script", "at", "words", "most"] (spF g (runF c__law_book Φ)) :=
  fn_ok F sc__law_book rfl rfl rfl fun cdv A outer s H E hr => d__law_book hK T C cdv A outer s H E hr h1
theorem ok__law_filled (hK : g.K = K) (T : Tx P w K mg base g S fw fdw) (C : Cs P w K mg base g k Φ) (h1 : 1 ≤ k) {f : Addr} {fd : FuncData} (F : FunD K "_law_filled" "_law_filled" (defArgs (top 56)) (defBody (top 56)) (defScope (top 56)) [] [] f fd) : FnOk P w K mg base (L2N.CX P w) (k + 1) f fd ["pattern", "found"] (spF g (runF c__law_filled Φ)) :=
  fn_ok F sc__law_filled rfl rfl rfl fun cdv A outer s H E hr => d__law_filled hK T C cdv A outer s H E hr h1
theorem ok__law_tree (hK : g.K = K) (T : Tx P w K mg base g S fw fdw) (C : Cs P w K mg base g k Φ) (h1 : 1 ≤ k) {f : Addr} {fd : FuncData} (F : FunD K "_law_tree" "_law_tree" (defArgs (top 57)) (defBody (top 57)) (defScope (top 57)) [] [] f fd) : FnOk P w K mg base (L2N.CX P w) (k + 1) f fd ["script", "at", "words", "book", "levels"] (spF g (runF c__law_tree Φ)) :=
  fn_ok F sc__law_tree rfl rfl rfl fun cdv A outer s H E hr => d__law_tree hK T C cdv A outer s H E hr h1
theorem ok__law_case (hK : g.K = K) (T : Tx P w K mg base g S fw fdw) (C : Cs P w K mg base g k Φ) (h1 : 1 ≤ k) {f : Addr} {fd : FuncData} (F : FunD K "_law_case" "_law_case" (defArgs (top 58)) (defBody (top 58)) (defScope (top 58)) [] [] f fd) : FnOk P w K mg base (L2N.CX P w) (k + 1) f fd ["script", "most", "levels"] (spF g (runF c__law_case Φ)) :=
  fn_ok F sc__law_case rfl rfl rfl fun cdv A outer s H E hr => d__law_case hK T C cdv A outer s H E hr h1
theorem ok_law (hK : g.K = K) (T : Tx P w K mg base g S fw fdw) (C : Cs P w K mg base g k Φ) (h1 : 1 ≤ k) {f : Addr} {fd : FuncData} (F : FunD K "law" "law" (defArgs (top 59)) (defBody (top 59)) (defScope (top 59)) [] [] f fd) : FnOk P w K mg base (L2N.CX P w) (k + 1) f fd ["script"] (spF g (runF c_law_k20 Φ)) :=
  fn_ok F sc_law rfl rfl rfl fun cdv A outer s H E hr => d_law hK T C cdv A outer s H E hr h1
end
def cNone : CF := ⟨0, 0, false, fun _ _ => .stuck⟩
def tbl : List (Nat × CF) := ([(1, c_is_word), (24, c_is_node), (25, c_is_tree), (26, c_need_tree), (27, c_found_at), (41, c_need_place), (42, c_part_at), (43, c_put_in), (44, c_put_at), (28, c_places_from), (46, c_loud_places), (2, c_is_hole), (3, c_is_pattern), (4, c_holes_in), (5, c_words_in), (6, c_is_rule), (7, c_is_book), (8, c_need_book), (29, c_fits), (30, c_filled), (31, c_mended), (32, c_findings_at), (33, c_all_findings), (34, c_findings), (59, c_rule_of), (60, c_done), (61, c_mend_at), (10, c__law_cell_at), (11, c__law_mixed), (12, c__law_word)] : List (Nat × CF)) ++ ([(13, c__law_words), (14, c__law_part), (15, c__law_pattern), (16, c__law_holes), (17, c__law_count), (18, c__law_mend), (19, c__law_book), (35, c__law_filled), (36, c__law_tree), (37, c__law_case), (86, c_law_k20)] : List (Nat × CF))
def Pg (n : Nat) : CF := (tbl.lookup n).getD cNone
def fnames : List (Nat × Str) := ([(1, "is_word"), (24, "is_node"), (25, "is_tree"), (26, "need_tree"), (27, "found_at"), (41, "need_place"), (42, "part_at"), (43, "put_in"), (44, "put_at"), (28, "places_from"), (46, "loud_places"), (2, "is_hole"), (3, "is_pattern"), (4, "holes_in"), (5, "words_in"), (6, "is_rule"), (7, "is_book"), (8, "need_book"), (29, "fits"), (30, "filled"), (31, "mended"), (32, "findings_at"), (33, "all_findings"), (34, "findings"), (59, "rule_of"), (60, "done"), (61, "mend_at"), (10, "_law_cell_at"), (11, "_law_mixed"), (12, "_law_word")] : List (Nat × Str)) ++ ([(13, "_law_words"), (14, "_law_part"), (15, "_law_pattern"), (16, "_law_holes"), (17, "_law_count"), (18, "_law_mend"), (19, "_law_book"), (35, "_law_filled"), (36, "_law_tree"), (37, "_law_case"), (86, "law")] : List (Nat × Str))
def faK (K : PySem.W.Frag) (n : Nat) : Addr := He.ga K ((fnames.lookup n).getD "law")
abbrev gK (K : PySem.W.Frag) : Gm := ⟨K, faK K, xaK K⟩
def mkD (x : Str) (i : Nat) : He.DefD := ⟨(x, none), x, x, defArgs (top i), defBody (top i), defScope (top i), [], []⟩
def fnD : List He.DefD := ([mkD "is_word" 13, mkD "is_node" 14, mkD "is_tree" 15, mkD "need_tree" 16, mkD "found_at" 17, mkD "need_place" 18, mkD "part_at" 19, mkD "put_in" 20, mkD "put_at" 21, mkD "places_from" 22, mkD "loud_places" 23, mkD "is_hole" 28, mkD "is_pattern" 29, mkD "holes_in" 30, mkD "words_in" 31, mkD "is_rule" 32, mkD "is_book" 33, mkD "need_book" 34, mkD "fits" 35, mkD "filled" 36, mkD "mended" 37, mkD "findings_at" 39, mkD "all_findings" 40, mkD "findings" 41, mkD "rule_of" 42, mkD "done" 43, mkD "mend_at" 44, mkD "_law_cell_at" 46, mkD "_law_mixed" 47, mkD "_law_word" 48] : List He.DefD) ++ ([mkD "_law_words" 49, mkD "_law_part" 50, mkD "_law_pattern" 51, mkD "_law_holes" 52, mkD "_law_count" 53, mkD "_law_mend" 54, mkD "_law_book" 55, mkD "_law_filled" 56, mkD "_law_tree" 57, mkD "_law_case" 58, mkD "law" 59, mkD "law" 59] : List He.DefD)
def faD : List He.Fa := ([.glo "is_word", .glo "is_node", .glo "is_tree", .glo "need_tree", .glo "found_at", .glo "need_place", .glo "part_at", .glo "put_in", .glo "put_at", .glo "places_from", .glo "loud_places", .glo "is_hole", .glo "is_pattern", .glo "holes_in", .glo "words_in", .glo "is_rule", .glo "is_book", .glo "need_book", .glo "fits", .glo "filled", .glo "mended", .glo "findings_at", .glo "all_findings", .glo "findings", .glo "rule_of", .glo "done", .glo "mend_at", .glo "_law_cell_at", .glo "_law_mixed", .glo "_law_word"] : List He.Fa) ++ ([.glo "_law_words", .glo "_law_part", .glo "_law_pattern", .glo "_law_holes", .glo "_law_count", .glo "_law_mend", .glo "_law_book", .glo "_law_filled", .glo "_law_tree", .glo "_law_case", .glo "law", .glo "law", .free "ValueError", .free "all", .free "bool", .free "enumerate", .free "int", .free "isinstance", .free "len", .free "list", .free "max", .free "range", .free "sorted", .free "str", .free "sum", .free "tuple", .free "zip", .str "SIGNS" "abcdefghijklmnopqrstuvwxyz", .int "LONGEST" 6, .int "PARTS" 4] : List He.Fa) ++ ([.int "MOST" 60, .str "QUIET" "quiet", .int "NODES" 6, .int "HOLES" 2, .int "RULES" 4] : List He.Fa)
section
variable {P : Program} {w : World} {K : PySem.W.Frag} {mg : Str → Option Value} {base h : Heap}
theorem fx_is_word (X : K.In h) (G : h.Ns mainGlobals mg) (c : He.SaysD faD fnD K) : ∃ fd, FunD K "is_word" "is_word" (defArgs (top 13)) (defBody (top 13)) (defScope (top 13)) [] [] (faK K 1) fd ∧ Binds K fd ["thing"] [] ∧ mg "is_word" = some (.ref (faK K 1)) := by
  obtain ⟨fd, F⟩ := c.def_ 0 (d := mkD "is_word" 13) rfl
  have F1 : FunD K "is_word" "is_word" (defArgs (top 13)) (defBody (top 13)) (defScope (top 13)) [] [] (faK K 1) fd := F
  exact ⟨fd, F1, F1.bindsN (ps := ["thing"]) fun _ _ _ _ _ _ us hl => match us, hl with | [_], _ => rfl, He.glo_ok X G (c.fact 0 (f := .glo "is_word") rfl)⟩
theorem fx_is_node (X : K.In h) (G : h.Ns mainGlobals mg) (c : He.SaysD faD fnD K) : ∃ fd, FunD K "is_node" "is_node" (defArgs (top 14)) (defBody (top 14)) (defScope (top 14)) [] [] (faK K 24) fd ∧ Binds K fd ["thing"] [] ∧ mg "is_node" = some (.ref (faK K 24)) := by
  obtain ⟨fd, F⟩ := c.def_ 1 (d := mkD "is_node" 14) rfl
  have F1 : FunD K "is_node" "is_node" (defArgs (top 14)) (defBody (top 14)) (defScope (top 14)) [] [] (faK K 24) fd := F
  exact ⟨fd, F1, F1.bindsN (ps := ["thing"]) fun _ _ _ _ _ _ us hl => match us, hl with | [_], _ => rfl, He.glo_ok X G (c.fact 1 (f := .glo "is_node") rfl)⟩
theorem fx_is_tree (X : K.In h) (G : h.Ns mainGlobals mg) (c : He.SaysD faD fnD K) : ∃ fd, FunD K "is_tree" "is_tree" (defArgs (top 15)) (defBody (top 15)) (defScope (top 15)) [] [] (faK K 25) fd ∧ Binds K fd ["thing"] [] ∧ mg "is_tree" = some (.ref (faK K 25)) := by
  obtain ⟨fd, F⟩ := c.def_ 2 (d := mkD "is_tree" 15) rfl
  have F1 : FunD K "is_tree" "is_tree" (defArgs (top 15)) (defBody (top 15)) (defScope (top 15)) [] [] (faK K 25) fd := F
  exact ⟨fd, F1, F1.bindsN (ps := ["thing"]) fun _ _ _ _ _ _ us hl => match us, hl with | [_], _ => rfl, He.glo_ok X G (c.fact 2 (f := .glo "is_tree") rfl)⟩
theorem fx_need_tree (X : K.In h) (G : h.Ns mainGlobals mg) (c : He.SaysD faD fnD K) : ∃ fd, FunD K "need_tree" "need_tree" (defArgs (top 16)) (defBody (top 16)) (defScope (top 16)) [] [] (faK K 26) fd ∧ Binds K fd ["tree"] [] ∧ mg "need_tree" = some (.ref (faK K 26)) := by
  obtain ⟨fd, F⟩ := c.def_ 3 (d := mkD "need_tree" 16) rfl
  have F1 : FunD K "need_tree" "need_tree" (defArgs (top 16)) (defBody (top 16)) (defScope (top 16)) [] [] (faK K 26) fd := F
  exact ⟨fd, F1, F1.bindsN (ps := ["tree"]) fun _ _ _ _ _ _ us hl => match us, hl with | [_], _ => rfl, He.glo_ok X G (c.fact 3 (f := .glo "need_tree") rfl)⟩
theorem fx_found_at (X : K.In h) (G : h.Ns mainGlobals mg) (c : He.SaysD faD fnD K) : ∃ fd, FunD K "found_at" "found_at" (defArgs (top 17)) (defBody (top 17)) (defScope (top 17)) [] [] (faK K 27) fd ∧ Binds K fd ["tree", "place"] [] ∧ mg "found_at" = some (.ref (faK K 27)) := by
  obtain ⟨fd, F⟩ := c.def_ 4 (d := mkD "found_at" 17) rfl
  have F1 : FunD K "found_at" "found_at" (defArgs (top 17)) (defBody (top 17)) (defScope (top 17)) [] [] (faK K 27) fd := F
  exact ⟨fd, F1, F1.bindsN (ps := ["tree", "place"]) fun _ _ _ _ _ _ us hl => match us, hl with | [_, _], _ => rfl, He.glo_ok X G (c.fact 4 (f := .glo "found_at") rfl)⟩
theorem fx_need_place (X : K.In h) (G : h.Ns mainGlobals mg) (c : He.SaysD faD fnD K) : ∃ fd, FunD K "need_place" "need_place" (defArgs (top 18)) (defBody (top 18)) (defScope (top 18)) [] [] (faK K 41) fd ∧ Binds K fd ["tree", "place"] [] ∧ mg "need_place" = some (.ref (faK K 41)) := by
  obtain ⟨fd, F⟩ := c.def_ 5 (d := mkD "need_place" 18) rfl
  have F1 : FunD K "need_place" "need_place" (defArgs (top 18)) (defBody (top 18)) (defScope (top 18)) [] [] (faK K 41) fd := F
  exact ⟨fd, F1, F1.bindsN (ps := ["tree", "place"]) fun _ _ _ _ _ _ us hl => match us, hl with | [_, _], _ => rfl, He.glo_ok X G (c.fact 5 (f := .glo "need_place") rfl)⟩
theorem fx_part_at (X : K.In h) (G : h.Ns mainGlobals mg) (c : He.SaysD faD fnD K) : ∃ fd, FunD K "part_at" "part_at" (defArgs (top 19)) (defBody (top 19)) (defScope (top 19)) [] [] (faK K 42) fd ∧ Binds K fd ["tree", "place"] [] ∧ mg "part_at" = some (.ref (faK K 42)) := by
  obtain ⟨fd, F⟩ := c.def_ 6 (d := mkD "part_at" 19) rfl
  have F1 : FunD K "part_at" "part_at" (defArgs (top 19)) (defBody (top 19)) (defScope (top 19)) [] [] (faK K 42) fd := F
  exact ⟨fd, F1, F1.bindsN (ps := ["tree", "place"]) fun _ _ _ _ _ _ us hl => match us, hl with | [_, _], _ => rfl, He.glo_ok X G (c.fact 6 (f := .glo "part_at") rfl)⟩
theorem fx_put_in (X : K.In h) (G : h.Ns mainGlobals mg) (c : He.SaysD faD fnD K) : ∃ fd, FunD K "put_in" "put_in" (defArgs (top 20)) (defBody (top 20)) (defScope (top 20)) [] [] (faK K 43) fd ∧ Binds K fd ["tree", "place", "part"] [] ∧ mg "put_in" = some (.ref (faK K 43)) := by
  obtain ⟨fd, F⟩ := c.def_ 7 (d := mkD "put_in" 20) rfl
  have F1 : FunD K "put_in" "put_in" (defArgs (top 20)) (defBody (top 20)) (defScope (top 20)) [] [] (faK K 43) fd := F
  exact ⟨fd, F1, F1.bindsN (ps := ["tree", "place", "part"]) fun _ _ _ _ _ _ us hl => match us, hl with | [_, _, _], _ => rfl, He.glo_ok X G (c.fact 7 (f := .glo "put_in") rfl)⟩
theorem fx_put_at (X : K.In h) (G : h.Ns mainGlobals mg) (c : He.SaysD faD fnD K) : ∃ fd, FunD K "put_at" "put_at" (defArgs (top 21)) (defBody (top 21)) (defScope (top 21)) [] [] (faK K 44) fd ∧ Binds K fd ["tree", "place", "part"] [] ∧ mg "put_at" = some (.ref (faK K 44)) := by
  obtain ⟨fd, F⟩ := c.def_ 8 (d := mkD "put_at" 21) rfl
  have F1 : FunD K "put_at" "put_at" (defArgs (top 21)) (defBody (top 21)) (defScope (top 21)) [] [] (faK K 44) fd := F
  exact ⟨fd, F1, F1.bindsN (ps := ["tree", "place", "part"]) fun _ _ _ _ _ _ us hl => match us, hl with | [_, _, _], _ => rfl, He.glo_ok X G (c.fact 8 (f := .glo "put_at") rfl)⟩
theorem fx_places_from (X : K.In h) (G : h.Ns mainGlobals mg) (c : He.SaysD faD fnD K) : ∃ fd, FunD K "places_from" "places_from" (defArgs (top 22)) (defBody (top 22)) (defScope (top 22)) [] [] (faK K 28) fd ∧ Binds K fd ["tree", "place", "loud"] [] ∧ mg "places_from" = some (.ref (faK K 28)) := by
  obtain ⟨fd, F⟩ := c.def_ 9 (d := mkD "places_from" 22) rfl
  have F1 : FunD K "places_from" "places_from" (defArgs (top 22)) (defBody (top 22)) (defScope (top 22)) [] [] (faK K 28) fd := F
  exact ⟨fd, F1, F1.bindsN (ps := ["tree", "place", "loud"]) fun _ _ _ _ _ _ us hl => match us, hl with | [_, _, _], _ => rfl, He.glo_ok X G (c.fact 9 (f := .glo "places_from") rfl)⟩
theorem fx_loud_places (X : K.In h) (G : h.Ns mainGlobals mg) (c : He.SaysD faD fnD K) : ∃ fd, FunD K "loud_places" "loud_places" (defArgs (top 23)) (defBody (top 23)) (defScope (top 23)) [] [] (faK K 46) fd ∧ Binds K fd ["tree"] [] ∧ mg "loud_places" = some (.ref (faK K 46)) := by
  obtain ⟨fd, F⟩ := c.def_ 10 (d := mkD "loud_places" 23) rfl
  have F1 : FunD K "loud_places" "loud_places" (defArgs (top 23)) (defBody (top 23)) (defScope (top 23)) [] [] (faK K 46) fd := F
  exact ⟨fd, F1, F1.bindsN (ps := ["tree"]) fun _ _ _ _ _ _ us hl => match us, hl with | [_], _ => rfl, He.glo_ok X G (c.fact 10 (f := .glo "loud_places") rfl)⟩
theorem fx_is_hole (X : K.In h) (G : h.Ns mainGlobals mg) (c : He.SaysD faD fnD K) : ∃ fd, FunD K "is_hole" "is_hole" (defArgs (top 28)) (defBody (top 28)) (defScope (top 28)) [] [] (faK K 2) fd ∧ Binds K fd ["thing"] [] ∧ mg "is_hole" = some (.ref (faK K 2)) := by
  obtain ⟨fd, F⟩ := c.def_ 11 (d := mkD "is_hole" 28) rfl
  have F1 : FunD K "is_hole" "is_hole" (defArgs (top 28)) (defBody (top 28)) (defScope (top 28)) [] [] (faK K 2) fd := F
  exact ⟨fd, F1, F1.bindsN (ps := ["thing"]) fun _ _ _ _ _ _ us hl => match us, hl with | [_], _ => rfl, He.glo_ok X G (c.fact 11 (f := .glo "is_hole") rfl)⟩
theorem fx_is_pattern (X : K.In h) (G : h.Ns mainGlobals mg) (c : He.SaysD faD fnD K) : ∃ fd, FunD K "is_pattern" "is_pattern" (defArgs (top 29)) (defBody (top 29)) (defScope (top 29)) [] [] (faK K 3) fd ∧ Binds K fd ["thing"] [] ∧ mg "is_pattern" = some (.ref (faK K 3)) := by
  obtain ⟨fd, F⟩ := c.def_ 12 (d := mkD "is_pattern" 29) rfl
  have F1 : FunD K "is_pattern" "is_pattern" (defArgs (top 29)) (defBody (top 29)) (defScope (top 29)) [] [] (faK K 3) fd := F
  exact ⟨fd, F1, F1.bindsN (ps := ["thing"]) fun _ _ _ _ _ _ us hl => match us, hl with | [_], _ => rfl, He.glo_ok X G (c.fact 12 (f := .glo "is_pattern") rfl)⟩
theorem fx_holes_in (X : K.In h) (G : h.Ns mainGlobals mg) (c : He.SaysD faD fnD K) : ∃ fd, FunD K "holes_in" "holes_in" (defArgs (top 30)) (defBody (top 30)) (defScope (top 30)) [] [] (faK K 4) fd ∧ Binds K fd ["pattern"] [] ∧ mg "holes_in" = some (.ref (faK K 4)) := by
  obtain ⟨fd, F⟩ := c.def_ 13 (d := mkD "holes_in" 30) rfl
  have F1 : FunD K "holes_in" "holes_in" (defArgs (top 30)) (defBody (top 30)) (defScope (top 30)) [] [] (faK K 4) fd := F
  exact ⟨fd, F1, F1.bindsN (ps := ["pattern"]) fun _ _ _ _ _ _ us hl => match us, hl with | [_], _ => rfl, He.glo_ok X G (c.fact 13 (f := .glo "holes_in") rfl)⟩
theorem fx_words_in (X : K.In h) (G : h.Ns mainGlobals mg) (c : He.SaysD faD fnD K) : ∃ fd, FunD K "words_in" "words_in" (defArgs (top 31)) (defBody (top 31)) (defScope (top 31)) [] [] (faK K 5) fd ∧ Binds K fd ["pattern"] [] ∧ mg "words_in" = some (.ref (faK K 5)) := by
  obtain ⟨fd, F⟩ := c.def_ 14 (d := mkD "words_in" 31) rfl
  have F1 : FunD K "words_in" "words_in" (defArgs (top 31)) (defBody (top 31)) (defScope (top 31)) [] [] (faK K 5) fd := F
  exact ⟨fd, F1, F1.bindsN (ps := ["pattern"]) fun _ _ _ _ _ _ us hl => match us, hl with | [_], _ => rfl, He.glo_ok X G (c.fact 14 (f := .glo "words_in") rfl)⟩
theorem fx_is_rule (X : K.In h) (G : h.Ns mainGlobals mg) (c : He.SaysD faD fnD K) : ∃ fd, FunD K "is_rule" "is_rule" (defArgs (top 32)) (defBody (top 32)) (defScope (top 32)) [] [] (faK K 6) fd ∧ Binds K fd ["thing"] [] ∧ mg "is_rule" = some (.ref (faK K 6)) := by
  obtain ⟨fd, F⟩ := c.def_ 15 (d := mkD "is_rule" 32) rfl
  have F1 : FunD K "is_rule" "is_rule" (defArgs (top 32)) (defBody (top 32)) (defScope (top 32)) [] [] (faK K 6) fd := F
  exact ⟨fd, F1, F1.bindsN (ps := ["thing"]) fun _ _ _ _ _ _ us hl => match us, hl with | [_], _ => rfl, He.glo_ok X G (c.fact 15 (f := .glo "is_rule") rfl)⟩
theorem fx_is_book (X : K.In h) (G : h.Ns mainGlobals mg) (c : He.SaysD faD fnD K) : ∃ fd, FunD K "is_book" "is_book" (defArgs (top 33)) (defBody (top 33)) (defScope (top 33)) [] [] (faK K 7) fd ∧ Binds K fd ["thing"] [] ∧ mg "is_book" = some (.ref (faK K 7)) := by
  obtain ⟨fd, F⟩ := c.def_ 16 (d := mkD "is_book" 33) rfl
  have F1 : FunD K "is_book" "is_book" (defArgs (top 33)) (defBody (top 33)) (defScope (top 33)) [] [] (faK K 7) fd := F
  exact ⟨fd, F1, F1.bindsN (ps := ["thing"]) fun _ _ _ _ _ _ us hl => match us, hl with | [_], _ => rfl, He.glo_ok X G (c.fact 16 (f := .glo "is_book") rfl)⟩
theorem fx_need_book (X : K.In h) (G : h.Ns mainGlobals mg) (c : He.SaysD faD fnD K) : ∃ fd, FunD K "need_book" "need_book" (defArgs (top 34)) (defBody (top 34)) (defScope (top 34)) [] [] (faK K 8) fd ∧ Binds K fd ["book"] [] ∧ mg "need_book" = some (.ref (faK K 8)) := by
  obtain ⟨fd, F⟩ := c.def_ 17 (d := mkD "need_book" 34) rfl
  have F1 : FunD K "need_book" "need_book" (defArgs (top 34)) (defBody (top 34)) (defScope (top 34)) [] [] (faK K 8) fd := F
  exact ⟨fd, F1, F1.bindsN (ps := ["book"]) fun _ _ _ _ _ _ us hl => match us, hl with | [_], _ => rfl, He.glo_ok X G (c.fact 17 (f := .glo "need_book") rfl)⟩
theorem fx_fits (X : K.In h) (G : h.Ns mainGlobals mg) (c : He.SaysD faD fnD K) : ∃ fd, FunD K "fits" "fits" (defArgs (top 35)) (defBody (top 35)) (defScope (top 35)) [] [] (faK K 29) fd ∧ Binds K fd ["pattern", "tree", "found"] [] ∧ mg "fits" = some (.ref (faK K 29)) := by
  obtain ⟨fd, F⟩ := c.def_ 18 (d := mkD "fits" 35) rfl
  have F1 : FunD K "fits" "fits" (defArgs (top 35)) (defBody (top 35)) (defScope (top 35)) [] [] (faK K 29) fd := F
  exact ⟨fd, F1, F1.bindsN (ps := ["pattern", "tree", "found"]) fun _ _ _ _ _ _ us hl => match us, hl with | [_, _, _], _ => rfl, He.glo_ok X G (c.fact 18 (f := .glo "fits") rfl)⟩
theorem fx_filled (X : K.In h) (G : h.Ns mainGlobals mg) (c : He.SaysD faD fnD K) : ∃ fd, FunD K "filled" "filled" (defArgs (top 36)) (defBody (top 36)) (defScope (top 36)) [] [] (faK K 30) fd ∧ Binds K fd ["pattern", "found"] [] ∧ mg "filled" = some (.ref (faK K 30)) := by
  obtain ⟨fd, F⟩ := c.def_ 19 (d := mkD "filled" 36) rfl
  have F1 : FunD K "filled" "filled" (defArgs (top 36)) (defBody (top 36)) (defScope (top 36)) [] [] (faK K 30) fd := F
  exact ⟨fd, F1, F1.bindsN (ps := ["pattern", "found"]) fun _ _ _ _ _ _ us hl => match us, hl with | [_, _], _ => rfl, He.glo_ok X G (c.fact 19 (f := .glo "filled") rfl)⟩
theorem fx_mended (X : K.In h) (G : h.Ns mainGlobals mg) (c : He.SaysD faD fnD K) : ∃ fd, FunD K "mended" "mended" (defArgs (top 37)) (defBody (top 37)) (defScope (top 37)) [] [] (faK K 31) fd ∧ Binds K fd ["rule", "tree"] [] ∧ mg "mended" = some (.ref (faK K 31)) := by
  obtain ⟨fd, F⟩ := c.def_ 20 (d := mkD "mended" 37) rfl
  have F1 : FunD K "mended" "mended" (defArgs (top 37)) (defBody (top 37)) (defScope (top 37)) [] [] (faK K 31) fd := F
  exact ⟨fd, F1, F1.bindsN (ps := ["rule", "tree"]) fun _ _ _ _ _ _ us hl => match us, hl with | [_, _], _ => rfl, He.glo_ok X G (c.fact 20 (f := .glo "mended") rfl)⟩
theorem fx_findings_at (X : K.In h) (G : h.Ns mainGlobals mg) (c : He.SaysD faD fnD K) : ∃ fd, FunD K "findings_at" "findings_at" (defArgs (top 39)) (defBody (top 39)) (defScope (top 39)) [] [] (faK K 32) fd ∧ Binds K fd ["book", "tree", "places"] [] ∧ mg "findings_at" = some (.ref (faK K 32)) := by
  obtain ⟨fd, F⟩ := c.def_ 21 (d := mkD "findings_at" 39) rfl
  have F1 : FunD K "findings_at" "findings_at" (defArgs (top 39)) (defBody (top 39)) (defScope (top 39)) [] [] (faK K 32) fd := F
  exact ⟨fd, F1, F1.bindsN (ps := ["book", "tree", "places"]) fun _ _ _ _ _ _ us hl => match us, hl with | [_, _, _], _ => rfl, He.glo_ok X G (c.fact 21 (f := .glo "findings_at") rfl)⟩
theorem fx_all_findings (X : K.In h) (G : h.Ns mainGlobals mg) (c : He.SaysD faD fnD K) : ∃ fd, FunD K "all_findings" "all_findings" (defArgs (top 40)) (defBody (top 40)) (defScope (top 40)) [] [] (faK K 33) fd ∧ Binds K fd ["book", "tree"] [] ∧ mg "all_findings" = some (.ref (faK K 33)) := by
  obtain ⟨fd, F⟩ := c.def_ 22 (d := mkD "all_findings" 40) rfl
  have F1 : FunD K "all_findings" "all_findings" (defArgs (top 40)) (defBody (top 40)) (defScope (top 40)) [] [] (faK K 33) fd := F
  exact ⟨fd, F1, F1.bindsN (ps := ["book", "tree"]) fun _ _ _ _ _ _ us hl => match us, hl with | [_, _], _ => rfl, He.glo_ok X G (c.fact 22 (f := .glo "all_findings") rfl)⟩
theorem fx_findings (X : K.In h) (G : h.Ns mainGlobals mg) (c : He.SaysD faD fnD K) : ∃ fd, FunD K "findings" "findings" (defArgs (top 41)) (defBody (top 41)) (defScope (top 41)) [] [] (faK K 34) fd ∧ Binds K fd ["book", "tree"] [] ∧ mg "findings" = some (.ref (faK K 34)) := by
  obtain ⟨fd, F⟩ := c.def_ 23 (d := mkD "findings" 41) rfl
  have F1 : FunD K "findings" "findings" (defArgs (top 41)) (defBody (top 41)) (defScope (top 41)) [] [] (faK K 34) fd := F
  exact ⟨fd, F1, F1.bindsN (ps := ["book", "tree"]) fun _ _ _ _ _ _ us hl => match us, hl with | [_, _], _ => rfl, He.glo_ok X G (c.fact 23 (f := .glo "findings") rfl)⟩
theorem fx_rule_of (X : K.In h) (G : h.Ns mainGlobals mg) (c : He.SaysD faD fnD K) : ∃ fd, FunD K "rule_of" "rule_of" (defArgs (top 42)) (defBody (top 42)) (defScope (top 42)) [] [] (faK K 59) fd ∧ Binds K fd ["book", "name"] [] ∧ mg "rule_of" = some (.ref (faK K 59)) := by
  obtain ⟨fd, F⟩ := c.def_ 24 (d := mkD "rule_of" 42) rfl
  have F1 : FunD K "rule_of" "rule_of" (defArgs (top 42)) (defBody (top 42)) (defScope (top 42)) [] [] (faK K 59) fd := F
  exact ⟨fd, F1, F1.bindsN (ps := ["book", "name"]) fun _ _ _ _ _ _ us hl => match us, hl with | [_, _], _ => rfl, He.glo_ok X G (c.fact 24 (f := .glo "rule_of") rfl)⟩
theorem fx_done (X : K.In h) (G : h.Ns mainGlobals mg) (c : He.SaysD faD fnD K) : ∃ fd, FunD K "done" "done" (defArgs (top 43)) (defBody (top 43)) (defScope (top 43)) [] [] (faK K 60) fd ∧ Binds K fd ["book", "tree", "finding"] [] ∧ mg "done" = some (.ref (faK K 60)) := by
  obtain ⟨fd, F⟩ := c.def_ 25 (d := mkD "done" 43) rfl
  have F1 : FunD K "done" "done" (defArgs (top 43)) (defBody (top 43)) (defScope (top 43)) [] [] (faK K 60) fd := F
  exact ⟨fd, F1, F1.bindsN (ps := ["book", "tree", "finding"]) fun _ _ _ _ _ _ us hl => match us, hl with | [_, _, _], _ => rfl, He.glo_ok X G (c.fact 25 (f := .glo "done") rfl)⟩
theorem fx_mend_at (X : K.In h) (G : h.Ns mainGlobals mg) (c : He.SaysD faD fnD K) : ∃ fd, FunD K "mend_at" "mend_at" (defArgs (top 44)) (defBody (top 44)) (defScope (top 44)) [] [] (faK K 61) fd ∧ Binds K fd ["book", "tree", "finding"] [] ∧ mg "mend_at" = some (.ref (faK K 61)) := by
  obtain ⟨fd, F⟩ := c.def_ 26 (d := mkD "mend_at" 44) rfl
  have F1 : FunD K "mend_at" "mend_at" (defArgs (top 44)) (defBody (top 44)) (defScope (top 44)) [] [] (faK K 61) fd := F
  exact ⟨fd, F1, F1.bindsN (ps := ["book", "tree", "finding"]) fun _ _ _ _ _ _ us hl => match us, hl with | [_, _, _], _ => rfl, He.glo_ok X G (c.fact 26 (f := .glo "mend_at") rfl)⟩
theorem fx__law_cell_at (X : K.In h) (G : h.Ns mainGlobals mg) (c : He.SaysD faD fnD K) : ∃ fd, FunD K "_law_cell_at" "_law_cell_at" (defArgs (top 46)) (defBody (top 46)) (defScope (top 46)) [] [] (faK K 10) fd ∧ Binds K fd ["script", "k"] [] ∧ mg "_law_cell_at" = some (.ref (faK K 10)) := by
  obtain ⟨fd, F⟩ := c.def_ 27 (d := mkD "_law_cell_at" 46) rfl
  have F1 : FunD K "_law_cell_at" "_law_cell_at" (defArgs (top 46)) (defBody (top 46)) (defScope (top 46)) [] [] (faK K 10) fd := F
  exact ⟨fd, F1, F1.bindsN (ps := ["script", "k"]) fun _ _ _ _ _ _ us hl => match us, hl with | [_, _], _ => rfl, He.glo_ok X G (c.fact 27 (f := .glo "_law_cell_at") rfl)⟩
theorem fx__law_mixed (X : K.In h) (G : h.Ns mainGlobals mg) (c : He.SaysD faD fnD K) : ∃ fd, FunD K "_law_mixed" "_law_mixed" (defArgs (top 47)) (defBody (top 47)) (defScope (top 47)) [] [] (faK K 11) fd ∧ Binds K fd ["script", "k", "many"] [] ∧ mg "_law_mixed" = some (.ref (faK K 11)) := by
  obtain ⟨fd, F⟩ := c.def_ 28 (d := mkD "_law_mixed" 47) rfl
  have F1 : FunD K "_law_mixed" "_law_mixed" (defArgs (top 47)) (defBody (top 47)) (defScope (top 47)) [] [] (faK K 11) fd := F
  exact ⟨fd, F1, F1.bindsN (ps := ["script", "k", "many"]) fun _ _ _ _ _ _ us hl => match us, hl with | [_, _, _], _ => rfl, He.glo_ok X G (c.fact 28 (f := .glo "_law_mixed") rfl)⟩
theorem fx__law_word (X : K.In h) (G : h.Ns mainGlobals mg) (c : He.SaysD faD fnD K) : ∃ fd, FunD K "_law_word" "_law_word" (defArgs (top 48)) (defBody (top 48)) (defScope (top 48)) [] [] (faK K 12) fd ∧ Binds K fd ["script", "at"] [] ∧ mg "_law_word" = some (.ref (faK K 12)) := by
  obtain ⟨fd, F⟩ := c.def_ 29 (d := mkD "_law_word" 48) rfl
  have F1 : FunD K "_law_word" "_law_word" (defArgs (top 48)) (defBody (top 48)) (defScope (top 48)) [] [] (faK K 12) fd := F
  exact ⟨fd, F1, F1.bindsN (ps := ["script", "at"]) fun _ _ _ _ _ _ us hl => match us, hl with | [_, _], _ => rfl, He.glo_ok X G (c.fact 29 (f := .glo "_law_word") rfl)⟩
theorem fx__law_words (X : K.In h) (G : h.Ns mainGlobals mg) (c : He.SaysD faD fnD K) : ∃ fd, FunD K "_law_words" "_law_words" (defArgs (top 49)) (defBody (top 49)) (defScope (top 49)) [] [] (faK K 13) fd ∧ Binds K fd ["script", "at"] [] ∧ mg "_law_words" = some (.ref (faK K 13)) := by
  obtain ⟨fd, F⟩ := c.def_ 30 (d := mkD "_law_words" 49) rfl
  have F1 : FunD K "_law_words" "_law_words" (defArgs (top 49)) (defBody (top 49)) (defScope (top 49)) [] [] (faK K 13) fd := F
  exact ⟨fd, F1, F1.bindsN (ps := ["script", "at"]) fun _ _ _ _ _ _ us hl => match us, hl with | [_, _], _ => rfl, He.glo_ok X G (c.fact 30 (f := .glo "_law_words") rfl)⟩
theorem fx__law_part (X : K.In h) (G : h.Ns mainGlobals mg) (c : He.SaysD faD fnD K) : ∃ fd, FunD K "_law_part" "_law_part" (defArgs (top 50)) (defBody (top 50)) (defScope (top 50)) [] [] (faK K 14) fd ∧ Binds K fd ["script", "at", "words", "small"] [] ∧ mg "_law_part" = some (.ref (faK K 14)) := by
  obtain ⟨fd, F⟩ := c.def_ 31 (d := mkD "_law_part" 50) rfl
  have F1 : FunD K "_law_part" "_law_part" (defArgs (top 50)) (defBody (top 50)) (defScope (top 50)) [] [] (faK K 14) fd := F
  exact ⟨fd, F1, F1.bindsN (ps := ["script", "at", "words", "small"]) fun _ _ _ _ _ _ us hl => match us, hl with | [_, _, _, _], _ => rfl, He.glo_ok X G (c.fact 31 (f := .glo "_law_part") rfl)⟩
theorem fx__law_pattern (X : K.In h) (G : h.Ns mainGlobals mg) (c : He.SaysD faD fnD K) : ∃ fd, FunD K "_law_pattern" "_law_pattern" (defArgs (top 51)) (defBody (top 51)) (defScope (top 51)) [] [] (faK K 15) fd ∧ Binds K fd ["script", "at", "words"] [] ∧ mg "_law_pattern" = some (.ref (faK K 15)) := by
  obtain ⟨fd, F⟩ := c.def_ 32 (d := mkD "_law_pattern" 51) rfl
  have F1 : FunD K "_law_pattern" "_law_pattern" (defArgs (top 51)) (defBody (top 51)) (defScope (top 51)) [] [] (faK K 15) fd := F
  exact ⟨fd, F1, F1.bindsN (ps := ["script", "at", "words"]) fun _ _ _ _ _ _ us hl => match us, hl with | [_, _, _], _ => rfl, He.glo_ok X G (c.fact 32 (f := .glo "_law_pattern") rfl)⟩
theorem fx__law_holes (X : K.In h) (G : h.Ns mainGlobals mg) (c : He.SaysD faD fnD K) : ∃ fd, FunD K "_law_holes" "_law_holes" (defArgs (top 52)) (defBody (top 52)) (defScope (top 52)) [] [] (faK K 16) fd ∧ Binds K fd ["pattern"] [] ∧ mg "_law_holes" = some (.ref (faK K 16)) := by
  obtain ⟨fd, F⟩ := c.def_ 33 (d := mkD "_law_holes" 52) rfl
  have F1 : FunD K "_law_holes" "_law_holes" (defArgs (top 52)) (defBody (top 52)) (defScope (top 52)) [] [] (faK K 16) fd := F
  exact ⟨fd, F1, F1.bindsN (ps := ["pattern"]) fun _ _ _ _ _ _ us hl => match us, hl with | [_], _ => rfl, He.glo_ok X G (c.fact 33 (f := .glo "_law_holes") rfl)⟩
theorem fx__law_count (X : K.In h) (G : h.Ns mainGlobals mg) (c : He.SaysD faD fnD K) : ∃ fd, FunD K "_law_count" "_law_count" (defArgs (top 53)) (defBody (top 53)) (defScope (top 53)) [] [] (faK K 17) fd ∧ Binds K fd ["pattern"] [] ∧ mg "_law_count" = some (.ref (faK K 17)) := by
  obtain ⟨fd, F⟩ := c.def_ 34 (d := mkD "_law_count" 53) rfl
  have F1 : FunD K "_law_count" "_law_count" (defArgs (top 53)) (defBody (top 53)) (defScope (top 53)) [] [] (faK K 17) fd := F
  exact ⟨fd, F1, F1.bindsN (ps := ["pattern"]) fun _ _ _ _ _ _ us hl => match us, hl with | [_], _ => rfl, He.glo_ok X G (c.fact 34 (f := .glo "_law_count") rfl)⟩
theorem fx__law_mend (X : K.In h) (G : h.Ns mainGlobals mg) (c : He.SaysD faD fnD K) : ∃ fd, FunD K "_law_mend" "_law_mend" (defArgs (top 54)) (defBody (top 54)) (defScope (top 54)) [] [] (faK K 18) fd ∧ Binds K fd ["script", "at", "words", "pattern"] [] ∧ mg "_law_mend" = some (.ref (faK K 18)) := by
  obtain ⟨fd, F⟩ := c.def_ 35 (d := mkD "_law_mend" 54) rfl
  have F1 : FunD K "_law_mend" "_law_mend" (defArgs (top 54)) (defBody (top 54)) (defScope (top 54)) [] [] (faK K 18) fd := F
  exact ⟨fd, F1, F1.bindsN (ps := ["script", "at", "words", "pattern"]) fun _ _ _ _ _ _ us hl => match us, hl with | [_, _, _, _], _ => rfl, He.glo_ok X G (c.fact 35 (f := .glo "_law_mend") rfl)⟩
theorem fx__law_book (X : K.In h) (G : h.Ns mainGlobals mg) (c : He.SaysD faD fnD K) : ∃ fd, FunD K "_law_book" "_law_book" (defArgs (top 55)) (defBody (top 55)) (defScope (top 55)) [] [] (faK K 19) fd ∧ Binds K fd ["script", "at", "words", "most"] [] ∧ mg "_law_book" = some (.ref (faK K 19)) := by
  obtain ⟨fd, F⟩ := c.def_ 36 (d := mkD "_law_book" 55) rfl
  have F1 : FunD K "_law_book" "_law_book" (defArgs (top 55)) (defBody (top 55)) (defScope (top 55)) [] [] (faK K 19) fd := F
  exact ⟨fd, F1, F1.bindsN (ps := ["script", "at", "words", "most"]) fun _ _ _ _ _ _ us hl => match us, hl with | [_, _, _, _], _ => rfl, He.glo_ok X G (c.fact 36 (f := .glo "_law_book") rfl)⟩
theorem fx__law_filled (X : K.In h) (G : h.Ns mainGlobals mg) (c : He.SaysD faD fnD K) : ∃ fd, FunD K "_law_filled" "_law_filled" (defArgs (top 56)) (defBody (top 56)) (defScope (top 56)) [] [] (faK K 35) fd ∧ Binds K fd ["pattern", "found"] [] ∧ mg "_law_filled" = some (.ref (faK K 35)) := by
  obtain ⟨fd, F⟩ := c.def_ 37 (d := mkD "_law_filled" 56) rfl
  have F1 : FunD K "_law_filled" "_law_filled" (defArgs (top 56)) (defBody (top 56)) (defScope (top 56)) [] [] (faK K 35) fd := F
  exact ⟨fd, F1, F1.bindsN (ps := ["pattern", "found"]) fun _ _ _ _ _ _ us hl => match us, hl with | [_, _], _ => rfl, He.glo_ok X G (c.fact 37 (f := .glo "_law_filled") rfl)⟩
theorem fx__law_tree (X : K.In h) (G : h.Ns mainGlobals mg) (c : He.SaysD faD fnD K) : ∃ fd, FunD K "_law_tree" "_law_tree" (defArgs (top 57)) (defBody (top 57)) (defScope (top 57)) [] [] (faK K 36) fd ∧ Binds K fd ["script", "at", "words", "book", "levels"] [] ∧ mg "_law_tree" = some (.ref (faK K 36)) := by
  obtain ⟨fd, F⟩ := c.def_ 38 (d := mkD "_law_tree" 57) rfl
  have F1 : FunD K "_law_tree" "_law_tree" (defArgs (top 57)) (defBody (top 57)) (defScope (top 57)) [] [] (faK K 36) fd := F
  exact ⟨fd, F1, F1.bindsN (ps := ["script", "at", "words", "book", "levels"]) fun _ _ _ _ _ _ us hl => match us, hl with | [_, _, _, _, _], _ => rfl, He.glo_ok X G (c.fact 38 (f := .glo "_law_tree") rfl)⟩
theorem fx__law_case (X : K.In h) (G : h.Ns mainGlobals mg) (c : He.SaysD faD fnD K) : ∃ fd, FunD K "_law_case" "_law_case" (defArgs (top 58)) (defBody (top 58)) (defScope (top 58)) [] [] (faK K 37) fd ∧ Binds K fd ["script", "most", "levels"] [] ∧ mg "_law_case" = some (.ref (faK K 37)) := by
  obtain ⟨fd, F⟩ := c.def_ 39 (d := mkD "_law_case" 58) rfl
  have F1 : FunD K "_law_case" "_law_case" (defArgs (top 58)) (defBody (top 58)) (defScope (top 58)) [] [] (faK K 37) fd := F
  exact ⟨fd, F1, F1.bindsN (ps := ["script", "most", "levels"]) fun _ _ _ _ _ _ us hl => match us, hl with | [_, _, _], _ => rfl, He.glo_ok X G (c.fact 39 (f := .glo "_law_case") rfl)⟩
theorem fx_law (X : K.In h) (G : h.Ns mainGlobals mg) (c : He.SaysD faD fnD K) : ∃ fd, FunD K "law" "law" (defArgs (top 59)) (defBody (top 59)) (defScope (top 59)) [] [] (faK K 86) fd ∧ Binds K fd ["script"] [] ∧ mg "law" = some (.ref (faK K 86)) := by
  obtain ⟨fd, F⟩ := c.def_ 40 (d := mkD "law" 59) rfl
  have F1 : FunD K "law" "law" (defArgs (top 59)) (defBody (top 59)) (defScope (top 59)) [] [] (faK K 86) fd := F
  exact ⟨fd, F1, F1.bindsN (ps := ["script"]) fun _ _ _ _ _ _ us hl => match us, hl with | [_], _ => rfl, He.glo_ok X G (c.fact 40 (f := .glo "law") rfl)⟩
theorem cs_all {S fw : Addr} {fdw : FuncData} (T : Tx P w K mg base (gK K) S fw fdw) (X : K.In h) (G : h.Ns mainGlobals mg) (c : He.SaysD faD fnD K) : ∀ k, Cs P w K mg base (gK K) (k + 1) (call Pg k)
  | 0 => by
    obtain ⟨fd0, F0, b0, m0⟩ := fx_is_word X G c
    obtain ⟨fd1, F1, b1, m1⟩ := fx_is_node X G c
    obtain ⟨fd2, F2, b2, m2⟩ := fx_is_tree X G c
    obtain ⟨fd3, F3, b3, m3⟩ := fx_need_tree X G c
    obtain ⟨fd4, F4, b4, m4⟩ := fx_found_at X G c
    obtain ⟨fd5, F5, b5, m5⟩ := fx_need_place X G c
    obtain ⟨fd6, F6, b6, m6⟩ := fx_part_at X G c
    obtain ⟨fd7, F7, b7, m7⟩ := fx_put_in X G c
    obtain ⟨fd8, F8, b8, m8⟩ := fx_put_at X G c
    obtain ⟨fd9, F9, b9, m9⟩ := fx_places_from X G c
    obtain ⟨fd10, F10, b10, m10⟩ := fx_loud_places X G c
    obtain ⟨fd11, F11, b11, m11⟩ := fx_is_hole X G c
    obtain ⟨fd12, F12, b12, m12⟩ := fx_is_pattern X G c
    obtain ⟨fd13, F13, b13, m13⟩ := fx_holes_in X G c
    obtain ⟨fd14, F14, b14, m14⟩ := fx_words_in X G c
    obtain ⟨fd15, F15, b15, m15⟩ := fx_is_rule X G c
    obtain ⟨fd16, F16, b16, m16⟩ := fx_is_book X G c
    obtain ⟨fd17, F17, b17, m17⟩ := fx_need_book X G c
    obtain ⟨fd18, F18, b18, m18⟩ := fx_fits X G c
    obtain ⟨fd19, F19, b19, m19⟩ := fx_filled X G c
    obtain ⟨fd20, F20, b20, m20⟩ := fx_mended X G c
    obtain ⟨fd21, F21, b21, m21⟩ := fx_findings_at X G c
    obtain ⟨fd22, F22, b22, m22⟩ := fx_all_findings X G c
    obtain ⟨fd23, F23, b23, m23⟩ := fx_findings X G c
    obtain ⟨fd24, F24, b24, m24⟩ := fx_rule_of X G c
    obtain ⟨fd25, F25, b25, m25⟩ := fx_done X G c
    obtain ⟨fd26, F26, b26, m26⟩ := fx_mend_at X G c
    obtain ⟨fd27, F27, b27, m27⟩ := fx__law_cell_at X G c
    obtain ⟨fd28, F28, b28, m28⟩ := fx__law_mixed X G c
    obtain ⟨fd29, F29, b29, m29⟩ := fx__law_word X G c
    obtain ⟨fd30, F30, b30, m30⟩ := fx__law_words X G c
    obtain ⟨fd31, F31, b31, m31⟩ := fx__law_part X G c
    obtain ⟨fd32, F32, b32, m32⟩ := fx__law_pattern X G c
    obtain ⟨fd33, F33, b33, m33⟩ := fx__law_holes X G c
    obtain ⟨fd34, F34, b34, m34⟩ := fx__law_count X G c
    obtain ⟨fd35, F35, b35, m35⟩ := fx__law_mend X G c
    obtain ⟨fd36, F36, b36, m36⟩ := fx__law_book X G c
    obtain ⟨fd37, F37, b37, m37⟩ := fx__law_filled X G c
    obtain ⟨fd38, F38, b38, m38⟩ := fx__law_tree X G c
    obtain ⟨fd39, F39, b39, m39⟩ := fx__law_case X G c
    obtain ⟨fd40, F40, b40, m40⟩ := fx_law X G c
    exact ⟨cal_of fn_stuck b0 F0.kp m0,
      cal_of fn_stuck b1 F1.kp m1,
      cal_of fn_stuck b2 F2.kp m2,
      cal_of fn_stuck b3 F3.kp m3,
      cal_of fn_stuck b4 F4.kp m4,
      cal_of fn_stuck b5 F5.kp m5,
      cal_of fn_stuck b6 F6.kp m6,
      cal_of fn_stuck b7 F7.kp m7,
      cal_of fn_stuck b8 F8.kp m8,
      cal_of fn_stuck b9 F9.kp m9,
      cal_of fn_stuck b10 F10.kp m10,
      cal_of fn_stuck b11 F11.kp m11,
      cal_of fn_stuck b12 F12.kp m12,
      cal_of fn_stuck b13 F13.kp m13,
      cal_of fn_stuck b14 F14.kp m14,
      cal_of fn_stuck b15 F15.kp m15,
      cal_of fn_stuck b16 F16.kp m16,
      cal_of fn_stuck b17 F17.kp m17,
      cal_of fn_stuckI b18 F18.kp m18,
      cal_of fn_stuck b19 F19.kp m19,
      cal_of fn_stuck b20 F20.kp m20,
      cal_of fn_stuck b21 F21.kp m21,
      cal_of fn_stuck b22 F22.kp m22,
      cal_of fn_stuck b23 F23.kp m23,
      cal_of fn_stuck b24 F24.kp m24,
      cal_of fn_stuck b25 F25.kp m25,
      cal_of fn_stuck b26 F26.kp m26,
      cal_of fn_stuck b27 F27.kp m27,
      cal_of fn_stuck b28 F28.kp m28,
      cal_of fn_stuck b29 F29.kp m29,
      cal_of fn_stuck b30 F30.kp m30,
      cal_of fn_stuck b31 F31.kp m31,
      cal_of fn_stuck b32 F32.kp m32,
      cal_of fn_stuck b33 F33.kp m33,
      cal_of fn_stuck b34 F34.kp m34,
      cal_of fn_stuck b35 F35.kp m35,
      cal_of fn_stuck b36 F36.kp m36,
      cal_of fn_stuck b37 F37.kp m37,
      cal_of fn_stuck b38 F38.kp m38,
      cal_of fn_stuck b39 F39.kp m39,
      cal_of fn_stuck b40 F40.kp m40⟩
  | k + 1 => by
    have C := cs_all T X G c k
    obtain ⟨fd0, F0, b0, m0⟩ := fx_is_word X G c
    obtain ⟨fd1, F1, b1, m1⟩ := fx_is_node X G c
    obtain ⟨fd2, F2, b2, m2⟩ := fx_is_tree X G c
    obtain ⟨fd3, F3, b3, m3⟩ := fx_need_tree X G c
    obtain ⟨fd4, F4, b4, m4⟩ := fx_found_at X G c
    obtain ⟨fd5, F5, b5, m5⟩ := fx_need_place X G c
    obtain ⟨fd6, F6, b6, m6⟩ := fx_part_at X G c
    obtain ⟨fd7, F7, b7, m7⟩ := fx_put_in X G c
    obtain ⟨fd8, F8, b8, m8⟩ := fx_put_at X G c
    obtain ⟨fd9, F9, b9, m9⟩ := fx_places_from X G c
    obtain ⟨fd10, F10, b10, m10⟩ := fx_loud_places X G c
    obtain ⟨fd11, F11, b11, m11⟩ := fx_is_hole X G c
    obtain ⟨fd12, F12, b12, m12⟩ := fx_is_pattern X G c
    obtain ⟨fd13, F13, b13, m13⟩ := fx_holes_in X G c
    obtain ⟨fd14, F14, b14, m14⟩ := fx_words_in X G c
    obtain ⟨fd15, F15, b15, m15⟩ := fx_is_rule X G c
    obtain ⟨fd16, F16, b16, m16⟩ := fx_is_book X G c
    obtain ⟨fd17, F17, b17, m17⟩ := fx_need_book X G c
    obtain ⟨fd18, F18, b18, m18⟩ := fx_fits X G c
    obtain ⟨fd19, F19, b19, m19⟩ := fx_filled X G c
    obtain ⟨fd20, F20, b20, m20⟩ := fx_mended X G c
    obtain ⟨fd21, F21, b21, m21⟩ := fx_findings_at X G c
    obtain ⟨fd22, F22, b22, m22⟩ := fx_all_findings X G c
    obtain ⟨fd23, F23, b23, m23⟩ := fx_findings X G c
    obtain ⟨fd24, F24, b24, m24⟩ := fx_rule_of X G c
    obtain ⟨fd25, F25, b25, m25⟩ := fx_done X G c
    obtain ⟨fd26, F26, b26, m26⟩ := fx_mend_at X G c
    obtain ⟨fd27, F27, b27, m27⟩ := fx__law_cell_at X G c
    obtain ⟨fd28, F28, b28, m28⟩ := fx__law_mixed X G c
    obtain ⟨fd29, F29, b29, m29⟩ := fx__law_word X G c
    obtain ⟨fd30, F30, b30, m30⟩ := fx__law_words X G c
    obtain ⟨fd31, F31, b31, m31⟩ := fx__law_part X G c
    obtain ⟨fd32, F32, b32, m32⟩ := fx__law_pattern X G c
    obtain ⟨fd33, F33, b33, m33⟩ := fx__law_holes X G c
    obtain ⟨fd34, F34, b34, m34⟩ := fx__law_count X G c
    obtain ⟨fd35, F35, b35, m35⟩ := fx__law_mend X G c
    obtain ⟨fd36, F36, b36, m36⟩ := fx__law_book X G c
    obtain ⟨fd37, F37, b37, m37⟩ := fx__law_filled X G c
    obtain ⟨fd38, F38, b38, m38⟩ := fx__law_tree X G c
    obtain ⟨fd39, F39, b39, m39⟩ := fx__law_case X G c
    obtain ⟨fd40, F40, b40, m40⟩ := fx_law X G c
    exact ⟨cal_of (ok_is_word (g := gK K) (Φ := call Pg k) rfl T C (Nat.le_add_left 1 k) F0) b0 F0.kp m0,
      cal_of (ok_is_node (g := gK K) (Φ := call Pg k) rfl T C (Nat.le_add_left 1 k) F1) b1 F1.kp m1,
      cal_of (ok_is_tree (g := gK K) (Φ := call Pg k) rfl T C (Nat.le_add_left 1 k) F2) b2 F2.kp m2,
      cal_of (ok_need_tree (g := gK K) (Φ := call Pg k) rfl T C (Nat.le_add_left 1 k) F3) b3 F3.kp m3,
      cal_of (ok_found_at (g := gK K) (Φ := call Pg k) rfl T C (Nat.le_add_left 1 k) F4) b4 F4.kp m4,
      cal_of (ok_need_place (g := gK K) (Φ := call Pg k) rfl T C (Nat.le_add_left 1 k) F5) b5 F5.kp m5,
      cal_of (ok_part_at (g := gK K) (Φ := call Pg k) rfl T C (Nat.le_add_left 1 k) F6) b6 F6.kp m6,
      cal_of (ok_put_in (g := gK K) (Φ := call Pg k) rfl T C (Nat.le_add_left 1 k) F7) b7 F7.kp m7,
      cal_of (ok_put_at (g := gK K) (Φ := call Pg k) rfl T C (Nat.le_add_left 1 k) F8) b8 F8.kp m8,
      cal_of (ok_places_from (g := gK K) (Φ := call Pg k) rfl T C (Nat.le_add_left 1 k) F9) b9 F9.kp m9,
      cal_of (ok_loud_places (g := gK K) (Φ := call Pg k) rfl T C (Nat.le_add_left 1 k) F10) b10 F10.kp m10,
      cal_of (ok_is_hole (g := gK K) (Φ := call Pg k) rfl T C (Nat.le_add_left 1 k) F11) b11 F11.kp m11,
      cal_of (ok_is_pattern (g := gK K) (Φ := call Pg k) rfl T C (Nat.le_add_left 1 k) F12) b12 F12.kp m12,
      cal_of (ok_holes_in (g := gK K) (Φ := call Pg k) rfl T C (Nat.le_add_left 1 k) F13) b13 F13.kp m13,
      cal_of (ok_words_in (g := gK K) (Φ := call Pg k) rfl T C (Nat.le_add_left 1 k) F14) b14 F14.kp m14,
      cal_of (ok_is_rule (g := gK K) (Φ := call Pg k) rfl T C (Nat.le_add_left 1 k) F15) b15 F15.kp m15,
      cal_of (ok_is_book (g := gK K) (Φ := call Pg k) rfl T C (Nat.le_add_left 1 k) F16) b16 F16.kp m16,
      cal_of (ok_need_book (g := gK K) (Φ := call Pg k) rfl T C (Nat.le_add_left 1 k) F17) b17 F17.kp m17,
      cal_of (ok_fits (g := gK K) (Φ := call Pg k) rfl T C (Nat.le_add_left 1 k) F18) b18 F18.kp m18,
      cal_of (ok_filled (g := gK K) (Φ := call Pg k) rfl T C (Nat.le_add_left 1 k) F19) b19 F19.kp m19,
      cal_of (ok_mended (g := gK K) (Φ := call Pg k) rfl T C (Nat.le_add_left 1 k) F20) b20 F20.kp m20,
      cal_of (ok_findings_at (g := gK K) (Φ := call Pg k) rfl T C (Nat.le_add_left 1 k) F21) b21 F21.kp m21,
      cal_of (ok_all_findings (g := gK K) (Φ := call Pg k) rfl T C (Nat.le_add_left 1 k) F22) b22 F22.kp m22,
      cal_of (ok_findings (g := gK K) (Φ := call Pg k) rfl T C (Nat.le_add_left 1 k) F23) b23 F23.kp m23,
      cal_of (ok_rule_of (g := gK K) (Φ := call Pg k) rfl T C (Nat.le_add_left 1 k) F24) b24 F24.kp m24,
      cal_of (ok_done (g := gK K) (Φ := call Pg k) rfl T C (Nat.le_add_left 1 k) F25) b25 F25.kp m25,
      cal_of (ok_mend_at (g := gK K) (Φ := call Pg k) rfl T C (Nat.le_add_left 1 k) F26) b26 F26.kp m26,
      cal_of (ok__law_cell_at (g := gK K) (Φ := call Pg k) rfl T C (Nat.le_add_left 1 k) F27) b27 F27.kp m27,
      cal_of (ok__law_mixed (g := gK K) (Φ := call Pg k) rfl T C (Nat.le_add_left 1 k) F28) b28 F28.kp m28,
      cal_of (ok__law_word (g := gK K) (Φ := call Pg k) rfl T C (Nat.le_add_left 1 k) F29) b29 F29.kp m29,
      cal_of (ok__law_words (g := gK K) (Φ := call Pg k) rfl T C (Nat.le_add_left 1 k) F30) b30 F30.kp m30,
      cal_of (ok__law_part (g := gK K) (Φ := call Pg k) rfl T C (Nat.le_add_left 1 k) F31) b31 F31.kp m31,
      cal_of (ok__law_pattern (g := gK K) (Φ := call Pg k) rfl T C (Nat.le_add_left 1 k) F32) b32 F32.kp m32,
      cal_of (ok__law_holes (g := gK K) (Φ := call Pg k) rfl T C (Nat.le_add_left 1 k) F33) b33 F33.kp m33,
      cal_of (ok__law_count (g := gK K) (Φ := call Pg k) rfl T C (Nat.le_add_left 1 k) F34) b34 F34.kp m34,
      cal_of (ok__law_mend (g := gK K) (Φ := call Pg k) rfl T C (Nat.le_add_left 1 k) F35) b35 F35.kp m35,
      cal_of (ok__law_book (g := gK K) (Φ := call Pg k) rfl T C (Nat.le_add_left 1 k) F36) b36 F36.kp m36,
      cal_of (ok__law_filled (g := gK K) (Φ := call Pg k) rfl T C (Nat.le_add_left 1 k) F37) b37 F37.kp m37,
      cal_of (ok__law_tree (g := gK K) (Φ := call Pg k) rfl T C (Nat.le_add_left 1 k) F38) b38 F38.kp m38,
      cal_of (ok__law_case (g := gK K) (Φ := call Pg k) rfl T C (Nat.le_add_left 1 k) F39) b39 F39.kp m39,
      cal_of (ok_law (g := gK K) (Φ := call Pg k) rfl T C (Nat.le_add_left 1 k) F40) b40 F40.kp m40⟩
theorem tx_of (X : K.In h) (G : h.Ns mainGlobals mg) (ck : ckC [0, 1, 2, 3, 5] K = true) (c : He.SaysD faD fnD K) : ∃ S fw fdw, Tx P w K mg base (gK K) S fw fdw := by
  have R : RefsC [0, 1, 2, 3, 5] K mg (gK K) := refsC_of X G ck
  obtain ⟨fdw, F⟩ := c.def_ 41 (d := mkD "law" 59) rfl
  have F1 : FunD K "law" "law" (defArgs (top 59)) (defBody (top 59)) (defScope (top 59)) [] [] (He.ga K "law") fdw := F
  have bi : mg "isinstance" = none := He.free_ok X G (c.fact 47 (f := .free "isinstance") rfl)
  have bv : mg "ValueError" = none := He.free_ok X G (c.fact 42 (f := .free "ValueError") rfl)
  exact ⟨He.ga K "StyleError", He.ga K "law", fdw, { b_all := He.free_ok X G (c.fact 43 (f := .free "all") rfl), b_bool := He.free_ok X G (c.fact 44 (f := .free "bool") rfl), b_enumerate := He.free_ok X G (c.fact 45 (f := .free "enumerate") rfl), b_int := He.free_ok X G (c.fact 46 (f := .free "int") rfl), b_isinstance := He.free_ok X G (c.fact 47 (f := .free "isinstance") rfl), b_len := He.free_ok X G (c.fact 48 (f := .free "len") rfl), b_list := He.free_ok X G (c.fact 49 (f := .free "list") rfl), b_max := He.free_ok X G (c.fact 50 (f := .free "max") rfl), b_range := He.free_ok X G (c.fact 51 (f := .free "range") rfl), b_sorted := He.free_ok X G (c.fact 52 (f := .free "sorted") rfl), b_str := He.free_ok X G (c.fact 53 (f := .free "str") rfl), b_sum := He.free_ok X G (c.fact 54 (f := .free "sum") rfl), b_tuple := He.free_ok X G (c.fact 55 (f := .free "tuple") rfl), b_zip := He.free_ok X G (c.fact 56 (f := .free "zip") rfl), g_SIGNS := He.str_ok X G (c.fact 57 (f := .str "SIGNS" "abcdefghijklmnopqrstuvwxyz") rfl), g_LONGEST := He.int_ok X G (c.fact 58 (f := .int "LONGEST" 6) rfl), g_PARTS := He.int_ok X G (c.fact 59 (f := .int "PARTS" 4) rfl), g_MOST := He.int_ok X G (c.fact 60 (f := .int "MOST" 60) rfl), g_QUIET := He.str_ok X G (c.fact 61 (f := .str "QUIET" "quiet") rfl), g_NODES := He.int_ok X G (c.fact 62 (f := .int "NODES" 6) rfl), g_HOLES := He.int_ok X G (c.fact 63 (f := .int "HOLES" 2) rfl), g_RULES := He.int_ok X G (c.fact 64 (f := .int "RULES" 4) rfl), R := R }⟩
end
abbrev ZRow : PySem.W.OpenRow := PySem.W.OpenLaw.row PySem.Challenge.rw_mendhouse_k20_whole_part_of_a_tree
abbrev hk : PySem.W.Hook := hookC [0, 1, 2, 3, 5] 4 faD fnD
def ob (s : PySem.W.SharedT) : AlZ := obsC [0, 1, 2, 3, 5] 4 faD fnD (HandSHeadRun.getT s)
theorem ob_eq (s : PySem.W.SharedT) : ob s = hk.obs s.abs := obsC_eq (HandSHeadRun.getT_eq s)
def loose : List Str := (["StyleError", "NoTree", "NoBook", "NoPlace", "NoFinding", "TooMany", "SIGNS", "LONGEST", "PARTS", "MOST", "QUIET", "is_word", "is_node", "is_tree", "need_tree", "found_at", "need_place", "part_at", "put_in", "put_at", "places_from", "loud_places", "NODES", "HOLES", "RULES", "is_hole", "is_pattern", "holes_in", "words_in", "is_rule"] : List Str) ++ (["is_book", "need_book", "fits", "filled", "mended", "findings_at", "all_findings", "findings", "rule_of", "done", "mend_at", "_law_cell_at", "_law_mixed", "_law_word", "_law_words", "_law_part", "_law_pattern", "_law_holes", "_law_count", "_law_mend", "_law_book", "_law_filled", "_law_tree", "_law_case"] : List Str)
theorem run (w : World) : HandSHeadRun.RunEq ZRow (PySem.W.view ZRow.prog [59]) hk ob 9000 loose w := by
  intro os
  kernel_rfl
end Z
open PySem PySem.W PySem.Calls PyProof.Rows
theorem Z.reduce (hlaw : ∀ ns : List Int, ns.length ≤ 63 → ∃ o, Z.call Z.Pg 200 86 [.scr ns] = .ok (.bl true) o) : PySem.Challenge.rw_mendhouse_k20_whole_part_of_a_tree.Holds := by
  w_on; o_law
  refine HandSHeadRun.head_any (r := Z.ZRow) (q := view Z.ZRow.prog [59]) (H := Z.hk) (ob := Z.ob) (M := 9000) (loose := Z.loose) (d := HandSHeadRun.topDef Z.ZRow.prog 59) (kwd := []) Z.ob_eq
    (by kernel_rfl) (fun s => by kernel_rfl) Z.run (by kernel_rfl) (by kernel_rfl) (by kernel_rfl) (by rfl) (by first | assumption | decide +kernel) (by decide +kernel) ⟨rfl, rfl, rfl, rfl, rfl, by decide +kernel⟩ ?hw ?hc
  case hw => w_witness2
  case hc =>
    refine L2.walk_ofE (l := PySem.Challenge.rw_mendhouse_k20_whole_part_of_a_tree) (n := 63) (k := 201) (x := "script") (CX := Z.CXA) rfl (by decide) (by kernel_rfl) ⟨rfl, by decide, by decide⟩ ?F (fun H s e s' z => z.out)
    intro w mg fa h Y G hmg0
    obtain ⟨K, KX, ck, c⟩ := Y
    have hmg : mg ("law" : PySem.Str) = some (.ref fa) := by
      have e : (HandSHeadRun.topDef Z.ZRow.prog 59).name = ("law" : PySem.Str) := by kernel_rfl
      rw [← e]
      exact hmg0
    have e := hmg.symm.trans (He.glo_ok KX G (c.fact 40 (f := .glo "law") rfl))
    cases e
    obtain ⟨fd, F⟩ := c.def_ 40 (d := Z.mkD "law" 59) rfl
    have b := L2.FunD.bindsA (ps := ["script"]) F fun _ _ _ _ _ _ us hl => match us, hl with | [_], _ => rfl
    refine ⟨K, fd, Z.spF (Z.gK K) (Z.call Z.Pg 200 86), KX, fun s v => b s [v] rfl, fun H a ns hl hO hS => Z.law_sp rfl hO hS (hlaw ns hl), fun base hKb hGb => ?_⟩
    obtain ⟨S, fw, fdw, T⟩ := Z.tx_of (P := (PySem.Challenge.rw_mendhouse_k20_whole_part_of_a_tree).prog) (w := w) (base := base) KX G ck c
    exact Z.FnOk.anyCX (Z.ok_law (g := Z.gK K) (Φ := Z.call Z.Pg 199) rfl T (Z.cs_all T KX G c 199) (Nat.le_add_left 1 199) F)

/-! plain Lean: words, patterns, rules, books that are ones -/
namespace Z
open PySem PySem.Spec PyProof.Rows L2
theorem r_is_word {Φ : Phi} {s : Str} (h : isW s) : runF c_is_word Φ [.str s] = .ok (.bl true) .non := by
  obtain ⟨h1, h2, h3⟩ := h
  have hs : s.length ≤ sizeLine := sl64 (by omega)
  have i1 : decide ((1 : Int) ≤ (s.length : Nat)) = true := decide_eq_true (by omega)
  have i2 : decide (((s.length : Nat) : Int) ≤ 6) = true := decide_eq_true (by omega)
  have hc : compR (tN 1) mTrue (b_is_word_e1 Φ) [1] (signs s) [SV.val (.str s), SV.un] = .ok (.f (.lst ((signs s).map fun _ => .bl true))) [SV.val (.str s), SV.un] := by
    refine compR_map _ rfl (by simp only [signs, List.length_map]; exact hs) rfl rfl fun d hd => ?_
    obtain ⟨c, hc, rfl⟩ := List.mem_map.1 hd
    refine ⟨_, _, [SV.val (.str s), SV.val (.str ⟨#[c]⟩)], rfl, rfl, ?_, rfl⟩
    have : decide (c ∈ abc.cps.toList) = true := decide_eq_true (h3 c hc)
    simp only [b_is_word_e1, runF, fr0, ioOf, mvM, mC, mN, mBin, mUn, mB, mAndT, mOrT, mNotT, mAndV, mOrV, mNotV, mHs, mDs, mTup, mLst, pks, mPrim, sSeq, sNil, oS, sPass, sExpr, sRet, sIf, setV, putH, sAsg, tN, tNil, tCons, tT, sAsgT, mCall, pk, mv, RD.hd, Out.bind, mTrue, mCh, mMt, mSl, mO0, mO1, mLM, mLM.isOwnL, isOwn, mComp, mCompN, lockF, unlk, sFor, sForN, unlS, mIL, mIT, mIS, mIR1, mIR2, wipeF, restF, vsOk, sRaise, sTry, mDnew, List.getElem?_cons_zero, List.getElem?_cons_succ, List.set_cons_zero, List.set_cons_succ, List.length_cons, List.length_nil, List.map_cons, List.map_nil, List.replicate_succ, List.replicate_zero, List.cons_append, List.nil_append, List.all_cons, List.all_nil, Option.map_some, Option.map_none, reduceIte, sl0, sl1, sl2, sl3, sl4, sl5, sl6, sl7, sl8, sl9, sl10, sl11, sl12, sl13, sl14, sl15, sl16, sl17, Bool.true_and, Bool.and_true, Bool.not_true, Bool.not_false, Nat.reduceAdd, Nat.reduceSub, Nat.zero_add, Bool.false_eq_true, decide_true, decide_false, List.length_append, Int.cast_ofNat_Int, Int.natCast_one, Int.natCast_zero, Int.reduceEq, Int.reduceLT, Int.reduceLE, Int.reduceAdd, Int.reduceMul, Int.reduceSub, Int.reduceNeg, ne_eq, not_true_eq_false, not_false_eq_true, inS, inB]
    exact congrArg (fun b => Out.ok (D.bl b) _) this
  simp only [c_is_word, b_is_word, runF, fr0, ioOf, mvM, mC, mN, mBin, mUn, mB, mAndT, mOrT, mNotT, mAndV, mOrV, mNotV, mHs, mDs, mTup, mLst, pks, mPrim, sSeq, sNil, oS, sPass, sExpr, sRet, sIf, setV, putH, sAsg, tN, tNil, tCons, tT, sAsgT, mCall, pk, mv, RD.hd, Out.bind, mTrue, mCh, mMt, mSl, mO0, mO1, mLM, mLM.isOwnL, isOwn, mComp, mCompN, lockF, unlk, sFor, sForN, unlS, mIL, mIT, mIS, mIR1, mIR2, wipeF, restF, vsOk, sRaise, sTry, mDnew, List.getElem?_cons_zero, List.getElem?_cons_succ, List.set_cons_zero, List.set_cons_succ, List.length_cons, List.length_nil, List.map_cons, List.map_nil, List.replicate_succ, List.replicate_zero, List.cons_append, List.nil_append, List.all_cons, List.all_nil, Option.map_some, Option.map_none, reduceIte, sl0, sl1, sl2, sl3, sl4, sl5, sl6, sl7, sl8, sl9, sl10, sl11, sl12, sl13, sl14, sl15, sl16, sl17, Bool.true_and, Bool.and_true, Bool.not_true, Bool.not_false, Nat.reduceAdd, Nat.reduceSub, Nat.zero_add, Bool.false_eq_true, decide_true, decide_false, List.length_append, Int.cast_ofNat_Int, Int.natCast_one, Int.natCast_zero, Int.reduceEq, Int.reduceLT, Int.reduceLE, Int.reduceAdd, Int.reduceMul, Int.reduceSub, Int.reduceNeg, ne_eq, not_true_eq_false, not_false_eq_true, isiS, isiB, leS, lenS, hs, i1, i2, hc, allS, boolsD_map (fun _ => true)]
  simp
theorem r_is_hole_i {Φ : Phi} {i : Int} : runF c_is_hole Φ [.int i] = .ok (.bl (decide (0 ≤ i) && decide (i < 2))) .non := by
  by_cases h : 0 ≤ i
  · simp only [c_is_hole, b_is_hole, runF, fr0, ioOf, mvM, mC, mN, mBin, mUn, mB, mAndT, mOrT, mNotT, mAndV, mOrV, mNotV, mHs, mDs, mTup, mLst, pks, mPrim, sSeq, sNil, oS, sPass, sExpr, sRet, sIf, setV, putH, sAsg, tN, tNil, tCons, tT, sAsgT, mCall, pk, mv, RD.hd, Out.bind, mTrue, mCh, mMt, mSl, mO0, mO1, mLM, mLM.isOwnL, isOwn, mComp, mCompN, lockF, unlk, sFor, sForN, unlS, mIL, mIT, mIS, mIR1, mIR2, wipeF, restF, vsOk, sRaise, sTry, mDnew, List.getElem?_cons_zero, List.getElem?_cons_succ, List.set_cons_zero, List.set_cons_succ, List.length_cons, List.length_nil, List.map_cons, List.map_nil, List.replicate_succ, List.replicate_zero, List.cons_append, List.nil_append, List.all_cons, List.all_nil, Option.map_some, Option.map_none, reduceIte, sl0, sl1, sl2, sl3, sl4, sl5, sl6, sl7, sl8, sl9, sl10, sl11, sl12, sl13, sl14, sl15, sl16, sl17, Bool.true_and, Bool.and_true, Bool.not_true, Bool.not_false, Nat.reduceAdd, Nat.reduceSub, Nat.zero_add, Bool.false_eq_true, decide_true, decide_false, List.length_append, Int.cast_ofNat_Int, Int.natCast_one, Int.natCast_zero, Int.reduceEq, Int.reduceLT, Int.reduceLE, Int.reduceAdd, Int.reduceMul, Int.reduceSub, Int.reduceNeg, ne_eq, not_true_eq_false, not_false_eq_true, isiS, isiB, leS, ltS, decide_eq_true h]
  · simp only [c_is_hole, b_is_hole, runF, fr0, ioOf, mvM, mC, mN, mBin, mUn, mB, mAndT, mOrT, mNotT, mAndV, mOrV, mNotV, mHs, mDs, mTup, mLst, pks, mPrim, sSeq, sNil, oS, sPass, sExpr, sRet, sIf, setV, putH, sAsg, tN, tNil, tCons, tT, sAsgT, mCall, pk, mv, RD.hd, Out.bind, mTrue, mCh, mMt, mSl, mO0, mO1, mLM, mLM.isOwnL, isOwn, mComp, mCompN, lockF, unlk, sFor, sForN, unlS, mIL, mIT, mIS, mIR1, mIR2, wipeF, restF, vsOk, sRaise, sTry, mDnew, List.getElem?_cons_zero, List.getElem?_cons_succ, List.set_cons_zero, List.set_cons_succ, List.length_cons, List.length_nil, List.map_cons, List.map_nil, List.replicate_succ, List.replicate_zero, List.cons_append, List.nil_append, List.all_cons, List.all_nil, Option.map_some, Option.map_none, reduceIte, sl0, sl1, sl2, sl3, sl4, sl5, sl6, sl7, sl8, sl9, sl10, sl11, sl12, sl13, sl14, sl15, sl16, sl17, Bool.true_and, Bool.and_true, Bool.not_true, Bool.not_false, Nat.reduceAdd, Nat.reduceSub, Nat.zero_add, Bool.false_eq_true, decide_true, decide_false, List.length_append, Int.cast_ofNat_Int, Int.natCast_one, Int.natCast_zero, Int.reduceEq, Int.reduceLT, Int.reduceLE, Int.reduceAdd, Int.reduceMul, Int.reduceSub, Int.reduceNeg, ne_eq, not_true_eq_false, not_false_eq_true, isiS, isiB, leS, ltS, decide_eq_false h, Bool.false_and]
theorem r_is_hole_t {Φ : Phi} {ds : List D} : runF c_is_hole Φ [.tup ds] = .ok (.bl false) .non := by
  simp only [c_is_hole, b_is_hole, runF, fr0, ioOf, mvM, mC, mN, mBin, mUn, mB, mAndT, mOrT, mNotT, mAndV, mOrV, mNotV, mHs, mDs, mTup, mLst, pks, mPrim, sSeq, sNil, oS, sPass, sExpr, sRet, sIf, setV, putH, sAsg, tN, tNil, tCons, tT, sAsgT, mCall, pk, mv, RD.hd, Out.bind, mTrue, mCh, mMt, mSl, mO0, mO1, mLM, mLM.isOwnL, isOwn, mComp, mCompN, lockF, unlk, sFor, sForN, unlS, mIL, mIT, mIS, mIR1, mIR2, wipeF, restF, vsOk, sRaise, sTry, mDnew, List.getElem?_cons_zero, List.getElem?_cons_succ, List.set_cons_zero, List.set_cons_succ, List.length_cons, List.length_nil, List.map_cons, List.map_nil, List.replicate_succ, List.replicate_zero, List.cons_append, List.nil_append, List.all_cons, List.all_nil, Option.map_some, Option.map_none, reduceIte, sl0, sl1, sl2, sl3, sl4, sl5, sl6, sl7, sl8, sl9, sl10, sl11, sl12, sl13, sl14, sl15, sl16, sl17, Bool.true_and, Bool.and_true, Bool.not_true, Bool.not_false, Nat.reduceAdd, Nat.reduceSub, Nat.zero_add, Bool.false_eq_true, decide_true, decide_false, List.length_append, Int.cast_ofNat_Int, Int.natCast_one, Int.natCast_zero, Int.reduceEq, Int.reduceLT, Int.reduceLE, Int.reduceAdd, Int.reduceMul, Int.reduceSub, Int.reduceNeg, ne_eq, not_true_eq_false, not_false_eq_true, isiS, isiB, leS, ltS]
theorem ix2_0 {a b : D} : ixS (.tup [a, b]) (.int 0) = some (.v a) := rfl
theorem ix2_1 {a b : D} : ixS (.tup [a, b]) (.int 1) = some (.v b) := rfl
theorem ix3_0 {a b c : D} : ixS (.tup [a, b, c]) (.int 0) = some (.v a) := rfl
theorem ix3_1 {a b c : D} : ixS (.tup [a, b, c]) (.int 1) = some (.v b) := rfl
theorem ix3_2 {a b c : D} : ixS (.tup [a, b, c]) (.int 2) = some (.v c) := rfl
theorem eqS_str {a b : Str} : eqS (.str a) (.str b) = some (.v (.bl (decide (a = b)))) := by
  have : D.eq (.str a) (.str b) = decide (a = b) := by simp only [D.eq, D.py, PyData.eqv]; rfl
  rw [← this]; rfl
theorem neS_int {a b : Int} : neS (.int a) (.int b) = some (.v (.bl (decide (a ≠ b)))) := by
  have : D.eq (.int a) (.int b) = decide (a = b) := by simp only [D.eq, D.py, PyData.eqv]; rfl
  have h : neS (.int a) (.int b) = some (.v (.bl (!D.eq (.int a) (.int b)))) := rfl
  rw [h, this]; simp
theorem eqS_int {a b : Int} : eqS (.int a) (.int b) = some (.v (.bl (decide (a = b)))) := by
  have : D.eq (.int a) (.int b) = decide (a = b) := by simp only [D.eq, D.py, PyData.eqv]; rfl
  rw [← this]; rfl
theorem neS_nil {xs : List D} (h : D.lays xs = true) : neS (.lst xs) (.lst []) = some (.v (.bl (!xs.isEmpty))) := by
  have e : D.eq (.lst xs) (.lst []) = xs.isEmpty := by cases xs <;> simp [D.eq, D.py, D.pys, PyData.eqv, PyData.eqvAll]
  have c : cmpOk (.lst xs) (.lst []) = true := by
    have : (D.lst []).dep = 1 := rfl
    unfold cmpOk
    rw [this]
    have m : min (D.lst xs).dep 1 ≤ 190 := Nat.le_trans (Nat.min_le_right _ _) (by decide)
    simp only [D.lay, D.lays, h, decide_eq_true m, Bool.and_self]
  unfold neS
  rw [if_pos c, e]
theorem lays_app : ∀ {xs ys : List D}, D.lays (xs ++ ys) = (D.lays xs && D.lays ys)
  | [], ys => by simp [D.lays]
  | x :: xs, ys => by simp [D.lays, lays_app (xs := xs), Bool.and_assoc]
mutual
theorem T.lay : ∀ t : T, t.d.lay = true
  | .h _ => rfl
  | .n w ps => by simp only [T.d, D.lay, D.lays, T.lays ps, Bool.and_self]
theorem T.lays : ∀ l : List T, D.lays (T.ds l) = true
  | [] => rfl
  | t :: ts => by simp only [T.ds, D.lays, T.lay t, T.lays ts, Bool.and_self]
end
theorem T.ds_app (a b : List T) : T.ds (a ++ b) = T.ds a ++ T.ds b := by simp [T.ds_map]
theorem T.ds_len (a : List T) : (T.ds a).length = a.length := by simp [T.ds_map]
theorem pop_end (a : List D) (x : D) : lmPop (a ++ [x]) [] = some (a, x) := by simp [lmPop]
theorem szs_app : ∀ a b : List T, T.szs (a ++ b) = T.szs a + T.szs b
  | [], b => by simp [T.szs]
  | t :: ts, b => by simp [T.szs, szs_app ts b]; omega
structure PhP (Φ : Phi) : Prop where
  w : ∀ s, isW s → Φ 1 [.str s] = .ok (.bl true) .non
  hi : ∀ i, Φ 2 [.int i] = .ok (.bl (decide (0 ≤ i) && decide (i < 2))) .non
  ht : ∀ ds, Φ 2 [.tup ds] = .ok (.bl false) .non
theorem pat_loop {Φ : Phi} (P : PhP Φ) {x : D} : ∀ (n : Nat) (l : List T) (m : Nat) (s : SV), nl s = true → T.goods l → T.szs l + m ≤ 6 → T.szs l < n →
    ∃ j s', whileL (b_is_pattern_c1 Φ) (b_is_pattern_w1 Φ) n [.val x, .ow false (.lst (T.ds l)), .val (.int m), s] = .nx [.val x, .ow false (.lst []), .val j, s']
  | 0, l, m, s, _, _, _, h => absurd h (Nat.not_lt_zero _)
  | n + 1, l, m, s, hs, hg, h6, hn => by
    have ly : D.lays (T.ds l) = true := T.lays l
    rcases List.eq_nil_or_concat l with rfl | ⟨r, t, rfl⟩
    · refine ⟨.int m, s, whileL_no ?_⟩
      simp only [b_is_pattern_c1, runF, fr0, ioOf, mvM, mC, mN, mBin, mUn, mB, mAndT, mOrT, mNotT, mAndV, mOrV, mNotV, mHs, mDs, mTup, mLst, pks, mPrim, sSeq, sNil, oS, sPass, sExpr, sRet, sIf, setV, putH, sAsg, tN, tNil, tCons, tT, sAsgT, mCall, pk, mv, RD.hd, Out.bind, mTrue, mCh, mMt, mSl, mO0, mO1, mLM, mLM.isOwnL, isOwn, mComp, mCompN, lockF, unlk, sFor, sForN, unlS, mIL, mIT, mIS, mIR1, mIR2, wipeF, restF, vsOk, sRaise, sTry, mDnew, List.getElem?_cons_zero, List.getElem?_cons_succ, List.set_cons_zero, List.set_cons_succ, List.length_cons, List.length_nil, List.map_cons, List.map_nil, List.replicate_succ, List.replicate_zero, List.cons_append, List.nil_append, List.all_cons, List.all_nil, Option.map_some, Option.map_none, reduceIte, sl0, sl1, sl2, sl3, sl4, sl5, sl6, sl7, sl8, sl9, sl10, sl11, sl12, sl13, sl14, sl15, sl16, sl17, Bool.true_and, Bool.and_true, Bool.not_true, Bool.not_false, Nat.reduceAdd, Nat.reduceSub, Nat.zero_add, Bool.false_eq_true, decide_true, decide_false, List.length_append, Int.cast_ofNat_Int, Int.natCast_one, Int.natCast_zero, Int.reduceEq, Int.reduceLT, Int.reduceLE, Int.reduceAdd, Int.reduceMul, Int.reduceSub, Int.reduceNeg, ne_eq, not_true_eq_false, not_false_eq_true, T.ds, neS_nil (xs := []) rfl, List.isEmpty_nil]
    · rw [List.concat_eq_append] at *
      have hg' := T.goods_mem.1 hg
      have gt := hg' t (by simp)
      have gr : T.goods r := T.goods_mem.2 fun y hy => hg' y (by simp [hy])
      rw [szs_app] at h6 hn
      simp only [T.szs, Nat.add_zero] at h6 hn
      have ge : decide ((6 : Int) < (m : Int) + 1) = false := decide_eq_false (by have := T.sz_pos t; omega)
      have e : T.ds (r ++ [t]) = T.ds r ++ [t.d] := by rw [T.ds_app]; rfl
      rw [e] at ly ⊢
      have ne : (!(T.ds r ++ [t.d]).isEmpty) = true := by simp
      have hC : b_is_pattern_c1 Φ [.val x, .ow false (.lst (T.ds r ++ [t.d])), .val (.int m), s] = .ok true [.val x, .ow false (.lst (T.ds r ++ [t.d])), .val (.int m), s] := by
        simp only [b_is_pattern_c1, runF, fr0, ioOf, mvM, mC, mN, mBin, mUn, mB, mAndT, mOrT, mNotT, mAndV, mOrV, mNotV, mHs, mDs, mTup, mLst, pks, mPrim, sSeq, sNil, oS, sPass, sExpr, sRet, sIf, setV, putH, sAsg, tN, tNil, tCons, tT, sAsgT, mCall, pk, mv, RD.hd, Out.bind, mTrue, mCh, mMt, mSl, mO0, mO1, mLM, mLM.isOwnL, isOwn, mComp, mCompN, lockF, unlk, sFor, sForN, unlS, mIL, mIT, mIS, mIR1, mIR2, wipeF, restF, vsOk, sRaise, sTry, mDnew, List.getElem?_cons_zero, List.getElem?_cons_succ, List.set_cons_zero, List.set_cons_succ, List.length_cons, List.length_nil, List.map_cons, List.map_nil, List.replicate_succ, List.replicate_zero, List.cons_append, List.nil_append, List.all_cons, List.all_nil, Option.map_some, Option.map_none, reduceIte, sl0, sl1, sl2, sl3, sl4, sl5, sl6, sl7, sl8, sl9, sl10, sl11, sl12, sl13, sl14, sl15, sl16, sl17, Bool.true_and, Bool.and_true, Bool.not_true, Bool.not_false, Nat.reduceAdd, Nat.reduceSub, Nat.zero_add, Bool.false_eq_true, decide_true, decide_false, List.length_append, Int.cast_ofNat_Int, Int.natCast_one, Int.natCast_zero, Int.reduceEq, Int.reduceLT, Int.reduceLE, Int.reduceAdd, Int.reduceMul, Int.reduceSub, Int.reduceNeg, ne_eq, not_true_eq_false, not_false_eq_true, neS_nil ly, ne]
      cases t with
      | h i =>
        obtain ⟨g1, g2⟩ := gt
        have ih := pat_loop P (x := x) n r (m + 1) (.val (.int i)) rfl gr (by simp only [T.sz] at h6; omega) (by simp only [T.sz] at hn; omega)
        simp only [T.d] at hC ⊢
        rw [whileL_yes hC (A2 := [.val x, .ow false (.lst (T.ds r)), .val (.int ((m + 1 : Nat))), .val (.int i)])]
        · exact ih
        · rcases nl_cases hs with rfl | ⟨d, rfl⟩ | ⟨d, rfl⟩ <;> simp only [b_is_pattern_w1, runF, fr0, ioOf, mvM, mC, mN, mBin, mUn, mB, mAndT, mOrT, mNotT, mAndV, mOrV, mNotV, mHs, mDs, mTup, mLst, pks, mPrim, sSeq, sNil, oS, sPass, sExpr, sRet, sIf, setV, putH, sAsg, tN, tNil, tCons, tT, sAsgT, mCall, pk, mv, RD.hd, Out.bind, mTrue, mCh, mMt, mSl, mO0, mO1, mLM, mLM.isOwnL, isOwn, mComp, mCompN, lockF, unlk, sFor, sForN, unlS, mIL, mIT, mIS, mIR1, mIR2, wipeF, restF, vsOk, sRaise, sTry, mDnew, List.getElem?_cons_zero, List.getElem?_cons_succ, List.set_cons_zero, List.set_cons_succ, List.length_cons, List.length_nil, List.map_cons, List.map_nil, List.replicate_succ, List.replicate_zero, List.cons_append, List.nil_append, List.all_cons, List.all_nil, Option.map_some, Option.map_none, reduceIte, sl0, sl1, sl2, sl3, sl4, sl5, sl6, sl7, sl8, sl9, sl10, sl11, sl12, sl13, sl14, sl15, sl16, sl17, Bool.true_and, Bool.and_true, Bool.not_true, Bool.not_false, Nat.reduceAdd, Nat.reduceSub, Nat.zero_add, Bool.false_eq_true, decide_true, decide_false, List.length_append, Int.cast_ofNat_Int, Int.natCast_one, Int.natCast_zero, Int.reduceEq, Int.reduceLT, Int.reduceLE, Int.reduceAdd, Int.reduceMul, Int.reduceSub, Int.reduceNeg, ne_eq, not_true_eq_false, not_false_eq_true, pop_end, addS, gtS, ge, P.hi, decide_eq_true g1, decide_eq_true g2] <;> rfl
      | n w ps =>
        obtain ⟨g1, g2, g3, g4⟩ := gt
        have ih := pat_loop P (x := x) n (r ++ ps) (m + 1) (.val (T.n w ps).d) rfl (T.goods_mem.2 fun y hy => (List.mem_append.1 hy).elim (T.goods_mem.1 gr y) (T.goods_mem.1 g4 y)) (by rw [szs_app]; simp only [T.sz] at h6; omega) (by rw [szs_app]; simp only [T.sz] at hn; omega)
        rw [T.ds_app] at ih
        have sl : (T.ds r).length + (T.ds ps).length ≤ sizeLine := by
          rw [T.ds_len, T.ds_len]
          have a := T.szs_len r; have b := T.szs_len ps
          simp only [T.sz] at h6
          exact sl64 (by omega)
        have l4 : decide ((4 : Int) < (((T.ds ps).length : Nat) : Int)) = false := decide_eq_false (by rw [T.ds_len]; omega)
        have nq : decide (w = Str.ofString "quiet") = false := decide_eq_false g2
        simp only [T.d] at hC ih ⊢
        rw [whileL_yes hC (A2 := [.val x, .ow false (.lst (T.ds r ++ T.ds ps)), .val (.int ((m + 1 : Nat))), .val (.tup [.str w, .tup (T.ds ps)])])]
        · exact ih
        · rcases nl_cases hs with rfl | ⟨d, rfl⟩ | ⟨d, rfl⟩ <;> simp only [b_is_pattern_w1, runF, fr0, ioOf, mvM, mC, mN, mBin, mUn, mB, mAndT, mOrT, mNotT, mAndV, mOrV, mNotV, mHs, mDs, mTup, mLst, pks, mPrim, sSeq, sNil, oS, sPass, sExpr, sRet, sIf, setV, putH, sAsg, tN, tNil, tCons, tT, sAsgT, mCall, pk, mv, RD.hd, Out.bind, mTrue, mCh, mMt, mSl, mO0, mO1, mLM, mLM.isOwnL, isOwn, mComp, mCompN, lockF, unlk, sFor, sForN, unlS, mIL, mIT, mIS, mIR1, mIR2, wipeF, restF, vsOk, sRaise, sTry, mDnew, List.getElem?_cons_zero, List.getElem?_cons_succ, List.set_cons_zero, List.set_cons_succ, List.length_cons, List.length_nil, List.map_cons, List.map_nil, List.replicate_succ, List.replicate_zero, List.cons_append, List.nil_append, List.all_cons, List.all_nil, Option.map_some, Option.map_none, reduceIte, sl0, sl1, sl2, sl3, sl4, sl5, sl6, sl7, sl8, sl9, sl10, sl11, sl12, sl13, sl14, sl15, sl16, sl17, Bool.true_and, Bool.and_true, Bool.not_true, Bool.not_false, Nat.reduceAdd, Nat.reduceSub, Nat.zero_add, Bool.false_eq_true, decide_true, decide_false, List.length_append, Int.cast_ofNat_Int, Int.natCast_one, Int.natCast_zero, Int.reduceEq, Int.reduceLT, Int.reduceLE, Int.reduceAdd, Int.reduceMul, Int.reduceSub, Int.reduceNeg, ne_eq, not_true_eq_false, not_false_eq_true, pop_end, addS, gtS, ge, P.ht, P.w w g1, isiS, isiB, lenS, ix2_0, ix2_1, neS_int, eqS_str, nq, l4, listS, lmExtend, sl] <;> rfl
theorem r_is_pattern {Φ : Phi} (P : PhP Φ) {t : T} (g : t.good) (h6 : t.sz ≤ 6) : runF c_is_pattern Φ [t.d] = .ok (.bl true) .non := by
  obtain ⟨j, s', e⟩ := pat_loop P (x := t.d) 100000 [t] 0 .un rfl ⟨g, trivial⟩ (by simp only [T.szs]; omega) (by simp only [T.szs]; omega)
  simp only [T.ds] at e
  have e2 : sWhile 100000 (b_is_pattern_c1 Φ) (b_is_pattern_w1 Φ) [.val t.d, .ow false (.lst [t.d]), .val (.int 0), .un] = _ := e
  simp only [c_is_pattern, b_is_pattern, runF, fr0, ioOf, mvM, mC, mN, mBin, mUn, mB, mAndT, mOrT, mNotT, mAndV, mOrV, mNotV, mHs, mDs, mTup, mLst, pks, mPrim, sSeq, sNil, oS, sPass, sExpr, sRet, sIf, setV, putH, sAsg, tN, tNil, tCons, tT, sAsgT, mCall, pk, mv, RD.hd, Out.bind, mTrue, mCh, mMt, mSl, mO0, mO1, mLM, mLM.isOwnL, isOwn, mComp, mCompN, lockF, unlk, sFor, sForN, unlS, mIL, mIT, mIS, mIR1, mIR2, wipeF, restF, vsOk, sRaise, sTry, mDnew, List.getElem?_cons_zero, List.getElem?_cons_succ, List.set_cons_zero, List.set_cons_succ, List.length_cons, List.length_nil, List.map_cons, List.map_nil, List.replicate_succ, List.replicate_zero, List.cons_append, List.nil_append, List.all_cons, List.all_nil, Option.map_some, Option.map_none, reduceIte, sl0, sl1, sl2, sl3, sl4, sl5, sl6, sl7, sl8, sl9, sl10, sl11, sl12, sl13, sl14, sl15, sl16, sl17, Bool.true_and, Bool.and_true, Bool.not_true, Bool.not_false, Nat.reduceAdd, Nat.reduceSub, Nat.zero_add, Bool.false_eq_true, decide_true, decide_false, List.length_append, Int.cast_ofNat_Int, Int.natCast_one, Int.natCast_zero, Int.reduceEq, Int.reduceLT, Int.reduceLE, Int.reduceAdd, Int.reduceMul, Int.reduceSub, Int.reduceNeg, ne_eq, not_true_eq_false, not_false_eq_true, sl1, e2]

-- PART2
def fstOk : FOut → D
  | .ok d _ => d
  | _ => .non
theorem sum_cnt : ∀ l : List T, (l.map fun y : T => (y.cnt : Int)).sum = (T.cnts l : Nat)
  | [] => rfl
  | t :: ts => by rw [List.map_cons, List.sum_cons, sum_cnt ts, T.cnts, Int.natCast_add]
mutual
theorem T.holes_sz : ∀ t : T, t.holes.length ≤ t.sz
  | .h _ => Nat.le_refl 1
  | .n _ ps => by have := T.holesL_szs ps; simp only [T.holes, T.sz]; omega
theorem T.holesL_szs : ∀ l : List T, (T.holesL l).length ≤ T.szs l
  | [] => Nat.le_refl 0
  | t :: ts => by have a := T.holes_sz t; have b := T.holesL_szs ts; simp only [T.holesL, T.szs, List.length_append]; omega
end
theorem T.sz_mem : ∀ {l : List T} {t : T}, t ∈ l → t.sz ≤ T.szs l
  | t :: ts, x, hm => by
    rcases List.mem_cons.1 hm with rfl | hm
    · simp only [T.szs]; omega
    · have := T.sz_mem hm; simp only [T.szs]; omega

theorem holes_in_l {Φ : Phi} {x : D} : ∀ (ps : List T) (acc : List D) (s : SV), nl s = true → (∀ t, t ∈ ps → Φ 4 [t.d] = .ok (.lst (t.holes.map .int)) .non) → acc.length + (T.holesL ps).length ≤ sizeLine →
    ∃ s', forL (tN 2) (b_holes_in_l1 Φ) (T.ds ps) [.val x, .ow false (.lst acc), s] = .nx [.val x, .ow false (.lst (acc ++ (T.holesL ps).map .int)), s']
  | [], acc, s, _, _, _ => ⟨s, by simp [T.ds, forL, T.holesL]⟩
  | t :: ts, acc, s, hs, hΦ, hl => by
    simp only [T.holesL, List.length_append] at hl
    have e : acc.length + (t.holes.map D.int).length ≤ sizeLine := by simp only [List.length_map]; omega
    obtain ⟨s', ih⟩ := holes_in_l (Φ := Φ) (x := x) ts (acc ++ t.holes.map .int) (.val t.d) rfl (fun y hy => hΦ y (by simp [hy])) (by simp only [List.length_append, List.length_map]; omega)
    refine ⟨s', ?_⟩
    have h0 := hΦ t (by simp)
    simp only [T.ds, T.holesL, List.map_append]
    rw [← List.append_assoc, ← ih]
    conv => lhs; unfold forL
    rcases nl_cases hs with rfl | ⟨d, rfl⟩ | ⟨d, rfl⟩ <;> simp only [b_holes_in_l1, runF, fr0, ioOf, mvM, mC, mN, mBin, mUn, mB, mAndT, mOrT, mNotT, mAndV, mOrV, mNotV, mHs, mDs, mTup, mLst, pks, mPrim, sSeq, sNil, oS, sPass, sExpr, sRet, sIf, setV, putH, sAsg, tN, tNil, tCons, tT, sAsgT, mCall, pk, mv, RD.hd, Out.bind, mTrue, mCh, mMt, mSl, mO0, mO1, mLM, mLM.isOwnL, isOwn, mComp, mCompN, lockF, unlk, sFor, sForN, unlS, mIL, mIT, mIS, mIR1, mIR2, wipeF, restF, vsOk, sRaise, sTry, mDnew, List.getElem?_cons_zero, List.getElem?_cons_succ, List.set_cons_zero, List.set_cons_succ, List.length_cons, List.length_nil, List.map_cons, List.map_nil, List.replicate_succ, List.replicate_zero, List.cons_append, List.nil_append, List.all_cons, List.all_nil, Option.map_some, Option.map_none, reduceIte, sl0, sl1, sl2, sl3, sl4, sl5, sl6, sl7, sl8, sl9, sl10, sl11, sl12, sl13, sl14, sl15, sl16, sl17, Bool.true_and, Bool.and_true, Bool.not_true, Bool.not_false, Nat.reduceAdd, Nat.reduceSub, Nat.zero_add, Bool.false_eq_true, decide_true, decide_false, List.length_append, Int.cast_ofNat_Int, Int.natCast_one, Int.natCast_zero, Int.reduceEq, Int.reduceLT, Int.reduceLE, Int.reduceAdd, Int.reduceMul, Int.reduceSub, Int.reduceNeg, ne_eq, not_true_eq_false, not_false_eq_true, h0, lmExtend, e]
theorem r_holes_in {Φ : Phi} : ∀ (t : T), t.holes.length ≤ 64 → (∀ w ps, t = .n w ps → ∀ y, y ∈ ps → Φ 4 [y.d] = .ok (.lst (y.holes.map .int)) .non) → runF c_holes_in Φ [t.d] = .ok (.lst (t.holes.map .int)) .non
  | .h i, _, _ => by simp only [c_holes_in, b_holes_in, runF, fr0, ioOf, mvM, mC, mN, mBin, mUn, mB, mAndT, mOrT, mNotT, mAndV, mOrV, mNotV, mHs, mDs, mTup, mLst, pks, mPrim, sSeq, sNil, oS, sPass, sExpr, sRet, sIf, setV, putH, sAsg, tN, tNil, tCons, tT, sAsgT, mCall, pk, mv, RD.hd, Out.bind, mTrue, mCh, mMt, mSl, mO0, mO1, mLM, mLM.isOwnL, isOwn, mComp, mCompN, lockF, unlk, sFor, sForN, unlS, mIL, mIT, mIS, mIR1, mIR2, wipeF, restF, vsOk, sRaise, sTry, mDnew, List.getElem?_cons_zero, List.getElem?_cons_succ, List.set_cons_zero, List.set_cons_succ, List.length_cons, List.length_nil, List.map_cons, List.map_nil, List.replicate_succ, List.replicate_zero, List.cons_append, List.nil_append, List.all_cons, List.all_nil, Option.map_some, Option.map_none, reduceIte, sl0, sl1, sl2, sl3, sl4, sl5, sl6, sl7, sl8, sl9, sl10, sl11, sl12, sl13, sl14, sl15, sl16, sl17, Bool.true_and, Bool.and_true, Bool.not_true, Bool.not_false, Nat.reduceAdd, Nat.reduceSub, Nat.zero_add, Bool.false_eq_true, decide_true, decide_false, List.length_append, Int.cast_ofNat_Int, Int.natCast_one, Int.natCast_zero, Int.reduceEq, Int.reduceLT, Int.reduceLE, Int.reduceAdd, Int.reduceMul, Int.reduceSub, Int.reduceNeg, ne_eq, not_true_eq_false, not_false_eq_true, T.d, isiS, isiB, T.holes]
  | .n w ps, hl, hΦ => by
    obtain ⟨s', e⟩ := holes_in_l (Φ := Φ) (x := (T.n w ps).d) ps [] .un rfl (fun y hy => hΦ w ps rfl y hy) (by simp only [List.length_nil, Nat.zero_add]; exact sl64 hl)
    simp only [T.d, List.nil_append] at e
    simp only [c_holes_in, b_holes_in, runF, fr0, ioOf, mvM, mC, mN, mBin, mUn, mB, mAndT, mOrT, mNotT, mAndV, mOrV, mNotV, mHs, mDs, mTup, mLst, pks, mPrim, sSeq, sNil, oS, sPass, sExpr, sRet, sIf, setV, putH, sAsg, tN, tNil, tCons, tT, sAsgT, mCall, pk, mv, RD.hd, Out.bind, mTrue, mCh, mMt, mSl, mO0, mO1, mLM, mLM.isOwnL, isOwn, mComp, mCompN, lockF, unlk, sFor, sForN, unlS, mIL, mIT, mIS, mIR1, mIR2, wipeF, restF, vsOk, sRaise, sTry, mDnew, List.getElem?_cons_zero, List.getElem?_cons_succ, List.set_cons_zero, List.set_cons_succ, List.length_cons, List.length_nil, List.map_cons, List.map_nil, List.replicate_succ, List.replicate_zero, List.cons_append, List.nil_append, List.all_cons, List.all_nil, Option.map_some, Option.map_none, reduceIte, sl0, sl1, sl2, sl3, sl4, sl5, sl6, sl7, sl8, sl9, sl10, sl11, sl12, sl13, sl14, sl15, sl16, sl17, Bool.true_and, Bool.and_true, Bool.not_true, Bool.not_false, Nat.reduceAdd, Nat.reduceSub, Nat.zero_add, Bool.false_eq_true, decide_true, decide_false, List.length_append, Int.cast_ofNat_Int, Int.natCast_one, Int.natCast_zero, Int.reduceEq, Int.reduceLT, Int.reduceLE, Int.reduceAdd, Int.reduceMul, Int.reduceSub, Int.reduceNeg, ne_eq, not_true_eq_false, not_false_eq_true, T.d, isiS, isiB, T.holes, ix2_1, e]

theorem _law_holes_l {Φ : Phi} {x : D} : ∀ (ps : List T) (acc : List D) (s : SV), nl s = true → (∀ t, t ∈ ps → Φ 16 [t.d] = .ok (.lst (t.holes.map .int)) .non) → acc.length + (T.holesL ps).length ≤ sizeLine →
    ∃ s', forL (tN 2) (b__law_holes_l1 Φ) (T.ds ps) [.val x, .ow false (.lst acc), s] = .nx [.val x, .ow false (.lst (acc ++ (T.holesL ps).map .int)), s']
  | [], acc, s, _, _, _ => ⟨s, by simp [T.ds, forL, T.holesL]⟩
  | t :: ts, acc, s, hs, hΦ, hl => by
    simp only [T.holesL, List.length_append] at hl
    have e : acc.length + (t.holes.map D.int).length ≤ sizeLine := by simp only [List.length_map]; omega
    obtain ⟨s', ih⟩ := _law_holes_l (Φ := Φ) (x := x) ts (acc ++ t.holes.map .int) (.val t.d) rfl (fun y hy => hΦ y (by simp [hy])) (by simp only [List.length_append, List.length_map]; omega)
    refine ⟨s', ?_⟩
    have h0 := hΦ t (by simp)
    simp only [T.ds, T.holesL, List.map_append]
    rw [← List.append_assoc, ← ih]
    conv => lhs; unfold forL
    rcases nl_cases hs with rfl | ⟨d, rfl⟩ | ⟨d, rfl⟩ <;> simp only [b__law_holes_l1, runF, fr0, ioOf, mvM, mC, mN, mBin, mUn, mB, mAndT, mOrT, mNotT, mAndV, mOrV, mNotV, mHs, mDs, mTup, mLst, pks, mPrim, sSeq, sNil, oS, sPass, sExpr, sRet, sIf, setV, putH, sAsg, tN, tNil, tCons, tT, sAsgT, mCall, pk, mv, RD.hd, Out.bind, mTrue, mCh, mMt, mSl, mO0, mO1, mLM, mLM.isOwnL, isOwn, mComp, mCompN, lockF, unlk, sFor, sForN, unlS, mIL, mIT, mIS, mIR1, mIR2, wipeF, restF, vsOk, sRaise, sTry, mDnew, List.getElem?_cons_zero, List.getElem?_cons_succ, List.set_cons_zero, List.set_cons_succ, List.length_cons, List.length_nil, List.map_cons, List.map_nil, List.replicate_succ, List.replicate_zero, List.cons_append, List.nil_append, List.all_cons, List.all_nil, Option.map_some, Option.map_none, reduceIte, sl0, sl1, sl2, sl3, sl4, sl5, sl6, sl7, sl8, sl9, sl10, sl11, sl12, sl13, sl14, sl15, sl16, sl17, Bool.true_and, Bool.and_true, Bool.not_true, Bool.not_false, Nat.reduceAdd, Nat.reduceSub, Nat.zero_add, Bool.false_eq_true, decide_true, decide_false, List.length_append, Int.cast_ofNat_Int, Int.natCast_one, Int.natCast_zero, Int.reduceEq, Int.reduceLT, Int.reduceLE, Int.reduceAdd, Int.reduceMul, Int.reduceSub, Int.reduceNeg, ne_eq, not_true_eq_false, not_false_eq_true, h0, lmExtend, e]
theorem r__law_holes {Φ : Phi} : ∀ (t : T), t.holes.length ≤ 64 → (∀ w ps, t = .n w ps → ∀ y, y ∈ ps → Φ 16 [y.d] = .ok (.lst (y.holes.map .int)) .non) → runF c__law_holes Φ [t.d] = .ok (.lst (t.holes.map .int)) .non
  | .h i, _, _ => by simp only [c__law_holes, b__law_holes, runF, fr0, ioOf, mvM, mC, mN, mBin, mUn, mB, mAndT, mOrT, mNotT, mAndV, mOrV, mNotV, mHs, mDs, mTup, mLst, pks, mPrim, sSeq, sNil, oS, sPass, sExpr, sRet, sIf, setV, putH, sAsg, tN, tNil, tCons, tT, sAsgT, mCall, pk, mv, RD.hd, Out.bind, mTrue, mCh, mMt, mSl, mO0, mO1, mLM, mLM.isOwnL, isOwn, mComp, mCompN, lockF, unlk, sFor, sForN, unlS, mIL, mIT, mIS, mIR1, mIR2, wipeF, restF, vsOk, sRaise, sTry, mDnew, List.getElem?_cons_zero, List.getElem?_cons_succ, List.set_cons_zero, List.set_cons_succ, List.length_cons, List.length_nil, List.map_cons, List.map_nil, List.replicate_succ, List.replicate_zero, List.cons_append, List.nil_append, List.all_cons, List.all_nil, Option.map_some, Option.map_none, reduceIte, sl0, sl1, sl2, sl3, sl4, sl5, sl6, sl7, sl8, sl9, sl10, sl11, sl12, sl13, sl14, sl15, sl16, sl17, Bool.true_and, Bool.and_true, Bool.not_true, Bool.not_false, Nat.reduceAdd, Nat.reduceSub, Nat.zero_add, Bool.false_eq_true, decide_true, decide_false, List.length_append, Int.cast_ofNat_Int, Int.natCast_one, Int.natCast_zero, Int.reduceEq, Int.reduceLT, Int.reduceLE, Int.reduceAdd, Int.reduceMul, Int.reduceSub, Int.reduceNeg, ne_eq, not_true_eq_false, not_false_eq_true, T.d, isiS, isiB, T.holes]
  | .n w ps, hl, hΦ => by
    obtain ⟨s', e⟩ := _law_holes_l (Φ := Φ) (x := (T.n w ps).d) ps [] .un rfl (fun y hy => hΦ w ps rfl y hy) (by simp only [List.length_nil, Nat.zero_add]; exact sl64 hl)
    simp only [T.d, List.nil_append] at e
    simp only [c__law_holes, b__law_holes, runF, fr0, ioOf, mvM, mC, mN, mBin, mUn, mB, mAndT, mOrT, mNotT, mAndV, mOrV, mNotV, mHs, mDs, mTup, mLst, pks, mPrim, sSeq, sNil, oS, sPass, sExpr, sRet, sIf, setV, putH, sAsg, tN, tNil, tCons, tT, sAsgT, mCall, pk, mv, RD.hd, Out.bind, mTrue, mCh, mMt, mSl, mO0, mO1, mLM, mLM.isOwnL, isOwn, mComp, mCompN, lockF, unlk, sFor, sForN, unlS, mIL, mIT, mIS, mIR1, mIR2, wipeF, restF, vsOk, sRaise, sTry, mDnew, List.getElem?_cons_zero, List.getElem?_cons_succ, List.set_cons_zero, List.set_cons_succ, List.length_cons, List.length_nil, List.map_cons, List.map_nil, List.replicate_succ, List.replicate_zero, List.cons_append, List.nil_append, List.all_cons, List.all_nil, Option.map_some, Option.map_none, reduceIte, sl0, sl1, sl2, sl3, sl4, sl5, sl6, sl7, sl8, sl9, sl10, sl11, sl12, sl13, sl14, sl15, sl16, sl17, Bool.true_and, Bool.and_true, Bool.not_true, Bool.not_false, Nat.reduceAdd, Nat.reduceSub, Nat.zero_add, Bool.false_eq_true, decide_true, decide_false, List.length_append, Int.cast_ofNat_Int, Int.natCast_one, Int.natCast_zero, Int.reduceEq, Int.reduceLT, Int.reduceLE, Int.reduceAdd, Int.reduceMul, Int.reduceSub, Int.reduceNeg, ne_eq, not_true_eq_false, not_false_eq_true, T.d, isiS, isiB, T.holes, ix2_1, e]

theorem r_words_in {Φ : Phi} : ∀ (t : T), t.sz ≤ 64 → (∀ w ps, t = .n w ps → ∀ y, y ∈ ps → Φ 5 [y.d] = .ok (.int y.cnt) .non) → runF c_words_in Φ [t.d] = .ok (.int t.cnt) .non
  | .h i, _, _ => by simp only [c_words_in, b_words_in, runF, fr0, ioOf, mvM, mC, mN, mBin, mUn, mB, mAndT, mOrT, mNotT, mAndV, mOrV, mNotV, mHs, mDs, mTup, mLst, pks, mPrim, sSeq, sNil, oS, sPass, sExpr, sRet, sIf, setV, putH, sAsg, tN, tNil, tCons, tT, sAsgT, mCall, pk, mv, RD.hd, Out.bind, mTrue, mCh, mMt, mSl, mO0, mO1, mLM, mLM.isOwnL, isOwn, mComp, mCompN, lockF, unlk, sFor, sForN, unlS, mIL, mIT, mIS, mIR1, mIR2, wipeF, restF, vsOk, sRaise, sTry, mDnew, List.getElem?_cons_zero, List.getElem?_cons_succ, List.set_cons_zero, List.set_cons_succ, List.length_cons, List.length_nil, List.map_cons, List.map_nil, List.replicate_succ, List.replicate_zero, List.cons_append, List.nil_append, List.all_cons, List.all_nil, Option.map_some, Option.map_none, reduceIte, sl0, sl1, sl2, sl3, sl4, sl5, sl6, sl7, sl8, sl9, sl10, sl11, sl12, sl13, sl14, sl15, sl16, sl17, Bool.true_and, Bool.and_true, Bool.not_true, Bool.not_false, Nat.reduceAdd, Nat.reduceSub, Nat.zero_add, Bool.false_eq_true, decide_true, decide_false, List.length_append, Int.cast_ofNat_Int, Int.natCast_one, Int.natCast_zero, Int.reduceEq, Int.reduceLT, Int.reduceLE, Int.reduceAdd, Int.reduceMul, Int.reduceSub, Int.reduceNeg, ne_eq, not_true_eq_false, not_false_eq_true, T.d, isiS, isiB, T.cnt]
  | .n w ps, hl, hΦ => by
    have hps : ps.length ≤ sizeLine := by have := T.szs_len ps; simp only [T.sz] at hl; exact sl64 (by omega)
    have hc : compR (tN 1) mTrue (b_words_in_e1 Φ) [1] (T.ds ps) [SV.val (T.n w ps).d, SV.un] = .ok (.f (.lst ((T.ds ps).map fun d => fstOk (Φ 5 [d])))) [SV.val (T.n w ps).d, SV.un] := by
      refine compR_map _ rfl (by rw [T.ds_len]; exact hps) rfl rfl fun d hd => ?_
      rw [T.ds_map] at hd
      obtain ⟨y, hy, rfl⟩ := List.mem_map.1 hd
      refine ⟨_, _, [SV.val (T.n w ps).d, SV.val y.d], rfl, rfl, ?_, rfl⟩
      simp only [b_words_in_e1, runF, fr0, ioOf, mvM, mC, mN, mBin, mUn, mB, mAndT, mOrT, mNotT, mAndV, mOrV, mNotV, mHs, mDs, mTup, mLst, pks, mPrim, sSeq, sNil, oS, sPass, sExpr, sRet, sIf, setV, putH, sAsg, tN, tNil, tCons, tT, sAsgT, mCall, pk, mv, RD.hd, Out.bind, mTrue, mCh, mMt, mSl, mO0, mO1, mLM, mLM.isOwnL, isOwn, mComp, mCompN, lockF, unlk, sFor, sForN, unlS, mIL, mIT, mIS, mIR1, mIR2, wipeF, restF, vsOk, sRaise, sTry, mDnew, List.getElem?_cons_zero, List.getElem?_cons_succ, List.set_cons_zero, List.set_cons_succ, List.length_cons, List.length_nil, List.map_cons, List.map_nil, List.replicate_succ, List.replicate_zero, List.cons_append, List.nil_append, List.all_cons, List.all_nil, Option.map_some, Option.map_none, reduceIte, sl0, sl1, sl2, sl3, sl4, sl5, sl6, sl7, sl8, sl9, sl10, sl11, sl12, sl13, sl14, sl15, sl16, sl17, Bool.true_and, Bool.and_true, Bool.not_true, Bool.not_false, Nat.reduceAdd, Nat.reduceSub, Nat.zero_add, Bool.false_eq_true, decide_true, decide_false, List.length_append, Int.cast_ofNat_Int, Int.natCast_one, Int.natCast_zero, Int.reduceEq, Int.reduceLT, Int.reduceLE, Int.reduceAdd, Int.reduceMul, Int.reduceSub, Int.reduceNeg, ne_eq, not_true_eq_false, not_false_eq_true, hΦ w ps rfl y hy, fstOk]
    have hm : (T.ds ps).map (fun d => fstOk (Φ 5 [d])) = ps.map fun y => .int ((y.cnt : Nat) : Int) := by
      rw [T.ds_map, List.map_map]
      exact List.map_congr_left fun y hy => by simp only [Function.comp, hΦ w ps rfl y hy, fstOk]
    rw [hm] at hc
    simp only [T.d] at hc
    simp only [c_words_in, b_words_in, runF, fr0, ioOf, mvM, mC, mN, mBin, mUn, mB, mAndT, mOrT, mNotT, mAndV, mOrV, mNotV, mHs, mDs, mTup, mLst, pks, mPrim, sSeq, sNil, oS, sPass, sExpr, sRet, sIf, setV, putH, sAsg, tN, tNil, tCons, tT, sAsgT, mCall, pk, mv, RD.hd, Out.bind, mTrue, mCh, mMt, mSl, mO0, mO1, mLM, mLM.isOwnL, isOwn, mComp, mCompN, lockF, unlk, sFor, sForN, unlS, mIL, mIT, mIS, mIR1, mIR2, wipeF, restF, vsOk, sRaise, sTry, mDnew, List.getElem?_cons_zero, List.getElem?_cons_succ, List.set_cons_zero, List.set_cons_succ, List.length_cons, List.length_nil, List.map_cons, List.map_nil, List.replicate_succ, List.replicate_zero, List.cons_append, List.nil_append, List.all_cons, List.all_nil, Option.map_some, Option.map_none, reduceIte, sl0, sl1, sl2, sl3, sl4, sl5, sl6, sl7, sl8, sl9, sl10, sl11, sl12, sl13, sl14, sl15, sl16, sl17, Bool.true_and, Bool.and_true, Bool.not_true, Bool.not_false, Nat.reduceAdd, Nat.reduceSub, Nat.zero_add, Bool.false_eq_true, decide_true, decide_false, List.length_append, Int.cast_ofNat_Int, Int.natCast_one, Int.natCast_zero, Int.reduceEq, Int.reduceLT, Int.reduceLE, Int.reduceAdd, Int.reduceMul, Int.reduceSub, Int.reduceNeg, ne_eq, not_true_eq_false, not_false_eq_true, T.d, isiS, isiB, T.cnt, ix2_1, hc, sumS, intsD_map (fun y : T => (y.cnt : Int)), addS, sum_cnt, Int.natCast_add]

theorem r__law_count {Φ : Phi} : ∀ (t : T), t.sz ≤ 64 → (∀ w ps, t = .n w ps → ∀ y, y ∈ ps → Φ 17 [y.d] = .ok (.int y.cnt) .non) → runF c__law_count Φ [t.d] = .ok (.int t.cnt) .non
  | .h i, _, _ => by simp only [c__law_count, b__law_count, runF, fr0, ioOf, mvM, mC, mN, mBin, mUn, mB, mAndT, mOrT, mNotT, mAndV, mOrV, mNotV, mHs, mDs, mTup, mLst, pks, mPrim, sSeq, sNil, oS, sPass, sExpr, sRet, sIf, setV, putH, sAsg, tN, tNil, tCons, tT, sAsgT, mCall, pk, mv, RD.hd, Out.bind, mTrue, mCh, mMt, mSl, mO0, mO1, mLM, mLM.isOwnL, isOwn, mComp, mCompN, lockF, unlk, sFor, sForN, unlS, mIL, mIT, mIS, mIR1, mIR2, wipeF, restF, vsOk, sRaise, sTry, mDnew, List.getElem?_cons_zero, List.getElem?_cons_succ, List.set_cons_zero, List.set_cons_succ, List.length_cons, List.length_nil, List.map_cons, List.map_nil, List.replicate_succ, List.replicate_zero, List.cons_append, List.nil_append, List.all_cons, List.all_nil, Option.map_some, Option.map_none, reduceIte, sl0, sl1, sl2, sl3, sl4, sl5, sl6, sl7, sl8, sl9, sl10, sl11, sl12, sl13, sl14, sl15, sl16, sl17, Bool.true_and, Bool.and_true, Bool.not_true, Bool.not_false, Nat.reduceAdd, Nat.reduceSub, Nat.zero_add, Bool.false_eq_true, decide_true, decide_false, List.length_append, Int.cast_ofNat_Int, Int.natCast_one, Int.natCast_zero, Int.reduceEq, Int.reduceLT, Int.reduceLE, Int.reduceAdd, Int.reduceMul, Int.reduceSub, Int.reduceNeg, ne_eq, not_true_eq_false, not_false_eq_true, T.d, isiS, isiB, T.cnt]
  | .n w ps, hl, hΦ => by
    have hps : ps.length ≤ sizeLine := by have := T.szs_len ps; simp only [T.sz] at hl; exact sl64 (by omega)
    have hc : compR (tN 1) mTrue (b__law_count_e1 Φ) [1] (T.ds ps) [SV.val (T.n w ps).d, SV.un] = .ok (.f (.lst ((T.ds ps).map fun d => fstOk (Φ 17 [d])))) [SV.val (T.n w ps).d, SV.un] := by
      refine compR_map _ rfl (by rw [T.ds_len]; exact hps) rfl rfl fun d hd => ?_
      rw [T.ds_map] at hd
      obtain ⟨y, hy, rfl⟩ := List.mem_map.1 hd
      refine ⟨_, _, [SV.val (T.n w ps).d, SV.val y.d], rfl, rfl, ?_, rfl⟩
      simp only [b__law_count_e1, runF, fr0, ioOf, mvM, mC, mN, mBin, mUn, mB, mAndT, mOrT, mNotT, mAndV, mOrV, mNotV, mHs, mDs, mTup, mLst, pks, mPrim, sSeq, sNil, oS, sPass, sExpr, sRet, sIf, setV, putH, sAsg, tN, tNil, tCons, tT, sAsgT, mCall, pk, mv, RD.hd, Out.bind, mTrue, mCh, mMt, mSl, mO0, mO1, mLM, mLM.isOwnL, isOwn, mComp, mCompN, lockF, unlk, sFor, sForN, unlS, mIL, mIT, mIS, mIR1, mIR2, wipeF, restF, vsOk, sRaise, sTry, mDnew, List.getElem?_cons_zero, List.getElem?_cons_succ, List.set_cons_zero, List.set_cons_succ, List.length_cons, List.length_nil, List.map_cons, List.map_nil, List.replicate_succ, List.replicate_zero, List.cons_append, List.nil_append, List.all_cons, List.all_nil, Option.map_some, Option.map_none, reduceIte, sl0, sl1, sl2, sl3, sl4, sl5, sl6, sl7, sl8, sl9, sl10, sl11, sl12, sl13, sl14, sl15, sl16, sl17, Bool.true_and, Bool.and_true, Bool.not_true, Bool.not_false, Nat.reduceAdd, Nat.reduceSub, Nat.zero_add, Bool.false_eq_true, decide_true, decide_false, List.length_append, Int.cast_ofNat_Int, Int.natCast_one, Int.natCast_zero, Int.reduceEq, Int.reduceLT, Int.reduceLE, Int.reduceAdd, Int.reduceMul, Int.reduceSub, Int.reduceNeg, ne_eq, not_true_eq_false, not_false_eq_true, hΦ w ps rfl y hy, fstOk]
    have hm : (T.ds ps).map (fun d => fstOk (Φ 17 [d])) = ps.map fun y => .int ((y.cnt : Nat) : Int) := by
      rw [T.ds_map, List.map_map]
      exact List.map_congr_left fun y hy => by simp only [Function.comp, hΦ w ps rfl y hy, fstOk]
    rw [hm] at hc
    simp only [T.d] at hc
    simp only [c__law_count, b__law_count, runF, fr0, ioOf, mvM, mC, mN, mBin, mUn, mB, mAndT, mOrT, mNotT, mAndV, mOrV, mNotV, mHs, mDs, mTup, mLst, pks, mPrim, sSeq, sNil, oS, sPass, sExpr, sRet, sIf, setV, putH, sAsg, tN, tNil, tCons, tT, sAsgT, mCall, pk, mv, RD.hd, Out.bind, mTrue, mCh, mMt, mSl, mO0, mO1, mLM, mLM.isOwnL, isOwn, mComp, mCompN, lockF, unlk, sFor, sForN, unlS, mIL, mIT, mIS, mIR1, mIR2, wipeF, restF, vsOk, sRaise, sTry, mDnew, List.getElem?_cons_zero, List.getElem?_cons_succ, List.set_cons_zero, List.set_cons_succ, List.length_cons, List.length_nil, List.map_cons, List.map_nil, List.replicate_succ, List.replicate_zero, List.cons_append, List.nil_append, List.all_cons, List.all_nil, Option.map_some, Option.map_none, reduceIte, sl0, sl1, sl2, sl3, sl4, sl5, sl6, sl7, sl8, sl9, sl10, sl11, sl12, sl13, sl14, sl15, sl16, sl17, Bool.true_and, Bool.and_true, Bool.not_true, Bool.not_false, Nat.reduceAdd, Nat.reduceSub, Nat.zero_add, Bool.false_eq_true, decide_true, decide_false, List.length_append, Int.cast_ofNat_Int, Int.natCast_one, Int.natCast_zero, Int.reduceEq, Int.reduceLT, Int.reduceLE, Int.reduceAdd, Int.reduceMul, Int.reduceSub, Int.reduceNeg, ne_eq, not_true_eq_false, not_false_eq_true, T.d, isiS, isiB, T.cnt, ix2_1, hc, sumS, intsD_map (fun y : T => (y.cnt : Int)), addS, sum_cnt, Int.natCast_add]

theorem holes_in_ok {Pg : Nat → CF} (e : Pg 4 = c_holes_in) : ∀ (k : Nat) (t : T), t.dep ≤ k → t.sz ≤ 64 → call Pg (k + 1) 4 [t.d] = .ok (.lst (t.holes.map .int)) .non
  | k, .h i, _, hz => by
    show runF (Pg 4) (call Pg k) _ = _
    rw [e]
    exact r_holes_in _ (Nat.le_trans (T.holes_sz _) hz) fun w ps z => by cases z
  | 0, .n w ps, hd, _ => by simp only [T.dep] at hd; omega
  | k + 1, .n w ps, hd, hz => by
    show runF (Pg 4) (call Pg (k + 1)) _ = _
    rw [e]
    refine r_holes_in _ (Nat.le_trans (T.holes_sz _) hz) fun w' ps' z y hy => ?_
    cases z
    have a := T.dep_mem hy
    have b := T.sz_mem hy
    simp only [T.dep, T.sz] at hd hz
    exact holes_in_ok e k y (by omega) (by omega)

theorem _law_holes_ok {Pg : Nat → CF} (e : Pg 16 = c__law_holes) : ∀ (k : Nat) (t : T), t.dep ≤ k → t.sz ≤ 64 → call Pg (k + 1) 16 [t.d] = .ok (.lst (t.holes.map .int)) .non
  | k, .h i, _, hz => by
    show runF (Pg 16) (call Pg k) _ = _
    rw [e]
    exact r__law_holes _ (Nat.le_trans (T.holes_sz _) hz) fun w ps z => by cases z
  | 0, .n w ps, hd, _ => by simp only [T.dep] at hd; omega
  | k + 1, .n w ps, hd, hz => by
    show runF (Pg 16) (call Pg (k + 1)) _ = _
    rw [e]
    refine r__law_holes _ (Nat.le_trans (T.holes_sz _) hz) fun w' ps' z y hy => ?_
    cases z
    have a := T.dep_mem hy
    have b := T.sz_mem hy
    simp only [T.dep, T.sz] at hd hz
    exact _law_holes_ok e k y (by omega) (by omega)

theorem words_in_ok {Pg : Nat → CF} (e : Pg 5 = c_words_in) : ∀ (k : Nat) (t : T), t.dep ≤ k → t.sz ≤ 64 → call Pg (k + 1) 5 [t.d] = .ok (.int t.cnt) .non
  | k, .h i, _, hz => by
    show runF (Pg 5) (call Pg k) _ = _
    rw [e]
    exact r_words_in _ hz fun w ps z => by cases z
  | 0, .n w ps, hd, _ => by simp only [T.dep] at hd; omega
  | k + 1, .n w ps, hd, hz => by
    show runF (Pg 5) (call Pg (k + 1)) _ = _
    rw [e]
    refine r_words_in _ hz fun w' ps' z y hy => ?_
    cases z
    have a := T.dep_mem hy
    have b := T.sz_mem hy
    simp only [T.dep, T.sz] at hd hz
    exact words_in_ok e k y (by omega) (by omega)

theorem _law_count_ok {Pg : Nat → CF} (e : Pg 17 = c__law_count) : ∀ (k : Nat) (t : T), t.dep ≤ k → t.sz ≤ 64 → call Pg (k + 1) 17 [t.d] = .ok (.int t.cnt) .non
  | k, .h i, _, hz => by
    show runF (Pg 17) (call Pg k) _ = _
    rw [e]
    exact r__law_count _ hz fun w ps z => by cases z
  | 0, .n w ps, hd, _ => by simp only [T.dep] at hd; omega
  | k + 1, .n w ps, hd, hz => by
    show runF (Pg 17) (call Pg (k + 1)) _ = _
    rw [e]
    refine r__law_count _ hz fun w' ps' z y hy => ?_
    cases z
    have a := T.dep_mem hy
    have b := T.sz_mem hy
    simp only [T.dep, T.sz] at hd hz
    exact _law_count_ok e k y (by omega) (by omega)

end Z

/-! plain Lean: rules and books that are ones -/
namespace Z
open PySem PySem.Spec PyProof.Rows L2
theorem all_true {α : Type} (l : List α) : ((l.map fun _ => true).all id) = true := by simp
theorem isi_tt {ds : List D} : isiS .ttup (.tup ds) = some (.v (.bl true)) := rfl
theorem isi_it {ds : List D} : isiS .tint (.tup ds) = some (.v (.bl false)) := rfl
theorem isi_ii {i : Int} : isiS .tint (.int i) = some (.v (.bl true)) := rfl
structure Ru where
  nm : Str
  p : T
  m : T
def Ru.d (r : Ru) : D := .tup [.str r.nm, r.p.d, r.m.d]
structure Ru.good (r : Ru) : Prop where
  nm : isW r.nm
  p : r.p.good
  p6 : r.p.sz ≤ 6
  m : r.m.good
  m6 : r.m.sz ≤ 6
  nd : ∃ w ps, r.p = .n w ps
  ho : ∀ i : Int, r.m.holes.count i ≤ r.p.holes.count i
  le : r.m.cnt < r.p.cnt
def Str.lt (a b : Str) : Prop := a.cps.toList < b.cps.toList
structure BookOk (rs : List Ru) : Prop where
  good : ∀ r, r ∈ rs → r.good
  len : rs.length ≤ 4
  asc : rs.Pairwise fun a b => Str.lt a.nm b.nm
abbrev bookD (rs : List Ru) : D := .tup (rs.map Ru.d)
theorem countS_int {hs : List Int} {i : Int} : countS (.lst (hs.map .int)) [.int i] = some (.v (.int (hs.count i : Nat))) := by
  have a : ((hs.map D.int).all flatD) = true := by simp [List.all_map, flatD]
  have b : (hs.map D.int).countP (fun z => D.eq z (.int i)) = hs.count i := by
    rw [List.countP_map, List.count]
    refine congrArg (fun f => List.countP f hs) (funext fun z => ?_)
    simp only [Function.comp, D.eq, D.py, PyData.eqv]
  simp only [countS, a, flatD, Bool.and_self, if_true, b]
theorem r_is_rule {Φ : Phi} {r : Ru} (g : r.good) (h1 : ∀ s, isW s → Φ 1 [.str s] = .ok (.bl true) .non) (h3 : ∀ t : T, t.good → t.sz ≤ 6 → Φ 3 [t.d] = .ok (.bl true) .non)
    (h4 : ∀ t : T, t.sz ≤ 6 → Φ 4 [t.d] = .ok (.lst (t.holes.map .int)) .non) (h5 : ∀ t : T, t.sz ≤ 6 → Φ 5 [t.d] = .ok (.int t.cnt) .non) : runF c_is_rule Φ [r.d] = .ok (.bl true) .non := by
  obtain ⟨w, ps, ep⟩ := g.nd
  have hp3 := h3 r.p g.p g.p6
  have hm3 := h3 r.m g.m g.m6
  have hp4 := h4 r.p g.p6
  have hm4 := h4 r.m g.m6
  have hp5 := h5 r.p g.p6
  have hm5 := h5 r.m g.m6
  have hn := h1 r.nm g.nm
  have ti : isiS .tint r.p.d = some (.v (.bl false)) := by rw [ep]; rfl
  have hc : ∀ x, compR (tN 3) mTrue (b_is_rule_e1 Φ) [3] (rangeL 0 2) [x, SV.val (.lst (r.p.holes.map .int)), SV.val (.lst (r.m.holes.map .int)), .un] = .ok (.f (.lst ((rangeL 0 2).map fun _ => .bl true))) [x, SV.val (.lst (r.p.holes.map .int)), SV.val (.lst (r.m.holes.map .int)), .un] := by
    intro x
    refine compR_map _ rfl (by decide) rfl rfl fun d hd => ?_
    obtain ⟨i, hi, rfl⟩ := List.mem_map.1 hd
    refine ⟨_, _, [x, SV.val (.lst (r.p.holes.map .int)), SV.val (.lst (r.m.holes.map .int)), .val (.int (0 + (i : Nat)))], rfl, rfl, ?_, rfl⟩
    have : decide (((r.m.holes.count (0 + (i : Nat) : Int) : Nat) : Int) ≤ ((r.p.holes.count (0 + (i : Nat) : Int) : Nat) : Int)) = true := decide_eq_true (Int.ofNat_le.2 (g.ho _))
    simp only [b_is_rule_e1, runF, fr0, ioOf, mvM, mC, mN, mBin, mUn, mB, mAndT, mOrT, mNotT, mAndV, mOrV, mNotV, mHs, mDs, mTup, mLst, pks, mPrim, sSeq, sNil, oS, sPass, sExpr, sRet, sIf, setV, putH, sAsg, tN, tNil, tCons, tT, sAsgT, mCall, pk, mv, RD.hd, Out.bind, mTrue, mCh, mMt, mSl, mO0, mO1, mLM, mLM.isOwnL, isOwn, mComp, mCompN, lockF, unlk, sFor, sForN, unlS, mIL, mIT, mIS, mIR1, mIR2, wipeF, restF, vsOk, sRaise, sTry, mDnew, List.getElem?_cons_zero, List.getElem?_cons_succ, List.set_cons_zero, List.set_cons_succ, List.length_cons, List.length_nil, List.map_cons, List.map_nil, List.replicate_succ, List.replicate_zero, List.cons_append, List.nil_append, List.all_cons, List.all_nil, Option.map_some, Option.map_none, reduceIte, sl0, sl1, sl2, sl3, sl4, sl5, sl6, sl7, sl8, sl9, sl10, sl11, sl12, sl13, sl14, sl15, sl16, sl17, Bool.true_and, Bool.and_true, Bool.not_true, Bool.not_false, Nat.reduceAdd, Nat.reduceSub, Nat.zero_add, Bool.false_eq_true, decide_true, decide_false, List.length_append, Int.cast_ofNat_Int, Int.natCast_one, Int.natCast_zero, Int.reduceEq, Int.reduceLT, Int.reduceLE, Int.reduceAdd, Int.reduceMul, Int.reduceSub, Int.reduceNeg, ne_eq, not_true_eq_false, not_false_eq_true, countS_int, leS, this]
  have rg : rgOk 2 = true := by decide
  have le : decide (((r.m.cnt : Nat) : Int) < ((r.p.cnt : Nat) : Int)) = true := decide_eq_true (Int.ofNat_lt.2 g.le)
  have tn : Int.toNat 2 = 2 := rfl
  simp only [c_is_rule, b_is_rule, runF, fr0, ioOf, mvM, mC, mN, mBin, mUn, mB, mAndT, mOrT, mNotT, mAndV, mOrV, mNotV, mHs, mDs, mTup, mLst, pks, mPrim, sSeq, sNil, oS, sPass, sExpr, sRet, sIf, setV, putH, sAsg, tN, tNil, tCons, tT, sAsgT, mCall, pk, mv, RD.hd, Out.bind, mTrue, mCh, mMt, mSl, mO0, mO1, mLM, mLM.isOwnL, isOwn, mComp, mCompN, lockF, unlk, sFor, sForN, unlS, mIL, mIT, mIS, mIR1, mIR2, wipeF, restF, vsOk, sRaise, sTry, mDnew, List.getElem?_cons_zero, List.getElem?_cons_succ, List.set_cons_zero, List.set_cons_succ, List.length_cons, List.length_nil, List.map_cons, List.map_nil, List.replicate_succ, List.replicate_zero, List.cons_append, List.nil_append, List.all_cons, List.all_nil, Option.map_some, Option.map_none, reduceIte, sl0, sl1, sl2, sl3, sl4, sl5, sl6, sl7, sl8, sl9, sl10, sl11, sl12, sl13, sl14, sl15, sl16, sl17, Bool.true_and, Bool.and_true, Bool.not_true, Bool.not_false, Nat.reduceAdd, Nat.reduceSub, Nat.zero_add, Bool.false_eq_true, decide_true, decide_false, List.length_append, Int.cast_ofNat_Int, Int.natCast_one, Int.natCast_zero, Int.reduceEq, Int.reduceLT, Int.reduceLE, Int.reduceAdd, Int.reduceMul, Int.reduceSub, Int.reduceNeg, ne_eq, not_true_eq_false, not_false_eq_true, Ru.d, isi_tt, lenS, neS_int, ix3_0, ix3_1, ix3_2, hn, hp3, hm3, ti, hp4, hm4, ix3_1, ix3_2, rg, hc, tn, allS, boolsD_map (fun _ : D => true), all_true, hp5, hm5, ltS, le]
theorem pw_get {rs : List Ru} (h : rs.Pairwise fun a b => Str.lt a.nm b.nm) {i : Nat} {a b : Ru} (ha : rs[i]? = some a) (hb : rs[i + 1]? = some b) : Str.lt a.nm b.nm := by
  obtain ⟨h1, e1⟩ := List.getElem?_eq_some_iff.1 ha
  obtain ⟨h2, e2⟩ := List.getElem?_eq_some_iff.1 hb
  have := List.pairwise_iff_getElem.1 h i (i + 1) h1 h2 (by omega)
  rw [e1, e2] at this
  exact this
theorem atI_nat {α : Type} {xs : List α} {i : Nat} {x : α} (h : xs[i]? = some x) : atI xs (i : Nat) = some x := by
  obtain ⟨h1, e1⟩ := List.getElem?_eq_some_iff.1 h
  unfold atI ixN
  rw [if_pos (by omega), if_pos (by omega)]
  simp only [Option.bind_some, Int.toNat_natCast, h]
theorem r_is_book {Φ : Phi} {rs : List Ru} (g : BookOk rs) (h6 : ∀ r, r ∈ rs → Φ 6 [r.d] = .ok (.bl true) .non) : runF c_is_book Φ [bookD rs] = .ok (.bl true) .non := by
  have l4 := g.len
  have lt : decide ((4 : Int) < ((rs.map Ru.d).length : Nat)) = false := decide_eq_false (by rw [List.length_map]; omega)
  have hc : compR (tN 2) mTrue (b_is_book_e1 Φ) [2] (rs.map Ru.d) [SV.val (bookD rs), .un, .un] = .ok (.f (.lst ((rs.map Ru.d).map fun _ => .bl true))) [SV.val (bookD rs), .un, .un] := by
    refine compR_map _ rfl (by rw [List.length_map]; exact sl64 (by omega)) rfl rfl fun d hd => ?_
    obtain ⟨r, hr, rfl⟩ := List.mem_map.1 hd
    refine ⟨_, _, [SV.val (bookD rs), .un, .val r.d], rfl, rfl, ?_, rfl⟩
    simp only [b_is_book_e1, runF, fr0, ioOf, mvM, mC, mN, mBin, mUn, mB, mAndT, mOrT, mNotT, mAndV, mOrV, mNotV, mHs, mDs, mTup, mLst, pks, mPrim, sSeq, sNil, oS, sPass, sExpr, sRet, sIf, setV, putH, sAsg, tN, tNil, tCons, tT, sAsgT, mCall, pk, mv, RD.hd, Out.bind, mTrue, mCh, mMt, mSl, mO0, mO1, mLM, mLM.isOwnL, isOwn, mComp, mCompN, lockF, unlk, sFor, sForN, unlS, mIL, mIT, mIS, mIR1, mIR2, wipeF, restF, vsOk, sRaise, sTry, mDnew, List.getElem?_cons_zero, List.getElem?_cons_succ, List.set_cons_zero, List.set_cons_succ, List.length_cons, List.length_nil, List.map_cons, List.map_nil, List.replicate_succ, List.replicate_zero, List.cons_append, List.nil_append, List.all_cons, List.all_nil, Option.map_some, Option.map_none, reduceIte, sl0, sl1, sl2, sl3, sl4, sl5, sl6, sl7, sl8, sl9, sl10, sl11, sl12, sl13, sl14, sl15, sl16, sl17, Bool.true_and, Bool.and_true, Bool.not_true, Bool.not_false, Nat.reduceAdd, Nat.reduceSub, Nat.zero_add, Bool.false_eq_true, decide_true, decide_false, List.length_append, Int.cast_ofNat_Int, Int.natCast_one, Int.natCast_zero, Int.reduceEq, Int.reduceLT, Int.reduceLE, Int.reduceAdd, Int.reduceMul, Int.reduceSub, Int.reduceNeg, ne_eq, not_true_eq_false, not_false_eq_true, h6 r hr]
  have hc2 : compR (tN 1) mTrue (b_is_book_e2 Φ) [1] (rangeL 0 (rs.length - 1)) [SV.val (bookD rs), .un, .un] = .ok (.f (.lst ((rangeL 0 (rs.length - 1)).map fun _ => .bl true))) [SV.val (bookD rs), .un, .un] := by
    refine compR_map _ rfl (by simp only [rangeL, List.length_map, List.length_range]; exact sl64 (by omega)) rfl rfl fun d hd => ?_
    obtain ⟨i, hi, rfl⟩ := List.mem_map.1 hd
    have hi := List.mem_range.1 hi
    refine ⟨_, _, [SV.val (bookD rs), .val (.int (0 + (i : Nat))), .un], rfl, rfl, ?_, rfl⟩
    obtain ⟨a, ha⟩ : ∃ a, rs[i]? = some a := ⟨_, List.getElem?_eq_getElem (by omega)⟩
    obtain ⟨b, hb⟩ : ∃ b, rs[i + 1]? = some b := ⟨_, List.getElem?_eq_getElem (by omega)⟩
    have e1 : ixS (bookD rs) (.int (0 + (i : Nat))) = some (.v a.d) := by
      have : atI (rs.map Ru.d) (0 + (i : Nat) : Int) = some a.d := by rw [Int.zero_add]; exact atI_nat (by rw [List.getElem?_map, ha]; rfl)
      simp only [ixS, this, Option.map_some]
    have e2 : ixS (bookD rs) (.int (0 + (i : Nat) + 1)) = some (.v b.d) := by
      have : atI (rs.map Ru.d) (0 + (i : Nat) + 1 : Int) = some b.d := by
        rw [Int.zero_add]
        exact atI_nat (i := i + 1) (by rw [List.getElem?_map, hb]; rfl)
      simp only [ixS, this, Option.map_some]
    have lt : decide (a.nm.cps.toList < b.nm.cps.toList) = true := decide_eq_true (pw_get g.asc ha hb)
    simp only [b_is_book_e2, runF, fr0, ioOf, mvM, mC, mN, mBin, mUn, mB, mAndT, mOrT, mNotT, mAndV, mOrV, mNotV, mHs, mDs, mTup, mLst, pks, mPrim, sSeq, sNil, oS, sPass, sExpr, sRet, sIf, setV, putH, sAsg, tN, tNil, tCons, tT, sAsgT, mCall, pk, mv, RD.hd, Out.bind, mTrue, mCh, mMt, mSl, mO0, mO1, mLM, mLM.isOwnL, isOwn, mComp, mCompN, lockF, unlk, sFor, sForN, unlS, mIL, mIT, mIS, mIR1, mIR2, wipeF, restF, vsOk, sRaise, sTry, mDnew, List.getElem?_cons_zero, List.getElem?_cons_succ, List.set_cons_zero, List.set_cons_succ, List.length_cons, List.length_nil, List.map_cons, List.map_nil, List.replicate_succ, List.replicate_zero, List.cons_append, List.nil_append, List.all_cons, List.all_nil, Option.map_some, Option.map_none, reduceIte, sl0, sl1, sl2, sl3, sl4, sl5, sl6, sl7, sl8, sl9, sl10, sl11, sl12, sl13, sl14, sl15, sl16, sl17, Bool.true_and, Bool.and_true, Bool.not_true, Bool.not_false, Nat.reduceAdd, Nat.reduceSub, Nat.zero_add, Bool.false_eq_true, decide_true, decide_false, List.length_append, Int.cast_ofNat_Int, Int.natCast_one, Int.natCast_zero, Int.reduceEq, Int.reduceLT, Int.reduceLE, Int.reduceAdd, Int.reduceMul, Int.reduceSub, Int.reduceNeg, ne_eq, not_true_eq_false, not_false_eq_true, e1, e2, addS, Ru.d, ix3_0, ltS, lt]
  have rg : rgOk (((rs.map Ru.d).length : Nat) - 1 : Int) = true := by
    rw [List.length_map]
    unfold rgOk
    rw [decide_eq_true (by omega), decide_eq_true (by omega)]; rfl
  have tn : Int.toNat (((rs.map Ru.d).length : Nat) - 1 : Int) = rs.length - 1 := by rw [List.length_map]; omega
  simp only [c_is_book, b_is_book, runF, fr0, ioOf, mvM, mC, mN, mBin, mUn, mB, mAndT, mOrT, mNotT, mAndV, mOrV, mNotV, mHs, mDs, mTup, mLst, pks, mPrim, sSeq, sNil, oS, sPass, sExpr, sRet, sIf, setV, putH, sAsg, tN, tNil, tCons, tT, sAsgT, mCall, pk, mv, RD.hd, Out.bind, mTrue, mCh, mMt, mSl, mO0, mO1, mLM, mLM.isOwnL, isOwn, mComp, mCompN, lockF, unlk, sFor, sForN, unlS, mIL, mIT, mIS, mIR1, mIR2, wipeF, restF, vsOk, sRaise, sTry, mDnew, List.getElem?_cons_zero, List.getElem?_cons_succ, List.set_cons_zero, List.set_cons_succ, List.length_cons, List.length_nil, List.map_cons, List.map_nil, List.replicate_succ, List.replicate_zero, List.cons_append, List.nil_append, List.all_cons, List.all_nil, Option.map_some, Option.map_none, reduceIte, sl0, sl1, sl2, sl3, sl4, sl5, sl6, sl7, sl8, sl9, sl10, sl11, sl12, sl13, sl14, sl15, sl16, sl17, Bool.true_and, Bool.and_true, Bool.not_true, Bool.not_false, Nat.reduceAdd, Nat.reduceSub, Nat.zero_add, Bool.false_eq_true, decide_true, decide_false, List.length_append, Int.cast_ofNat_Int, Int.natCast_one, Int.natCast_zero, Int.reduceEq, Int.reduceLT, Int.reduceLE, Int.reduceAdd, Int.reduceMul, Int.reduceSub, Int.reduceNeg, ne_eq, not_true_eq_false, not_false_eq_true, isi_tt, lenS, gtS, lt, hc, allS, boolsD_map (fun _ : D => true), all_true, isi_tt, lenS, subS, rg, tn, hc2]
end Z

/-! plain Lean: what is drawn -/
namespace Z
open PySem PySem.Spec PyProof.Rows L2
def cellF (ns : List Int) (k : Int) : Int := if k < (ns.length : Nat) then ns.getD k.toNat 0 else if ns = [] then 0 else ns.getD (k % (ns.length : Nat)).toNat 0 * 31 + k
def drawF (ns : List Int) (k : Int) : Int := (cellF ns k + 7919 * k + 1) * 48271 % 2147483647
def mixF (ns : List Int) (k many : Int) : Int := (drawF ns k * drawF ns k + 7 * drawF ns k + k) % 2147483629 % many
theorem mixF_lo {ns : List Int} {k many : Int} (h : 0 < many) : 0 ≤ mixF ns k many := Int.emod_nonneg _ (by omega)
theorem mixF_hi {ns : List Int} {k many : Int} (h : 0 < many) : mixF ns k many < many := Int.emod_lt_of_pos _ h
theorem ixS_scr {ns : List Int} {k : Int} (h0 : 0 ≤ k) (h : k < (ns.length : Nat)) : ixS (.scr ns) (.int k) = some (.v (.int (ns.getD k.toNat 0))) := by
  have : atI ns k = some (ns.getD k.toNat 0) := by
    unfold atI ixN
    rw [if_pos h0, if_pos h]
    simp only [Option.bind_some, List.getD_eq_getElem?_getD]
    rw [List.getElem?_eq_getElem (by omega)]; rfl
  simp only [ixS, this, Option.map_some]
theorem eqS_scr {ns : List Int} : eqS (.scr ns) (.lst []) = some (.v (.bl (decide (ns = [])))) := by
  have e : D.eq (.scr ns) (.lst []) = decide (ns = []) := by cases ns <;> simp [D.eq, D.py, D.pys, PyData.eqv, PyData.eqvAll]
  have c : cmpOk (.scr ns) (.lst []) = true := by
    have : (D.lst []).dep = 1 := rfl
    unfold cmpOk
    rw [this]
    have m : min (D.scr ns).dep 1 ≤ 190 := Nat.le_trans (Nat.min_le_right _ _) (by decide)
    simp only [D.lay, D.lays, decide_eq_true m, Bool.and_self]
  unfold eqS
  rw [if_pos c, e]
theorem r_cell {Φ : Phi} {ns : List Int} {k : Int} (h0 : 0 ≤ k) : runF c__law_cell_at Φ [.scr ns, .int k] = .ok (.int (cellF ns k)) .non := by
  unfold cellF
  by_cases h : k < (ns.length : Nat)
  · simp only [c__law_cell_at, b__law_cell_at, runF, fr0, ioOf, mvM, mC, mN, mBin, mUn, mB, mAndT, mOrT, mNotT, mAndV, mOrV, mNotV, mHs, mDs, mTup, mLst, pks, mPrim, sSeq, sNil, oS, sPass, sExpr, sRet, sIf, setV, putH, sAsg, tN, tNil, tCons, tT, sAsgT, mCall, pk, mv, RD.hd, Out.bind, mTrue, mCh, mMt, mSl, mO0, mO1, mLM, mLM.isOwnL, isOwn, mComp, mCompN, lockF, unlk, sFor, sForN, unlS, mIL, mIT, mIS, mIR1, mIR2, wipeF, restF, vsOk, sRaise, sTry, mDnew, List.getElem?_cons_zero, List.getElem?_cons_succ, List.set_cons_zero, List.set_cons_succ, List.length_cons, List.length_nil, List.map_cons, List.map_nil, List.replicate_succ, List.replicate_zero, List.cons_append, List.nil_append, List.all_cons, List.all_nil, Option.map_some, Option.map_none, reduceIte, sl0, sl1, sl2, sl3, sl4, sl5, sl6, sl7, sl8, sl9, sl10, sl11, sl12, sl13, sl14, sl15, sl16, sl17, Bool.true_and, Bool.and_true, Bool.not_true, Bool.not_false, Nat.reduceAdd, Nat.reduceSub, Nat.zero_add, Bool.false_eq_true, decide_true, decide_false, List.length_append, Int.cast_ofNat_Int, Int.natCast_one, Int.natCast_zero, Int.reduceEq, Int.reduceLT, Int.reduceLE, Int.reduceAdd, Int.reduceMul, Int.reduceSub, Int.reduceNeg, ne_eq, not_true_eq_false, not_false_eq_true, ltS, lenS, decide_eq_true h, ixS_scr h0 h, if_pos h]
  · by_cases hn : ns = []
    · simp only [c__law_cell_at, b__law_cell_at, runF, fr0, ioOf, mvM, mC, mN, mBin, mUn, mB, mAndT, mOrT, mNotT, mAndV, mOrV, mNotV, mHs, mDs, mTup, mLst, pks, mPrim, sSeq, sNil, oS, sPass, sExpr, sRet, sIf, setV, putH, sAsg, tN, tNil, tCons, tT, sAsgT, mCall, pk, mv, RD.hd, Out.bind, mTrue, mCh, mMt, mSl, mO0, mO1, mLM, mLM.isOwnL, isOwn, mComp, mCompN, lockF, unlk, sFor, sForN, unlS, mIL, mIT, mIS, mIR1, mIR2, wipeF, restF, vsOk, sRaise, sTry, mDnew, List.getElem?_cons_zero, List.getElem?_cons_succ, List.set_cons_zero, List.set_cons_succ, List.length_cons, List.length_nil, List.map_cons, List.map_nil, List.replicate_succ, List.replicate_zero, List.cons_append, List.nil_append, List.all_cons, List.all_nil, Option.map_some, Option.map_none, reduceIte, sl0, sl1, sl2, sl3, sl4, sl5, sl6, sl7, sl8, sl9, sl10, sl11, sl12, sl13, sl14, sl15, sl16, sl17, Bool.true_and, Bool.and_true, Bool.not_true, Bool.not_false, Nat.reduceAdd, Nat.reduceSub, Nat.zero_add, Bool.false_eq_true, decide_true, decide_false, List.length_append, Int.cast_ofNat_Int, Int.natCast_one, Int.natCast_zero, Int.reduceEq, Int.reduceLT, Int.reduceLE, Int.reduceAdd, Int.reduceMul, Int.reduceSub, Int.reduceNeg, ne_eq, not_true_eq_false, not_false_eq_true, ltS, lenS, decide_eq_false h, eqS_scr, decide_eq_true hn, if_neg h, if_pos hn]
    · have hl : (0 : Int) < (ns.length : Nat) := by have := List.length_pos_iff.2 hn; omega
      have hx : ixS (.scr ns) (.int (k % (ns.length : Nat))) = some (.v (.int (ns.getD (k % (ns.length : Nat)).toNat 0))) := ixS_scr (Int.emod_nonneg _ (by omega)) (Int.emod_lt_of_pos _ hl)
      have s31 : ∀ x, (smallI x || smallI 31) = true := fun x => by rw [show smallI 31 = true by decide, Bool.or_true]
      simp only [c__law_cell_at, b__law_cell_at, runF, fr0, ioOf, mvM, mC, mN, mBin, mUn, mB, mAndT, mOrT, mNotT, mAndV, mOrV, mNotV, mHs, mDs, mTup, mLst, pks, mPrim, sSeq, sNil, oS, sPass, sExpr, sRet, sIf, setV, putH, sAsg, tN, tNil, tCons, tT, sAsgT, mCall, pk, mv, RD.hd, Out.bind, mTrue, mCh, mMt, mSl, mO0, mO1, mLM, mLM.isOwnL, isOwn, mComp, mCompN, lockF, unlk, sFor, sForN, unlS, mIL, mIT, mIS, mIR1, mIR2, wipeF, restF, vsOk, sRaise, sTry, mDnew, List.getElem?_cons_zero, List.getElem?_cons_succ, List.set_cons_zero, List.set_cons_succ, List.length_cons, List.length_nil, List.map_cons, List.map_nil, List.replicate_succ, List.replicate_zero, List.cons_append, List.nil_append, List.all_cons, List.all_nil, Option.map_some, Option.map_none, reduceIte, sl0, sl1, sl2, sl3, sl4, sl5, sl6, sl7, sl8, sl9, sl10, sl11, sl12, sl13, sl14, sl15, sl16, sl17, Bool.true_and, Bool.and_true, Bool.not_true, Bool.not_false, Nat.reduceAdd, Nat.reduceSub, Nat.zero_add, Bool.false_eq_true, decide_true, decide_false, List.length_append, Int.cast_ofNat_Int, Int.natCast_one, Int.natCast_zero, Int.reduceEq, Int.reduceLT, Int.reduceLE, Int.reduceAdd, Int.reduceMul, Int.reduceSub, Int.reduceNeg, ne_eq, not_true_eq_false, not_false_eq_true, ltS, lenS, decide_eq_false h, eqS_scr, decide_eq_false hn, if_neg h, if_neg hn, modS, if_pos hl, hx, mulS, s31, if_true, addS]
structure PhM (Φ : Phi) (ns : List Int) : Prop where
  mx : ∀ k many, 0 ≤ k → 0 < many → Φ 11 [.scr ns, .int k, .int many] = .ok (.int (mixF ns k many)) .non
theorem r_mixed {Φ : Phi} {ns : List Int} {k many : Int} (h0 : 0 ≤ k) (hm : 0 < many) (hc : Φ 10 [.scr ns, .int k] = .ok (.int (cellF ns k)) .non) : runF c__law_mixed Φ [.scr ns, .int k, .int many] = .ok (.int (mixF ns k many)) .non := by
  have s1 : ∀ x, (smallI 7919 || smallI x) = true := fun x => by rw [show smallI 7919 = true by decide, Bool.true_or]
  have s2 : ∀ x, (smallI x || smallI 48271) = true := fun x => by rw [show smallI 48271 = true by decide, Bool.or_true]
  have s3 : ∀ x, (smallI 7 || smallI x) = true := fun x => by rw [show smallI 7 = true by decide, Bool.true_or]
  have d0 : 0 ≤ drawF ns k := Int.emod_nonneg _ (by decide)
  have d1 : drawF ns k < 2147483647 := Int.emod_lt_of_pos _ (by decide)
  have s4 : (smallI (drawF ns k) || smallI (drawF ns k)) = true := by
    have : smallI (drawF ns k) = true := by unfold smallI; rw [decide_eq_true (by omega), decide_eq_true (by omega)]; rfl
    rw [this]; rfl
  have p1 : (0 : Int) < 2147483647 := by decide
  have p2 : (0 : Int) < 2147483629 := by decide
  have e : (cellF ns k + 7919 * k + 1) * 48271 % 2147483647 = drawF ns k := rfl
  simp only [c__law_mixed, b__law_mixed, runF, fr0, ioOf, mvM, mC, mN, mBin, mUn, mB, mAndT, mOrT, mNotT, mAndV, mOrV, mNotV, mHs, mDs, mTup, mLst, pks, mPrim, sSeq, sNil, oS, sPass, sExpr, sRet, sIf, setV, putH, sAsg, tN, tNil, tCons, tT, sAsgT, mCall, pk, mv, RD.hd, Out.bind, mTrue, mCh, mMt, mSl, mO0, mO1, mLM, mLM.isOwnL, isOwn, mComp, mCompN, lockF, unlk, sFor, sForN, unlS, mIL, mIT, mIS, mIR1, mIR2, wipeF, restF, vsOk, sRaise, sTry, mDnew, List.getElem?_cons_zero, List.getElem?_cons_succ, List.set_cons_zero, List.set_cons_succ, List.length_cons, List.length_nil, List.map_cons, List.map_nil, List.replicate_succ, List.replicate_zero, List.cons_append, List.nil_append, List.all_cons, List.all_nil, Option.map_some, Option.map_none, reduceIte, sl0, sl1, sl2, sl3, sl4, sl5, sl6, sl7, sl8, sl9, sl10, sl11, sl12, sl13, sl14, sl15, sl16, sl17, Bool.true_and, Bool.and_true, Bool.not_true, Bool.not_false, Nat.reduceAdd, Nat.reduceSub, Nat.zero_add, Bool.false_eq_true, decide_true, decide_false, List.length_append, Int.cast_ofNat_Int, Int.natCast_one, Int.natCast_zero, Int.reduceEq, Int.reduceLT, Int.reduceLE, Int.reduceAdd, Int.reduceMul, Int.reduceSub, Int.reduceNeg, ne_eq, not_true_eq_false, not_false_eq_true, hc, mulS, s1, s2, s3, s4, if_true, addS, modS, p1, p2, hm, e, mixF]
/-! ### words -/
theorem Str.len_app (a b : Str) : (a ++ b).length = a.length + b.length := Array.size_append
theorem Str.app_cps (a b : Str) : (a ++ b).cps.toList = a.cps.toList ++ b.cps.toList := Array.toList_append
theorem ix_abc {i : Int} (h0 : 0 ≤ i) (h : i < 26) : ∃ c, c ∈ abc.cps.toList ∧ ixS (.str "abcdefghijklmnopqrstuvwxyz") (.int i) = some (.v (.str ⟨#[c]⟩)) := by
  have l : abc.cps.toList.length = 26 := by decide +kernel
  have hi : i.toNat < abc.cps.toList.length := by omega
  refine ⟨abc.cps.toList[i.toNat], List.getElem_mem hi, ?_⟩
  have a : atI abc.cps.toList i = some abc.cps.toList[i.toNat] := by
    unfold atI ixN
    rw [if_pos h0, if_pos (by omega)]
    simp only [Option.bind_some, List.getElem?_eq_getElem hi]
  have b : abc.length ≤ sizeLine := by decide +kernel
  show (if abc.length ≤ sizeLine then (atI abc.cps.toList i).map fun c => RD.v (.str ⟨#[c]⟩) else none) = _
  rw [if_pos b, a]; rfl
/-- letters only -/
def ltr (s : Str) : Prop := ∀ c, c ∈ s.cps.toList → c ∈ abc.cps.toList
theorem word_loop {Φ : Phi} {ns : List Int} (P : PhM Φ ns) {at_ : Int} (h0 : 0 ≤ at_) : ∀ (ds : List D) (w : Str) (s : SV), nl s = true → (∀ d, d ∈ ds → ∃ j : Int, 0 ≤ j ∧ d = .int j) → w.length + ds.length ≤ 6 → ltr w →
    ∃ w' s', forL (tN 3) (b__law_word_l1 Φ) ds [.val (.scr ns), .val (.int at_), .val (.str w), s] = .nx [.val (.scr ns), .val (.int at_), .val (.str w'), s'] ∧ w'.length = w.length + ds.length ∧ ltr w'
  | [], w, s, _, _, _, hw => ⟨w, s, rfl, rfl, hw⟩
  | d :: ds, w, s, hs, hd, hl, hw => by
    obtain ⟨j, hj, rfl⟩ := hd d (by simp)
    have m := P.mx (at_ + 1 + j) 26 (by omega) (by decide)
    obtain ⟨c, c1, c2⟩ := ix_abc (mixF_lo (ns := ns) (k := at_ + 1 + j) (many := 26) (by decide)) (mixF_hi (by decide))
    simp only [List.length_cons] at hl
    have sl : w.length + (⟨#[c]⟩ : Str).length ≤ sizeLine := sl64 (by show w.length + 1 ≤ 64; omega)
    have l1 : (w ++ ⟨#[c]⟩ : Str).length = w.length + 1 := by rw [Str.len_app]; rfl
    obtain ⟨w', s', e, e2, e3⟩ := word_loop P h0 ds (w ++ ⟨#[c]⟩) (.val (.int j)) rfl (fun y hy => hd y (by simp [hy])) (by rw [l1]; omega) (fun z hz => by
      rw [Str.app_cps] at hz
      rcases List.mem_append.1 hz with hz | hz
      · exact hw z hz
      · simp only [List.mem_singleton] at hz; subst hz; exact c1)
    refine ⟨w', s', ?_, by rw [e2, l1, List.length_cons]; omega, e3⟩
    rw [← e]
    conv => lhs; unfold forL
    rcases nl_cases hs with rfl | ⟨d, rfl⟩ | ⟨d, rfl⟩ <;> simp only [b__law_word_l1, runF, fr0, ioOf, mvM, mC, mN, mBin, mUn, mB, mAndT, mOrT, mNotT, mAndV, mOrV, mNotV, mHs, mDs, mTup, mLst, pks, mPrim, sSeq, sNil, oS, sPass, sExpr, sRet, sIf, setV, putH, sAsg, tN, tNil, tCons, tT, sAsgT, mCall, pk, mv, RD.hd, Out.bind, mTrue, mCh, mMt, mSl, mO0, mO1, mLM, mLM.isOwnL, isOwn, mComp, mCompN, lockF, unlk, sFor, sForN, unlS, mIL, mIT, mIS, mIR1, mIR2, wipeF, restF, vsOk, sRaise, sTry, mDnew, List.getElem?_cons_zero, List.getElem?_cons_succ, List.set_cons_zero, List.set_cons_succ, List.length_cons, List.length_nil, List.map_cons, List.map_nil, List.replicate_succ, List.replicate_zero, List.cons_append, List.nil_append, List.all_cons, List.all_nil, Option.map_some, Option.map_none, reduceIte, sl0, sl1, sl2, sl3, sl4, sl5, sl6, sl7, sl8, sl9, sl10, sl11, sl12, sl13, sl14, sl15, sl16, sl17, Bool.true_and, Bool.and_true, Bool.not_true, Bool.not_false, Nat.reduceAdd, Nat.reduceSub, Nat.zero_add, Bool.false_eq_true, decide_true, decide_false, List.length_append, Int.cast_ofNat_Int, Int.natCast_one, Int.natCast_zero, Int.reduceEq, Int.reduceLT, Int.reduceLE, Int.reduceAdd, Int.reduceMul, Int.reduceSub, Int.reduceNeg, ne_eq, not_true_eq_false, not_false_eq_true, addS, m, c2, sl]
theorem range_pos {n : Nat} {lo : Int} (h : 0 ≤ lo) : ∀ d, d ∈ rangeL lo n → ∃ j : Int, 0 ≤ j ∧ d = .int j := fun d hd => by
  obtain ⟨i, _, rfl⟩ := List.mem_map.1 hd
  exact ⟨_, by omega, rfl⟩
theorem range_len {n : Nat} {lo : Int} : (rangeL lo n).length = n := by simp [rangeL]
/-- the sizes of drawn words -/
theorem six_ix {i : Int} (h0 : 0 ≤ i) (h : i < 6) : ∃ n : Nat, 1 ≤ n ∧ n ≤ 6 ∧ ixS (.lst [.int 1, .int 2, .int 3, .int 6, .int 1, .int 5]) (.int i) = some (.v (.int n)) := by
  have : i = 0 ∨ i = 1 ∨ i = 2 ∨ i = 3 ∨ i = 4 ∨ i = 5 := by omega
  rcases this with rfl | rfl | rfl | rfl | rfl | rfl
  · exact ⟨1, by decide, by decide, rfl⟩
  · exact ⟨2, by decide, by decide, rfl⟩
  · exact ⟨3, by decide, by decide, rfl⟩
  · exact ⟨6, by decide, by decide, rfl⟩
  · exact ⟨1, by decide, by decide, rfl⟩
  · exact ⟨5, by decide, by decide, rfl⟩
theorem quick_ok : isW "quick" ∧ ("quick" : Str) ≠ qt := by
  refine ⟨⟨by decide +kernel, by decide +kernel, ?_⟩, by decide +kernel⟩
  have : ∀ c, c ∈ ("quick" : Str).cps.toList → c ∈ abc.cps.toList := by decide +kernel
  exact this
theorem swap_ok {w : Str} (h : isW w) : ∃ v, isW v ∧ v ≠ qt ∧ ixS (.lst [.str w, .str "quick"]) (.int (if decide (w = Str.ofString "quiet") = true then 1 else 0)) = some (.v (.str v)) := by
  by_cases e : w = Str.ofString "quiet"
  · exact ⟨"quick", quick_ok.1, quick_ok.2, by rw [decide_eq_true e]; rfl⟩
  · exact ⟨w, h, e, by rw [decide_eq_false e]; rfl⟩
theorem rgOk_nat {n : Nat} (h : n ≤ 64) : rgOk (n : Nat) = true := by
  unfold rgOk
  rw [decide_eq_true (by omega), decide_eq_true (by omega)]; rfl
theorem r_word {Φ : Phi} {ns : List Int} (P : PhM Φ ns) {at_ : Int} (h0 : 0 ≤ at_) : ∃ w, isW w ∧ w ≠ qt ∧ runF c__law_word Φ [.scr ns, .int at_] = .ok (.str w) .non := by
  have m := P.mx at_ 6 h0 (by decide)
  obtain ⟨n, n1, n6, en⟩ := six_ix (mixF_lo (ns := ns) (k := at_) (many := 6) (by decide)) (mixF_hi (by decide))
  obtain ⟨w, s, e, hl, hw⟩ := word_loop P h0 (rangeL 0 n) "" .un rfl (range_pos (by decide)) (by rw [range_len]; show 0 + n ≤ 6; omega) (fun c hc => by cases hc)
  have wl : w.length = n := by rw [hl, range_len]; show 0 + n = n; omega
  obtain ⟨v, v1, v2, v3⟩ := swap_ok (w := w) ⟨by omega, by omega, hw⟩
  have rg := rgOk_nat (n := n) (by omega)
  refine ⟨v, v1, v2, ?_⟩
  simp only [c__law_word, b__law_word, runF, fr0, ioOf, mvM, mC, mN, mBin, mUn, mB, mAndT, mOrT, mNotT, mAndV, mOrV, mNotV, mHs, mDs, mTup, mLst, pks, mPrim, sSeq, sNil, oS, sPass, sExpr, sRet, sIf, setV, putH, sAsg, tN, tNil, tCons, tT, sAsgT, mCall, pk, mv, RD.hd, Out.bind, mTrue, mCh, mMt, mSl, mO0, mO1, mLM, mLM.isOwnL, isOwn, mComp, mCompN, lockF, unlk, sFor, sForN, unlS, mIL, mIT, mIS, mIR1, mIR2, wipeF, restF, vsOk, sRaise, sTry, mDnew, List.getElem?_cons_zero, List.getElem?_cons_succ, List.set_cons_zero, List.set_cons_succ, List.length_cons, List.length_nil, List.map_cons, List.map_nil, List.replicate_succ, List.replicate_zero, List.cons_append, List.nil_append, List.all_cons, List.all_nil, Option.map_some, Option.map_none, reduceIte, sl0, sl1, sl2, sl3, sl4, sl5, sl6, sl7, sl8, sl9, sl10, sl11, sl12, sl13, sl14, sl15, sl16, sl17, Bool.true_and, Bool.and_true, Bool.not_true, Bool.not_false, Nat.reduceAdd, Nat.reduceSub, Nat.zero_add, Bool.false_eq_true, decide_true, decide_false, List.length_append, Int.cast_ofNat_Int, Int.natCast_one, Int.natCast_zero, Int.reduceEq, Int.reduceLT, Int.reduceLE, Int.reduceAdd, Int.reduceMul, Int.reduceSub, Int.reduceNeg, ne_eq, not_true_eq_false, not_false_eq_true, m, en, rg, Int.toNat_natCast, e, eqS_str, intS, v3]
end Z

/-! plain Lean: rows of drawn words -/
namespace Z
open PySem PySem.Spec PyProof.Rows L2
theorem atI_last {α : Type} {xs : List α} {x : α} : atI (xs ++ [x]) (-1) = some x := by
  unfold atI ixN
  rw [if_neg (by omega), if_pos (by simp; omega)]
  simp
  rw [show (-1 + ((xs.length : Int) + 1)).toNat = xs.length by omega]
  simp
theorem ix_last {xs : List D} {x : D} : ixS (.lst (xs ++ [x])) (.int (-1)) = some (.v x) := by simp only [ixS, atI_last, Option.map_some]
theorem ix_head {v : Str} (h : isW v) : ∃ c, c ∈ abc.cps.toList ∧ ixS (.str v) (.int 0) = some (.v (.str ⟨#[c]⟩)) := by
  obtain ⟨h1, h2, h3⟩ := h
  have hl : 0 < v.cps.toList.length := by rw [Array.length_toList]; exact h1
  refine ⟨v.cps.toList[0], h3 _ (List.getElem_mem hl), ?_⟩
  have a : atI v.cps.toList 0 = some v.cps.toList[0] := atI_nat (i := 0) (List.getElem?_eq_getElem hl)
  simp only [ixS, if_pos (sl64 (by omega : v.length ≤ 64)), a, Option.map_some]
theorem cut_lo {w : Str} {p : Nat} (h : p ≤ w.length) : (cutS w none (some (p : Int))).cps.toList = w.cps.toList.take p := by
  unfold cutS
  rw [HT.sIx_none, HT.sIx_nat, Nat.min_eq_left h]
  simp
theorem cut_hi {w : Str} {p : Nat} (h : p ≤ w.length) : (cutS w (some (p : Int)) none).cps.toList = w.cps.toList.drop p := by
  unfold cutS
  rw [HT.sIx_none, HT.sIx_nat, Nat.min_eq_left h]
  simp only [List.toList_toArray]
  rw [List.take_of_length_le]
  rw [List.length_drop, Array.length_toList]
  exact Nat.le_refl _
theorem rep_ok {w : Str} {p : Nat} {c : Nat} (h : isW w) (hp : p < w.length) (hc : c ∈ abc.cps.toList) : isW (cutS w none (some (p : Int)) ++ ⟨#[c]⟩ ++ cutS w (some (((p + 1 : Nat) : Int))) none) ∧
    (cutS w none (some (p : Int))).length + (⟨#[c]⟩ : Str).length ≤ sizeLine ∧ (cutS w none (some (p : Int)) ++ ⟨#[c]⟩ : Str).length + (cutS w (some (((p + 1 : Nat) : Int))) none).length ≤ sizeLine := by
  obtain ⟨h1, h2, h3⟩ := h
  have wl : w.cps.toList.length = w.length := Array.length_toList
  have l1 : (cutS w none (some (p : Int))).length = p := by
    show (cutS w none (some (p : Int))).cps.size = p
    rw [← Array.length_toList, cut_lo (by omega), List.length_take, wl]; omega
  have l2 : (cutS w (some (((p + 1 : Nat) : Int))) none).length = w.length - (p + 1) := by
    show (cutS w (some (((p + 1 : Nat) : Int))) none).cps.size = _
    rw [← Array.length_toList, cut_hi (by omega), List.length_drop, wl]
  have l3 : (⟨#[c]⟩ : Str).length = 1 := rfl
  refine ⟨⟨?_, ?_, ?_⟩, ?_, ?_⟩
  · rw [Str.len_app, Str.len_app, l1, l2, l3]; omega
  · rw [Str.len_app, Str.len_app, l1, l2, l3]; omega
  · intro z hz
    rw [Str.app_cps, Str.app_cps, cut_lo (by omega), cut_hi (by omega)] at hz
    rcases List.mem_append.1 hz with hz | hz
    · rcases List.mem_append.1 hz with hz | hz
      · exact h3 z (List.mem_of_mem_take hz)
      · simp only [List.mem_singleton] at hz; subst hz; exact hc
    · exact h3 z (List.mem_of_mem_drop hz)
  · rw [l1, l3]; exact sl64 (by omega)
  · rw [Str.len_app, l1, l2, l3]; exact sl64 (by omega)
structure PhW (Φ : Phi) (ns : List Int) : Prop extends PhM Φ ns where
  wd : ∀ k, 0 ≤ k → ∃ w, isW w ∧ w ≠ qt ∧ Φ 12 [.scr ns, .int k] = .ok (.str w) .non
theorem slS_str {w : Str} {lo hi : Option Int} (h : w.length ≤ 64) : slS (.str w) lo hi = some (.v (.str (cutS w lo hi))) := by simp only [slS, if_pos (sl64 h)]
theorem two_ix {a b : D} {i : Int} (h0 : 0 ≤ i) (h : i < 2) : ∃ c, (c = a ∨ c = b) ∧ ixS (.lst [a, b]) (.int i) = some (.v c) := by
  have : i = 0 ∨ i = 1 := by omega
  rcases this with rfl | rfl
  · exact ⟨a, .inl rfl, rfl⟩
  · exact ⟨b, .inr rfl, rfl⟩
theorem words_step {Φ : Phi} {ns : List Int} (P : PhW Φ ns) {at_ : Int} (h0 : 0 ≤ at_) {j : Int} (hj : 0 ≤ j) {l : List Str} {w : Str} (hw : isW w) (hl : l.length ≤ 60) {s4 s5 s6 s7 : SV}
    (hs : (s4 = .un ∧ s5 = .un ∧ s6 = .un ∧ s7 = .un) ∨ ∃ d4 d5 d6 d7, s4 = .val d4 ∧ s5 = .val d5 ∧ s6 = .val d6 ∧ s7 = .ow false d7) :
    ∃ v d4 d5 d6 d7, isW v ∧ b__law_words_l1 Φ [.val (.scr ns), .val (.int at_), .ow false (.lst ((l ++ [w]).map .str)), .val (.int j), s4, s5, s6, s7, .un] = .nx [.val (.scr ns), .val (.int at_), .ow false (.lst (((l ++ [w]) ++ [v]).map .str)), .val (.int j), .val d4, .val d5, .val d6, .ow false d7, .un] := by
  have w64 : w.length ≤ 64 := by have := hw.2.1; omega
  have wl : w.length ≤ sizeLine := sl64 w64
  have w0 : (0 : Int) < (w.length : Nat) := by have := hw.1; omega
  have m1 := P.mx (at_ + 10 * j) (w.length : Nat) (by omega) w0
  have p0 := mixF_lo (ns := ns) (k := at_ + 10 * j) w0
  have p1 := mixF_hi (ns := ns) (k := at_ + 10 * j) w0
  obtain ⟨p, ep⟩ : ∃ p : Nat, mixF ns (at_ + 10 * j) (w.length : Nat) = p := ⟨_, (Int.toNat_of_nonneg p0).symm⟩
  obtain ⟨u, hu, _, eu⟩ := P.wd (at_ + 10 * j + 1) (by omega)
  obtain ⟨c, hc, ec⟩ := ix_head hu
  obtain ⟨x, hx, _, ex⟩ := P.wd (at_ + 10 * j) (by omega)
  have m2 := P.mx (at_ + 40 + j) 2 (by omega) (by decide)
  rw [ep] at m1 p1
  obtain ⟨r1, r2, r3⟩ := rep_ok hw (p := p) (by omega) hc
  have s10 : (smallI 10 || smallI j) = true := by rw [show smallI 10 = true by decide, Bool.true_or]
  obtain ⟨y, hy, ey⟩ := two_ix (a := .str (cutS w none (some (p : Int)) ++ ⟨#[c]⟩ ++ cutS w (some (((p + 1 : Nat) : Int))) none)) (b := .str x) (mixF_lo (ns := ns) (k := at_ + 40 + j) (many := 2) (by decide)) (mixF_hi (by decide))
  obtain ⟨v, hv, rfl⟩ : ∃ v, isW v ∧ y = .str v := by
    rcases hy with rfl | rfl
    · exact ⟨_, r1, rfl⟩
    · exact ⟨x, hx, rfl⟩
  have al : (l.map D.str ++ [D.str w]).length < sizeLine := by
    have : l.length + 1 ≤ 61 := by omega
    simp only [List.length_append, List.length_map, List.length_cons, List.length_nil]
    exact Nat.lt_of_le_of_lt this (by decide)
  simp only [List.length_append, List.length_cons, List.length_nil] at al
  have pc : ((p : Int) + 1) = ((p + 1 : Nat) : Int) := rfl
  refine ⟨v, .str w, .int p, .str ⟨#[c]⟩, .lst [.str (cutS w none (some (p : Int)) ++ ⟨#[c]⟩ ++ cutS w (some (((p + 1 : Nat) : Int))) none), .str x], hv, ?_⟩
  rcases hs with ⟨rfl, rfl, rfl, rfl⟩ | ⟨d4, d5, d6, d7, rfl, rfl, rfl, rfl⟩ <;>
  · simp only [b__law_words_l1, List.map_append, runF, fr0, ioOf, mvM, mC, mN, mBin, mUn, mB, mAndT, mOrT, mNotT, mAndV, mOrV, mNotV, mHs, mDs, mTup, mLst, pks, mPrim, sSeq, sNil, oS, sPass, sExpr, sRet, sIf, setV, putH, sAsg, tN, tNil, tCons, tT, sAsgT, mCall, pk, mv, RD.hd, Out.bind, mTrue, mCh, mMt, mSl, mO0, mO1, mLM, mLM.isOwnL, isOwn, mComp, mCompN, lockF, unlk, sFor, sForN, unlS, mIL, mIT, mIS, mIR1, mIR2, wipeF, restF, vsOk, sRaise, sTry, mDnew, List.getElem?_cons_zero, List.getElem?_cons_succ, List.set_cons_zero, List.set_cons_succ, List.length_cons, List.length_nil, List.map_cons, List.map_nil, List.replicate_succ, List.replicate_zero, List.cons_append, List.nil_append, List.all_cons, List.all_nil, Option.map_some, Option.map_none, reduceIte, sl0, sl1, sl2, sl3, sl4, sl5, sl6, sl7, sl8, sl9, sl10, sl11, sl12, sl13, sl14, sl15, sl16, sl17, Bool.true_and, Bool.and_true, Bool.not_true, Bool.not_false, Nat.reduceAdd, Nat.reduceSub, Nat.zero_add, Bool.false_eq_true, decide_true, decide_false, List.length_append, Int.cast_ofNat_Int, Int.natCast_one, Int.natCast_zero, Int.reduceEq, Int.reduceLT, Int.reduceLE, Int.reduceAdd, Int.reduceMul, Int.reduceSub, Int.reduceNeg, ne_eq, not_true_eq_false, not_false_eq_true, negS, ix_last, mulS, s10, addS, lenS, wl, m1, eu, ec, slS_str w64, r2, r3, pc, ex, m2, ey, lmAppend, al]
theorem lmap_all {S : Str → Prop} {l : List Str} {a : Str} (h : ∀ w, w ∈ l → S w) (ha : S a) : ∀ w, w ∈ l ++ [a] → S w := fun w hw => by
  rcases List.mem_append.1 hw with hw | hw
  · exact h w hw
  · rw [List.mem_singleton.1 hw]; exact ha
def swapW (w : Str) : Str := if w = Str.ofString "quiet" then "quick" else w
theorem swapW_ok {w : Str} (h : isW w) : isW (swapW w) ∧ swapW w ≠ qt := by
  unfold swapW
  split
  · exact quick_ok
  · rename_i n; exact ⟨h, n⟩
theorem swapW_ix {w : Str} : ixS (.lst [.str w, .str "quick"]) (.int (if decide (w = Str.ofString "quiet") = true then 1 else 0)) = some (.v (.str (swapW w))) := by
  unfold swapW
  by_cases e : w = Str.ofString "quiet"
  · rw [decide_eq_true e, if_pos e]; rfl
  · rw [decide_eq_false e, if_neg e]; rfl
/-- what four drawn words are -/
structure Four (ws : List Str) : Prop where
  len : ws.length = 4
  ok : ∀ w, w ∈ ws → isW w ∧ w ≠ qt
theorem r_words {Φ : Phi} {ns : List Int} (P : PhW Φ ns) {at_ : Int} (h0 : 0 ≤ at_) : ∃ ws, Four ws ∧ runF c__law_words Φ [.scr ns, .int at_] = .ok (.lst (ws.map .str)) .non := by
  obtain ⟨w0, i0, _, e0⟩ := P.wd at_ h0
  obtain ⟨w1, a1, b1, c1, d1, i1, e1⟩ := words_step P h0 (j := 1) (by decide) (l := []) (w := w0) i0 (by decide) (.inl ⟨rfl, rfl, rfl, rfl⟩)
  obtain ⟨w2, a2, b2, c2, d2, i2, e2⟩ := words_step P h0 (j := 2) (by decide) (l := [w0]) (w := w1) i1 (by simp) (.inr ⟨a1, b1, c1, d1, rfl, rfl, rfl, rfl⟩)
  obtain ⟨w3, a3, b3, c3, d3, i3, e3⟩ := words_step P h0 (j := 3) (by decide) (l := [w0, w1]) (w := w2) i2 (by simp) (.inr ⟨a2, b2, c2, d2, rfl, rfl, rfl, rfl⟩)
  simp only [List.nil_append, List.cons_append, List.map_cons, List.map_nil] at e1 e2 e3
  have rl : rangeL 1 (Int.toNat 3) = [.int 1, .int 2, .int 3] := rfl
  have rg : (rgOk 1 && rgOk 4) = true := by decide
  refine ⟨[w0, w1, w2, w3].map swapW, ⟨rfl, fun w hw => ?_⟩, ?_⟩
  · obtain ⟨x, hx, rfl⟩ := List.mem_map.1 hw
    simp only [List.mem_cons, List.not_mem_nil, or_false] at hx
    rcases hx with rfl | rfl | rfl | rfl
    · exact swapW_ok i0
    · exact swapW_ok i1
    · exact swapW_ok i2
    · exact swapW_ok i3
  · have hc : compR (tN 8) mTrue (b__law_words_e1 Φ) [8] ([w0, w1, w2, w3].map D.str) [.val (.scr ns), .val (.int at_), .lck (.lst ([w0, w1, w2, w3].map D.str)), .val (.int 3), .val a3, .val b3, .val c3, .ow false d3, .un] = .ok (.f (.lst (([w0, w1, w2, w3].map D.str).map fun d => match d with
        | .str w => .str (swapW w)
        | _ => .non))) [.val (.scr ns), .val (.int at_), .lck (.lst ([w0, w1, w2, w3].map D.str)), .val (.int 3), .val a3, .val b3, .val c3, .ow false d3, .un] := by
      refine compR_map _ rfl sl4 rfl rfl fun d hd => ?_
      obtain ⟨w, hw, rfl⟩ := List.mem_map.1 hd
      refine ⟨_, _, [.val (.scr ns), .val (.int at_), .lck (.lst ([w0, w1, w2, w3].map D.str)), .val (.int 3), .val a3, .val b3, .val c3, .ow false d3, .val (.str w)], rfl, rfl, ?_, rfl⟩
      simp only [b__law_words_e1, runF, fr0, ioOf, mvM, mC, mN, mBin, mUn, mB, mAndT, mOrT, mNotT, mAndV, mOrV, mNotV, mHs, mDs, mTup, mLst, pks, mPrim, sSeq, sNil, oS, sPass, sExpr, sRet, sIf, setV, putH, sAsg, tN, tNil, tCons, tT, sAsgT, mCall, pk, mv, RD.hd, Out.bind, mTrue, mCh, mMt, mSl, mO0, mO1, mLM, mLM.isOwnL, isOwn, mComp, mCompN, lockF, unlk, sFor, sForN, unlS, mIL, mIT, mIS, mIR1, mIR2, wipeF, restF, vsOk, sRaise, sTry, mDnew, List.getElem?_cons_zero, List.getElem?_cons_succ, List.set_cons_zero, List.set_cons_succ, List.length_cons, List.length_nil, List.map_cons, List.map_nil, List.replicate_succ, List.replicate_zero, List.cons_append, List.nil_append, List.all_cons, List.all_nil, Option.map_some, Option.map_none, reduceIte, sl0, sl1, sl2, sl3, sl4, sl5, sl6, sl7, sl8, sl9, sl10, sl11, sl12, sl13, sl14, sl15, sl16, sl17, Bool.true_and, Bool.and_true, Bool.not_true, Bool.not_false, Nat.reduceAdd, Nat.reduceSub, Nat.zero_add, Bool.false_eq_true, decide_true, decide_false, List.length_append, Int.cast_ofNat_Int, Int.natCast_one, Int.natCast_zero, Int.reduceEq, Int.reduceLT, Int.reduceLE, Int.reduceAdd, Int.reduceMul, Int.reduceSub, Int.reduceNeg, ne_eq, not_true_eq_false, not_false_eq_true, eqS_str, intS, swapW_ix]
    simp only [List.map_cons, List.map_nil] at hc
    simp only [c__law_words, b__law_words, runF, fr0, ioOf, mvM, mC, mN, mBin, mUn, mB, mAndT, mOrT, mNotT, mAndV, mOrV, mNotV, mHs, mDs, mTup, mLst, pks, mPrim, sSeq, sNil, oS, sPass, sExpr, sRet, sIf, setV, putH, sAsg, tN, tNil, tCons, tT, sAsgT, mCall, pk, mv, RD.hd, Out.bind, mTrue, mCh, mMt, mSl, mO0, mO1, mLM, mLM.isOwnL, isOwn, mComp, mCompN, lockF, unlk, sFor, sForN, unlS, mIL, mIT, mIS, mIR1, mIR2, wipeF, restF, vsOk, sRaise, sTry, mDnew, List.getElem?_cons_zero, List.getElem?_cons_succ, List.set_cons_zero, List.set_cons_succ, List.length_cons, List.length_nil, List.map_cons, List.map_nil, List.replicate_succ, List.replicate_zero, List.cons_append, List.nil_append, List.all_cons, List.all_nil, Option.map_some, Option.map_none, reduceIte, sl0, sl1, sl2, sl3, sl4, sl5, sl6, sl7, sl8, sl9, sl10, sl11, sl12, sl13, sl14, sl15, sl16, sl17, Bool.true_and, Bool.and_true, Bool.not_true, Bool.not_false, Nat.reduceAdd, Nat.reduceSub, Nat.zero_add, Bool.false_eq_true, decide_true, decide_false, List.length_append, Int.cast_ofNat_Int, Int.natCast_one, Int.natCast_zero, Int.reduceEq, Int.reduceLT, Int.reduceLE, Int.reduceAdd, Int.reduceMul, Int.reduceSub, Int.reduceNeg, ne_eq, not_true_eq_false, not_false_eq_true, e0, rg, rl, forL, e1, e2, e3, hc]
end Z

/-! plain Lean: drawn patterns, mends -/
namespace Z
open PySem PySem.Spec PyProof.Rows L2
theorem ws_ix {ws : List Str} (F : Four ws) {i : Int} (h0 : 0 ≤ i) (h : i < 4) : ∃ w, (isW w ∧ w ≠ qt) ∧ ixS (.lst (ws.map .str)) (.int i) = some (.v (.str w)) := by
  have hl : i.toNat < ws.length := by rw [F.len]; omega
  refine ⟨ws[i.toNat], F.ok _ (List.getElem_mem hl), ?_⟩
  have : atI (ws.map D.str) i = some (.str ws[i.toNat]) := by
    have e : i = ((i.toNat : Nat) : Int) := by omega
    conv => lhs; rw [e]
    exact atI_nat (by rw [List.getElem?_map, List.getElem?_eq_getElem hl]; rfl)
  simp only [ixS, this, Option.map_some]
theorem three_ix {a b c : D} {i : Int} (h0 : 0 ≤ i) (h : i < 3) : ∃ d, (d = a ∨ d = b ∨ d = c) ∧ ixS (.lst [a, b, c]) (.int i) = some (.v d) := by
  have : i = 0 ∨ i = 1 ∨ i = 2 := by omega
  rcases this with rfl | rfl | rfl
  · exact ⟨a, .inl rfl, rfl⟩
  · exact ⟨b, .inr (.inl rfl), rfl⟩
  · exact ⟨c, .inr (.inr rfl), rfl⟩
theorem leaf_good {w : Str} (h : isW w ∧ w ≠ qt) : (T.n w []).good := ⟨h.1, h.2, by decide, trivial⟩
theorem one_good {w : Str} (h : isW w ∧ w ≠ qt) {t : T} (g : t.good) : (T.n w [t]).good := ⟨h.1, h.2, by simp, g, trivial⟩
theorem r_part {Φ : Phi} {ns : List Int} (P : PhM Φ ns) {at_ : Int} (h0 : 0 ≤ at_) {ws : List Str} (F : Four ws) (small : Bool) :
    ∃ t : T, t.good ∧ t.sz ≤ (if small then 1 else 2) ∧ runF c__law_part Φ [.scr ns, .int at_, .lst (ws.map .str), .bl small] = .ok t.d .non := by
  have m1 := P.mx at_ 6 h0 (by decide)
  have m2 := P.mx (at_ + 1) 4 (by omega) (by decide)
  obtain ⟨w, hw, ew⟩ := ws_ix F (mixF_lo (ns := ns) (k := at_ + 1) (many := 4) (by decide)) (mixF_hi (by decide))
  have k0 := mixF_lo (ns := ns) (k := at_) (many := 6) (by decide)
  generalize mixF ns at_ 6 = kd at m1 k0
  by_cases h3 : kd < 3
  · obtain ⟨d, hd, ed⟩ := three_ix (a := .int 0) (b := .int 0) (c := .int 1) k0 h3
    obtain ⟨i, i0, i1, rfl⟩ : ∃ i : Int, 0 ≤ i ∧ i < 2 ∧ d = .int i := by
      rcases hd with rfl | rfl | rfl
      · exact ⟨0, by decide, by decide, rfl⟩
      · exact ⟨0, by decide, by decide, rfl⟩
      · exact ⟨1, by decide, by decide, rfl⟩
    refine ⟨.h i, ⟨i0, i1⟩, by simp only [T.sz]; split <;> omega, ?_⟩
    simp only [c__law_part, b__law_part, runF, fr0, ioOf, mvM, mC, mN, mBin, mUn, mB, mAndT, mOrT, mNotT, mAndV, mOrV, mNotV, mHs, mDs, mTup, mLst, pks, mPrim, sSeq, sNil, oS, sPass, sExpr, sRet, sIf, setV, putH, sAsg, tN, tNil, tCons, tT, sAsgT, mCall, pk, mv, RD.hd, Out.bind, mTrue, mCh, mMt, mSl, mO0, mO1, mLM, mLM.isOwnL, isOwn, mComp, mCompN, lockF, unlk, sFor, sForN, unlS, mIL, mIT, mIS, mIR1, mIR2, wipeF, restF, vsOk, sRaise, sTry, mDnew, List.getElem?_cons_zero, List.getElem?_cons_succ, List.set_cons_zero, List.set_cons_succ, List.length_cons, List.length_nil, List.map_cons, List.map_nil, List.replicate_succ, List.replicate_zero, List.cons_append, List.nil_append, List.all_cons, List.all_nil, Option.map_some, Option.map_none, reduceIte, sl0, sl1, sl2, sl3, sl4, sl5, sl6, sl7, sl8, sl9, sl10, sl11, sl12, sl13, sl14, sl15, sl16, sl17, Bool.true_and, Bool.and_true, Bool.not_true, Bool.not_false, Nat.reduceAdd, Nat.reduceSub, Nat.zero_add, Bool.false_eq_true, decide_true, decide_false, List.length_append, Int.cast_ofNat_Int, Int.natCast_one, Int.natCast_zero, Int.reduceEq, Int.reduceLT, Int.reduceLE, Int.reduceAdd, Int.reduceMul, Int.reduceSub, Int.reduceNeg, ne_eq, not_true_eq_false, not_false_eq_true, m1, m2, addS, ew, ltS, decide_eq_true h3, ed, T.d]
  · by_cases e3 : kd = 3
    · refine ⟨.n w [], leaf_good hw, by simp only [T.sz, T.szs]; split <;> omega, ?_⟩
      simp only [c__law_part, b__law_part, runF, fr0, ioOf, mvM, mC, mN, mBin, mUn, mB, mAndT, mOrT, mNotT, mAndV, mOrV, mNotV, mHs, mDs, mTup, mLst, pks, mPrim, sSeq, sNil, oS, sPass, sExpr, sRet, sIf, setV, putH, sAsg, tN, tNil, tCons, tT, sAsgT, mCall, pk, mv, RD.hd, Out.bind, mTrue, mCh, mMt, mSl, mO0, mO1, mLM, mLM.isOwnL, isOwn, mComp, mCompN, lockF, unlk, sFor, sForN, unlS, mIL, mIT, mIS, mIR1, mIR2, wipeF, restF, vsOk, sRaise, sTry, mDnew, List.getElem?_cons_zero, List.getElem?_cons_succ, List.set_cons_zero, List.set_cons_succ, List.length_cons, List.length_nil, List.map_cons, List.map_nil, List.replicate_succ, List.replicate_zero, List.cons_append, List.nil_append, List.all_cons, List.all_nil, Option.map_some, Option.map_none, reduceIte, sl0, sl1, sl2, sl3, sl4, sl5, sl6, sl7, sl8, sl9, sl10, sl11, sl12, sl13, sl14, sl15, sl16, sl17, Bool.true_and, Bool.and_true, Bool.not_true, Bool.not_false, Nat.reduceAdd, Nat.reduceSub, Nat.zero_add, Bool.false_eq_true, decide_true, decide_false, List.length_append, Int.cast_ofNat_Int, Int.natCast_one, Int.natCast_zero, Int.reduceEq, Int.reduceLT, Int.reduceLE, Int.reduceAdd, Int.reduceMul, Int.reduceSub, Int.reduceNeg, ne_eq, not_true_eq_false, not_false_eq_true, m1, m2, addS, ew, ltS, decide_eq_false h3, eqS_int, decide_eq_true e3, T.d, T.ds]
    · cases small with
      | true =>
        refine ⟨.n w [], leaf_good hw, by simp only [T.sz, T.szs]; decide, ?_⟩
        simp only [c__law_part, b__law_part, runF, fr0, ioOf, mvM, mC, mN, mBin, mUn, mB, mAndT, mOrT, mNotT, mAndV, mOrV, mNotV, mHs, mDs, mTup, mLst, pks, mPrim, sSeq, sNil, oS, sPass, sExpr, sRet, sIf, setV, putH, sAsg, tN, tNil, tCons, tT, sAsgT, mCall, pk, mv, RD.hd, Out.bind, mTrue, mCh, mMt, mSl, mO0, mO1, mLM, mLM.isOwnL, isOwn, mComp, mCompN, lockF, unlk, sFor, sForN, unlS, mIL, mIT, mIS, mIR1, mIR2, wipeF, restF, vsOk, sRaise, sTry, mDnew, List.getElem?_cons_zero, List.getElem?_cons_succ, List.set_cons_zero, List.set_cons_succ, List.length_cons, List.length_nil, List.map_cons, List.map_nil, List.replicate_succ, List.replicate_zero, List.cons_append, List.nil_append, List.all_cons, List.all_nil, Option.map_some, Option.map_none, reduceIte, sl0, sl1, sl2, sl3, sl4, sl5, sl6, sl7, sl8, sl9, sl10, sl11, sl12, sl13, sl14, sl15, sl16, sl17, Bool.true_and, Bool.and_true, Bool.not_true, Bool.not_false, Nat.reduceAdd, Nat.reduceSub, Nat.zero_add, Bool.false_eq_true, decide_true, decide_false, List.length_append, Int.cast_ofNat_Int, Int.natCast_one, Int.natCast_zero, Int.reduceEq, Int.reduceLT, Int.reduceLE, Int.reduceAdd, Int.reduceMul, Int.reduceSub, Int.reduceNeg, ne_eq, not_true_eq_false, not_false_eq_true, m1, m2, addS, ew, ltS, decide_eq_false h3, eqS_int, decide_eq_false e3, T.d, T.ds]
      | false =>
        have m3 := P.mx (at_ + 3) 4 (by omega) (by decide)
        have m4 := P.mx (at_ + 2) 3 (by omega) (by decide)
        obtain ⟨v, hv, ev⟩ := ws_ix F (mixF_lo (ns := ns) (k := at_ + 3) (many := 4) (by decide)) (mixF_hi (by decide))
        obtain ⟨d, hd, ed⟩ := three_ix (a := .int 0) (b := .int 1) (c := (T.n v []).d) (mixF_lo (ns := ns) (k := at_ + 2) (many := 3) (by decide)) (mixF_hi (by decide))
        obtain ⟨t, tg, tz, rfl⟩ : ∃ t : T, t.good ∧ t.sz = 1 ∧ d = t.d := by
          rcases hd with rfl | rfl | rfl
          · exact ⟨.h 0, ⟨by decide, by decide⟩, rfl, rfl⟩
          · exact ⟨.h 1, ⟨by decide, by decide⟩, rfl, rfl⟩
          · exact ⟨.n v [], leaf_good hv, rfl, rfl⟩
        refine ⟨.n w [t], one_good hw tg, by simp only [T.sz, T.szs, tz]; decide, ?_⟩
        simp only [T.d, T.ds] at ed
        simp only [c__law_part, b__law_part, runF, fr0, ioOf, mvM, mC, mN, mBin, mUn, mB, mAndT, mOrT, mNotT, mAndV, mOrV, mNotV, mHs, mDs, mTup, mLst, pks, mPrim, sSeq, sNil, oS, sPass, sExpr, sRet, sIf, setV, putH, sAsg, tN, tNil, tCons, tT, sAsgT, mCall, pk, mv, RD.hd, Out.bind, mTrue, mCh, mMt, mSl, mO0, mO1, mLM, mLM.isOwnL, isOwn, mComp, mCompN, lockF, unlk, sFor, sForN, unlS, mIL, mIT, mIS, mIR1, mIR2, wipeF, restF, vsOk, sRaise, sTry, mDnew, List.getElem?_cons_zero, List.getElem?_cons_succ, List.set_cons_zero, List.set_cons_succ, List.length_cons, List.length_nil, List.map_cons, List.map_nil, List.replicate_succ, List.replicate_zero, List.cons_append, List.nil_append, List.all_cons, List.all_nil, Option.map_some, Option.map_none, reduceIte, sl0, sl1, sl2, sl3, sl4, sl5, sl6, sl7, sl8, sl9, sl10, sl11, sl12, sl13, sl14, sl15, sl16, sl17, Bool.true_and, Bool.and_true, Bool.not_true, Bool.not_false, Nat.reduceAdd, Nat.reduceSub, Nat.zero_add, Bool.false_eq_true, decide_true, decide_false, List.length_append, Int.cast_ofNat_Int, Int.natCast_one, Int.natCast_zero, Int.reduceEq, Int.reduceLT, Int.reduceLE, Int.reduceAdd, Int.reduceMul, Int.reduceSub, Int.reduceNeg, ne_eq, not_true_eq_false, not_false_eq_true, m1, m2, addS, ew, ltS, decide_eq_false h3, eqS_int, decide_eq_false e3, m3, m4, ev, ed, T.d, T.ds]
theorem pick_ts {f : D → D} {Q : T → Prop} : ∀ {ds : List D}, (∀ d, d ∈ ds → ∃ t : T, Q t ∧ f d = t.d) → ∃ ts : List T, ds.map f = T.ds ts ∧ ts.length = ds.length ∧ ∀ t, t ∈ ts → Q t
  | [], _ => ⟨[], rfl, rfl, fun _ h => by cases h⟩
  | d :: ds, h => by
    obtain ⟨t, q, e⟩ := h d (by simp)
    obtain ⟨ts, e1, e2, e3⟩ := pick_ts (f := f) (Q := Q) (ds := ds) fun y hy => h y (by simp [hy])
    refine ⟨t :: ts, by rw [List.map_cons, e, e1]; rfl, by simp [e2], fun y hy => ?_⟩
    rcases List.mem_cons.1 hy with rfl | hy
    · exact q
    · exact e3 y hy
theorem szs_le {m : Nat} : ∀ {l : List T}, (∀ t, t ∈ l → t.sz ≤ m) → T.szs l ≤ l.length * m
  | [], _ => by simp [T.szs]
  | t :: ts, hh => by
    have a := hh t (by simp)
    have b := szs_le (m := m) (l := ts) fun y hy => hh y (by simp [hy])
    simp only [T.szs, List.length_cons, Nat.add_mul, Nat.one_mul]
    omega
structure PhD (Φ : Phi) (ns : List Int) : Prop extends PhW Φ ns where
  pa : ∀ k ws small, 0 ≤ k → Four ws → ∃ t : T, t.good ∧ t.sz ≤ (if small = true then 1 else 2) ∧ Φ 14 [.scr ns, .int k, .lst (ws.map .str), .bl small] = .ok t.d .non
theorem five_ix {i : Int} (h0 : 0 ≤ i) (h : i < 5) : ∃ n : Nat, 1 ≤ n ∧ n ≤ 3 ∧ ixS (.lst [.int 1, .int 2, .int 2, .int 3, .int 1]) (.int i) = some (.v (.int n)) := by
  have : i = 0 ∨ i = 1 ∨ i = 2 ∨ i = 3 ∨ i = 4 := by omega
  rcases this with rfl | rfl | rfl | rfl | rfl
  · exact ⟨1, by decide, by decide, rfl⟩
  · exact ⟨2, by decide, by decide, rfl⟩
  · exact ⟨2, by decide, by decide, rfl⟩
  · exact ⟨3, by decide, by decide, rfl⟩
  · exact ⟨1, by decide, by decide, rfl⟩
theorem run_ok {c : CF} {Φ : Phi} {ds : List D} {A A' : Fr} {d : D} (hi : c.io = false) (hl : ds.length = c.np) (hA : fr0 c ds = A) (q : c.body Φ A = .rt d A') : runF c Φ ds = .ok d .non := by
  unfold runF
  rw [if_pos hl, hA, q]
  simp only [ioOf, hi]
theorem mIR1_ok {m : M Hd} {A A1 : Fr} {h : Hd} {j : Int} (e : m A = .ok h A1) (p : pk h A1 = some (.int j)) (r : rgOk j = true) : mIR1 m A = .ok (rangeL 0 j.toNat) A1 := by
  unfold mIR1
  simp only [mHs, e, Out.bind, pks, p]
  rw [if_pos r]
theorem mIR1_nat {m : M Hd} {A A1 : Fr} {h : Hd} {n : Nat} (e : m A = .ok h A1) (p : pk h A1 = some (.int (n : Nat))) (r : rgOk (n : Nat) = true) : mIR1 m A = .ok (rangeL 0 n) A1 := by
  have := mIR1_ok e p r
  rw [Int.toNat_natCast] at this
  exact this
theorem sSeq_nx {m1 m2 : MS} {A A1 : Fr} (h : m1 A = .nx A1) : sSeq m1 m2 A = m2 A1 := by unfold sSeq; rw [h]
theorem sSeq_rt {m1 m2 : MS} {A A1 : Fr} {d : D} (h : m1 A = .rt d A1) : sSeq m1 m2 A = .rt d A1 := by unfold sSeq; rw [h]
theorem mComp_ok {mi : M (List D)} {vs : List Nat} {t : MT} {tt : M Bool} {te : M Hd} {A A1 A2 : Fr} {ds : List D} {o : Hd} (e : mi A = .ok ds A1) (h : compR t tt te vs ds A1 = .ok o A2) : mComp mi vs t tt te A = .ok o A2 := by
  unfold mComp
  rw [e]
  exact h
/-- a drawn pattern -/
structure PatOk (t : T) : Prop where
  g : t.good
  z : t.sz ≤ 6
  nd : ∃ w p ps, t = .n w (p :: ps)
theorem r_pattern {Φ : Phi} {ns : List Int} (P : PhD Φ ns) {at_ : Int} (h0 : 0 ≤ at_) {ws : List Str} (F : Four ws) : ∃ t, PatOk t ∧ runF c__law_pattern Φ [.scr ns, .int at_, .lst (ws.map .str)] = .ok t.d .non := by
  have m1 := P.mx at_ 5 h0 (by decide)
  obtain ⟨n, n1, n3, en⟩ := five_ix (mixF_lo (ns := ns) (k := at_) (many := 5) (by decide)) (mixF_hi (by decide))
  have m2 := P.mx (at_ + 1) 4 (by omega) (by decide)
  obtain ⟨w, hw, ew⟩ := ws_ix F (mixF_lo (ns := ns) (k := at_ + 1) (many := 4) (by decide)) (mixF_hi (by decide))
  have rg := rgOk_nat (n := n) (by omega)
  have s5 : ∀ x, (smallI 5 || smallI x) = true := fun x => by rw [show smallI 5 = true by decide, Bool.true_or]
  obtain ⟨f, hf⟩ : ∃ f : D → D, ∀ i, f (.int i) = fstOk (Φ 14 [.scr ns, .int (at_ + 2 + 5 * i), .lst (ws.map .str), .bl (decide ((n : Int) = 3))]) := ⟨fun d => match d with
    | .int i => fstOk (Φ 14 [.scr ns, .int (at_ + 2 + 5 * i), .lst (ws.map .str), .bl (decide ((n : Int) = 3))])
    | _ => .non, fun i => rfl⟩
  have hc : compR (tN 5) mTrue (b__law_pattern_e1 Φ) [5] (rangeL 0 n) [.val (.scr ns), .val (.int at_), .val (.lst (ws.map .str)), .val (.int n), .un, .un] = .ok (.f (.lst ((rangeL 0 n).map f))) [.val (.scr ns), .val (.int at_), .val (.lst (ws.map .str)), .val (.int n), .un, .un] := by
    refine compR_map _ rfl (by rw [range_len]; exact sl64 (by omega)) rfl rfl fun d hd => ?_
    obtain ⟨j, hj, rfl⟩ := range_pos (by decide) d hd
    refine ⟨_, _, [.val (.scr ns), .val (.int at_), .val (.lst (ws.map .str)), .val (.int n), .un, .val (.int j)], rfl, rfl, ?_, rfl⟩
    obtain ⟨t, _, _, e⟩ := P.pa (at_ + 2 + 5 * j) ws (decide ((n : Int) = 3)) (by omega) F
    simp only [b__law_pattern_e1, runF, fr0, ioOf, mvM, mC, mN, mBin, mUn, mB, mAndT, mOrT, mNotT, mAndV, mOrV, mNotV, mHs, mDs, mTup, mLst, pks, mPrim, sSeq, sNil, oS, sPass, sExpr, sRet, sIf, setV, putH, sAsg, tN, tNil, tCons, tT, sAsgT, mCall, pk, mv, RD.hd, Out.bind, mTrue, mCh, mMt, mSl, mO0, mO1, mLM, mLM.isOwnL, isOwn, mComp, mCompN, lockF, unlk, sFor, sForN, unlS, mIL, mIT, mIS, mIR1, mIR2, wipeF, restF, vsOk, sRaise, sTry, mDnew, List.getElem?_cons_zero, List.getElem?_cons_succ, List.set_cons_zero, List.set_cons_succ, List.length_cons, List.length_nil, List.map_cons, List.map_nil, List.replicate_succ, List.replicate_zero, List.cons_append, List.nil_append, List.all_cons, List.all_nil, Option.map_some, Option.map_none, reduceIte, sl0, sl1, sl2, sl3, sl4, sl5, sl6, sl7, sl8, sl9, sl10, sl11, sl12, sl13, sl14, sl15, sl16, sl17, Bool.true_and, Bool.and_true, Bool.not_true, Bool.not_false, Nat.reduceAdd, Nat.reduceSub, Nat.zero_add, Bool.false_eq_true, decide_true, decide_false, List.length_append, Int.cast_ofNat_Int, Int.natCast_one, Int.natCast_zero, Int.reduceEq, Int.reduceLT, Int.reduceLE, Int.reduceAdd, Int.reduceMul, Int.reduceSub, Int.reduceNeg, ne_eq, not_true_eq_false, not_false_eq_true, addS, mulS, s5, eqS_int, e, hf, fstOk]
  obtain ⟨ts, e1, e2, e3⟩ := pick_ts (f := f) (Q := fun t => t.good ∧ t.sz ≤ (if decide ((n : Int) = 3) = true then 1 else 2)) (ds := rangeL 0 n) fun d hd => by
    obtain ⟨j, hj, rfl⟩ := range_pos (by decide) d hd
    obtain ⟨t, g, z, e⟩ := P.pa (at_ + 2 + 5 * j) ws (decide ((n : Int) = 3)) (by omega) F
    exact ⟨t, ⟨g, z⟩, by rw [hf, e]; rfl⟩
  rw [range_len] at e2
  rw [e1] at hc
  have sz : T.szs ts ≤ 5 := by
    by_cases h3 : (n : Int) = 3
    · have := szs_le (m := 1) (l := ts) fun t ht => by have := (e3 t ht).2; rw [decide_eq_true h3] at this; exact this
      omega
    · have := szs_le (m := 2) (l := ts) fun t ht => by have := (e3 t ht).2; rw [decide_eq_false h3] at this; exact this
      omega
  refine ⟨.n w ts, ⟨⟨hw.1, hw.2, by omega, T.goods_mem.2 fun t ht => (e3 t ht).1⟩, by simp only [T.sz]; omega, ?_⟩, ?_⟩
  · cases ts with
    | nil => simp only [List.length_nil] at e2; omega
    | cons p ps => exact ⟨w, p, ps, rfl⟩
  · have q2 : mComp (mIR1 (mN 3)) [5] (tN 5) mTrue (b__law_pattern_e1 Φ) [.val (.scr ns), .val (.int at_), .val (.lst (ws.map .str)), .val (.int n), .un, .un] = .ok (.f (.lst (T.ds ts))) [.val (.scr ns), .val (.int at_), .val (.lst (ws.map .str)), .val (.int n), .un, .un] := by
      exact mComp_ok (ds := rangeL 0 n) (mIR1_nat (h := .s 3) (n := n) rfl rfl rg) hc
    have q1 : sAsg 3 (mBin ixS (mLst [(mC (.int 1)), (mC (.int 2)), (mC (.int 2)), (mC (.int 3)), (mC (.int 1))]) (mCall Φ 11 [(mN 0), (mN 1), (mC (.int 5))])) [.val (.scr ns), .val (.int at_), .val (.lst (ws.map .str)), .un, .un, .un] = .nx [.val (.scr ns), .val (.int at_), .val (.lst (ws.map .str)), .val (.int n), .un, .un] := by
      simp only [runF, fr0, ioOf, mvM, mC, mN, mBin, mUn, mB, mAndT, mOrT, mNotT, mAndV, mOrV, mNotV, mHs, mDs, mTup, mLst, pks, mPrim, sSeq, sNil, oS, sPass, sExpr, sRet, sIf, setV, putH, sAsg, tN, tNil, tCons, tT, sAsgT, mCall, pk, mv, RD.hd, Out.bind, mTrue, mCh, mMt, mSl, mO0, mO1, mLM, mLM.isOwnL, isOwn, mComp, mCompN, lockF, unlk, sFor, sForN, unlS, mIL, mIT, mIS, mIR1, mIR2, wipeF, restF, vsOk, sRaise, sTry, mDnew, List.getElem?_cons_zero, List.getElem?_cons_succ, List.set_cons_zero, List.set_cons_succ, List.length_cons, List.length_nil, List.map_cons, List.map_nil, List.replicate_succ, List.replicate_zero, List.cons_append, List.nil_append, List.all_cons, List.all_nil, Option.map_some, Option.map_none, reduceIte, sl0, sl1, sl2, sl3, sl4, sl5, sl6, sl7, sl8, sl9, sl10, sl11, sl12, sl13, sl14, sl15, sl16, sl17, Bool.true_and, Bool.and_true, Bool.not_true, Bool.not_false, Nat.reduceAdd, Nat.reduceSub, Nat.zero_add, Bool.false_eq_true, decide_true, decide_false, List.length_append, Int.cast_ofNat_Int, Int.natCast_one, Int.natCast_zero, Int.reduceEq, Int.reduceLT, Int.reduceLE, Int.reduceAdd, Int.reduceMul, Int.reduceSub, Int.reduceNeg, ne_eq, not_true_eq_false, not_false_eq_true, m1, en]
    have q3 : sAsg 4 (mComp (mIR1 (mN 3)) [5] (tN 5) mTrue (b__law_pattern_e1 Φ)) [.val (.scr ns), .val (.int at_), .val (.lst (ws.map .str)), .val (.int n), .un, .un] = .nx [.val (.scr ns), .val (.int at_), .val (.lst (ws.map .str)), .val (.int n), .ow false (.lst (T.ds ts)), .un] := by
      unfold sAsg
      rw [q2]
      rfl
    have q4 : sRet (mTup [(mBin ixS (mN 2) (mCall Φ 11 [(mN 0), (mBin addS (mN 1) (mC (.int 1))), (mC (.int 4))])), (mPrim tupleS [(mN 4)])]) [.val (.scr ns), .val (.int at_), .val (.lst (ws.map .str)), .val (.int n), .ow false (.lst (T.ds ts)), .un] = .rt (T.n w ts).d [.val (.scr ns), .val (.int at_), .val (.lst (ws.map .str)), .val (.int n), .ow false (.lst (T.ds ts)), .un] := by
      simp only [runF, fr0, ioOf, mvM, mC, mN, mBin, mUn, mB, mAndT, mOrT, mNotT, mAndV, mOrV, mNotV, mHs, mDs, mTup, mLst, pks, mPrim, sSeq, sNil, oS, sPass, sExpr, sRet, sIf, setV, putH, sAsg, tN, tNil, tCons, tT, sAsgT, mCall, pk, mv, RD.hd, Out.bind, mTrue, mCh, mMt, mSl, mO0, mO1, mLM, mLM.isOwnL, isOwn, mComp, mCompN, lockF, unlk, sFor, sForN, unlS, mIL, mIT, mIS, mIR1, mIR2, wipeF, restF, vsOk, sRaise, sTry, mDnew, List.getElem?_cons_zero, List.getElem?_cons_succ, List.set_cons_zero, List.set_cons_succ, List.length_cons, List.length_nil, List.map_cons, List.map_nil, List.replicate_succ, List.replicate_zero, List.cons_append, List.nil_append, List.all_cons, List.all_nil, Option.map_some, Option.map_none, reduceIte, sl0, sl1, sl2, sl3, sl4, sl5, sl6, sl7, sl8, sl9, sl10, sl11, sl12, sl13, sl14, sl15, sl16, sl17, Bool.true_and, Bool.and_true, Bool.not_true, Bool.not_false, Nat.reduceAdd, Nat.reduceSub, Nat.zero_add, Bool.false_eq_true, decide_true, decide_false, List.length_append, Int.cast_ofNat_Int, Int.natCast_one, Int.natCast_zero, Int.reduceEq, Int.reduceLT, Int.reduceLE, Int.reduceAdd, Int.reduceMul, Int.reduceSub, Int.reduceNeg, ne_eq, not_true_eq_false, not_false_eq_true, m2, ew, addS, tupleS, T.d]
    have q : b__law_pattern Φ [.val (.scr ns), .val (.int at_), .val (.lst (ws.map .str)), .un, .un, .un] = .rt (T.n w ts).d [.val (.scr ns), .val (.int at_), .val (.lst (ws.map .str)), .val (.int n), .ow false (.lst (T.ds ts)), .un] := by
      unfold b__law_pattern
      exact (sSeq_nx q1).trans ((sSeq_nx q3).trans q4)
    exact run_ok rfl rfl rfl q
end Z

/-! plain Lean: drawn mends -/
namespace Z
open PySem PySem.Spec PyProof.Rows L2
def hl (l : List Int) : List T := l.map T.h
theorem hl_ds : ∀ l : List Int, T.ds (hl l) = l.map D.int
  | [] => rfl
  | i :: l => by have := hl_ds l; simp only [hl, List.map_cons, T.ds, T.d] at *; rw [this]
theorem hl_holes : ∀ l : List Int, T.holesL (hl l) = l
  | [] => rfl
  | i :: l => by have := hl_holes l; simp only [hl, List.map_cons, T.holesL, T.holes] at *; rw [this]; rfl
theorem hl_szs : ∀ l : List Int, T.szs (hl l) = l.length
  | [] => rfl
  | i :: l => by have := hl_szs l; simp only [hl, List.map_cons, T.szs, T.sz, List.length_cons] at *; rw [this]; omega
theorem hl_cnts : ∀ l : List Int, T.cnts (hl l) = 0
  | [] => rfl
  | i :: l => by have := hl_cnts l; simp only [hl, List.map_cons, T.cnts, T.cnt] at *; rw [this]
mutual
theorem holes_good : ∀ t : T, t.good → ∀ i, i ∈ t.holes → 0 ≤ i ∧ i < 2
  | .h j, g, i, hi => by simp only [T.holes, List.mem_singleton] at hi; subst hi; exact g
  | .n w ps, g, i, hi => holesL_good ps g.2.2.2 i hi
theorem holesL_good : ∀ l : List T, T.goods l → ∀ i, i ∈ T.holesL l → 0 ≤ i ∧ i < 2
  | [], _, i, hi => by cases hi
  | t :: ts, g, i, hi => by
    simp only [T.holesL] at hi
    rcases List.mem_append.1 hi with hi | hi
    · exact holes_good t g.1 i hi
    · exact holesL_good ts g.2 i hi
end
theorem hl_good {l : List Int} (h : ∀ i, i ∈ l → 0 ≤ i ∧ i < 2) : T.goods (hl l) := T.goods_mem.2 fun t ht => by
  obtain ⟨i, hi, rfl⟩ := List.mem_map.1 ht
  exact h i hi
structure MendOk (t m : T) : Prop where
  g : m.good
  z : m.sz ≤ 6
  ho : ∀ i : Int, m.holes.count i ≤ t.holes.count i
  le : m.cnt < t.cnt
theorem mend_hole {t : T} (P : PatOk t) {i : Int} (hi : i ∈ t.holes) : MendOk t (.h i) := by
  obtain ⟨w, p, ps, e⟩ := P.nd
  refine ⟨holes_good t P.g i hi, by simp [T.sz], fun j => ?_, by rw [e]; simp only [T.cnt]; omega⟩
  simp only [T.holes, List.count_singleton]
  split
  · rename_i h; have h := eq_of_beq h; subst h; exact List.count_pos_iff.2 hi
  · exact Nat.zero_le _
theorem mend_flat {t : T} (P : PatOk t) {w : Str} (hw : isW w ∧ w ≠ qt) {l : List Int} (hs : ∀ i, l.count i ≤ t.holes.count i) (h4 : l.length ≤ 4) (hc : 1 < t.cnt) : MendOk t (.n w (hl l)) := by
  refine ⟨⟨hw.1, hw.2, by simp only [hl, List.length_map]; exact h4, hl_good fun i hi => holes_good t P.g i (List.count_pos_iff.1 (Nat.lt_of_lt_of_le (List.count_pos_iff.2 hi) (hs i)))⟩, by simp only [T.sz, hl_szs]; omega, fun i => ?_, by simp only [T.cnt, hl_cnts]; omega⟩
  simp only [T.holes, hl_holes]; exact hs i
theorem mend_deep {t : T} (P : PatOk t) {w v : Str} (hw : isW w ∧ w ≠ qt) (hv : isW v ∧ v ≠ qt) {l : List Int} (hs : ∀ i, l.count i ≤ t.holes.count i) (h4 : l.length ≤ 3) (hc : 2 < t.cnt) : MendOk t (.n w [.n v (hl l)]) := by
  have m := mend_flat P hv (l := l) hs (by omega) (by omega)
  refine ⟨one_good hw m.g, by simp only [T.sz, T.szs, hl_szs]; omega, fun i => ?_, by simp only [T.cnt, T.cnts, hl_cnts]; omega⟩
  simp only [T.holes, T.holesL, List.append_nil, hl_holes]; exact hs i
theorem cut_take {l : List Int} {k : Nat} : cutD (l.map D.int) none (some (k : Int)) = (l.take k).map D.int := by
  unfold cutD
  rw [HT.sIx_none, HT.sIx_nat]
  simp only [List.drop_zero, Nat.sub_zero, List.length_map, List.map_take]
  rcases Nat.le_total k l.length with h | h
  · rw [Nat.min_eq_left h]
  · rw [Nat.min_eq_right h, List.take_of_length_le (by simp), List.take_of_length_le (by simp; exact h)]
theorem ds_ix {l : List T} {i : Int} (h0 : 0 ≤ i) (h : i < (l.length : Nat)) : ∃ t, t ∈ l ∧ ixS (.lst (T.ds l)) (.int i) = some (.v t.d) := by
  have hlt : i.toNat < l.length := by omega
  refine ⟨l[i.toNat], List.getElem_mem hlt, ?_⟩
  have : atI (T.ds l) i = some l[i.toNat].d := by
    have e : i = ((i.toNat : Nat) : Int) := by omega
    conv => lhs; rw [e]
    exact atI_nat (by rw [T.ds_map, List.getElem?_map, List.getElem?_eq_getElem hlt]; rfl)
  simp only [ixS, this, Option.map_some]
/-- all mends that may be drawn -/
def mendsL (t : T) (w v : Str) : List T := hl t.holes ++ (if 1 < t.cnt then [.n w [], .n w (hl (t.holes.take 1)), .n w (hl (t.holes.reverse.take 4))] else []) ++ (if 2 < t.cnt then [.n w [.n v (hl (t.holes.take 1))]] else [])
theorem mendsL_ok {t : T} (P : PatOk t) {w v : Str} (hw : isW w ∧ w ≠ qt) (hv : isW v ∧ v ≠ qt) : ∀ m, m ∈ mendsL t w v → MendOk t m := by
  intro m hm
  have t1 : ∀ i, (t.holes.take 1).count i ≤ t.holes.count i := fun i => (List.take_sublist 1 _).count_le i
  rcases List.mem_append.1 hm with hm | hm
  · rcases List.mem_append.1 hm with hm | hm
    · obtain ⟨i, hi, rfl⟩ := List.mem_map.1 hm
      exact mend_hole P hi
    · split at hm
      · rename_i hc
        simp only [List.mem_cons, List.not_mem_nil, or_false] at hm
        rcases hm with rfl | rfl | rfl
        · exact mend_flat P hw (l := []) (fun i => by simp) (by simp) hc
        · exact mend_flat P hw t1 (by simp; omega) hc
        · exact mend_flat P hw (fun i => by have := (List.take_sublist 4 t.holes.reverse).count_le i; rw [List.count_reverse] at this; exact this) (by simp; omega) hc
      · cases hm
  · split at hm
    · rename_i hc
      simp only [List.mem_singleton] at hm
      subst hm
      exact mend_deep P hw hv t1 (by simp; omega) hc
    · cases hm
mutual
theorem sz_eq : ∀ t : T, t.sz = t.cnt + t.holes.length
  | .h _ => rfl
  | .n _ ps => by have := szs_eq ps; simp only [T.sz, T.cnt, T.holes]; omega
theorem szs_eq : ∀ l : List T, T.szs l = T.cnts l + (T.holesL l).length
  | [] => rfl
  | t :: ts => by have a := sz_eq t; have b := szs_eq ts; simp only [T.szs, T.cnts, T.holesL, List.length_append]; omega
end
theorem mendsL_len {t : T} (P : PatOk t) {w v : Str} : 0 < (mendsL t w v).length ∧ (mendsL t w v).length ≤ 64 := by
  obtain ⟨w0, p, ps, e⟩ := P.nd
  have a := sz_eq t
  have b : 2 ≤ t.sz := by have := T.sz_pos p; rw [e]; simp only [T.sz, T.szs]; omega
  have c := P.z
  unfold mendsL
  simp only [List.length_append, hl, List.length_map]
  constructor
  · by_cases h : 1 < t.cnt
    · rw [if_pos h]; simp only [List.length_cons]; omega
    · omega
  · have x : (if 1 < t.cnt then [T.n w [], .n w (hl (t.holes.take 1)), .n w (hl (t.holes.reverse.take 4))] else []).length ≤ 3 := by split <;> simp
    have y : (if 2 < t.cnt then [T.n w [.n v (hl (t.holes.take 1))]] else []).length ≤ 1 := by split <;> simp
    simp only [hl] at x y
    omega
structure PhE (Φ : Phi) (ns : List Int) : Prop extends PhM Φ ns where
  ho : ∀ t : T, t.sz ≤ 6 → Φ 16 [t.d] = .ok (.lst (t.holes.map .int)) .non
  ct : ∀ t : T, t.sz ≤ 6 → Φ 17 [t.d] = .ok (.int t.cnt) .non
theorem slS_lst {ds : List D} {lo hi : Option Int} : slS (.lst ds) lo hi = some (.f (.lst (cutD ds lo hi))) := rfl
theorem r_mend {Φ : Phi} {ns : List Int} (P : PhE Φ ns) {at_ : Int} (h0 : 0 ≤ at_) {ws : List Str} (F : Four ws) {t : T} (p : PatOk t) : ∃ m, MendOk t m ∧ runF c__law_mend Φ [.scr ns, .int at_, .lst (ws.map .str), t.d] = .ok m.d .non := by
  have e16 := P.ho t p.z
  have e17 := P.ct t p.z
  have m1 := P.mx at_ 4 h0 (by decide)
  obtain ⟨w, hw, ew⟩ := ws_ix F (mixF_lo (ns := ns) (k := at_) (many := 4) (by decide)) (mixF_hi (by decide))
  have m2 := P.mx (at_ + 1) 4 (by omega) (by decide)
  obtain ⟨v, hv, ev⟩ := ws_ix F (mixF_lo (ns := ns) (k := at_ + 1) (many := 4) (by decide)) (mixF_hi (by decide))
  obtain ⟨l1, l2⟩ := mendsL_len p (w := w) (v := v)
  have lp : (0 : Int) < ((mendsL t w v).length : Nat) := by omega
  have m3 := P.mx (at_ + 2) ((mendsL t w v).length : Nat) (by omega) lp
  obtain ⟨m, hm, em⟩ := ds_ix (l := mendsL t w v) (mixF_lo (ns := ns) (k := at_ + 2) lp) (mixF_hi lp)
  generalize mixF ns (at_ + 2) ((mendsL t w v).length : Nat) = ix at m3 em
  generalize mixF ns (at_ + 1) 4 = i2 at m2 ev
  generalize mixF ns at_ 4 = i1 at m1 ew
  refine ⟨m, mendsL_ok p hw hv m hm, ?_⟩
  have c1 : cutD (t.holes.map D.int) none (some 1) = (t.holes.take 1).map D.int := cut_take (k := 1)
  have c4 : cutD ((t.holes.map D.int).reverse) none (some 4) = (t.holes.reverse.take 4).map D.int := by rw [← List.map_reverse]; exact cut_take (k := 4)
  have hz : t.holes.length ≤ 6 := Nat.le_trans (T.holes_sz t) p.z
  have s3 : (t.holes.map D.int).length + (0 + 1 + 1 + 1) ≤ sizeLine := sl64 (by rw [List.length_map]; omega)
  by_cases h2 : 2 < t.cnt
  · have h1 : 1 < t.cnt := by omega
    have g1 : decide ((1 : Int) < (t.cnt : Nat)) = true := decide_eq_true (by omega)
    have g2 : decide ((2 : Int) < (t.cnt : Nat)) = true := decide_eq_true (by omega)
    have el : T.ds (mendsL t w v) = t.holes.map D.int ++ [.tup [.str w, .tup []], .tup [.str w, .tup ((t.holes.take 1).map D.int)], .tup [.str w, .tup ((t.holes.reverse.take 4).map D.int)]] ++ [.tup [.str w, .tup [.tup [.str v, .tup ((t.holes.take 1).map D.int)]]]] := by
      unfold mendsL
      rw [if_pos h1, if_pos h2, T.ds_app, T.ds_app, hl_ds]
      simp only [T.ds, T.d, hl_ds]
    have ln : ((mendsL t w v).length : Nat) = (t.holes.map D.int).length + (0 + 1 + 1 + 1) + (0 + 1) := by rw [← T.ds_len, el]; simp
    rw [el] at em
    rw [ln] at m3
    have s4 : (t.holes.map D.int).length + (0 + 1 + 1 + 1) < sizeLine := Nat.lt_of_le_of_lt (show _ ≤ 20 by rw [List.length_map]; omega) (by decide)
    simp only [Nat.reduceAdd, Nat.zero_add] at s3 s4 m3
    simp only [c__law_mend, b__law_mend, runF, fr0, ioOf, mvM, mC, mN, mBin, mUn, mB, mAndT, mOrT, mNotT, mAndV, mOrV, mNotV, mHs, mDs, mTup, mLst, pks, mPrim, sSeq, sNil, oS, sPass, sExpr, sRet, sIf, setV, putH, sAsg, tN, tNil, tCons, tT, sAsgT, mCall, pk, mv, RD.hd, Out.bind, mTrue, mCh, mMt, mSl, mO0, mO1, mLM, mLM.isOwnL, isOwn, mComp, mCompN, lockF, unlk, sFor, sForN, unlS, mIL, mIT, mIS, mIR1, mIR2, wipeF, restF, vsOk, sRaise, sTry, mDnew, List.getElem?_cons_zero, List.getElem?_cons_succ, List.set_cons_zero, List.set_cons_succ, List.length_cons, List.length_nil, List.map_cons, List.map_nil, List.replicate_succ, List.replicate_zero, List.cons_append, List.nil_append, List.all_cons, List.all_nil, Option.map_some, Option.map_none, reduceIte, sl0, sl1, sl2, sl3, sl4, sl5, sl6, sl7, sl8, sl9, sl10, sl11, sl12, sl13, sl14, sl15, sl16, sl17, Bool.true_and, Bool.and_true, Bool.not_true, Bool.not_false, Nat.reduceAdd, Nat.reduceSub, Nat.zero_add, Bool.false_eq_true, decide_true, decide_false, List.length_append, Int.cast_ofNat_Int, Int.natCast_one, Int.natCast_zero, Int.reduceEq, Int.reduceLT, Int.reduceLE, Int.reduceAdd, Int.reduceMul, Int.reduceSub, Int.reduceNeg, ne_eq, not_true_eq_false, not_false_eq_true, e16, e17, m1, ew, listS, gtS, g1, g2, slS_lst, c1, revS, c4, tupleS, lmExtend, s3, addS, m2, ev, lmAppend, s4, lenS, m3, em]
  · have g2 : decide ((2 : Int) < (t.cnt : Nat)) = false := decide_eq_false (by omega)
    by_cases h1 : 1 < t.cnt
    · have g1 : decide ((1 : Int) < (t.cnt : Nat)) = true := decide_eq_true (by omega)
      have el : T.ds (mendsL t w v) = t.holes.map D.int ++ [.tup [.str w, .tup []], .tup [.str w, .tup ((t.holes.take 1).map D.int)], .tup [.str w, .tup ((t.holes.reverse.take 4).map D.int)]] := by
        unfold mendsL
        rw [if_pos h1, if_neg h2, T.ds_app, T.ds_app, hl_ds]
        simp only [T.ds, T.d, hl_ds, List.append_nil]
      have ln : ((mendsL t w v).length : Nat) = (t.holes.map D.int).length + (0 + 1 + 1 + 1) := by rw [← T.ds_len, el]; simp
      rw [el] at em
      rw [ln] at m3
      simp only [Nat.reduceAdd, Nat.zero_add] at s3 m3
      simp only [c__law_mend, b__law_mend, runF, fr0, ioOf, mvM, mC, mN, mBin, mUn, mB, mAndT, mOrT, mNotT, mAndV, mOrV, mNotV, mHs, mDs, mTup, mLst, pks, mPrim, sSeq, sNil, oS, sPass, sExpr, sRet, sIf, setV, putH, sAsg, tN, tNil, tCons, tT, sAsgT, mCall, pk, mv, RD.hd, Out.bind, mTrue, mCh, mMt, mSl, mO0, mO1, mLM, mLM.isOwnL, isOwn, mComp, mCompN, lockF, unlk, sFor, sForN, unlS, mIL, mIT, mIS, mIR1, mIR2, wipeF, restF, vsOk, sRaise, sTry, mDnew, List.getElem?_cons_zero, List.getElem?_cons_succ, List.set_cons_zero, List.set_cons_succ, List.length_cons, List.length_nil, List.map_cons, List.map_nil, List.replicate_succ, List.replicate_zero, List.cons_append, List.nil_append, List.all_cons, List.all_nil, Option.map_some, Option.map_none, reduceIte, sl0, sl1, sl2, sl3, sl4, sl5, sl6, sl7, sl8, sl9, sl10, sl11, sl12, sl13, sl14, sl15, sl16, sl17, Bool.true_and, Bool.and_true, Bool.not_true, Bool.not_false, Nat.reduceAdd, Nat.reduceSub, Nat.zero_add, Bool.false_eq_true, decide_true, decide_false, List.length_append, Int.cast_ofNat_Int, Int.natCast_one, Int.natCast_zero, Int.reduceEq, Int.reduceLT, Int.reduceLE, Int.reduceAdd, Int.reduceMul, Int.reduceSub, Int.reduceNeg, ne_eq, not_true_eq_false, not_false_eq_true, e16, e17, m1, ew, listS, gtS, g1, g2, slS_lst, c1, revS, c4, tupleS, lmExtend, s3, addS, lenS, m3, em]
    · have g1 : decide ((1 : Int) < (t.cnt : Nat)) = false := decide_eq_false (by omega)
      have el : T.ds (mendsL t w v) = t.holes.map D.int := by
        unfold mendsL
        rw [if_neg h1, if_neg h2, T.ds_app, T.ds_app, hl_ds]
        simp only [T.ds, List.append_nil]
      have ln : ((mendsL t w v).length : Nat) = (t.holes.map D.int).length := by rw [← T.ds_len, el]
      rw [el] at em
      rw [ln] at m3
      simp only [c__law_mend, b__law_mend, runF, fr0, ioOf, mvM, mC, mN, mBin, mUn, mB, mAndT, mOrT, mNotT, mAndV, mOrV, mNotV, mHs, mDs, mTup, mLst, pks, mPrim, sSeq, sNil, oS, sPass, sExpr, sRet, sIf, setV, putH, sAsg, tN, tNil, tCons, tT, sAsgT, mCall, pk, mv, RD.hd, Out.bind, mTrue, mCh, mMt, mSl, mO0, mO1, mLM, mLM.isOwnL, isOwn, mComp, mCompN, lockF, unlk, sFor, sForN, unlS, mIL, mIT, mIS, mIR1, mIR2, wipeF, restF, vsOk, sRaise, sTry, mDnew, List.getElem?_cons_zero, List.getElem?_cons_succ, List.set_cons_zero, List.set_cons_succ, List.length_cons, List.length_nil, List.map_cons, List.map_nil, List.replicate_succ, List.replicate_zero, List.cons_append, List.nil_append, List.all_cons, List.all_nil, Option.map_some, Option.map_none, reduceIte, sl0, sl1, sl2, sl3, sl4, sl5, sl6, sl7, sl8, sl9, sl10, sl11, sl12, sl13, sl14, sl15, sl16, sl17, Bool.true_and, Bool.and_true, Bool.not_true, Bool.not_false, Nat.reduceAdd, Nat.reduceSub, Nat.zero_add, Bool.false_eq_true, decide_true, decide_false, List.length_append, Int.cast_ofNat_Int, Int.natCast_one, Int.natCast_zero, Int.reduceEq, Int.reduceLT, Int.reduceLE, Int.reduceAdd, Int.reduceMul, Int.reduceSub, Int.reduceNeg, ne_eq, not_true_eq_false, not_false_eq_true, e16, e17, m1, ew, listS, gtS, g1, g2, addS, lenS, m3, em]
end Z

/-! plain Lean: drawn books -/
namespace Z
open PySem PySem.Spec PyProof.Rows L2
abbrev rkey (r : Ru) : Key := .inr r.nm
abbrev rval (r : Ru) : D := .tup [r.p.d, r.m.d]
theorem dset_map (r : Ru) : ∀ rs : List Ru, dset (rs.map rkey) (rs.map rval) (rkey r) (rval r) = (rs.map fun x => if x.nm = r.nm then r else x).map rval
  | [] => rfl
  | x :: rs => by
    have ih := dset_map r rs
    simp only [List.map_cons, dset]
    rw [ih]
    by_cases h : x.nm = r.nm
    · rw [if_pos h, if_pos (by show Sum.inr x.nm = Sum.inr r.nm; rw [h])]
    · rw [if_neg h, if_neg (fun z => h (Sum.inr.inj z))]
theorem keys_map (r : Ru) (rs : List Ru) : (rs.map fun x => if x.nm = r.nm then r else x).map (·.nm) = rs.map (·.nm) := by
  rw [List.map_map]
  refine List.map_congr_left fun x _ => ?_
  simp only [Function.comp]
  by_cases h : x.nm = r.nm
  · rw [if_pos h, h]
  · rw [if_neg h]
theorem keys_map2 (r : Ru) (rs : List Ru) : (rs.map fun x => if x.nm = r.nm then r else x).map rkey = rs.map rkey := by
  rw [List.map_map]
  refine List.map_congr_left fun x _ => ?_
  simp only [Function.comp]
  by_cases h : x.nm = r.nm
  · rw [if_pos h]; show Sum.inr r.nm = Sum.inr x.nm; rw [h]
  · rw [if_neg h]
structure DOk (rs : List Ru) (n : Nat) : Prop where
  good : ∀ r, r ∈ rs → r.good
  len : rs.length ≤ n
  nd : (rs.map (·.nm)).Nodup
theorem dput_ok {rs : List Ru} {n : Nat} (h : DOk rs n) {r : Ru} (g : r.good) : ∃ rs', DOk rs' (n + 1) ∧ dput (rs.map rkey) (rs.map rval) (rkey r) (rval r) = (rs'.map rkey, rs'.map rval) := by
  unfold dput
  by_cases hk : rkey r ∈ rs.map rkey
  · rw [if_pos hk]
    refine ⟨rs.map fun x => if x.nm = r.nm then r else x, ⟨fun x hx => ?_, by rw [List.length_map]; have := h.len; omega, by rw [keys_map]; exact h.nd⟩, ?_⟩
    · obtain ⟨y, hy, rfl⟩ := List.mem_map.1 hx
      by_cases e : y.nm = r.nm
      · simp only [e, if_true]; exact g
      · simp only [e, if_false]; exact h.good y hy
    · rw [dset_map]
      rw [keys_map2]
  · rw [if_neg hk]
    refine ⟨rs ++ [r], ⟨fun x hx => ?_, by rw [List.length_append]; have := h.len; simp only [List.length_cons, List.length_nil]; omega, ?_⟩, by simp⟩
    · rcases List.mem_append.1 hx with hx | hx
      · exact h.good x hx
      · rw [List.mem_singleton.1 hx]; exact g
    · rw [List.map_append, List.nodup_append]
      refine ⟨h.nd, by simp, fun a ha b hb e => ?_⟩
      simp only [List.map_cons, List.map_nil, List.mem_singleton] at hb
      subst hb; subst e
      obtain ⟨y, hy, e⟩ := List.mem_map.1 ha
      exact hk (List.mem_map.2 ⟨y, hy, by show Sum.inr y.nm = Sum.inr r.nm; rw [e]⟩)
structure PhB (Φ : Phi) (ns : List Int) : Prop extends PhW Φ ns where
  pt : ∀ k ws, 0 ≤ k → Four ws → ∃ t, PatOk t ∧ Φ 15 [.scr ns, .int k, .lst (ws.map .str)] = .ok t.d .non
  md : ∀ k ws t, 0 ≤ k → Four ws → PatOk t → ∃ m, MendOk t m ∧ Φ 18 [.scr ns, .int k, .lst (ws.map .str), t.d] = .ok m.d .non
theorem book_loop {Φ : Phi} {ns : List Int} (P : PhB Φ ns) {at_ : Int} (h0 : 0 ≤ at_) {ws : List Str} (F : Four ws) {most : D} : ∀ (ds : List D) (rs : List Ru) (n : Nat) (s5 s6 s7 : SV), nl s5 = true → ((s6 = .un ∧ s7 = .un) ∨ ∃ a b, s6 = .val a ∧ s7 = .val b) →
    (∀ d, d ∈ ds → ∃ j : Int, 0 ≤ j ∧ d = .int j) → DOk rs n → n + ds.length ≤ 4 →
    ∃ rs' s5' s6' s7', DOk rs' 4 ∧ forL (tN 5) (b__law_book_l1 Φ) ds [.val (.scr ns), .val (.int at_), .val (.lst (ws.map .str)), .val most, .ow false (.dct (rs.map rkey) (rs.map rval)), s5, s6, s7, .un] =
      .nx [.val (.scr ns), .val (.int at_), .val (.lst (ws.map .str)), .val most, .ow false (.dct (rs'.map rkey) (rs'.map rval)), s5', s6', s7', .un]
  | [], rs, n, s5, s6, s7, _, _, _, hD, hn => ⟨rs, s5, s6, s7, ⟨hD.good, Nat.le_trans hD.len (by simp only [List.length_nil] at hn; omega), hD.nd⟩, rfl⟩
  | d :: ds, rs, n, s5, s6, s7, h5, h67, hd, hD, hn => by
    obtain ⟨j, hj, rfl⟩ := hd d (by simp)
    simp only [List.length_cons] at hn
    obtain ⟨t, pt, et⟩ := P.pt (at_ + 60 * (j + 1)) ws (by omega) F
    obtain ⟨m, mo, em⟩ := P.md (at_ + 60 * (j + 1) + 40) ws t (by omega) F pt
    obtain ⟨w, hw, _, ew⟩ := P.wd (at_ + 60 * (j + 1) + 30) (by omega)
    obtain ⟨w0, p0, ps0, en⟩ := pt.nd
    obtain ⟨rs1, hD1, e1⟩ := dput_ok hD (r := ⟨w, t, m⟩) ⟨hw, pt.g, pt.z, mo.g, mo.z, ⟨w0, _, en⟩, mo.ho, mo.le⟩
    obtain ⟨rs', s5', s6', s7', hD', e⟩ := book_loop P h0 F (most := most) ds rs1 (n + 1) (.val (.int j)) (.val (.int (at_ + 60 * (j + 1)))) (.val t.d) rfl (.inr ⟨_, _, rfl, rfl⟩) (fun y hy => hd y (by simp [hy])) hD1 (by omega)
    refine ⟨rs', s5', s6', s7', hD', ?_⟩
    have s60 : ∀ x, (smallI 60 || smallI x) = true := fun x => by rw [show smallI 60 = true by decide, Bool.true_or]
    have sl : (rs.map rkey).length < sizeLine := Nat.lt_of_le_of_lt (show _ ≤ 4 by rw [List.length_map]; have := hD.len; omega) (by decide)
    have step : ∀ s6 s7, ((s6 = .un ∧ s7 = .un) ∨ ∃ a b, s6 = .val a ∧ s7 = .val b) → b__law_book_l1 Φ [.val (.scr ns), .val (.int at_), .val (.lst (ws.map .str)), .val most, .ow false (.dct (rs.map rkey) (rs.map rval)), .val (.int j), s6, s7, .un] =
        .nx [.val (.scr ns), .val (.int at_), .val (.lst (ws.map .str)), .val most, .ow false (.dct (rs1.map rkey) (rs1.map rval)), .val (.int j), .val (.int (at_ + 60 * (j + 1))), .val t.d, .un] := by
      intro s6 s7 h
      have e1' : dput (rs.map rkey) (rs.map rval) (.inr w) (.tup [t.d, m.d]) = (rs1.map rkey, rs1.map rval) := e1
      rcases h with ⟨rfl, rfl⟩ | ⟨a, b, rfl, rfl⟩ <;>
        simp only [b__law_book_l1, runF, fr0, ioOf, mvM, mC, mN, mBin, mUn, mB, mAndT, mOrT, mNotT, mAndV, mOrV, mNotV, mHs, mDs, mTup, mLst, pks, mPrim, sSeq, sNil, oS, sPass, sExpr, sRet, sIf, setV, putH, sAsg, tN, tNil, tCons, tT, sAsgT, mCall, pk, mv, RD.hd, Out.bind, mTrue, mCh, mMt, mSl, mO0, mO1, mLM, mLM.isOwnL, isOwn, mComp, mCompN, lockF, unlk, sFor, sForN, unlS, mIL, mIT, mIS, mIR1, mIR2, wipeF, restF, vsOk, sRaise, sTry, mDnew, List.getElem?_cons_zero, List.getElem?_cons_succ, List.set_cons_zero, List.set_cons_succ, List.length_cons, List.length_nil, List.map_cons, List.map_nil, List.replicate_succ, List.replicate_zero, List.cons_append, List.nil_append, List.all_cons, List.all_nil, Option.map_some, Option.map_none, reduceIte, sl0, sl1, sl2, sl3, sl4, sl5, sl6, sl7, sl8, sl9, sl10, sl11, sl12, sl13, sl14, sl15, sl16, sl17, Bool.true_and, Bool.and_true, Bool.not_true, Bool.not_false, Nat.reduceAdd, Nat.reduceSub, Nat.zero_add, Bool.false_eq_true, decide_true, decide_false, List.length_append, Int.cast_ofNat_Int, Int.natCast_one, Int.natCast_zero, Int.reduceEq, Int.reduceLT, Int.reduceLE, Int.reduceAdd, Int.reduceMul, Int.reduceSub, Int.reduceNeg, ne_eq, not_true_eq_false, not_false_eq_true, addS, mulS, s60, et, em, ew, sDput, toKey, sl, e1']
    have tn : tN 5 (.int j) [.val (.scr ns), .val (.int at_), .val (.lst (ws.map .str)), .val most, .ow false (.dct (rs.map rkey) (rs.map rval)), s5, s6, s7, .un] = some [.val (.scr ns), .val (.int at_), .val (.lst (ws.map .str)), .val most, .ow false (.dct (rs.map rkey) (rs.map rval)), .val (.int j), s6, s7, .un] := by
      rcases nl_cases h5 with rfl | ⟨d, rfl⟩ | ⟨d, rfl⟩ <;> rfl
    conv => lhs; unfold forL
    simp only [tn, step s6 s7 h67]
    exact e
theorem perm_map {α β : Type} {f : α → β} : ∀ {l : List β} {rs : List α}, l.Perm (rs.map f) → ∃ rs2 : List α, rs2.Perm rs ∧ l = rs2.map f
  | [], rs, h => by
    have : rs.map f = [] := List.nil_perm.1 h
    cases rs with
    | nil => exact ⟨[], List.Perm.refl _, rfl⟩
    | cons x xs => cases this
  | a :: l, rs, h => by
    have ha : a ∈ rs.map f := h.subset (by simp)
    obtain ⟨r, hr, rfl⟩ := List.mem_map.1 ha
    obtain ⟨s, t, rfl⟩ := List.append_of_mem hr
    have h2 : (f r :: l).Perm (f r :: (s ++ t).map f) := h.trans (by simpa using (List.perm_middle (l₁ := s.map f) (l₂ := t.map f) (a := f r)))
    obtain ⟨rs2, p, e⟩ := perm_map (f := f) (List.Perm.cons_inv h2)
    exact ⟨r :: rs2, (List.Perm.cons r p).trans (List.perm_middle (l₁ := s) (l₂ := t) (a := r)).symm, by rw [e]; rfl⟩
theorem sFor_nx {mi : M (List D)} {t : MT} {b : MS} {A A1 A2 : Fr} {ds : List D} (h : mi A = .ok ds A1) (k : forL t b ds A1 = .nx A2) : sFor mi t b A = .nx A2 := by
  unfold sFor
  rw [h]
  exact k
theorem isW_ok {s : Str} (h : isW s) : PyData.strOk s = true := by
  have ab : ∀ c, c ∈ abc.cps.toList → c < 0x110000 := by decide +kernel
  unfold PyData.strOk
  rw [← Array.all_toList, List.all_eq_true]
  intro c hc
  exact decide_eq_true (ab c (h.2.2 c hc))
theorem dlook_ok : ∀ {rs : List Ru}, (rs.map (·.nm)).Nodup → ∀ r, r ∈ rs → dlook (rs.map rkey) (rs.map rval) (.inr r.nm) = some (rval r)
  | x :: rs, hn, r, hr => by
    simp only [List.map_cons, List.nodup_cons] at hn
    simp only [List.map_cons, dlook]
    rcases List.mem_cons.1 hr with rfl | hr
    · rw [if_pos rfl]
    · rw [if_neg fun z => hn.1 ?_]
      · exact dlook_ok hn.2 r hr
      · rw [show x.nm = r.nm from Sum.inr.inj z]; exact List.mem_map.2 ⟨r, hr, rfl⟩
abbrev rstr (r : Ru) : D := .str r.nm
theorem sort_rs {rs : List Ru} {n : Nat} (h : DOk rs n) : ∃ rs2 : List Ru, rs2.Perm rs ∧ sortD (rs.map rstr) = rs2.map rstr ∧ rs2.Pairwise fun a b => Str.lt a.nm b.nm := by
  obtain ⟨rs2, p, e⟩ := perm_map (sortD_perm (rs.map rstr))
  refine ⟨rs2, p, e, ?_⟩
  have so : (sortD (rs.map rstr)).Pairwise leD := sortD_sorted tot_str fun x hx => by
    obtain ⟨r, _, rfl⟩ := List.mem_map.1 hx; trivial
  rw [e, List.pairwise_map] at so
  have nd : (rs2.map (·.nm)).Nodup := (p.map (·.nm)).nodup_iff.2 h.nd
  have nd2 : rs2.Pairwise fun a b => a.nm ≠ b.nm := List.pairwise_map.1 nd
  refine (so.and nd2).imp fun {a b} ⟨h1, h2⟩ => ?_
  have : D.lt (.str a.nm) (.str b.nm) = true := by
    cases q : D.lt (.str a.nm) (.str b.nm) with
    | true => rfl
    | false => exact absurd (D.str.inj (tot_str.anti (.str a.nm) (.str b.nm) trivial trivial q h1)) h2
  simp only [D.lt] at this
  exact (of_decide_eq_true this : a.nm.cps.toList < b.nm.cps.toList)
theorem r_book {Φ : Phi} {ns : List Int} (P : PhB Φ ns) {at_ : Int} (h0 : 0 ≤ at_) {ws : List Str} (F : Four ws) {mo : Nat} (hm : mo ≤ 4) : ∃ rs, BookOk rs ∧ runF c__law_book Φ [.scr ns, .int at_, .lst (ws.map .str), .int mo] = .ok (bookD rs) .non := by
  have m1 := P.mx at_ ((mo : Nat) + 1) h0 (by omega)
  have a0 := mixF_lo (ns := ns) (k := at_) (many := (mo : Nat) + 1) (by omega)
  have a1 := mixF_hi (ns := ns) (k := at_) (many := (mo : Nat) + 1) (by omega)
  obtain ⟨n, en⟩ : ∃ n : Nat, mixF ns at_ ((mo : Nat) + 1) = n := ⟨_, (Int.toNat_of_nonneg a0).symm⟩
  rw [en] at m1 a1
  have n4 : n ≤ 4 := by omega
  have rg := rgOk_nat (n := n) (by omega)
  obtain ⟨rs, s5, s6, s7, hD, e⟩ := book_loop P h0 F (most := .int mo) (rangeL 0 n) [] 0 .un .un .un rfl (.inl ⟨rfl, rfl⟩) (range_pos (by decide)) ⟨fun _ h => (by cases h), Nat.le_refl 0, List.nodup_nil⟩ (by rw [range_len]; omega)
  obtain ⟨rs2, p, es, asc⟩ := sort_rs hD
  have A4 := hD.len
  have lks : listKS [.dct (rs.map rkey) (rs.map rval)] = some (.f (.lst (rs.map rstr))) := by
    simp only [listKS]
    rw [if_pos]
    · rw [List.map_map]; rfl
    · rw [List.all_eq_true]
      intro k hk
      obtain ⟨r, hr, rfl⟩ := List.mem_map.1 hk
      exact isW_ok (hD.good r hr).nm
  have srt : sortS [.lst (rs.map rstr)] = some (.f (.lst (rs2.map rstr))) := by
    unfold sortS
    simp only [strsD_map (fun r : Ru => r.nm)]
    rw [if_pos (by rw [List.length_map]; omega), es]
  have f : ∃ f : D → D, ∀ r, r ∈ rs2 → f (rstr r) = r.d := ⟨fun d => match dgetS (.dct (rs.map rkey) (rs.map rval)) d with
    | some (.v (.tup l)) => .tup (d :: l)
    | _ => .non, fun r hr => by
      have := dlook_ok hD.nd r (p.subset hr)
      simp only [dgetS, toKey, this, Option.map_some]
      rfl⟩
  obtain ⟨f, hf⟩ := f
  have hc : compR (tN 8) mTrue (b__law_book_e1 Φ) [8] (rs2.map rstr) [.val (.scr ns), .val (.int at_), .val (.lst (ws.map .str)), .val (.int mo), .ow false (.dct (rs.map rkey) (rs.map rval)), s5, s6, s7, .un] = .ok (.f (.lst ((rs2.map rstr).map f))) [.val (.scr ns), .val (.int at_), .val (.lst (ws.map .str)), .val (.int mo), .ow false (.dct (rs.map rkey) (rs.map rval)), s5, s6, s7, .un] := by
    refine compR_map _ rfl (by rw [List.length_map, p.length_eq]; exact sl64 (by omega)) rfl rfl fun d hd => ?_
    obtain ⟨r, hr, rfl⟩ := List.mem_map.1 hd
    refine ⟨_, _, [.val (.scr ns), .val (.int at_), .val (.lst (ws.map .str)), .val (.int mo), .ow false (.dct (rs.map rkey) (rs.map rval)), s5, s6, s7, .val (rstr r)], rfl, rfl, ?_, rfl⟩
    have dg : dgetS (.dct (rs.map rkey) (rs.map rval)) (.str r.nm) = some (.v (rval r)) := by
      simp only [dgetS, toKey, dlook_ok hD.nd r (p.subset hr), Option.map_some]
    rw [hf r hr]
    simp only [b__law_book_e1, runF, fr0, ioOf, mvM, mC, mN, mBin, mUn, mB, mAndT, mOrT, mNotT, mAndV, mOrV, mNotV, mHs, mDs, mTup, mLst, pks, mPrim, sSeq, sNil, oS, sPass, sExpr, sRet, sIf, setV, putH, sAsg, tN, tNil, tCons, tT, sAsgT, mCall, pk, mv, RD.hd, Out.bind, mTrue, mCh, mMt, mSl, mO0, mO1, mLM, mLM.isOwnL, isOwn, mComp, mCompN, lockF, unlk, sFor, sForN, unlS, mIL, mIT, mIS, mIR1, mIR2, wipeF, restF, vsOk, sRaise, sTry, mDnew, List.getElem?_cons_zero, List.getElem?_cons_succ, List.set_cons_zero, List.set_cons_succ, List.length_cons, List.length_nil, List.map_cons, List.map_nil, List.replicate_succ, List.replicate_zero, List.cons_append, List.nil_append, List.all_cons, List.all_nil, Option.map_some, Option.map_none, reduceIte, sl0, sl1, sl2, sl3, sl4, sl5, sl6, sl7, sl8, sl9, sl10, sl11, sl12, sl13, sl14, sl15, sl16, sl17, Bool.true_and, Bool.and_true, Bool.not_true, Bool.not_false, Nat.reduceAdd, Nat.reduceSub, Nat.zero_add, Bool.false_eq_true, decide_true, decide_false, List.length_append, Int.cast_ofNat_Int, Int.natCast_one, Int.natCast_zero, Int.reduceEq, Int.reduceLT, Int.reduceLE, Int.reduceAdd, Int.reduceMul, Int.reduceSub, Int.reduceNeg, ne_eq, not_true_eq_false, not_false_eq_true, dg, addS, Ru.d]
  have hm2 : (rs2.map rstr).map f = rs2.map Ru.d := by
    rw [List.map_map]
    exact List.map_congr_left fun r hr => hf r hr
  rw [hm2] at hc
  refine ⟨rs2, ⟨fun r hr => hD.good r (p.subset hr), by rw [p.length_eq]; exact A4, asc⟩, ?_⟩
  have q1 : sAsg 4 mDnew [.val (.scr ns), .val (.int at_), .val (.lst (ws.map .str)), .val (.int mo), .un, .un, .un, .un, .un] = .nx [.val (.scr ns), .val (.int at_), .val (.lst (ws.map .str)), .val (.int mo), .ow false (.dct [] []), .un, .un, .un, .un] := rfl
  have i1 : mIR1 (mCall Φ 11 [(mN 0), (mN 1), (mBin addS (mN 3) (mC (.int 1)))]) [.val (.scr ns), .val (.int at_), .val (.lst (ws.map .str)), .val (.int mo), .ow false (.dct [] []), .un, .un, .un, .un] = .ok (rangeL 0 n) [.val (.scr ns), .val (.int at_), .val (.lst (ws.map .str)), .val (.int mo), .ow false (.dct [] []), .un, .un, .un, .un] := by
    refine mIR1_nat (h := .d (.int n)) (n := n) ?_ rfl rg
    simp only [runF, fr0, ioOf, mvM, mC, mN, mBin, mUn, mB, mAndT, mOrT, mNotT, mAndV, mOrV, mNotV, mHs, mDs, mTup, mLst, pks, mPrim, sSeq, sNil, oS, sPass, sExpr, sRet, sIf, setV, putH, sAsg, tN, tNil, tCons, tT, sAsgT, mCall, pk, mv, RD.hd, Out.bind, mTrue, mCh, mMt, mSl, mO0, mO1, mLM, mLM.isOwnL, isOwn, mComp, mCompN, lockF, unlk, sFor, sForN, unlS, mIL, mIT, mIS, mIR1, mIR2, wipeF, restF, vsOk, sRaise, sTry, mDnew, List.getElem?_cons_zero, List.getElem?_cons_succ, List.set_cons_zero, List.set_cons_succ, List.length_cons, List.length_nil, List.map_cons, List.map_nil, List.replicate_succ, List.replicate_zero, List.cons_append, List.nil_append, List.all_cons, List.all_nil, Option.map_some, Option.map_none, reduceIte, sl0, sl1, sl2, sl3, sl4, sl5, sl6, sl7, sl8, sl9, sl10, sl11, sl12, sl13, sl14, sl15, sl16, sl17, Bool.true_and, Bool.and_true, Bool.not_true, Bool.not_false, Nat.reduceAdd, Nat.reduceSub, Nat.zero_add, Bool.false_eq_true, decide_true, decide_false, List.length_append, Int.cast_ofNat_Int, Int.natCast_one, Int.natCast_zero, Int.reduceEq, Int.reduceLT, Int.reduceLE, Int.reduceAdd, Int.reduceMul, Int.reduceSub, Int.reduceNeg, ne_eq, not_true_eq_false, not_false_eq_true, addS, m1]
  have q2 := sFor_nx i1 e
  have q3 : sRet (mPrim tupleS [(mComp (mIL (mPrim sortS [(mPrim listKS [(mN 4)])])) [8] (tN 8) mTrue (b__law_book_e1 Φ))]) [.val (.scr ns), .val (.int at_), .val (.lst (ws.map .str)), .val (.int mo), .ow false (.dct (rs.map rkey) (rs.map rval)), s5, s6, s7, .un] = .rt (bookD rs2) [.val (.scr ns), .val (.int at_), .val (.lst (ws.map .str)), .val (.int mo), .ow false (.dct (rs.map rkey) (rs.map rval)), s5, s6, s7, .un] := by
    have i2 : mIL (mPrim sortS [(mPrim listKS [(mN 4)])]) [.val (.scr ns), .val (.int at_), .val (.lst (ws.map .str)), .val (.int mo), .ow false (.dct (rs.map rkey) (rs.map rval)), s5, s6, s7, .un] = .ok (rs2.map rstr) [.val (.scr ns), .val (.int at_), .val (.lst (ws.map .str)), .val (.int mo), .ow false (.dct (rs.map rkey) (rs.map rval)), s5, s6, s7, .un] := by
      simp only [runF, fr0, ioOf, mvM, mC, mN, mBin, mUn, mB, mAndT, mOrT, mNotT, mAndV, mOrV, mNotV, mHs, mDs, mTup, mLst, pks, mPrim, sSeq, sNil, oS, sPass, sExpr, sRet, sIf, setV, putH, sAsg, tN, tNil, tCons, tT, sAsgT, mCall, pk, mv, RD.hd, Out.bind, mTrue, mCh, mMt, mSl, mO0, mO1, mLM, mLM.isOwnL, isOwn, mComp, mCompN, lockF, unlk, sFor, sForN, unlS, mIL, mIT, mIS, mIR1, mIR2, wipeF, restF, vsOk, sRaise, sTry, mDnew, List.getElem?_cons_zero, List.getElem?_cons_succ, List.set_cons_zero, List.set_cons_succ, List.length_cons, List.length_nil, List.map_cons, List.map_nil, List.replicate_succ, List.replicate_zero, List.cons_append, List.nil_append, List.all_cons, List.all_nil, Option.map_some, Option.map_none, reduceIte, sl0, sl1, sl2, sl3, sl4, sl5, sl6, sl7, sl8, sl9, sl10, sl11, sl12, sl13, sl14, sl15, sl16, sl17, Bool.true_and, Bool.and_true, Bool.not_true, Bool.not_false, Nat.reduceAdd, Nat.reduceSub, Nat.zero_add, Bool.false_eq_true, decide_true, decide_false, List.length_append, Int.cast_ofNat_Int, Int.natCast_one, Int.natCast_zero, Int.reduceEq, Int.reduceLT, Int.reduceLE, Int.reduceAdd, Int.reduceMul, Int.reduceSub, Int.reduceNeg, ne_eq, not_true_eq_false, not_false_eq_true, lks, srt]
    have c := mComp_ok i2 hc
    simp only [runF, fr0, ioOf, mvM, mC, mN, mBin, mUn, mB, mAndT, mOrT, mNotT, mAndV, mOrV, mNotV, mHs, mDs, mTup, mLst, pks, mPrim, sSeq, sNil, oS, sPass, sExpr, sRet, sIf, setV, putH, sAsg, tN, tNil, tCons, tT, sAsgT, mCall, pk, mv, RD.hd, Out.bind, mTrue, mCh, mMt, mSl, mO0, mO1, mLM, mLM.isOwnL, isOwn, mCompN, lockF, unlk, sFor, sForN, unlS, mIL, mIT, mIS, mIR1, mIR2, wipeF, restF, vsOk, sRaise, sTry, mDnew, List.getElem?_cons_zero, List.getElem?_cons_succ, List.set_cons_zero, List.set_cons_succ, List.length_cons, List.length_nil, List.map_cons, List.map_nil, List.replicate_succ, List.replicate_zero, List.cons_append, List.nil_append, List.all_cons, List.all_nil, Option.map_some, Option.map_none, reduceIte, sl0, sl1, sl2, sl3, sl4, sl5, sl6, sl7, sl8, sl9, sl10, sl11, sl12, sl13, sl14, sl15, sl16, sl17, Bool.true_and, Bool.and_true, Bool.not_true, Bool.not_false, Nat.reduceAdd, Nat.reduceSub, Nat.zero_add, Bool.false_eq_true, decide_true, decide_false, List.length_append, Int.cast_ofNat_Int, Int.natCast_one, Int.natCast_zero, Int.reduceEq, Int.reduceLT, Int.reduceLE, Int.reduceAdd, Int.reduceMul, Int.reduceSub, Int.reduceNeg, ne_eq, not_true_eq_false, not_false_eq_true, c, tupleS]
  have q : b__law_book Φ [.val (.scr ns), .val (.int at_), .val (.lst (ws.map .str)), .val (.int mo), .un, .un, .un, .un, .un] = .rt (bookD rs2) [.val (.scr ns), .val (.int at_), .val (.lst (ws.map .str)), .val (.int mo), .ow false (.dct (rs.map rkey) (rs.map rval)), s5, s6, s7, .un] := by
    unfold b__law_book
    exact (sSeq_nx q1).trans ((sSeq_nx q2).trans q3)
  exact run_ok rfl rfl rfl q
end Z

/-! plain Lean: the table's defs, by levels -/
namespace Z
open PySem PySem.Spec PyProof.Rows L2
/-- the table holds the defs of books and their drawing -/
structure HasB (Pg : Nat → CF) : Prop where
  e1 : Pg 1 = c_is_word
  e2 : Pg 2 = c_is_hole
  e3 : Pg 3 = c_is_pattern
  e4 : Pg 4 = c_holes_in
  e5 : Pg 5 = c_words_in
  e6 : Pg 6 = c_is_rule
  e7 : Pg 7 = c_is_book
  e8 : Pg 8 = c_need_book
  e10 : Pg 10 = c__law_cell_at
  e11 : Pg 11 = c__law_mixed
  e12 : Pg 12 = c__law_word
  e13 : Pg 13 = c__law_words
  e14 : Pg 14 = c__law_part
  e15 : Pg 15 = c__law_pattern
  e16 : Pg 16 = c__law_holes
  e17 : Pg 17 = c__law_count
  e18 : Pg 18 = c__law_mend
  e19 : Pg 19 = c__law_book
theorem call_of {Pg : Nat → CF} {c : CF} {n : Nat} (e : Pg n = c) {k : Nat} {ds : List D} {r : FOut} (h : runF c (call Pg k) ds = r) : call Pg (k + 1) n ds = r := by
  show runF (Pg n) (call Pg k) ds = r
  rw [e]; exact h
section
variable {Pg : Nat → CF} (B : HasB Pg) {k : Nat}
include B
theorem l_php : PhP (call Pg (k + 1)) := ⟨fun s h => call_of B.e1 (r_is_word h), fun i => call_of B.e2 r_is_hole_i, fun ds => call_of B.e2 r_is_hole_t⟩
theorem l_pattern {t : T} (g : t.good) (h6 : t.sz ≤ 6) : call Pg (k + 2) 3 [t.d] = .ok (.bl true) .non := call_of B.e3 (r_is_pattern (l_php B) g h6)
theorem l_rule {r : Ru} (g : r.good) : call Pg (k + 8) 6 [r.d] = .ok (.bl true) .non := by
  refine call_of B.e6 (r_is_rule g (fun s h => (l_php B).w s h) (fun t a b => l_pattern B a b) (fun t h => ?_) (fun t h => ?_))
  · exact holes_in_ok B.e4 (k + 6) t (Nat.le_trans (T.dep_sz t) (by omega)) (by omega)
  · exact words_in_ok B.e5 (k + 6) t (Nat.le_trans (T.dep_sz t) (by omega)) (by omega)
theorem l_book {rs : List Ru} (g : BookOk rs) : call Pg (k + 9) 7 [bookD rs] = .ok (.bl true) .non := call_of B.e7 (r_is_book g fun r hr => l_rule B (g.good r hr))
theorem l_need {rs : List Ru} (g : BookOk rs) : call Pg (k + 10) 8 [bookD rs] = .ok .non .non := by
  refine call_of B.e8 ?_
  simp only [c_need_book, b_need_book, runF, fr0, ioOf, mvM, mC, mN, mBin, mUn, mB, mAndT, mOrT, mNotT, mAndV, mOrV, mNotV, mHs, mDs, mTup, mLst, pks, mPrim, sSeq, sNil, oS, sPass, sExpr, sRet, sIf, setV, putH, sAsg, tN, tNil, tCons, tT, sAsgT, mCall, pk, mv, RD.hd, Out.bind, mTrue, mCh, mMt, mSl, mO0, mO1, mLM, mLM.isOwnL, isOwn, mComp, mCompN, lockF, unlk, sFor, sForN, unlS, mIL, mIT, mIS, mIR1, mIR2, wipeF, restF, vsOk, sRaise, sTry, mDnew, List.getElem?_cons_zero, List.getElem?_cons_succ, List.set_cons_zero, List.set_cons_succ, List.length_cons, List.length_nil, List.map_cons, List.map_nil, List.replicate_succ, List.replicate_zero, List.cons_append, List.nil_append, List.all_cons, List.all_nil, Option.map_some, Option.map_none, reduceIte, sl0, sl1, sl2, sl3, sl4, sl5, sl6, sl7, sl8, sl9, sl10, sl11, sl12, sl13, sl14, sl15, sl16, sl17, Bool.true_and, Bool.and_true, Bool.not_true, Bool.not_false, Nat.reduceAdd, Nat.reduceSub, Nat.zero_add, Bool.false_eq_true, decide_true, decide_false, List.length_append, Int.cast_ofNat_Int, Int.natCast_one, Int.natCast_zero, Int.reduceEq, Int.reduceLT, Int.reduceLE, Int.reduceAdd, Int.reduceMul, Int.reduceSub, Int.reduceNeg, ne_eq, not_true_eq_false, not_false_eq_true, l_book B g]
theorem l_need_bad {d : D} (h : call Pg k 7 [d] = .ok (.bl false) .non) : call Pg (k + 1) 8 [d] = .exc 1 .non := by
  refine call_of B.e8 ?_
  simp only [c_need_book, b_need_book, runF, fr0, ioOf, mvM, mC, mN, mBin, mUn, mB, mAndT, mOrT, mNotT, mAndV, mOrV, mNotV, mHs, mDs, mTup, mLst, pks, mPrim, sSeq, sNil, oS, sPass, sExpr, sRet, sIf, setV, putH, sAsg, tN, tNil, tCons, tT, sAsgT, mCall, pk, mv, RD.hd, Out.bind, mTrue, mCh, mMt, mSl, mO0, mO1, mLM, mLM.isOwnL, isOwn, mComp, mCompN, lockF, unlk, sFor, sForN, unlS, mIL, mIT, mIS, mIR1, mIR2, wipeF, restF, vsOk, sRaise, sTry, mDnew, List.getElem?_cons_zero, List.getElem?_cons_succ, List.set_cons_zero, List.set_cons_succ, List.length_cons, List.length_nil, List.map_cons, List.map_nil, List.replicate_succ, List.replicate_zero, List.cons_append, List.nil_append, List.all_cons, List.all_nil, Option.map_some, Option.map_none, reduceIte, sl0, sl1, sl2, sl3, sl4, sl5, sl6, sl7, sl8, sl9, sl10, sl11, sl12, sl13, sl14, sl15, sl16, sl17, Bool.true_and, Bool.and_true, Bool.not_true, Bool.not_false, Nat.reduceAdd, Nat.reduceSub, Nat.zero_add, Bool.false_eq_true, decide_true, decide_false, List.length_append, Int.cast_ofNat_Int, Int.natCast_one, Int.natCast_zero, Int.reduceEq, Int.reduceLT, Int.reduceLE, Int.reduceAdd, Int.reduceMul, Int.reduceSub, Int.reduceNeg, ne_eq, not_true_eq_false, not_false_eq_true, h]
theorem l_phm (ns : List Int) : PhM (call Pg (k + 2)) ns := ⟨fun j m h0 hm => call_of B.e11 (r_mixed h0 hm (call_of B.e10 (r_cell h0)))⟩
theorem l_phw (ns : List Int) : PhW (call Pg (k + 3)) ns := { l_phm B ns with
  wd := fun j h0 => by
    obtain ⟨w, a, b, c⟩ := r_word (l_phm B ns (k := k)) h0
    exact ⟨w, a, b, call_of B.e12 c⟩ }
theorem l_words (ns : List Int) {j : Int} (h0 : 0 ≤ j) : ∃ ws, Four ws ∧ call Pg (k + 4) 13 [.scr ns, .int j] = .ok (.lst (ws.map .str)) .non := by
  obtain ⟨ws, a, b⟩ := r_words (l_phw B ns (k := k)) h0
  exact ⟨ws, a, call_of B.e13 b⟩
theorem l_phd (ns : List Int) : PhD (call Pg (k + 3)) ns := { l_phw B ns with
  pa := fun j ws small h0 F => by
    obtain ⟨t, a, b, c⟩ := r_part (l_phm B ns (k := k)) h0 F small
    exact ⟨t, a, b, call_of B.e14 c⟩ }
theorem l_phe (ns : List Int) : PhE (call Pg (k + 8)) ns := { l_phm B ns with
  ho := fun t h => _law_holes_ok B.e16 (k + 7) t (Nat.le_trans (T.dep_sz t) (by omega)) (by omega)
  ct := fun t h => _law_count_ok B.e17 (k + 7) t (Nat.le_trans (T.dep_sz t) (by omega)) (by omega) }
theorem l_phb (ns : List Int) : PhB (call Pg (k + 9)) ns := { l_phw B ns with
  pt := fun j ws h0 F => by
    obtain ⟨t, a, b⟩ := r_pattern (l_phd B ns (k := k + 5)) h0 F
    exact ⟨t, a, call_of B.e15 b⟩
  md := fun j ws t h0 F p => by
    obtain ⟨m, a, b⟩ := r_mend (l_phe B ns (k := k)) h0 F p
    exact ⟨m, a, call_of B.e18 b⟩ }
theorem l_draw_book (ns : List Int) {j : Int} (h0 : 0 ≤ j) {ws : List Str} (F : Four ws) {mo : Nat} (hm : mo ≤ 4) : ∃ rs, BookOk rs ∧ call Pg (k + 10) 19 [.scr ns, .int j, .lst (ws.map .str), .int mo] = .ok (bookD rs) .non := by
  obtain ⟨rs, a, b⟩ := r_book (l_phb B ns (k := k)) h0 F hm
  exact ⟨rs, a, call_of B.e19 b⟩
end
/-! ### equality with itself -/
mutual
theorem eq_refl : ∀ d : D, d.lay = true → D.eq d d = true
  | .non, _ => rfl
  | .bl b, _ => by simp [D.eq, D.py, PyData.eqv]
  | .int i, _ => by simp [D.eq, D.py, PyData.eqv]
  | .str s, _ => by simp [D.eq, D.py, PyData.eqv]
  | .tup ds, h => by simp only [D.eq, D.py, PyData.eqv]; exact eqs_refl ds h
  | .lst ds, h => by simp only [D.eq, D.py, PyData.eqv]; exact eqs_refl ds h
  | .scr ns, _ => by
    simp only [D.eq, D.py, PyData.eqv]
    induction ns with
    | nil => rfl
    | cons n ns ih => simp [PyData.eqvAll, PyData.eqv, ih rfl]
theorem eqs_refl : ∀ ds : List D, D.lays ds = true → PyData.eqvAll (D.pys ds) (D.pys ds) = true
  | [], _ => rfl
  | d :: ds, h => by
    simp only [D.lays, Bool.and_eq_true] at h
    have a := eq_refl d h.1
    simp only [D.eq] at a
    simp only [D.pys, PyData.eqvAll, a, eqs_refl ds h.2, Bool.and_self]
end
mutual
theorem T.d_dep : ∀ t : T, t.d.dep ≤ 2 * t.sz
  | .h _ => Nat.zero_le _
  | .n w ps => by
    have := T.ds_dep ps
    simp only [T.d, D.dep, D.py, D.pys, PyData.depth, PyData.depthAll, T.sz] at *
    omega
theorem T.ds_dep : ∀ l : List T, PyData.depthAll (D.pys (T.ds l)) ≤ 2 * T.szs l
  | [] => Nat.zero_le _
  | t :: ts => by
    have a := T.d_dep t
    have b := T.ds_dep ts
    simp only [T.ds, D.dep, D.pys, PyData.depthAll, T.szs] at *
    omega
end
theorem rules_lay : ∀ rs : List Ru, D.lays (rs.map Ru.d) = true
  | [] => rfl
  | r :: rs => by simp only [List.map_cons, D.lays, Ru.d, D.lay, T.lay, rules_lay rs, Bool.and_self]
theorem rules_dep : ∀ {rs : List Ru}, (∀ r, r ∈ rs → r.good) → PyData.depthAll (D.pys (rs.map Ru.d)) ≤ 13
  | [], _ => Nat.zero_le _
  | r :: rs, h => by
    have g := h r (by simp)
    have a := T.d_dep r.p
    have b := T.d_dep r.m
    have c := g.p6
    have e := g.m6
    have ih := rules_dep (rs := rs) fun x hx => h x (by simp [hx])
    simp only [D.dep] at a b
    simp only [List.map_cons, Ru.d, D.pys, D.py, PyData.depthAll, PyData.depth]
    omega
theorem book_cmp {rs : List Ru} (g : BookOk rs) {d : D} (h : d.lay = true) : cmpOk (bookD rs) d = true := by
  have := rules_dep g.good
  have l : (bookD rs).lay = true := rules_lay rs
  have m : min (bookD rs).dep d.dep ≤ 190 := by
    have : (bookD rs).dep ≤ 14 := by simp only [D.dep, D.py, PyData.depth]; omega
    omega
  unfold cmpOk
  rw [l, h, decide_eq_true m]; rfl
theorem book_ne {rs : List Ru} (g : BookOk rs) : neS (bookD rs) (bookD rs) = some (.v (.bl false)) := by
  have l : (bookD rs).lay = true := rules_lay rs
  unfold neS
  rw [if_pos (book_cmp g l), eq_refl _ l]; rfl
end Z

/-! plain Lean: stores to slots that are not looked at; loops by invariants; trees -/
namespace Z
open PySem PySem.Spec PyProof.Rows L2
theorem setVq (i : Nat) (sv : SV) (A : Fr) : setV i sv A = match A[i]? with
    | some s => if nl s = true then some (A.set i sv) else none
    | none => none := by
  unfold setV
  cases A[i]? with
  | none => rfl
  | some s =>
    cases s with
    | ow b d => cases b <;> rfl
    | _ => rfl
theorem vsOkq (vs : List Nat) (A : Fr) : vsOk vs A = vs.all fun v => match A[v]? with
    | some s => nl s
    | none => true := by
  unfold vsOk
  congr 1
  funext v
  cases A[v]? with
  | none => rfl
  | some s =>
    cases s with
    | ow b d => cases b <;> rfl
    | _ => rfl
theorem nl_un : nl .un = true := rfl
theorem nl_val (d : D) : nl (.val d) = true := rfl
theorem nl_own (d : D) : nl (.ow false d) = true := rfl
/-- for every k from m on -/
def Ev (Pg : Nat → CF) (m n : Nat) (ds : List D) (r : FOut) : Prop := ∀ k, m ≤ k → call Pg k n ds = r
theorem Ev.mono {Pg : Nat → CF} {m m' n : Nat} {ds : List D} {r : FOut} (h : Ev Pg m n ds r) (hm : m ≤ m') : Ev Pg m' n ds r := fun k hk => h k (Nat.le_trans hm hk)
/-- by the def's body -/
theorem ev_of {Pg : Nat → CF} {c : CF} {m n : Nat} {ds : List D} {r : FOut} (e : Pg n = c) (h : ∀ k, m ≤ k → runF c (call Pg k) ds = r) : Ev Pg (m + 1) n ds r := fun k hk => by
  obtain ⟨j, rfl⟩ : ∃ j, k = j + 1 := ⟨k - 1, by omega⟩
  exact call_of e (h j (by omega))
theorem whileL_inv {β : Type} {c : M Bool} {b : MS} (inv : β → Fr → Prop) (ms : β → Nat) (post : Fr → Prop)
    (h : ∀ x A, inv x A → (c A = .ok false A ∧ post A) ∨ ∃ A2 y, c A = .ok true A ∧ b A = .nx A2 ∧ inv y A2 ∧ ms y < ms x) :
    ∀ (n : Nat) (x : β) (A : Fr), inv x A → ms x < n → ∃ A', whileL c b n A = .nx A' ∧ post A'
  | 0, x, A, _, hn => absurd hn (Nat.not_lt_zero _)
  | n + 1, x, A, hi, hn => by
    rcases h x A hi with ⟨e, p⟩ | ⟨A2, y, e1, e2, i2, lt⟩
    · exact ⟨A, whileL_no e, p⟩
    · obtain ⟨A', e3, p⟩ := whileL_inv inv ms post h n y A2 i2 (by omega)
      exact ⟨A', by rw [whileL_yes e1 e2]; exact e3, p⟩
theorem whileL_rt {c : M Bool} {b : MS} {n : Nat} {A A1 A2 : Fr} {d : D} (h : c A = .ok true A1) (k : b A1 = .rt d A2) : whileL c b (n + 1) A = .rt d A2 := by
  conv => lhs; unfold whileL
  simp only [h, oS, k]
/-- a while loop that ends by one of two ways -/
theorem whileL_inv2 {β : Type} {c : M Bool} {b : MS} (inv : β → Fr → Prop) (ms : β → Nat) (post : SOut → Prop)
    (h : ∀ x A, inv x A → (c A = .ok false A ∧ post (.nx A)) ∨ (∃ d A2, c A = .ok true A ∧ b A = .rt d A2 ∧ post (.rt d A2)) ∨ ∃ A2 y, c A = .ok true A ∧ b A = .nx A2 ∧ inv y A2 ∧ ms y < ms x) :
    ∀ (n : Nat) (x : β) (A : Fr), inv x A → ms x < n → post (whileL c b n A)
  | 0, x, A, _, hn => absurd hn (Nat.not_lt_zero _)
  | n + 1, x, A, hi, hn => by
    rcases h x A hi with ⟨e, p⟩ | ⟨d, A2, e1, e2, p⟩ | ⟨A2, y, e1, e2, i2, lt⟩
    · rw [whileL_no e]; exact p
    · rw [whileL_rt e1 e2]; exact p
    · rw [whileL_yes e1 e2]; exact whileL_inv2 inv ms post h n y A2 i2 (by omega)
theorem forL_step {t : MT} {b : MS} {d : D} {ds : List D} {A A1 A2 : Fr} (e1 : t d A = some A1) (e2 : b A1 = .nx A2) : forL t b (d :: ds) A = forL t b ds A2 := by
  conv => lhs; unfold forL
  simp only [e1, e2]
theorem forL_rt {t : MT} {b : MS} {d x : D} {ds : List D} {A A1 A2 : Fr} (e1 : t d A = some A1) (e2 : b A1 = .rt x A2) : forL t b (d :: ds) A = .rt x A2 := by
  conv => lhs; unfold forL
  simp only [e1, e2]
/-- a for loop by an invariant over the rest -/
theorem forL_inv {β : Type} {t : MT} {b : MS} (inv : β → Fr → Prop) (step : β → D → β) (ds : List D) (x : β) (A : Fr) (h : ∀ x A d, d ∈ ds → inv x A → ∃ A1 A2, t d A = some A1 ∧ b A1 = .nx A2 ∧ inv (step x d) A2) (i : inv x A) : ∃ A', forL t b ds A = .nx A' ∧ inv (ds.foldl step x) A' := forL_fold inv step ds x A h i

/-! ### trees -/
mutual
def T.tree : T → Prop
  | .h _ => False
  | .n w ps => isW w ∧ ps.length ≤ 4 ∧ (w ≠ qt ∨ ps.length = 1) ∧ T.trees ps
def T.trees : List T → Prop
  | [] => True
  | t :: ts => t.tree ∧ T.trees ts
end
theorem T.trees_mem : ∀ {l : List T}, T.trees l ↔ ∀ t, t ∈ l → t.tree
  | [] => by simp [T.trees]
  | t :: ts => by simp [T.trees, T.trees_mem (l := ts)]
theorem T.trees_app {a b : List T} : T.trees (a ++ b) ↔ T.trees a ∧ T.trees b := by
  simp only [T.trees_mem, List.mem_append]
  exact ⟨fun h => ⟨fun t ht => h t (.inl ht), fun t ht => h t (.inr ht)⟩, fun h t ht => ht.elim (h.1 t) (h.2 t)⟩
mutual
theorem T.tree_cnt : ∀ t : T, t.tree → t.cnt = t.sz
  | .h _, q => q.elim
  | .n _ ps, q => by simp only [T.cnt, T.sz, T.trees_cnt ps q.2.2.2]
theorem T.trees_cnt : ∀ l : List T, T.trees l → T.cnts l = T.szs l
  | [], _ => rfl
  | t :: ts, q => by simp only [T.cnts, T.szs, T.tree_cnt t q.1, T.trees_cnt ts q.2]
end
mutual
theorem T.lay_ord : ∀ t : T, ordY t.d.py = true
  | .h _ => rfl
  | .n w ps => by simp only [T.d, D.py, D.pys, ordY, ordYs, T.lays_ord ps, Bool.and_self]
theorem T.lays_ord : ∀ l : List T, ordYs (D.pys (T.ds l)) = true
  | [] => rfl
  | t :: ts => by simp only [T.ds, D.pys, ordYs, T.lay_ord t, T.lays_ord ts, Bool.and_self]
end
mutual
theorem T.d_inj : ∀ a b : T, a.d = b.d → a = b
  | .h i, .h j, e => by simp only [T.d, D.int.injEq] at e; rw [e]
  | .h _, .n _ _, e => by simp [T.d] at e
  | .n _ _, .h _, e => by simp [T.d] at e
  | .n w ps, .n v qs, e => by
    simp only [T.d, D.tup.injEq, List.cons.injEq, D.str.injEq, and_true] at e
    rw [e.1, T.ds_inj ps qs e.2]
theorem T.ds_inj : ∀ a b : List T, T.ds a = T.ds b → a = b
  | [], [], _ => rfl
  | [], _ :: _, e => by simp [T.ds] at e
  | _ :: _, [], e => by simp [T.ds] at e
  | a :: as, b :: bs, e => by
    simp only [T.ds, List.cons.injEq] at e
    rw [T.d_inj a b e.1, T.ds_inj as bs e.2]
end
noncomputable instance : DecidableEq T := fun a b => Classical.propDecidable _
theorem D.eq_iff {a b : D} (ha : ordY a.py = true) (hb : ordY b.py = true) : D.eq a b = true ↔ a = b := by
  unfold D.eq
  rw [eqv_iffY _ _ ha hb]
  exact ⟨fun e => py_inj a b ha e, fun e => by rw [e]⟩
theorem T.eq_d (a b : T) : D.eq a.d b.d = decide (a = b) := by
  have := D.eq_iff (T.lay_ord a) (T.lay_ord b)
  by_cases h : a = b
  · subst h; rw [decide_eq_true rfl]; exact this.2 rfl
  · rw [decide_eq_false h]
    cases q : D.eq a.d b.d with
    | false => rfl
    | true => exact absurd (T.d_inj a b (this.1 q)) h
mutual
theorem T.d_dep2 : ∀ t : T, t.d.dep ≤ 2 * t.dep
  | .h _ => Nat.zero_le _
  | .n w ps => by
    have := T.ds_dep2 ps
    simp only [T.d, D.dep, D.py, D.pys, PyData.depth, PyData.depthAll, T.dep] at *
    omega
theorem T.ds_dep2 : ∀ l : List T, PyData.depthAll (D.pys (T.ds l)) ≤ 2 * T.deps l
  | [] => Nat.zero_le _
  | t :: ts => by
    have a := T.d_dep2 t
    have b := T.ds_dep2 ts
    simp only [T.ds, D.dep, D.pys, PyData.depthAll, T.deps] at *
    omega
end
theorem T.cmp {a b : T} (h : a.dep ≤ 95) : cmpOk a.d b.d = true := by
  have := T.d_dep2 a
  unfold cmpOk
  rw [T.lay, T.lay, decide_eq_true (show min a.d.dep b.d.dep ≤ 190 by omega)]; rfl
theorem T.eqS {a b : T} (h : a.dep ≤ 95) : eqS a.d b.d = some (.v (.bl (decide (a = b)))) := by
  unfold Z.eqS; rw [if_pos (T.cmp h), T.eq_d]
theorem T.neS {a b : T} (h : a.dep ≤ 95) : neS a.d b.d = some (.v (.bl (!decide (a = b)))) := by
  unfold Z.neS; rw [if_pos (T.cmp h), T.eq_d]
theorem neS_str {a b : Str} : Z.neS (.str a) (.str b) = some (.v (.bl (!decide (a = b)))) := by
  have : D.eq (.str a) (.str b) = decide (a = b) := by simp only [D.eq, D.py, PyData.eqv]; rfl
  rw [← this]; rfl
/-! ### is_node, is_tree -/
theorem gtS_int {i j : Int} : gtS (.int i) (.int j) = some (.v (.bl (decide (j < i)))) := rfl
theorem r_is_node {Φ : Phi} {w : Str} {ps : List T} (hw : ∀ s, isW s → Φ 1 [.str s] = .ok (.bl true) .non) (h : (T.n w ps).tree) : runF c_is_node Φ [(T.n w ps).d] = .ok (.bl true) .non := by
  obtain ⟨h1, h2, h3, _⟩ := h
  have e1 := hw w h1
  have l : (T.ds ps).length = ps.length := T.ds_len ps
  have g : decide ((4 : Int) < ((T.ds ps).length : Nat)) = false := decide_eq_false (by rw [l]; omega)
  simp only [c_is_node, b_is_node, T.d, runF, fr0, ioOf, mvM, mC, mN, mBin, mUn, mB, mAndT, mOrT, mNotT, mAndV, mOrV, mNotV, mHs, mDs, mTup, mLst, pks, mPrim, sSeq, sNil, oS, sPass, sExpr, sRet, sIf, setVq, nl_un, nl_val, nl_own, putH, sAsg, tN, tNil, tCons, tT, sAsgT, mCall, pk, mv, RD.hd, Out.bind, mTrue, mCh, mMt, mSl, mO0, mO1, mLM, mLM.isOwnL, isOwn, mComp, mCompN, lockF, unlk, sFor, sForN, unlS, mIL, mIT, mIS, mIR1, mIR2, wipeF, restF, vsOkq, sRaise, sTry, mDnew, List.getElem?_cons_zero, List.getElem?_cons_succ, List.set_cons_zero, List.set_cons_succ, List.length_cons, List.length_nil, List.map_cons, List.map_nil, List.replicate_succ, List.replicate_zero, List.cons_append, List.nil_append, List.all_cons, List.all_nil, Option.map_some, Option.map_none, reduceIte, sl0, sl1, sl2, sl3, sl4, sl5, sl6, sl7, sl8, sl9, sl10, sl11, sl12, sl13, sl14, sl15, sl16, sl17, Bool.true_and, Bool.and_true, Bool.not_true, Bool.not_false, Nat.reduceAdd, Nat.reduceSub, Nat.zero_add, Bool.false_eq_true, decide_true, decide_false, List.length_append, Int.cast_ofNat_Int, Int.natCast_one, Int.natCast_zero, Int.reduceEq, Int.reduceLT, Int.reduceLE, Int.reduceAdd, Int.reduceMul, Int.reduceSub, Int.reduceNeg, ne_eq, not_true_eq_false, not_false_eq_true, isi_tt, lenS, ix2_0, ix2_1, e1, gtS_int, g, neS_str, eqS_int, neS_int]
  by_cases q : w = qt
  · have h3 : ps.length = 1 := by rcases h3 with h | h; exact absurd q h; exact h
    have : decide (w = Str.ofString "quiet") = true := decide_eq_true q
    simp only [this, l, h3, Bool.not_true, runF, fr0, ioOf, mvM, mC, mN, mBin, mUn, mB, mAndT, mOrT, mNotT, mAndV, mOrV, mNotV, mHs, mDs, mTup, mLst, pks, mPrim, sSeq, sNil, oS, sPass, sExpr, sRet, sIf, setVq, nl_un, nl_val, nl_own, putH, sAsg, tN, tNil, tCons, tT, sAsgT, mCall, pk, mv, RD.hd, Out.bind, mTrue, mCh, mMt, mSl, mO0, mO1, mLM, mLM.isOwnL, isOwn, mComp, mCompN, lockF, unlk, sFor, sForN, unlS, mIL, mIT, mIS, mIR1, mIR2, wipeF, restF, vsOkq, sRaise, sTry, mDnew, List.getElem?_cons_zero, List.getElem?_cons_succ, List.set_cons_zero, List.set_cons_succ, List.length_cons, List.length_nil, List.map_cons, List.map_nil, List.replicate_succ, List.replicate_zero, List.cons_append, List.nil_append, List.all_cons, List.all_nil, Option.map_some, Option.map_none, reduceIte, sl0, sl1, sl2, sl3, sl4, sl5, sl6, sl7, sl8, sl9, sl10, sl11, sl12, sl13, sl14, sl15, sl16, sl17, Bool.true_and, Bool.and_true, Bool.not_true, Bool.not_false, Nat.reduceAdd, Nat.reduceSub, Nat.zero_add, Bool.false_eq_true, decide_true, decide_false, List.length_append, Int.cast_ofNat_Int, Int.natCast_one, Int.natCast_zero, Int.reduceEq, Int.reduceLT, Int.reduceLE, Int.reduceAdd, Int.reduceMul, Int.reduceSub, Int.reduceNeg, ne_eq, not_true_eq_false, not_false_eq_true]
  · have : decide (w = Str.ofString "quiet") = false := decide_eq_false q
    simp only [this, Bool.not_false, runF, fr0, ioOf, mvM, mC, mN, mBin, mUn, mB, mAndT, mOrT, mNotT, mAndV, mOrV, mNotV, mHs, mDs, mTup, mLst, pks, mPrim, sSeq, sNil, oS, sPass, sExpr, sRet, sIf, setVq, nl_un, nl_val, nl_own, putH, sAsg, tN, tNil, tCons, tT, sAsgT, mCall, pk, mv, RD.hd, Out.bind, mTrue, mCh, mMt, mSl, mO0, mO1, mLM, mLM.isOwnL, isOwn, mComp, mCompN, lockF, unlk, sFor, sForN, unlS, mIL, mIT, mIS, mIR1, mIR2, wipeF, restF, vsOkq, sRaise, sTry, mDnew, List.getElem?_cons_zero, List.getElem?_cons_succ, List.set_cons_zero, List.set_cons_succ, List.length_cons, List.length_nil, List.map_cons, List.map_nil, List.replicate_succ, List.replicate_zero, List.cons_append, List.nil_append, List.all_cons, List.all_nil, Option.map_some, Option.map_none, reduceIte, sl0, sl1, sl2, sl3, sl4, sl5, sl6, sl7, sl8, sl9, sl10, sl11, sl12, sl13, sl14, sl15, sl16, sl17, Bool.true_and, Bool.and_true, Bool.not_true, Bool.not_false, Nat.reduceAdd, Nat.reduceSub, Nat.zero_add, Bool.false_eq_true, decide_true, decide_false, List.length_append, Int.cast_ofNat_Int, Int.natCast_one, Int.natCast_zero, Int.reduceEq, Int.reduceLT, Int.reduceLE, Int.reduceAdd, Int.reduceMul, Int.reduceSub, Int.reduceNeg, ne_eq, not_true_eq_false, not_false_eq_true]
theorem r_is_tree {Φ : Phi} {t : T} (hΦ : ∀ w ps, (T.n w ps).tree → Φ 24 [(T.n w ps).d] = .ok (.bl true) .non) (ht : t.tree) (h60 : t.sz ≤ 60) : runF c_is_tree Φ [t.d] = .ok (.bl true) .non := by
  have lp : ∃ A', whileL (b_is_tree_c1 Φ) (b_is_tree_w1 Φ) 100000 [.val t.d, .ow false (.lst (T.ds [t])), .val (.int (0 : Nat)), .un] = .nx A' ∧ True := by
    refine whileL_inv (β := List T × Nat) (fun x A => ∃ s, nl s = true ∧ A = [.val t.d, .ow false (.lst (T.ds x.1)), .val (.int (x.2 : Nat)), s] ∧ T.trees x.1 ∧ T.szs x.1 + x.2 ≤ 60) (fun x => T.szs x.1) (fun _ => True) (fun x A hi => ?_) 100000 ([t], 0) _ ⟨.un, rfl, rfl, ⟨ht, trivial⟩, by simpa [T.szs] using h60⟩ (by simp only [T.szs]; omega)
    obtain ⟨l, m⟩ := x
    obtain ⟨s, hs, rfl, hl, hm⟩ := hi
    simp only at hl hm ⊢
    rcases List.eq_nil_or_concat l with rfl | ⟨r, u, rfl⟩
    · refine .inl ⟨?_, trivial⟩
      simp only [b_is_tree_c1, runF, fr0, ioOf, mvM, mC, mN, mBin, mUn, mB, mAndT, mOrT, mNotT, mAndV, mOrV, mNotV, mHs, mDs, mTup, mLst, pks, mPrim, sSeq, sNil, oS, sPass, sExpr, sRet, sIf, setVq, nl_un, nl_val, nl_own, putH, sAsg, tN, tNil, tCons, tT, sAsgT, mCall, pk, mv, RD.hd, Out.bind, mTrue, mCh, mMt, mSl, mO0, mO1, mLM, mLM.isOwnL, isOwn, mComp, mCompN, lockF, unlk, sFor, sForN, unlS, mIL, mIT, mIS, mIR1, mIR2, wipeF, restF, vsOkq, sRaise, sTry, mDnew, List.getElem?_cons_zero, List.getElem?_cons_succ, List.set_cons_zero, List.set_cons_succ, List.length_cons, List.length_nil, List.map_cons, List.map_nil, List.replicate_succ, List.replicate_zero, List.cons_append, List.nil_append, List.all_cons, List.all_nil, Option.map_some, Option.map_none, reduceIte, sl0, sl1, sl2, sl3, sl4, sl5, sl6, sl7, sl8, sl9, sl10, sl11, sl12, sl13, sl14, sl15, sl16, sl17, Bool.true_and, Bool.and_true, Bool.not_true, Bool.not_false, Nat.reduceAdd, Nat.reduceSub, Nat.zero_add, Bool.false_eq_true, decide_true, decide_false, List.length_append, Int.cast_ofNat_Int, Int.natCast_one, Int.natCast_zero, Int.reduceEq, Int.reduceLT, Int.reduceLE, Int.reduceAdd, Int.reduceMul, Int.reduceSub, Int.reduceNeg, ne_eq, not_true_eq_false, not_false_eq_true, T.ds, neS_nil (xs := []) rfl, List.isEmpty_nil]
    · rw [List.concat_eq_append] at hl hm ⊢
      have hu := (T.trees_app.1 hl).2.1
      have hr := (T.trees_app.1 hl).1
      cases u with
      | h i => exact hu.elim
      | n w ps =>
        have ly : D.lays (T.ds (r ++ [T.n w ps])) = true := T.lays _
        have ne : (T.ds (r ++ [T.n w ps])).isEmpty = false := by rw [T.ds_map]; simp
        simp only [szs_app, T.szs, T.sz] at hm
        have h1 := hΦ w ps hu
        have hp : lmPop (T.ds (r ++ [T.n w ps])) [] = some (T.ds r, (T.n w ps).d) := by rw [T.ds_app]; exact pop_end _ _
        have hg : decide ((60 : Int) < (m : Nat) + 1) = false := decide_eq_false (by omega)
        have lx : (T.ds r).length + (T.ds ps).length ≤ sizeLine := sl64 (by rw [T.ds_len, T.ds_len]; have := T.szs_len r; have := T.szs_len ps; omega)
        refine .inr ⟨[.val t.d, .ow false (.lst (T.ds r ++ T.ds ps)), .val (.int ((m + 1 : Nat) : Int)), .val (T.n w ps).d], (r ++ ps, m + 1), ?_, ?_, ⟨.val (T.n w ps).d, rfl, by rw [T.ds_app], T.trees_app.2 ⟨hr, hu.2.2.2⟩, ?_⟩, ?_⟩
        · simp only [b_is_tree_c1, runF, fr0, ioOf, mvM, mC, mN, mBin, mUn, mB, mAndT, mOrT, mNotT, mAndV, mOrV, mNotV, mHs, mDs, mTup, mLst, pks, mPrim, sSeq, sNil, oS, sPass, sExpr, sRet, sIf, setVq, nl_un, nl_val, nl_own, putH, sAsg, tN, tNil, tCons, tT, sAsgT, mCall, pk, mv, RD.hd, Out.bind, mTrue, mCh, mMt, mSl, mO0, mO1, mLM, mLM.isOwnL, isOwn, mComp, mCompN, lockF, unlk, sFor, sForN, unlS, mIL, mIT, mIS, mIR1, mIR2, wipeF, restF, vsOkq, sRaise, sTry, mDnew, List.getElem?_cons_zero, List.getElem?_cons_succ, List.set_cons_zero, List.set_cons_succ, List.length_cons, List.length_nil, List.map_cons, List.map_nil, List.replicate_succ, List.replicate_zero, List.cons_append, List.nil_append, List.all_cons, List.all_nil, Option.map_some, Option.map_none, reduceIte, sl0, sl1, sl2, sl3, sl4, sl5, sl6, sl7, sl8, sl9, sl10, sl11, sl12, sl13, sl14, sl15, sl16, sl17, Bool.true_and, Bool.and_true, Bool.not_true, Bool.not_false, Nat.reduceAdd, Nat.reduceSub, Nat.zero_add, Bool.false_eq_true, decide_true, decide_false, List.length_append, Int.cast_ofNat_Int, Int.natCast_one, Int.natCast_zero, Int.reduceEq, Int.reduceLT, Int.reduceLE, Int.reduceAdd, Int.reduceMul, Int.reduceSub, Int.reduceNeg, ne_eq, not_true_eq_false, not_false_eq_true, neS_nil ly, ne]
        · have e2 : (T.n w ps).d = .tup [.str w, .tup (T.ds ps)] := rfl
          rw [e2] at h1 hp ⊢
          simp only [b_is_tree_w1, runF, fr0, ioOf, mvM, mC, mN, mBin, mUn, mB, mAndT, mOrT, mNotT, mAndV, mOrV, mNotV, mHs, mDs, mTup, mLst, pks, mPrim, sSeq, sNil, oS, sPass, sExpr, sRet, sIf, setVq, nl_un, nl_val, nl_own, putH, sAsg, tN, tNil, tCons, tT, sAsgT, mCall, pk, mv, RD.hd, Out.bind, mTrue, mCh, mMt, mSl, mO0, mO1, mLM, mLM.isOwnL, isOwn, mComp, mCompN, lockF, unlk, sFor, sForN, unlS, mIL, mIT, mIS, mIR1, mIR2, wipeF, restF, vsOkq, sRaise, sTry, mDnew, List.getElem?_cons_zero, List.getElem?_cons_succ, List.set_cons_zero, List.set_cons_succ, List.length_cons, List.length_nil, List.map_cons, List.map_nil, List.replicate_succ, List.replicate_zero, List.cons_append, List.nil_append, List.all_cons, List.all_nil, Option.map_some, Option.map_none, reduceIte, sl0, sl1, sl2, sl3, sl4, sl5, sl6, sl7, sl8, sl9, sl10, sl11, sl12, sl13, sl14, sl15, sl16, sl17, Bool.true_and, Bool.and_true, Bool.not_true, Bool.not_false, Nat.reduceAdd, Nat.reduceSub, Nat.zero_add, Bool.false_eq_true, decide_true, decide_false, List.length_append, Int.cast_ofNat_Int, Int.natCast_one, Int.natCast_zero, Int.reduceEq, Int.reduceLT, Int.reduceLE, Int.reduceAdd, Int.reduceMul, Int.reduceSub, Int.reduceNeg, ne_eq, not_true_eq_false, not_false_eq_true, hp, hs, addS, gtS_int, hg, h1, ix2_1, listS, lmExtend, lx, Int.natCast_add, Int.natCast_one]
        · simp only [szs_app]; omega
        · simp only [szs_app, T.szs, T.sz]; omega
  obtain ⟨A', e, _⟩ := lp
  have e0 : T.ds [t] = [t.d] := rfl
  rw [e0] at e
  have e : whileL (b_is_tree_c1 Φ) (b_is_tree_w1 Φ) 100000 [.val t.d, .ow false (.lst [t.d]), .val (.int 0), .un] = .nx A' := e
  simp only [c_is_tree, b_is_tree, runF, fr0, ioOf, mvM, mC, mN, mBin, mUn, mB, mAndT, mOrT, mNotT, mAndV, mOrV, mNotV, mHs, mDs, mTup, mLst, pks, mPrim, sSeq, sNil, oS, sPass, sExpr, sRet, sIf, setVq, nl_un, nl_val, nl_own, putH, sAsg, tN, tNil, tCons, tT, sAsgT, mCall, pk, mv, RD.hd, Out.bind, mTrue, mCh, mMt, mSl, mO0, mO1, mLM, mLM.isOwnL, isOwn, mComp, mCompN, lockF, unlk, sFor, sForN, unlS, mIL, mIT, mIS, mIR1, mIR2, wipeF, restF, vsOkq, sRaise, sTry, mDnew, List.getElem?_cons_zero, List.getElem?_cons_succ, List.set_cons_zero, List.set_cons_succ, List.length_cons, List.length_nil, List.map_cons, List.map_nil, List.replicate_succ, List.replicate_zero, List.cons_append, List.nil_append, List.all_cons, List.all_nil, Option.map_some, Option.map_none, reduceIte, sl0, sl1, sl2, sl3, sl4, sl5, sl6, sl7, sl8, sl9, sl10, sl11, sl12, sl13, sl14, sl15, sl16, sl17, Bool.true_and, Bool.and_true, Bool.not_true, Bool.not_false, Nat.reduceAdd, Nat.reduceSub, Nat.zero_add, Bool.false_eq_true, decide_true, decide_false, List.length_append, Int.cast_ofNat_Int, Int.natCast_one, Int.natCast_zero, Int.reduceEq, Int.reduceLT, Int.reduceLE, Int.reduceAdd, Int.reduceMul, Int.reduceSub, Int.reduceNeg, ne_eq, not_true_eq_false, not_false_eq_true, sWhile, e]
end Z

/-! plain Lean: comprehensions over mapped lists; patterns filled; drawn trees -/
namespace Z
open PySem PySem.Spec PyProof.Rows L2
theorem compL_A {α : Type} {t : MT} {tt : M Bool} {te : M Hd} {vs : List Nat} {A : Fr} (g f : α → D) : ∀ (l : List α) (acc : List D), (∀ a, a ∈ l → ∃ A1 A2 A3, t (g a) A = some A1 ∧ tt A1 = .ok true A2 ∧ mvM te A2 = .ok (f a) A3 ∧ wipeF A3 vs = A) →
    compL t tt te vs acc (l.map g) A = .ok (acc ++ l.map f) A
  | [], acc, _ => by simp [compL]
  | d :: ds, acc, h => by
    obtain ⟨A1, A2, A3, e1, e2, e3, e4⟩ := h d (by simp)
    rw [List.map_cons]
    unfold compL
    simp only [e1, e2, e3, Out.bind, e4]
    rw [compL_A g f ds (acc ++ [f d]) fun x hx => h x (by simp [hx])]
    simp
theorem compR_A {α : Type} {t : MT} {tt : M Bool} {te : M Hd} {vs : List Nat} {A B C : Fr} (g f : α → D) (l : List α) (hv : vsOk vs A = true) (hl : l.length ≤ sizeLine) (hB : wipeF A vs = B) (hC : restF A B vs = C)
    (h : ∀ a, a ∈ l → ∃ A1 A2 A3, t (g a) B = some A1 ∧ tt A1 = .ok true A2 ∧ mvM te A2 = .ok (f a) A3 ∧ wipeF A3 vs = B) :
    compR t tt te vs (l.map g) A = .ok (.f (.lst (l.map f))) C := by
  unfold compR
  rw [hv, decide_eq_true (by rw [List.length_map]; exact hl), hB, compL_A g f l [] h]
  simp [hC]
theorem compL_FA {α : Type} {t : MT} {tt : M Bool} {te : M Hd} {vs : List Nat} {A : Fr} (g : α → D) (p : α → Bool) (f : α → D) : ∀ (l : List α) (acc : List D), (∀ a, a ∈ l → ∃ A1 A2, t (g a) A = some A1 ∧ tt A1 = .ok (p a) A2 ∧
      (p a = false → wipeF A2 vs = A) ∧ (p a = true → ∃ A3, mvM te A2 = .ok (f a) A3 ∧ wipeF A3 vs = A)) →
    compL t tt te vs acc (l.map g) A = .ok (acc ++ (l.filter p).map f) A
  | [], acc, _ => by simp [compL]
  | d :: ds, acc, h => by
    obtain ⟨A1, A2, e1, e2, e3, e4⟩ := h d (by simp)
    have ih := fun acc => compL_FA g p f ds acc fun x hx => h x (by simp [hx])
    rw [List.map_cons]
    unfold compL
    cases q : p d with
    | false => simp only [e1, e2, q, Out.bind, e3 q, ih, List.filter_cons]; simp
    | true =>
      obtain ⟨A3, e5, e6⟩ := e4 q
      simp only [e1, e2, q, Out.bind, e5, e6, ih, List.filter_cons]; simp
theorem compR_FA {α : Type} {t : MT} {tt : M Bool} {te : M Hd} {vs : List Nat} {A B C : Fr} (g : α → D) (p : α → Bool) (f : α → D) (l : List α) (hv : vsOk vs A = true) (hl : l.length ≤ sizeLine) (hB : wipeF A vs = B) (hC : restF A B vs = C)
    (h : ∀ a, a ∈ l → ∃ A1 A2, t (g a) B = some A1 ∧ tt A1 = .ok (p a) A2 ∧ (p a = false → wipeF A2 vs = B) ∧ (p a = true → ∃ A3, mvM te A2 = .ok (f a) A3 ∧ wipeF A3 vs = B)) :
    compR t tt te vs (l.map g) A = .ok (.f (.lst ((l.filter p).map f))) C := by
  unfold compR
  rw [hv, decide_eq_true (by rw [List.length_map]; exact hl), hB, compL_FA g p f l [] h]
  simp [hC]
/-- with a state that changes -/
theorem compL_S {α β : Type} {t : MT} {tt : M Bool} {te : M Hd} {vs : List Nat} (B : β → Fr) (g : α → D) (f : β → α → D) (st : β → α → β) (P : List α → β → Prop) (h : ∀ a l x, P (a :: l) x → P l (st x a) ∧ ∃ A1 A2 A3, t (g a) (B x) = some A1 ∧ tt A1 = .ok true A2 ∧ mvM te A2 = .ok (f x a) A3 ∧ wipeF A3 vs = B (st x a)) : ∀ (l : List α) (acc : List D) (x : β), P l x →
    compL t tt te vs acc (l.map g) (B x) = .ok (l.foldl (fun (p : List D × β) a => (p.1 ++ [f p.2 a], st p.2 a)) (acc, x)).1 (B (l.foldl (fun (p : List D × β) a => (p.1 ++ [f p.2 a], st p.2 a)) (acc, x)).2)
  | [], acc, x, _ => by simp [compL]
  | d :: ds, acc, x, hP => by
    obtain ⟨p2, A1, A2, A3, e1, e2, e3, e4⟩ := h d ds x hP
    have ih := compL_S B g f st P h ds (acc ++ [f x d]) (st x d) p2
    rw [List.map_cons]
    unfold compL
    simp only [e1, e2, e3, Out.bind, e4]
    exact ih
/-! ### patterns filled -/
mutual
def T.sub (σ : Int → T) : T → T
  | .h i => σ i
  | .n w ps => .n w (T.subs σ ps)
def T.subs (σ : Int → T) : List T → List T
  | [] => []
  | t :: ts => T.sub σ t :: T.subs σ ts
end
theorem T.subs_map (σ : Int → T) : ∀ l, T.subs σ l = l.map (T.sub σ)
  | [] => rfl
  | t :: ts => by rw [T.subs, T.subs_map σ ts]; rfl
theorem T.holesL_mem : ∀ {l : List T} {t : T} {i : Int}, t ∈ l → i ∈ t.holes → i ∈ T.holesL l
  | t :: ts, x, i, hm, hi => by
    rw [T.holesL, List.mem_append]
    rcases List.mem_cons.1 hm with rfl | hm
    · exact .inl hi
    · exact .inr (T.holesL_mem hm hi)

theorem ev_filled_law {Pg : Nat → CF} (e : Pg 35 = c__law_filled) {ks : List Key} {ds : List D} {σ : Int → T} : ∀ (n : Nat) (p : T), p.dep ≤ n → p.sz ≤ 64 → (∀ i, i ∈ p.holes → dlook ks ds (.inl i) = some (σ i).d) → Ev Pg (n + 1) 35 [p.d, .dct ks ds] (.ok (T.sub σ p).d .non)
  | n, .h i, _, _, hh => ev_of e fun k hk => by
    simp only [c__law_filled, b__law_filled, runF, fr0, ioOf, mvM, mC, mN, mBin, mUn, mB, mAndT, mOrT, mNotT, mAndV, mOrV, mNotV, mHs, mDs, mTup, mLst, pks, mPrim, sSeq, sNil, oS, sPass, sExpr, sRet, sIf, setVq, nl_un, nl_val, nl_own, putH, sAsg, tN, tNil, tCons, tT, sAsgT, mCall, pk, mv, RD.hd, Out.bind, mTrue, mCh, mMt, mSl, mO0, mO1, mLM, mLM.isOwnL, isOwn, mComp, mCompN, lockF, unlk, sFor, sForN, unlS, mIL, mIT, mIS, mIR1, mIR2, wipeF, restF, vsOkq, sRaise, sTry, mDnew, List.getElem?_cons_zero, List.getElem?_cons_succ, List.set_cons_zero, List.set_cons_succ, List.length_cons, List.length_nil, List.map_cons, List.map_nil, List.replicate_succ, List.replicate_zero, List.cons_append, List.nil_append, List.all_cons, List.all_nil, Option.map_some, Option.map_none, reduceIte, sl0, sl1, sl2, sl3, sl4, sl5, sl6, sl7, sl8, sl9, sl10, sl11, sl12, sl13, sl14, sl15, sl16, sl17, Bool.true_and, Bool.and_true, Bool.not_true, Bool.not_false, Nat.reduceAdd, Nat.reduceSub, Nat.zero_add, Bool.false_eq_true, decide_true, decide_false, List.length_append, Int.cast_ofNat_Int, Int.natCast_one, Int.natCast_zero, Int.reduceEq, Int.reduceLT, Int.reduceLE, Int.reduceAdd, Int.reduceMul, Int.reduceSub, Int.reduceNeg, ne_eq, not_true_eq_false, not_false_eq_true, T.d, isiS, isiB, dgetS, toKey, hh i (by simp [T.holes]), T.sub]
  | 0, .n w ps, hd, _, _ => by simp only [T.dep] at hd; omega
  | n + 1, .n w ps, hd, hz, hh => ev_of e fun k hk => by
    have hps : ps.length ≤ sizeLine := by have := T.szs_len ps; simp only [T.sz] at hz; exact sl64 (by omega)
    have hc : compR (tN 2) mTrue (b__law_filled_e1 (call Pg k)) [2] (ps.map T.d) [.val (T.n w ps).d, .val (.dct ks ds), .un] = .ok (.f (.lst (ps.map fun t => (T.sub σ t).d))) [.val (T.n w ps).d, .val (.dct ks ds), .un] := by
      refine compR_A T.d _ ps rfl hps rfl rfl fun y hy => ⟨[.val (T.n w ps).d, .val (.dct ks ds), .val y.d], _, [.val (T.n w ps).d, .val (.dct ks ds), .val y.d], rfl, rfl, ?_, rfl⟩
      have a := T.dep_mem hy
      have b := T.sz_mem hy
      simp only [T.dep, T.sz] at hd hz
      have := ev_filled_law e n y (by omega) (by omega) (fun i hi => hh i (by simp only [T.holes]; exact T.holesL_mem hy hi)) k (by omega)
      simp only [b__law_filled_e1, runF, fr0, ioOf, mvM, mC, mN, mBin, mUn, mB, mAndT, mOrT, mNotT, mAndV, mOrV, mNotV, mHs, mDs, mTup, mLst, pks, mPrim, sSeq, sNil, oS, sPass, sExpr, sRet, sIf, setVq, nl_un, nl_val, nl_own, putH, sAsg, tN, tNil, tCons, tT, sAsgT, mCall, pk, mv, RD.hd, Out.bind, mTrue, mCh, mMt, mSl, mO0, mO1, mLM, mLM.isOwnL, isOwn, mComp, mCompN, lockF, unlk, sFor, sForN, unlS, mIL, mIT, mIS, mIR1, mIR2, wipeF, restF, vsOkq, sRaise, sTry, mDnew, List.getElem?_cons_zero, List.getElem?_cons_succ, List.set_cons_zero, List.set_cons_succ, List.length_cons, List.length_nil, List.map_cons, List.map_nil, List.replicate_succ, List.replicate_zero, List.cons_append, List.nil_append, List.all_cons, List.all_nil, Option.map_some, Option.map_none, reduceIte, sl0, sl1, sl2, sl3, sl4, sl5, sl6, sl7, sl8, sl9, sl10, sl11, sl12, sl13, sl14, sl15, sl16, sl17, Bool.true_and, Bool.and_true, Bool.not_true, Bool.not_false, Nat.reduceAdd, Nat.reduceSub, Nat.zero_add, Bool.false_eq_true, decide_true, decide_false, List.length_append, Int.cast_ofNat_Int, Int.natCast_one, Int.natCast_zero, Int.reduceEq, Int.reduceLT, Int.reduceLE, Int.reduceAdd, Int.reduceMul, Int.reduceSub, Int.reduceNeg, ne_eq, not_true_eq_false, not_false_eq_true, this]
    simp only [T.d, T.ds_map] at hc
    simp only [c__law_filled, b__law_filled, runF, fr0, ioOf, mvM, mC, mN, mBin, mUn, mB, mAndT, mOrT, mNotT, mAndV, mOrV, mNotV, mHs, mDs, mTup, mLst, pks, mPrim, sSeq, sNil, oS, sPass, sExpr, sRet, sIf, setVq, nl_un, nl_val, nl_own, putH, sAsg, tN, tNil, tCons, tT, sAsgT, mCall, pk, mv, RD.hd, Out.bind, mTrue, mCh, mMt, mSl, mO0, mO1, mLM, mLM.isOwnL, isOwn, mComp, mCompN, lockF, unlk, sFor, sForN, unlS, mIL, mIT, mIS, mIR1, mIR2, wipeF, restF, vsOkq, sRaise, sTry, mDnew, List.getElem?_cons_zero, List.getElem?_cons_succ, List.set_cons_zero, List.set_cons_succ, List.length_cons, List.length_nil, List.map_cons, List.map_nil, List.replicate_succ, List.replicate_zero, List.cons_append, List.nil_append, List.all_cons, List.all_nil, Option.map_some, Option.map_none, reduceIte, sl0, sl1, sl2, sl3, sl4, sl5, sl6, sl7, sl8, sl9, sl10, sl11, sl12, sl13, sl14, sl15, sl16, sl17, Bool.true_and, Bool.and_true, Bool.not_true, Bool.not_false, Nat.reduceAdd, Nat.reduceSub, Nat.zero_add, Bool.false_eq_true, decide_true, decide_false, List.length_append, Int.cast_ofNat_Int, Int.natCast_one, Int.natCast_zero, Int.reduceEq, Int.reduceLT, Int.reduceLE, Int.reduceAdd, Int.reduceMul, Int.reduceSub, Int.reduceNeg, ne_eq, not_true_eq_false, not_false_eq_true, T.d, T.ds_map, isiS, isiB, ix2_0, ix2_1, hc, tupleS, T.sub, T.subs_map, List.map_map, Function.comp_def]

/-! ### drawn trees -/
theorem ev_mixed {Pg : Nat → CF} (B : HasB Pg) {ns : List Int} {j m : Int} (h0 : 0 ≤ j) (hm : 0 < m) : Ev Pg 2 11 [.scr ns, .int j, .int m] (.ok (.int (mixF ns j m)) .non) := fun k hk => by
  obtain ⟨i, rfl⟩ : ∃ i, k = i + 2 := ⟨k - 2, by omega⟩
  exact (l_phm B ns).mx j m h0 hm
structure HasT (Pg : Nat → CF) : Prop extends HasB Pg where
  e24 : Pg 24 = c_is_node
  e25 : Pg 25 = c_is_tree
  e26 : Pg 26 = c_need_tree
  e35 : Pg 35 = c__law_filled
  e36 : Pg 36 = c__law_tree
  e37 : Pg 37 = c__law_case
theorem ws_ix2 {ws : List Str} (F : Four ws) {i : Int} (h0 : 0 ≤ i) (h : i < 4) : ∃ w, (isW w ∧ w ≠ qt) ∧ ixS (.lst (ws.map .str)) (.int i) = some (.v (.str w)) := ws_ix F h0 h
def szB : Nat → Nat
  | 0 => 0
  | 1 => 1
  | 2 => 6
  | 3 => 19
  | _ => 58
mutual
theorem sub_tree {σ : Int → T} (hs : ∀ i, (σ i).tree) : ∀ p : T, p.good → (T.sub σ p).tree
  | .h i, _ => hs i
  | .n w ps, q => by
    have := subs_tree hs ps q.2.2.2
    exact ⟨q.1, by rw [T.subs_map, List.length_map]; exact q.2.2.1, .inl q.2.1, this⟩
theorem subs_tree {σ : Int → T} (hs : ∀ i, (σ i).tree) : ∀ l : List T, T.goods l → T.trees (T.subs σ l)
  | [], _ => trivial
  | t :: ts, q => ⟨sub_tree hs t q.1, subs_tree hs ts q.2⟩
end
mutual
theorem sub_sz {σ : Int → T} {m : Nat} (hs : ∀ i, (σ i).sz ≤ m) : ∀ p : T, (T.sub σ p).sz ≤ p.cnt + p.holes.length * m
  | .h i => by have := hs i; simp only [T.sub, T.cnt, T.holes, List.length_cons, List.length_nil]; omega
  | .n w ps => by
    have := subs_sz hs ps
    simp only [T.sub, T.sz, T.cnt, T.holes]; omega
theorem subs_sz {σ : Int → T} {m : Nat} (hs : ∀ i, (σ i).sz ≤ m) : ∀ l : List T, T.szs (T.subs σ l) ≤ T.cnts l + (T.holesL l).length * m
  | [] => by simp [T.subs, T.szs]
  | t :: ts => by
    have a := sub_sz hs t
    have b := subs_sz hs ts
    simp only [T.subs, T.szs, T.cnts, T.holesL, List.length_append, Nat.add_mul]; omega
end
theorem tup0 : (T.n w []).d = .tup [.str w, .tup []] := rfl
/-- a tree that is drawn -/
def DrawT (Pg : Nat → CF) (ns : List Int) (ws : List Str) (rs : List Ru) (L : Nat) : Prop := ∀ at_ : Int, 0 ≤ at_ → ∃ t : T, t.tree ∧ t.sz ≤ szB L ∧ Ev Pg (L + 10) 36 [.scr ns, .int at_, .lst (ws.map .str), bookD rs, .int (L : Nat)] (.ok t.d .non)
theorem drawT1 {Pg : Nat → CF} (H : HasT Pg) {ns : List Int} {ws : List Str} (F : Four ws) {rs : List Ru} : DrawT Pg ns ws rs 1 := fun at_ h0 => by
  obtain ⟨w, hw, ew⟩ := ws_ix2 F (mixF_lo (ns := ns) (k := at_) (many := 4) (by decide)) (mixF_hi (by decide))
  refine ⟨.n w [], ⟨hw.1, by decide, .inl hw.2, trivial⟩, by simp [T.sz, T.szs, szB], (ev_of H.e36 (m := 2) fun k hk => ?_).mono (by decide)⟩
  have m := ev_mixed H.toHasB (ns := ns) h0 (show (0 : Int) < 4 by decide) k hk
  simp only [c__law_tree, b__law_tree, runF, fr0, ioOf, mvM, mC, mN, mBin, mUn, mB, mAndT, mOrT, mNotT, mAndV, mOrV, mNotV, mHs, mDs, mTup, mLst, pks, mPrim, sSeq, sNil, oS, sPass, sExpr, sRet, sIf, setVq, nl_un, nl_val, nl_own, putH, sAsg, tN, tNil, tCons, tT, sAsgT, mCall, pk, mv, RD.hd, Out.bind, mTrue, mCh, mMt, mSl, mO0, mO1, mLM, mLM.isOwnL, isOwn, mComp, mCompN, lockF, unlk, sFor, sForN, unlS, mIL, mIT, mIS, mIR1, mIR2, wipeF, restF, vsOkq, sRaise, sTry, mDnew, List.getElem?_cons_zero, List.getElem?_cons_succ, List.set_cons_zero, List.set_cons_succ, List.length_cons, List.length_nil, List.map_cons, List.map_nil, List.replicate_succ, List.replicate_zero, List.cons_append, List.nil_append, List.all_cons, List.all_nil, Option.map_some, Option.map_none, reduceIte, sl0, sl1, sl2, sl3, sl4, sl5, sl6, sl7, sl8, sl9, sl10, sl11, sl12, sl13, sl14, sl15, sl16, sl17, Bool.true_and, Bool.and_true, Bool.not_true, Bool.not_false, Nat.reduceAdd, Nat.reduceSub, Nat.zero_add, Bool.false_eq_true, decide_true, decide_false, List.length_append, Int.cast_ofNat_Int, Int.natCast_one, Int.natCast_zero, Int.reduceEq, Int.reduceLT, Int.reduceLE, Int.reduceAdd, Int.reduceMul, Int.reduceSub, Int.reduceNeg, ne_eq, not_true_eq_false, not_false_eq_true, eqS_int, m, ew, tup0]
theorem ifnot {c : M Bool} {m1 m2 : MS} {A A1 : Fr} (h : c A = .ok false A1) : sIf c m1 m2 A = m2 A1 := by unfold sIf; rw [h]; rfl
theorem ifyes {c : M Bool} {m1 m2 : MS} {A A1 : Fr} (h : c A = .ok true A1) : sIf c m1 m2 A = m1 A1 := by unfold sIf; rw [h]; rfl
theorem book_ne0 {rs : List Ru} (g : BookOk rs) : neS (bookD rs) (.tup []) = some (.v (.bl (!rs.isEmpty))) := by
  unfold neS
  rw [if_pos (book_cmp g rfl)]
  cases rs <;> simp [bookD, D.eq, D.py, D.pys, PyData.eqv, PyData.eqvAll]
theorem six_ix2 {i : Int} (h0 : 0 ≤ i) (hi : i < 6) (c : Int) (hc : c = 1 ∨ c = 4) : ∃ n : Nat, (n ≤ 3 ∨ (n = 4 ∧ c = 4)) ∧ ixS (.lst [.int 0, .int 1, .int 2, .int 2, .int c, .int 3]) (.int i) = some (.v (.int n)) := by
  have : i = 0 ∨ i = 1 ∨ i = 2 ∨ i = 3 ∨ i = 4 ∨ i = 5 := by omega
  rcases this with rfl | rfl | rfl | rfl | rfl | rfl
  · exact ⟨0, .inl (by decide), rfl⟩
  · exact ⟨1, .inl (by decide), rfl⟩
  · exact ⟨2, .inl (by decide), rfl⟩
  · exact ⟨2, .inl (by decide), rfl⟩
  · rcases hc with rfl | rfl
    · exact ⟨1, .inl (by decide), rfl⟩
    · exact ⟨4, .inr ⟨rfl, rfl⟩, rfl⟩
  · exact ⟨3, .inl (by decide), rfl⟩
theorem rs_ix {rs : List Ru} {i : Int} (h0 : 0 ≤ i) (h : i < (rs.length : Nat)) : ∃ r, r ∈ rs ∧ ixS (bookD rs) (.int i) = some (.v r.d) := by
  obtain ⟨j, rfl⟩ : ∃ j : Nat, i = j := ⟨i.toNat, (Int.toNat_of_nonneg h0).symm⟩
  have hj : j < rs.length := by omega
  refine ⟨rs[j], List.getElem_mem hj, ?_⟩
  have : atI (rs.map Ru.d) (j : Nat) = some rs[j].d := atI_nat (by rw [List.getElem?_map, List.getElem?_eq_getElem hj]; rfl)
  simp only [bookD, ixS, this, Option.map_some]
abbrev frT (ns : List Int) (at_ : Int) (ws : List Str) (rs : List Ru) (l q : Int) (x : List SV) : Fr := [.val (.scr ns), .val (.int at_), .val (.lst (ws.map .str)), .val (bookD rs), .val (.int l), .val (.int q)] ++ x
theorem s5_ok (x : Int) : (smallI 5 || smallI x) = true := by rw [show smallI 5 = true by decide, Bool.true_or]
theorem dt_loop {Φ : Phi} {ns : List Int} {at_ l q m : Int} {ws : List Str} {rs : List Ru} {t0 t1 : T} (c0 : Φ 36 [.scr ns, .int (5 * at_ + 2 + 0), .lst (ws.map .str), bookD rs, .int m] = .ok t0.d .non) (c1 : Φ 36 [.scr ns, .int (5 * at_ + 2 + 1), .lst (ws.map .str), bookD rs, .int m] = .ok t1.d .non) :
    forL (tN 10) (b__law_tree_l1 Φ) (rangeL 0 2) (frT ns at_ ws rs l q [.un, .un, .val (.int m), .ow false (.dct [] []), .un]) = .nx (frT ns at_ ws rs l q [.un, .un, .val (.int m), .ow false (.dct [.inl 0, .inl 1] [t0.d, t1.d]), .val (.int 1)]) := by
  have er : rangeL 0 2 = [.int 0, .int 1] := rfl
  have z0 : (0 : Nat) < sizeLine := by decide
  have z1 : (1 : Nat) < sizeLine := by decide
  have p1 : dput ([] : List Key) ([] : List D) (.inl 0) t0.d = ([.inl 0], [t0.d]) := rfl
  have p2 : dput ([.inl 0] : List Key) ([t0.d] : List D) (.inl 1) t1.d = ([.inl 0, .inl 1], [t0.d, t1.d]) := rfl
  have s5 := s5_ok at_
  rw [er]
  simp only [forL, b__law_tree_l1, frT, runF, fr0, ioOf, mvM, mC, mN, mBin, mUn, mB, mAndT, mOrT, mNotT, mAndV, mOrV, mNotV, mHs, mDs, mTup, mLst, pks, mPrim, sSeq, sNil, oS, sPass, sExpr, sRet, sIf, setVq, nl_un, nl_val, nl_own, putH, sAsg, tN, tNil, tCons, tT, sAsgT, mCall, pk, mv, RD.hd, Out.bind, mTrue, mCh, mMt, mSl, mO0, mO1, mLM, mLM.isOwnL, isOwn, mComp, mCompN, lockF, unlk, sFor, sForN, unlS, mIL, mIT, mIS, mIR1, mIR2, wipeF, restF, vsOkq, sRaise, sTry, mDnew, List.getElem?_cons_zero, List.getElem?_cons_succ, List.set_cons_zero, List.set_cons_succ, List.length_cons, List.length_nil, List.map_cons, List.map_nil, List.replicate_succ, List.replicate_zero, List.cons_append, List.nil_append, List.all_cons, List.all_nil, Option.map_some, Option.map_none, reduceIte, sl0, sl1, sl2, sl3, sl4, sl5, sl6, sl7, sl8, sl9, sl10, sl11, sl12, sl13, sl14, sl15, sl16, sl17, Bool.true_and, Bool.and_true, Bool.not_true, Bool.not_false, Nat.reduceAdd, Nat.reduceSub, Nat.zero_add, Bool.false_eq_true, decide_true, decide_false, List.length_append, Int.cast_ofNat_Int, Int.natCast_one, Int.natCast_zero, Int.reduceEq, Int.reduceLT, Int.reduceLE, Int.reduceAdd, Int.reduceMul, Int.reduceSub, Int.reduceNeg, ne_eq, not_true_eq_false, not_false_eq_true, addS, mulS, s5, c0, c1, sDput, toKey, z0, z1, p1, p2]
theorem dt_for {Φ : Phi} {ns : List Int} {at_ l q m : Int} {ws : List Str} {rs : List Ru} {t0 t1 : T} (c0 : Φ 36 [.scr ns, .int (5 * at_ + 2 + 0), .lst (ws.map .str), bookD rs, .int m] = .ok t0.d .non) (c1 : Φ 36 [.scr ns, .int (5 * at_ + 2 + 1), .lst (ws.map .str), bookD rs, .int m] = .ok t1.d .non) :
    sFor (mIR1 (mC (.int 2))) (tN 10) (b__law_tree_l1 Φ) (frT ns at_ ws rs l q [.un, .un, .val (.int m), .ow false (.dct [] []), .un]) = .nx (frT ns at_ ws rs l q [.un, .un, .val (.int m), .ow false (.dct [.inl 0, .inl 1] [t0.d, t1.d]), .val (.int 1)]) :=
  sFor_nx (mIR1_nat (n := 2) (A1 := frT ns at_ ws rs l q [.un, .un, .val (.int m), .ow false (.dct [] []), .un]) (h := .d (.int 2)) rfl rfl (rgOk_nat (by decide))) (dt_loop c0 c1)
theorem dt_comp {Φ : Phi} {ns : List Int} {at_ q : Int} {L n : Nat} {ws : List Str} {rs : List Ru} {f : Nat → T} (hn : n ≤ 4) (hf : ∀ j : Nat, Φ 36 [.scr ns, .int (5 * at_ + 1 + (0 + (j : Nat))), .lst (ws.map .str), bookD rs, .int (L : Nat)] = .ok (f j).d .non) :
    mComp (mIR1 (mN 6)) [10] (tN 10) mTrue (b__law_tree_e1 Φ) (frT ns at_ ws rs ((L + 1 : Nat) : Int) q [.val (.int (n : Nat)), .un, .un, .un, .un]) = .ok (.f (.lst ((List.range n).map fun j => (f j).d))) (frT ns at_ ws rs ((L + 1 : Nat) : Int) q [.val (.int (n : Nat)), .un, .un, .un, .un]) := by
  refine mComp_ok (mIR1_nat (n := n) (A1 := frT ns at_ ws rs ((L + 1 : Nat) : Int) q [.val (.int (n : Nat)), .un, .un, .un, .un]) (h := .s 6) rfl rfl (rgOk_nat (by omega))) ?_
  unfold rangeL
  refine compR_A _ _ _ rfl (by rw [List.length_range]; exact sl64 (by omega)) rfl rfl fun j hj => ⟨frT ns at_ ws rs ((L + 1 : Nat) : Int) q [.val (.int (n : Nat)), .un, .un, .un, .val (.int (0 + (j : Nat)))], _, frT ns at_ ws rs ((L + 1 : Nat) : Int) q [.val (.int (n : Nat)), .un, .un, .un, .val (.int (0 + (j : Nat)))], rfl, rfl, ?_, rfl⟩
  have s5' := s5_ok at_
  have sb1 : subS (.int ((L + 1 : Nat) : Int)) (.int 1) = some (.v (.int (L : Nat))) := by simp only [subS]; rw [show ((L + 1 : Nat) : Int) - 1 = (L : Nat) by omega]
  simp only [b__law_tree_e1, frT, runF, fr0, ioOf, mvM, mC, mN, mBin, mUn, mB, mAndT, mOrT, mNotT, mAndV, mOrV, mNotV, mHs, mDs, mTup, mLst, pks, mPrim, sSeq, sNil, oS, sPass, sExpr, sRet, sIf, setVq, nl_un, nl_val, nl_own, putH, sAsg, tN, tNil, tCons, tT, sAsgT, mCall, pk, mv, RD.hd, Out.bind, mTrue, mCh, mMt, mSl, mO0, mO1, mLM, mLM.isOwnL, isOwn, mComp, mCompN, lockF, unlk, sFor, sForN, unlS, mIL, mIT, mIS, mIR1, mIR2, wipeF, restF, vsOkq, sRaise, sTry, mDnew, List.getElem?_cons_zero, List.getElem?_cons_succ, List.set_cons_zero, List.set_cons_succ, List.length_cons, List.length_nil, List.map_cons, List.map_nil, List.replicate_succ, List.replicate_zero, List.cons_append, List.nil_append, List.all_cons, List.all_nil, Option.map_some, Option.map_none, reduceIte, sl0, sl1, sl2, sl3, sl4, sl5, sl6, sl7, sl8, sl9, sl10, sl11, sl12, sl13, sl14, sl15, sl16, sl17, Bool.true_and, Bool.and_true, Bool.not_true, Bool.not_false, Nat.reduceAdd, Nat.reduceSub, Bool.false_eq_true, decide_true, decide_false, List.length_append, Int.cast_ofNat_Int, Int.natCast_one, Int.natCast_zero, Int.reduceEq, Int.reduceLT, Int.reduceLE, Int.reduceMul, Int.reduceSub, Int.reduceNeg, ne_eq, not_true_eq_false, not_false_eq_true, addS, mulS, s5', sb1, hf j]
theorem asg_f {i : Nat} {m : M Hd} {A A1 A2 : Fr} {x : D} (e : m A = .ok (.f x) A1) (k : setV i (.ow false x) A1 = some A2) : sAsg i m A = .nx A2 := by
  unfold sAsg; rw [e]; unfold oS putH; simp only [k]
theorem dt_q {Φ : Phi} {ns : List Int} {at_ : Int} {L : Nat} {ws : List Str} {rs : List Ru} {t : T} (hL : 1 ≤ L) (m1 : Φ 11 [.scr ns, .int at_, .int 12] = .ok (.int (mixF ns at_ 12)) .non) (q0 : mixF ns at_ 12 = 0) (m2 : Φ 36 [.scr ns, .int (5 * at_ + 1), .lst (ws.map .str), bookD rs, .int (L : Nat)] = .ok t.d .non) :
    runF c__law_tree Φ [.scr ns, .int at_, .lst (ws.map .str), bookD rs, .int ((L + 1 : Nat) : Int)] = .ok (T.n qt [t]).d .non := by
  have neq1 : eqS (.int ((L + 1 : Nat) : Int)) (.int 1) = some (.v (.bl false)) := by rw [eqS_int, decide_eq_false (by omega)]
  have sb1 : subS (.int ((L + 1 : Nat) : Int)) (.int 1) = some (.v (.int (L : Nat))) := by simp only [subS]; rw [show ((L + 1 : Nat) : Int) - 1 = (L : Nat) by omega]
  have s5 := s5_ok at_
  have e0 : eqS (.int (mixF ns at_ 12)) (.int 0) = some (.v (.bl true)) := by rw [eqS_int, decide_eq_true q0]
  have ed : (T.n qt [t]).d = .tup [.str "quiet", .tup [t.d]] := rfl
  simp only [c__law_tree, b__law_tree, runF, fr0, ioOf, mvM, mC, mN, mBin, mUn, mB, mAndT, mOrT, mNotT, mAndV, mOrV, mNotV, mHs, mDs, mTup, mLst, pks, mPrim, sSeq, sNil, oS, sPass, sExpr, sRet, sIf, setVq, nl_un, nl_val, nl_own, putH, sAsg, tN, tNil, tCons, tT, sAsgT, mCall, pk, mv, RD.hd, Out.bind, mTrue, mCh, mMt, mSl, mO0, mO1, mLM, mLM.isOwnL, isOwn, mComp, mCompN, lockF, unlk, sFor, sForN, unlS, mIL, mIT, mIS, mIR1, mIR2, wipeF, restF, vsOkq, sRaise, sTry, mDnew, List.getElem?_cons_zero, List.getElem?_cons_succ, List.set_cons_zero, List.set_cons_succ, List.length_cons, List.length_nil, List.map_cons, List.map_nil, List.replicate_succ, List.replicate_zero, List.cons_append, List.nil_append, List.all_cons, List.all_nil, Option.map_some, Option.map_none, reduceIte, sl0, sl1, sl2, sl3, sl4, sl5, sl6, sl7, sl8, sl9, sl10, sl11, sl12, sl13, sl14, sl15, sl16, sl17, Bool.true_and, Bool.and_true, Bool.not_true, Bool.not_false, Nat.reduceAdd, Nat.reduceSub, Nat.zero_add, Bool.false_eq_true, decide_true, decide_false, List.length_append, Int.cast_ofNat_Int, Int.natCast_one, Int.natCast_zero, Int.reduceEq, Int.reduceLT, Int.reduceLE, Int.reduceAdd, Int.reduceMul, Int.reduceSub, Int.reduceNeg, ne_eq, not_true_eq_false, not_false_eq_true, neq1, m1, e0, addS, mulS, s5, sb1, m2, ed]
theorem dt_p {Φ : Phi} {ns : List Int} {at_ : Int} {L M : Nat} {ws : List Str} {rs : List Ru} {t0 t1 t : T} {r : Ru} (hL : 1 ≤ L) (hM : M = max 1 (L - 1)) (g : BookOk rs) (m1 : Φ 11 [.scr ns, .int at_, .int 12] = .ok (.int (mixF ns at_ 12)) .non) (q0 : ¬ mixF ns at_ 12 = 0) (q1 : mixF ns at_ 12 < 6) (q2 : rs ≠ [])
    (m3 : Φ 11 [.scr ns, .int (at_ + 1), .int (rs.length : Nat)] = .ok (.int (mixF ns (at_ + 1) (rs.length : Nat))) .non) (er : ixS (bookD rs) (.int (mixF ns (at_ + 1) (rs.length : Nat))) = some (.v r.d))
    (c0 : Φ 36 [.scr ns, .int (5 * at_ + 2 + 0), .lst (ws.map .str), bookD rs, .int (M : Nat)] = .ok t0.d .non) (c1 : Φ 36 [.scr ns, .int (5 * at_ + 2 + 1), .lst (ws.map .str), bookD rs, .int (M : Nat)] = .ok t1.d .non) (fl : Φ 35 [r.p.d, .dct [.inl 0, .inl 1] [t0.d, t1.d]] = .ok t.d .non) :
    runF c__law_tree Φ [.scr ns, .int at_, .lst (ws.map .str), bookD rs, .int ((L + 1 : Nat) : Int)] = .ok t.d .non := by
  have neq1 : eqS (.int ((L + 1 : Nat) : Int)) (.int 1) = some (.v (.bl false)) := by rw [eqS_int, decide_eq_false (by omega)]
  have e0 : eqS (.int (mixF ns at_ 12)) (.int 0) = some (.v (.bl false)) := by rw [eqS_int, decide_eq_false q0]
  have l6 : ltS (.int (mixF ns at_ 12)) (.int 6) = some (.v (.bl true)) := by simp only [ltS]; rw [decide_eq_true q1]
  have nb : neS (bookD rs) (.tup []) = some (.v (.bl true)) := by
    rw [book_ne0 g]
    cases rs with
    | nil => exact absurd rfl q2
    | cons _ _ => rfl
  have mxe : maxS [.int 1, .int (((L + 1 : Nat) : Int) - 2)] = some (.v (.int (M : Nat))) := by
    simp only [maxS]
    congr 3
    split <;> omega
  have e1 : ixS r.d (.int 1) = some (.v r.p.d) := rfl
  have sb2 : subS (.int ((L + 1 : Nat) : Int)) (.int 2) = some (.v (.int (((L + 1 : Nat) : Int) - 2))) := rfl
  have ln : lenS [bookD rs] = some (.v (.int (rs.length : Nat))) := by simp only [bookD, lenS, List.length_map]
  have fr := dt_for (ws := ws) (rs := rs) (l := ((L + 1 : Nat) : Int)) (q := mixF ns at_ 12) c0 c1
  simp only [frT, List.cons_append, List.nil_append] at fr
  simp only [c__law_tree, b__law_tree, runF, fr0, ioOf, mvM, mC, mN, mBin, mUn, mB, mAndT, mOrT, mNotT, mAndV, mOrV, mNotV, mHs, mDs, mTup, mLst, pks, mPrim, sSeq, sNil, oS, sPass, sExpr, sRet, sIf, setVq, nl_un, nl_val, nl_own, putH, sAsg, tN, tNil, tCons, tT, sAsgT, mCall, pk, mv, RD.hd, Out.bind, mTrue, mCh, mMt, mSl, mO0, mO1, mLM, mLM.isOwnL, isOwn, mComp, mCompN, lockF, unlk, sForN, unlS, mIL, mIT, mIS, mIR2, wipeF, restF, vsOkq, sRaise, sTry, mDnew, List.getElem?_cons_zero, List.getElem?_cons_succ, List.set_cons_zero, List.set_cons_succ, List.length_cons, List.length_nil, List.map_cons, List.map_nil, List.replicate_succ, List.replicate_zero, List.cons_append, List.nil_append, List.all_cons, List.all_nil, Option.map_some, Option.map_none, reduceIte, sl0, sl1, sl2, sl3, sl4, sl5, sl6, sl7, sl8, sl9, sl10, sl11, sl12, sl13, sl14, sl15, sl16, sl17, Bool.true_and, Bool.and_true, Bool.not_true, Bool.not_false, Nat.reduceAdd, Nat.reduceSub, Nat.zero_add, Bool.false_eq_true, decide_true, decide_false, List.length_append, Int.cast_ofNat_Int, Int.natCast_one, Int.natCast_zero, Int.reduceEq, Int.reduceLT, Int.reduceLE, Int.reduceAdd, Int.reduceMul, Int.reduceSub, Int.reduceNeg, ne_eq, not_true_eq_false, not_false_eq_true, neq1, m1, e0, l6, nb, sb2, mxe, fr, ln, m3, addS, er, e1, fl]
theorem dt_w {Φ : Phi} {ns : List Int} {at_ c q i2 i3 : Int} {L n : Nat} {ws : List Str} {rs : List Ru} {f : Nat → T} {w : Str} (hL : 1 ≤ L) (n4 : n ≤ 4) (g : BookOk rs) (m1 : Φ 11 [.scr ns, .int at_, .int 12] = .ok (.int q) .non) (q0 : ¬ q = 0) (q1 : ¬ (q < 6 ∧ rs ≠ []))
    (m2 : Φ 11 [.scr ns, .int (at_ + 2), .int 6] = .ok (.int (i2)) .non) (m3 : Φ 11 [.scr ns, .int (at_ + 3), .int 4] = .ok (.int (i3)) .non)
    (ec : ixS (.lst [.int 1, .int 4]) (.int (if decide (((L + 1 : Nat) : Int) = 2) = true then 1 else 0)) = some (.v (.int c))) (en : ixS (.lst [.int 0, .int 1, .int 2, .int 2, .int c, .int 3]) (.int (i2)) = some (.v (.int n)))
    (ew : ixS (.lst (ws.map .str)) (.int (i3)) = some (.v (.str w))) (hf : ∀ j : Nat, Φ 36 [.scr ns, .int (5 * at_ + 1 + (0 + (j : Nat))), .lst (ws.map .str), bookD rs, .int (L : Nat)] = .ok (f j).d .non) :
    runF c__law_tree Φ [.scr ns, .int at_, .lst (ws.map .str), bookD rs, .int ((L + 1 : Nat) : Int)] = .ok (T.n w ((List.range n).map f)).d .non := by
  have neq1 : eqS (.int ((L + 1 : Nat) : Int)) (.int 1) = some (.v (.bl false)) := by rw [eqS_int, decide_eq_false (by omega)]
  have e0 : eqS (.int q) (.int 0) = some (.v (.bl false)) := by rw [eqS_int, decide_eq_false q0]
  have tst : mAndT (mB (mBin ltS (mN 5) (mC (.int 6)))) (mB (mBin neS (mN 3) (mTup []))) [.val (.scr ns), .val (.int at_), .val (.lst (ws.map .str)), .val (bookD rs), .val (.int ((L + 1 : Nat) : Int)), .val (.int q), .un, .un, .un, .un, .un] = .ok false [.val (.scr ns), .val (.int at_), .val (.lst (ws.map .str)), .val (bookD rs), .val (.int ((L + 1 : Nat) : Int)), .val (.int q), .un, .un, .un, .un, .un] := by
    by_cases h6 : q < 6
    · have hb : rs = [] := Classical.byContradiction fun z => q1 ⟨h6, z⟩
      have nb : neS (bookD rs) (.tup []) = some (.v (.bl false)) := by rw [book_ne0 g, hb]; rfl
      have l6 : ltS (.int q) (.int 6) = some (.v (.bl true)) := by simp only [ltS]; rw [decide_eq_true h6]
      simp only [runF, fr0, ioOf, mvM, mC, mN, mBin, mUn, mB, mAndT, mOrT, mNotT, mAndV, mOrV, mNotV, mHs, mDs, mTup, mLst, pks, mPrim, sSeq, sNil, oS, sPass, sExpr, sRet, sIf, setVq, nl_un, nl_val, nl_own, putH, sAsg, tN, tNil, tCons, tT, sAsgT, mCall, pk, mv, RD.hd, Out.bind, mTrue, mCh, mMt, mSl, mO0, mO1, mLM, mLM.isOwnL, isOwn, mComp, mCompN, lockF, unlk, sFor, sForN, unlS, mIL, mIT, mIS, mIR1, mIR2, wipeF, restF, vsOkq, sRaise, sTry, mDnew, List.getElem?_cons_zero, List.getElem?_cons_succ, List.set_cons_zero, List.set_cons_succ, List.length_cons, List.length_nil, List.map_cons, List.map_nil, List.replicate_succ, List.replicate_zero, List.cons_append, List.nil_append, List.all_cons, List.all_nil, Option.map_some, Option.map_none, reduceIte, sl0, sl1, sl2, sl3, sl4, sl5, sl6, sl7, sl8, sl9, sl10, sl11, sl12, sl13, sl14, sl15, sl16, sl17, Bool.true_and, Bool.and_true, Bool.not_true, Bool.not_false, Nat.reduceAdd, Nat.reduceSub, Nat.zero_add, Bool.false_eq_true, decide_true, decide_false, List.length_append, Int.cast_ofNat_Int, Int.natCast_one, Int.natCast_zero, Int.reduceEq, Int.reduceLT, Int.reduceLE, Int.reduceAdd, Int.reduceMul, Int.reduceSub, Int.reduceNeg, ne_eq, not_true_eq_false, not_false_eq_true, l6, nb]
    · have l6 : ltS (.int q) (.int 6) = some (.v (.bl false)) := by simp only [ltS]; rw [decide_eq_false h6]
      simp only [runF, fr0, ioOf, mvM, mC, mN, mBin, mUn, mB, mAndT, mOrT, mNotT, mAndV, mOrV, mNotV, mHs, mDs, mTup, mLst, pks, mPrim, sSeq, sNil, oS, sPass, sExpr, sRet, sIf, setVq, nl_un, nl_val, nl_own, putH, sAsg, tN, tNil, tCons, tT, sAsgT, mCall, pk, mv, RD.hd, Out.bind, mTrue, mCh, mMt, mSl, mO0, mO1, mLM, mLM.isOwnL, isOwn, mComp, mCompN, lockF, unlk, sFor, sForN, unlS, mIL, mIT, mIS, mIR1, mIR2, wipeF, restF, vsOkq, sRaise, sTry, mDnew, List.getElem?_cons_zero, List.getElem?_cons_succ, List.set_cons_zero, List.set_cons_succ, List.length_cons, List.length_nil, List.map_cons, List.map_nil, List.replicate_succ, List.replicate_zero, List.cons_append, List.nil_append, List.all_cons, List.all_nil, Option.map_some, Option.map_none, reduceIte, sl0, sl1, sl2, sl3, sl4, sl5, sl6, sl7, sl8, sl9, sl10, sl11, sl12, sl13, sl14, sl15, sl16, sl17, Bool.true_and, Bool.and_true, Bool.not_true, Bool.not_false, Nat.reduceAdd, Nat.reduceSub, Nat.zero_add, Bool.false_eq_true, decide_true, decide_false, List.length_append, Int.cast_ofNat_Int, Int.natCast_one, Int.natCast_zero, Int.reduceEq, Int.reduceLT, Int.reduceLE, Int.reduceAdd, Int.reduceMul, Int.reduceSub, Int.reduceNeg, ne_eq, not_true_eq_false, not_false_eq_true, l6]
  have e2 : eqS (.int ((L + 1 : Nat) : Int)) (.int 2) = some (.v (.bl (decide (((L + 1 : Nat) : Int) = 2)))) := eqS_int
  have hcc := dt_comp (ws := ws) (rs := rs) (q := q) (f := f) n4 hf
  have ed : (T.n w ((List.range n).map f)).d = .tup [.str w, .tup ((List.range n).map fun j => (f j).d)] := by simp only [T.d, T.ds_map, List.map_map, Function.comp_def]
  have h0 : (sIf (mB (mBin eqS (mN 4) (mC (.int 1)))) (sRet (mTup [(mBin ixS (mN 2) (mCall Φ 11 [(mN 0), (mN 1), (mC (.int 4))])), (mTup [])])) sNil) [.val (.scr ns), .val (.int at_), .val (.lst (ws.map .str)), .val (bookD rs), .val (.int ((L + 1 : Nat) : Int)), .un, .un, .un, .un, .un, .un] = .nx [.val (.scr ns), .val (.int at_), .val (.lst (ws.map .str)), .val (bookD rs), .val (.int ((L + 1 : Nat) : Int)), .un, .un, .un, .un, .un, .un] := by simp only [runF, fr0, ioOf, mvM, mC, mN, mBin, mUn, mB, mAndT, mOrT, mNotT, mAndV, mOrV, mNotV, mHs, mDs, mTup, mLst, pks, mPrim, sSeq, sNil, oS, sPass, sExpr, sRet, sIf, setVq, nl_un, nl_val, nl_own, putH, sAsg, tN, tNil, tCons, tT, sAsgT, mCall, pk, mv, RD.hd, Out.bind, mTrue, mCh, mMt, mSl, mO0, mO1, mLM, mLM.isOwnL, isOwn, mComp, mCompN, lockF, unlk, sFor, sForN, unlS, mIL, mIT, mIS, mIR1, mIR2, wipeF, restF, vsOkq, sRaise, sTry, mDnew, List.getElem?_cons_zero, List.getElem?_cons_succ, List.set_cons_zero, List.set_cons_succ, List.length_cons, List.length_nil, List.map_cons, List.map_nil, List.replicate_succ, List.replicate_zero, List.cons_append, List.nil_append, List.all_cons, List.all_nil, Option.map_some, Option.map_none, reduceIte, sl0, sl1, sl2, sl3, sl4, sl5, sl6, sl7, sl8, sl9, sl10, sl11, sl12, sl13, sl14, sl15, sl16, sl17, Bool.true_and, Bool.and_true, Bool.not_true, Bool.not_false, Nat.reduceAdd, Nat.reduceSub, Nat.zero_add, Bool.false_eq_true, decide_true, decide_false, List.length_append, Int.cast_ofNat_Int, Int.natCast_one, Int.natCast_zero, Int.reduceEq, Int.reduceLT, Int.reduceLE, Int.reduceAdd, Int.reduceMul, Int.reduceSub, Int.reduceNeg, ne_eq, not_true_eq_false, not_false_eq_true, neq1]
  have h1 : (sAsg 5 (mCall Φ 11 [(mN 0), (mN 1), (mC (.int 12))])) [.val (.scr ns), .val (.int at_), .val (.lst (ws.map .str)), .val (bookD rs), .val (.int ((L + 1 : Nat) : Int)), .un, .un, .un, .un, .un, .un] = .nx [.val (.scr ns), .val (.int at_), .val (.lst (ws.map .str)), .val (bookD rs), .val (.int ((L + 1 : Nat) : Int)), .val (.int q), .un, .un, .un, .un, .un] := by simp only [runF, fr0, ioOf, mvM, mC, mN, mBin, mUn, mB, mAndT, mOrT, mNotT, mAndV, mOrV, mNotV, mHs, mDs, mTup, mLst, pks, mPrim, sSeq, sNil, oS, sPass, sExpr, sRet, sIf, setVq, nl_un, nl_val, nl_own, putH, sAsg, tN, tNil, tCons, tT, sAsgT, mCall, pk, mv, RD.hd, Out.bind, mTrue, mCh, mMt, mSl, mO0, mO1, mLM, mLM.isOwnL, isOwn, mComp, mCompN, lockF, unlk, sFor, sForN, unlS, mIL, mIT, mIS, mIR1, mIR2, wipeF, restF, vsOkq, sRaise, sTry, mDnew, List.getElem?_cons_zero, List.getElem?_cons_succ, List.set_cons_zero, List.set_cons_succ, List.length_cons, List.length_nil, List.map_cons, List.map_nil, List.replicate_succ, List.replicate_zero, List.cons_append, List.nil_append, List.all_cons, List.all_nil, Option.map_some, Option.map_none, reduceIte, sl0, sl1, sl2, sl3, sl4, sl5, sl6, sl7, sl8, sl9, sl10, sl11, sl12, sl13, sl14, sl15, sl16, sl17, Bool.true_and, Bool.and_true, Bool.not_true, Bool.not_false, Nat.reduceAdd, Nat.reduceSub, Nat.zero_add, Bool.false_eq_true, decide_true, decide_false, List.length_append, Int.cast_ofNat_Int, Int.natCast_one, Int.natCast_zero, Int.reduceEq, Int.reduceLT, Int.reduceLE, Int.reduceAdd, Int.reduceMul, Int.reduceSub, Int.reduceNeg, ne_eq, not_true_eq_false, not_false_eq_true, m1]
  have h2 : (sIf (mB (mBin eqS (mN 5) (mC (.int 0)))) (sRet (mTup [(mC (.str "quiet")), (mTup [(mCall Φ 36 [(mN 0), (mBin addS (mBin mulS (mC (.int 5)) (mN 1)) (mC (.int 1))), (mN 2), (mN 3), (mBin subS (mN 4) (mC (.int 1)))])])])) sNil) [.val (.scr ns), .val (.int at_), .val (.lst (ws.map .str)), .val (bookD rs), .val (.int ((L + 1 : Nat) : Int)), .val (.int q), .un, .un, .un, .un, .un] = .nx [.val (.scr ns), .val (.int at_), .val (.lst (ws.map .str)), .val (bookD rs), .val (.int ((L + 1 : Nat) : Int)), .val (.int q), .un, .un, .un, .un, .un] := by simp only [runF, fr0, ioOf, mvM, mC, mN, mBin, mUn, mB, mAndT, mOrT, mNotT, mAndV, mOrV, mNotV, mHs, mDs, mTup, mLst, pks, mPrim, sSeq, sNil, oS, sPass, sExpr, sRet, sIf, setVq, nl_un, nl_val, nl_own, putH, sAsg, tN, tNil, tCons, tT, sAsgT, mCall, pk, mv, RD.hd, Out.bind, mTrue, mCh, mMt, mSl, mO0, mO1, mLM, mLM.isOwnL, isOwn, mComp, mCompN, lockF, unlk, sFor, sForN, unlS, mIL, mIT, mIS, mIR1, mIR2, wipeF, restF, vsOkq, sRaise, sTry, mDnew, List.getElem?_cons_zero, List.getElem?_cons_succ, List.set_cons_zero, List.set_cons_succ, List.length_cons, List.length_nil, List.map_cons, List.map_nil, List.replicate_succ, List.replicate_zero, List.cons_append, List.nil_append, List.all_cons, List.all_nil, Option.map_some, Option.map_none, reduceIte, sl0, sl1, sl2, sl3, sl4, sl5, sl6, sl7, sl8, sl9, sl10, sl11, sl12, sl13, sl14, sl15, sl16, sl17, Bool.true_and, Bool.and_true, Bool.not_true, Bool.not_false, Nat.reduceAdd, Nat.reduceSub, Nat.zero_add, Bool.false_eq_true, decide_true, decide_false, List.length_append, Int.cast_ofNat_Int, Int.natCast_one, Int.natCast_zero, Int.reduceEq, Int.reduceLT, Int.reduceLE, Int.reduceAdd, Int.reduceMul, Int.reduceSub, Int.reduceNeg, ne_eq, not_true_eq_false, not_false_eq_true, e0]
  have h3 : (sIf (mAndT (mB (mBin ltS (mN 5) (mC (.int 6)))) (mB (mBin neS (mN 3) (mTup [])))) (sSeq (sAsg 8 (mPrim maxS [(mC (.int 1)), (mBin subS (mN 4) (mC (.int 2)))]))
    (sSeq (sAsg 9 mDnew)
    (sSeq (sFor (mIR1 (mC (.int 2))) (tN 10) (b__law_tree_l1 Φ))
    (sRet (mCall Φ 35 [(mBin ixS (mBin ixS (mN 3) (mCall Φ 11 [(mN 0), (mBin addS (mN 1) (mC (.int 1))), (mPrim lenS [(mN 3)])])) (mC (.int 1))), (mN 9)]))))) sNil) [.val (.scr ns), .val (.int at_), .val (.lst (ws.map .str)), .val (bookD rs), .val (.int ((L + 1 : Nat) : Int)), .val (.int q), .un, .un, .un, .un, .un] = .nx [.val (.scr ns), .val (.int at_), .val (.lst (ws.map .str)), .val (bookD rs), .val (.int ((L + 1 : Nat) : Int)), .val (.int q), .un, .un, .un, .un, .un] := ifnot tst
  have h4 : (sAsg 6 (mBin ixS (mLst [(mC (.int 0)), (mC (.int 1)), (mC (.int 2)), (mC (.int 2)), (mBin ixS (mLst [(mC (.int 1)), (mC (.int 4))]) (mPrim intS [(mBin eqS (mN 4) (mC (.int 2)))])), (mC (.int 3))]) (mCall Φ 11 [(mN 0), (mBin addS (mN 1) (mC (.int 2))), (mC (.int 6))]))) [.val (.scr ns), .val (.int at_), .val (.lst (ws.map .str)), .val (bookD rs), .val (.int ((L + 1 : Nat) : Int)), .val (.int q), .un, .un, .un, .un, .un] = .nx [.val (.scr ns), .val (.int at_), .val (.lst (ws.map .str)), .val (bookD rs), .val (.int ((L + 1 : Nat) : Int)), .val (.int q), .val (.int (n : Nat)), .un, .un, .un, .un] := by simp only [runF, fr0, ioOf, mvM, mC, mN, mBin, mUn, mB, mAndT, mOrT, mNotT, mAndV, mOrV, mNotV, mHs, mDs, mTup, mLst, pks, mPrim, sSeq, sNil, oS, sPass, sExpr, sRet, sIf, setVq, nl_un, nl_val, nl_own, putH, sAsg, tN, tNil, tCons, tT, sAsgT, mCall, pk, mv, RD.hd, Out.bind, mTrue, mCh, mMt, mSl, mO0, mO1, mLM, mLM.isOwnL, isOwn, mComp, mCompN, lockF, unlk, sFor, sForN, unlS, mIL, mIT, mIS, mIR1, mIR2, wipeF, restF, vsOkq, sRaise, sTry, mDnew, List.getElem?_cons_zero, List.getElem?_cons_succ, List.set_cons_zero, List.set_cons_succ, List.length_cons, List.length_nil, List.map_cons, List.map_nil, List.replicate_succ, List.replicate_zero, List.cons_append, List.nil_append, List.all_cons, List.all_nil, Option.map_some, Option.map_none, reduceIte, sl0, sl1, sl2, sl3, sl4, sl5, sl6, sl7, sl8, sl9, sl10, sl11, sl12, sl13, sl14, sl15, sl16, sl17, Bool.true_and, Bool.and_true, Bool.not_true, Bool.not_false, Nat.reduceAdd, Nat.reduceSub, Nat.zero_add, Bool.false_eq_true, decide_true, decide_false, List.length_append, Int.cast_ofNat_Int, Int.natCast_one, Int.natCast_zero, Int.reduceEq, Int.reduceLT, Int.reduceLE, Int.reduceAdd, Int.reduceMul, Int.reduceSub, Int.reduceNeg, ne_eq, not_true_eq_false, not_false_eq_true, e2, intS, ec, m2, addS, en]
  have h5 : (sAsg 7 (mComp (mIR1 (mN 6)) [10] (tN 10) mTrue (b__law_tree_e1 Φ))) [.val (.scr ns), .val (.int at_), .val (.lst (ws.map .str)), .val (bookD rs), .val (.int ((L + 1 : Nat) : Int)), .val (.int q), .val (.int (n : Nat)), .un, .un, .un, .un] = .nx [.val (.scr ns), .val (.int at_), .val (.lst (ws.map .str)), .val (bookD rs), .val (.int ((L + 1 : Nat) : Int)), .val (.int q), .val (.int (n : Nat)), .ow false (.lst ((List.range n).map fun j => (f j).d)), .un, .un, .un] := asg_f hcc rfl
  have h6 : (sRet (mTup [(mBin ixS (mN 2) (mCall Φ 11 [(mN 0), (mBin addS (mN 1) (mC (.int 3))), (mC (.int 4))])), (mPrim tupleS [(mN 7)])])) [.val (.scr ns), .val (.int at_), .val (.lst (ws.map .str)), .val (bookD rs), .val (.int ((L + 1 : Nat) : Int)), .val (.int q), .val (.int (n : Nat)), .ow false (.lst ((List.range n).map fun j => (f j).d)), .un, .un, .un] = .rt (.tup [.str w, .tup ((List.range n).map fun j => (f j).d)]) [.val (.scr ns), .val (.int at_), .val (.lst (ws.map .str)), .val (bookD rs), .val (.int ((L + 1 : Nat) : Int)), .val (.int q), .val (.int (n : Nat)), .ow false (.lst ((List.range n).map fun j => (f j).d)), .un, .un, .un] := by simp only [runF, fr0, ioOf, mvM, mC, mN, mBin, mUn, mB, mAndT, mOrT, mNotT, mAndV, mOrV, mNotV, mHs, mDs, mTup, mLst, pks, mPrim, sSeq, sNil, oS, sPass, sExpr, sRet, sIf, setVq, nl_un, nl_val, nl_own, putH, sAsg, tN, tNil, tCons, tT, sAsgT, mCall, pk, mv, RD.hd, Out.bind, mTrue, mCh, mMt, mSl, mO0, mO1, mLM, mLM.isOwnL, isOwn, mComp, mCompN, lockF, unlk, sFor, sForN, unlS, mIL, mIT, mIS, mIR1, mIR2, wipeF, restF, vsOkq, sRaise, sTry, mDnew, List.getElem?_cons_zero, List.getElem?_cons_succ, List.set_cons_zero, List.set_cons_succ, List.length_cons, List.length_nil, List.map_cons, List.map_nil, List.replicate_succ, List.replicate_zero, List.cons_append, List.nil_append, List.all_cons, List.all_nil, Option.map_some, Option.map_none, reduceIte, sl0, sl1, sl2, sl3, sl4, sl5, sl6, sl7, sl8, sl9, sl10, sl11, sl12, sl13, sl14, sl15, sl16, sl17, Bool.true_and, Bool.and_true, Bool.not_true, Bool.not_false, Nat.reduceAdd, Nat.reduceSub, Nat.zero_add, Bool.false_eq_true, decide_true, decide_false, List.length_append, Int.cast_ofNat_Int, Int.natCast_one, Int.natCast_zero, Int.reduceEq, Int.reduceLT, Int.reduceLE, Int.reduceAdd, Int.reduceMul, Int.reduceSub, Int.reduceNeg, ne_eq, not_true_eq_false, not_false_eq_true, m3, addS, ew, tupleS]
  rw [ed]
  have hb : b__law_tree Φ [.val (.scr ns), .val (.int at_), .val (.lst (ws.map .str)), .val (bookD rs), .val (.int ((L + 1 : Nat) : Int)), .un, .un, .un, .un, .un, .un] = .rt (.tup [.str w, .tup ((List.range n).map fun j => (f j).d)]) [.val (.scr ns), .val (.int at_), .val (.lst (ws.map .str)), .val (bookD rs), .val (.int ((L + 1 : Nat) : Int)), .val (.int q), .val (.int (n : Nat)), .ow false (.lst ((List.range n).map fun j => (f j).d)), .un, .un, .un] := by
    unfold b__law_tree
    rw [sSeq_nx h0, sSeq_nx h1, sSeq_nx h2, sSeq_nx h3, sSeq_nx h4, sSeq_nx h5, h6]
  exact run_ok (c := c__law_tree) rfl rfl rfl hb
theorem drawT_step {Pg : Nat → CF} (H : HasT Pg) {ns : List Int} {ws : List Str} (F : Four ws) {rs : List Ru} (g : BookOk rs) {L : Nat} (hL : 1 ≤ L) (hL4 : L ≤ 3) (d1 : DrawT Pg ns ws rs L) (d0 : DrawT Pg ns ws rs (max 1 (L - 1))) : DrawT Pg ns ws rs (L + 1) := fun at_ h0 => by
  have mx := fun (j m : Int) (hj : 0 ≤ j) (hm : 0 < m) => ev_mixed H.toHasB (ns := ns) hj hm
  have k0 := mixF_lo (ns := ns) (k := at_) (many := 12) (by decide)
  have k1 := mixF_hi (ns := ns) (k := at_) (many := 12) (by decide)
  have neq1 : eqS (.int ((L + 1 : Nat) : Int)) (.int 1) = some (.v (.bl false)) := by rw [eqS_int, decide_eq_false (by omega)]
  have s5 : ∀ x, (smallI 5 || smallI x) = true := fun x => by rw [show smallI 5 = true by decide, Bool.true_or]
  have sb1 : subS (.int ((L + 1 : Nat) : Int)) (.int 1) = some (.v (.int (L : Nat))) := by simp only [subS]; rw [show ((L + 1 : Nat) : Int) - 1 = (L : Nat) by omega]
  by_cases q0 : mixF ns at_ 12 = 0
  · obtain ⟨t, t1, t2, t3⟩ := d1 (5 * at_ + 1) (by omega)
    refine ⟨.n qt [t], ⟨by refine ⟨by decide, by decide, ?_⟩; decide +kernel, by simp, .inr rfl, t1, trivial⟩, ?_, ev_of H.e36 (m := L + 10) fun k hk => ?_⟩
    · have : L = 1 ∨ L = 2 ∨ L = 3 := by omega
      simp only [T.sz, T.szs]
      rcases this with rfl | rfl | rfl <;> simp only [szB] at t2 ⊢ <;> omega
    · exact dt_q hL (mx at_ 12 h0 (by decide) k (by omega)) q0 (t3 k (by omega))
  · by_cases q1 : mixF ns at_ 12 < 6 ∧ rs ≠ []
    · -- a pattern filled
      obtain ⟨t0, a1, a2, a3⟩ := d0 (5 * at_ + 2 + 0) (by omega)
      obtain ⟨t1, b1, b2, b3⟩ := d0 (5 * at_ + 2 + 1) (by omega)
      have hlen : 0 < rs.length := List.length_pos_iff.2 q1.2
      have hlI : (0 : Int) < (rs.length : Nat) := by omega
      obtain ⟨r, hr, er⟩ := rs_ix (mixF_lo (ns := ns) (k := at_ + 1) hlI) (mixF_hi (ns := ns) (k := at_ + 1) hlI)
      have rg := g.good r hr
      let σ : Int → T := fun i => if i = 0 then t0 else t1
      have σt : ∀ i, (σ i).tree := fun i => by show (if i = 0 then t0 else t1).tree; split <;> assumption
      have σz : ∀ i, (σ i).sz ≤ szB (max 1 (L - 1)) := fun i => by show (if i = 0 then t0 else t1).sz ≤ _; split <;> assumption
      refine ⟨T.sub σ r.p, sub_tree σt r.p rg.p, ?_, ev_of H.e36 (m := L + 10) fun k hk => ?_⟩
      · have s := sub_sz σz r.p
        have z := sz_eq r.p
        have z6 := rg.p6
        obtain ⟨w, ps, ep⟩ := rg.nd
        have c1 : 1 ≤ r.p.cnt := by rw [ep]; simp only [T.cnt]; omega
        have : L = 1 ∨ L = 2 ∨ L = 3 := by omega
        rcases this with rfl | rfl | rfl
        · simp only [szB, show max 1 (1 - 1) = 1 by decide] at s ⊢; omega
        · simp only [szB, show max 1 (2 - 1) = 1 by decide] at s ⊢; omega
        · simp only [szB, show max 1 (3 - 1) = 2 by decide] at s ⊢; omega
      · refine dt_p hL rfl g (mx at_ 12 h0 (by decide) k (by omega)) q0 q1.1 q1.2 (mx (at_ + 1) (rs.length : Nat) (by omega) hlI k (by omega)) er (a3 k (by omega)) (b3 k (by omega)) ?_
        exact ev_filled_law H.e35 (ks := [.inl 0, .inl 1]) (ds := [t0.d, t1.d]) (σ := σ) 6 r.p (Nat.le_trans (T.dep_sz _) rg.p6) (by have := rg.p6; omega) (fun i hi => by
          have h2 := holes_good r.p rg.p i hi
          have : i = 0 ∨ i = 1 := by omega
          rcases this with rfl | rfl
          · rfl
          · rfl) k (by omega)
    · -- drawn parts
      have md := mx (at_ + 2) 6 (by omega) (by decide)
      have nt : ∃ c, (c = 1 ∨ c = 4) ∧ (c = 4 → L = 1) ∧ ∀ i : Bool, i = decide (((L + 1 : Nat) : Int) = 2) → ixS (.lst [.int 1, .int 4]) (.int (if i = true then 1 else 0)) = some (.v (.int c)) := by
        by_cases h : L = 1
        · refine ⟨4, .inr rfl, fun _ => h, fun i hi => ?_⟩
          rw [hi, decide_eq_true (by omega)]; rfl
        · refine ⟨1, .inl rfl, fun z => (by cases z), fun i hi => ?_⟩
          rw [hi, decide_eq_false (by omega)]; rfl
      obtain ⟨c, hc, hc4, ec⟩ := nt
      obtain ⟨n, hn, en⟩ := six_ix2 (mixF_lo (ns := ns) (k := at_ + 2) (many := 6) (by decide)) (mixF_hi (by decide)) c hc
      have n4 : n ≤ 4 := by omega
      obtain ⟨w, hw, ew⟩ := ws_ix2 F (mixF_lo (ns := ns) (k := at_ + 3) (many := 4) (by decide)) (mixF_hi (by decide))
      have each : ∀ j : Nat, ∃ t : T, t.tree ∧ t.sz ≤ szB L ∧ Ev Pg (L + 10) 36 [.scr ns, .int (5 * at_ + 1 + (0 + (j : Nat))), .lst (ws.map .str), bookD rs, .int (L : Nat)] (.ok t.d .non) := fun j => d1 _ (by omega)
      obtain ⟨f, hf⟩ := Classical.axiomOfChoice each
      refine ⟨.n w ((List.range n).map f), ⟨hw.1, by simp only [List.length_map, List.length_range]; exact n4, .inl hw.2, T.trees_mem.2 fun t ht => ?_⟩, ?_, ev_of H.e36 (m := L + 10) fun k hk => ?_⟩
      · obtain ⟨j, _, rfl⟩ := List.mem_map.1 ht; exact (hf j).1
      · have s := szs_le (m := szB L) (l := (List.range n).map f) fun t ht => by obtain ⟨j, _, rfl⟩ := List.mem_map.1 ht; exact (hf j).2.1
        simp only [List.length_map, List.length_range] at s
        simp only [T.sz]
        have : L = 1 ∨ L = 2 ∨ L = 3 := by omega
        rcases this with rfl | rfl | rfl
        · simp only [szB] at s ⊢; omega
        · have n3 : n ≤ 3 := by rcases hn with h | ⟨_, h⟩; exact h; exact absurd (hc4 h) (by decide)
          simp only [szB] at s ⊢; omega
        · have n3 : n ≤ 3 := by rcases hn with h | ⟨_, h⟩; exact h; exact absurd (hc4 h) (by decide)
          simp only [szB] at s ⊢; omega
      · exact dt_w hL n4 g (mx at_ 12 h0 (by decide) k (by omega)) q0 q1 (md k (by omega)) (mx (at_ + 3) 4 (by omega) (by decide) k (by omega)) (ec _ rfl) en ew fun j => (hf j).2.2 k (by omega)
theorem ev_law_tree {Pg : Nat → CF} (H : HasT Pg) {ns : List Int} {ws : List Str} (F : Four ws) {rs : List Ru} (g : BookOk rs) : DrawT Pg ns ws rs 1 ∧ DrawT Pg ns ws rs 2 ∧ DrawT Pg ns ws rs 3 ∧ DrawT Pg ns ws rs 4 := by
  have h1 : DrawT Pg ns ws rs 1 := drawT1 H F
  have h2 : DrawT Pg ns ws rs 2 := drawT_step H F g (L := 1) (by decide) (by decide) h1 h1
  have h3 : DrawT Pg ns ws rs 3 := drawT_step H F g (L := 2) (by decide) (by decide) h2 h1
  exact ⟨h1, h2, h3, drawT_step H F g (L := 3) (by decide) (by decide) h3 h2⟩
end Z

/-! plain Lean: places, parts, patterns that fit, findings -/
namespace Z
open PySem PySem.Spec PyProof.Rows L2
def pD (p : List Nat) : D := .tup (p.map fun i => .int (i : Nat))
mutual
def T.plc (loud : Bool) : T → List Nat → List (List Nat)
  | .h _, p => [p]
  | .n w ps, p => if loud = true ∧ w = qt then [] else p :: T.plcs loud ps p 0
def T.plcs (loud : Bool) : List T → List Nat → Nat → List (List Nat)
  | [], _, _ => []
  | t :: ts, p, k => T.plc loud t (p ++ [k]) ++ T.plcs loud ts p (k + 1)
end
mutual
theorem T.plc_len (loud : Bool) : ∀ (t : T) (p : List Nat), (T.plc loud t p).length ≤ t.sz
  | .h _, p => by simp [T.plc, T.sz]
  | .n w ps, p => by
    have := T.plcs_len loud ps p 0
    simp only [T.plc, T.sz]
    split
    · simp
    · simp only [List.length_cons]; omega
theorem T.plcs_len (loud : Bool) : ∀ (l : List T) (p : List Nat) (k : Nat), (T.plcs loud l p k).length ≤ T.szs l
  | [], _, _ => Nat.le_refl 0
  | t :: ts, p, k => by
    have a := T.plc_len loud t (p ++ [k])
    have b := T.plcs_len loud ts p (k + 1)
    simp only [T.plcs, T.szs, List.length_append]; omega
end
def T.at : T → List Nat → Option T
  | t, [] => some t
  | .h _, _ :: _ => none
  | .n _ ps, i :: p => match ps[i]? with
    | some s => T.at s p
    | none => none
theorem ev_is_node {Pg : Nat → CF} (H : HasT Pg) {w : Str} {ps : List T} (h : (T.n w ps).tree) : Ev Pg 2 24 [(T.n w ps).d] (.ok (.bl true) .non) :=
  ev_of H.e24 (m := 1) fun k hk => r_is_node (fun s hs => by
    obtain ⟨j, rfl⟩ : ∃ j, k = j + 1 := ⟨k - 1, by omega⟩
    exact (l_php H.toHasB).w s hs) h
theorem ev_is_tree {Pg : Nat → CF} (H : HasT Pg) {t : T} (ht : t.tree) (h60 : t.sz ≤ 60) : Ev Pg 3 25 [t.d] (.ok (.bl true) .non) :=
  ev_of H.e25 (m := 2) fun k hk => r_is_tree (fun w ps hw => ev_is_node H hw k hk) ht h60
theorem ev_need_tree {Pg : Nat → CF} (H : HasT Pg) {t : T} (ht : t.tree) (h60 : t.sz ≤ 60) : Ev Pg 4 26 [t.d] (.ok .non .non) :=
  ev_of H.e26 (m := 3) fun k hk => by
    have := ev_is_tree H ht h60 k hk
    simp only [c_need_tree, b_need_tree, runF, fr0, ioOf, mvM, mC, mN, mBin, mUn, mB, mAndT, mOrT, mNotT, mAndV, mOrV, mNotV, mHs, mDs, mTup, mLst, pks, mPrim, sSeq, sNil, oS, sPass, sExpr, sRet, sIf, setVq, nl_un, nl_val, nl_own, putH, sAsg, tN, tNil, tCons, tT, sAsgT, mCall, pk, mv, RD.hd, Out.bind, mTrue, mCh, mMt, mSl, mO0, mO1, mLM, mLM.isOwnL, isOwn, mComp, mCompN, lockF, unlk, sFor, sForN, unlS, mIL, mIT, mIS, mIR1, mIR2, wipeF, restF, vsOkq, sRaise, sTry, mDnew, List.getElem?_cons_zero, List.getElem?_cons_succ, List.set_cons_zero, List.set_cons_succ, List.length_cons, List.length_nil, List.map_cons, List.map_nil, List.replicate_succ, List.replicate_zero, List.cons_append, List.nil_append, List.all_cons, List.all_nil, Option.map_some, Option.map_none, reduceIte, sl0, sl1, sl2, sl3, sl4, sl5, sl6, sl7, sl8, sl9, sl10, sl11, sl12, sl13, sl14, sl15, sl16, sl17, Bool.true_and, Bool.and_true, Bool.not_true, Bool.not_false, Nat.reduceAdd, Nat.reduceSub, Nat.zero_add, Bool.false_eq_true, decide_true, decide_false, List.length_append, Int.cast_ofNat_Int, Int.natCast_one, Int.natCast_zero, Int.reduceEq, Int.reduceLT, Int.reduceLE, Int.reduceAdd, Int.reduceMul, Int.reduceSub, Int.reduceNeg, ne_eq, not_true_eq_false, not_false_eq_true, this]
theorem ev_need_book {Pg : Nat → CF} (H : HasT Pg) {rs : List Ru} (g : BookOk rs) : Ev Pg 10 8 [bookD rs] (.ok .non .non) := fun k hk => by
  obtain ⟨j, rfl⟩ : ∃ j, k = j + 10 := ⟨k - 10, by omega⟩
  exact l_need H.toHasB g
/-! ### the drawn case -/
structure Case (Pg : Nat → CF) (ns : List Int) (L : Nat) (ws : List Str) (rs : List Ru) (t : T) : Prop where
  f : Four ws
  g : BookOk rs
  tr : t.tree
  sz : t.sz ≤ szB L
theorem law_case {Pg : Nat → CF} (H : HasT Pg) (ns : List Int) {most L : Nat} (hm : most ≤ 4) (h1 : 1 ≤ L) (h4 : L ≤ 4) (k : Nat) (hk : 20 ≤ k) : ∃ ws rs t, Case Pg ns L ws rs t ∧ call Pg k 37 [.scr ns, .int (most : Nat), .int (L : Nat)] = .ok (.tup [.lst (ws.map .str), bookD rs, t.d]) .non := by
  obtain ⟨j, rfl⟩ : ∃ j, k = j + 11 := ⟨k - 11, by omega⟩
  obtain ⟨ws, F, ew⟩ := l_words H.toHasB ns (k := j + 6) (j := 20) (by decide)
  obtain ⟨rs, g, eb⟩ := l_draw_book H.toHasB ns (k := j) (j := 100) (by decide) F hm
  obtain ⟨d1, d2, d3, d4⟩ := ev_law_tree H (ns := ns) F g
  have dr : DrawT Pg ns ws rs L := by
    have : L = 1 ∨ L = 2 ∨ L = 3 ∨ L = 4 := by omega
    rcases this with rfl | rfl | rfl | rfl <;> assumption
  obtain ⟨t, t1, t2, t3⟩ := dr 30 (by decide)
  refine ⟨ws, rs, t, ⟨F, g, t1, t2⟩, call_of H.e37 ?_⟩
  have et := t3 (j + 10) (by omega)
  have ew : call Pg (j + 10) 13 [.scr ns, .int 20] = .ok (.lst (ws.map .str)) .non := ew
  simp only [c__law_case, b__law_case, runF, fr0, ioOf, mvM, mC, mN, mBin, mUn, mB, mAndT, mOrT, mNotT, mAndV, mOrV, mNotV, mHs, mDs, mTup, mLst, pks, mPrim, sSeq, sNil, oS, sPass, sExpr, sRet, sIf, setVq, nl_un, nl_val, nl_own, putH, sAsg, tN, tNil, tCons, tT, sAsgT, mCall, pk, mv, RD.hd, Out.bind, mTrue, mCh, mMt, mSl, mO0, mO1, mLM, mLM.isOwnL, isOwn, mComp, mCompN, lockF, unlk, sFor, sForN, unlS, mIL, mIT, mIS, mIR1, mIR2, wipeF, restF, vsOkq, sRaise, sTry, mDnew, List.getElem?_cons_zero, List.getElem?_cons_succ, List.set_cons_zero, List.set_cons_succ, List.length_cons, List.length_nil, List.map_cons, List.map_nil, List.replicate_succ, List.replicate_zero, List.cons_append, List.nil_append, List.all_cons, List.all_nil, Option.map_some, Option.map_none, reduceIte, sl0, sl1, sl2, sl3, sl4, sl5, sl6, sl7, sl8, sl9, sl10, sl11, sl12, sl13, sl14, sl15, sl16, sl17, Bool.true_and, Bool.and_true, Bool.not_true, Bool.not_false, Nat.reduceAdd, Nat.reduceSub, Nat.zero_add, Bool.false_eq_true, decide_true, decide_false, List.length_append, Int.cast_ofNat_Int, Int.natCast_one, Int.natCast_zero, Int.reduceEq, Int.reduceLT, Int.reduceLE, Int.reduceAdd, Int.reduceMul, Int.reduceSub, Int.reduceNeg, ne_eq, not_true_eq_false, not_false_eq_true, ew, eb, et]
end Z

/-! plain Lean: places, parts, patterns that fit, findings -/
namespace Z
open PySem PySem.Spec PyProof.Rows L2
structure HasF (Pg : Nat → CF) : Prop extends HasT Pg where
  e27 : Pg 27 = c_found_at
  e28 : Pg 28 = c_places_from
  e29 : Pg 29 = c_fits
  e30 : Pg 30 = c_filled
  e31 : Pg 31 = c_mended
  e32 : Pg 32 = c_findings_at
  e33 : Pg 33 = c_all_findings
  e34 : Pg 34 = c_findings
/-! ### places_from -/
def enF (ps : List T) (k : Nat) : List D := (ps.zipIdx k).map fun x => pairD (.int (x.2 : Nat)) x.1.d
theorem enumD_zip (ps : List T) : enumD (T.ds ps) = enF ps 0 := by
  refine List.ext_getElem? fun i => ?_
  rw [enumD_get, enF, List.getElem?_map, List.getElem?_zipIdx, T.ds_map, List.getElem?_map, Option.map_map, Option.map_map]
  simp [Function.comp_def]
theorem enF_cons (t : T) (ts : List T) (k : Nat) : enF (t :: ts) k = pairD (.int (k : Nat)) t.d :: enF ts (k + 1) := by simp [enF]
theorem pD_app (p : List Nat) (k : Nat) : pD (p ++ [k]) = .tup ((p.map fun i => D.int (i : Nat)) ++ [.int (k : Nat)]) := by simp [pD]
theorem pf_loop {Φ : Phi} {loud : Bool} {x : D} {p : List Nat} (hp : p.length < 200) : ∀ (ps : List T) (k : Nat) (acc : List D) (s4 s5 : SV), nl s4 = true → nl s5 = true → (∀ (j : Nat) t, ps[j]? = some t → Φ 28 [t.d, pD (p ++ [k + j]), .bl loud] = .ok (.lst ((T.plc loud t (p ++ [k + j])).map pD)) .non) → acc.length + T.szs ps ≤ 64 →
    ∃ s4' s5', forL (tT 2 (tCons (tN 4) (tCons (tN 5) tNil))) (b_places_from_l1 Φ) (enF ps k) [.val x, .val (pD p), .val (.bl loud), .ow false (.lst acc), s4, s5] = .nx [.val x, .val (pD p), .val (.bl loud), .ow false (.lst (acc ++ (T.plcs loud ps p k).map pD)), s4', s5']
  | [], k, acc, s4, s5, _, _, _, _ => ⟨s4, s5, by simp [enF, forL, T.plcs]⟩
  | t :: ts, k, acc, s4, s5, h4, h5, hΦ, hl => by
    simp only [T.szs] at hl
    have h0 := hΦ 0 t rfl
    simp only [Nat.add_zero] at h0
    have pl := T.plc_len loud t (p ++ [k])
    have e : acc.length + ((T.plc loud t (p ++ [k])).map pD).length ≤ sizeLine := sl64 (by rw [List.length_map]; omega)
    obtain ⟨s4', s5', ih⟩ := pf_loop hp ts (k + 1) (acc ++ (T.plc loud t (p ++ [k])).map pD) (.val (.int (k : Nat))) (.val t.d) rfl rfl (fun j u hu => by have := hΦ (j + 1) u hu; rw [show k + (j + 1) = k + 1 + j by omega] at this; exact this) (by rw [List.length_append, List.length_map]; omega)
    refine ⟨s4', s5', ?_⟩
    rw [enF_cons, forL_step (A1 := [.val x, .val (pD p), .val (.bl loud), .ow false (.lst acc), .val (.int (k : Nat)), .val t.d]) (A2 := [.val x, .val (pD p), .val (.bl loud), .ow false (.lst (acc ++ (T.plc loud t (p ++ [k])).map pD)), .val (.int (k : Nat)), .val t.d]) ?_ ?_, ih, T.plcs, List.map_append, List.append_assoc]
    · simp only [pairD, runF, fr0, ioOf, mvM, mC, mN, mBin, mUn, mB, mAndT, mOrT, mNotT, mAndV, mOrV, mNotV, mHs, mDs, mTup, mLst, pks, mPrim, sSeq, sNil, oS, sPass, sExpr, sRet, sIf, setVq, nl_un, nl_val, nl_own, putH, sAsg, tN, tNil, tCons, tT, sAsgT, mCall, pk, mv, RD.hd, Out.bind, mTrue, mCh, mMt, mSl, mO0, mO1, mLM, mLM.isOwnL, isOwn, mComp, mCompN, lockF, unlk, sFor, sForN, unlS, mIL, mIT, mIS, mIR1, mIR2, wipeF, restF, vsOkq, sRaise, sTry, mDnew, List.getElem?_cons_zero, List.getElem?_cons_succ, List.set_cons_zero, List.set_cons_succ, List.length_cons, List.length_nil, List.map_cons, List.map_nil, List.replicate_succ, List.replicate_zero, List.cons_append, List.nil_append, List.all_cons, List.all_nil, Option.map_some, Option.map_none, reduceIte, sl0, sl1, sl2, sl3, sl4, sl5, sl6, sl7, sl8, sl9, sl10, sl11, sl12, sl13, sl14, sl15, sl16, sl17, Bool.true_and, Bool.and_true, Bool.not_true, Bool.not_false, Nat.reduceAdd, Nat.reduceSub, Nat.zero_add, Bool.false_eq_true, decide_true, decide_false, List.length_append, Int.cast_ofNat_Int, Int.natCast_one, Int.natCast_zero, Int.reduceEq, Int.reduceLT, Int.reduceLE, Int.reduceAdd, Int.reduceMul, Int.reduceSub, Int.reduceNeg, ne_eq, not_true_eq_false, not_false_eq_true, h4, h5]
    · have hs : (p.map fun i => D.int (i : Nat)).length + 1 ≤ sizeLine := Nat.le_trans (show _ ≤ 200 by rw [List.length_map]; omega) (by decide)
      rw [pD_app] at h0
      simp only [pD, b_places_from_l1, runF, fr0, ioOf, mvM, mC, mN, mBin, mUn, mB, mAndT, mOrT, mNotT, mAndV, mOrV, mNotV, mHs, mDs, mTup, mLst, pks, mPrim, sSeq, sNil, oS, sPass, sExpr, sRet, sIf, setVq, nl_un, nl_val, nl_own, putH, sAsg, tN, tNil, tCons, tT, sAsgT, mCall, pk, mv, RD.hd, Out.bind, mTrue, mCh, mMt, mSl, mO0, mO1, mLM, mLM.isOwnL, isOwn, mComp, mCompN, lockF, unlk, sFor, sForN, unlS, mIL, mIT, mIS, mIR1, mIR2, wipeF, restF, vsOkq, sRaise, sTry, mDnew, List.getElem?_cons_zero, List.getElem?_cons_succ, List.set_cons_zero, List.set_cons_succ, List.length_cons, List.length_nil, List.map_cons, List.map_nil, List.replicate_succ, List.replicate_zero, List.cons_append, List.nil_append, List.all_cons, List.all_nil, Option.map_some, Option.map_none, reduceIte, sl0, sl1, sl2, sl3, sl4, sl5, sl6, sl7, sl8, sl9, sl10, sl11, sl12, sl13, sl14, sl15, sl16, sl17, Bool.true_and, Bool.and_true, Bool.not_true, Bool.not_false, Nat.reduceAdd, Nat.reduceSub, Nat.zero_add, Bool.false_eq_true, decide_true, decide_false, List.length_append, Int.cast_ofNat_Int, Int.natCast_one, Int.natCast_zero, Int.reduceEq, Int.reduceLT, Int.reduceLE, Int.reduceAdd, Int.reduceMul, Int.reduceSub, Int.reduceNeg, ne_eq, not_true_eq_false, not_false_eq_true, addS, hs, h0, lmExtend, e]
theorem mB_val {i : Nat} {A : Fr} {b : Bool} (hA : A[i]? = some (.val (.bl b))) : mB (mN i) A = .ok b A := by
  unfold mB mN; rw [hA]; simp only [Out.bind, pk, hA]
theorem r_places_from {Φ : Phi} {loud : Bool} {w : Str} {ps : List T} {p : List Nat} (hp : p.length < 200) (hz : (T.n w ps).sz ≤ 60) (hΦ : ∀ (j : Nat) t, ps[j]? = some t → Φ 28 [t.d, pD (p ++ [0 + j]), .bl loud] = .ok (.lst ((T.plc loud t (p ++ [0 + j])).map pD)) .non) :
    runF c_places_from Φ [(T.n w ps).d, pD p, .bl loud] = .ok (.lst ((T.plc loud (.n w ps) p).map pD)) .non := by
  have tst : mAndT (mB (mN 2)) (mB (mBin eqS (mBin ixS (mN 0) (mC (.int 0))) (mC (.str "quiet")))) [.val (T.n w ps).d, .val (pD p), .val (.bl loud), .un, .un, .un] = .ok (decide (loud = true ∧ w = qt)) [.val (T.n w ps).d, .val (pD p), .val (.bl loud), .un, .un, .un] := by
    cases loud with
    | false => simp only [runF, fr0, ioOf, mvM, mC, mN, mBin, mUn, mB, mAndT, mOrT, mNotT, mAndV, mOrV, mNotV, mHs, mDs, mTup, mLst, pks, mPrim, sSeq, sNil, oS, sPass, sExpr, sRet, sIf, setVq, nl_un, nl_val, nl_own, putH, sAsg, tN, tNil, tCons, tT, sAsgT, mCall, pk, mv, RD.hd, Out.bind, mTrue, mCh, mMt, mSl, mO0, mO1, mLM, mLM.isOwnL, isOwn, mComp, mCompN, lockF, unlk, sFor, sForN, unlS, mIL, mIT, mIS, mIR1, mIR2, wipeF, restF, vsOkq, sRaise, sTry, mDnew, List.getElem?_cons_zero, List.getElem?_cons_succ, List.set_cons_zero, List.set_cons_succ, List.length_cons, List.length_nil, List.map_cons, List.map_nil, List.replicate_succ, List.replicate_zero, List.cons_append, List.nil_append, List.all_cons, List.all_nil, Option.map_some, Option.map_none, reduceIte, sl0, sl1, sl2, sl3, sl4, sl5, sl6, sl7, sl8, sl9, sl10, sl11, sl12, sl13, sl14, sl15, sl16, sl17, Bool.true_and, Bool.and_true, Bool.not_true, Bool.not_false, Nat.reduceAdd, Nat.reduceSub, Nat.zero_add, Bool.false_eq_true, decide_true, decide_false, List.length_append, Int.cast_ofNat_Int, Int.natCast_one, Int.natCast_zero, Int.reduceEq, Int.reduceLT, Int.reduceLE, Int.reduceAdd, Int.reduceMul, Int.reduceSub, Int.reduceNeg, ne_eq, not_true_eq_false, not_false_eq_true, T.d]; simp
    | true => simp only [runF, fr0, ioOf, mvM, mC, mN, mBin, mUn, mB, mAndT, mOrT, mNotT, mAndV, mOrV, mNotV, mHs, mDs, mTup, mLst, pks, mPrim, sSeq, sNil, oS, sPass, sExpr, sRet, sIf, setVq, nl_un, nl_val, nl_own, putH, sAsg, tN, tNil, tCons, tT, sAsgT, mCall, pk, mv, RD.hd, Out.bind, mTrue, mCh, mMt, mSl, mO0, mO1, mLM, mLM.isOwnL, isOwn, mComp, mCompN, lockF, unlk, sFor, sForN, unlS, mIL, mIT, mIS, mIR1, mIR2, wipeF, restF, vsOkq, sRaise, sTry, mDnew, List.getElem?_cons_zero, List.getElem?_cons_succ, List.set_cons_zero, List.set_cons_succ, List.length_cons, List.length_nil, List.map_cons, List.map_nil, List.replicate_succ, List.replicate_zero, List.cons_append, List.nil_append, List.all_cons, List.all_nil, Option.map_some, Option.map_none, reduceIte, sl0, sl1, sl2, sl3, sl4, sl5, sl6, sl7, sl8, sl9, sl10, sl11, sl12, sl13, sl14, sl15, sl16, sl17, Bool.true_and, Bool.and_true, Bool.not_true, Bool.not_false, Nat.reduceAdd, Nat.reduceSub, Nat.zero_add, Bool.false_eq_true, decide_true, decide_false, List.length_append, Int.cast_ofNat_Int, Int.natCast_one, Int.natCast_zero, Int.reduceEq, Int.reduceLT, Int.reduceLE, Int.reduceAdd, Int.reduceMul, Int.reduceSub, Int.reduceNeg, ne_eq, not_true_eq_false, not_false_eq_true, T.d, ix2_0, eqS_str]; congr 1; simp [qt]
  by_cases q : loud = true ∧ w = qt
  · have h0 : sIf (mAndT (mB (mN 2)) (mB (mBin eqS (mBin ixS (mN 0) (mC (.int 0))) (mC (.str "quiet"))))) (sRet (mLst [])) sNil [.val (T.n w ps).d, .val (pD p), .val (.bl loud), .un, .un, .un] = .rt (.lst []) [.val (T.n w ps).d, .val (pD p), .val (.bl loud), .un, .un, .un] := by
      rw [ifyes (A1 := [.val (T.n w ps).d, .val (pD p), .val (.bl loud), .un, .un, .un]) (by rw [tst, decide_eq_true q])]
      simp only [runF, fr0, ioOf, mvM, mC, mN, mBin, mUn, mB, mAndT, mOrT, mNotT, mAndV, mOrV, mNotV, mHs, mDs, mTup, mLst, pks, mPrim, sSeq, sNil, oS, sPass, sExpr, sRet, sIf, setVq, nl_un, nl_val, nl_own, putH, sAsg, tN, tNil, tCons, tT, sAsgT, mCall, pk, mv, RD.hd, Out.bind, mTrue, mCh, mMt, mSl, mO0, mO1, mLM, mLM.isOwnL, isOwn, mComp, mCompN, lockF, unlk, sFor, sForN, unlS, mIL, mIT, mIS, mIR1, mIR2, wipeF, restF, vsOkq, sRaise, sTry, mDnew, List.getElem?_cons_zero, List.getElem?_cons_succ, List.set_cons_zero, List.set_cons_succ, List.length_cons, List.length_nil, List.map_cons, List.map_nil, List.replicate_succ, List.replicate_zero, List.cons_append, List.nil_append, List.all_cons, List.all_nil, Option.map_some, Option.map_none, reduceIte, sl0, sl1, sl2, sl3, sl4, sl5, sl6, sl7, sl8, sl9, sl10, sl11, sl12, sl13, sl14, sl15, sl16, sl17, Bool.true_and, Bool.and_true, Bool.not_true, Bool.not_false, Nat.reduceAdd, Nat.reduceSub, Nat.zero_add, Bool.false_eq_true, decide_true, decide_false, List.length_append, Int.cast_ofNat_Int, Int.natCast_one, Int.natCast_zero, Int.reduceEq, Int.reduceLT, Int.reduceLE, Int.reduceAdd, Int.reduceMul, Int.reduceSub, Int.reduceNeg, ne_eq, not_true_eq_false, not_false_eq_true]
    have hb : b_places_from Φ [.val (T.n w ps).d, .val (pD p), .val (.bl loud), .un, .un, .un] = .rt (.lst []) [.val (T.n w ps).d, .val (pD p), .val (.bl loud), .un, .un, .un] := by unfold b_places_from; exact sSeq_rt h0
    have e : (T.plc loud (.n w ps) p).map pD = [] := by simp only [T.plc, if_pos q, List.map_nil]
    rw [e]
    exact run_ok (c := c_places_from) rfl rfl rfl hb
  · obtain ⟨s4, s5, lp⟩ := pf_loop (x := (T.n w ps).d) hp ps 0 [pD p] .un .un rfl rfl hΦ (by simp only [T.sz] at hz; simp only [List.length_cons, List.length_nil]; omega)
    have h0 : sIf (mAndT (mB (mN 2)) (mB (mBin eqS (mBin ixS (mN 0) (mC (.int 0))) (mC (.str "quiet"))))) (sRet (mLst [])) sNil [.val (T.n w ps).d, .val (pD p), .val (.bl loud), .un, .un, .un] = .nx [.val (T.n w ps).d, .val (pD p), .val (.bl loud), .un, .un, .un] := ifnot (by rw [tst, decide_eq_false q])
    have h1 : sAsg 3 (mLst [(mN 1)]) [.val (T.n w ps).d, .val (pD p), .val (.bl loud), .un, .un, .un] = .nx [.val (T.n w ps).d, .val (pD p), .val (.bl loud), .ow false (.lst [pD p]), .un, .un] := by simp only [runF, fr0, ioOf, mvM, mC, mN, mBin, mUn, mB, mAndT, mOrT, mNotT, mAndV, mOrV, mNotV, mHs, mDs, mTup, mLst, pks, mPrim, sSeq, sNil, oS, sPass, sExpr, sRet, sIf, setVq, nl_un, nl_val, nl_own, putH, sAsg, tN, tNil, tCons, tT, sAsgT, mCall, pk, mv, RD.hd, Out.bind, mTrue, mCh, mMt, mSl, mO0, mO1, mLM, mLM.isOwnL, isOwn, mComp, mCompN, lockF, unlk, sFor, sForN, unlS, mIL, mIT, mIS, mIR1, mIR2, wipeF, restF, vsOkq, sRaise, sTry, mDnew, List.getElem?_cons_zero, List.getElem?_cons_succ, List.set_cons_zero, List.set_cons_succ, List.length_cons, List.length_nil, List.map_cons, List.map_nil, List.replicate_succ, List.replicate_zero, List.cons_append, List.nil_append, List.all_cons, List.all_nil, Option.map_some, Option.map_none, reduceIte, sl0, sl1, sl2, sl3, sl4, sl5, sl6, sl7, sl8, sl9, sl10, sl11, sl12, sl13, sl14, sl15, sl16, sl17, Bool.true_and, Bool.and_true, Bool.not_true, Bool.not_false, Nat.reduceAdd, Nat.reduceSub, Nat.zero_add, Bool.false_eq_true, decide_true, decide_false, List.length_append, Int.cast_ofNat_Int, Int.natCast_one, Int.natCast_zero, Int.reduceEq, Int.reduceLT, Int.reduceLE, Int.reduceAdd, Int.reduceMul, Int.reduceSub, Int.reduceNeg, ne_eq, not_true_eq_false, not_false_eq_true]
    have h2 : sFor (mIE (mBin ixS (mN 0) (mC (.int 1)))) (tT 2 (tCons (tN 4) (tCons (tN 5) tNil))) (b_places_from_l1 Φ) [.val (T.n w ps).d, .val (pD p), .val (.bl loud), .ow false (.lst [pD p]), .un, .un] = .nx [.val (T.n w ps).d, .val (pD p), .val (.bl loud), .ow false (.lst ([pD p] ++ (T.plcs loud ps p 0).map pD)), s4, s5] := by
      refine sFor_nx (A1 := [.val (T.n w ps).d, .val (pD p), .val (.bl loud), .ow false (.lst [pD p]), .un, .un]) (ds := enF ps 0) ?_ lp
      rw [← enumD_zip]
      simp only [mIE, runF, fr0, ioOf, mvM, mC, mN, mBin, mUn, mB, mAndT, mOrT, mNotT, mAndV, mOrV, mNotV, mHs, mDs, mTup, mLst, pks, mPrim, sSeq, sNil, oS, sPass, sExpr, sRet, sIf, setVq, nl_un, nl_val, nl_own, putH, sAsg, tN, tNil, tCons, tT, sAsgT, mCall, pk, mv, RD.hd, Out.bind, mTrue, mCh, mMt, mSl, mO0, mO1, mLM, mLM.isOwnL, isOwn, mComp, mCompN, lockF, unlk, sFor, sForN, unlS, mIL, mIT, mIS, mIR1, mIR2, wipeF, restF, vsOkq, sRaise, sTry, mDnew, List.getElem?_cons_zero, List.getElem?_cons_succ, List.set_cons_zero, List.set_cons_succ, List.length_cons, List.length_nil, List.map_cons, List.map_nil, List.replicate_succ, List.replicate_zero, List.cons_append, List.nil_append, List.all_cons, List.all_nil, Option.map_some, Option.map_none, reduceIte, sl0, sl1, sl2, sl3, sl4, sl5, sl6, sl7, sl8, sl9, sl10, sl11, sl12, sl13, sl14, sl15, sl16, sl17, Bool.true_and, Bool.and_true, Bool.not_true, Bool.not_false, Nat.reduceAdd, Nat.reduceSub, Nat.zero_add, Bool.false_eq_true, decide_true, decide_false, List.length_append, Int.cast_ofNat_Int, Int.natCast_one, Int.natCast_zero, Int.reduceEq, Int.reduceLT, Int.reduceLE, Int.reduceAdd, Int.reduceMul, Int.reduceSub, Int.reduceNeg, ne_eq, not_true_eq_false, not_false_eq_true, T.d, ix2_1]
    have h3 : sRet (mN 3) [.val (T.n w ps).d, .val (pD p), .val (.bl loud), .ow false (.lst ([pD p] ++ (T.plcs loud ps p 0).map pD)), s4, s5] = .rt (.lst ([pD p] ++ (T.plcs loud ps p 0).map pD)) [.val (T.n w ps).d, .val (pD p), .val (.bl loud), .val (.lst ([pD p] ++ (T.plcs loud ps p 0).map pD)), s4, s5] := by simp only [runF, fr0, ioOf, mvM, mC, mN, mBin, mUn, mB, mAndT, mOrT, mNotT, mAndV, mOrV, mNotV, mHs, mDs, mTup, mLst, pks, mPrim, sSeq, sNil, oS, sPass, sExpr, sRet, sIf, setVq, nl_un, nl_val, nl_own, putH, sAsg, tN, tNil, tCons, tT, sAsgT, mCall, pk, mv, RD.hd, Out.bind, mTrue, mCh, mMt, mSl, mO0, mO1, mLM, mLM.isOwnL, isOwn, mComp, mCompN, lockF, unlk, sFor, sForN, unlS, mIL, mIT, mIS, mIR1, mIR2, wipeF, restF, vsOkq, sRaise, sTry, mDnew, List.getElem?_cons_zero, List.getElem?_cons_succ, List.set_cons_zero, List.set_cons_succ, List.length_cons, List.length_nil, List.map_cons, List.map_nil, List.replicate_succ, List.replicate_zero, List.cons_append, List.nil_append, List.all_cons, List.all_nil, Option.map_some, Option.map_none, reduceIte, sl0, sl1, sl2, sl3, sl4, sl5, sl6, sl7, sl8, sl9, sl10, sl11, sl12, sl13, sl14, sl15, sl16, sl17, Bool.true_and, Bool.and_true, Bool.not_true, Bool.not_false, Nat.reduceAdd, Nat.reduceSub, Nat.zero_add, Bool.false_eq_true, decide_true, decide_false, List.length_append, Int.cast_ofNat_Int, Int.natCast_one, Int.natCast_zero, Int.reduceEq, Int.reduceLT, Int.reduceLE, Int.reduceAdd, Int.reduceMul, Int.reduceSub, Int.reduceNeg, ne_eq, not_true_eq_false, not_false_eq_true]
    have hb : b_places_from Φ [.val (T.n w ps).d, .val (pD p), .val (.bl loud), .un, .un, .un] = .rt (.lst ([pD p] ++ (T.plcs loud ps p 0).map pD)) [.val (T.n w ps).d, .val (pD p), .val (.bl loud), .val (.lst ([pD p] ++ (T.plcs loud ps p 0).map pD)), s4, s5] := by
      unfold b_places_from
      rw [sSeq_nx h0, sSeq_nx h1, sSeq_nx h2, h3]
    have e : (T.plc loud (.n w ps) p).map pD = [pD p] ++ (T.plcs loud ps p 0).map pD := by simp only [T.plc, if_neg q, List.map_cons, List.cons_append, List.nil_append]
    rw [e]
    exact run_ok (c := c_places_from) rfl rfl rfl hb
theorem ev_places_from {Pg : Nat → CF} (H : HasF Pg) {loud : Bool} : ∀ (m : Nat) (t : T) (p : List Nat), t.tree → t.dep ≤ m → t.sz ≤ 60 → p.length + m < 200 → Ev Pg m 28 [t.d, pD p, .bl loud] (.ok (.lst ((T.plc loud t p).map pD)) .non)
  | _, .h _, _, ht, _, _, _ => ht.elim
  | 0, .n w ps, _, _, hd, _, _ => by simp only [T.dep] at hd; omega
  | m + 1, .n w ps, p, ht, hd, hz, hp => ev_of H.e28 fun k hk => by
    refine r_places_from (by omega) hz fun j t hj => ?_
    have hm := List.mem_of_getElem? hj
    have a := T.dep_mem hm
    have b := T.sz_mem hm
    simp only [T.dep, T.sz] at hd hz
    exact ev_places_from H m t (p ++ [0 + j]) (T.trees_mem.1 ht.2.2.2 t hm) (by omega) (by omega) (by simp only [List.length_append, List.length_cons, List.length_nil]; omega) k hk
/-! ### found_at -/
theorem fa_loop {Φ : Phi} {x : D} : ∀ (p : List Nat) (t : T) (s : SV), t.tree → nl s = true →
    (∀ u, T.at t p = some u → ∃ s', forL (tN 2) (b_found_at_l1 Φ) (p.map fun i => .int (i : Nat)) [.val t.d, .val x, s] = .nx [.val u.d, .val x, s']) ∧ (T.at t p = none → ∃ A', forL (tN 2) (b_found_at_l1 Φ) (p.map fun i => .int (i : Nat)) [.val t.d, .val x, s] = .rt .non A')
  | [], t, s, _, _ => ⟨fun u hu => by cases t <;> (simp only [T.at, Option.some.injEq] at hu; subst hu; exact ⟨s, rfl⟩), fun hn => by cases t <;> simp [T.at] at hn⟩
  | i :: p, .h _, s, ht, _ => ht.elim
  | i :: p, .n w ps, s, ht, hs => by
    have l : (T.ds ps).length = ps.length := T.ds_len ps
    have t1 : ∀ A1, A1 = [.val (T.n w ps).d, .val x, .val (.int (i : Nat))] → tN 2 (.int (i : Nat)) [.val (T.n w ps).d, .val x, s] = some A1 := fun A1 e => by subst e; simp only [runF, fr0, ioOf, mvM, mC, mN, mBin, mUn, mB, mAndT, mOrT, mNotT, mAndV, mOrV, mNotV, mHs, mDs, mTup, mLst, pks, mPrim, sSeq, sNil, oS, sPass, sExpr, sRet, sIf, setVq, nl_un, nl_val, nl_own, putH, sAsg, tN, tNil, tCons, tT, sAsgT, mCall, pk, mv, RD.hd, Out.bind, mTrue, mCh, mMt, mSl, mO0, mO1, mLM, mLM.isOwnL, isOwn, mComp, mCompN, lockF, unlk, sFor, sForN, unlS, mIL, mIT, mIS, mIR1, mIR2, wipeF, restF, vsOkq, sRaise, sTry, mDnew, List.getElem?_cons_zero, List.getElem?_cons_succ, List.set_cons_zero, List.set_cons_succ, List.length_cons, List.length_nil, List.map_cons, List.map_nil, List.replicate_succ, List.replicate_zero, List.cons_append, List.nil_append, List.all_cons, List.all_nil, Option.map_some, Option.map_none, reduceIte, sl0, sl1, sl2, sl3, sl4, sl5, sl6, sl7, sl8, sl9, sl10, sl11, sl12, sl13, sl14, sl15, sl16, sl17, Bool.true_and, Bool.and_true, Bool.not_true, Bool.not_false, Nat.reduceAdd, Nat.reduceSub, Nat.zero_add, Bool.false_eq_true, decide_true, decide_false, List.length_append, Int.cast_ofNat_Int, Int.natCast_one, Int.natCast_zero, Int.reduceEq, Int.reduceLT, Int.reduceLE, Int.reduceAdd, Int.reduceMul, Int.reduceSub, Int.reduceNeg, ne_eq, not_true_eq_false, not_false_eq_true, hs]
    have le0 : leS (.int 0) (.int (i : Nat)) = some (.v (.bl true)) := by simp only [leS]; rw [decide_eq_true (by omega)]
    have lt0 : ltS (.int (i : Nat)) (.int ((T.ds ps).length : Nat)) = some (.v (.bl (decide (i < ps.length)))) := by simp only [ltS, l]; congr 3; simp
    simp only [T.at, List.map_cons]
    cases q : ps[i]? with
    | none =>
      have hi : ¬ i < ps.length := fun z => by rw [List.getElem?_eq_getElem z] at q; cases q
      refine ⟨fun u hu => (by cases hu), fun _ => ⟨[.val (T.n w ps).d, .val x, .val (.int (i : Nat))], forL_rt (t1 _ rfl) ?_⟩⟩
      simp only [b_found_at_l1, T.d, runF, fr0, ioOf, mvM, mC, mN, mBin, mUn, mB, mAndT, mOrT, mNotT, mAndV, mOrV, mNotV, mHs, mDs, mTup, mLst, pks, mPrim, sSeq, sNil, oS, sPass, sExpr, sRet, sIf, setVq, nl_un, nl_val, nl_own, putH, sAsg, tN, tNil, tCons, tT, sAsgT, mCall, pk, mv, RD.hd, Out.bind, mTrue, mCh, mMt, mSl, mO0, mO1, mLM, mLM.isOwnL, isOwn, mComp, mCompN, lockF, unlk, sFor, sForN, unlS, mIL, mIT, mIS, mIR1, mIR2, wipeF, restF, vsOkq, sRaise, sTry, mDnew, List.getElem?_cons_zero, List.getElem?_cons_succ, List.set_cons_zero, List.set_cons_succ, List.length_cons, List.length_nil, List.map_cons, List.map_nil, List.replicate_succ, List.replicate_zero, List.cons_append, List.nil_append, List.all_cons, List.all_nil, Option.map_some, Option.map_none, reduceIte, sl0, sl1, sl2, sl3, sl4, sl5, sl6, sl7, sl8, sl9, sl10, sl11, sl12, sl13, sl14, sl15, sl16, sl17, Bool.true_and, Bool.and_true, Bool.not_true, Bool.not_false, Nat.reduceAdd, Nat.reduceSub, Nat.zero_add, Bool.false_eq_true, decide_true, decide_false, List.length_append, Int.cast_ofNat_Int, Int.natCast_one, Int.natCast_zero, Int.reduceEq, Int.reduceLT, Int.reduceLE, Int.reduceAdd, Int.reduceMul, Int.reduceSub, Int.reduceNeg, ne_eq, not_true_eq_false, not_false_eq_true, isiS, isiB, ix2_1, lenS, le0, lt0, decide_eq_false hi]
    | some v =>
      have hi : i < ps.length := by
        rcases Nat.lt_or_ge i ps.length with z | z
        · exact z
        · rw [List.getElem?_eq_none z] at q; cases q
      have hv : v.tree := T.trees_mem.1 ht.2.2.2 v (List.mem_of_getElem? q)
      obtain ⟨a, b⟩ := fa_loop (Φ := Φ) (x := x) p v (.val (.int (i : Nat))) hv rfl
      have ix : ixS (.tup (T.ds ps)) (.int (i : Nat)) = some (.v v.d) := by
        have : atI (T.ds ps) (i : Nat) = some v.d := atI_nat (by rw [T.ds_map, List.getElem?_map, q]; rfl)
        simp only [ixS, this, Option.map_some]
      have st : b_found_at_l1 Φ [.val (T.n w ps).d, .val x, .val (.int (i : Nat))] = .nx [.val v.d, .val x, .val (.int (i : Nat))] := by
        simp only [b_found_at_l1, T.d, runF, fr0, ioOf, mvM, mC, mN, mBin, mUn, mB, mAndT, mOrT, mNotT, mAndV, mOrV, mNotV, mHs, mDs, mTup, mLst, pks, mPrim, sSeq, sNil, oS, sPass, sExpr, sRet, sIf, setVq, nl_un, nl_val, nl_own, putH, sAsg, tN, tNil, tCons, tT, sAsgT, mCall, pk, mv, RD.hd, Out.bind, mTrue, mCh, mMt, mSl, mO0, mO1, mLM, mLM.isOwnL, isOwn, mComp, mCompN, lockF, unlk, sFor, sForN, unlS, mIL, mIT, mIS, mIR1, mIR2, wipeF, restF, vsOkq, sRaise, sTry, mDnew, List.getElem?_cons_zero, List.getElem?_cons_succ, List.set_cons_zero, List.set_cons_succ, List.length_cons, List.length_nil, List.map_cons, List.map_nil, List.replicate_succ, List.replicate_zero, List.cons_append, List.nil_append, List.all_cons, List.all_nil, Option.map_some, Option.map_none, reduceIte, sl0, sl1, sl2, sl3, sl4, sl5, sl6, sl7, sl8, sl9, sl10, sl11, sl12, sl13, sl14, sl15, sl16, sl17, Bool.true_and, Bool.and_true, Bool.not_true, Bool.not_false, Nat.reduceAdd, Nat.reduceSub, Nat.zero_add, Bool.false_eq_true, decide_true, decide_false, List.length_append, Int.cast_ofNat_Int, Int.natCast_one, Int.natCast_zero, Int.reduceEq, Int.reduceLT, Int.reduceLE, Int.reduceAdd, Int.reduceMul, Int.reduceSub, Int.reduceNeg, ne_eq, not_true_eq_false, not_false_eq_true, isiS, isiB, ix2_1, lenS, le0, lt0, decide_eq_true hi, ix]
      refine ⟨fun u hu => ?_, fun hn => ?_⟩
      · obtain ⟨s', e⟩ := a u hu; exact ⟨s', by rw [forL_step (t1 _ rfl) st]; exact e⟩
      · obtain ⟨A', e⟩ := b hn; exact ⟨A', by rw [forL_step (t1 _ rfl) st]; exact e⟩
def oD : Option T → D
  | some t => t.d
  | none => .non
theorem ev_found_at {Pg : Nat → CF} (H : HasF Pg) {t : T} (p : List Nat) (ht : t.tree) : Ev Pg 1 27 [t.d, pD p] (.ok (oD (T.at t p)) .non) := ev_of H.e27 (m := 0) fun k _ => by
  obtain ⟨a, b⟩ := fa_loop (Φ := call Pg k) (x := pD p) p t .un ht rfl
  have it : mIT (mN 1) [.val t.d, .val (pD p), .un] = .ok (p.map fun i => .int (i : Nat)) [.val t.d, .val (pD p), .un] := by simp only [runF, fr0, ioOf, mvM, mC, mN, mBin, mUn, mB, mAndT, mOrT, mNotT, mAndV, mOrV, mNotV, mHs, mDs, mTup, mLst, pks, mPrim, sSeq, sNil, oS, sPass, sExpr, sRet, sIf, setVq, nl_un, nl_val, nl_own, putH, sAsg, tN, tNil, tCons, tT, sAsgT, mCall, pk, mv, RD.hd, Out.bind, mTrue, mCh, mMt, mSl, mO0, mO1, mLM, mLM.isOwnL, isOwn, mComp, mCompN, lockF, unlk, sFor, sForN, unlS, mIL, mIT, mIS, mIR1, mIR2, wipeF, restF, vsOkq, sRaise, sTry, mDnew, List.getElem?_cons_zero, List.getElem?_cons_succ, List.set_cons_zero, List.set_cons_succ, List.length_cons, List.length_nil, List.map_cons, List.map_nil, List.replicate_succ, List.replicate_zero, List.cons_append, List.nil_append, List.all_cons, List.all_nil, Option.map_some, Option.map_none, reduceIte, sl0, sl1, sl2, sl3, sl4, sl5, sl6, sl7, sl8, sl9, sl10, sl11, sl12, sl13, sl14, sl15, sl16, sl17, Bool.true_and, Bool.and_true, Bool.not_true, Bool.not_false, Nat.reduceAdd, Nat.reduceSub, Nat.zero_add, Bool.false_eq_true, decide_true, decide_false, List.length_append, Int.cast_ofNat_Int, Int.natCast_one, Int.natCast_zero, Int.reduceEq, Int.reduceLT, Int.reduceLE, Int.reduceAdd, Int.reduceMul, Int.reduceSub, Int.reduceNeg, ne_eq, not_true_eq_false, not_false_eq_true, pD]
  cases q : T.at t p with
  | none =>
    obtain ⟨A', e⟩ := b q
    have h0 : sFor (mIT (mN 1)) (tN 2) (b_found_at_l1 (call Pg k)) [.val t.d, .val (pD p), .un] = .rt .non A' := by unfold sFor; rw [it]; exact e
    exact run_ok (c := c_found_at) (A := [.val t.d, .val (pD p), .un]) (d := .non) rfl rfl rfl (by show b_found_at _ _ = _; unfold b_found_at; exact sSeq_rt h0)
  | some u =>
    obtain ⟨s', e⟩ := a u q
    have h0 := sFor_nx it e
    have h1 : sRet (mN 0) [.val u.d, .val (pD p), s'] = .rt u.d [.val u.d, .val (pD p), s'] := by simp only [runF, fr0, ioOf, mvM, mC, mN, mBin, mUn, mB, mAndT, mOrT, mNotT, mAndV, mOrV, mNotV, mHs, mDs, mTup, mLst, pks, mPrim, sSeq, sNil, oS, sPass, sExpr, sRet, sIf, setVq, nl_un, nl_val, nl_own, putH, sAsg, tN, tNil, tCons, tT, sAsgT, mCall, pk, mv, RD.hd, Out.bind, mTrue, mCh, mMt, mSl, mO0, mO1, mLM, mLM.isOwnL, isOwn, mComp, mCompN, lockF, unlk, sFor, sForN, unlS, mIL, mIT, mIS, mIR1, mIR2, wipeF, restF, vsOkq, sRaise, sTry, mDnew, List.getElem?_cons_zero, List.getElem?_cons_succ, List.set_cons_zero, List.set_cons_succ, List.length_cons, List.length_nil, List.map_cons, List.map_nil, List.replicate_succ, List.replicate_zero, List.cons_append, List.nil_append, List.all_cons, List.all_nil, Option.map_some, Option.map_none, reduceIte, sl0, sl1, sl2, sl3, sl4, sl5, sl6, sl7, sl8, sl9, sl10, sl11, sl12, sl13, sl14, sl15, sl16, sl17, Bool.true_and, Bool.and_true, Bool.not_true, Bool.not_false, Nat.reduceAdd, Nat.reduceSub, Nat.zero_add, Bool.false_eq_true, decide_true, decide_false, List.length_append, Int.cast_ofNat_Int, Int.natCast_one, Int.natCast_zero, Int.reduceEq, Int.reduceLT, Int.reduceLE, Int.reduceAdd, Int.reduceMul, Int.reduceSub, Int.reduceNeg, ne_eq, not_true_eq_false, not_false_eq_true]
    exact run_ok (c := c_found_at) (A := [.val t.d, .val (pD p), .un]) (d := u.d) rfl rfl rfl (by show b_found_at _ _ = _; unfold b_found_at; rw [sSeq_nx h0]; exact h1)

theorem ev_filled {Pg : Nat → CF} (e : Pg 30 = c_filled) {ks : List Key} {ds : List D} {σ : Int → T} : ∀ (n : Nat) (p : T), p.dep ≤ n → p.sz ≤ 64 → (∀ i, i ∈ p.holes → dlook ks ds (.inl i) = some (σ i).d) → Ev Pg (n + 1) 30 [p.d, .dct ks ds] (.ok (T.sub σ p).d .non)
  | n, .h i, _, _, hh => ev_of e fun k hk => by
    simp only [c_filled, b_filled, runF, fr0, ioOf, mvM, mC, mN, mBin, mUn, mB, mAndT, mOrT, mNotT, mAndV, mOrV, mNotV, mHs, mDs, mTup, mLst, pks, mPrim, sSeq, sNil, oS, sPass, sExpr, sRet, sIf, setVq, nl_un, nl_val, nl_own, putH, sAsg, tN, tNil, tCons, tT, sAsgT, mCall, pk, mv, RD.hd, Out.bind, mTrue, mCh, mMt, mSl, mO0, mO1, mLM, mLM.isOwnL, isOwn, mComp, mCompN, lockF, unlk, sFor, sForN, unlS, mIL, mIT, mIS, mIR1, mIR2, wipeF, restF, vsOkq, sRaise, sTry, mDnew, List.getElem?_cons_zero, List.getElem?_cons_succ, List.set_cons_zero, List.set_cons_succ, List.length_cons, List.length_nil, List.map_cons, List.map_nil, List.replicate_succ, List.replicate_zero, List.cons_append, List.nil_append, List.all_cons, List.all_nil, Option.map_some, Option.map_none, reduceIte, sl0, sl1, sl2, sl3, sl4, sl5, sl6, sl7, sl8, sl9, sl10, sl11, sl12, sl13, sl14, sl15, sl16, sl17, Bool.true_and, Bool.and_true, Bool.not_true, Bool.not_false, Nat.reduceAdd, Nat.reduceSub, Nat.zero_add, Bool.false_eq_true, decide_true, decide_false, List.length_append, Int.cast_ofNat_Int, Int.natCast_one, Int.natCast_zero, Int.reduceEq, Int.reduceLT, Int.reduceLE, Int.reduceAdd, Int.reduceMul, Int.reduceSub, Int.reduceNeg, ne_eq, not_true_eq_false, not_false_eq_true, T.d, isiS, isiB, dgetS, toKey, hh i (by simp [T.holes]), T.sub]
  | 0, .n w ps, hd, _, _ => by simp only [T.dep] at hd; omega
  | n + 1, .n w ps, hd, hz, hh => ev_of e fun k hk => by
    have hps : ps.length ≤ sizeLine := by have := T.szs_len ps; simp only [T.sz] at hz; exact sl64 (by omega)
    have hc : compR (tN 2) mTrue (b_filled_e1 (call Pg k)) [2] (ps.map T.d) [.val (T.n w ps).d, .val (.dct ks ds), .un] = .ok (.f (.lst (ps.map fun t => (T.sub σ t).d))) [.val (T.n w ps).d, .val (.dct ks ds), .un] := by
      refine compR_A T.d _ ps rfl hps rfl rfl fun y hy => ⟨[.val (T.n w ps).d, .val (.dct ks ds), .val y.d], _, [.val (T.n w ps).d, .val (.dct ks ds), .val y.d], rfl, rfl, ?_, rfl⟩
      have a := T.dep_mem hy
      have b := T.sz_mem hy
      simp only [T.dep, T.sz] at hd hz
      have := ev_filled e n y (by omega) (by omega) (fun i hi => hh i (by simp only [T.holes]; exact T.holesL_mem hy hi)) k (by omega)
      simp only [b_filled_e1, runF, fr0, ioOf, mvM, mC, mN, mBin, mUn, mB, mAndT, mOrT, mNotT, mAndV, mOrV, mNotV, mHs, mDs, mTup, mLst, pks, mPrim, sSeq, sNil, oS, sPass, sExpr, sRet, sIf, setVq, nl_un, nl_val, nl_own, putH, sAsg, tN, tNil, tCons, tT, sAsgT, mCall, pk, mv, RD.hd, Out.bind, mTrue, mCh, mMt, mSl, mO0, mO1, mLM, mLM.isOwnL, isOwn, mComp, mCompN, lockF, unlk, sFor, sForN, unlS, mIL, mIT, mIS, mIR1, mIR2, wipeF, restF, vsOkq, sRaise, sTry, mDnew, List.getElem?_cons_zero, List.getElem?_cons_succ, List.set_cons_zero, List.set_cons_succ, List.length_cons, List.length_nil, List.map_cons, List.map_nil, List.replicate_succ, List.replicate_zero, List.cons_append, List.nil_append, List.all_cons, List.all_nil, Option.map_some, Option.map_none, reduceIte, sl0, sl1, sl2, sl3, sl4, sl5, sl6, sl7, sl8, sl9, sl10, sl11, sl12, sl13, sl14, sl15, sl16, sl17, Bool.true_and, Bool.and_true, Bool.not_true, Bool.not_false, Nat.reduceAdd, Nat.reduceSub, Nat.zero_add, Bool.false_eq_true, decide_true, decide_false, List.length_append, Int.cast_ofNat_Int, Int.natCast_one, Int.natCast_zero, Int.reduceEq, Int.reduceLT, Int.reduceLE, Int.reduceAdd, Int.reduceMul, Int.reduceSub, Int.reduceNeg, ne_eq, not_true_eq_false, not_false_eq_true, this]
    simp only [T.d, T.ds_map] at hc
    simp only [c_filled, b_filled, runF, fr0, ioOf, mvM, mC, mN, mBin, mUn, mB, mAndT, mOrT, mNotT, mAndV, mOrV, mNotV, mHs, mDs, mTup, mLst, pks, mPrim, sSeq, sNil, oS, sPass, sExpr, sRet, sIf, setVq, nl_un, nl_val, nl_own, putH, sAsg, tN, tNil, tCons, tT, sAsgT, mCall, pk, mv, RD.hd, Out.bind, mTrue, mCh, mMt, mSl, mO0, mO1, mLM, mLM.isOwnL, isOwn, mComp, mCompN, lockF, unlk, sFor, sForN, unlS, mIL, mIT, mIS, mIR1, mIR2, wipeF, restF, vsOkq, sRaise, sTry, mDnew, List.getElem?_cons_zero, List.getElem?_cons_succ, List.set_cons_zero, List.set_cons_succ, List.length_cons, List.length_nil, List.map_cons, List.map_nil, List.replicate_succ, List.replicate_zero, List.cons_append, List.nil_append, List.all_cons, List.all_nil, Option.map_some, Option.map_none, reduceIte, sl0, sl1, sl2, sl3, sl4, sl5, sl6, sl7, sl8, sl9, sl10, sl11, sl12, sl13, sl14, sl15, sl16, sl17, Bool.true_and, Bool.and_true, Bool.not_true, Bool.not_false, Nat.reduceAdd, Nat.reduceSub, Nat.zero_add, Bool.false_eq_true, decide_true, decide_false, List.length_append, Int.cast_ofNat_Int, Int.natCast_one, Int.natCast_zero, Int.reduceEq, Int.reduceLT, Int.reduceLE, Int.reduceAdd, Int.reduceMul, Int.reduceSub, Int.reduceNeg, ne_eq, not_true_eq_false, not_false_eq_true, T.d, T.ds_map, isiS, isiB, ix2_0, ix2_1, hc, tupleS, T.sub, T.subs_map, List.map_map, Function.comp_def]

/-! ### fits -/
abbrev Env := List (Int × T)
def eD (e : Env) : D := .dct (e.map fun x => .inl x.1) (e.map fun x => x.2.d)
theorem look_e (i : Int) : ∀ e : Env, dlook (e.map fun x => (Sum.inl x.1 : Key)) (e.map fun x => x.2.d) (.inl i) = (e.lookup i).map T.d
  | [] => rfl
  | (j, t) :: e => by
    simp only [List.map_cons, dlook, List.lookup_cons]
    by_cases q : j = i
    · subst q; simp
    · have q2 : ¬ (Sum.inl j : Key) = .inl i := fun z => q (Sum.inl.inj z)
      have q3 : (i == j) = false := by simpa using fun z => q z.symm
      rw [if_neg q2, q3]; exact look_e i e
theorem look_none {i : Int} : ∀ {e : Env}, e.lookup i = none → (Sum.inl i : Key) ∉ e.map fun x => (Sum.inl x.1 : Key)
  | [], _ => by simp
  | (j, t) :: e, h => by
    rw [List.lookup_cons] at h
    by_cases q : (i == j) = true
    · rw [q] at h; cases h
    · rw [Bool.not_eq_true] at q
      rw [q] at h
      simp only [List.map_cons, List.mem_cons, not_or]
      exact ⟨fun z => by simp [Sum.inl.inj z] at q, look_none h⟩
theorem put_e {i : Int} {e : Env} {t : T} (h : e.lookup i = none) : dput (e.map fun x => (Sum.inl x.1 : Key)) (e.map fun x => x.2.d) (.inl i) t.d = ((e ++ [(i, t)]).map (fun x => (Sum.inl x.1 : Key)), (e ++ [(i, t)]).map fun x => x.2.d) := by
  unfold dput
  rw [if_neg (look_none h)]
  simp
mutual
noncomputable def fitE : T → T → Env → Bool × Env
  | .h i, t, e => (match e.lookup i with
    | some s => (decide (s = t), e)
    | none => (true, e ++ [(i, t)]))
  | .n w ps, .n v ts, e => if w = v ∧ ps.length = ts.length then fitEs ps ts e else (false, e)
  | .n _ _, .h _, e => (false, e)
noncomputable def fitEs : List T → List T → Env → Bool × Env
  | p :: ps, t :: ts, e => ((fitE p t e).1 && (fitEs ps ts (fitE p t e).2).1, (fitEs ps ts (fitE p t e).2).2)
  | _, _, e => (true, e)
end
mutual
theorem fitE_len : ∀ (p t : T) (e : Env), (fitE p t e).2.length ≤ e.length + p.holes.length
  | .h i, t, e => by
    unfold fitE
    cases e.lookup i with
    | none => simp [T.holes]
    | some s => simp
  | .n w ps, .n v ts, e => by
    unfold fitE
    split
    · have := fitEs_len ps ts e; simpa [T.holes] using this
    · simp
  | .n _ _, .h _, e => by simp [fitE]
theorem fitEs_len : ∀ (ps ts : List T) (e : Env), (fitEs ps ts e).2.length ≤ e.length + (T.holesL ps).length
  | [], _, e => by simp [fitEs]
  | _ :: _, [], e => by simp [fitEs]
  | p :: ps, t :: ts, e => by
    have a := fitE_len p t e
    have b := fitEs_len ps ts (fitE p t e).2
    simp only [fitEs, T.holesL, List.length_append]; omega
end
/-- the bools that the comprehension makes -/
noncomputable def fitBs : List (T × T) → Env → List Bool × Env
  | [], e => ([], e)
  | x :: l, e => ((fitE x.1 x.2 e).1 :: (fitBs l (fitE x.1 x.2 e).2).1, (fitBs l (fitE x.1 x.2 e).2).2)
theorem fitBs_fold : ∀ (l : List (T × T)) (acc : List D) (e : Env), l.foldl (fun (p : List D × Env) a => (p.1 ++ [D.bl (fitE a.1 a.2 p.2).1], (fitE a.1 a.2 p.2).2)) (acc, e) = (acc ++ (fitBs l e).1.map D.bl, (fitBs l e).2)
  | [], acc, e => by simp [fitBs]
  | x :: l, acc, e => by rw [List.foldl_cons, fitBs_fold l]; simp [fitBs]
theorem fitBs_zip : ∀ (ps ts : List T) (e : Env), ((fitBs (ps.zip ts) e).1.all id, (fitBs (ps.zip ts) e).2) = fitEs ps ts e
  | [], _, e => by simp [fitBs, fitEs]
  | _ :: _, [], e => by simp [fitBs, fitEs]
  | p :: ps, t :: ts, e => by
    have ih := fitBs_zip ps ts (fitE p t e).2
    rw [List.zip_cons_cons, fitBs, fitEs, ← ih]; simp
theorem boolsD_id : ∀ l : List Bool, boolsD (l.map D.bl) = some l
  | [] => rfl
  | b :: l => by simp only [List.map_cons, boolsD, boolsD_id l, Option.map_some]
theorem zip_pairs (ps ts : List T) : List.zipWith pairD (T.ds ps) (T.ds ts) = (ps.zip ts).map fun x => pairD x.1.d x.2.d := by
  rw [T.ds_map, T.ds_map, List.zipWith_map, List.zip, List.map_zipWith]
theorem run_io {c : CF} {Φ : Phi} {ds : List D} {A A' : Fr} {d x : D} (hi : c.io = true) (hl : ds.length = c.np) (hA : fr0 c ds = A) (q : c.body Φ A = .rt d A') (hx : A'[c.np - 1]? = some (.ow true x)) : runF c Φ ds = .ok d x := by
  unfold runF
  rw [if_pos hl, hA, q]
  unfold ioOf
  simp only [hi, hx]
theorem ev_fits {Pg : Nat → CF} (H : HasF Pg) : ∀ (m : Nat) (p t : T) (e : Env), p.dep ≤ m → p.sz ≤ 6 → t.tree → t.dep ≤ 95 → e.length + p.holes.length ≤ 64 → Ev Pg (m + 1) 29 [p.d, t.d, eD e] (.ok (.bl (fitE p t e).1) (eD (fitE p t e).2))
  | m, .h i, t, e, _, _, _, hd, hl => ev_of H.e29 fun k hk => by
    have hl2 : (e.map fun x => (Sum.inl x.1 : Key)).length < sizeLine := Nat.lt_of_le_of_lt (show _ ≤ 64 by rw [List.length_map]; omega) (by decide)
    cases q : e.lookup i with
    | none =>
      have lk : dlook (e.map fun x => (Sum.inl x.1 : Key)) (e.map fun x => x.2.d) (.inl i) = none := by rw [look_e, q]; rfl
      have es : Z.eqS t.d t.d = some (.v (.bl true)) := by rw [T.eqS hd, decide_eq_true rfl]
      have pe := put_e (t := t) q
      have r : fitE (.h i) t e = (true, e ++ [(i, t)]) := by unfold fitE; rw [q]
      rw [r]
      refine run_io (c := c_fits) (A := [.val (.int i), .val t.d, .ow true (eD e), .un, .un]) (A' := [.val (.int i), .val t.d, .ow true (eD (e ++ [(i, t)])), .un, .un]) rfl rfl rfl ?_ rfl
      show b_fits _ _ = _
      unfold b_fits
      refine sSeq_rt ?_
      simp only [runF, fr0, ioOf, mvM, mC, mN, mBin, mUn, mB, mAndT, mOrT, mNotT, mAndV, mOrV, mNotV, mHs, mDs, mTup, mLst, pks, mPrim, sSeq, sNil, oS, sPass, sExpr, sRet, sIf, setVq, nl_un, nl_val, nl_own, putH, sAsg, tN, tNil, tCons, tT, sAsgT, mCall, pk, mv, RD.hd, Out.bind, mTrue, mCh, mMt, mSl, mO0, mO1, mLM, mLM.isOwnL, isOwn, mComp, mCompN, lockF, unlk, sFor, sForN, unlS, mIL, mIT, mIS, mIR1, mIR2, wipeF, restF, vsOkq, sRaise, sTry, mDnew, List.getElem?_cons_zero, List.getElem?_cons_succ, List.set_cons_zero, List.set_cons_succ, List.length_cons, List.length_nil, List.map_cons, List.map_nil, List.replicate_succ, List.replicate_zero, List.cons_append, List.nil_append, List.all_cons, List.all_nil, Option.map_some, Option.map_none, reduceIte, sl0, sl1, sl2, sl3, sl4, sl5, sl6, sl7, sl8, sl9, sl10, sl11, sl12, sl13, sl14, sl15, sl16, sl17, Bool.true_and, Bool.and_true, Bool.not_true, Bool.not_false, Nat.reduceAdd, Nat.reduceSub, Nat.zero_add, Bool.false_eq_true, decide_true, decide_false, List.length_append, Int.cast_ofNat_Int, Int.natCast_one, Int.natCast_zero, Int.reduceEq, Int.reduceLT, Int.reduceLE, Int.reduceAdd, Int.reduceMul, Int.reduceSub, Int.reduceNeg, ne_eq, not_true_eq_false, not_false_eq_true, isiS, isiB, mSetd, isOwnD, eD, toKey, hl2, lk, pe, es]
    | some s =>
      have lk : dlook (e.map fun x => (Sum.inl x.1 : Key)) (e.map fun x => x.2.d) (.inl i) = some s.d := by rw [look_e, q]; rfl
      have es : Z.eqS s.d t.d = some (.v (.bl (decide (s = t)))) := by
        have dd := T.d_dep2 t
        unfold Z.eqS
        have cm : cmpOk s.d t.d = true := by
          unfold cmpOk
          rw [T.lay, T.lay, decide_eq_true (show min s.d.dep t.d.dep ≤ 190 by omega)]; rfl
        rw [if_pos cm, T.eq_d]
      have r : fitE (.h i) t e = (decide (s = t), e) := by unfold fitE; rw [q]
      rw [r]
      refine run_io (c := c_fits) (A := [.val (.int i), .val t.d, .ow true (eD e), .un, .un]) (A' := [.val (.int i), .val t.d, .ow true (eD e), .un, .un]) rfl rfl rfl ?_ rfl
      show b_fits _ _ = _
      unfold b_fits
      refine sSeq_rt ?_
      simp only [runF, fr0, ioOf, mvM, mC, mN, mBin, mUn, mB, mAndT, mOrT, mNotT, mAndV, mOrV, mNotV, mHs, mDs, mTup, mLst, pks, mPrim, sSeq, sNil, oS, sPass, sExpr, sRet, sIf, setVq, nl_un, nl_val, nl_own, putH, sAsg, tN, tNil, tCons, tT, sAsgT, mCall, pk, mv, RD.hd, Out.bind, mTrue, mCh, mMt, mSl, mO0, mO1, mLM, mLM.isOwnL, isOwn, mComp, mCompN, lockF, unlk, sFor, sForN, unlS, mIL, mIT, mIS, mIR1, mIR2, wipeF, restF, vsOkq, sRaise, sTry, mDnew, List.getElem?_cons_zero, List.getElem?_cons_succ, List.set_cons_zero, List.set_cons_succ, List.length_cons, List.length_nil, List.map_cons, List.map_nil, List.replicate_succ, List.replicate_zero, List.cons_append, List.nil_append, List.all_cons, List.all_nil, Option.map_some, Option.map_none, reduceIte, sl0, sl1, sl2, sl3, sl4, sl5, sl6, sl7, sl8, sl9, sl10, sl11, sl12, sl13, sl14, sl15, sl16, sl17, Bool.true_and, Bool.and_true, Bool.not_true, Bool.not_false, Nat.reduceAdd, Nat.reduceSub, Nat.zero_add, Bool.false_eq_true, decide_true, decide_false, List.length_append, Int.cast_ofNat_Int, Int.natCast_one, Int.natCast_zero, Int.reduceEq, Int.reduceLT, Int.reduceLE, Int.reduceAdd, Int.reduceMul, Int.reduceSub, Int.reduceNeg, ne_eq, not_true_eq_false, not_false_eq_true, isiS, isiB, mSetd, isOwnD, eD, toKey, hl2, lk, es]
  | 0, .n w ps, _, _, hd, _, _, _, _ => by simp only [T.dep] at hd; omega
  | m + 1, .n w ps, .h i, e, _, _, ht, _, _ => ht.elim
  | m + 1, .n w ps, .n v ts, e, hd, hz, ht, hdt, hl => ev_of H.e29 fun k hk => by
    have h0 : sIf (mB (mUn (isiS .tint) (mN 0))) (sRet (mBin eqS (mSetd 2 (mN 0) (mN 1)) (mN 1))) sNil [.val (T.n w ps).d, .val (T.n v ts).d, .ow true (eD e), .un, .un] = .nx [.val (T.n w ps).d, .val (T.n v ts).d, .ow true (eD e), .un, .un] := by simp only [runF, fr0, ioOf, mvM, mC, mN, mBin, mUn, mB, mAndT, mOrT, mNotT, mAndV, mOrV, mNotV, mHs, mDs, mTup, mLst, pks, mPrim, sSeq, sNil, oS, sPass, sExpr, sRet, sIf, setVq, nl_un, nl_val, nl_own, putH, sAsg, tN, tNil, tCons, tT, sAsgT, mCall, pk, mv, RD.hd, Out.bind, mTrue, mCh, mMt, mSl, mO0, mO1, mLM, mLM.isOwnL, isOwn, mComp, mCompN, lockF, unlk, sFor, sForN, unlS, mIL, mIT, mIS, mIR1, mIR2, wipeF, restF, vsOkq, sRaise, sTry, mDnew, List.getElem?_cons_zero, List.getElem?_cons_succ, List.set_cons_zero, List.set_cons_succ, List.length_cons, List.length_nil, List.map_cons, List.map_nil, List.replicate_succ, List.replicate_zero, List.cons_append, List.nil_append, List.all_cons, List.all_nil, Option.map_some, Option.map_none, reduceIte, sl0, sl1, sl2, sl3, sl4, sl5, sl6, sl7, sl8, sl9, sl10, sl11, sl12, sl13, sl14, sl15, sl16, sl17, Bool.true_and, Bool.and_true, Bool.not_true, Bool.not_false, Nat.reduceAdd, Nat.reduceSub, Nat.zero_add, Bool.false_eq_true, decide_true, decide_false, List.length_append, Int.cast_ofNat_Int, Int.natCast_one, Int.natCast_zero, Int.reduceEq, Int.reduceLT, Int.reduceLE, Int.reduceAdd, Int.reduceMul, Int.reduceSub, Int.reduceNeg, ne_eq, not_true_eq_false, not_false_eq_true, T.d, isiS, isiB]
    have ln : ∀ l : List T, lenS [.tup (T.ds l)] = some (.v (.int (l.length : Nat))) := fun l => by simp only [lenS, T.ds_len]
    have tst : mOrT (mB (mBin neS (mBin ixS (mN 0) (mC (.int 0))) (mBin ixS (mN 1) (mC (.int 0))))) (mB (mBin neS (mPrim lenS [(mBin ixS (mN 0) (mC (.int 1)))]) (mPrim lenS [(mBin ixS (mN 1) (mC (.int 1)))]))) [.val (T.n w ps).d, .val (T.n v ts).d, .ow true (eD e), .un, .un] = .ok (!decide (w = v ∧ ps.length = ts.length)) [.val (T.n w ps).d, .val (T.n v ts).d, .ow true (eD e), .un, .un] := by
      by_cases q : w = v
      · by_cases q2 : ps.length = ts.length
        · have q3 : decide (((ps.length : Nat) : Int) ≠ ((ts.length : Nat) : Int)) = false := by rw [q2]; simp
          simp only [runF, fr0, ioOf, mvM, mC, mN, mBin, mUn, mB, mAndT, mOrT, mNotT, mAndV, mOrV, mNotV, mHs, mDs, mTup, mLst, pks, mPrim, sSeq, sNil, oS, sPass, sExpr, sRet, sIf, setVq, nl_un, nl_val, nl_own, putH, sAsg, tN, tNil, tCons, tT, sAsgT, mCall, pk, mv, RD.hd, Out.bind, mTrue, mCh, mMt, mSl, mO0, mO1, mLM, mLM.isOwnL, isOwn, mComp, mCompN, lockF, unlk, sFor, sForN, unlS, mIL, mIT, mIS, mIR1, mIR2, wipeF, restF, vsOkq, sRaise, sTry, mDnew, List.getElem?_cons_zero, List.getElem?_cons_succ, List.set_cons_zero, List.set_cons_succ, List.length_cons, List.length_nil, List.map_cons, List.map_nil, List.replicate_succ, List.replicate_zero, List.cons_append, List.nil_append, List.all_cons, List.all_nil, Option.map_some, Option.map_none, reduceIte, sl0, sl1, sl2, sl3, sl4, sl5, sl6, sl7, sl8, sl9, sl10, sl11, sl12, sl13, sl14, sl15, sl16, sl17, Bool.true_and, Bool.and_true, Bool.not_true, Bool.not_false, Nat.reduceAdd, Nat.reduceSub, Bool.false_eq_true, decide_true, decide_false, List.length_append, Int.cast_ofNat_Int, Int.natCast_one, Int.natCast_zero, Int.reduceEq, Int.reduceLT, Int.reduceLE, Int.reduceMul, Int.reduceSub, Int.reduceNeg, ne_eq, not_true_eq_false, not_false_eq_true, T.d, ix2_0, ix2_1, neS_str, neS_int, ln, q, decide_eq_true rfl, q3, q2]
          simp [q2]
        · have q3 : decide (((ps.length : Nat) : Int) ≠ ((ts.length : Nat) : Int)) = true := decide_eq_true (by omega)
          simp only [runF, fr0, ioOf, mvM, mC, mN, mBin, mUn, mB, mAndT, mOrT, mNotT, mAndV, mOrV, mNotV, mHs, mDs, mTup, mLst, pks, mPrim, sSeq, sNil, oS, sPass, sExpr, sRet, sIf, setVq, nl_un, nl_val, nl_own, putH, sAsg, tN, tNil, tCons, tT, sAsgT, mCall, pk, mv, RD.hd, Out.bind, mTrue, mCh, mMt, mSl, mO0, mO1, mLM, mLM.isOwnL, isOwn, mComp, mCompN, lockF, unlk, sFor, sForN, unlS, mIL, mIT, mIS, mIR1, mIR2, wipeF, restF, vsOkq, sRaise, sTry, mDnew, List.getElem?_cons_zero, List.getElem?_cons_succ, List.set_cons_zero, List.set_cons_succ, List.length_cons, List.length_nil, List.map_cons, List.map_nil, List.replicate_succ, List.replicate_zero, List.cons_append, List.nil_append, List.all_cons, List.all_nil, Option.map_some, Option.map_none, reduceIte, sl0, sl1, sl2, sl3, sl4, sl5, sl6, sl7, sl8, sl9, sl10, sl11, sl12, sl13, sl14, sl15, sl16, sl17, Bool.true_and, Bool.and_true, Bool.not_true, Bool.not_false, Nat.reduceAdd, Nat.reduceSub, Bool.false_eq_true, decide_true, decide_false, List.length_append, Int.cast_ofNat_Int, Int.natCast_one, Int.natCast_zero, Int.reduceEq, Int.reduceLT, Int.reduceLE, Int.reduceMul, Int.reduceSub, Int.reduceNeg, ne_eq, not_true_eq_false, not_false_eq_true, T.d, ix2_0, ix2_1, neS_str, neS_int, ln, q, decide_eq_true rfl]
          simp [q2]
          omega
      · simp only [runF, fr0, ioOf, mvM, mC, mN, mBin, mUn, mB, mAndT, mOrT, mNotT, mAndV, mOrV, mNotV, mHs, mDs, mTup, mLst, pks, mPrim, sSeq, sNil, oS, sPass, sExpr, sRet, sIf, setVq, nl_un, nl_val, nl_own, putH, sAsg, tN, tNil, tCons, tT, sAsgT, mCall, pk, mv, RD.hd, Out.bind, mTrue, mCh, mMt, mSl, mO0, mO1, mLM, mLM.isOwnL, isOwn, mComp, mCompN, lockF, unlk, sFor, sForN, unlS, mIL, mIT, mIS, mIR1, mIR2, wipeF, restF, vsOkq, sRaise, sTry, mDnew, List.getElem?_cons_zero, List.getElem?_cons_succ, List.set_cons_zero, List.set_cons_succ, List.length_cons, List.length_nil, List.map_cons, List.map_nil, List.replicate_succ, List.replicate_zero, List.cons_append, List.nil_append, List.all_cons, List.all_nil, Option.map_some, Option.map_none, reduceIte, sl0, sl1, sl2, sl3, sl4, sl5, sl6, sl7, sl8, sl9, sl10, sl11, sl12, sl13, sl14, sl15, sl16, sl17, Bool.true_and, Bool.and_true, Bool.not_true, Bool.not_false, Nat.reduceAdd, Nat.reduceSub, Bool.false_eq_true, decide_true, decide_false, List.length_append, Int.cast_ofNat_Int, Int.natCast_one, Int.natCast_zero, Int.reduceEq, Int.reduceLT, Int.reduceLE, Int.reduceMul, Int.reduceSub, Int.reduceNeg, ne_eq, not_true_eq_false, not_false_eq_true, T.d, ix2_0, neS_str, decide_eq_false q]
        simp [q]
    by_cases q : w = v ∧ ps.length = ts.length
    · have r : fitE (.n w ps) (.n v ts) e = fitEs ps ts e := by unfold fitE; rw [if_pos q]
      rw [r, ← fitBs_zip]
      have h1 : sIf (mOrT (mB (mBin neS (mBin ixS (mN 0) (mC (.int 0))) (mBin ixS (mN 1) (mC (.int 0))))) (mB (mBin neS (mPrim lenS [(mBin ixS (mN 0) (mC (.int 1)))]) (mPrim lenS [(mBin ixS (mN 1) (mC (.int 1)))])))) (sRet (mC (.bl false))) sNil [.val (T.n w ps).d, .val (T.n v ts).d, .ow true (eD e), .un, .un] = .nx [.val (T.n w ps).d, .val (T.n v ts).d, .ow true (eD e), .un, .un] := ifnot (by rw [tst, decide_eq_true q]; rfl)
      have hlen : (ps.zip ts).length ≤ sizeLine := sl64 (by rw [List.length_zip]; have := T.szs_len ps; simp only [T.sz] at hz; omega)
      have cs := compL_S (t := tT 2 (tCons (tN 3) (tCons (tN 4) tNil))) (tt := mTrue) (te := b_fits_e1 (call Pg k)) (vs := [3, 4]) (fun x : Env => [.val (T.n w ps).d, .val (T.n v ts).d, .ow true (eD x), .un, .un]) (fun a : T × T => pairD a.1.d a.2.d) (fun x a => D.bl (fitE a.1 a.2 x).1) (fun x a => (fitE a.1 a.2 x).2) (fun l x => (∀ a, a ∈ l → a ∈ ps.zip ts) ∧ x.length + (T.holesL (l.map (·.1))).length ≤ 64) (fun a l x hP => by
        obtain ⟨hm, hx⟩ := hP
        have ha := hm a (by simp)
        have h1 := List.of_mem_zip ha
        have fl := fitE_len a.1 a.2 x
        simp only [List.map_cons, T.holesL, List.length_append] at hx
        refine ⟨⟨fun b hb => hm b (by simp [hb]), by omega⟩, [.val (T.n w ps).d, .val (T.n v ts).d, .ow true (eD x), .val a.1.d, .val a.2.d], [.val (T.n w ps).d, .val (T.n v ts).d, .ow true (eD x), .val a.1.d, .val a.2.d], [.val (T.n w ps).d, .val (T.n v ts).d, .ow true (eD (fitE a.1 a.2 x).2), .val a.1.d, .val a.2.d], ?_, rfl, ?_, rfl⟩
        · simp only [pairD, runF, fr0, ioOf, mvM, mC, mN, mBin, mUn, mB, mAndT, mOrT, mNotT, mAndV, mOrV, mNotV, mHs, mDs, mTup, mLst, pks, mPrim, sSeq, sNil, oS, sPass, sExpr, sRet, sIf, setVq, nl_un, nl_val, nl_own, putH, sAsg, tN, tNil, tCons, tT, sAsgT, mCall, pk, mv, RD.hd, Out.bind, mTrue, mCh, mMt, mSl, mO0, mO1, mLM, mLM.isOwnL, isOwn, mComp, mCompN, lockF, unlk, sFor, sForN, unlS, mIL, mIT, mIS, mIR1, mIR2, wipeF, restF, vsOkq, sRaise, sTry, mDnew, List.getElem?_cons_zero, List.getElem?_cons_succ, List.set_cons_zero, List.set_cons_succ, List.length_cons, List.length_nil, List.map_cons, List.map_nil, List.replicate_succ, List.replicate_zero, List.cons_append, List.nil_append, List.all_cons, List.all_nil, Option.map_some, Option.map_none, reduceIte, sl0, sl1, sl2, sl3, sl4, sl5, sl6, sl7, sl8, sl9, sl10, sl11, sl12, sl13, sl14, sl15, sl16, sl17, Bool.true_and, Bool.and_true, Bool.not_true, Bool.not_false, Nat.reduceAdd, Nat.reduceSub, Nat.zero_add, Bool.false_eq_true, decide_true, decide_false, List.length_append, Int.cast_ofNat_Int, Int.natCast_one, Int.natCast_zero, Int.reduceEq, Int.reduceLT, Int.reduceLE, Int.reduceAdd, Int.reduceMul, Int.reduceSub, Int.reduceNeg, ne_eq, not_true_eq_false, not_false_eq_true]
        · have d1 := T.dep_mem h1.1
          have d2 := T.dep_mem h1.2
          have z1 := T.sz_mem h1.1
          simp only [T.dep] at hd hdt
          simp only [T.sz] at hz
          have cl := ev_fits H m a.1 a.2 x (by omega) (by omega) (T.trees_mem.1 ht.2.2.2 _ h1.2) (by omega) (by omega) k (by omega)
          simp only [b_fits_e1, mCallI, mDi, runF, fr0, ioOf, mvM, mC, mN, mBin, mUn, mB, mAndT, mOrT, mNotT, mAndV, mOrV, mNotV, mHs, mDs, mTup, mLst, pks, mPrim, sSeq, sNil, oS, sPass, sExpr, sRet, sIf, setVq, nl_un, nl_val, nl_own, putH, sAsg, tN, tNil, tCons, tT, sAsgT, mCall, pk, mv, RD.hd, Out.bind, mTrue, mCh, mMt, mSl, mO0, mO1, mLM, mLM.isOwnL, isOwn, mComp, mCompN, lockF, unlk, sFor, sForN, unlS, mIL, mIT, mIS, mIR1, mIR2, wipeF, restF, vsOkq, sRaise, sTry, mDnew, List.getElem?_cons_zero, List.getElem?_cons_succ, List.set_cons_zero, List.set_cons_succ, List.length_cons, List.length_nil, List.map_cons, List.map_nil, List.replicate_succ, List.replicate_zero, List.cons_append, List.nil_append, List.all_cons, List.all_nil, Option.map_some, Option.map_none, reduceIte, sl0, sl1, sl2, sl3, sl4, sl5, sl6, sl7, sl8, sl9, sl10, sl11, sl12, sl13, sl14, sl15, sl16, sl17, Bool.true_and, Bool.and_true, Bool.not_true, Bool.not_false, Nat.reduceAdd, Nat.reduceSub, Nat.zero_add, Bool.false_eq_true, decide_true, decide_false, List.length_append, Int.cast_ofNat_Int, Int.natCast_one, Int.natCast_zero, Int.reduceEq, Int.reduceLT, Int.reduceLE, Int.reduceAdd, Int.reduceMul, Int.reduceSub, Int.reduceNeg, ne_eq, not_true_eq_false, not_false_eq_true, cl]) (ps.zip ts) [] e ⟨fun a ha => ha, by
        rw [List.map_fst_zip (by omega)]; simpa [T.holes] using hl⟩
      rw [fitBs_fold, ← zip_pairs] at cs
      have cr : compR (tT 2 (tCons (tN 3) (tCons (tN 4) tNil))) mTrue (b_fits_e1 (call Pg k)) [3, 4] (List.zipWith pairD (T.ds ps) (T.ds ts)) [.val (T.n w ps).d, .val (T.n v ts).d, .ow true (eD e), .un, .un] = .ok (.f (.lst ((fitBs (ps.zip ts) e).1.map D.bl))) [.val (T.n w ps).d, .val (T.n v ts).d, .ow true (eD (fitBs (ps.zip ts) e).2), .un, .un] := by
        unfold compR
        rw [show vsOk [3, 4] [SV.val (T.n w ps).d, .val (T.n v ts).d, .ow true (eD e), .un, .un] = true from rfl, decide_eq_true (by rw [zip_pairs, List.length_map]; exact hlen), show wipeF [SV.val (T.n w ps).d, .val (T.n v ts).d, .ow true (eD e), .un, .un] [3, 4] = [.val (T.n w ps).d, .val (T.n v ts).d, .ow true (eD e), .un, .un] from rfl, cs]
        rfl
      have mc : mComp (mIZ (mBin ixS (mN 0) (mC (.int 1))) (mBin ixS (mN 1) (mC (.int 1)))) [3, 4] (tT 2 (tCons (tN 3) (tCons (tN 4) tNil))) mTrue (b_fits_e1 (call Pg k)) [.val (T.n w ps).d, .val (T.n v ts).d, .ow true (eD e), .un, .un] = .ok (.f (.lst ((fitBs (ps.zip ts) e).1.map D.bl))) [.val (T.n w ps).d, .val (T.n v ts).d, .ow true (eD (fitBs (ps.zip ts) e).2), .un, .un] := by
        refine mComp_ok (ds := List.zipWith pairD (T.ds ps) (T.ds ts)) (A1 := [.val (T.n w ps).d, .val (T.n v ts).d, .ow true (eD e), .un, .un]) ?_ cr
        simp only [mIZ, runF, fr0, ioOf, mvM, mC, mN, mBin, mUn, mB, mAndT, mOrT, mNotT, mAndV, mOrV, mNotV, mHs, mDs, mTup, mLst, pks, mPrim, sSeq, sNil, oS, sPass, sExpr, sRet, sIf, setVq, nl_un, nl_val, nl_own, putH, sAsg, tN, tNil, tCons, tT, sAsgT, mCall, pk, mv, RD.hd, Out.bind, mTrue, mCh, mMt, mSl, mO0, mO1, mLM, mLM.isOwnL, isOwn, mComp, mCompN, lockF, unlk, sFor, sForN, unlS, mIL, mIT, mIS, mIR1, mIR2, wipeF, restF, vsOkq, sRaise, sTry, mDnew, List.getElem?_cons_zero, List.getElem?_cons_succ, List.set_cons_zero, List.set_cons_succ, List.length_cons, List.length_nil, List.map_cons, List.map_nil, List.replicate_succ, List.replicate_zero, List.cons_append, List.nil_append, List.all_cons, List.all_nil, Option.map_some, Option.map_none, reduceIte, sl0, sl1, sl2, sl3, sl4, sl5, sl6, sl7, sl8, sl9, sl10, sl11, sl12, sl13, sl14, sl15, sl16, sl17, Bool.true_and, Bool.and_true, Bool.not_true, Bool.not_false, Nat.reduceAdd, Nat.reduceSub, Nat.zero_add, Bool.false_eq_true, decide_true, decide_false, List.length_append, Int.cast_ofNat_Int, Int.natCast_one, Int.natCast_zero, Int.reduceEq, Int.reduceLT, Int.reduceLE, Int.reduceAdd, Int.reduceMul, Int.reduceSub, Int.reduceNeg, ne_eq, not_true_eq_false, not_false_eq_true, T.d, ix2_1]
      have h2 : sRet (mPrim allS [(mComp (mIZ (mBin ixS (mN 0) (mC (.int 1))) (mBin ixS (mN 1) (mC (.int 1)))) [3, 4] (tT 2 (tCons (tN 3) (tCons (tN 4) tNil))) mTrue (b_fits_e1 (call Pg k)))]) [.val (T.n w ps).d, .val (T.n v ts).d, .ow true (eD e), .un, .un] = .rt (.bl ((fitBs (ps.zip ts) e).1.all id)) [.val (T.n w ps).d, .val (T.n v ts).d, .ow true (eD (fitBs (ps.zip ts) e).2), .un, .un] := by
        simp only [runF, fr0, ioOf, mvM, mC, mN, mBin, mUn, mB, mAndT, mOrT, mNotT, mAndV, mOrV, mNotV, mHs, mDs, mTup, mLst, pks, mPrim, sSeq, sNil, oS, sPass, sExpr, sRet, sIf, setV, putH, sAsg, tN, tNil, tCons, tT, sAsgT, mCall, pk, mv, RD.hd, Out.bind, mTrue, mCh, mMt, mSl, mO0, mO1, mLM, mLM.isOwnL, isOwn, mCompN, lockF, unlk, sFor, sForN, unlS, mIL, mIT, mIS, mIR1, mIR2, wipeF, restF, vsOk, sRaise, sTry, mDnew, List.getElem?_cons_zero, List.getElem?_cons_succ, List.set_cons_zero, List.set_cons_succ, List.length_cons, List.length_nil, List.map_cons, List.map_nil, List.replicate_succ, List.replicate_zero, List.cons_append, List.nil_append, List.all_cons, List.all_nil, Option.map_some, Option.map_none, reduceIte, sl0, sl1, sl2, sl3, sl4, sl5, sl6, sl7, sl8, sl9, sl10, sl11, sl12, sl13, sl14, sl15, sl16, sl17, Bool.true_and, Bool.and_true, Bool.not_true, Bool.not_false, Nat.reduceAdd, Nat.reduceSub, Nat.zero_add, Bool.false_eq_true, decide_true, decide_false, List.length_append, Int.cast_ofNat_Int, Int.natCast_one, Int.natCast_zero, Int.reduceEq, Int.reduceLT, Int.reduceLE, Int.reduceAdd, Int.reduceMul, Int.reduceSub, Int.reduceNeg, ne_eq, not_true_eq_false, not_false_eq_true, mc, allS, boolsD_id, Option.map_some]
      have hb : b_fits (call Pg k) [.val (T.n w ps).d, .val (T.n v ts).d, .ow true (eD e), .un, .un] = .rt (.bl ((fitBs (ps.zip ts) e).1.all id)) [.val (T.n w ps).d, .val (T.n v ts).d, .ow true (eD (fitBs (ps.zip ts) e).2), .un, .un] := by
        unfold b_fits
        rw [sSeq_nx h0, sSeq_nx h1, h2]
      exact run_io (c := c_fits) rfl rfl rfl hb rfl
    · have r : fitE (.n w ps) (.n v ts) e = (false, e) := by unfold fitE; rw [if_neg q]
      rw [r]
      have h1 : sIf (mOrT (mB (mBin neS (mBin ixS (mN 0) (mC (.int 0))) (mBin ixS (mN 1) (mC (.int 0))))) (mB (mBin neS (mPrim lenS [(mBin ixS (mN 0) (mC (.int 1)))]) (mPrim lenS [(mBin ixS (mN 1) (mC (.int 1)))])))) (sRet (mC (.bl false))) sNil [.val (T.n w ps).d, .val (T.n v ts).d, .ow true (eD e), .un, .un] = .rt (.bl false) [.val (T.n w ps).d, .val (T.n v ts).d, .ow true (eD e), .un, .un] := by
        rw [ifyes (A1 := [.val (T.n w ps).d, .val (T.n v ts).d, .ow true (eD e), .un, .un]) (by rw [tst, decide_eq_false q]; rfl)]
        simp only [runF, fr0, ioOf, mvM, mC, mN, mBin, mUn, mB, mAndT, mOrT, mNotT, mAndV, mOrV, mNotV, mHs, mDs, mTup, mLst, pks, mPrim, sSeq, sNil, oS, sPass, sExpr, sRet, sIf, setVq, nl_un, nl_val, nl_own, putH, sAsg, tN, tNil, tCons, tT, sAsgT, mCall, pk, mv, RD.hd, Out.bind, mTrue, mCh, mMt, mSl, mO0, mO1, mLM, mLM.isOwnL, isOwn, mComp, mCompN, lockF, unlk, sFor, sForN, unlS, mIL, mIT, mIS, mIR1, mIR2, wipeF, restF, vsOkq, sRaise, sTry, mDnew, List.getElem?_cons_zero, List.getElem?_cons_succ, List.set_cons_zero, List.set_cons_succ, List.length_cons, List.length_nil, List.map_cons, List.map_nil, List.replicate_succ, List.replicate_zero, List.cons_append, List.nil_append, List.all_cons, List.all_nil, Option.map_some, Option.map_none, reduceIte, sl0, sl1, sl2, sl3, sl4, sl5, sl6, sl7, sl8, sl9, sl10, sl11, sl12, sl13, sl14, sl15, sl16, sl17, Bool.true_and, Bool.and_true, Bool.not_true, Bool.not_false, Nat.reduceAdd, Nat.reduceSub, Nat.zero_add, Bool.false_eq_true, decide_true, decide_false, List.length_append, Int.cast_ofNat_Int, Int.natCast_one, Int.natCast_zero, Int.reduceEq, Int.reduceLT, Int.reduceLE, Int.reduceAdd, Int.reduceMul, Int.reduceSub, Int.reduceNeg, ne_eq, not_true_eq_false, not_false_eq_true]
      have hb : b_fits (call Pg k) [.val (T.n w ps).d, .val (T.n v ts).d, .ow true (eD e), .un, .un] = .rt (.bl false) [.val (T.n w ps).d, .val (T.n v ts).d, .ow true (eD e), .un, .un] := by
        unfold b_fits
        rw [sSeq_nx h0]
        exact sSeq_rt h1
      exact run_io (c := c_fits) rfl rfl rfl hb rfl
end Z

/-! plain Lean: mends, findings -/
namespace Z
open PySem PySem.Spec PyProof.Rows L2
theorem look_app {i : Int} : ∀ {e : Env} {s : T} {l : Env}, e.lookup i = some s → (e ++ l).lookup i = some s
  | (j, t) :: e, s, l, h => by
    rw [List.lookup_cons] at h
    rw [List.cons_append, List.lookup_cons]
    cases q : i == j with
    | true => rw [q] at h; exact h
    | false => rw [q] at h; exact look_app h
theorem look_app_none {i : Int} : ∀ {e l : Env}, e.lookup i = none → (e ++ l).lookup i = l.lookup i
  | [], l, _ => rfl
  | (j, t) :: e, l, h => by
    rw [List.lookup_cons] at h
    rw [List.cons_append, List.lookup_cons]
    cases q : i == j with
    | true => rw [q] at h; cases h
    | false => rw [q] at h; exact look_app_none h
mutual
theorem fitE_keep : ∀ (p t : T) (e : Env) (i : Int) (s : T), e.lookup i = some s → (fitE p t e).2.lookup i = some s
  | .h j, t, e, i, s, h => by
    unfold fitE
    cases e.lookup j with
    | none => exact look_app h
    | some u => exact h
  | .n w ps, .n v ts, e, i, s, h => by
    unfold fitE
    split
    · exact fitEs_keep ps ts e i s h
    · exact h
  | .n _ _, .h _, e, i, s, h => by simpa [fitE] using h
theorem fitEs_keep : ∀ (ps ts : List T) (e : Env) (i : Int) (s : T), e.lookup i = some s → (fitEs ps ts e).2.lookup i = some s
  | [], _, e, i, s, h => by simpa [fitEs] using h
  | _ :: _, [], e, i, s, h => by simpa [fitEs] using h
  | p :: ps, t :: ts, e, i, s, h => by
    simp only [fitEs]
    exact fitEs_keep ps ts _ i s (fitE_keep p t e i s h)
end
mutual
/-- what fits is the pattern filled -/
theorem fitE_sub : ∀ (p t : T) (e : Env), (fitE p t e).1 = true → ∀ e', (∀ i s, (fitE p t e).2.lookup i = some s → e'.lookup i = some s) → (∀ i, i ∈ p.holes → ∃ s, e'.lookup i = some s) ∧ T.sub (fun i => (List.lookup i e').getD (.h i)) p = t
  | .h j, t, e, hb, e', hk => by
    unfold fitE at hb hk
    cases q : e.lookup j with
    | none =>
      rw [q] at hb hk
      have : List.lookup j (e ++ [(j, t)]) = some t := by rw [look_app_none q]; simp
      have h2 := hk j t this
      exact ⟨fun i hi => by simp only [T.holes, List.mem_singleton] at hi; subst hi; exact ⟨t, h2⟩, by simp only [T.sub, h2, Option.getD_some]⟩
    | some u =>
      rw [q] at hb hk
      have e1 : u = t := of_decide_eq_true hb
      have h2 := hk j u q
      exact ⟨fun i hi => by simp only [T.holes, List.mem_singleton] at hi; subst hi; exact ⟨u, h2⟩, by simp only [T.sub, h2, Option.getD_some]; exact e1⟩
  | .n w ps, .n v ts, e, hb, e', hk => by
    unfold fitE at hb hk
    by_cases q : w = v ∧ ps.length = ts.length
    · rw [if_pos q] at hb hk
      obtain ⟨a, b⟩ := fitEs_sub ps ts e q.2 hb e' hk
      exact ⟨fun i hi => a i (by simpa [T.holes] using hi), by simp only [T.sub, b, q.1]⟩
    · rw [if_neg q] at hb; cases hb
  | .n _ _, .h _, e, hb, e', hk => by simp [fitE] at hb
theorem fitEs_sub : ∀ (ps ts : List T) (e : Env), ps.length = ts.length → (fitEs ps ts e).1 = true → ∀ e', (∀ i s, (fitEs ps ts e).2.lookup i = some s → e'.lookup i = some s) → (∀ i, i ∈ T.holesL ps → ∃ s, e'.lookup i = some s) ∧ T.subs (fun i => (List.lookup i e').getD (.h i)) ps = ts
  | [], [], e, _, _, e', _ => ⟨fun i hi => (by simp [T.holesL] at hi), rfl⟩
  | p :: ps, t :: ts, e, hl, hb, e', hk => by
    simp only [fitEs, Bool.and_eq_true] at hb hk
    obtain ⟨a1, b1⟩ := fitE_sub p t e hb.1 e' fun i s h => hk i s (fitEs_keep ps ts _ i s h)
    obtain ⟨a2, b2⟩ := fitEs_sub ps ts _ (by simpa using hl) hb.2 e' hk
    refine ⟨fun i hi => ?_, by simp only [T.subs, b1, b2]⟩
    simp only [T.holesL, List.mem_append] at hi
    exact hi.elim (a1 i) (a2 i)
end
mutual
/-- where a filling is, it fits -/
theorem fitE_all (σ : Int → T) : ∀ (p t : T) (e : Env), T.sub σ p = t → (∀ i s, e.lookup i = some s → σ i = s) → (fitE p t e).1 = true ∧ ∀ i s, (fitE p t e).2.lookup i = some s → σ i = s
  | .h j, t, e, hs, hk => by
    simp only [T.sub] at hs
    unfold fitE
    cases q : e.lookup j with
    | none =>
      refine ⟨rfl, fun i s h => ?_⟩
      cases q2 : e.lookup i with
      | some u => rw [look_app q2] at h; cases h; exact hk i _ q2
      | none =>
        rw [look_app_none q2, List.lookup_cons] at h
        cases q3 : i == j with
        | true => rw [q3] at h; cases h; rw [eq_of_beq q3]; exact hs
        | false => rw [q3] at h; cases h
    | some u =>
      have e1 : u = t := by rw [← hk j u q]; exact hs
      exact ⟨decide_eq_true e1, hk⟩
  | .n w ps, .n v ts, e, hs, hk => by
    simp only [T.sub, T.n.injEq] at hs
    have hl : ps.length = ts.length := by rw [← hs.2, T.subs_map, List.length_map]
    unfold fitE
    rw [if_pos ⟨hs.1, hl⟩]
    exact fitEs_all σ ps ts e hs.2 hk
  | .n _ _, .h _, e, hs, hk => by simp [T.sub] at hs
theorem fitEs_all (σ : Int → T) : ∀ (ps ts : List T) (e : Env), T.subs σ ps = ts → (∀ i s, e.lookup i = some s → σ i = s) → (fitEs ps ts e).1 = true ∧ ∀ i s, (fitEs ps ts e).2.lookup i = some s → σ i = s
  | [], _, e, _, hk => by simp only [fitEs]; exact ⟨trivial, hk⟩
  | p :: ps, [], e, hs, _ => by simp [T.subs] at hs
  | p :: ps, t :: ts, e, hs, hk => by
    simp only [T.subs, List.cons.injEq] at hs
    obtain ⟨a1, b1⟩ := fitE_all σ p t e hs.1 hk
    obtain ⟨a2, b2⟩ := fitEs_all σ ps ts _ hs.2 b1
    simp only [fitEs, a1, a2, Bool.and_self]
    exact ⟨trivial, b2⟩
end
mutual
/-- only the holes matter -/
theorem sub_congr {σ τ : Int → T} : ∀ p : T, (∀ i, i ∈ p.holes → σ i = τ i) → T.sub σ p = T.sub τ p
  | .h i, q => q i (by simp [T.holes])
  | .n w ps, q => by simp only [T.sub, subs_congr ps q]
theorem subs_congr {σ τ : Int → T} : ∀ l : List T, (∀ i, i ∈ T.holesL l → σ i = τ i) → T.subs σ l = T.subs τ l
  | [], _ => rfl
  | t :: ts, q => by
    simp only [T.holesL, List.mem_append] at q
    simp only [T.subs, sub_congr t fun i hi => q i (.inl hi), subs_congr ts fun i hi => q i (.inr hi)]
end
mutual
theorem sub_inj {σ τ : Int → T} : ∀ p : T, T.sub σ p = T.sub τ p → ∀ i, i ∈ p.holes → σ i = τ i
  | .h j, e, i, hi => by simp only [T.holes, List.mem_singleton] at hi; subst hi; exact e
  | .n w ps, e, i, hi => by
    simp only [T.sub, T.n.injEq, true_and] at e
    exact subs_inj ps e i hi
theorem subs_inj {σ τ : Int → T} : ∀ l : List T, T.subs σ l = T.subs τ l → ∀ i, i ∈ T.holesL l → σ i = τ i
  | [], _, i, hi => by simp [T.holesL] at hi
  | t :: ts, e, i, hi => by
    simp only [T.subs, List.cons.injEq] at e
    simp only [T.holesL, List.mem_append] at hi
    exact hi.elim (sub_inj t e.1 i) (subs_inj ts e.2 i)
end
/-! ### mended -/
noncomputable def envF (e : Env) (i : Int) : T := (List.lookup i e).getD (.h i)
/-- what a rule makes of a tree -/
noncomputable def mendE (r : Ru) (t : T) : Option T := if (fitE r.p t []).1 = true then some (T.sub (envF (fitE r.p t []).2) r.m) else none
theorem good_holes {r : Ru} (g : r.good) {i : Int} (hi : i ∈ r.m.holes) : i ∈ r.p.holes := by
  have := g.ho i
  have h1 : 0 < r.m.holes.count i := List.count_pos_iff.2 hi
  exact List.count_pos_iff.1 (by omega)
/-- by any filling -/
theorem mendE_some {r : Ru} (g : r.good) {t : T} {σ : Int → T} (h : T.sub σ r.p = t) : mendE r t = some (T.sub σ r.m) := by
  obtain ⟨a, b⟩ := fitE_all σ r.p t [] h fun i s z => (by cases z)
  unfold mendE
  rw [if_pos a]
  congr 1
  obtain ⟨hd, hs⟩ := fitE_sub r.p t [] a _ fun i s z => z
  refine sub_congr _ fun i hi => ?_
  obtain ⟨s, es⟩ := hd i (good_holes g hi)
  unfold envF
  rw [es, Option.getD_some]
  exact (b i s es).symm
theorem mendE_none {r : Ru} {t : T} (h : ∀ σ, T.sub σ r.p ≠ t) : mendE r t = none := by
  unfold mendE
  cases q : (fitE r.p t []).1 with
  | false => rfl
  | true => exact absurd (fitE_sub r.p t [] q _ fun i s z => z).2 (h _)
theorem mendE_cases {r : Ru} (g : r.good) (t : T) : (∃ σ, T.sub σ r.p = t ∧ mendE r t = some (T.sub σ r.m)) ∨ ((∀ σ, T.sub σ r.p ≠ t) ∧ mendE r t = none) := by
  by_cases q : ∃ σ, T.sub σ r.p = t
  · obtain ⟨σ, hs⟩ := q; exact .inl ⟨σ, hs, mendE_some g hs⟩
  · exact .inr ⟨fun σ z => q ⟨σ, z⟩, mendE_none fun σ z => q ⟨σ, z⟩⟩
theorem ev_mended {Pg : Nat → CF} (H : HasF Pg) {r : Ru} (g : r.good) {t : T} (ht : t.tree) (hd : t.dep ≤ 95) : Ev Pg 8 31 [r.d, t.d] (.ok (oD (mendE r t)) .non) := ev_of H.e31 (m := 7) fun k hk => by
  have p6 := g.p6
  have m6 := g.m6
  have hz := T.holes_sz r.p
  have ef := ev_fits H 6 r.p t [] (Nat.le_trans (T.dep_sz _) p6) p6 ht hd (by simp; omega) k hk
  have i1 : ixS r.d (.int 1) = some (.v r.p.d) := rfl
  have i2 : ixS r.d (.int 2) = some (.v r.m.d) := rfl
  have e0 : eD [] = .dct [] [] := rfl
  rw [e0] at ef
  have h0 : sAsg 2 mDnew [.val r.d, .val t.d, .un] = .nx [.val r.d, .val t.d, .ow false (.dct [] [])] := by simp only [runF, fr0, ioOf, mvM, mC, mN, mBin, mUn, mB, mAndT, mOrT, mNotT, mAndV, mOrV, mNotV, mHs, mDs, mTup, mLst, pks, mPrim, sSeq, sNil, oS, sPass, sExpr, sRet, sIf, setVq, nl_un, nl_val, nl_own, putH, sAsg, tN, tNil, tCons, tT, sAsgT, mCall, pk, mv, RD.hd, Out.bind, mTrue, mCh, mMt, mSl, mO0, mO1, mLM, mLM.isOwnL, isOwn, mComp, mCompN, lockF, unlk, sFor, sForN, unlS, mIL, mIT, mIS, mIR1, mIR2, wipeF, restF, vsOkq, sRaise, sTry, mDnew, List.getElem?_cons_zero, List.getElem?_cons_succ, List.set_cons_zero, List.set_cons_succ, List.length_cons, List.length_nil, List.map_cons, List.map_nil, List.replicate_succ, List.replicate_zero, List.cons_append, List.nil_append, List.all_cons, List.all_nil, Option.map_some, Option.map_none, reduceIte, sl0, sl1, sl2, sl3, sl4, sl5, sl6, sl7, sl8, sl9, sl10, sl11, sl12, sl13, sl14, sl15, sl16, sl17, Bool.true_and, Bool.and_true, Bool.not_true, Bool.not_false, Nat.reduceAdd, Nat.reduceSub, Nat.zero_add, Bool.false_eq_true, decide_true, decide_false, List.length_append, Int.cast_ofNat_Int, Int.natCast_one, Int.natCast_zero, Int.reduceEq, Int.reduceLT, Int.reduceLE, Int.reduceAdd, Int.reduceMul, Int.reduceSub, Int.reduceNeg, ne_eq, not_true_eq_false, not_false_eq_true]
  have tst : mNotT (mB (mCallI (call Pg k) 29 [(mBin ixS (mN 0) (mC (.int 1))), (mN 1)] 2)) [.val r.d, .val t.d, .ow false (.dct [] [])] = .ok (!(fitE r.p t []).1) [.val r.d, .val t.d, .ow false (eD (fitE r.p t []).2)] := by
    simp only [runF, fr0, ioOf, mvM, mC, mN, mBin, mUn, mB, mAndT, mOrT, mNotT, mAndV, mOrV, mNotV, mHs, mDs, mTup, mLst, pks, mPrim, sSeq, sNil, oS, sPass, sExpr, sRet, sIf, setVq, nl_un, nl_val, nl_own, putH, sAsg, tN, tNil, tCons, tT, sAsgT, mCall, pk, mv, RD.hd, Out.bind, mTrue, mCh, mMt, mSl, mO0, mO1, mLM, mLM.isOwnL, isOwn, mComp, mCompN, lockF, unlk, sFor, sForN, unlS, mIL, mIT, mIS, mIR1, mIR2, wipeF, restF, vsOkq, sRaise, sTry, mDnew, List.getElem?_cons_zero, List.getElem?_cons_succ, List.set_cons_zero, List.set_cons_succ, List.length_cons, List.length_nil, List.map_cons, List.map_nil, List.replicate_succ, List.replicate_zero, List.cons_append, List.nil_append, List.all_cons, List.all_nil, Option.map_some, Option.map_none, reduceIte, sl0, sl1, sl2, sl3, sl4, sl5, sl6, sl7, sl8, sl9, sl10, sl11, sl12, sl13, sl14, sl15, sl16, sl17, Bool.true_and, Bool.and_true, Bool.not_true, Bool.not_false, Nat.reduceAdd, Nat.reduceSub, Nat.zero_add, Bool.false_eq_true, decide_true, decide_false, List.length_append, Int.cast_ofNat_Int, Int.natCast_one, Int.natCast_zero, Int.reduceEq, Int.reduceLT, Int.reduceLE, Int.reduceAdd, Int.reduceMul, Int.reduceSub, Int.reduceNeg, ne_eq, not_true_eq_false, not_false_eq_true, mCallI, mDi, i1, ef]
  cases q : (fitE r.p t []).1 with
  | false =>
    have e : mendE r t = none := by unfold mendE; rw [q]; rfl
    rw [e]
    rw [q] at tst
    have h1 : sIf (mNotT (mB (mCallI (call Pg k) 29 [(mBin ixS (mN 0) (mC (.int 1))), (mN 1)] 2))) (sRet (mC .non)) sNil [.val r.d, .val t.d, .ow false (.dct [] [])] = .rt .non [.val r.d, .val t.d, .ow false (eD (fitE r.p t []).2)] := by
      rw [ifyes tst]; simp only [runF, fr0, ioOf, mvM, mC, mN, mBin, mUn, mB, mAndT, mOrT, mNotT, mAndV, mOrV, mNotV, mHs, mDs, mTup, mLst, pks, mPrim, sSeq, sNil, oS, sPass, sExpr, sRet, sIf, setVq, nl_un, nl_val, nl_own, putH, sAsg, tN, tNil, tCons, tT, sAsgT, mCall, pk, mv, RD.hd, Out.bind, mTrue, mCh, mMt, mSl, mO0, mO1, mLM, mLM.isOwnL, isOwn, mComp, mCompN, lockF, unlk, sFor, sForN, unlS, mIL, mIT, mIS, mIR1, mIR2, wipeF, restF, vsOkq, sRaise, sTry, mDnew, List.getElem?_cons_zero, List.getElem?_cons_succ, List.set_cons_zero, List.set_cons_succ, List.length_cons, List.length_nil, List.map_cons, List.map_nil, List.replicate_succ, List.replicate_zero, List.cons_append, List.nil_append, List.all_cons, List.all_nil, Option.map_some, Option.map_none, reduceIte, sl0, sl1, sl2, sl3, sl4, sl5, sl6, sl7, sl8, sl9, sl10, sl11, sl12, sl13, sl14, sl15, sl16, sl17, Bool.true_and, Bool.and_true, Bool.not_true, Bool.not_false, Nat.reduceAdd, Nat.reduceSub, Nat.zero_add, Bool.false_eq_true, decide_true, decide_false, List.length_append, Int.cast_ofNat_Int, Int.natCast_one, Int.natCast_zero, Int.reduceEq, Int.reduceLT, Int.reduceLE, Int.reduceAdd, Int.reduceMul, Int.reduceSub, Int.reduceNeg, ne_eq, not_true_eq_false, not_false_eq_true]
    have hb : b_mended (call Pg k) [.val r.d, .val t.d, .un] = .rt .non [.val r.d, .val t.d, .ow false (eD (fitE r.p t []).2)] := by
      unfold b_mended; rw [sSeq_nx h0]; exact sSeq_rt h1
    exact run_ok (c := c_mended) rfl rfl rfl hb
  | true =>
    have e : mendE r t = some (T.sub (envF (fitE r.p t []).2) r.m) := by unfold mendE; rw [if_pos q]
    rw [e]
    rw [q] at tst
    obtain ⟨hdm, _⟩ := fitE_sub r.p t [] q _ fun i s z => z
    have fl := ev_filled H.e30 (ks := (fitE r.p t []).2.map fun x => (Sum.inl x.1 : Key)) (ds := (fitE r.p t []).2.map fun x => x.2.d) (σ := envF (fitE r.p t []).2) 6 r.m (Nat.le_trans (T.dep_sz _) m6) (by omega) (fun i hi => by
      obtain ⟨s, es⟩ := hdm i (good_holes g hi)
      rw [look_e, es]
      unfold envF
      rw [es]; rfl) k hk
    have h1 : sIf (mNotT (mB (mCallI (call Pg k) 29 [(mBin ixS (mN 0) (mC (.int 1))), (mN 1)] 2))) (sRet (mC .non)) sNil [.val r.d, .val t.d, .ow false (.dct [] [])] = .nx [.val r.d, .val t.d, .ow false (eD (fitE r.p t []).2)] := by
      rw [ifnot tst]; simp only [runF, fr0, ioOf, mvM, mC, mN, mBin, mUn, mB, mAndT, mOrT, mNotT, mAndV, mOrV, mNotV, mHs, mDs, mTup, mLst, pks, mPrim, sSeq, sNil, oS, sPass, sExpr, sRet, sIf, setVq, nl_un, nl_val, nl_own, putH, sAsg, tN, tNil, tCons, tT, sAsgT, mCall, pk, mv, RD.hd, Out.bind, mTrue, mCh, mMt, mSl, mO0, mO1, mLM, mLM.isOwnL, isOwn, mComp, mCompN, lockF, unlk, sFor, sForN, unlS, mIL, mIT, mIS, mIR1, mIR2, wipeF, restF, vsOkq, sRaise, sTry, mDnew, List.getElem?_cons_zero, List.getElem?_cons_succ, List.set_cons_zero, List.set_cons_succ, List.length_cons, List.length_nil, List.map_cons, List.map_nil, List.replicate_succ, List.replicate_zero, List.cons_append, List.nil_append, List.all_cons, List.all_nil, Option.map_some, Option.map_none, reduceIte, sl0, sl1, sl2, sl3, sl4, sl5, sl6, sl7, sl8, sl9, sl10, sl11, sl12, sl13, sl14, sl15, sl16, sl17, Bool.true_and, Bool.and_true, Bool.not_true, Bool.not_false, Nat.reduceAdd, Nat.reduceSub, Nat.zero_add, Bool.false_eq_true, decide_true, decide_false, List.length_append, Int.cast_ofNat_Int, Int.natCast_one, Int.natCast_zero, Int.reduceEq, Int.reduceLT, Int.reduceLE, Int.reduceAdd, Int.reduceMul, Int.reduceSub, Int.reduceNeg, ne_eq, not_true_eq_false, not_false_eq_true]
    have h2 : sRet (mCall (call Pg k) 30 [(mBin ixS (mN 0) (mC (.int 2))), (mN 2)]) [.val r.d, .val t.d, .ow false (eD (fitE r.p t []).2)] = .rt (T.sub (envF (fitE r.p t []).2) r.m).d [.val r.d, .val t.d, .val (eD (fitE r.p t []).2)] := by
      simp only [runF, fr0, ioOf, mvM, mC, mN, mBin, mUn, mB, mAndT, mOrT, mNotT, mAndV, mOrV, mNotV, mHs, mDs, mTup, mLst, pks, mPrim, sSeq, sNil, oS, sPass, sExpr, sRet, sIf, setVq, nl_un, nl_val, nl_own, putH, sAsg, tN, tNil, tCons, tT, sAsgT, mCall, pk, mv, RD.hd, Out.bind, mTrue, mCh, mMt, mSl, mO0, mO1, mLM, mLM.isOwnL, isOwn, mComp, mCompN, lockF, unlk, sFor, sForN, unlS, mIL, mIT, mIS, mIR1, mIR2, wipeF, restF, vsOkq, sRaise, sTry, mDnew, List.getElem?_cons_zero, List.getElem?_cons_succ, List.set_cons_zero, List.set_cons_succ, List.length_cons, List.length_nil, List.map_cons, List.map_nil, List.replicate_succ, List.replicate_zero, List.cons_append, List.nil_append, List.all_cons, List.all_nil, Option.map_some, Option.map_none, reduceIte, sl0, sl1, sl2, sl3, sl4, sl5, sl6, sl7, sl8, sl9, sl10, sl11, sl12, sl13, sl14, sl15, sl16, sl17, Bool.true_and, Bool.and_true, Bool.not_true, Bool.not_false, Nat.reduceAdd, Nat.reduceSub, Nat.zero_add, Bool.false_eq_true, decide_true, decide_false, List.length_append, Int.cast_ofNat_Int, Int.natCast_one, Int.natCast_zero, Int.reduceEq, Int.reduceLT, Int.reduceLE, Int.reduceAdd, Int.reduceMul, Int.reduceSub, Int.reduceNeg, ne_eq, not_true_eq_false, not_false_eq_true, i2, eD, fl]
    have hb : b_mended (call Pg k) [.val r.d, .val t.d, .un] = .rt (T.sub (envF (fitE r.p t []).2) r.m).d [.val r.d, .val t.d, .val (eD (fitE r.p t []).2)] := by
      unfold b_mended; rw [sSeq_nx h0, sSeq_nx h1, h2]
    exact run_ok (c := c_mended) rfl rfl rfl hb
/-! ### findings -/
abbrev Fd := List Nat × Str
def fD (f : Fd) : D := .tup [pD f.1, .str f.2]
noncomputable def findsP (rs : List Ru) (t : T) (p : List Nat) : List Fd := match T.at t p with
  | some u => (rs.filter fun r => (mendE r u).isSome).map fun r => (p, r.nm)
  | none => []
noncomputable def finds (rs : List Ru) (t : T) : List Fd := (T.plc true t []).flatMap (findsP rs t)
theorem oD_non (o : Option T) : isNotS (oD o) .non = some (.v (.bl o.isSome)) := by
  cases o with
  | none => rfl
  | some t => cases t <;> rfl
mutual
theorem plc_at (loud : Bool) : ∀ (t : T) (p : List Nat) (q : List Nat), q ∈ T.plc loud t p → ∃ r u, q = p ++ r ∧ T.at t r = some u
  | .h i, p, q, hm => by simp only [T.plc, List.mem_singleton] at hm; exact ⟨[], .h i, by simp [hm], rfl⟩
  | .n w ps, p, q, hm => by
    simp only [T.plc] at hm
    split at hm
    · cases hm
    · rcases List.mem_cons.1 hm with rfl | hm
      · exact ⟨[], .n w ps, by simp, rfl⟩
      · obtain ⟨j, r, v, u, e1, e2, e3⟩ := plcs_at loud ps p 0 q hm
        refine ⟨j :: r, u, by simpa using e1, ?_⟩
        simp only [Nat.sub_zero] at e2
        simp only [T.at, e2, e3]
theorem plcs_at (loud : Bool) : ∀ (l : List T) (p : List Nat) (k : Nat) (q : List Nat), q ∈ T.plcs loud l p k → ∃ j r v u, q = p ++ (j :: r) ∧ l[j - k]? = some v ∧ T.at v r = some u ∧ k ≤ j
  | [], _, _, _, hm => by simp [T.plcs] at hm
  | t :: ts, p, k, q, hm => by
    simp only [T.plcs, List.mem_append] at hm
    rcases hm with hm | hm
    · obtain ⟨r, u, e1, e2⟩ := plc_at loud t (p ++ [k]) q hm
      exact ⟨k, r, t, u, by simpa using e1, by simp, e2, Nat.le_refl _⟩
    · obtain ⟨j, r, v, u, e1, e2, e3, e4⟩ := plcs_at loud ts p (k + 1) q hm
      refine ⟨j, r, v, u, e1, ?_, e3, by omega⟩
      rw [show j - k = (j - (k + 1)) + 1 by omega, List.getElem?_cons_succ]; exact e2
end
theorem at_tree : ∀ (p : List Nat) (t u : T), t.tree → T.at t p = some u → u.tree ∧ u.dep ≤ t.dep ∧ u.sz ≤ t.sz
  | [], t, u, ht, e => by cases t <;> (simp only [T.at, Option.some.injEq] at e; subst e; exact ⟨ht, Nat.le_refl _, Nat.le_refl _⟩)
  | i :: p, .h _, u, ht, _ => ht.elim
  | i :: p, .n w ps, u, ht, e => by
    simp only [T.at] at e
    cases q : ps[i]? with
    | none => rw [q] at e; cases e
    | some v =>
      rw [q] at e
      have hm := List.mem_of_getElem? q
      obtain ⟨a, b, c⟩ := at_tree p v u (T.trees_mem.1 ht.2.2.2 v hm) e
      have d1 := T.dep_mem hm
      have d2 := T.sz_mem hm
      simp only [T.dep, T.sz]
      exact ⟨a, by omega, by omega⟩
theorem findsP_len (rs : List Ru) (t : T) (p : List Nat) : (findsP rs t p).length ≤ rs.length := by
  unfold findsP
  split
  · rw [List.length_map]; exact List.length_filter_le _ _
  · simp
theorem fa_step {Φ : Phi} {rs : List Ru} (g4 : rs.length ≤ 4) {t u : T} {p : List Nat} {x : D} {acc : List D} (ha : acc.length ≤ 1000) (eu : T.at t p = some u) (h27 : Φ 27 [t.d, pD p] = .ok u.d .non) (h31 : ∀ r, r ∈ rs → Φ 31 [r.d, u.d] = .ok (oD (mendE r u)) .non) {s5 : SV} (h5 : nl s5 = true) :
    b_findings_at_l1 Φ [.val (bookD rs), .val t.d, .val x, .ow false (.lst acc), .val (pD p), s5, .un] = .nx [.val (bookD rs), .val t.d, .val x, .ow false (.lst (acc ++ (findsP rs t p).map fD)), .val (pD p), .val u.d, .un] := by
  have h0 : sAsg 5 (mCall Φ 27 [(mN 1), (mN 4)]) [.val (bookD rs), .val t.d, .val x, .ow false (.lst acc), .val (pD p), s5, .un] = .nx [.val (bookD rs), .val t.d, .val x, .ow false (.lst acc), .val (pD p), .val u.d, .un] := by simp only [runF, fr0, ioOf, mvM, mC, mN, mBin, mUn, mB, mAndT, mOrT, mNotT, mAndV, mOrV, mNotV, mHs, mDs, mTup, mLst, pks, mPrim, sSeq, sNil, oS, sPass, sExpr, sRet, sIf, setVq, nl_un, nl_val, nl_own, putH, sAsg, tN, tNil, tCons, tT, sAsgT, mCall, pk, mv, RD.hd, Out.bind, mTrue, mCh, mMt, mSl, mO0, mO1, mLM, mLM.isOwnL, isOwn, mComp, mCompN, lockF, unlk, sFor, sForN, unlS, mIL, mIT, mIS, mIR1, mIR2, wipeF, restF, vsOkq, sRaise, sTry, mDnew, List.getElem?_cons_zero, List.getElem?_cons_succ, List.set_cons_zero, List.set_cons_succ, List.length_cons, List.length_nil, List.map_cons, List.map_nil, List.replicate_succ, List.replicate_zero, List.cons_append, List.nil_append, List.all_cons, List.all_nil, Option.map_some, Option.map_none, reduceIte, sl0, sl1, sl2, sl3, sl4, sl5, sl6, sl7, sl8, sl9, sl10, sl11, sl12, sl13, sl14, sl15, sl16, sl17, Bool.true_and, Bool.and_true, Bool.not_true, Bool.not_false, Nat.reduceAdd, Nat.reduceSub, Nat.zero_add, Bool.false_eq_true, decide_true, decide_false, List.length_append, Int.cast_ofNat_Int, Int.natCast_one, Int.natCast_zero, Int.reduceEq, Int.reduceLT, Int.reduceLE, Int.reduceAdd, Int.reduceMul, Int.reduceSub, Int.reduceNeg, ne_eq, not_true_eq_false, not_false_eq_true, h27, h5]
  have cr : compR (tN 6) (b_findings_at_t1 Φ) (b_findings_at_e1 Φ) [6] (rs.map Ru.d) [.val (bookD rs), .val t.d, .val x, .ow false (.lst acc), .val (pD p), .val u.d, .un] = .ok (.f (.lst ((rs.filter fun r => (mendE r u).isSome).map fun r => .tup [pD p, .str r.nm]))) [.val (bookD rs), .val t.d, .val x, .ow false (.lst acc), .val (pD p), .val u.d, .un] := by
    refine compR_FA Ru.d _ _ rs rfl (sl64 (by omega)) rfl rfl fun r hr => ⟨[.val (bookD rs), .val t.d, .val x, .ow false (.lst acc), .val (pD p), .val u.d, .val r.d], [.val (bookD rs), .val t.d, .val x, .ow false (.lst acc), .val (pD p), .val u.d, .val r.d], rfl, ?_, fun _ => rfl, fun _ => ⟨[.val (bookD rs), .val t.d, .val x, .ow false (.lst acc), .val (pD p), .val u.d, .val r.d], ?_, rfl⟩⟩
    · simp only [b_findings_at_t1, runF, fr0, ioOf, mvM, mC, mN, mBin, mUn, mB, mAndT, mOrT, mNotT, mAndV, mOrV, mNotV, mHs, mDs, mTup, mLst, pks, mPrim, sSeq, sNil, oS, sPass, sExpr, sRet, sIf, setVq, nl_un, nl_val, nl_own, putH, sAsg, tN, tNil, tCons, tT, sAsgT, mCall, pk, mv, RD.hd, Out.bind, mTrue, mCh, mMt, mSl, mO0, mO1, mLM, mLM.isOwnL, isOwn, mComp, mCompN, lockF, unlk, sFor, sForN, unlS, mIL, mIT, mIS, mIR1, mIR2, wipeF, restF, vsOkq, sRaise, sTry, mDnew, List.getElem?_cons_zero, List.getElem?_cons_succ, List.set_cons_zero, List.set_cons_succ, List.length_cons, List.length_nil, List.map_cons, List.map_nil, List.replicate_succ, List.replicate_zero, List.cons_append, List.nil_append, List.all_cons, List.all_nil, Option.map_some, Option.map_none, reduceIte, sl0, sl1, sl2, sl3, sl4, sl5, sl6, sl7, sl8, sl9, sl10, sl11, sl12, sl13, sl14, sl15, sl16, sl17, Bool.true_and, Bool.and_true, Bool.not_true, Bool.not_false, Nat.reduceAdd, Nat.reduceSub, Nat.zero_add, Bool.false_eq_true, decide_true, decide_false, List.length_append, Int.cast_ofNat_Int, Int.natCast_one, Int.natCast_zero, Int.reduceEq, Int.reduceLT, Int.reduceLE, Int.reduceAdd, Int.reduceMul, Int.reduceSub, Int.reduceNeg, ne_eq, not_true_eq_false, not_false_eq_true, h31 r hr, oD_non]
    · have i0 : ixS r.d (.int 0) = some (.v (.str r.nm)) := rfl
      simp only [b_findings_at_e1, runF, fr0, ioOf, mvM, mC, mN, mBin, mUn, mB, mAndT, mOrT, mNotT, mAndV, mOrV, mNotV, mHs, mDs, mTup, mLst, pks, mPrim, sSeq, sNil, oS, sPass, sExpr, sRet, sIf, setVq, nl_un, nl_val, nl_own, putH, sAsg, tN, tNil, tCons, tT, sAsgT, mCall, pk, mv, RD.hd, Out.bind, mTrue, mCh, mMt, mSl, mO0, mO1, mLM, mLM.isOwnL, isOwn, mComp, mCompN, lockF, unlk, sFor, sForN, unlS, mIL, mIT, mIS, mIR1, mIR2, wipeF, restF, vsOkq, sRaise, sTry, mDnew, List.getElem?_cons_zero, List.getElem?_cons_succ, List.set_cons_zero, List.set_cons_succ, List.length_cons, List.length_nil, List.map_cons, List.map_nil, List.replicate_succ, List.replicate_zero, List.cons_append, List.nil_append, List.all_cons, List.all_nil, Option.map_some, Option.map_none, reduceIte, sl0, sl1, sl2, sl3, sl4, sl5, sl6, sl7, sl8, sl9, sl10, sl11, sl12, sl13, sl14, sl15, sl16, sl17, Bool.true_and, Bool.and_true, Bool.not_true, Bool.not_false, Nat.reduceAdd, Nat.reduceSub, Nat.zero_add, Bool.false_eq_true, decide_true, decide_false, List.length_append, Int.cast_ofNat_Int, Int.natCast_one, Int.natCast_zero, Int.reduceEq, Int.reduceLT, Int.reduceLE, Int.reduceAdd, Int.reduceMul, Int.reduceSub, Int.reduceNeg, ne_eq, not_true_eq_false, not_false_eq_true, i0]
  have e : (findsP rs t p).map fD = (rs.filter fun r => (mendE r u).isSome).map fun r => .tup [pD p, .str r.nm] := by
    unfold findsP; rw [eu, List.map_map]; rfl
  rw [← e] at cr
  have lx : acc.length + ((findsP rs t p).map fD).length ≤ sizeLine := Nat.le_trans (show _ ≤ 1004 by rw [List.length_map]; have := findsP_len rs t p; omega) (by decide)
  have mc : mComp (mIT (mN 0)) [6] (tN 6) (b_findings_at_t1 Φ) (b_findings_at_e1 Φ) [.val (bookD rs), .val t.d, .val x, .ow false (.lst acc), .val (pD p), .val u.d, .un] = .ok (.f (.lst ((findsP rs t p).map fD))) [.val (bookD rs), .val t.d, .val x, .ow false (.lst acc), .val (pD p), .val u.d, .un] := mComp_ok (ds := rs.map Ru.d) (A1 := [.val (bookD rs), .val t.d, .val x, .ow false (.lst acc), .val (pD p), .val u.d, .un]) (by simp only [runF, fr0, ioOf, mvM, mC, mN, mBin, mUn, mB, mAndT, mOrT, mNotT, mAndV, mOrV, mNotV, mHs, mDs, mTup, mLst, pks, mPrim, sSeq, sNil, oS, sPass, sExpr, sRet, sIf, setVq, nl_un, nl_val, nl_own, putH, sAsg, tN, tNil, tCons, tT, sAsgT, mCall, pk, mv, RD.hd, Out.bind, mTrue, mCh, mMt, mSl, mO0, mO1, mLM, mLM.isOwnL, isOwn, mComp, mCompN, lockF, unlk, sFor, sForN, unlS, mIL, mIT, mIS, mIR1, mIR2, wipeF, restF, vsOkq, sRaise, sTry, mDnew, List.getElem?_cons_zero, List.getElem?_cons_succ, List.set_cons_zero, List.set_cons_succ, List.length_cons, List.length_nil, List.map_cons, List.map_nil, List.replicate_succ, List.replicate_zero, List.cons_append, List.nil_append, List.all_cons, List.all_nil, Option.map_some, Option.map_none, reduceIte, sl0, sl1, sl2, sl3, sl4, sl5, sl6, sl7, sl8, sl9, sl10, sl11, sl12, sl13, sl14, sl15, sl16, sl17, Bool.true_and, Bool.and_true, Bool.not_true, Bool.not_false, Nat.reduceAdd, Nat.reduceSub, Nat.zero_add, Bool.false_eq_true, decide_true, decide_false, List.length_append, Int.cast_ofNat_Int, Int.natCast_one, Int.natCast_zero, Int.reduceEq, Int.reduceLT, Int.reduceLE, Int.reduceAdd, Int.reduceMul, Int.reduceSub, Int.reduceNeg, ne_eq, not_true_eq_false, not_false_eq_true, bookD]) cr
  have h1 : sExpr (mLM 3 lmExtend [(mComp (mIT (mN 0)) [6] (tN 6) (b_findings_at_t1 Φ) (b_findings_at_e1 Φ))]) [.val (bookD rs), .val t.d, .val x, .ow false (.lst acc), .val (pD p), .val u.d, .un] = .nx [.val (bookD rs), .val t.d, .val x, .ow false (.lst (acc ++ (findsP rs t p).map fD)), .val (pD p), .val u.d, .un] := by simp only [runF, fr0, ioOf, mvM, mC, mN, mBin, mUn, mB, mAndT, mOrT, mNotT, mAndV, mOrV, mNotV, mHs, mDs, mTup, mLst, pks, mPrim, sSeq, sNil, oS, sPass, sExpr, sRet, sIf, setV, putH, sAsg, tN, tNil, tCons, tT, sAsgT, mCall, pk, mv, RD.hd, Out.bind, mTrue, mCh, mMt, mSl, mO0, mO1, mLM, mLM.isOwnL, isOwn, mCompN, lockF, unlk, sFor, sForN, unlS, mIL, mIT, mIS, mIR1, mIR2, wipeF, restF, vsOk, sRaise, sTry, mDnew, List.getElem?_cons_zero, List.getElem?_cons_succ, List.set_cons_zero, List.set_cons_succ, List.length_cons, List.length_nil, List.map_cons, List.map_nil, List.replicate_succ, List.replicate_zero, List.cons_append, List.nil_append, List.all_cons, List.all_nil, Option.map_some, Option.map_none, reduceIte, sl0, sl1, sl2, sl3, sl4, sl5, sl6, sl7, sl8, sl9, sl10, sl11, sl12, sl13, sl14, sl15, sl16, sl17, Bool.true_and, Bool.and_true, Bool.not_true, Bool.not_false, Nat.reduceAdd, Nat.reduceSub, Nat.zero_add, Bool.false_eq_true, decide_true, decide_false, List.length_append, Int.cast_ofNat_Int, Int.natCast_one, Int.natCast_zero, Int.reduceEq, Int.reduceLT, Int.reduceLE, Int.reduceAdd, Int.reduceMul, Int.reduceSub, Int.reduceNeg, ne_eq, not_true_eq_false, not_false_eq_true, mc, lmExtend, lx]
  unfold b_findings_at_l1
  rw [sSeq_nx h0, h1]
theorem fa_loop2 {Φ : Phi} {rs : List Ru} (g4 : rs.length ≤ 4) {t : T} {x : D} : ∀ (ps : List (List Nat)) (acc : List D) (s4 s5 : SV), nl s4 = true → nl s5 = true → acc.length + 4 * ps.length ≤ 1000 → (∀ p, p ∈ ps → ∃ u, T.at t p = some u ∧ Φ 27 [t.d, pD p] = .ok u.d .non ∧ ∀ r, r ∈ rs → Φ 31 [r.d, u.d] = .ok (oD (mendE r u)) .non) →
    ∃ s4' s5', forL (tN 4) (b_findings_at_l1 Φ) (ps.map pD) [.val (bookD rs), .val t.d, .val x, .ow false (.lst acc), s4, s5, .un] = .nx [.val (bookD rs), .val t.d, .val x, .ow false (.lst (acc ++ (ps.flatMap (findsP rs t)).map fD)), s4', s5', .un]
  | [], acc, s4, s5, _, _, _, _ => ⟨s4, s5, by simp [forL]⟩
  | p :: ps, acc, s4, s5, h4, h5, hl, hp => by
    simp only [List.length_cons] at hl
    obtain ⟨u, eu, h27, h31⟩ := hp p (by simp)
    have fl := findsP_len rs t p
    obtain ⟨s4', s5', ih⟩ := fa_loop2 g4 (x := x) ps (acc ++ (findsP rs t p).map fD) (.val (pD p)) (.val u.d) rfl rfl (by rw [List.length_append, List.length_map]; omega) fun q hq => hp q (by simp [hq])
    refine ⟨s4', s5', ?_⟩
    rw [List.map_cons, forL_step (A1 := [.val (bookD rs), .val t.d, .val x, .ow false (.lst acc), .val (pD p), s5, .un]) (by simp only [runF, fr0, ioOf, mvM, mC, mN, mBin, mUn, mB, mAndT, mOrT, mNotT, mAndV, mOrV, mNotV, mHs, mDs, mTup, mLst, pks, mPrim, sSeq, sNil, oS, sPass, sExpr, sRet, sIf, setVq, nl_un, nl_val, nl_own, putH, sAsg, tN, tNil, tCons, tT, sAsgT, mCall, pk, mv, RD.hd, Out.bind, mTrue, mCh, mMt, mSl, mO0, mO1, mLM, mLM.isOwnL, isOwn, mComp, mCompN, lockF, unlk, sFor, sForN, unlS, mIL, mIT, mIS, mIR1, mIR2, wipeF, restF, vsOkq, sRaise, sTry, mDnew, List.getElem?_cons_zero, List.getElem?_cons_succ, List.set_cons_zero, List.set_cons_succ, List.length_cons, List.length_nil, List.map_cons, List.map_nil, List.replicate_succ, List.replicate_zero, List.cons_append, List.nil_append, List.all_cons, List.all_nil, Option.map_some, Option.map_none, reduceIte, sl0, sl1, sl2, sl3, sl4, sl5, sl6, sl7, sl8, sl9, sl10, sl11, sl12, sl13, sl14, sl15, sl16, sl17, Bool.true_and, Bool.and_true, Bool.not_true, Bool.not_false, Nat.reduceAdd, Nat.reduceSub, Nat.zero_add, Bool.false_eq_true, decide_true, decide_false, List.length_append, Int.cast_ofNat_Int, Int.natCast_one, Int.natCast_zero, Int.reduceEq, Int.reduceLT, Int.reduceLE, Int.reduceAdd, Int.reduceMul, Int.reduceSub, Int.reduceNeg, ne_eq, not_true_eq_false, not_false_eq_true, h4]) (fa_step g4 (by omega) eu h27 h31 h5), ih, List.flatMap_cons, List.map_append, List.append_assoc]
theorem ev_findings_at {Pg : Nat → CF} (H : HasF Pg) {rs : List Ru} (g : BookOk rs) {t : T} (ht : t.tree) (hd : t.dep ≤ 95) (ps : List (List Nat)) (h60 : ps.length ≤ 200) (hp : ∀ p, p ∈ ps → ∃ u, T.at t p = some u) : Ev Pg 9 32 [bookD rs, t.d, .lst (ps.map pD)] (.ok (.lst ((ps.flatMap (findsP rs t)).map fD)) .non) := ev_of H.e32 (m := 8) fun k hk => by
  obtain ⟨s4, s5, lp⟩ := fa_loop2 (Φ := call Pg k) g.len (t := t) (x := .lst (ps.map pD)) ps [] .un .un rfl rfl (by simp; omega) fun p h => by
    obtain ⟨u, eu⟩ := hp p h
    obtain ⟨u1, u2, _⟩ := at_tree p t u ht eu
    have e27 := ev_found_at H p ht k (by omega)
    rw [eu] at e27
    exact ⟨u, eu, e27, fun r hr => ev_mended H (g.good r hr) u1 (by omega) k hk⟩
  rw [List.nil_append] at lp
  have h0 : sAsg 3 (mLst []) [.val (bookD rs), .val t.d, .val (.lst (ps.map pD)), .un, .un, .un, .un] = .nx [.val (bookD rs), .val t.d, .val (.lst (ps.map pD)), .ow false (.lst []), .un, .un, .un] := by simp only [runF, fr0, ioOf, mvM, mC, mN, mBin, mUn, mB, mAndT, mOrT, mNotT, mAndV, mOrV, mNotV, mHs, mDs, mTup, mLst, pks, mPrim, sSeq, sNil, oS, sPass, sExpr, sRet, sIf, setVq, nl_un, nl_val, nl_own, putH, sAsg, tN, tNil, tCons, tT, sAsgT, mCall, pk, mv, RD.hd, Out.bind, mTrue, mCh, mMt, mSl, mO0, mO1, mLM, mLM.isOwnL, isOwn, mComp, mCompN, lockF, unlk, sFor, sForN, unlS, mIL, mIT, mIS, mIR1, mIR2, wipeF, restF, vsOkq, sRaise, sTry, mDnew, List.getElem?_cons_zero, List.getElem?_cons_succ, List.set_cons_zero, List.set_cons_succ, List.length_cons, List.length_nil, List.map_cons, List.map_nil, List.replicate_succ, List.replicate_zero, List.cons_append, List.nil_append, List.all_cons, List.all_nil, Option.map_some, Option.map_none, reduceIte, sl0, sl1, sl2, sl3, sl4, sl5, sl6, sl7, sl8, sl9, sl10, sl11, sl12, sl13, sl14, sl15, sl16, sl17, Bool.true_and, Bool.and_true, Bool.not_true, Bool.not_false, Nat.reduceAdd, Nat.reduceSub, Nat.zero_add, Bool.false_eq_true, decide_true, decide_false, List.length_append, Int.cast_ofNat_Int, Int.natCast_one, Int.natCast_zero, Int.reduceEq, Int.reduceLT, Int.reduceLE, Int.reduceAdd, Int.reduceMul, Int.reduceSub, Int.reduceNeg, ne_eq, not_true_eq_false, not_false_eq_true]
  have h1 : sForN 2 (tN 4) (b_findings_at_l1 (call Pg k)) [.val (bookD rs), .val t.d, .val (.lst (ps.map pD)), .ow false (.lst []), .un, .un, .un] = .nx [.val (bookD rs), .val t.d, .val (.lst (ps.map pD)), .ow false (.lst ((ps.flatMap (findsP rs t)).map fD)), s4, s5, .un] := by
    simp only [sForN, lockF, List.getElem?_cons_zero, List.getElem?_cons_succ, lp, unlS, unlk]
  have h2 : sRet (mN 3) [.val (bookD rs), .val t.d, .val (.lst (ps.map pD)), .ow false (.lst ((ps.flatMap (findsP rs t)).map fD)), s4, s5, .un] = .rt (.lst ((ps.flatMap (findsP rs t)).map fD)) [.val (bookD rs), .val t.d, .val (.lst (ps.map pD)), .val (.lst ((ps.flatMap (findsP rs t)).map fD)), s4, s5, .un] := by simp only [runF, fr0, ioOf, mvM, mC, mN, mBin, mUn, mB, mAndT, mOrT, mNotT, mAndV, mOrV, mNotV, mHs, mDs, mTup, mLst, pks, mPrim, sSeq, sNil, oS, sPass, sExpr, sRet, sIf, setVq, nl_un, nl_val, nl_own, putH, sAsg, tN, tNil, tCons, tT, sAsgT, mCall, pk, mv, RD.hd, Out.bind, mTrue, mCh, mMt, mSl, mO0, mO1, mLM, mLM.isOwnL, isOwn, mComp, mCompN, lockF, unlk, sFor, sForN, unlS, mIL, mIT, mIS, mIR1, mIR2, wipeF, restF, vsOkq, sRaise, sTry, mDnew, List.getElem?_cons_zero, List.getElem?_cons_succ, List.set_cons_zero, List.set_cons_succ, List.length_cons, List.length_nil, List.map_cons, List.map_nil, List.replicate_succ, List.replicate_zero, List.cons_append, List.nil_append, List.all_cons, List.all_nil, Option.map_some, Option.map_none, reduceIte, sl0, sl1, sl2, sl3, sl4, sl5, sl6, sl7, sl8, sl9, sl10, sl11, sl12, sl13, sl14, sl15, sl16, sl17, Bool.true_and, Bool.and_true, Bool.not_true, Bool.not_false, Nat.reduceAdd, Nat.reduceSub, Nat.zero_add, Bool.false_eq_true, decide_true, decide_false, List.length_append, Int.cast_ofNat_Int, Int.natCast_one, Int.natCast_zero, Int.reduceEq, Int.reduceLT, Int.reduceLE, Int.reduceAdd, Int.reduceMul, Int.reduceSub, Int.reduceNeg, ne_eq, not_true_eq_false, not_false_eq_true]
  have hb : b_findings_at (call Pg k) [.val (bookD rs), .val t.d, .val (.lst (ps.map pD)), .un, .un, .un, .un] = .rt (.lst ((ps.flatMap (findsP rs t)).map fD)) [.val (bookD rs), .val t.d, .val (.lst (ps.map pD)), .val (.lst ((ps.flatMap (findsP rs t)).map fD)), s4, s5, .un] := by
    unfold b_findings_at; rw [sSeq_nx h0, sSeq_nx h1, h2]
  exact run_ok (c := c_findings_at) rfl rfl rfl hb
theorem ev_all_findings {Pg : Nat → CF} (H : HasF Pg) {rs : List Ru} (g : BookOk rs) {t : T} (ht : t.tree) (hz : t.sz ≤ 60) : Ev Pg 70 33 [bookD rs, t.d] (.ok (.lst ((finds rs t).map fD)) .non) := ev_of H.e33 (m := 69) fun k hk => by
  have dz := T.dep_sz t
  have pf := ev_places_from H (loud := true) 60 t [] ht (by omega) hz (by simp) k (by omega)
  have fa := ev_findings_at H g ht (by omega) (T.plc true t []) (by have := T.plc_len true t []; omega) (fun p hp => by obtain ⟨r, u, e1, e2⟩ := plc_at true t [] p hp; simp only [List.nil_append] at e1; subst e1; exact ⟨u, e2⟩) k (by omega)
  have ep : pD [] = .tup [] := rfl
  rw [ep] at pf
  simp only [c_all_findings, b_all_findings, runF, fr0, ioOf, mvM, mC, mN, mBin, mUn, mB, mAndT, mOrT, mNotT, mAndV, mOrV, mNotV, mHs, mDs, mTup, mLst, pks, mPrim, sSeq, sNil, oS, sPass, sExpr, sRet, sIf, setVq, nl_un, nl_val, nl_own, putH, sAsg, tN, tNil, tCons, tT, sAsgT, mCall, pk, mv, RD.hd, Out.bind, mTrue, mCh, mMt, mSl, mO0, mO1, mLM, mLM.isOwnL, isOwn, mComp, mCompN, lockF, unlk, sFor, sForN, unlS, mIL, mIT, mIS, mIR1, mIR2, wipeF, restF, vsOkq, sRaise, sTry, mDnew, List.getElem?_cons_zero, List.getElem?_cons_succ, List.set_cons_zero, List.set_cons_succ, List.length_cons, List.length_nil, List.map_cons, List.map_nil, List.replicate_succ, List.replicate_zero, List.cons_append, List.nil_append, List.all_cons, List.all_nil, Option.map_some, Option.map_none, reduceIte, sl0, sl1, sl2, sl3, sl4, sl5, sl6, sl7, sl8, sl9, sl10, sl11, sl12, sl13, sl14, sl15, sl16, sl17, Bool.true_and, Bool.and_true, Bool.not_true, Bool.not_false, Nat.reduceAdd, Nat.reduceSub, Nat.zero_add, Bool.false_eq_true, decide_true, decide_false, List.length_append, Int.cast_ofNat_Int, Int.natCast_one, Int.natCast_zero, Int.reduceEq, Int.reduceLT, Int.reduceLE, Int.reduceAdd, Int.reduceMul, Int.reduceSub, Int.reduceNeg, ne_eq, not_true_eq_false, not_false_eq_true, pf, fa]
  rfl
theorem ev_findings {Pg : Nat → CF} (H : HasF Pg) {rs : List Ru} (g : BookOk rs) {t : T} (ht : t.tree) (hz : t.sz ≤ 60) : Ev Pg 71 34 [bookD rs, t.d] (.ok (.lst ((finds rs t).map fD)) .non) := ev_of H.e34 (m := 70) fun k hk => by
  have a := ev_need_book H.toHasT g k (by omega)
  have b := ev_need_tree H.toHasT ht hz k (by omega)
  have c := ev_all_findings H g ht hz k hk
  simp only [c_findings, b_findings, runF, fr0, ioOf, mvM, mC, mN, mBin, mUn, mB, mAndT, mOrT, mNotT, mAndV, mOrV, mNotV, mHs, mDs, mTup, mLst, pks, mPrim, sSeq, sNil, oS, sPass, sExpr, sRet, sIf, setVq, nl_un, nl_val, nl_own, putH, sAsg, tN, tNil, tCons, tT, sAsgT, mCall, pk, mv, RD.hd, Out.bind, mTrue, mCh, mMt, mSl, mO0, mO1, mLM, mLM.isOwnL, isOwn, mComp, mCompN, lockF, unlk, sFor, sForN, unlS, mIL, mIT, mIS, mIR1, mIR2, wipeF, restF, vsOkq, sRaise, sTry, mDnew, List.getElem?_cons_zero, List.getElem?_cons_succ, List.set_cons_zero, List.set_cons_succ, List.length_cons, List.length_nil, List.map_cons, List.map_nil, List.replicate_succ, List.replicate_zero, List.cons_append, List.nil_append, List.all_cons, List.all_nil, Option.map_some, Option.map_none, reduceIte, sl0, sl1, sl2, sl3, sl4, sl5, sl6, sl7, sl8, sl9, sl10, sl11, sl12, sl13, sl14, sl15, sl16, sl17, Bool.true_and, Bool.and_true, Bool.not_true, Bool.not_false, Nat.reduceAdd, Nat.reduceSub, Nat.zero_add, Bool.false_eq_true, decide_true, decide_false, List.length_append, Int.cast_ofNat_Int, Int.natCast_one, Int.natCast_zero, Int.reduceEq, Int.reduceLT, Int.reduceLE, Int.reduceAdd, Int.reduceMul, Int.reduceSub, Int.reduceNeg, ne_eq, not_true_eq_false, not_false_eq_true, a, b, c]
end Z

/-! plain Lean: order of places and findings -/
namespace Z
open PySem PySem.Spec PyProof.Rows L2
def iP (p : List Nat) : List PyData := p.map fun i => .int (i : Nat)
theorem pD_py (p : List Nat) : (pD p).py = .tuple (iP p) := by simp only [pD, D.py, pys_map, List.map_map, iP, Function.comp_def]
theorem iP_ord : ∀ p, ordYs (iP p) = true
  | [] => rfl
  | i :: p => by simp only [iP, List.map_cons, ordYs, ordY, Bool.true_and]; exact iP_ord p
theorem iP_dep : ∀ p, PyData.depthAll (iP p) = 0
  | [] => rfl
  | i :: p => by simp only [iP, List.map_cons, PyData.depthAll, PyData.depth]; have := iP_dep p; unfold iP at this; omega
theorem iP_cmp : ∀ p q, cmpYs (iP p) (iP q) = true
  | [], _ => by cases ‹List Nat› <;> rfl
  | _ :: _, [] => rfl
  | i :: p, j :: q => by
    simp only [iP, List.map_cons, cmpYs, cmpY]
    split
    · exact iP_cmp p q
    · rfl
theorem ltP_app : ∀ (a x y : List Nat), ltYs (iP (a ++ x)) (iP (a ++ y)) = ltYs (iP x) (iP y)
  | [], _, _ => rfl
  | i :: a, x, y => by
    have : PyData.eqv (.int (i : Nat)) (.int (i : Nat)) = true := by simp [PyData.eqv]
    simp only [iP, List.cons_append, List.map_cons, ltYs, this, if_true]
    exact ltP_app a x y
theorem ltP_lt {i j : Nat} (h : i < j) (x y : List Nat) : ltYs (iP (i :: x)) (iP (j :: y)) = true := by
  have e : ¬ PyData.eqv (.int (i : Nat)) (.int (j : Nat)) = true := by simp [PyData.eqv]; omega
  simp only [iP, List.map_cons, ltYs, if_neg e, ltY, decide_eq_true_iff]; omega
abbrev PLt (a b : List Nat) : Prop := ltYs (iP a) (iP b) = true
mutual
theorem plc_srt (loud : Bool) : ∀ (t : T) (p : List Nat), (T.plc loud t p).Pairwise PLt
  | .h _, p => by simp [T.plc]
  | .n w ps, p => by
    simp only [T.plc]
    split
    · exact .nil
    · refine List.pairwise_cons.2 ⟨fun q hq => ?_, plcs_srt loud ps p 0⟩
      obtain ⟨j, r, _, _, rfl, _⟩ := plcs_at loud ps p 0 q hq
      show ltYs (iP p) (iP (p ++ j :: r)) = true
      have := ltP_app p [] (j :: r)
      rw [List.append_nil] at this
      rw [this]; rfl
theorem plcs_srt (loud : Bool) : ∀ (l : List T) (p : List Nat) (k : Nat), (T.plcs loud l p k).Pairwise PLt
  | [], _, _ => by simp [T.plcs]
  | t :: ts, p, k => by
    simp only [T.plcs]
    refine List.pairwise_append.2 ⟨plc_srt loud t _, plcs_srt loud ts p (k + 1), fun a ha b hb => ?_⟩
    obtain ⟨r, _, rfl, _⟩ := plc_at loud t (p ++ [k]) a ha
    obtain ⟨j, r2, _, _, rfl, _, _, hj⟩ := plcs_at loud ts p (k + 1) b hb
    show ltYs (iP (p ++ [k] ++ r)) (iP (p ++ j :: r2)) = true
    rw [List.append_assoc, ltP_app]
    exact ltP_lt (by omega) _ _
end
theorem fD_py (f : Fd) : (fD f).py = .tuple [.tuple (iP f.1), .str f.2] := by simp only [fD, D.py, D.pys, pD_py]
theorem fD_ord (f : Fd) : ordY (fD f).py = true := by rw [fD_py]; simp [ordY, ordYs, iP_ord]
theorem fD_cmp (f g : Fd) : cmpY (fD f).py (fD g).py = true := by
  rw [fD_py, fD_py]
  simp only [cmpY, cmpYs]
  split
  · split <;> rfl
  · exact iP_cmp _ _
theorem pD_lay (p : List Nat) : (pD p).lay = true := by
  simp only [pD, D.lay]
  induction p with
  | nil => rfl
  | cons i p ih => simp only [List.map_cons, D.lays, D.lay, ih, Bool.and_self]
theorem fD_lay (f : Fd) : (fD f).lay = true := by simp only [fD, D.lay, D.lays, pD_lay, Bool.and_self]
theorem fD_dep (f : Fd) : (fD f).dep = 2 := by simp only [D.dep, fD_py, PyData.depth, PyData.depthAll, iP_dep]; rfl
theorem fD_tup (f : Fd) : tupOk1 (fD f) = true := by
  unfold tupOk1
  rw [fD_ord, fD_lay, fD_dep, fD_py]; rfl
theorem fD_inj {f g : Fd} (h : fD f = fD g) : f = g := by
  obtain ⟨p, n⟩ := f
  obtain ⟨q, m⟩ := g
  simp only [fD, pD, D.tup.injEq, List.cons.injEq, D.str.injEq, and_true] at h
  have : p = q := by
    have h1 := h.1
    clear h
    induction p generalizing q with
    | nil => cases q with | nil => rfl | cons _ _ => simp at h1
    | cons i p ih =>
      cases q with
      | nil => simp at h1
      | cons j q =>
        simp only [List.map_cons, List.cons.injEq, D.int.injEq] at h1
        rw [ih q h1.2, show i = j by omega]
  rw [this, h.2]
theorem sortS_fd (l : List Fd) : sortS [.lst (l.map fD)] = some (.f (.lst (sortD (l.map fD)))) := by
  cases l with
  | nil => rfl
  | cons f l =>
    have h1 : strsD ((f :: l).map fD) = none := rfl
    have h2 : intsD ((f :: l).map fD) = none := rfl
    have h3 : tupsOk ((f :: l).map fD) = true := by
      unfold tupsOk
      rw [Bool.and_eq_true, List.all_eq_true, List.all_eq_true]
      refine ⟨fun d hd => ?_, fun d hd => List.all_eq_true.2 fun e he => ?_⟩
      · obtain ⟨g, _, rfl⟩ := List.mem_map.1 hd; exact fD_tup g
      · obtain ⟨g, _, rfl⟩ := List.mem_map.1 hd
        obtain ⟨g2, _, rfl⟩ := List.mem_map.1 he
        exact fD_cmp g g2
    unfold sortS
    simp only [h1, h2, h3, if_true]
/-- a before b -/
def FLt (f g : Fd) : Prop := PLt f.1 g.1 ∨ (f.1 = g.1 ∧ Str.lt f.2 g.2)
theorem FLt.le {f g : Fd} (h : FLt f g) : leD (fD f) (fD g) := by
  refine ltY_asym (fD_ord f) (fD_ord g) ?_
  rw [fD_py, fD_py]
  simp only [ltY, ltYs]
  rcases h with h | ⟨h1, h2⟩
  · have ne : ¬ PyData.eqv (.tuple (iP f.1)) (.tuple (iP g.1)) = true := fun z => by
      rw [eqv_iffY _ _ (by simp [ordY, iP_ord]) (by simp [ordY, iP_ord])] at z
      injection z with z
      rw [PLt, z, ltYs_irr _ (iP_ord _)] at h; cases h
    rw [if_neg ne]; exact h
  · have e1 : PyData.eqv (.tuple (iP f.1)) (.tuple (iP g.1)) = true := by rw [h1]; exact (eqv_iffY _ _ (by simp [ordY, iP_ord]) (by simp [ordY, iP_ord])).2 rfl
    have ne : ¬ PyData.eqv (.str f.2) (.str g.2) = true := fun z => by
      rw [eqv_iffY _ _ rfl rfl] at z
      injection z with z
      rw [z] at h2
      exact List.lt_irrefl _ h2
    rw [if_pos e1, if_neg ne]
    exact decide_eq_true h2
theorem findsP_mem {rs : List Ru} {t : T} {p : List Nat} {f : Fd} (h : f ∈ findsP rs t p) : f.1 = p ∧ ∃ r u, r ∈ rs ∧ f.2 = r.nm ∧ T.at t p = some u ∧ (mendE r u).isSome = true := by
  unfold findsP at h
  split at h
  · rename_i u eu
    obtain ⟨r, hr, rfl⟩ := List.mem_map.1 h
    obtain ⟨h1, h2⟩ := List.mem_filter.1 hr
    exact ⟨rfl, r, u, h1, rfl, eu, h2⟩
  · cases h
theorem finds_srt {rs : List Ru} (g : BookOk rs) (t : T) : (finds rs t).Pairwise FLt := by
  unfold finds
  refine List.pairwise_flatMap.2 ⟨fun p _ => ?_, (plc_srt true t []).imp fun {p q} h x hx y hy => ?_⟩
  · unfold findsP
    split
    · refine List.pairwise_map.2 ((g.asc.filter _).imp fun {a b} h => .inr ⟨rfl, h⟩)
    · exact .nil
  · rw [← (findsP_mem hx).1, ← (findsP_mem hy).1] at h; exact .inl h
/-- sorted tells the findings, in whatever order they come -/
theorem sort_finds {rs : List Ru} (g : BookOk rs) {t : T} {l : List Fd} (h : l.Perm (finds rs t)) : sortD (l.map fD) = (finds rs t).map fD := by
  refine (sortD_uniq tot_ord (fun x hx => ?_) (h.symm.map fD) (List.pairwise_map.2 ((finds_srt g t).imp fun {a b} z => z.le))).symm
  obtain ⟨f, _, rfl⟩ := List.mem_map.1 hx
  exact fD_ord f
theorem lst_lay : ∀ l : List Fd, D.lays (l.map fD) = true
  | [] => rfl
  | f :: l => by simp only [List.map_cons, D.lays, fD_lay, lst_lay l, Bool.and_self]
theorem lst_dep : ∀ l : List Fd, PyData.depthAll (D.pys (l.map fD)) ≤ 2
  | [] => Nat.zero_le _
  | f :: l => by
    have := lst_dep l
    have a := fD_dep f
    simp only [D.dep] at a
    simp only [List.map_cons, D.pys, PyData.depthAll, a]; omega
theorem self_cmp {x : D} (h : x.lay = true) (hd : x.dep ≤ 190) : cmpOk x x = true := by
  unfold cmpOk
  rw [h, decide_eq_true (by omega)]; rfl
theorem eqS_self {x : D} (h : x.lay = true) (hd : x.dep ≤ 190) : eqS x x = some (.v (.bl true)) := by
  unfold eqS; rw [if_pos (self_cmp h hd), eq_refl x h]
theorem neS_self {x : D} (h : x.lay = true) (hd : x.dep ≤ 190) : neS x x = some (.v (.bl false)) := by
  unfold neS; rw [if_pos (self_cmp h hd), eq_refl x h]; rfl
theorem fds_lay (l : List Fd) : (D.lst (l.map fD)).lay = true := lst_lay l
theorem fds_dep (l : List Fd) : (D.lst (l.map fD)).dep ≤ 190 := by
  have := lst_dep l
  simp only [D.dep, D.py, PyData.depth]; omega
theorem finds_filter (rs : List Ru) (t : T) (q : Str → Bool) : (finds rs t).filter (fun f => q f.2) = finds (rs.filter fun r => q r.nm) t := by
  unfold finds
  rw [List.filter_flatMap]
  congr 1
  funext p
  unfold findsP
  split
  · rw [List.filter_map, List.filter_filter, List.filter_filter]
    congr 1
    refine List.filter_congr fun r _ => ?_
    simp only [Function.comp]
    rw [Bool.and_comm]
  · rfl
theorem finds_nil (t : T) : finds [] t = [] := by
  unfold finds
  refine List.flatMap_eq_nil_iff.2 fun p _ => ?_
  unfold findsP
  split <;> rfl
theorem findsP_flat (rs : List Ru) (t : T) (p : List Nat) : findsP rs t p = rs.flatMap fun r => findsP [r] t p := by
  induction rs with
  | nil => unfold findsP; split <;> rfl
  | cons r rs ih =>
    rw [List.flatMap_cons, ← ih]
    unfold findsP
    split
    · simp only [List.filter_cons, List.filter_nil]
      split <;> simp
    · rfl
theorem perm_flat {α β γ : Type} (g : α → β → List γ) : ∀ (l : List α) (m : List β), (l.flatMap fun a => m.flatMap (g a)).Perm (m.flatMap fun b => l.flatMap fun a => g a b)
  | [], m => by simp
  | a :: l, m => by
    rw [List.flatMap_cons]
    have ih := perm_flat g l m
    have : (m.flatMap (g a) ++ m.flatMap fun b => l.flatMap fun a => g a b).Perm (m.flatMap fun b => (a :: l).flatMap fun a => g a b) := by
      clear ih
      induction m with
      | nil => simp
      | cons b m ih =>
        simp only [List.flatMap_cons] at ih ⊢
        have h1 : (g a b ++ m.flatMap (g a) ++ ((l.flatMap fun a => g a b) ++ m.flatMap fun b => l.flatMap fun a => g a b)).Perm (g a b ++ (l.flatMap fun a => g a b) ++ (m.flatMap (g a) ++ m.flatMap fun b => l.flatMap fun a => g a b)) := by
          simp only [List.append_assoc]
          refine List.Perm.append_left _ ?_
          rw [← List.append_assoc, ← List.append_assoc]
          exact List.Perm.append_right _ List.perm_append_comm
        exact h1.trans (List.Perm.append_left _ ih)
    exact (List.Perm.append_left _ ih).trans this
theorem finds_perm (rs : List Ru) (t : T) : (rs.flatMap fun r => finds [r] t).Perm (finds rs t) := by
  have h := perm_flat (fun (r : Ru) (p : List Nat) => findsP [r] t p) rs (T.plc true t [])
  have e : finds rs t = (T.plc true t []).flatMap fun p => rs.flatMap fun r => findsP [r] t p := by
    unfold finds
    congr 1
    funext p
    exact findsP_flat rs t p
  rw [e]
  exact h
theorem BookOk.sub {rs rs' : List Ru} (g : BookOk rs) (h : rs'.Sublist rs) : BookOk rs' := ⟨fun r hr => g.good r (h.subset hr), Nat.le_trans h.length_le g.len, g.asc.sublist h⟩
theorem asc_one : ∀ {rs : List Ru}, rs.Pairwise (fun a b => Str.lt a.nm b.nm) → ∀ r, r ∈ rs → rs.filter (fun x => decide (x.nm = r.nm)) = [r]
  | x :: rs, h, r, hr => by
    have h' := List.pairwise_cons.1 h
    rw [List.filter_cons]
    rcases List.mem_cons.1 hr with rfl | hr
    · rw [if_pos (by simp)]
      congr 1
      refine List.filter_eq_nil_iff.2 fun y hy z => ?_
      have := h'.1 y hy
      rw [of_decide_eq_true z] at this
      exact List.lt_irrefl _ this
    · have := h'.1 r hr
      rw [if_neg fun z => by rw [of_decide_eq_true z] at this; exact List.lt_irrefl _ this]
      exact asc_one h'.2 r hr
theorem pD_tup (p : List Nat) : tupOk1 (pD p) = true := by
  unfold tupOk1
  rw [pD_lay, pD_py]
  have : (pD p).dep ≤ 64 := by simp only [D.dep, pD_py, PyData.depth, iP_dep]; decide
  rw [decide_eq_true this]
  simp [isTupY, ordY, iP_ord]
theorem pD_ord (p : List Nat) : ordY (pD p).py = true := by rw [pD_py]; simp [ordY, iP_ord]
theorem pD_cmp (p q : List Nat) : cmpY (pD p).py (pD q).py = true := by rw [pD_py, pD_py]; simp [cmpY, iP_cmp]
theorem sortS_pd (l : List (List Nat)) : sortS [.lst (l.map pD)] = some (.f (.lst (sortD (l.map pD)))) := by
  cases l with
  | nil => rfl
  | cons f l =>
    have h1 : strsD ((f :: l).map pD) = none := rfl
    have h2 : intsD ((f :: l).map pD) = none := rfl
    have h3 : tupsOk ((f :: l).map pD) = true := by
      unfold tupsOk
      rw [Bool.and_eq_true, List.all_eq_true, List.all_eq_true]
      refine ⟨fun d hd => ?_, fun d hd => List.all_eq_true.2 fun e he => ?_⟩
      · obtain ⟨g, _, rfl⟩ := List.mem_map.1 hd; exact pD_tup g
      · obtain ⟨g, _, rfl⟩ := List.mem_map.1 hd
        obtain ⟨g2, _, rfl⟩ := List.mem_map.1 he
        exact pD_cmp g g2
    unfold sortS
    simp only [h1, h2, h3, if_true]
theorem PLt.le {p q : List Nat} (h : PLt p q) : leD (pD p) (pD q) := by
  refine ltY_asym (pD_ord p) (pD_ord q) ?_
  rw [pD_py, pD_py]; exact h
theorem sort_plc {loud : Bool} {t : T} {p : List Nat} {l : List (List Nat)} (h : l.Perm (T.plc loud t p)) : sortD (l.map pD) = (T.plc loud t p).map pD := by
  refine (sortD_uniq tot_ord (fun x hx => ?_) (h.symm.map pD) (List.pairwise_map.2 ((plc_srt loud t p).imp fun {a b} z => PLt.le z))).symm
  obtain ⟨f, _, rfl⟩ := List.mem_map.1 hx
  exact pD_ord f
end Z

/-! plain Lean: parts put, mends done -/
namespace Z
open PySem PySem.Spec PyProof.Rows L2
def T.put : T → List Nat → T → T
  | _, [], s => s
  | .h i, _ :: _, _ => .h i
  | .n w ps, i :: p, s => match ps[i]? with
    | some q => .n w (ps.set i (T.put q p s))
    | none => .n w ps
theorem szs_set : ∀ {ps : List T} {i : Nat} {q s : T}, ps[i]? = some q → T.szs (ps.set i s) + q.sz = T.szs ps + s.sz
  | t :: ts, 0, q, s, h => by simp only [List.getElem?_cons_zero, Option.some.injEq] at h; subst h; simp only [List.set_cons_zero, T.szs]; omega
  | t :: ts, i + 1, q, s, h => by
    have ih := szs_set (ps := ts) (i := i) (q := q) (s := s) (by simpa using h)
    simp only [List.set_cons_succ, T.szs]; omega
theorem trees_set {ps : List T} {i : Nat} {s : T} (h : T.trees ps) (hs : s.tree) : T.trees (ps.set i s) := T.trees_mem.2 fun t ht => by
  rcases List.mem_or_eq_of_mem_set ht with h1 | rfl
  · exact T.trees_mem.1 h t h1
  · exact hs
theorem put_tree : ∀ {p : List Nat} {t u s : T}, T.at t p = some u → t.tree → s.tree → (T.put t p s).tree ∧ (T.put t p s).sz + u.sz = t.sz + s.sz
  | [], t, u, s, e, ht, hs => by
    cases t <;> (simp only [T.at, Option.some.injEq] at e; subst e; simp only [T.put]; exact ⟨hs, by omega⟩)
  | i :: p, .h _, u, s, e, ht, hs => ht.elim
  | i :: p, .n w ps, u, s, e, ht, hs => by
    simp only [T.at] at e
    cases q : ps[i]? with
    | none => rw [q] at e; cases e
    | some v =>
      rw [q] at e
      have hv := T.trees_mem.1 ht.2.2.2 v (List.mem_of_getElem? q)
      obtain ⟨a, b⟩ := put_tree e hv hs
      have c := szs_set (s := T.put v p s) q
      simp only [T.put, q]
      refine ⟨⟨ht.1, by rw [List.length_set]; exact ht.2.1, by rw [List.length_set]; exact ht.2.2.1, trees_set ht.2.2.2 a⟩, ?_⟩
      simp only [T.sz]; omega
theorem at_put_same : ∀ {p : List Nat} {t u s : T}, T.at t p = some u → T.at (T.put t p s) p = some s
  | [], t, u, s, _ => by cases t <;> simp [T.put, T.at]
  | i :: p, .h _, u, s, e => by simp [T.at] at e
  | i :: p, .n w ps, u, s, e => by
    simp only [T.at] at e
    cases q : ps[i]? with
    | none => rw [q] at e; cases e
    | some v =>
      rw [q] at e
      have hi : i < ps.length := by
        rcases Nat.lt_or_ge i ps.length with z | z
        · exact z
        · rw [List.getElem?_eq_none z] at q; cases q
      simp only [T.put, q, T.at, List.getElem?_set_self hi]
      exact at_put_same e
theorem at_app : ∀ (p q : List Nat) (t : T), T.at t (p ++ q) = (T.at t p).bind fun u => T.at u q
  | [], q, t => by cases t <;> simp [T.at]
  | i :: p, q, .h _ => by simp [T.at]
  | i :: p, q, .n w ps => by
    simp only [List.cons_append, T.at]
    cases ps[i]? with
    | none => rfl
    | some v => exact at_app p q v
theorem put_app : ∀ {p q : List Nat} {t u s : T}, T.at t p = some u → T.put t (p ++ q) s = T.put t p (T.put u q s)
  | [], q, t, u, s, e => by cases t <;> (simp only [T.at, Option.some.injEq] at e; subst e; simp [T.put])
  | i :: p, q, .h _, u, s, e => by simp [T.at] at e
  | i :: p, q, .n w ps, u, s, e => by
    simp only [T.at] at e
    cases z : ps[i]? with
    | none => rw [z] at e; cases e
    | some v =>
      rw [z] at e
      simp only [List.cons_append, T.put, z, put_app e]
/-! ### what a mend makes -/
mutual
theorem sub_szH (σ : Int → T) : ∀ p : T, (T.sub σ p).sz = p.cnt + (p.holes.map fun i => (σ i).sz).sum
  | .h i => by simp [T.sub, T.cnt, T.holes]
  | .n w ps => by
    have := subs_szH σ ps
    simp only [T.sub, T.sz, T.cnt, T.holes]; omega
theorem subs_szH (σ : Int → T) : ∀ l : List T, T.szs (T.subs σ l) = T.cnts l + ((T.holesL l).map fun i => (σ i).sz).sum
  | [] => by simp [T.subs, T.szs, T.cnts, T.holesL]
  | t :: ts => by
    have a := sub_szH σ t
    have b := subs_szH σ ts
    simp only [T.subs, T.szs, T.cnts, T.holesL, List.map_append, List.sum_append]; omega
end
theorem sum_count {f : Int → Nat} : ∀ {a b : List Int}, (∀ i, a.count i ≤ b.count i) → (a.map f).sum ≤ (b.map f).sum
  | [], b, _ => by simp
  | x :: a, b, h => by
    have hx : x ∈ b := List.count_pos_iff.1 (Nat.lt_of_lt_of_le (by simp) (h x))
    have hp : b.Perm (x :: b.erase x) := List.perm_cons_erase hx
    have ih := sum_count (f := f) (a := a) (b := b.erase x) fun i => by
      have := h i
      rw [List.count_cons] at this
      rw [List.count_erase]
      by_cases q : x == i
      · rw [if_pos q] at this; rw [if_pos (by simpa using q)]; omega
      · rw [if_neg q] at this; rw [if_neg (by simpa using q)]; omega
    have e := (hp.map f).sum_nat
    simp only [List.map_cons, List.sum_cons] at e ⊢
    omega
mutual
theorem sub_treeH {σ : Int → T} : ∀ p : T, p.good → (∀ i, i ∈ p.holes → (σ i).tree) → (T.sub σ p).tree
  | .h i, _, hs => hs i (by simp [T.holes])
  | .n w ps, q, hs => by
    have := subs_treeH ps q.2.2.2 hs
    exact ⟨q.1, by rw [T.subs_map, List.length_map]; exact q.2.2.1, .inl q.2.1, this⟩
theorem subs_treeH {σ : Int → T} : ∀ l : List T, T.goods l → (∀ i, i ∈ T.holesL l → (σ i).tree) → T.trees (T.subs σ l)
  | [], _, _ => trivial
  | t :: ts, q, hs => by
    simp only [T.holesL, List.mem_append] at hs
    exact ⟨sub_treeH t q.1 fun i hi => hs i (.inl hi), subs_treeH ts q.2 fun i hi => hs i (.inr hi)⟩
end
mutual
theorem holes_tree {σ : Int → T} : ∀ p : T, (T.sub σ p).tree → ∀ i, i ∈ p.holes → (σ i).tree
  | .h j, q, i, hi => by simp only [T.holes, List.mem_singleton] at hi; subst hi; exact q
  | .n w ps, q, i, hi => holesL_tree ps q.2.2.2 i hi
theorem holesL_tree {σ : Int → T} : ∀ l : List T, T.trees (T.subs σ l) → ∀ i, i ∈ T.holesL l → (σ i).tree
  | [], _, i, hi => by simp [T.holesL] at hi
  | t :: ts, q, i, hi => by
    simp only [T.holesL, List.mem_append] at hi
    exact hi.elim (holes_tree t q.1 i) (holesL_tree ts q.2 i)
end
theorem mendE_ok {r : Ru} (g : r.good) {t v : T} (ht : t.tree) (h : mendE r t = some v) : v.tree ∧ v.sz < t.sz := by
  rcases mendE_cases g t with ⟨σ, h1, h2⟩ | ⟨_, h2⟩
  · rw [h2] at h
    cases h
    subst h1
    refine ⟨sub_treeH r.m g.m fun i hi => holes_tree r.p ht i (good_holes g hi), ?_⟩
    rw [sub_szH, sub_szH]
    have := sum_count (f := fun i => (σ i).sz) g.ho
    have := g.le
    omega
  · rw [h2] at h; cases h
/-! ### put_in -/
structure HasP (Pg : Nat → CF) : Prop extends HasF Pg where
  e41 : Pg 41 = c_need_place
  e42 : Pg 42 = c_part_at
  e43 : Pg 43 = c_put_in
  e44 : Pg 44 = c_put_at
  e46 : Pg 46 = c_loud_places
theorem eq_nil (p : List Nat) : Z.eqS (pD p) (.tup []) = some (.v (.bl p.isEmpty)) := by
  have c : cmpOk (pD p) (.tup []) = true := by
    unfold cmpOk
    have : (D.tup []).dep = 1 := rfl
    rw [pD_lay, this, decide_eq_true (show min (pD p).dep 1 ≤ 190 by omega)]; rfl
  unfold Z.eqS
  rw [if_pos c]
  cases p with
  | nil => rfl
  | cons i p => simp [pD, D.eq, D.py, D.pys, PyData.eqv, PyData.eqvAll]
theorem ix_p0 (i : Nat) (p : List Nat) : ixS (pD (i :: p)) (.int 0) = some (.v (.int (i : Nat))) := by
  have : atI ((i :: p).map fun i => D.int (i : Nat)) ((0 : Nat) : Int) = some (.int (i : Nat)) := atI_nat rfl
  simp only [pD, ixS]
  rw [show (0 : Int) = ((0 : Nat) : Int) from rfl, this]; rfl
theorem sl_p1 (i : Nat) (p : List Nat) : slS (pD (i :: p)) (some 1) none = some (.v (pD p)) := by
  have : cutD ((i :: p).map fun i => D.int (i : Nat)) (some 1) none = p.map fun i => D.int (i : Nat) := by
    unfold cutD HT.sIx
    simp
    exact List.take_of_length_le (by simp)
  simp only [pD, slS, this]
theorem ixN_nat {n i : Nat} (h : i < n) : ixN n (i : Nat) = some i := by
  unfold ixN
  rw [if_pos (by omega), if_pos (by omega)]; simp
theorem r_put_in {Φ : Phi} {w : Str} {ps : List T} {i : Nat} {p : List Nat} {s v : T} {x : T} (h4 : ps.length ≤ 60) (hv : ps[i]? = some v) (hΦ : Φ 43 [v.d, pD p, s.d] = .ok x.d .non) : runF c_put_in Φ [(T.n w ps).d, pD (i :: p), s.d] = .ok (T.n w (ps.set i x)).d .non := by
  have hi : i < ps.length := by
    rcases Nat.lt_or_ge i ps.length with z | z
    · exact z
    · rw [List.getElem?_eq_none z] at hv; cases hv
  have h0 : sIf (mB (mBin eqS (mN 1) (mTup []))) (sRet (mN 2)) sNil [.val (T.n w ps).d, .val (pD (i :: p)), .val s.d, .un] = .nx [.val (T.n w ps).d, .val (pD (i :: p)), .val s.d, .un] := by simp only [runF, fr0, ioOf, mvM, mC, mN, mBin, mUn, mB, mAndT, mOrT, mNotT, mAndV, mOrV, mNotV, mHs, mDs, mTup, mLst, pks, mPrim, sSeq, sNil, oS, sPass, sExpr, sRet, sIf, setVq, nl_un, nl_val, nl_own, putH, sAsg, tN, tNil, tCons, tT, sAsgT, mCall, pk, mv, RD.hd, Out.bind, mTrue, mCh, mMt, mSl, mO0, mO1, mLM, mLM.isOwnL, isOwn, mComp, mCompN, lockF, unlk, sFor, sForN, unlS, mIL, mIT, mIS, mIR1, mIR2, wipeF, restF, vsOkq, sRaise, sTry, mDnew, List.getElem?_cons_zero, List.getElem?_cons_succ, List.set_cons_zero, List.set_cons_succ, List.length_cons, List.length_nil, List.map_cons, List.map_nil, List.replicate_succ, List.replicate_zero, List.cons_append, List.nil_append, List.all_cons, List.all_nil, Option.map_some, Option.map_none, reduceIte, sl0, sl1, sl2, sl3, sl4, sl5, sl6, sl7, sl8, sl9, sl10, sl11, sl12, sl13, sl14, sl15, sl16, sl17, Bool.true_and, Bool.and_true, Bool.not_true, Bool.not_false, Nat.reduceAdd, Nat.reduceSub, Nat.zero_add, Bool.false_eq_true, decide_true, decide_false, List.length_append, Int.cast_ofNat_Int, Int.natCast_one, Int.natCast_zero, Int.reduceEq, Int.reduceLT, Int.reduceLE, Int.reduceAdd, Int.reduceMul, Int.reduceSub, Int.reduceNeg, ne_eq, not_true_eq_false, not_false_eq_true, eq_nil, List.isEmpty_cons]
  have h1 : sAsg 3 (mPrim listS [(mBin ixS (mN 0) (mC (.int 1)))]) [.val (T.n w ps).d, .val (pD (i :: p)), .val s.d, .un] = .nx [.val (T.n w ps).d, .val (pD (i :: p)), .val s.d, .ow false (.lst (T.ds ps))] := by simp only [runF, fr0, ioOf, mvM, mC, mN, mBin, mUn, mB, mAndT, mOrT, mNotT, mAndV, mOrV, mNotV, mHs, mDs, mTup, mLst, pks, mPrim, sSeq, sNil, oS, sPass, sExpr, sRet, sIf, setVq, nl_un, nl_val, nl_own, putH, sAsg, tN, tNil, tCons, tT, sAsgT, mCall, pk, mv, RD.hd, Out.bind, mTrue, mCh, mMt, mSl, mO0, mO1, mLM, mLM.isOwnL, isOwn, mComp, mCompN, lockF, unlk, sFor, sForN, unlS, mIL, mIT, mIS, mIR1, mIR2, wipeF, restF, vsOkq, sRaise, sTry, mDnew, List.getElem?_cons_zero, List.getElem?_cons_succ, List.set_cons_zero, List.set_cons_succ, List.length_cons, List.length_nil, List.map_cons, List.map_nil, List.replicate_succ, List.replicate_zero, List.cons_append, List.nil_append, List.all_cons, List.all_nil, Option.map_some, Option.map_none, reduceIte, sl0, sl1, sl2, sl3, sl4, sl5, sl6, sl7, sl8, sl9, sl10, sl11, sl12, sl13, sl14, sl15, sl16, sl17, Bool.true_and, Bool.and_true, Bool.not_true, Bool.not_false, Nat.reduceAdd, Nat.reduceSub, Nat.zero_add, Bool.false_eq_true, decide_true, decide_false, List.length_append, Int.cast_ofNat_Int, Int.natCast_one, Int.natCast_zero, Int.reduceEq, Int.reduceLT, Int.reduceLE, Int.reduceAdd, Int.reduceMul, Int.reduceSub, Int.reduceNeg, ne_eq, not_true_eq_false, not_false_eq_true, T.d, ix2_1, listS]
  have ix : ixS (.lst (T.ds ps)) (.int (i : Nat)) = some (.v v.d) := by
    have : atI (T.ds ps) (i : Nat) = some v.d := atI_nat (by rw [T.ds_map, List.getElem?_map, hv]; rfl)
    simp only [ixS, this, Option.map_some]
  have inn : ixN (T.ds ps).length (i : Nat) = some i := ixN_nat (by rw [T.ds_len]; exact hi)
  have es : (T.ds ps).set i x.d = T.ds (ps.set i x) := by rw [T.ds_map, T.ds_map, List.map_set]
  have h2 : sLput 3 (mBin ixS (mN 1) (mC (.int 0))) (mCall Φ 43 [(mBin ixS (mN 3) (mBin ixS (mN 1) (mC (.int 0)))), (mSl (mN 1) (mO1 (mC (.int 1))) mO0), (mN 2)]) [.val (T.n w ps).d, .val (pD (i :: p)), .val s.d, .ow false (.lst (T.ds ps))] = .nx [.val (T.n w ps).d, .val (pD (i :: p)), .val s.d, .ow false (.lst (T.ds (ps.set i x)))] := by
    simp only [sLput, runF, fr0, ioOf, mvM, mC, mN, mBin, mUn, mB, mAndT, mOrT, mNotT, mAndV, mOrV, mNotV, mHs, mDs, mTup, mLst, pks, mPrim, sSeq, sNil, oS, sPass, sExpr, sRet, sIf, setVq, nl_un, nl_val, nl_own, putH, sAsg, tN, tNil, tCons, tT, sAsgT, mCall, pk, mv, RD.hd, Out.bind, mTrue, mCh, mMt, mSl, mO0, mO1, mLM, mLM.isOwnL, isOwn, mComp, mCompN, lockF, unlk, sFor, sForN, unlS, mIL, mIT, mIS, mIR1, mIR2, wipeF, restF, vsOkq, sRaise, sTry, mDnew, List.getElem?_cons_zero, List.getElem?_cons_succ, List.set_cons_zero, List.set_cons_succ, List.length_cons, List.length_nil, List.map_cons, List.map_nil, List.replicate_succ, List.replicate_zero, List.cons_append, List.nil_append, List.all_cons, List.all_nil, Option.map_some, Option.map_none, reduceIte, sl0, sl1, sl2, sl3, sl4, sl5, sl6, sl7, sl8, sl9, sl10, sl11, sl12, sl13, sl14, sl15, sl16, sl17, Bool.true_and, Bool.and_true, Bool.not_true, Bool.not_false, Nat.reduceAdd, Nat.reduceSub, Nat.zero_add, Bool.false_eq_true, decide_true, decide_false, List.length_append, Int.cast_ofNat_Int, Int.natCast_one, Int.natCast_zero, Int.reduceEq, Int.reduceLT, Int.reduceLE, Int.reduceAdd, Int.reduceMul, Int.reduceSub, Int.reduceNeg, ne_eq, not_true_eq_false, not_false_eq_true, ix_p0, ix, sl_p1, hΦ, inn, es]
  have h3 : sRet (mTup [(mBin ixS (mN 0) (mC (.int 0))), (mPrim tupleS [(mN 3)])]) [.val (T.n w ps).d, .val (pD (i :: p)), .val s.d, .ow false (.lst (T.ds (ps.set i x)))] = .rt (.tup [.str w, .tup (T.ds (ps.set i x))]) [.val (T.n w ps).d, .val (pD (i :: p)), .val s.d, .ow false (.lst (T.ds (ps.set i x)))] := by simp only [runF, fr0, ioOf, mvM, mC, mN, mBin, mUn, mB, mAndT, mOrT, mNotT, mAndV, mOrV, mNotV, mHs, mDs, mTup, mLst, pks, mPrim, sSeq, sNil, oS, sPass, sExpr, sRet, sIf, setVq, nl_un, nl_val, nl_own, putH, sAsg, tN, tNil, tCons, tT, sAsgT, mCall, pk, mv, RD.hd, Out.bind, mTrue, mCh, mMt, mSl, mO0, mO1, mLM, mLM.isOwnL, isOwn, mComp, mCompN, lockF, unlk, sFor, sForN, unlS, mIL, mIT, mIS, mIR1, mIR2, wipeF, restF, vsOkq, sRaise, sTry, mDnew, List.getElem?_cons_zero, List.getElem?_cons_succ, List.set_cons_zero, List.set_cons_succ, List.length_cons, List.length_nil, List.map_cons, List.map_nil, List.replicate_succ, List.replicate_zero, List.cons_append, List.nil_append, List.all_cons, List.all_nil, Option.map_some, Option.map_none, reduceIte, sl0, sl1, sl2, sl3, sl4, sl5, sl6, sl7, sl8, sl9, sl10, sl11, sl12, sl13, sl14, sl15, sl16, sl17, Bool.true_and, Bool.and_true, Bool.not_true, Bool.not_false, Nat.reduceAdd, Nat.reduceSub, Nat.zero_add, Bool.false_eq_true, decide_true, decide_false, List.length_append, Int.cast_ofNat_Int, Int.natCast_one, Int.natCast_zero, Int.reduceEq, Int.reduceLT, Int.reduceLE, Int.reduceAdd, Int.reduceMul, Int.reduceSub, Int.reduceNeg, ne_eq, not_true_eq_false, not_false_eq_true, T.d, ix2_0, tupleS]
  have hb : b_put_in Φ [.val (T.n w ps).d, .val (pD (i :: p)), .val s.d, .un] = .rt (.tup [.str w, .tup (T.ds (ps.set i x))]) [.val (T.n w ps).d, .val (pD (i :: p)), .val s.d, .ow false (.lst (T.ds (ps.set i x)))] := by
    unfold b_put_in; rw [sSeq_nx h0, sSeq_nx h1, sSeq_nx h2, h3]
  exact run_ok (c := c_put_in) rfl rfl rfl hb
theorem ev_put_in {Pg : Nat → CF} (e43 : Pg 43 = c_put_in) {s : T} : ∀ (p : List Nat) (t u : T), t.tree → T.at t p = some u → Ev Pg (p.length + 1) 43 [t.d, pD p, s.d] (.ok (T.put t p s).d .non)
  | [], t, u, _, _ => ev_of e43 fun k _ => by
    have e : (T.put t [] s) = s := by cases t <;> rfl
    rw [e]
    have h0 : sIf (mB (mBin eqS (mN 1) (mTup []))) (sRet (mN 2)) sNil [.val t.d, .val (pD []), .val s.d, .un] = .rt s.d [.val t.d, .val (pD []), .val s.d, .un] := by simp only [runF, fr0, ioOf, mvM, mC, mN, mBin, mUn, mB, mAndT, mOrT, mNotT, mAndV, mOrV, mNotV, mHs, mDs, mTup, mLst, pks, mPrim, sSeq, sNil, oS, sPass, sExpr, sRet, sIf, setVq, nl_un, nl_val, nl_own, putH, sAsg, tN, tNil, tCons, tT, sAsgT, mCall, pk, mv, RD.hd, Out.bind, mTrue, mCh, mMt, mSl, mO0, mO1, mLM, mLM.isOwnL, isOwn, mComp, mCompN, lockF, unlk, sFor, sForN, unlS, mIL, mIT, mIS, mIR1, mIR2, wipeF, restF, vsOkq, sRaise, sTry, mDnew, List.getElem?_cons_zero, List.getElem?_cons_succ, List.set_cons_zero, List.set_cons_succ, List.length_cons, List.length_nil, List.map_cons, List.map_nil, List.replicate_succ, List.replicate_zero, List.cons_append, List.nil_append, List.all_cons, List.all_nil, Option.map_some, Option.map_none, reduceIte, sl0, sl1, sl2, sl3, sl4, sl5, sl6, sl7, sl8, sl9, sl10, sl11, sl12, sl13, sl14, sl15, sl16, sl17, Bool.true_and, Bool.and_true, Bool.not_true, Bool.not_false, Nat.reduceAdd, Nat.reduceSub, Nat.zero_add, Bool.false_eq_true, decide_true, decide_false, List.length_append, Int.cast_ofNat_Int, Int.natCast_one, Int.natCast_zero, Int.reduceEq, Int.reduceLT, Int.reduceLE, Int.reduceAdd, Int.reduceMul, Int.reduceSub, Int.reduceNeg, ne_eq, not_true_eq_false, not_false_eq_true, eq_nil, List.isEmpty_nil]
    have hb : b_put_in (call Pg k) [.val t.d, .val (pD []), .val s.d, .un] = .rt s.d [.val t.d, .val (pD []), .val s.d, .un] := by unfold b_put_in; exact sSeq_rt h0
    exact run_ok (c := c_put_in) rfl rfl rfl hb
  | i :: p, .h _, u, ht, _ => ht.elim
  | i :: p, .n w ps, u, ht, e => ev_of e43 fun k hk => by
    simp only [T.at] at e
    cases q : ps[i]? with
    | none => rw [q] at e; cases e
    | some v =>
      rw [q] at e
      simp only [T.put, q]
      exact r_put_in (by have := ht.2.1; omega) q (ev_put_in e43 p v u (T.trees_mem.1 ht.2.2.2 v (List.mem_of_getElem? q)) e k hk)
/-! ### need_place, part_at, put_at, loud_places -/
theorem isS_oD (o : Option T) : isS (oD o) .non = some (.v (.bl o.isNone)) := by
  cases o with
  | none => rfl
  | some t => cases t <;> rfl
theorem isi_pD (p : List Nat) : isiS .ttup (pD p) = some (.v (.bl true)) := rfl
theorem ev_need_place {Pg : Nat → CF} (H : HasP Pg) {t u : T} {p : List Nat} (ht : t.tree) (hz : t.sz ≤ 60) (hu : T.at t p = some u) : Ev Pg 5 41 [t.d, pD p] (.ok .non .non) := ev_of H.e41 (m := 4) fun k hk => by
  have a := ev_need_tree H.toHasT ht hz k hk
  have b := ev_found_at H.toHasF p ht k (by omega)
  rw [hu] at b
  have c := isS_oD (some u)
  simp only [oD, Option.isNone_some] at b c
  simp only [c_need_place, b_need_place, runF, fr0, ioOf, mvM, mC, mN, mBin, mUn, mB, mAndT, mOrT, mNotT, mAndV, mOrV, mNotV, mHs, mDs, mTup, mLst, pks, mPrim, sSeq, sNil, oS, sPass, sExpr, sRet, sIf, setVq, nl_un, nl_val, nl_own, putH, sAsg, tN, tNil, tCons, tT, sAsgT, mCall, pk, mv, RD.hd, Out.bind, mTrue, mCh, mMt, mSl, mO0, mO1, mLM, mLM.isOwnL, isOwn, mComp, mCompN, lockF, unlk, sFor, sForN, unlS, mIL, mIT, mIS, mIR1, mIR2, wipeF, restF, vsOkq, sRaise, sTry, mDnew, List.getElem?_cons_zero, List.getElem?_cons_succ, List.set_cons_zero, List.set_cons_succ, List.length_cons, List.length_nil, List.map_cons, List.map_nil, List.replicate_succ, List.replicate_zero, List.cons_append, List.nil_append, List.all_cons, List.all_nil, Option.map_some, Option.map_none, reduceIte, sl0, sl1, sl2, sl3, sl4, sl5, sl6, sl7, sl8, sl9, sl10, sl11, sl12, sl13, sl14, sl15, sl16, sl17, Bool.true_and, Bool.and_true, Bool.not_true, Bool.not_false, Nat.reduceAdd, Nat.reduceSub, Nat.zero_add, Bool.false_eq_true, decide_true, decide_false, List.length_append, Int.cast_ofNat_Int, Int.natCast_one, Int.natCast_zero, Int.reduceEq, Int.reduceLT, Int.reduceLE, Int.reduceAdd, Int.reduceMul, Int.reduceSub, Int.reduceNeg, ne_eq, not_true_eq_false, not_false_eq_true, a, b, c, isi_pD]
theorem ev_part_at {Pg : Nat → CF} (H : HasP Pg) {t u : T} {p : List Nat} (ht : t.tree) (hz : t.sz ≤ 60) (hu : T.at t p = some u) : Ev Pg 6 42 [t.d, pD p] (.ok u.d .non) := ev_of H.e42 (m := 5) fun k hk => by
  have a := ev_need_place H ht hz hu k hk
  have b := ev_found_at H.toHasF p ht k (by omega)
  rw [hu] at b
  simp only [oD] at b
  simp only [c_part_at, b_part_at, runF, fr0, ioOf, mvM, mC, mN, mBin, mUn, mB, mAndT, mOrT, mNotT, mAndV, mOrV, mNotV, mHs, mDs, mTup, mLst, pks, mPrim, sSeq, sNil, oS, sPass, sExpr, sRet, sIf, setVq, nl_un, nl_val, nl_own, putH, sAsg, tN, tNil, tCons, tT, sAsgT, mCall, pk, mv, RD.hd, Out.bind, mTrue, mCh, mMt, mSl, mO0, mO1, mLM, mLM.isOwnL, isOwn, mComp, mCompN, lockF, unlk, sFor, sForN, unlS, mIL, mIT, mIS, mIR1, mIR2, wipeF, restF, vsOkq, sRaise, sTry, mDnew, List.getElem?_cons_zero, List.getElem?_cons_succ, List.set_cons_zero, List.set_cons_succ, List.length_cons, List.length_nil, List.map_cons, List.map_nil, List.replicate_succ, List.replicate_zero, List.cons_append, List.nil_append, List.all_cons, List.all_nil, Option.map_some, Option.map_none, reduceIte, sl0, sl1, sl2, sl3, sl4, sl5, sl6, sl7, sl8, sl9, sl10, sl11, sl12, sl13, sl14, sl15, sl16, sl17, Bool.true_and, Bool.and_true, Bool.not_true, Bool.not_false, Nat.reduceAdd, Nat.reduceSub, Nat.zero_add, Bool.false_eq_true, decide_true, decide_false, List.length_append, Int.cast_ofNat_Int, Int.natCast_one, Int.natCast_zero, Int.reduceEq, Int.reduceLT, Int.reduceLE, Int.reduceAdd, Int.reduceMul, Int.reduceSub, Int.reduceNeg, ne_eq, not_true_eq_false, not_false_eq_true, a, b]
theorem at_len : ∀ {p : List Nat} {t u : T}, T.at t p = some u → p.length + u.dep ≤ t.dep
  | [], t, u, e => by cases t <;> (simp only [T.at, Option.some.injEq] at e; subst e; simp)
  | i :: p, .h _, u, e => by simp [T.at] at e
  | i :: p, .n w ps, u, e => by
    simp only [T.at] at e
    cases q : ps[i]? with
    | none => rw [q] at e; cases e
    | some v =>
      rw [q] at e
      have := at_len e
      have := T.dep_mem (List.mem_of_getElem? q)
      simp only [T.dep, List.length_cons]; omega
theorem ev_put_at {Pg : Nat → CF} (H : HasP Pg) {t u s : T} {p : List Nat} (ht : t.tree) (hz : t.sz ≤ 60) (hu : T.at t p = some u) (hs : s.tree) (hsz : s.sz ≤ 60) (hp : (T.put t p s).sz ≤ 60) : Ev Pg 70 44 [t.d, pD p, s.d] (.ok (T.put t p s).d .non) := ev_of H.e44 (m := 69) fun k hk => by
  have a := ev_need_place H ht hz hu k (by omega)
  have b := ev_need_tree H.toHasT hs hsz k (by omega)
  have l := at_len hu
  have dz := T.dep_sz t
  have c := ev_put_in H.e43 (s := s) p t u ht hu k (by omega)
  have e := ev_is_tree H.toHasT (put_tree hu ht hs).1 hp k (by omega)
  simp only [c_put_at, b_put_at, runF, fr0, ioOf, mvM, mC, mN, mBin, mUn, mB, mAndT, mOrT, mNotT, mAndV, mOrV, mNotV, mHs, mDs, mTup, mLst, pks, mPrim, sSeq, sNil, oS, sPass, sExpr, sRet, sIf, setVq, nl_un, nl_val, nl_own, putH, sAsg, tN, tNil, tCons, tT, sAsgT, mCall, pk, mv, RD.hd, Out.bind, mTrue, mCh, mMt, mSl, mO0, mO1, mLM, mLM.isOwnL, isOwn, mComp, mCompN, lockF, unlk, sFor, sForN, unlS, mIL, mIT, mIS, mIR1, mIR2, wipeF, restF, vsOkq, sRaise, sTry, mDnew, List.getElem?_cons_zero, List.getElem?_cons_succ, List.set_cons_zero, List.set_cons_succ, List.length_cons, List.length_nil, List.map_cons, List.map_nil, List.replicate_succ, List.replicate_zero, List.cons_append, List.nil_append, List.all_cons, List.all_nil, Option.map_some, Option.map_none, reduceIte, sl0, sl1, sl2, sl3, sl4, sl5, sl6, sl7, sl8, sl9, sl10, sl11, sl12, sl13, sl14, sl15, sl16, sl17, Bool.true_and, Bool.and_true, Bool.not_true, Bool.not_false, Nat.reduceAdd, Nat.reduceSub, Nat.zero_add, Bool.false_eq_true, decide_true, decide_false, List.length_append, Int.cast_ofNat_Int, Int.natCast_one, Int.natCast_zero, Int.reduceEq, Int.reduceLT, Int.reduceLE, Int.reduceAdd, Int.reduceMul, Int.reduceSub, Int.reduceNeg, ne_eq, not_true_eq_false, not_false_eq_true, a, b, c, e]
theorem ev_loud_places {Pg : Nat → CF} (H : HasP Pg) {t : T} (ht : t.tree) (hz : t.sz ≤ 60) : Ev Pg 62 46 [t.d] (.ok (.lst ((T.plc true t []).map pD)) .non) := ev_of H.e46 (m := 61) fun k hk => by
  have a := ev_need_tree H.toHasT ht hz k (by omega)
  have dz := T.dep_sz t
  have pf := ev_places_from H.toHasF (loud := true) 60 t [] ht (by omega) hz (by simp) k (by omega)
  have ep : pD [] = .tup [] := rfl
  rw [ep] at pf
  simp only [c_loud_places, b_loud_places, runF, fr0, ioOf, mvM, mC, mN, mBin, mUn, mB, mAndT, mOrT, mNotT, mAndV, mOrV, mNotV, mHs, mDs, mTup, mLst, pks, mPrim, sSeq, sNil, oS, sPass, sExpr, sRet, sIf, setVq, nl_un, nl_val, nl_own, putH, sAsg, tN, tNil, tCons, tT, sAsgT, mCall, pk, mv, RD.hd, Out.bind, mTrue, mCh, mMt, mSl, mO0, mO1, mLM, mLM.isOwnL, isOwn, mComp, mCompN, lockF, unlk, sFor, sForN, unlS, mIL, mIT, mIS, mIR1, mIR2, wipeF, restF, vsOkq, sRaise, sTry, mDnew, List.getElem?_cons_zero, List.getElem?_cons_succ, List.set_cons_zero, List.set_cons_succ, List.length_cons, List.length_nil, List.map_cons, List.map_nil, List.replicate_succ, List.replicate_zero, List.cons_append, List.nil_append, List.all_cons, List.all_nil, Option.map_some, Option.map_none, reduceIte, sl0, sl1, sl2, sl3, sl4, sl5, sl6, sl7, sl8, sl9, sl10, sl11, sl12, sl13, sl14, sl15, sl16, sl17, Bool.true_and, Bool.and_true, Bool.not_true, Bool.not_false, Nat.reduceAdd, Nat.reduceSub, Nat.zero_add, Bool.false_eq_true, decide_true, decide_false, List.length_append, Int.cast_ofNat_Int, Int.natCast_one, Int.natCast_zero, Int.reduceEq, Int.reduceLT, Int.reduceLE, Int.reduceAdd, Int.reduceMul, Int.reduceSub, Int.reduceNeg, ne_eq, not_true_eq_false, not_false_eq_true, a, pf]
/-! ### rule_of, done, mend_at -/
structure HasD (Pg : Nat → CF) : Prop extends HasP Pg where
  e59 : Pg 59 = c_rule_of
  e60 : Pg 60 = c_done
  e61 : Pg 61 = c_mend_at
theorem ev_rule_of {Pg : Nat → CF} (e59 : Pg 59 = c_rule_of) {rs : List Ru} (g : BookOk rs) {r : Ru} (hr : r ∈ rs) : Ev Pg 1 59 [bookD rs, .str r.nm] (.ok r.d .non) := ev_of e59 (m := 0) fun k _ => by
  have cr : compR (tN 2) (b_rule_of_t1 (call Pg k)) (b_rule_of_e1 (call Pg k)) [2] (rs.map Ru.d) [.val (bookD rs), .val (.str r.nm), .un] = .ok (.f (.lst ((rs.filter fun x => decide (x.nm = r.nm)).map Ru.d))) [.val (bookD rs), .val (.str r.nm), .un] := by
    refine compR_FA Ru.d _ _ rs rfl (sl64 (by have := g.len; omega)) rfl rfl fun x hx => ⟨[.val (bookD rs), .val (.str r.nm), .val x.d], [.val (bookD rs), .val (.str r.nm), .val x.d], rfl, ?_, fun _ => rfl, fun _ => ⟨[.val (bookD rs), .val (.str r.nm), .val x.d], ?_, rfl⟩⟩
    · have : ixS x.d (.int 0) = some (.v (.str x.nm)) := rfl
      simp only [b_rule_of_t1, runF, fr0, ioOf, mvM, mC, mN, mBin, mUn, mB, mAndT, mOrT, mNotT, mAndV, mOrV, mNotV, mHs, mDs, mTup, mLst, pks, mPrim, sSeq, sNil, oS, sPass, sExpr, sRet, sIf, setVq, nl_un, nl_val, nl_own, putH, sAsg, tN, tNil, tCons, tT, sAsgT, mCall, pk, mv, RD.hd, Out.bind, mTrue, mCh, mMt, mSl, mO0, mO1, mLM, mLM.isOwnL, isOwn, mComp, mCompN, lockF, unlk, sFor, sForN, unlS, mIL, mIT, mIS, mIR1, mIR2, wipeF, restF, vsOkq, sRaise, sTry, mDnew, List.getElem?_cons_zero, List.getElem?_cons_succ, List.set_cons_zero, List.set_cons_succ, List.length_cons, List.length_nil, List.map_cons, List.map_nil, List.replicate_succ, List.replicate_zero, List.cons_append, List.nil_append, List.all_cons, List.all_nil, Option.map_some, Option.map_none, reduceIte, sl0, sl1, sl2, sl3, sl4, sl5, sl6, sl7, sl8, sl9, sl10, sl11, sl12, sl13, sl14, sl15, sl16, sl17, Bool.true_and, Bool.and_true, Bool.not_true, Bool.not_false, Nat.reduceAdd, Nat.reduceSub, Nat.zero_add, Bool.false_eq_true, decide_true, decide_false, List.length_append, Int.cast_ofNat_Int, Int.natCast_one, Int.natCast_zero, Int.reduceEq, Int.reduceLT, Int.reduceLE, Int.reduceAdd, Int.reduceMul, Int.reduceSub, Int.reduceNeg, ne_eq, not_true_eq_false, not_false_eq_true, this, eqS_str]
    · simp only [b_rule_of_e1, runF, fr0, ioOf, mvM, mC, mN, mBin, mUn, mB, mAndT, mOrT, mNotT, mAndV, mOrV, mNotV, mHs, mDs, mTup, mLst, pks, mPrim, sSeq, sNil, oS, sPass, sExpr, sRet, sIf, setVq, nl_un, nl_val, nl_own, putH, sAsg, tN, tNil, tCons, tT, sAsgT, mCall, pk, mv, RD.hd, Out.bind, mTrue, mCh, mMt, mSl, mO0, mO1, mLM, mLM.isOwnL, isOwn, mComp, mCompN, lockF, unlk, sFor, sForN, unlS, mIL, mIT, mIS, mIR1, mIR2, wipeF, restF, vsOkq, sRaise, sTry, mDnew, List.getElem?_cons_zero, List.getElem?_cons_succ, List.set_cons_zero, List.set_cons_succ, List.length_cons, List.length_nil, List.map_cons, List.map_nil, List.replicate_succ, List.replicate_zero, List.cons_append, List.nil_append, List.all_cons, List.all_nil, Option.map_some, Option.map_none, reduceIte, sl0, sl1, sl2, sl3, sl4, sl5, sl6, sl7, sl8, sl9, sl10, sl11, sl12, sl13, sl14, sl15, sl16, sl17, Bool.true_and, Bool.and_true, Bool.not_true, Bool.not_false, Nat.reduceAdd, Nat.reduceSub, Nat.zero_add, Bool.false_eq_true, decide_true, decide_false, List.length_append, Int.cast_ofNat_Int, Int.natCast_one, Int.natCast_zero, Int.reduceEq, Int.reduceLT, Int.reduceLE, Int.reduceAdd, Int.reduceMul, Int.reduceSub, Int.reduceNeg, ne_eq, not_true_eq_false, not_false_eq_true]
  rw [asc_one g.asc r hr] at cr
  have mc : mComp (mIT (mN 0)) [2] (tN 2) (b_rule_of_t1 (call Pg k)) (b_rule_of_e1 (call Pg k)) [.val (bookD rs), .val (.str r.nm), .un] = .ok (.f (.lst [r.d])) [.val (bookD rs), .val (.str r.nm), .un] := mComp_ok (ds := rs.map Ru.d) (A1 := [.val (bookD rs), .val (.str r.nm), .un]) (by simp only [runF, fr0, ioOf, mvM, mC, mN, mBin, mUn, mB, mAndT, mOrT, mNotT, mAndV, mOrV, mNotV, mHs, mDs, mTup, mLst, pks, mPrim, sSeq, sNil, oS, sPass, sExpr, sRet, sIf, setVq, nl_un, nl_val, nl_own, putH, sAsg, tN, tNil, tCons, tT, sAsgT, mCall, pk, mv, RD.hd, Out.bind, mTrue, mCh, mMt, mSl, mO0, mO1, mLM, mLM.isOwnL, isOwn, mComp, mCompN, lockF, unlk, sFor, sForN, unlS, mIL, mIT, mIS, mIR1, mIR2, wipeF, restF, vsOkq, sRaise, sTry, mDnew, List.getElem?_cons_zero, List.getElem?_cons_succ, List.set_cons_zero, List.set_cons_succ, List.length_cons, List.length_nil, List.map_cons, List.map_nil, List.replicate_succ, List.replicate_zero, List.cons_append, List.nil_append, List.all_cons, List.all_nil, Option.map_some, Option.map_none, reduceIte, sl0, sl1, sl2, sl3, sl4, sl5, sl6, sl7, sl8, sl9, sl10, sl11, sl12, sl13, sl14, sl15, sl16, sl17, Bool.true_and, Bool.and_true, Bool.not_true, Bool.not_false, Nat.reduceAdd, Nat.reduceSub, Nat.zero_add, Bool.false_eq_true, decide_true, decide_false, List.length_append, Int.cast_ofNat_Int, Int.natCast_one, Int.natCast_zero, Int.reduceEq, Int.reduceLT, Int.reduceLE, Int.reduceAdd, Int.reduceMul, Int.reduceSub, Int.reduceNeg, ne_eq, not_true_eq_false, not_false_eq_true, bookD]) cr
  have ix : ixS (.lst [r.d]) (.int 0) = some (.v r.d) := rfl
  have hb : b_rule_of (call Pg k) [.val (bookD rs), .val (.str r.nm), .un] = .rt r.d [.val (bookD rs), .val (.str r.nm), .un] := by
    unfold b_rule_of
    simp only [runF, fr0, ioOf, mvM, mC, mN, mBin, mUn, mB, mAndT, mOrT, mNotT, mAndV, mOrV, mNotV, mHs, mDs, mTup, mLst, pks, mPrim, sSeq, sNil, oS, sPass, sExpr, sRet, sIf, setVq, nl_un, nl_val, nl_own, putH, sAsg, tN, tNil, tCons, tT, sAsgT, mCall, pk, mv, RD.hd, Out.bind, mTrue, mCh, mMt, mSl, mO0, mO1, mLM, mLM.isOwnL, isOwn, lockF, unlk, sFor, sForN, unlS, mIL, mIT, mIS, mIR1, mIR2, wipeF, restF, vsOkq, sRaise, sTry, mDnew, List.getElem?_cons_zero, List.getElem?_cons_succ, List.set_cons_zero, List.set_cons_succ, List.length_cons, List.length_nil, List.map_cons, List.map_nil, List.replicate_succ, List.replicate_zero, List.cons_append, List.nil_append, List.all_cons, List.all_nil, Option.map_some, Option.map_none, reduceIte, sl0, sl1, sl2, sl3, sl4, sl5, sl6, sl7, sl8, sl9, sl10, sl11, sl12, sl13, sl14, sl15, sl16, sl17, Bool.true_and, Bool.and_true, Bool.not_true, Bool.not_false, Nat.reduceAdd, Nat.reduceSub, Nat.zero_add, Bool.false_eq_true, decide_true, decide_false, List.length_append, Int.cast_ofNat_Int, Int.natCast_one, Int.natCast_zero, Int.reduceEq, Int.reduceLT, Int.reduceLE, Int.reduceAdd, Int.reduceMul, Int.reduceSub, Int.reduceNeg, ne_eq, not_true_eq_false, not_false_eq_true, mc, ix]
  exact run_ok (c := c_rule_of) rfl rfl rfl hb
/-- a finding's parts -/
structure FdOk (rs : List Ru) (t : T) (f : Fd) (r : Ru) (u v : T) : Prop where
  mem : r ∈ rs
  nm : f.2 = r.nm
  at_ : T.at t f.1 = some u
  md : mendE r u = some v
theorem finds_mem {rs : List Ru} {t : T} {f : Fd} (h : f ∈ finds rs t) : f.1 ∈ T.plc true t [] ∧ ∃ r u v, FdOk rs t f r u v := by
  unfold finds at h
  obtain ⟨p, hp, hf⟩ := List.mem_flatMap.1 h
  obtain ⟨e, r, u, h1, h2, h3, h4⟩ := findsP_mem hf
  obtain ⟨v, hv⟩ := Option.isSome_iff_exists.1 h4
  rw [← e] at h3 hp
  exact ⟨hp, r, u, v, h1, h2, h3, hv⟩
theorem finds_in {rs : List Ru} {t : T} {f : Fd} (hp : f.1 ∈ T.plc true t []) {r : Ru} {u v : T} (h : FdOk rs t f r u v) : f ∈ finds rs t := by
  unfold finds
  refine List.mem_flatMap.2 ⟨f.1, hp, ?_⟩
  unfold findsP
  rw [h.at_]
  refine List.mem_map.2 ⟨r, List.mem_filter.2 ⟨h.mem, by rw [h.md]; rfl⟩, ?_⟩
  rw [← h.nm]
/-- the tree with what was found mended -/
noncomputable def doneT (rs : List Ru) (t : T) (f : Fd) : T := match rs.find? (fun r => decide (r.nm = f.2)), T.at t f.1 with
  | some r, some u => (match mendE r u with
    | some v => T.put t f.1 v
    | none => t)
  | _, _ => t
theorem find_rule : ∀ {rs : List Ru}, rs.Pairwise (fun a b => Str.lt a.nm b.nm) → ∀ r, r ∈ rs → rs.find? (fun x => decide (x.nm = r.nm)) = some r
  | x :: rs, h, r, hr => by
    have h' := List.pairwise_cons.1 h
    rw [List.find?_cons]
    rcases List.mem_cons.1 hr with rfl | hr
    · simp
    · have := h'.1 r hr
      have ne : decide (x.nm = r.nm) = false := decide_eq_false fun z => by rw [z] at this; exact List.lt_irrefl _ this
      rw [ne]
      exact find_rule h'.2 r hr
theorem doneT_eq {rs : List Ru} (g : BookOk rs) {t : T} {f : Fd} {r : Ru} {u v : T} (h : FdOk rs t f r u v) : doneT rs t f = T.put t f.1 v := by
  unfold doneT
  rw [h.nm, find_rule g.asc r h.mem, h.at_]
  simp only [h.md]
theorem doneT_ok {rs : List Ru} (g : BookOk rs) {t : T} (ht : t.tree) {f : Fd} {r : Ru} {u v : T} (h : FdOk rs t f r u v) : (doneT rs t f).tree ∧ (doneT rs t f).sz < t.sz := by
  rw [doneT_eq g h]
  obtain ⟨u1, _, u3⟩ := at_tree f.1 t u ht h.at_
  obtain ⟨a, b⟩ := mendE_ok (g.good r h.mem) u1 h.md
  obtain ⟨c, d⟩ := put_tree h.at_ ht a
  exact ⟨c, by omega⟩
theorem ev_done {Pg : Nat → CF} (H : HasD Pg) {rs : List Ru} (g : BookOk rs) {t : T} (ht : t.tree) (hz : t.sz ≤ 60) {f : Fd} {r : Ru} {u v : T} (h : FdOk rs t f r u v) : Ev Pg 62 60 [bookD rs, t.d, fD f] (.ok (doneT rs t f).d .non) := ev_of H.e60 (m := 61) fun k hk => by
  have dz := T.dep_sz t
  obtain ⟨u1, u2, _⟩ := at_tree f.1 t u ht h.at_
  have a := ev_rule_of H.e59 g h.mem k (by omega)
  have b := ev_found_at H.toHasF f.1 ht k (by omega)
  rw [h.at_] at b
  have c := ev_mended H.toHasF (g.good r h.mem) u1 (by omega) k (by omega)
  rw [h.md] at c
  have l := at_len h.at_
  have e := ev_put_in H.e43 (s := v) f.1 t u ht h.at_ k (by omega)
  simp only [oD] at b c
  rw [← h.nm] at a
  rw [doneT_eq g h]
  have ef : fD f = .tup [pD f.1, .str f.2] := rfl
  rw [ef]
  simp only [c_done, b_done, runF, fr0, ioOf, mvM, mC, mN, mBin, mUn, mB, mAndT, mOrT, mNotT, mAndV, mOrV, mNotV, mHs, mDs, mTup, mLst, pks, mPrim, sSeq, sNil, oS, sPass, sExpr, sRet, sIf, setVq, nl_un, nl_val, nl_own, putH, sAsg, tN, tNil, tCons, tT, sAsgT, mCall, pk, mv, RD.hd, Out.bind, mTrue, mCh, mMt, mSl, mO0, mO1, mLM, mLM.isOwnL, isOwn, mComp, mCompN, lockF, unlk, sFor, sForN, unlS, mIL, mIT, mIS, mIR1, mIR2, wipeF, restF, vsOkq, sRaise, sTry, mDnew, List.getElem?_cons_zero, List.getElem?_cons_succ, List.set_cons_zero, List.set_cons_succ, List.length_cons, List.length_nil, List.map_cons, List.map_nil, List.replicate_succ, List.replicate_zero, List.cons_append, List.nil_append, List.all_cons, List.all_nil, Option.map_some, Option.map_none, reduceIte, sl0, sl1, sl2, sl3, sl4, sl5, sl6, sl7, sl8, sl9, sl10, sl11, sl12, sl13, sl14, sl15, sl16, sl17, Bool.true_and, Bool.and_true, Bool.not_true, Bool.not_false, Nat.reduceAdd, Nat.reduceSub, Nat.zero_add, Bool.false_eq_true, decide_true, decide_false, List.length_append, Int.cast_ofNat_Int, Int.natCast_one, Int.natCast_zero, Int.reduceEq, Int.reduceLT, Int.reduceLE, Int.reduceAdd, Int.reduceMul, Int.reduceSub, Int.reduceNeg, ne_eq, not_true_eq_false, not_false_eq_true, a, b, c, e]
theorem any_fd (f : Fd) : ∀ l : List Fd, ((l.map fD).any fun z => D.eq z (fD f)) = decide (f ∈ l)
  | [] => by simp
  | x :: l => by
    rw [List.map_cons, List.any_cons, any_fd f l]
    by_cases q : x = f
    · subst q
      have : D.eq (fD x) (fD x) = true := eq_refl _ (fD_lay x)
      simp [this]
    · have ne : D.eq (fD x) (fD f) = false := by
        cases z : D.eq (fD x) (fD f) with
        | false => rfl
        | true => exact absurd (fD_inj ((D.eq_iff (fD_ord x) (fD_ord f)).1 z)) q
      have q2 : ¬ f = x := fun z => q z.symm
      simp [ne, q2]
theorem inB_fd (f : Fd) (l : List Fd) : inB (fD f) (.lst (l.map fD)) = some (decide (f ∈ l)) := by
  have h1 : (D.lst (l.map fD)).dep ≤ 64 := by
    have := lst_dep l
    simp only [D.dep, D.py, PyData.depth]; omega
  have e : inB (fD f) (.lst (l.map fD)) = (if ((fD f).lay && D.lays (l.map fD) && decide ((fD f).dep ≤ 64) && decide ((D.lst (l.map fD)).dep ≤ 64)) = true then some ((l.map fD).any fun z => D.eq z (fD f)) else none) := rfl
  rw [e, fD_lay, lst_lay, fD_dep, decide_eq_true h1, any_fd]; rfl
theorem ev_mend_at {Pg : Nat → CF} (H : HasD Pg) {rs : List Ru} (g : BookOk rs) {t : T} (ht : t.tree) (hz : t.sz ≤ 60) {f : Fd} (hf : f ∈ finds rs t) : Ev Pg 71 61 [bookD rs, t.d, fD f] (.ok (doneT rs t f).d .non) := ev_of H.e61 (m := 70) fun k hk => by
  obtain ⟨_, r, u, v, h⟩ := finds_mem hf
  have a := ev_need_book H.toHasT g k (by omega)
  have b := ev_need_tree H.toHasT ht hz k (by omega)
  have c := ev_all_findings H.toHasF g ht hz k (by omega)
  have d := ev_done H g ht hz h k (by omega)
  have ni : notInS (fD f) (.lst ((finds rs t).map fD)) = some (.v (.bl false)) := by unfold notInS; rw [inB_fd, decide_eq_true hf]; rfl
  simp only [c_mend_at, b_mend_at, runF, fr0, ioOf, mvM, mC, mN, mBin, mUn, mB, mAndT, mOrT, mNotT, mAndV, mOrV, mNotV, mHs, mDs, mTup, mLst, pks, mPrim, sSeq, sNil, oS, sPass, sExpr, sRet, sIf, setVq, nl_un, nl_val, nl_own, putH, sAsg, tN, tNil, tCons, tT, sAsgT, mCall, pk, mv, RD.hd, Out.bind, mTrue, mCh, mMt, mSl, mO0, mO1, mLM, mLM.isOwnL, isOwn, mComp, mCompN, lockF, unlk, sFor, sForN, unlS, mIL, mIT, mIS, mIR1, mIR2, wipeF, restF, vsOkq, sRaise, sTry, mDnew, List.getElem?_cons_zero, List.getElem?_cons_succ, List.set_cons_zero, List.set_cons_succ, List.length_cons, List.length_nil, List.map_cons, List.map_nil, List.replicate_succ, List.replicate_zero, List.cons_append, List.nil_append, List.all_cons, List.all_nil, Option.map_some, Option.map_none, reduceIte, sl0, sl1, sl2, sl3, sl4, sl5, sl6, sl7, sl8, sl9, sl10, sl11, sl12, sl13, sl14, sl15, sl16, sl17, Bool.true_and, Bool.and_true, Bool.not_true, Bool.not_false, Nat.reduceAdd, Nat.reduceSub, Nat.zero_add, Bool.false_eq_true, decide_true, decide_false, List.length_append, Int.cast_ofNat_Int, Int.natCast_one, Int.natCast_zero, Int.reduceEq, Int.reduceLT, Int.reduceLE, Int.reduceAdd, Int.reduceMul, Int.reduceSub, Int.reduceNeg, ne_eq, not_true_eq_false, not_false_eq_true, a, b, c, ni, d]
theorem ev_mend_not {Pg : Nat → CF} (H : HasD Pg) {rs : List Ru} (g : BookOk rs) {t : T} (ht : t.tree) (hz : t.sz ≤ 60) {x : D} (hx : notInS x (.lst ((finds rs t).map fD)) = some (.v (.bl true))) : Ev Pg 71 61 [bookD rs, t.d, x] (.exc 3 .non) := ev_of H.e61 (m := 70) fun k hk => by
  have a := ev_need_book H.toHasT g k (by omega)
  have b := ev_need_tree H.toHasT ht hz k (by omega)
  have c := ev_all_findings H.toHasF g ht hz k (by omega)
  simp only [c_mend_at, b_mend_at, runF, fr0, ioOf, mvM, mC, mN, mBin, mUn, mB, mAndT, mOrT, mNotT, mAndV, mOrV, mNotV, mHs, mDs, mTup, mLst, pks, mPrim, sSeq, sNil, oS, sPass, sExpr, sRet, sIf, setVq, nl_un, nl_val, nl_own, putH, sAsg, tN, tNil, tCons, tT, sAsgT, mCall, pk, mv, RD.hd, Out.bind, mTrue, mCh, mMt, mSl, mO0, mO1, mLM, mLM.isOwnL, isOwn, mComp, mCompN, lockF, unlk, sFor, sForN, unlS, mIL, mIT, mIS, mIR1, mIR2, wipeF, restF, vsOkq, sRaise, sTry, mDnew, List.getElem?_cons_zero, List.getElem?_cons_succ, List.set_cons_zero, List.set_cons_succ, List.length_cons, List.length_nil, List.map_cons, List.map_nil, List.replicate_succ, List.replicate_zero, List.cons_append, List.nil_append, List.all_cons, List.all_nil, Option.map_some, Option.map_none, reduceIte, sl0, sl1, sl2, sl3, sl4, sl5, sl6, sl7, sl8, sl9, sl10, sl11, sl12, sl13, sl14, sl15, sl16, sl17, Bool.true_and, Bool.and_true, Bool.not_true, Bool.not_false, Nat.reduceAdd, Nat.reduceSub, Nat.zero_add, Bool.false_eq_true, decide_true, decide_false, List.length_append, Int.cast_ofNat_Int, Int.natCast_one, Int.natCast_zero, Int.reduceEq, Int.reduceLT, Int.reduceLE, Int.reduceAdd, Int.reduceMul, Int.reduceSub, Int.reduceNeg, ne_eq, not_true_eq_false, not_false_eq_true, a, b, c, hx]
end Z

/-! plain Lean: the part at a place, for itself -/
namespace Z
open PySem PySem.Spec PyProof.Rows L2
mutual
theorem plc_pre (loud : Bool) : ∀ (t : T) (p : List Nat), T.plc loud t p = (T.plc loud t []).map (p ++ ·)
  | .h _, p => by simp [T.plc]
  | .n w ps, p => by
    simp only [T.plc]
    split
    · rfl
    · rw [List.map_cons, List.append_nil, plcs_pre loud ps p 0]
theorem plcs_pre (loud : Bool) : ∀ (l : List T) (p : List Nat) (k : Nat), T.plcs loud l p k = (T.plcs loud l [] k).map (p ++ ·)
  | [], _, _ => rfl
  | t :: ts, p, k => by
    simp only [T.plcs, List.map_append, List.nil_append]
    rw [plc_pre loud t (p ++ [k]), plc_pre loud t [k], plcs_pre loud ts p (k + 1), List.map_map]
    congr 1
    refine List.map_congr_left fun x _ => ?_
    simp
end
theorem plcs_mem (loud : Bool) : ∀ {l : List T} {k : Nat} {q : List Nat}, q ∈ T.plcs loud l [] k → ∃ j r v, q = j :: r ∧ k ≤ j ∧ l[j - k]? = some v ∧ r ∈ T.plc loud v []
  | [], k, q, h => by simp [T.plcs] at h
  | t :: ts, k, q, h => by
    simp only [T.plcs, List.nil_append, List.mem_append] at h
    rcases h with h | h
    · rw [plc_pre] at h
      obtain ⟨r, hr, rfl⟩ := List.mem_map.1 h
      exact ⟨k, r, t, rfl, Nat.le_refl _, by simp, hr⟩
    · obtain ⟨j, r, v, e, h1, h2, h3⟩ := plcs_mem loud h
      refine ⟨j, r, v, e, by omega, ?_, h3⟩
      rw [show j - k = (j - (k + 1)) + 1 by omega, List.getElem?_cons_succ]; exact h2
theorem plcs_in (loud : Bool) : ∀ {l : List T} {k j : Nat} {r : List Nat} {v : T}, k ≤ j → l[j - k]? = some v → r ∈ T.plc loud v [] → (j :: r) ∈ T.plcs loud l [] k
  | [], k, j, r, v, _, h, _ => by simp at h
  | t :: ts, k, j, r, v, hk, h, hr => by
    simp only [T.plcs, List.nil_append, List.mem_append]
    by_cases q : k = j
    · subst q
      simp only [Nat.sub_self, List.getElem?_cons_zero, Option.some.injEq] at h
      subst h
      exact .inl (by rw [plc_pre]; exact List.mem_map.2 ⟨r, hr, rfl⟩)
    · refine .inr (plcs_in loud (by omega) ?_ hr)
      rw [show j - k = (j - (k + 1)) + 1 by omega, List.getElem?_cons_succ] at h; exact h
abbrev under (p x : List Nat) : Bool := decide (x.take p.length = p)
theorem plcs_filter (loud : Bool) (i : Nat) (p : List Nat) : ∀ (l : List T) (k : Nat), (T.plcs loud l [] k).filter (under (i :: p)) = if k ≤ i then (match l[i - k]? with
    | some v => ((T.plc loud v []).filter (under p)).map (i :: ·)
    | none => []) else []
  | [], k => by simp [T.plcs]
  | t :: ts, k => by
    simp only [T.plcs, List.nil_append, List.filter_append]
    rw [plc_pre, plcs_filter loud i p ts (k + 1), List.filter_map]
    by_cases q : k = i
    · subst q
      have e : ((under (k :: p)) ∘ fun x => [k] ++ x) = under p := by
        funext x
        simp [under, Function.comp]
      rw [e, if_pos (Nat.le_refl k), if_neg (by omega), List.append_nil, Nat.sub_self, List.getElem?_cons_zero]
      rfl
    · have e : (T.plc loud t []).filter ((under (i :: p)) ∘ fun x => [k] ++ x) = [] := by
        refine List.filter_eq_nil_iff.2 fun x _ => ?_
        simp [under, Function.comp, q]
      rw [e, List.map_nil, List.nil_append]
      by_cases h : k ≤ i
      · rw [if_pos h, if_pos (by omega), show i - k = (i - (k + 1)) + 1 by omega, List.getElem?_cons_succ]
      · rw [if_neg h, if_neg (by omega)]
theorem plc_filter (loud : Bool) : ∀ (p : List Nat) (t u : T), T.at t p = some u → p ∈ T.plc loud t [] → (T.plc loud t []).filter (under p) = (T.plc loud u []).map (p ++ ·)
  | [], t, u, e, _ => by
    have : t = u := by cases t <;> (simp only [T.at, Option.some.injEq] at e; exact e)
    subst this
    have h1 : (T.plc loud t []).filter (under []) = T.plc loud t [] := List.filter_eq_self.2 fun x _ => by simp [under]
    rw [h1]
    simp
  | i :: p, .h _, u, e, _ => by simp [T.at] at e
  | i :: p, .n w ps, u, e, hm => by
    simp only [T.at] at e
    simp only [T.plc] at hm ⊢
    split at hm
    · cases hm
    · rename_i q
      rw [if_neg q]
      rcases List.mem_cons.1 hm with hm | hm
      · cases hm
      · obtain ⟨j, r, v, e1, _, e2, e3⟩ := plcs_mem loud hm
        cases e1
        simp only [Nat.sub_zero] at e2
        rw [e2] at e
        have f0 : under (i :: p) [] = false := by simp [under]
        rw [List.filter_cons, f0, plcs_filter loud i p ps 0]
        simp only [Bool.false_eq_true, if_false, Nat.zero_le, if_true, Nat.sub_zero, e2]
        rw [plc_filter loud p v u e e3, List.map_map]
        refine List.map_congr_left fun x _ => ?_
        simp
theorem findsP_app (rs : List Ru) {t u : T} {p : List Nat} (h : T.at t p = some u) (q : List Nat) : findsP rs t (p ++ q) = (findsP rs u q).map fun f => (p ++ f.1, f.2) := by
  unfold findsP
  rw [at_app, h]
  simp only [Option.bind_some]
  split
  · rw [List.map_map]; rfl
  · rfl
theorem filter_flat {α β : Type} {g : α → List β} {c : β → Bool} {c' : α → Bool} (h : ∀ a b, b ∈ g a → c b = c' a) : ∀ l : List α, (l.flatMap g).filter c = (l.filter c').flatMap g
  | [] => rfl
  | a :: l => by
    rw [List.flatMap_cons, List.filter_append, filter_flat h l, List.filter_cons]
    cases q : c' a with
    | true =>
      have : (g a).filter c = g a := List.filter_eq_self.2 fun b hb => by rw [h a b hb, q]
      rw [this]; simp
    | false =>
      have : (g a).filter c = [] := List.filter_eq_nil_iff.2 fun b hb => by rw [h a b hb, q]; decide
      rw [this]; simp
/-- what is found in the part there, for itself -/
theorem finds_part (rs : List Ru) {t u : T} {p : List Nat} (h : T.at t p = some u) (hp : p ∈ T.plc true t []) : (finds rs t).filter (fun f => under p f.1) = (finds rs u).map fun f => (p ++ f.1, f.2) := by
  unfold finds
  rw [filter_flat (c' := under p) (fun a b hb => by rw [(findsP_mem hb).1]), plc_filter true p t u h hp, List.flatMap_map, List.map_flatMap]
  congr 1
  funext q
  exact findsP_app rs h q
theorem pD_eq (a b : List Nat) : Z.eqS (pD a) (pD b) = some (.v (.bl (decide (a = b)))) := by
  have c : cmpOk (pD a) (pD b) = true := by
    unfold cmpOk
    have : (pD a).dep = 1 := by simp only [D.dep, pD_py, PyData.depth, iP_dep]
    rw [pD_lay, pD_lay, this, decide_eq_true (show min 1 (pD b).dep ≤ 190 by omega)]; rfl
  unfold Z.eqS
  rw [if_pos c]
  have e := D.eq_iff (pD_ord a) (pD_ord b)
  by_cases q : a = b
  · subst q; rw [e.2 rfl, decide_eq_true rfl]
  · have : D.eq (pD a) (pD b) = false := by
      cases z : D.eq (pD a) (pD b) with
      | false => rfl
      | true =>
        have h1 := e.1 z
        have h2 : fD (a, qt) = fD (b, qt) := by simp only [fD, h1]
        exact absurd (Prod.mk.inj (fD_inj h2)).1 q
    rw [this, decide_eq_false q]
theorem cut_to (l : List D) (n : Nat) : cutD l none (some (n : Int)) = l.take n := by
  unfold cutD
  rw [HT.sIx_none, HT.sIx_nat, List.drop_zero, Nat.sub_zero]
  rcases Nat.le_total n l.length with h | h
  · rw [Nat.min_eq_left h]
  · rw [Nat.min_eq_right h, List.take_length, List.take_of_length_le h]
theorem cut_from (l : List D) (n : Nat) : cutD l (some (n : Int)) none = l.drop n := by
  unfold cutD
  rw [HT.sIx_none, HT.sIx_nat]
  rcases Nat.le_total n l.length with h | h
  · rw [Nat.min_eq_left h, List.take_of_length_le (by rw [List.length_drop]; omega)]
  · rw [Nat.min_eq_right h, List.drop_of_length_le (Nat.le_refl _), List.drop_of_length_le h, List.take_nil]
theorem sl_to (p : List Nat) (n : Nat) : slS (pD p) none (some (n : Int)) = some (.v (pD (p.take n))) := by
  simp only [pD, slS, cut_to, List.map_take]
theorem sl_from (p : List Nat) (n : Nat) : slS (pD p) (some (n : Int)) none = some (.v (pD (p.drop n))) := by
  simp only [pD, slS, cut_from, List.map_drop]
theorem len_pD (p : List Nat) : lenS [pD p] = some (.v (.int (p.length : Nat))) := by simp only [pD, lenS, List.length_map]
end Z

/-! law_k20 -/
namespace Z
open PySem PySem.Spec PyProof.Rows L2
theorem hasF : HasF Pg := ⟨⟨⟨rfl, rfl, rfl, rfl, rfl, rfl, rfl, rfl, rfl, rfl, rfl, rfl, rfl, rfl, rfl, rfl, rfl, rfl⟩, rfl, rfl, rfl, rfl, rfl, rfl⟩, rfl, rfl, rfl, rfl, rfl, rfl, rfl, rfl⟩
theorem hasD : HasD Pg := ⟨⟨hasF, rfl, rfl, rfl, rfl, rfl⟩, rfl, rfl, rfl⟩
theorem fix0 (f : Fd) : ixS (fD f) (.int 0) = some (.v (pD f.1)) := rfl
theorem fix1 (f : Fd) : ixS (fD f) (.int 1) = some (.v (.str f.2)) := rfl
theorem add_pD {p q : List Nat} (h : p.length + q.length ≤ 1000) : addS (pD p) (pD q) = some (.v (pD (p ++ q))) := by
  have : (p.map fun i => D.int (i : Nat)).length + (q.map fun i => D.int (i : Nat)).length ≤ sizeLine := Nat.le_trans (show _ ≤ 1000 by rw [List.length_map, List.length_map]; exact h) (by decide)
  simp only [pD, addS, if_pos this, List.map_append]
theorem k20_in {Φ : Phi} {ns : List Int} {rs : List Ru} {t u v x : T} {p : List Nat} {ws : D} {F I : List Fd} {f : Fd} {s9 : SV} (h9 : nl s9 = true) (hl : p.length + f.1.length ≤ 1000) (hd : x.dep ≤ 95)
    (e1 : Φ 61 [bookD rs, t.d, fD (p ++ f.1, f.2)] = .ok x.d .non) (e2 : Φ 61 [bookD rs, u.d, fD f] = .ok v.d .non) (e3 : Φ 44 [t.d, pD p, v.d] = .ok x.d .non) : b_law_k20_l1 Φ [.val (.scr ns), .val (.lst (F.map fD)), .val (pD p), .val ws, .val (bookD rs), .val t.d, .val u.d, .ow false (.lst (I.map fD)), .val (fD f), s9, .un, .un] = .nx [.val (.scr ns), .val (.lst (F.map fD)), .val (pD p), .val ws, .val (bookD rs), .val t.d, .val u.d, .ow false (.lst (I.map fD)), .val (fD f), .val x.d, .un, .un] := by
  have e1b : Φ 61 [bookD rs, t.d, .tup [pD (p ++ f.1), .str f.2]] = .ok x.d .non := e1
  have ne : Z.neS x.d x.d = some (.v (.bl false)) := by rw [T.neS hd, decide_eq_true rfl]; rfl
  have h0 : (sAsg 9 (mCall Φ 61 [(mN 4), (mN 5), (mTup [(mBin addS (mN 2) (mBin ixS (mN 8) (mC (.int 0)))), (mBin ixS (mN 8) (mC (.int 1)))])])) [.val (.scr ns), .val (.lst (F.map fD)), .val (pD p), .val ws, .val (bookD rs), .val t.d, .val u.d, .ow false (.lst (I.map fD)), .val (fD f), s9, .un, .un] = .nx [.val (.scr ns), .val (.lst (F.map fD)), .val (pD p), .val ws, .val (bookD rs), .val t.d, .val u.d, .ow false (.lst (I.map fD)), .val (fD f), .val x.d, .un, .un] := by simp only [runF, fr0, ioOf, mvM, mC, mN, mBin, mUn, mB, mAndT, mOrT, mNotT, mAndV, mOrV, mNotV, mHs, mDs, mTup, mLst, pks, mPrim, sSeq, sNil, oS, sPass, sExpr, sRet, sIf, setVq, nl_un, nl_val, nl_own, putH, sAsg, tN, tNil, tCons, tT, sAsgT, mCall, pk, mv, RD.hd, Out.bind, mTrue, mCh, mMt, mSl, mO0, mO1, mLM, mLM.isOwnL, isOwn, mComp, mCompN, lockF, unlk, sFor, sForN, unlS, mIL, mIT, mIS, mIR1, mIR2, wipeF, restF, vsOkq, sRaise, sTry, mDnew, List.getElem?_cons_zero, List.getElem?_cons_succ, List.set_cons_zero, List.set_cons_succ, List.length_cons, List.length_nil, List.map_cons, List.map_nil, List.replicate_succ, List.replicate_zero, List.cons_append, List.nil_append, List.all_cons, List.all_nil, Option.map_some, Option.map_none, reduceIte, sl0, sl1, sl2, sl3, sl4, sl5, sl6, sl7, sl8, sl9, sl10, sl11, sl12, sl13, sl14, sl15, sl16, sl17, Bool.true_and, Bool.and_true, Bool.not_true, Bool.not_false, Nat.reduceAdd, Nat.reduceSub, Nat.zero_add, Bool.false_eq_true, decide_true, decide_false, List.length_append, Int.cast_ofNat_Int, Int.natCast_one, Int.natCast_zero, Int.reduceEq, Int.reduceLT, Int.reduceLE, Int.reduceAdd, Int.reduceMul, Int.reduceSub, Int.reduceNeg, ne_eq, not_true_eq_false, not_false_eq_true, fix0, fix1, add_pD hl, e1b, h9]
  have h1 : (sIf (mB (mBin neS (mCall Φ 44 [(mN 5), (mN 2), (mCall Φ 61 [(mN 4), (mN 6), (mN 8)])]) (mN 9))) (sRet (mC (.bl false))) sNil) [.val (.scr ns), .val (.lst (F.map fD)), .val (pD p), .val ws, .val (bookD rs), .val t.d, .val u.d, .ow false (.lst (I.map fD)), .val (fD f), .val x.d, .un, .un] = .nx [.val (.scr ns), .val (.lst (F.map fD)), .val (pD p), .val ws, .val (bookD rs), .val t.d, .val u.d, .ow false (.lst (I.map fD)), .val (fD f), .val x.d, .un, .un] := by simp only [runF, fr0, ioOf, mvM, mC, mN, mBin, mUn, mB, mAndT, mOrT, mNotT, mAndV, mOrV, mNotV, mHs, mDs, mTup, mLst, pks, mPrim, sSeq, sNil, oS, sPass, sExpr, sRet, sIf, setVq, nl_un, nl_val, nl_own, putH, sAsg, tN, tNil, tCons, tT, sAsgT, mCall, pk, mv, RD.hd, Out.bind, mTrue, mCh, mMt, mSl, mO0, mO1, mLM, mLM.isOwnL, isOwn, mComp, mCompN, lockF, unlk, sFor, sForN, unlS, mIL, mIT, mIS, mIR1, mIR2, wipeF, restF, vsOkq, sRaise, sTry, mDnew, List.getElem?_cons_zero, List.getElem?_cons_succ, List.set_cons_zero, List.set_cons_succ, List.length_cons, List.length_nil, List.map_cons, List.map_nil, List.replicate_succ, List.replicate_zero, List.cons_append, List.nil_append, List.all_cons, List.all_nil, Option.map_some, Option.map_none, reduceIte, sl0, sl1, sl2, sl3, sl4, sl5, sl6, sl7, sl8, sl9, sl10, sl11, sl12, sl13, sl14, sl15, sl16, sl17, Bool.true_and, Bool.and_true, Bool.not_true, Bool.not_false, Nat.reduceAdd, Nat.reduceSub, Nat.zero_add, Bool.false_eq_true, decide_true, decide_false, List.length_append, Int.cast_ofNat_Int, Int.natCast_one, Int.natCast_zero, Int.reduceEq, Int.reduceLT, Int.reduceLE, Int.reduceAdd, Int.reduceMul, Int.reduceSub, Int.reduceNeg, ne_eq, not_true_eq_false, not_false_eq_true, e2, e3, ne]
  unfold b_law_k20_l1
  rw [sSeq_nx h0, h1]

theorem k20_loop {Φ : Phi} {ns : List Int} {rs : List Ru} {t u : T} {p : List Nat} {ws : D} {F I : List Fd} : ∀ (l : List Fd) (s8 s9 : SV), nl s8 = true → nl s9 = true → (∀ f, f ∈ l → ∃ v x : T, p.length + f.1.length ≤ 1000 ∧ x.dep ≤ 95 ∧ Φ 61 [bookD rs, t.d, fD (p ++ f.1, f.2)] = .ok x.d .non ∧ Φ 61 [bookD rs, u.d, fD f] = .ok v.d .non ∧ Φ 44 [t.d, pD p, v.d] = .ok x.d .non) →
    ∃ s8' s9', nl s8' = true ∧ nl s9' = true ∧ forL (tN 8) (b_law_k20_l1 Φ) (l.map fD) [.val (.scr ns), .val (.lst (F.map fD)), .val (pD p), .val ws, .val (bookD rs), .val t.d, .val u.d, .ow false (.lst (I.map fD)), s8, s9, .un, .un] = .nx [.val (.scr ns), .val (.lst (F.map fD)), .val (pD p), .val ws, .val (bookD rs), .val t.d, .val u.d, .ow false (.lst (I.map fD)), s8', s9', .un, .un]
  | [], s8, s9, h8, h9, _ => ⟨s8, s9, h8, h9, rfl⟩
  | f :: l, s8, s9, h8, h9, h => by
    obtain ⟨v, x, a, b, c, d, e⟩ := h f (by simp)
    obtain ⟨s8', s9', q8, q9, ih⟩ := k20_loop (ns := ns) (ws := ws) (F := F) (I := I) l (.val (fD f)) (.val x.d) rfl rfl fun g hg => h g (by simp [hg])
    refine ⟨s8', s9', q8, q9, ?_⟩
    rw [List.map_cons, forL_step (A1 := [.val (.scr ns), .val (.lst (F.map fD)), .val (pD p), .val ws, .val (bookD rs), .val t.d, .val u.d, .ow false (.lst (I.map fD)), .val (fD f), s9, .un, .un]) (by simp only [runF, fr0, ioOf, mvM, mC, mN, mBin, mUn, mB, mAndT, mOrT, mNotT, mAndV, mOrV, mNotV, mHs, mDs, mTup, mLst, pks, mPrim, sSeq, sNil, oS, sPass, sExpr, sRet, sIf, setVq, nl_un, nl_val, nl_own, putH, sAsg, tN, tNil, tCons, tT, sAsgT, mCall, pk, mv, RD.hd, Out.bind, mTrue, mCh, mMt, mSl, mO0, mO1, mLM, mLM.isOwnL, isOwn, mComp, mCompN, lockF, unlk, sFor, sForN, unlS, mIL, mIT, mIS, mIR1, mIR2, wipeF, restF, vsOkq, sRaise, sTry, mDnew, List.getElem?_cons_zero, List.getElem?_cons_succ, List.set_cons_zero, List.set_cons_succ, List.length_cons, List.length_nil, List.map_cons, List.map_nil, List.replicate_succ, List.replicate_zero, List.cons_append, List.nil_append, List.all_cons, List.all_nil, Option.map_some, Option.map_none, reduceIte, sl0, sl1, sl2, sl3, sl4, sl5, sl6, sl7, sl8, sl9, sl10, sl11, sl12, sl13, sl14, sl15, sl16, sl17, Bool.true_and, Bool.and_true, Bool.not_true, Bool.not_false, Nat.reduceAdd, Nat.reduceSub, Nat.zero_add, Bool.false_eq_true, decide_true, decide_false, List.length_append, Int.cast_ofNat_Int, Int.natCast_one, Int.natCast_zero, Int.reduceEq, Int.reduceLT, Int.reduceLE, Int.reduceAdd, Int.reduceMul, Int.reduceSub, Int.reduceNeg, ne_eq, not_true_eq_false, not_false_eq_true, h8]) (k20_in h9 a b c d e)]
    exact ih

theorem k20_mid {Φ : Phi} {ns : List Int} {rs : List Ru} {t u : T} {p : List Nat} {ws : D} {F : List Fd} {s6 s7 s8 s9 : SV} (h6 : nl s6 = true) (h7 : nl s7 = true) (h8 : nl s8 = true) (h9 : nl s9 = true) (hFl : F.length ≤ 1000) (hF : F.filter (fun f => under p f.1) = (finds rs u).map fun f => (p ++ f.1, f.2))
    (e42 : Φ 42 [t.d, pD p] = .ok u.d .non) (e34 : Φ 34 [bookD rs, u.d] = .ok (.lst ((finds rs u).map fD)) .non)
    (h : ∀ f, f ∈ finds rs u → ∃ v x : T, p.length + f.1.length ≤ 1000 ∧ x.dep ≤ 95 ∧ Φ 61 [bookD rs, t.d, fD (p ++ f.1, f.2)] = .ok x.d .non ∧ Φ 61 [bookD rs, u.d, fD f] = .ok v.d .non ∧ Φ 44 [t.d, pD p, v.d] = .ok x.d .non) :
    ∃ s6' s7' s8' s9', nl s6' = true ∧ nl s7' = true ∧ nl s8' = true ∧ nl s9' = true ∧ b_law_k20_l2 Φ [.val (.scr ns), .val (.lst (F.map fD)), .val (pD p), .val ws, .val (bookD rs), .val t.d, s6, s7, s8, s9, .un, .un] = .nx [.val (.scr ns), .val (.lst (F.map fD)), .val (pD p), .val ws, .val (bookD rs), .val t.d, s6', s7', s8', s9', .un, .un] := by
  obtain ⟨s8', s9', q8, q9, lp⟩ := k20_loop (Φ := Φ) (ns := ns) (rs := rs) (t := t) (u := u) (p := p) (ws := ws) (F := F) (I := finds rs u) ((finds rs u).take 3) s8 s9 h8 h9 fun f hf => h f (List.mem_of_mem_take hf)
  refine ⟨.val u.d, .ow false (.lst ((finds rs u).map fD)), s8', s9', rfl, rfl, q8, q9, ?_⟩
  have h0 : (sAsg 6 (mCall Φ 42 [(mN 5), (mN 2)])) [.val (.scr ns), .val (.lst (F.map fD)), .val (pD p), .val ws, .val (bookD rs), .val t.d, s6, s7, s8, s9, .un, .un] = .nx [.val (.scr ns), .val (.lst (F.map fD)), .val (pD p), .val ws, .val (bookD rs), .val t.d, .val u.d, s7, s8, s9, .un, .un] := by simp only [runF, fr0, ioOf, mvM, mC, mN, mBin, mUn, mB, mAndT, mOrT, mNotT, mAndV, mOrV, mNotV, mHs, mDs, mTup, mLst, pks, mPrim, sSeq, sNil, oS, sPass, sExpr, sRet, sIf, setVq, nl_un, nl_val, nl_own, putH, sAsg, tN, tNil, tCons, tT, sAsgT, mCall, pk, mv, RD.hd, Out.bind, mTrue, mCh, mMt, mSl, mO0, mO1, mLM, mLM.isOwnL, isOwn, mComp, mCompN, lockF, unlk, sFor, sForN, unlS, mIL, mIT, mIS, mIR1, mIR2, wipeF, restF, vsOkq, sRaise, sTry, mDnew, List.getElem?_cons_zero, List.getElem?_cons_succ, List.set_cons_zero, List.set_cons_succ, List.length_cons, List.length_nil, List.map_cons, List.map_nil, List.replicate_succ, List.replicate_zero, List.cons_append, List.nil_append, List.all_cons, List.all_nil, Option.map_some, Option.map_none, reduceIte, sl0, sl1, sl2, sl3, sl4, sl5, sl6, sl7, sl8, sl9, sl10, sl11, sl12, sl13, sl14, sl15, sl16, sl17, Bool.true_and, Bool.and_true, Bool.not_true, Bool.not_false, Nat.reduceAdd, Nat.reduceSub, Nat.zero_add, Bool.false_eq_true, decide_true, decide_false, List.length_append, Int.cast_ofNat_Int, Int.natCast_one, Int.natCast_zero, Int.reduceEq, Int.reduceLT, Int.reduceLE, Int.reduceAdd, Int.reduceMul, Int.reduceSub, Int.reduceNeg, ne_eq, not_true_eq_false, not_false_eq_true, e42, h6]
  have cr : compR (tT 2 (tCons (tN 10) (tCons (tN 11) tNil))) (b_law_k20_t1 Φ) (b_law_k20_e1 Φ) [10, 11] (F.map fD) [.val (.scr ns), .val (.lst (F.map fD)), .val (pD p), .val ws, .val (bookD rs), .val t.d, .val u.d, s7, s8, s9, .un, .un] = .ok (.f (.lst ((F.filter fun f => under p f.1).map fun f => fD (f.1.drop p.length, f.2)))) [.val (.scr ns), .val (.lst (F.map fD)), .val (pD p), .val ws, .val (bookD rs), .val t.d, .val u.d, s7, s8, s9, .un, .un] := by
    refine compR_FA fD _ _ F rfl (Nat.le_trans hFl (by decide)) rfl rfl fun f hf => ⟨[.val (.scr ns), .val (.lst (F.map fD)), .val (pD p), .val ws, .val (bookD rs), .val t.d, .val u.d, s7, s8, s9, .val (pD f.1), .val (.str f.2)], [.val (.scr ns), .val (.lst (F.map fD)), .val (pD p), .val ws, .val (bookD rs), .val t.d, .val u.d, s7, s8, s9, .val (pD f.1), .val (.str f.2)], by simp only [fD, runF, fr0, ioOf, mvM, mC, mN, mBin, mUn, mB, mAndT, mOrT, mNotT, mAndV, mOrV, mNotV, mHs, mDs, mTup, mLst, pks, mPrim, sSeq, sNil, oS, sPass, sExpr, sRet, sIf, setVq, nl_un, nl_val, nl_own, putH, sAsg, tN, tNil, tCons, tT, sAsgT, mCall, pk, mv, RD.hd, Out.bind, mTrue, mCh, mMt, mSl, mO0, mO1, mLM, mLM.isOwnL, isOwn, mComp, mCompN, lockF, unlk, sFor, sForN, unlS, mIL, mIT, mIS, mIR1, mIR2, wipeF, restF, vsOkq, sRaise, sTry, mDnew, List.getElem?_cons_zero, List.getElem?_cons_succ, List.set_cons_zero, List.set_cons_succ, List.length_cons, List.length_nil, List.map_cons, List.map_nil, List.replicate_succ, List.replicate_zero, List.cons_append, List.nil_append, List.all_cons, List.all_nil, Option.map_some, Option.map_none, reduceIte, sl0, sl1, sl2, sl3, sl4, sl5, sl6, sl7, sl8, sl9, sl10, sl11, sl12, sl13, sl14, sl15, sl16, sl17, Bool.true_and, Bool.and_true, Bool.not_true, Bool.not_false, Nat.reduceAdd, Nat.reduceSub, Nat.zero_add, Bool.false_eq_true, decide_true, decide_false, List.length_append, Int.cast_ofNat_Int, Int.natCast_one, Int.natCast_zero, Int.reduceEq, Int.reduceLT, Int.reduceLE, Int.reduceAdd, Int.reduceMul, Int.reduceSub, Int.reduceNeg, ne_eq, not_true_eq_false, not_false_eq_true], ?_, fun _ => rfl, fun _ => ⟨[.val (.scr ns), .val (.lst (F.map fD)), .val (pD p), .val ws, .val (bookD rs), .val t.d, .val u.d, s7, s8, s9, .val (pD f.1), .val (.str f.2)], ?_, rfl⟩⟩
    · simp only [b_law_k20_t1, runF, fr0, ioOf, mvM, mC, mN, mBin, mUn, mB, mAndT, mOrT, mNotT, mAndV, mOrV, mNotV, mHs, mDs, mTup, mLst, pks, mPrim, sSeq, sNil, oS, sPass, sExpr, sRet, sIf, setVq, nl_un, nl_val, nl_own, putH, sAsg, tN, tNil, tCons, tT, sAsgT, mCall, pk, mv, RD.hd, Out.bind, mTrue, mCh, mMt, mSl, mO0, mO1, mLM, mLM.isOwnL, isOwn, mComp, mCompN, lockF, unlk, sFor, sForN, unlS, mIL, mIT, mIS, mIR1, mIR2, wipeF, restF, vsOkq, sRaise, sTry, mDnew, List.getElem?_cons_zero, List.getElem?_cons_succ, List.set_cons_zero, List.set_cons_succ, List.length_cons, List.length_nil, List.map_cons, List.map_nil, List.replicate_succ, List.replicate_zero, List.cons_append, List.nil_append, List.all_cons, List.all_nil, Option.map_some, Option.map_none, reduceIte, sl0, sl1, sl2, sl3, sl4, sl5, sl6, sl7, sl8, sl9, sl10, sl11, sl12, sl13, sl14, sl15, sl16, sl17, Bool.true_and, Bool.and_true, Bool.not_true, Bool.not_false, Nat.reduceAdd, Nat.reduceSub, Nat.zero_add, Bool.false_eq_true, decide_true, decide_false, List.length_append, Int.cast_ofNat_Int, Int.natCast_one, Int.natCast_zero, Int.reduceEq, Int.reduceLT, Int.reduceLE, Int.reduceAdd, Int.reduceMul, Int.reduceSub, Int.reduceNeg, ne_eq, not_true_eq_false, not_false_eq_true, len_pD, sl_to, pD_eq]
    · have : fD (f.1.drop p.length, f.2) = .tup [pD (f.1.drop p.length), .str f.2] := rfl
      rw [this]
      simp only [b_law_k20_e1, runF, fr0, ioOf, mvM, mC, mN, mBin, mUn, mB, mAndT, mOrT, mNotT, mAndV, mOrV, mNotV, mHs, mDs, mTup, mLst, pks, mPrim, sSeq, sNil, oS, sPass, sExpr, sRet, sIf, setVq, nl_un, nl_val, nl_own, putH, sAsg, tN, tNil, tCons, tT, sAsgT, mCall, pk, mv, RD.hd, Out.bind, mTrue, mCh, mMt, mSl, mO0, mO1, mLM, mLM.isOwnL, isOwn, mComp, mCompN, lockF, unlk, sFor, sForN, unlS, mIL, mIT, mIS, mIR1, mIR2, wipeF, restF, vsOkq, sRaise, sTry, mDnew, List.getElem?_cons_zero, List.getElem?_cons_succ, List.set_cons_zero, List.set_cons_succ, List.length_cons, List.length_nil, List.map_cons, List.map_nil, List.replicate_succ, List.replicate_zero, List.cons_append, List.nil_append, List.all_cons, List.all_nil, Option.map_some, Option.map_none, reduceIte, sl0, sl1, sl2, sl3, sl4, sl5, sl6, sl7, sl8, sl9, sl10, sl11, sl12, sl13, sl14, sl15, sl16, sl17, Bool.true_and, Bool.and_true, Bool.not_true, Bool.not_false, Nat.reduceAdd, Nat.reduceSub, Nat.zero_add, Bool.false_eq_true, decide_true, decide_false, List.length_append, Int.cast_ofNat_Int, Int.natCast_one, Int.natCast_zero, Int.reduceEq, Int.reduceLT, Int.reduceLE, Int.reduceAdd, Int.reduceMul, Int.reduceSub, Int.reduceNeg, ne_eq, not_true_eq_false, not_false_eq_true, len_pD, sl_from]
  have e1 : ((finds rs u).map fun f => (p ++ f.1, f.2)).map (fun f : Fd => fD (f.1.drop p.length, f.2)) = (finds rs u).map fD := by
    rw [List.map_map]
    refine List.map_congr_left fun f _ => ?_
    simp
  rw [hF, e1] at cr
  have mc : mCompN 1 [10, 11] (tT 2 (tCons (tN 10) (tCons (tN 11) tNil))) (b_law_k20_t1 Φ) (b_law_k20_e1 Φ) [.val (.scr ns), .val (.lst (F.map fD)), .val (pD p), .val ws, .val (bookD rs), .val t.d, .val u.d, s7, s8, s9, .un, .un] = .ok (.f (.lst ((finds rs u).map fD))) [.val (.scr ns), .val (.lst (F.map fD)), .val (pD p), .val ws, .val (bookD rs), .val t.d, .val u.d, s7, s8, s9, .un, .un] := by
    unfold mCompN lockF
    simp only [List.getElem?_cons_zero, List.getElem?_cons_succ, cr, unlk]
  have h1 : (sAsg 7 (mCompN 1 [10, 11] (tT 2 (tCons (tN 10) (tCons (tN 11) tNil))) (b_law_k20_t1 Φ) (b_law_k20_e1 Φ))) [.val (.scr ns), .val (.lst (F.map fD)), .val (pD p), .val ws, .val (bookD rs), .val t.d, .val u.d, s7, s8, s9, .un, .un] = .nx [.val (.scr ns), .val (.lst (F.map fD)), .val (pD p), .val ws, .val (bookD rs), .val t.d, .val u.d, .ow false (.lst ((finds rs u).map fD)), s8, s9, .un, .un] := asg_f mc (by simp only [runF, fr0, ioOf, mvM, mC, mN, mBin, mUn, mB, mAndT, mOrT, mNotT, mAndV, mOrV, mNotV, mHs, mDs, mTup, mLst, pks, mPrim, sSeq, sNil, oS, sPass, sExpr, sRet, sIf, setVq, nl_un, nl_val, nl_own, putH, sAsg, tN, tNil, tCons, tT, sAsgT, mCall, pk, mv, RD.hd, Out.bind, mTrue, mCh, mMt, mSl, mO0, mO1, mLM, mLM.isOwnL, isOwn, mComp, mCompN, lockF, unlk, sFor, sForN, unlS, mIL, mIT, mIS, mIR1, mIR2, wipeF, restF, vsOkq, sRaise, sTry, mDnew, List.getElem?_cons_zero, List.getElem?_cons_succ, List.set_cons_zero, List.set_cons_succ, List.length_cons, List.length_nil, List.map_cons, List.map_nil, List.replicate_succ, List.replicate_zero, List.cons_append, List.nil_append, List.all_cons, List.all_nil, Option.map_some, Option.map_none, reduceIte, sl0, sl1, sl2, sl3, sl4, sl5, sl6, sl7, sl8, sl9, sl10, sl11, sl12, sl13, sl14, sl15, sl16, sl17, Bool.true_and, Bool.and_true, Bool.not_true, Bool.not_false, Nat.reduceAdd, Nat.reduceSub, Nat.zero_add, Bool.false_eq_true, decide_true, decide_false, List.length_append, Int.cast_ofNat_Int, Int.natCast_one, Int.natCast_zero, Int.reduceEq, Int.reduceLT, Int.reduceLE, Int.reduceAdd, Int.reduceMul, Int.reduceSub, Int.reduceNeg, ne_eq, not_true_eq_false, not_false_eq_true, h7])
  have ne := neS_self (fds_lay (finds rs u)) (fds_dep _)
  have h2 : (sIf (mB (mBin neS (mCall Φ 34 [(mN 4), (mN 6)]) (mN 7))) (sRet (mC (.bl false))) sNil) [.val (.scr ns), .val (.lst (F.map fD)), .val (pD p), .val ws, .val (bookD rs), .val t.d, .val u.d, .ow false (.lst ((finds rs u).map fD)), s8, s9, .un, .un] = .nx [.val (.scr ns), .val (.lst (F.map fD)), .val (pD p), .val ws, .val (bookD rs), .val t.d, .val u.d, .ow false (.lst ((finds rs u).map fD)), s8, s9, .un, .un] := by simp only [runF, fr0, ioOf, mvM, mC, mN, mBin, mUn, mB, mAndT, mOrT, mNotT, mAndV, mOrV, mNotV, mHs, mDs, mTup, mLst, pks, mPrim, sSeq, sNil, oS, sPass, sExpr, sRet, sIf, setVq, nl_un, nl_val, nl_own, putH, sAsg, tN, tNil, tCons, tT, sAsgT, mCall, pk, mv, RD.hd, Out.bind, mTrue, mCh, mMt, mSl, mO0, mO1, mLM, mLM.isOwnL, isOwn, mComp, mCompN, lockF, unlk, sFor, sForN, unlS, mIL, mIT, mIS, mIR1, mIR2, wipeF, restF, vsOkq, sRaise, sTry, mDnew, List.getElem?_cons_zero, List.getElem?_cons_succ, List.set_cons_zero, List.set_cons_succ, List.length_cons, List.length_nil, List.map_cons, List.map_nil, List.replicate_succ, List.replicate_zero, List.cons_append, List.nil_append, List.all_cons, List.all_nil, Option.map_some, Option.map_none, reduceIte, sl0, sl1, sl2, sl3, sl4, sl5, sl6, sl7, sl8, sl9, sl10, sl11, sl12, sl13, sl14, sl15, sl16, sl17, Bool.true_and, Bool.and_true, Bool.not_true, Bool.not_false, Nat.reduceAdd, Nat.reduceSub, Nat.zero_add, Bool.false_eq_true, decide_true, decide_false, List.length_append, Int.cast_ofNat_Int, Int.natCast_one, Int.natCast_zero, Int.reduceEq, Int.reduceLT, Int.reduceLE, Int.reduceAdd, Int.reduceMul, Int.reduceSub, Int.reduceNeg, ne_eq, not_true_eq_false, not_false_eq_true, e34, ne]
  have sl3 : slS (.lst ((finds rs u).map fD)) none (some 3) = some (.f (.lst (((finds rs u).take 3).map fD))) := by
    have := cut_to ((finds rs u).map fD) 3
    simp only [slS]
    rw [show (3 : Int) = ((3 : Nat) : Int) from rfl, this, List.map_take]
  have h3 : (sFor (mIL (mSl (mN 7) mO0 (mO1 (mC (.int 3))))) (tN 8) (b_law_k20_l1 Φ)) [.val (.scr ns), .val (.lst (F.map fD)), .val (pD p), .val ws, .val (bookD rs), .val t.d, .val u.d, .ow false (.lst ((finds rs u).map fD)), s8, s9, .un, .un] = .nx [.val (.scr ns), .val (.lst (F.map fD)), .val (pD p), .val ws, .val (bookD rs), .val t.d, .val u.d, .ow false (.lst ((finds rs u).map fD)), s8', s9', .un, .un] := sFor_nx (ds := ((finds rs u).take 3).map fD) (A1 := [.val (.scr ns), .val (.lst (F.map fD)), .val (pD p), .val ws, .val (bookD rs), .val t.d, .val u.d, .ow false (.lst ((finds rs u).map fD)), s8, s9, .un, .un]) (by simp only [runF, fr0, ioOf, mvM, mC, mN, mBin, mUn, mB, mAndT, mOrT, mNotT, mAndV, mOrV, mNotV, mHs, mDs, mTup, mLst, pks, mPrim, sSeq, sNil, oS, sPass, sExpr, sRet, sIf, setVq, nl_un, nl_val, nl_own, putH, sAsg, tN, tNil, tCons, tT, sAsgT, mCall, pk, mv, RD.hd, Out.bind, mTrue, mCh, mMt, mSl, mO0, mO1, mLM, mLM.isOwnL, isOwn, mComp, mCompN, lockF, unlk, sFor, sForN, unlS, mIL, mIT, mIS, mIR1, mIR2, wipeF, restF, vsOkq, sRaise, sTry, mDnew, List.getElem?_cons_zero, List.getElem?_cons_succ, List.set_cons_zero, List.set_cons_succ, List.length_cons, List.length_nil, List.map_cons, List.map_nil, List.replicate_succ, List.replicate_zero, List.cons_append, List.nil_append, List.all_cons, List.all_nil, Option.map_some, Option.map_none, reduceIte, sl0, sl1, sl2, sl3, sl4, sl5, sl6, sl7, sl8, sl9, sl10, sl11, sl12, sl13, sl14, sl15, sl16, sl17, Bool.true_and, Bool.and_true, Bool.not_true, Bool.not_false, Nat.reduceAdd, Nat.reduceSub, Nat.zero_add, Bool.false_eq_true, decide_true, decide_false, List.length_append, Int.cast_ofNat_Int, Int.natCast_one, Int.natCast_zero, Int.reduceEq, Int.reduceLT, Int.reduceLE, Int.reduceAdd, Int.reduceMul, Int.reduceSub, Int.reduceNeg, ne_eq, not_true_eq_false, not_false_eq_true, sl3]) lp
  unfold b_law_k20_l2
  rw [sSeq_nx h0, sSeq_nx h1, sSeq_nx h2, h3]

theorem k20_out {Φ : Phi} {ns : List Int} {rs : List Ru} {t : T} {ws : D} {F : List Fd} (hFl : F.length ≤ 1000) (hF : ∀ p u, T.at t p = some u → p ∈ T.plc true t [] → F.filter (fun f => under p f.1) = (finds rs u).map fun f => (p ++ f.1, f.2)) : ∀ (l : List (List Nat)) (s2 s6 s7 s8 s9 : SV), nl s2 = true → nl s6 = true → nl s7 = true → nl s8 = true → nl s9 = true → (∀ p, p ∈ l → p ∈ T.plc true t [] ∧ ∃ u, T.at t p = some u ∧ Φ 42 [t.d, pD p] = .ok u.d .non ∧ Φ 34 [bookD rs, u.d] = .ok (.lst ((finds rs u).map fD)) .non ∧ ∀ f, f ∈ finds rs u → ∃ v x : T, p.length + f.1.length ≤ 1000 ∧ x.dep ≤ 95 ∧ Φ 61 [bookD rs, t.d, fD (p ++ f.1, f.2)] = .ok x.d .non ∧ Φ 61 [bookD rs, u.d, fD f] = .ok v.d .non ∧ Φ 44 [t.d, pD p, v.d] = .ok x.d .non) →
    ∃ s2' s6' s7' s8' s9', forL (tN 2) (b_law_k20_l2 Φ) (l.map pD) [.val (.scr ns), .val (.lst (F.map fD)), s2, .val ws, .val (bookD rs), .val t.d, s6, s7, s8, s9, .un, .un] = .nx [.val (.scr ns), .val (.lst (F.map fD)), s2', .val ws, .val (bookD rs), .val t.d, s6', s7', s8', s9', .un, .un]
  | [], s2, s6, s7, s8, s9, _, _, _, _, _, _ => ⟨s2, s6, s7, s8, s9, rfl⟩
  | p :: l, s2, s6, s7, s8, s9, h2, h6, h7, h8, h9, h => by
    obtain ⟨hp, u, eu, e42, e34, hh⟩ := h p (by simp)
    obtain ⟨a6, a7, a8, a9, q6, q7, q8, q9, st⟩ := k20_mid (ns := ns) (ws := ws) h6 h7 h8 h9 hFl (hF p u eu hp) e42 e34 hh
    obtain ⟨s2', s6', s7', s8', s9', ih⟩ := k20_out (ns := ns) (ws := ws) hFl hF l (.val (pD p)) a6 a7 a8 a9 rfl q6 q7 q8 q9 fun q hq => h q (by simp [hq])
    refine ⟨s2', s6', s7', s8', s9', ?_⟩
    rw [List.map_cons, forL_step (A1 := [.val (.scr ns), .val (.lst (F.map fD)), .val (pD p), .val ws, .val (bookD rs), .val t.d, s6, s7, s8, s9, .un, .un]) (by simp only [runF, fr0, ioOf, mvM, mC, mN, mBin, mUn, mB, mAndT, mOrT, mNotT, mAndV, mOrV, mNotV, mHs, mDs, mTup, mLst, pks, mPrim, sSeq, sNil, oS, sPass, sExpr, sRet, sIf, setVq, nl_un, nl_val, nl_own, putH, sAsg, tN, tNil, tCons, tT, sAsgT, mCall, pk, mv, RD.hd, Out.bind, mTrue, mCh, mMt, mSl, mO0, mO1, mLM, mLM.isOwnL, isOwn, mComp, mCompN, lockF, unlk, sFor, sForN, unlS, mIL, mIT, mIS, mIR1, mIR2, wipeF, restF, vsOkq, sRaise, sTry, mDnew, List.getElem?_cons_zero, List.getElem?_cons_succ, List.set_cons_zero, List.set_cons_succ, List.length_cons, List.length_nil, List.map_cons, List.map_nil, List.replicate_succ, List.replicate_zero, List.cons_append, List.nil_append, List.all_cons, List.all_nil, Option.map_some, Option.map_none, reduceIte, sl0, sl1, sl2, sl3, sl4, sl5, sl6, sl7, sl8, sl9, sl10, sl11, sl12, sl13, sl14, sl15, sl16, sl17, Bool.true_and, Bool.and_true, Bool.not_true, Bool.not_false, Nat.reduceAdd, Nat.reduceSub, Nat.zero_add, Bool.false_eq_true, decide_true, decide_false, List.length_append, Int.cast_ofNat_Int, Int.natCast_one, Int.natCast_zero, Int.reduceEq, Int.reduceLT, Int.reduceLE, Int.reduceAdd, Int.reduceMul, Int.reduceSub, Int.reduceNeg, ne_eq, not_true_eq_false, not_false_eq_true, h2]) st]
    exact ih
theorem finds_len (rs : List Ru) (t : T) : (finds rs t).length ≤ rs.length * t.sz := by
  unfold finds
  have h1 := T.plc_len true t []
  have h2 : ∀ l : List (List Nat), (l.flatMap (findsP rs t)).length ≤ rs.length * l.length := fun l => by
    induction l with
    | nil => simp
    | cons p l ih =>
      have := findsP_len rs t p
      rw [List.flatMap_cons, List.length_append, List.length_cons, Nat.mul_add, Nat.mul_one]; omega
  exact Nat.le_trans (h2 _) (Nat.mul_le_mul_left _ h1)
theorem law_ok (ns : List Int) : ∃ x, call Pg 200 86 [.scr ns] = .ok (.bl true) x := by
  refine ⟨.non, call_of (k := 199) (c := c_law_k20) rfl ?_⟩
  obtain ⟨ws, rs, t, C, ec⟩ := law_case hasF.toHasT ns (most := 4) (L := 4) (by decide) (by decide) (by decide) 199 (by decide)
  have ec : call Pg 199 37 [.scr ns, .int 4, .int 4] = .ok (.tup [.lst (ws.map .str), bookD rs, t.d]) .non := ec
  have hz : t.sz ≤ 60 := Nat.le_trans C.sz (by decide)
  have hf := ev_findings hasF C.g C.tr hz 199 (by decide)
  have e46 := ev_loud_places hasD.toHasP C.tr hz 199 (by decide)
  have hFl : (finds rs t).length ≤ 1000 := Nat.le_trans (finds_len rs t) (Nat.le_trans (Nat.mul_le_mul C.g.len hz) (by decide))
  have dz := T.dep_sz t
  obtain ⟨s2, s6, s7, s8, s9, lp⟩ := k20_out (Φ := call Pg 199) (ns := ns) (rs := rs) (t := t) (ws := .lst (ws.map .str)) (F := finds rs t) hFl (fun p u h hp => finds_part rs h hp) ((T.plc true t []).take 12) .un .un .un .un .un rfl rfl rfl rfl rfl fun p hp => by
    have hp := List.mem_of_mem_take hp
    obtain ⟨r, u, e1, e2⟩ := plc_at true t [] p hp
    simp only [List.nil_append] at e1
    subst e1
    obtain ⟨u1, u2, u3⟩ := at_tree p t u C.tr e2
    have hzu : u.sz ≤ 60 := by omega
    refine ⟨hp, u, e2, ev_part_at hasD.toHasP C.tr hz e2 199 (by decide), ev_findings hasF C.g u1 hzu 199 (by decide), fun f hf => ?_⟩
    obtain ⟨hq, r, w, v, hd⟩ := finds_mem hf
    have hin : (p ++ f.1, f.2) ∈ finds rs t := by
      have : (p ++ f.1, f.2) ∈ (finds rs t).filter (fun f => under p f.1) := by
        rw [finds_part rs e2 hp]
        exact List.mem_map.2 ⟨f, hf, rfl⟩
      exact (List.mem_filter.1 this).1
    obtain ⟨_, r', w', v', hd'⟩ := finds_mem hin
    have dk := doneT_ok C.g C.tr hd'
    have du := doneT_ok C.g u1 hd
    have ep : doneT rs t (p ++ f.1, f.2) = T.put t p (doneT rs u f) := by
      have hd2 : FdOk rs t (p ++ f.1, f.2) r w v := ⟨hd.mem, hd.nm, by rw [at_app, e2]; exact hd.at_, hd.md⟩
      rw [doneT_eq C.g hd2, doneT_eq C.g hd]
      exact put_app e2
    have l1 := at_len e2
    have l2 := at_len hd.at_
    have z1 := T.dep_sz (doneT rs t (p ++ f.1, f.2))
    refine ⟨doneT rs u f, doneT rs t (p ++ f.1, f.2), by omega, by omega, ev_mend_at hasD C.g C.tr hz hin 199 (by decide), ev_mend_at hasD C.g u1 hzu hf 199 (by decide), ?_⟩
    rw [ep]
    exact ev_put_at hasD.toHasP C.tr hz e2 du.1 (by omega) (by rw [← ep]; omega) 199 (by decide)
  have sl12 : slS (.lst ((T.plc true t []).map pD)) none (some 12) = some (.f (.lst (((T.plc true t []).take 12).map pD))) := by
    have := cut_to ((T.plc true t []).map pD) 12
    simp only [slS]
    rw [show (12 : Int) = ((12 : Nat) : Int) from rfl, this, List.map_take]
  have h0 : (sAsgT (tT 3 (tCons (tN 3) (tCons (tN 4) (tCons (tN 5) tNil)))) (mCall (call Pg 199) 37 [(mN 0), (mC (.int 4)), (mC (.int 4))])) [.val (.scr ns), .un, .un, .un, .un, .un, .un, .un, .un, .un, .un, .un] = .nx [.val (.scr ns), .un, .un, .val (.lst (ws.map .str)), .val (bookD rs), .val t.d, .un, .un, .un, .un, .un, .un] := by simp only [runF, fr0, ioOf, mvM, mC, mN, mBin, mUn, mB, mAndT, mOrT, mNotT, mAndV, mOrV, mNotV, mHs, mDs, mTup, mLst, pks, mPrim, sSeq, sNil, oS, sPass, sExpr, sRet, sIf, setVq, nl_un, nl_val, nl_own, putH, sAsg, tN, tNil, tCons, tT, sAsgT, mCall, pk, mv, RD.hd, Out.bind, mTrue, mCh, mMt, mSl, mO0, mO1, mLM, mLM.isOwnL, isOwn, mComp, mCompN, lockF, unlk, sFor, sForN, unlS, mIL, mIT, mIS, mIR1, mIR2, wipeF, restF, vsOkq, sRaise, sTry, mDnew, List.getElem?_cons_zero, List.getElem?_cons_succ, List.set_cons_zero, List.set_cons_succ, List.length_cons, List.length_nil, List.map_cons, List.map_nil, List.replicate_succ, List.replicate_zero, List.cons_append, List.nil_append, List.all_cons, List.all_nil, Option.map_some, Option.map_none, reduceIte, sl0, sl1, sl2, sl3, sl4, sl5, sl6, sl7, sl8, sl9, sl10, sl11, sl12, sl13, sl14, sl15, sl16, sl17, Bool.true_and, Bool.and_true, Bool.not_true, Bool.not_false, Nat.reduceAdd, Nat.reduceSub, Nat.zero_add, Bool.false_eq_true, decide_true, decide_false, List.length_append, Int.cast_ofNat_Int, Int.natCast_one, Int.natCast_zero, Int.reduceEq, Int.reduceLT, Int.reduceLE, Int.reduceAdd, Int.reduceMul, Int.reduceSub, Int.reduceNeg, ne_eq, not_true_eq_false, not_false_eq_true, ec]
  have h1 : (sAsg 1 (mCall (call Pg 199) 34 [(mN 4), (mN 5)])) [.val (.scr ns), .un, .un, .val (.lst (ws.map .str)), .val (bookD rs), .val t.d, .un, .un, .un, .un, .un, .un] = .nx [.val (.scr ns), .val (.lst ((finds rs t).map fD)), .un, .val (.lst (ws.map .str)), .val (bookD rs), .val t.d, .un, .un, .un, .un, .un, .un] := by simp only [runF, fr0, ioOf, mvM, mC, mN, mBin, mUn, mB, mAndT, mOrT, mNotT, mAndV, mOrV, mNotV, mHs, mDs, mTup, mLst, pks, mPrim, sSeq, sNil, oS, sPass, sExpr, sRet, sIf, setVq, nl_un, nl_val, nl_own, putH, sAsg, tN, tNil, tCons, tT, sAsgT, mCall, pk, mv, RD.hd, Out.bind, mTrue, mCh, mMt, mSl, mO0, mO1, mLM, mLM.isOwnL, isOwn, mComp, mCompN, lockF, unlk, sFor, sForN, unlS, mIL, mIT, mIS, mIR1, mIR2, wipeF, restF, vsOkq, sRaise, sTry, mDnew, List.getElem?_cons_zero, List.getElem?_cons_succ, List.set_cons_zero, List.set_cons_succ, List.length_cons, List.length_nil, List.map_cons, List.map_nil, List.replicate_succ, List.replicate_zero, List.cons_append, List.nil_append, List.all_cons, List.all_nil, Option.map_some, Option.map_none, reduceIte, sl0, sl1, sl2, sl3, sl4, sl5, sl6, sl7, sl8, sl9, sl10, sl11, sl12, sl13, sl14, sl15, sl16, sl17, Bool.true_and, Bool.and_true, Bool.not_true, Bool.not_false, Nat.reduceAdd, Nat.reduceSub, Nat.zero_add, Bool.false_eq_true, decide_true, decide_false, List.length_append, Int.cast_ofNat_Int, Int.natCast_one, Int.natCast_zero, Int.reduceEq, Int.reduceLT, Int.reduceLE, Int.reduceAdd, Int.reduceMul, Int.reduceSub, Int.reduceNeg, ne_eq, not_true_eq_false, not_false_eq_true, hf]
  have h2 : (sFor (mIL (mSl (mCall (call Pg 199) 46 [(mN 5)]) mO0 (mO1 (mC (.int 12))))) (tN 2) (b_law_k20_l2 (call Pg 199))) [.val (.scr ns), .val (.lst ((finds rs t).map fD)), .un, .val (.lst (ws.map .str)), .val (bookD rs), .val t.d, .un, .un, .un, .un, .un, .un] = .nx [.val (.scr ns), .val (.lst ((finds rs t).map fD)), s2, .val (.lst (ws.map .str)), .val (bookD rs), .val t.d, s6, s7, s8, s9, .un, .un] := sFor_nx (ds := ((T.plc true t []).take 12).map pD) (A1 := [.val (.scr ns), .val (.lst ((finds rs t).map fD)), .un, .val (.lst (ws.map .str)), .val (bookD rs), .val t.d, .un, .un, .un, .un, .un, .un]) (by simp only [runF, fr0, ioOf, mvM, mC, mN, mBin, mUn, mB, mAndT, mOrT, mNotT, mAndV, mOrV, mNotV, mHs, mDs, mTup, mLst, pks, mPrim, sSeq, sNil, oS, sPass, sExpr, sRet, sIf, setVq, nl_un, nl_val, nl_own, putH, sAsg, tN, tNil, tCons, tT, sAsgT, mCall, pk, mv, RD.hd, Out.bind, mTrue, mCh, mMt, mSl, mO0, mO1, mLM, mLM.isOwnL, isOwn, mComp, mCompN, lockF, unlk, sFor, sForN, unlS, mIL, mIT, mIS, mIR1, mIR2, wipeF, restF, vsOkq, sRaise, sTry, mDnew, List.getElem?_cons_zero, List.getElem?_cons_succ, List.set_cons_zero, List.set_cons_succ, List.length_cons, List.length_nil, List.map_cons, List.map_nil, List.replicate_succ, List.replicate_zero, List.cons_append, List.nil_append, List.all_cons, List.all_nil, Option.map_some, Option.map_none, reduceIte, sl0, sl1, sl2, sl3, sl4, sl5, sl6, sl7, sl8, sl9, sl10, sl11, sl12, sl13, sl14, sl15, sl16, sl17, Bool.true_and, Bool.and_true, Bool.not_true, Bool.not_false, Nat.reduceAdd, Nat.reduceSub, Nat.zero_add, Bool.false_eq_true, decide_true, decide_false, List.length_append, Int.cast_ofNat_Int, Int.natCast_one, Int.natCast_zero, Int.reduceEq, Int.reduceLT, Int.reduceLE, Int.reduceAdd, Int.reduceMul, Int.reduceSub, Int.reduceNeg, ne_eq, not_true_eq_false, not_false_eq_true, e46, sl12]) lp
  have h3 : (sRet (mC (.bl true))) [.val (.scr ns), .val (.lst ((finds rs t).map fD)), s2, .val (.lst (ws.map .str)), .val (bookD rs), .val t.d, s6, s7, s8, s9, .un, .un] = .rt (.bl true) [.val (.scr ns), .val (.lst ((finds rs t).map fD)), s2, .val (.lst (ws.map .str)), .val (bookD rs), .val t.d, s6, s7, s8, s9, .un, .un] := by simp only [runF, fr0, ioOf, mvM, mC, mN, mBin, mUn, mB, mAndT, mOrT, mNotT, mAndV, mOrV, mNotV, mHs, mDs, mTup, mLst, pks, mPrim, sSeq, sNil, oS, sPass, sExpr, sRet, sIf, setVq, nl_un, nl_val, nl_own, putH, sAsg, tN, tNil, tCons, tT, sAsgT, mCall, pk, mv, RD.hd, Out.bind, mTrue, mCh, mMt, mSl, mO0, mO1, mLM, mLM.isOwnL, isOwn, mComp, mCompN, lockF, unlk, sFor, sForN, unlS, mIL, mIT, mIS, mIR1, mIR2, wipeF, restF, vsOkq, sRaise, sTry, mDnew, List.getElem?_cons_zero, List.getElem?_cons_succ, List.set_cons_zero, List.set_cons_succ, List.length_cons, List.length_nil, List.map_cons, List.map_nil, List.replicate_succ, List.replicate_zero, List.cons_append, List.nil_append, List.all_cons, List.all_nil, Option.map_some, Option.map_none, reduceIte, sl0, sl1, sl2, sl3, sl4, sl5, sl6, sl7, sl8, sl9, sl10, sl11, sl12, sl13, sl14, sl15, sl16, sl17, Bool.true_and, Bool.and_true, Bool.not_true, Bool.not_false, Nat.reduceAdd, Nat.reduceSub, Nat.zero_add, Bool.false_eq_true, decide_true, decide_false, List.length_append, Int.cast_ofNat_Int, Int.natCast_one, Int.natCast_zero, Int.reduceEq, Int.reduceLT, Int.reduceLE, Int.reduceAdd, Int.reduceMul, Int.reduceSub, Int.reduceNeg, ne_eq, not_true_eq_false, not_false_eq_true]
  have hb : b_law_k20 (call Pg 199) [.val (.scr ns), .un, .un, .un, .un, .un, .un, .un, .un, .un, .un, .un] = .rt (.bl true) [.val (.scr ns), .val (.lst ((finds rs t).map fD)), s2, .val (.lst (ws.map .str)), .val (bookD rs), .val t.d, s6, s7, s8, s9, .un, .un] := by
    unfold b_law_k20
    rw [sSeq_nx h0, sSeq_nx h1, sSeq_nx h2, h3]
  exact run_ok (c := c_law_k20) rfl rfl rfl hb
end Z

theorem PySem.Challenge.cw_mendhouse_k20_whole_part_of_a_tree_holds : PySem.Challenge.rw_mendhouse_k20_whole_part_of_a_tree.Holds := by
  exact Z.reduce fun ns _ => Z.law_ok ns
