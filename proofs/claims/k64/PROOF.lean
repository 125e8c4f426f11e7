import PyProof.Rows.All
import Wide.All
import OpenK.AllK
import Wide.FinOn
import HandS.ForMost
import HandS.Walk
import HandS.Wide
import HandS.Deep
import HandS.DeepEq
import HandS.More
import HandS.Conv
import HandS.IsInst
import HandS.Evl
import HandS.Defaults
import HandS.Head0
import HandS.Head1
import HandS.Head2
import HandS.HeadEnd
import HandS.HeadHook1
import HandS.HeadHook2
import HandS.HeadHook3
import HandS.HeadHook4
import PyProof.NeKinds
import PySem.Challenge.RW_tiercask_k64_whole_steady_in_the_long_ru
set_option Elab.async false
set_option linter.all false
set_option maxRecDepth 100000
set_option maxHeartbeats 4000000
set_option exponentiation.threshold 10000
/-! Base of the walk: small fractions, what values stand for, expressions that only add to the heap. -/
namespace Tc
open PySem PySem.Spec PyProof.Rows L2 Evl

/-! ### fractions -/
/-- a fraction whose two numbers are not too long -/
def Ok (q : Rat) : Prop := q.num.natAbs < 2 ^ 2000 ∧ q.den < 2 ^ 2000
/-- tuples are kept -/
def Kp (H H' : Hp) : Prop := ∀ a xs, Rd H a (.tup xs) → Rd H' a (.tup xs)
theorem Kp.refl (H : Hp) : Kp H H := fun _ _ h => h
theorem Kp.trans {H H1 H2 : Hp} (a : Kp H H1) (b : Kp H1 H2) : Kp H H2 := fun x xs h => b x xs (a x xs h)
theorem kp_ex {H H' : Hp} (e : Ex H H') : Kp H H' := fun _ _ h => ex_rd e h
/-- not a tuple -/
def NT : Option HO → Prop
  | some (.tup _) => False
  | some (.frz _ (.tup _)) => False
  | _ => True
theorem kp_upd {H : Hp} {p : Addr} {o : HO} (h : NT (H p)) : Kp H (upd H p o) := fun a xs r => by
  have ne : a ≠ p := fun e => by
    subst e
    rcases r with r | ⟨o', r⟩
    · rw [r] at h; exact h
    · rw [r] at h; exact h
  rcases r with r | ⟨o', r⟩
  · exact Or.inl (by rw [upd_ne ne]; exact r)
  · exact Or.inr ⟨o', by rw [upd_ne ne]; exact r⟩
/-- what is read is read -/
def NF : HO → Prop
  | .frz _ _ => False
  | _ => True
def Rx (H H' : Hp) : Prop := ∀ a u, NF u → Rd H a u → Rd H' a u
theorem rx_ex {H H' : Hp} (e : Ex H H') : Rx H H' := fun _ _ _ h => ex_rd e h
theorem Rx.trans {H H1 H2 : Hp} (a : Rx H H1) (b : Rx H1 H2) : Rx H H2 := fun x xs n h => b x xs n (a x xs n h)
theorem Rx.refl (H : Hp) : Rx H H := fun _ _ _ h => h
theorem kp_rx {H H' : Hp} (e : Rx H H') : Kp H H' := fun a xs h => e a _ True.intro h

section
variable {K : PySem.W.Frag} {H H' : Hp} {v : V} {q : Rat} {a : Addr}
theorem sqT_kp {xs : List V} (e : Kp H H') (h : SqT K H a xs) : SqT K H' a xs := by
  rcases h with h | h
  · exact Or.inl (e _ _ h)
  · exact Or.inr h
theorem sqL_rx {xs : List V} (e : Rx H H') (h : SqL K H a xs) : SqL K H' a xs := by
  rcases h with h | h
  · exact Or.inl (e _ _ True.intro h)
  · exact Or.inr h
end
/-- v is the fraction q, a tuple of two ints, small -/
def Fr (K : PySem.W.Frag) (q : Rat) (H : Hp) (v : V) : Prop := Ok q ∧ ∃ a, v = .ref a ∧ SqT K H a [.int q.num, .int (q.den : Int)]
theorem Fr.kp {K : PySem.W.Frag} {H H' : Hp} {v : V} {q : Rat} (e : Kp H H') (h : Fr K q H v) : Fr K q H' v := by
  obtain ⟨o, a, e1, s⟩ := h
  exact ⟨o, a, e1, sqT_kp e s⟩
theorem Fr.ex {K : PySem.W.Frag} {H H' : Hp} {v : V} {q : Rat} (e : Ex H H') (h : Fr K q H v) : Fr K q H' v := h.kp (kp_ex e)
theorem Fr.ok {K : PySem.W.Frag} {H : Hp} {v : V} {q : Rat} (h : Fr K q H v) : Ok q := h.1
theorem ok0 : Ok 0 := ⟨by decide, by decide⟩
theorem ok1 : Ok 1 := ⟨by decide, by decide⟩

/-! ### reps that stay -/
class Stay (R : Hp → V → Prop) : Prop where
  kp : ∀ H H' v, Kp H H' → R H v → R H' v
class StayR (R : Hp → V → Prop) : Prop where
  rx : ∀ H H' v, Rx H H' → R H v → R H' v
class StayX (R : Hp → V → Prop) : Prop where
  ex : ∀ H H' v, Ex H H' → R H v → R H' v
instance {R : Hp → V → Prop} [h : Stay R] : StayR R := ⟨fun H H' v e r => h.kp H H' v (kp_rx e) r⟩
instance {R : Hp → V → Prop} [h : StayR R] : StayX R := ⟨fun H H' v e r => h.rx H H' v (rx_ex e) r⟩
instance {K : PySem.W.Frag} {q : Rat} : Stay (Fr K q) := ⟨fun _ _ _ e h => h.kp e⟩
/-- it is this very value -/
def Is (x : V) : Hp → V → Prop := fun _ v => v = x
instance {x : V} : Stay (Is x) := ⟨fun _ _ _ _ h => h⟩
theorem is_rfl {x : V} {H : Hp} : Is x H x := rfl

/-- a list of things -/
def Ls (K : PySem.W.Frag) {α : Type} (R : α → Hp → V → Prop) (xs : List α) : Hp → V → Prop := fun H v => ∃ a vs, v = .ref a ∧ SqL K H a vs ∧ Paired (fun w x => R x H w) vs xs
/-- a tracked list of things at a -/
def LsM {α : Type} (R : α → Hp → V → Prop) (xs : List α) (H : Hp) (a : Addr) : Prop := ∃ vs, H a = some (.lst vs) ∧ Paired (fun w x => R x H w) vs xs
instance {K : PySem.W.Frag} {α : Type} {R : α → Hp → V → Prop} [h : ∀ x, StayR (R x)] {xs : List α} : StayR (Ls K R xs) := ⟨fun H H' v e r => by
  obtain ⟨a, vs, e1, s, p⟩ := r
  exact ⟨a, vs, e1, sqL_rx e s, L2.Paired.mapP p fun w x hw => (h x).rx _ _ _ e hw⟩⟩
theorem LsM.ls {K : PySem.W.Frag} {α : Type} {R : α → Hp → V → Prop} {xs : List α} {H : Hp} {a : Addr} (h : LsM R xs H a) : Ls K R xs H (.ref a) := by
  obtain ⟨vs, e, p⟩ := h
  exact ⟨a, vs, rfl, SqL.of e, p⟩

/-! ### association lists -/
abbrev AL (α : Type) := List (Str × α)
def aget {α : Type} (m : AL α) (k : Str) : Option α := (m.find? fun p => decide (p.1 = k)).map (·.2)
def aput {α : Type} (m : AL α) (k : Str) (a : α) : AL α := if (m.any fun p => decide (p.1 = k)) = true then m.map (fun p => if p.1 = k then (p.1, a) else p) else m ++ [(k, a)]
def adel {α : Type} (m : AL α) (k : Str) : AL α := m.filter fun p => decide (p.1 ≠ k)
/-- pairs of a dict, told -/
def PD {α : Type} (R : α → Hp → V → Prop) (H : Hp) : List (Key × V) → AL α → Prop := Paired fun kv p => kv.1 = .inr p.1 ∧ R p.2 H kv.2
/-- a dict of things, read -/
def Dc {α : Type} (R : α → Hp → V → Prop) (m : AL α) : Hp → V → Prop := fun H v => ∃ a kvs, v = .ref a ∧ Rd H a (.dK kvs) ∧ PD R H kvs m
/-- a tracked dict of things at a -/
def DcM {α : Type} (R : α → Hp → V → Prop) (m : AL α) (H : Hp) (a : Addr) : Prop := ∃ kvs, H a = some (.dK kvs) ∧ PD R H kvs m
section
variable {α : Type} {R : α → Hp → V → Prop} {H H' : Hp} {kvs : List (Key × V)} {m : AL α}
theorem PD.map (h : PD R H kvs m) (f : ∀ x v, R x H v → R x H' v) : PD R H' kvs m := L2.Paired.mapP h fun _ _ ⟨e, r⟩ => ⟨e, f _ _ r⟩
instance [h : ∀ x, StayR (R x)] : StayR (Dc R m) := ⟨fun H H' v e r => by
  obtain ⟨a, kvs, e1, s, p⟩ := r
  exact ⟨a, kvs, e1, e _ _ True.intro s, p.map fun x w hw => (h x).rx _ _ _ e hw⟩⟩
theorem DcM.dc {a : Addr} (h : DcM R m H a) : Dc R m H (.ref a) := by
  obtain ⟨kvs, e, p⟩ := h
  exact ⟨a, kvs, rfl, Or.inl e, p⟩
theorem PD.len (h : PD R H kvs m) : kvs.length = m.length := Paired.length h
theorem PD.get (h : PD R H kvs m) (k : Str) : (valV kvs (.inr k) = none ∧ aget m k = none) ∨ ∃ v x, valV kvs (.inr k) = some v ∧ aget m k = some x ∧ R x H v := by
  induction h with
  | nil => exact Or.inl ⟨rfl, rfl⟩
  | @cons kv p kvs m hd _ ih =>
    obtain ⟨e, r⟩ := hd
    by_cases he : p.1 = k
    · refine Or.inr ⟨kv.2, p.2, valV_pos (by rw [e, he]), ?_, r⟩
      unfold aget
      rw [List.find?_cons, decide_eq_true he]
      rfl
    · have ne : ¬ kv.1 = (.inr k : Key) := fun z => he (by rw [e] at z; exact Sum.inr.inj z)
      have ea : aget (p :: m) k = aget m k := by
        unfold aget
        rw [List.find?_cons, decide_eq_false he]
      rw [valV_neg ne, ea]
      exact ih
theorem PD.has (h : PD R H kvs m) {k : Str} {x : α} (g : aget m k = some x) : ∃ v, valV kvs (.inr k) = some v ∧ R x H v := by
  rcases h.get k with ⟨_, e⟩ | ⟨v, y, e1, e2, r⟩
  · rw [e] at g; cases g
  · rw [e2] at g; cases g; exact ⟨v, e1, r⟩
theorem PD.no (h : PD R H kvs m) {k : Str} (g : aget m k = none) : valV kvs (.inr k) = none := by
  rcases h.get k with ⟨e, _⟩ | ⟨v, y, e1, e2, r⟩
  · exact e
  · rw [e2] at g; cases g
theorem PD.any (h : PD R H kvs m) (k : Str) : (kvs.any fun kv => decide (kv.1 = (.inr k : Key))) = m.any fun p => decide (p.1 = k) := by
  induction h with
  | nil => rfl
  | @cons kv p kvs m hd _ ih =>
    rw [List.any_cons, List.any_cons, ih, hd.1]
    congr 1
    rw [Bool.eq_iff_iff]
    simp
theorem PD.put (h : PD R H kvs m) (k : Str) {x : α} {v : V} (r : R x H v) : PD R H (putK kvs (.inr k) v) (aput m k x) := by
  have ha := h.any k
  unfold putK aput
  rw [ha]
  by_cases c : (m.any fun p => decide (p.1 = k)) = true
  · rw [if_pos c, if_pos c]
    clear ha c
    induction h with
    | nil => exact .nil
    | @cons kv p kvs m hd _ ih =>
      rw [List.map_cons, List.map_cons]
      refine .cons ?_ ih
      by_cases he : p.1 = k
      · rw [if_pos he, if_pos (by rw [hd.1, he])]
        exact ⟨hd.1, r⟩
      · rw [if_neg he, if_neg (fun z => he (by rw [hd.1] at z; exact Sum.inr.inj z))]
        exact hd
  · rw [if_neg c, if_neg c]
    exact Paired.snoc h ⟨rfl, r⟩
theorem PD.del (h : PD R H kvs m) (k : Str) : PD R H (dropK kvs (.inr k)) (adel m k) := by
  unfold dropK adel
  induction h with
  | nil => exact .nil
  | @cons kv p kvs m hd _ ih =>
    by_cases he : p.1 = k
    · rw [List.filter_cons, List.filter_cons, if_neg (by rw [hd.1, he]; simp), if_neg (by rw [he]; simp)]
      exact ih
    · rw [List.filter_cons, List.filter_cons, if_pos (by rw [hd.1]; simpa using fun z => he z), if_pos (by simpa using he)]
      exact .cons hd ih
theorem PD.keys (h : PD R H kvs m) : (kvs.map fun kv => kV kv.1) = (m.map (·.1)).map V.str := by
  induction h with
  | nil => rfl
  | @cons kv p kvs m hd _ ih =>
    rw [List.map_cons, List.map_cons, List.map_cons, ih, hd.1]
    rfl
theorem PD.at (h : PD R H kvs m) : ∀ (i : Nat) {k : Key} {v : V}, kvs[i]? = some (k, v) → ∃ p, m[i]? = some p ∧ k = .inr p.1 ∧ R p.2 H v := by
  induction h with
  | nil => intro i k v e; simp at e
  | @cons kv p kvs m hd _ ih =>
    intro i k v e
    cases i with
    | zero =>
      simp at e
      subst e
      exact ⟨p, rfl, hd.1, hd.2⟩
    | succ i =>
      simp at e
      obtain ⟨p', e1, e2⟩ := ih i e
      exact ⟨p', by simpa using e1, e2⟩
end
theorem aget_put {α : Type} (m : AL α) (k j : Str) (x : α) : aget (aput m k x) j = if j = k then some x else aget m j := by
  unfold aput
  by_cases c : (m.any fun p => decide (p.1 = k)) = true
  · rw [if_pos c]
    induction m with
    | nil => simp at c
    | cons p m ih =>
      rw [List.map_cons]
      unfold aget
      by_cases hp : p.1 = k
      · rw [if_pos hp, List.find?_cons, List.find?_cons]
        by_cases hj : j = k
        · rw [if_pos hj, hj]
          simp [hp]
        · rw [if_neg hj]
          have h1 : ¬ p.1 = j := fun z => hj (z.symm.trans hp)
          simp only [decide_eq_false h1]
          clear ih c
          congr 1
          induction m with
          | nil => rfl
          | cons r m ih2 =>
            rw [List.map_cons, List.find?_cons, List.find?_cons, ih2]
            by_cases hr : r.1 = k
            · rw [if_pos hr]
              have h2 : ¬ r.1 = j := fun z => hj (z.symm.trans hr)
              simp only [decide_eq_false h2]
            · rw [if_neg hr]
      · rw [if_neg hp, List.find?_cons, List.find?_cons]
        by_cases hj : p.1 = j
        · have h1 : ¬ j = k := fun z => hp (hj.trans z)
          simp only [decide_eq_true hj]
          rw [if_neg h1]
        · simp only [decide_eq_false hj]
          have c' : (m.any fun p => decide (p.1 = k)) = true := by
            rw [List.any_cons, decide_eq_false hp] at c
            simpa using c
          exact ih c'
  · rw [if_neg c]
    unfold aget
    have c' : (m.find? fun p => decide (p.1 = k)) = none := by
      rw [List.find?_eq_none]
      intro p hp z
      exact c (List.any_eq_true.mpr ⟨p, hp, z⟩)
    rw [List.find?_append]
    by_cases hj : j = k
    · subst hj
      rw [if_pos rfl, c']
      simp
    · rw [if_neg hj]
      have h1 : ¬ k = j := fun z => hj z.symm
      simp [h1]
theorem aput_len {α : Type} (m : AL α) (k : Str) (x : α) : (aput m k x).length ≤ m.length + 1 := by
  unfold aput
  split <;> simp
theorem adel_len {α : Type} (m : AL α) (k : Str) : (adel m k).length ≤ m.length := List.length_filter_le _ _
end Tc
set_option Elab.async false
set_option linter.all false
set_option maxRecDepth 100000
set_option maxHeartbeats 4000000
set_option exponentiation.threshold 10000
namespace Tc
open PySem PySem.Spec PyProof.Rows L2 Evl

/-! ### expressions -/
abbrev HV := Hp → V → Prop
def RetP (H : Hp) (R : HV) (Q : VK) : Prop := ∀ v H', Ex H H' → R H' v → Q v H'
def RetN (H : Hp) (R : Hp → Addr → Prop) (Q : VK) : Prop := ∀ p H', H p = none → Ex H H' → R H' p → Q (.ref p) H'
/-- te gives a thing of which R holds, and only adds to the heap -/
def EvP (te : TE) (σ : L2.St) (H : Hp) (R : HV) : Prop := ∀ H1, Ex H H1 → ∀ Q : VK, RetP H1 R Q → te σ H1 Q
/-- a new object -/
def EvN (te : TE) (σ : L2.St) (H : Hp) (R : Hp → Addr → Prop) : Prop := ∀ H1, Ex H H1 → ∀ Q : VK, RetN H1 R Q → te σ H1 Q
def AllP (Rs : List HV) (H : Hp) (vs : List V) : Prop := Paired (fun w (R : HV) => R H w) vs Rs
def EvAs (ta : TA) (σ : L2.St) (H : Hp) (Rs : List HV) : Prop := ∀ H1, Ex H H1 → ∀ Q : List V → Hp → Prop, (∀ vs H2, Ex H1 H2 → AllP Rs H2 vs → Q vs H2) → ta σ H1 Q
class StayAll (Rs : List HV) : Prop where
  ex : ∀ H H' vs, Ex H H' → AllP Rs H vs → AllP Rs H' vs
class StayAllK (Rs : List HV) : Prop where
  kp : ∀ H H' vs, Kp H H' → AllP Rs H vs → AllP Rs H' vs
class StayAllR (Rs : List HV) : Prop where
  rx : ∀ H H' vs, Rx H H' → AllP Rs H vs → AllP Rs H' vs
instance : StayAll [] := ⟨fun _ _ _ _ h => by cases h; exact .nil⟩
instance : StayAllK [] := ⟨fun _ _ _ _ h => by cases h; exact .nil⟩
instance : StayAllR [] := ⟨fun _ _ _ _ h => by cases h; exact .nil⟩
instance {R : HV} {Rs : List HV} [h : StayX R] [t : StayAll Rs] : StayAll (R :: Rs) := ⟨fun H H' vs e r => by
  cases r with
  | cons a b => exact .cons (h.ex _ _ _ e a) (t.ex _ _ _ e b)⟩
instance {R : HV} {Rs : List HV} [h : Stay R] [t : StayAllK Rs] : StayAllK (R :: Rs) := ⟨fun H H' vs e r => by
  cases r with
  | cons a b => exact .cons (h.kp _ _ _ e a) (t.kp _ _ _ e b)⟩
instance {R : HV} {Rs : List HV} [h : StayR R] [t : StayAllR Rs] : StayAllR (R :: Rs) := ⟨fun H H' vs e r => by
  cases r with
  | cons a b => exact .cons (h.rx _ _ _ e a) (t.rx _ _ _ e b)⟩
/-- a tuple of things -/
def Tp (K : PySem.W.Frag) (Rs : List HV) : HV := fun H v => ∃ a vs, v = .ref a ∧ SqT K H a vs ∧ AllP Rs H vs
instance {K : PySem.W.Frag} {Rs : List HV} [h : StayAllK Rs] : Stay (Tp K Rs) := ⟨fun H H' v e r => by
  obtain ⟨a, vs, e1, s, p⟩ := r
  exact ⟨a, vs, e1, sqT_kp e s, h.kp _ _ _ e p⟩⟩
instance (priority := low) {K : PySem.W.Frag} {Rs : List HV} [h : StayAllR Rs] : StayR (Tp K Rs) := ⟨fun H H' v e r => by
  obtain ⟨a, vs, e1, s, p⟩ := r
  exact ⟨a, vs, e1, sqT_kp (kp_rx e) s, h.rx _ _ _ e p⟩⟩

section
variable {K : PySem.W.Frag} {σ : L2.St} {H H' : Hp} {ta tb te tx td ty : TE} {t u : TT} {x y z v : V} {r : R2} {R R1 R2' : HV} {Rs : List HV} {q q1 q2 : Rat}
theorem EvP.mono (e : Ex H H') (h : EvP te σ H R) : EvP te σ H' R := fun H1 a Q k => h H1 (e.trans a) Q k
theorem EvN.mono {S : Hp → Addr → Prop} (e : Ex H H') (h : EvN te σ H S) : EvN te σ H' S := fun H1 a Q k => h H1 (e.trans a) Q k
theorem EvP.weak (h : EvP te σ H R) (w : ∀ H' v, Ex H H' → R H' v → R1 H' v) : EvP te σ H R1 := fun H1 a Q k => h H1 a Q fun v H2 e r => k v H2 e (w _ _ (a.trans e) r)
theorem EvN.p {S : Hp → Addr → Prop} (h : EvN te σ H S) : EvP te σ H (fun H v => ∃ p, v = .ref p ∧ S H p) := fun H1 a Q k => h H1 a Q fun p H2 _ e r => k _ H2 e ⟨p, rfl, r⟩
theorem EvN.weak {S S' : Hp → Addr → Prop} (h : EvN te σ H S) (w : ∀ H' v, Ex H H' → S H' v → S' H' v) : EvN te σ H S' := fun H1 a Q k => h H1 a Q fun v H2 n e r => k v H2 n e (w _ _ (a.trans e) r)
theorem ep_ev (h : Ev te σ H x) : EvP te σ H (Is x) := fun H1 a Q k => h H1 a Q fun H2 e => k x H2 e rfl
theorem ev_ep (h : EvP te σ H (Is x)) : Ev te σ H x := fun H1 a Q k => h H1 a Q fun v H2 e r => by
  cases (show v = x from r)
  exact k H2 e
theorem ep_var {i : Nat} (h : σ[i]? = some (some v)) (rr : R H v) [s : StayX R] : EvP (tVar i) σ H R := fun H1 e Q k => ⟨v, h, k v H1 (Ex.refl H1) (s.ex _ _ _ e rr)⟩
theorem ep_c (rr : R H v) [s : StayX R] : EvP (tC v) σ H R := fun H1 e Q k => k v H1 (Ex.refl H1) (s.ex _ _ _ e rr)
theorem ep_i {i : Int} : EvP (tC (.int i)) σ H (Is (.int i)) := ep_c rfl
theorem ep_s {i : Str} : EvP (tC (.str i)) σ H (Is (.str i)) := ep_c rfl
theorem ep_op (ha : EvP ta σ H R1) (hb : EvP tb σ H R2') [s1 : StayX R1] (hr : ∀ H1 x y, Ex H H1 → R1 H1 x → R2' H1 y → ∀ Q : VK, RetP H1 R Q → r x y H1 Q) : EvP (tOp r ta tb) σ H R := fun H1 e Q k =>
  ha H1 e _ fun x H2 e2 rx => hb H2 (e.trans e2) _ fun y H3 e3 ry => hr H3 x y ((e.trans e2).trans e3) (s1.ex _ _ _ e3 rx) ry Q fun v H4 e4 rv => k v H4 ((e2.trans e3).trans e4) rv
theorem ep_opV (ha : EvP ta σ H (Is x)) (hb : EvP tb σ H (Is y)) (hr : ∀ H1, ∀ Q : VK, Q z H1 → r x y H1 Q) : EvP (tOp r ta tb) σ H (Is z) := ep_op ha hb fun H1 a b e ea eb Q k => by
  cases (show a = x from ea)
  cases (show b = y from eb)
  exact hr H1 Q (k z H1 (Ex.refl _) rfl)
/-! arithmetic of ints -/
abbrev rPlusI : R2 := rI0 fun i j => .int (i + j)
abbrev rSubI : R2 := rI0 fun i j => .int (i - j)
abbrev rMulI : R2 := rI CMulW fun i j => .int (i * j)
abbrev rDivI : R2 := rI CDivW fun i j => .int (i / j)
abbrev rModI : R2 := rI (fun _ j => 0 < j) fun i j => .int (i % j)
abbrev rLtI : R2 := rI0 fun i j => .bl (decide (i < j))
abbrev rLeI : R2 := rI0 fun i j => .bl (decide (i ≤ j))
theorem ep_addI {i j : Int} (ha : EvP ta σ H (Is (.int i))) (hb : EvP tb σ H (Is (.int j))) : EvP (tOp rPlusI ta tb) σ H (Is (.int (i + j))) := ep_opV ha hb fun H1 Q k => ⟨i, j, rfl, rfl, k⟩
theorem ep_subI {i j : Int} (ha : EvP ta σ H (Is (.int i))) (hb : EvP tb σ H (Is (.int j))) : EvP (tOp rSubI ta tb) σ H (Is (.int (i - j))) := ep_opV ha hb fun H1 Q k => ⟨i, j, rfl, rfl, k⟩
theorem ep_mulI {i j : Int} (ha : EvP ta σ H (Is (.int i))) (hb : EvP tb σ H (Is (.int j))) (c : CMulW i j) : EvP (tOp rMulI ta tb) σ H (Is (.int (i * j))) := ep_opV ha hb fun H1 Q k => ⟨i, j, rfl, rfl, c, k⟩
theorem ep_divI {i j : Int} (ha : EvP ta σ H (Is (.int i))) (hb : EvP tb σ H (Is (.int j))) (c : CDivW i j) : EvP (tOp rDivI ta tb) σ H (Is (.int (i / j))) := ep_opV ha hb fun H1 Q k => ⟨i, j, rfl, rfl, c, k⟩
theorem ep_modI {i j : Int} (ha : EvP ta σ H (Is (.int i))) (hb : EvP tb σ H (Is (.int j))) (c : 0 < j) : EvP (tOp rModI ta tb) σ H (Is (.int (i % j))) := ep_opV ha hb fun H1 Q k => ⟨i, j, rfl, rfl, c, k⟩
theorem ep_ltI {i j : Int} (ha : EvP ta σ H (Is (.int i))) (hb : EvP tb σ H (Is (.int j))) : EvP (tOp rLtI ta tb) σ H (Is (.bl (decide (i < j)))) := ep_opV ha hb fun H1 Q k => ⟨i, j, rfl, rfl, k⟩
theorem ep_leI {i j : Int} (ha : EvP ta σ H (Is (.int i))) (hb : EvP tb σ H (Is (.int j))) : EvP (tOp rLeI ta tb) σ H (Is (.bl (decide (i ≤ j)))) := ep_opV ha hb fun H1 Q k => ⟨i, j, rfl, rfl, k⟩
theorem ep_eqI {i j : Int} (ha : EvP ta σ H (Is (.int i))) (hb : EvP tb σ H (Is (.int j))) : EvP (tOp rEq ta tb) σ H (Is (.bl (decide (i = j)))) := ep_opV ha hb fun H1 Q k => ⟨rfl, by
  have e : decide (V.int i = V.int j) = decide (i = j) := by rw [dec_int, Bool.beq_eq_decide_eq]
  rw [e]; exact k⟩
theorem ep_neI {i j : Int} (ha : EvP ta σ H (Is (.int i))) (hb : EvP tb σ H (Is (.int j))) : EvP (tOp rNe ta tb) σ H (Is (.bl (!decide (i = j)))) := ep_opV ha hb fun H1 Q k => ⟨rfl, by
  have e : decide (V.int i = V.int j) = decide (i = j) := by rw [dec_int, Bool.beq_eq_decide_eq]
  rw [e]; exact k⟩
theorem ep_eqS {i j : Str} (ha : EvP ta σ H (Is (.str i))) (hb : EvP tb σ H (Is (.str j))) : EvP (tOp rEq ta tb) σ H (Is (.bl (decide (i = j)))) := ep_opV ha hb fun H1 Q k => ⟨rfl, by
  have e : decide (V.str i = V.str j) = decide (i = j) := by
    rw [Bool.eq_iff_iff]
    simp
  rw [e]; exact k⟩
/-! arguments, calls -/
theorem eas_nil : EvAs tNil σ H [] := fun H1 _ _ k => k [] H1 (Ex.refl H1) .nil
theorem eas_cons {tr : TA} (h : EvP te σ H R) (hr : EvAs tr σ H Rs) [s : StayX R] : EvAs (tCons te tr) σ H (R :: Rs) := fun H1 e _ k =>
  h H1 e _ fun v H2 e2 rv => hr H2 (e.trans e2) _ fun vs H3 e3 rs => k _ H3 (e2.trans e3) (.cons (s.ex _ _ _ e3 rv) rs)
theorem EvAs.mono {ta : TA} (e : Ex H H') (h : EvAs ta σ H Rs) : EvAs ta σ H' Rs := fun H1 a Q k => h H1 (e.trans a) Q k
theorem ep_call {sp : Sp} {E : XK} {ta : TA} (h : EvAs ta σ H Rs) (hs : ∀ H1 vs, Ex H H1 → AllP Rs H1 vs → ∀ Q, RetP H1 R Q → sp vs H1 Q E) : EvP (tCall sp [] E ta) σ H R := fun H1 e Q k =>
  h H1 e _ fun vs H2 e2 rs => by
    show sp (vs ++ []) H2 Q E
    rw [List.append_nil]
    exact hs H2 vs (e.trans e2) rs Q fun v H3 e3 rv => k v H3 (e2.trans e3) rv
theorem en_call {S : Hp → Addr → Prop} {sp : Sp} {E : XK} {ta : TA} (h : EvAs ta σ H Rs) (hs : ∀ H1 vs, Ex H H1 → AllP Rs H1 vs → ∀ Q, RetN H1 S Q → sp vs H1 Q E) : EvN (tCall sp [] E ta) σ H S := fun H1 e Q k =>
  h H1 e _ fun vs H2 e2 rs => by
    show sp (vs ++ []) H2 Q E
    rw [List.append_nil]
    exact hs H2 vs (e.trans e2) rs Q fun v H3 n e3 rv => k v H3 (fresh_back e2 n) (e2.trans e3) rv
theorem ep_cb {r : List V → Hp → VK → Prop} {ta : TA} (h : EvAs ta σ H Rs) (hs : ∀ H1 vs, Ex H H1 → AllP Rs H1 vs → ∀ Q, RetP H1 R Q → r vs H1 Q) : EvP (tCB r ta) σ H R := fun H1 e Q k =>
  h H1 e _ fun vs H2 e2 rs => hs H2 vs (e.trans e2) rs Q fun v H3 e3 rv => k v H3 (e2.trans e3) rv
theorem en_cb {S : Hp → Addr → Prop} {r : List V → Hp → VK → Prop} {ta : TA} (h : EvAs ta σ H Rs) (hs : ∀ H1 vs, Ex H H1 → AllP Rs H1 vs → ∀ Q, RetN H1 S Q → r vs H1 Q) : EvN (tCB r ta) σ H S := fun H1 e Q k =>
  h H1 e _ fun vs H2 e2 rs => hs H2 vs (e.trans e2) rs Q fun v H3 n e3 rv => k v H3 (fresh_back e2 n) (e2.trans e3) rv
theorem AllP.nil (h : AllP [] H vs) : vs = [] := by cases h; rfl
theorem AllP.one {vs : List V} (h : AllP [R] H vs) : ∃ a, vs = [a] ∧ R H a := by
  cases h with
  | cons a b => cases b; exact ⟨_, rfl, a⟩
theorem AllP.two {vs : List V} (h : AllP [R, R1] H vs) : ∃ a b, vs = [a, b] ∧ R H a ∧ R1 H b := by
  cases h with
  | cons a b =>
    cases b with
    | cons b c => cases c; exact ⟨_, _, rfl, a, b⟩
theorem AllP.three {vs : List V} (h : AllP [R, R1, R2'] H vs) : ∃ a b c, vs = [a, b, c] ∧ R H a ∧ R1 H b ∧ R2' H c := by
  cases h with
  | cons a b =>
    obtain ⟨x, y, e, p, q⟩ := AllP.two b
    subst e
    exact ⟨_, _, _, rfl, a, p, q⟩
theorem AllP.four {S : HV} {vs : List V} (h : AllP [R, R1, R2', S] H vs) : ∃ a b c d, vs = [a, b, c, d] ∧ R H a ∧ R1 H b ∧ R2' H c ∧ S H d := by
  cases h with
  | cons a b =>
    obtain ⟨x, y, z, e, p, q⟩ := AllP.three b
    subst e
    exact ⟨_, _, _, _, rfl, a, p, q⟩
theorem AllP.at {vs : List V} (h : AllP Rs H vs) : ∀ {j : Nat}, Rs[j]? = some R → ∃ w, vs[j]? = some w ∧ R H w := by
  unfold AllP at h
  induction h with
  | nil => intro j e; simp at e
  | @cons w S vs Rs a _ ih =>
    intro j e
    cases j with
    | zero => simp at e; subst e; exact ⟨w, rfl, a⟩
    | succ j =>
      simp at e
      obtain ⟨w', e1, e2⟩ := ih e
      exact ⟨w', by simpa using e1, e2⟩
/-! tuples and fractions -/
theorem ep_tup {ta : TA} (h : EvAs ta σ H Rs) (hl : Rs.length ≤ 100000) [s : StayAll Rs] : EvP (tTup ta) σ H (Tp K Rs) := fun H1 e Q k =>
  h H1 e _ fun vs H2 e2 rs => ⟨by rw [Paired.length rs]; exact sz_of hl, fun p hp => k _ _ (e2.trans (Ex.new hp)) ⟨p, vs, rfl, SqT.of upd_same, s.ex _ _ _ (Ex.new hp) rs⟩⟩
theorem ep_ixT {j : Nat} (ha : EvP ta σ H (Tp K Rs)) [StayAllK Rs] (hb : EvP tb σ H (Is (.int (j : Int)))) (hj : Rs[j]? = some R) : EvP (tOp (rIxT K) ta tb) σ H R := ep_op ha hb fun H1 a b e ra rb Q k => by
  cases (show b = _ from rb)
  obtain ⟨p, vs, e1, s, rs⟩ := ra
  obtain ⟨w, e2, rw'⟩ := rs.at hj
  exact ⟨p, vs, (j : Int), w, e1, rfl, s, atI_nat e2, k w H1 (Ex.refl _) rw'⟩
theorem Fr.tp (h : Fr K q H v) : Tp K [Is (.int q.num), Is (.int (q.den : Int))] H v := by
  obtain ⟨_, a, e, s⟩ := h
  exact ⟨a, _, e, s, .cons rfl (.cons rfl .nil)⟩
theorem ep_num (ha : EvP ta σ H (Fr K q)) : EvP (tOp (rIxT K) ta (tC (.int 0))) σ H (Is (.int q.num)) :=
  ep_ixT (j := 0) (Rs := [Is (.int q.num), Is (.int (q.den : Int))]) (ha.weak fun _ _ _ h => h.tp) ep_i rfl
theorem ep_den (ha : EvP ta σ H (Fr K q)) : EvP (tOp (rIxT K) ta (tC (.int 1))) σ H (Is (.int (q.den : Int))) :=
  ep_ixT (j := 1) (Rs := [Is (.int q.num), Is (.int (q.den : Int))]) (ha.weak fun _ _ _ h => h.tp) ep_i rfl
theorem ep_frac {ta : TA} {n : Int} {d : Nat} (h : EvAs ta σ H [Is (.int n), Is (.int (d : Int))]) (o : Ok q) (e1 : q.num = n) (e2 : q.den = d) : EvP (tTup ta) σ H (Fr K q) :=
  (ep_tup (K := K) h (show 2 ≤ 100000 by decide)).weak fun H' v _ r => by
    obtain ⟨a, vs, ea, s, rs⟩ := r
    obtain ⟨x, y, evs, ex, ey⟩ := rs.two
    cases (show x = _ from ex)
    cases (show y = _ from ey)
    subst evs
    exact ⟨o, a, ea, by rw [e1, e2]; exact s⟩
theorem frD (h : Fr K q H v) : Dp K H v (.tuple [.int q.num, .int (q.den : Int)]) := by
  obtain ⟨_, a, e, s⟩ := h
  subst e
  exact .tup s (.cons (.int _) (.cons (.int _) .nil))
theorem shF (a b : Int) : SeqAt.shaped (.tuple [.int a, .int b]) = true := by
  simp [SeqAt.shaped, PyData.canLay0, PyData.canLayAll0, PyData.depth, PyData.depthAll]
theorem eqvF (p q : Rat) : PyData.eqv (.tuple [.int p.num, .int (p.den : Int)]) (.tuple [.int q.num, .int (q.den : Int)]) = decide (p = q) := by
  have e : PyData.eqv (.tuple [.int p.num, .int (p.den : Int)]) (.tuple [.int q.num, .int (q.den : Int)]) = (p.num == q.num && ((p.den : Int) == (q.den : Int) && true)) := by
    simp [PyData.eqv, PyData.eqvAll]
  rw [e, Bool.eq_iff_iff]
  simp only [Bool.and_true, Bool.and_eq_true, beq_iff_eq, decide_eq_true_eq]
  constructor
  · rintro ⟨a, b⟩
    exact Rat.ext a (by omega)
  · rintro rfl
    exact ⟨rfl, rfl⟩
theorem ep_eqF (ha : EvP ta σ H (Fr K q1)) (hb : EvP tb σ H (Fr K q2)) : EvP (tOp (rEqD K) ta tb) σ H (Is (.bl (decide (q1 = q2)))) := ep_op ha hb fun H1 a b e ra rb Q k =>
  ⟨_, _, frD ra, frD rb, shF _ _, shF _ _, by rw [eqvF]; exact k _ H1 (Ex.refl _) rfl⟩
theorem ep_neF (ha : EvP ta σ H (Fr K q1)) (hb : EvP tb σ H (Fr K q2)) : EvP (tOp (rNeD K) ta tb) σ H (Is (.bl (!decide (q1 = q2)))) := ep_op ha hb fun H1 a b e ra rb Q k =>
  ⟨_, _, frD ra, frD rb, shF _ _, shF _ _, by rw [eqvF]; exact k _ H1 (Ex.refl _) rfl⟩
/-! lists -/
theorem Paired.get1 {α β : Type} {F : α → β → Prop} : ∀ {xs : List α} {ys : List β}, Paired F xs ys → ∀ {j : Nat} {y : β}, ys[j]? = some y → ∃ x, xs[j]? = some x ∧ F x y
  | _, _, .nil, _, _, e => by simp at e
  | _, _, .cons h t, 0, y, e => by simp at e; subst e; exact ⟨_, rfl, h⟩
  | _, _, .cons h t, j + 1, y, e => by
    obtain ⟨x, a, b⟩ := Paired.get1 t (j := j) (y := y) (by simpa using e)
    exact ⟨x, by simpa using a, b⟩
theorem Paired.get0 {α β : Type} {F : α → β → Prop} : ∀ {xs : List α} {ys : List β}, Paired F xs ys → ∀ {j : Nat} {x : α}, xs[j]? = some x → ∃ y, ys[j]? = some y ∧ F x y
  | _, _, .nil, _, _, e => by simp at e
  | _, _, .cons h t, 0, y, e => by simp at e; subst e; exact ⟨_, rfl, h⟩
  | _, _, .cons h t, j + 1, y, e => by
    obtain ⟨x, a, b⟩ := Paired.get0 t (j := j) (x := y) (by simpa using e)
    exact ⟨x, by simpa using a, b⟩
theorem ep_ixL {α : Type} {S : α → HV} {xs : List α} {j : Nat} {x : α} (ha : EvP ta σ H (Ls K S xs)) [∀ x, StayR (S x)] (hb : EvP tb σ H (Is (.int (j : Int)))) (hj : xs[j]? = some x) : EvP (tOp (rIxL K) ta tb) σ H (S x) :=
  ep_op ha hb fun H1 a b e ra rb Q k => by
    cases (show b = _ from rb)
    obtain ⟨p, vs, e1, s, rs⟩ := ra
    obtain ⟨w, e2, rw'⟩ := Paired.get1 rs hj
    exact ⟨p, vs, (j : Int), w, e1, rfl, s, atI_nat e2, k w H1 (Ex.refl _) rw'⟩
theorem en_lst {ta : TA} (h : EvAs ta σ H Rs) (hl : Rs.length ≤ 100000) [s : StayAll Rs] : EvN (tLst ta) σ H (fun H p => ∃ vs, H p = some (.lst vs) ∧ AllP Rs H vs) := fun H1 e Q k =>
  h H1 e _ fun vs H2 e2 rs => ⟨by rw [Paired.length rs]; exact sz_of hl, fun p hp => k p _ (fresh_back e2 hp) (e2.trans (Ex.new hp)) ⟨vs, upd_same, s.ex _ _ _ (Ex.new hp) rs⟩⟩
theorem en_nil {α : Type} {S : α → HV} : EvN (tLst tNil) σ H (LsM S []) := (en_lst (Rs := []) eas_nil (by decide)).weak fun H' p _ r => by
  obtain ⟨vs, e, a⟩ := r
  cases a.nil
  exact ⟨[], e, .nil⟩
theorem en_dnew {α : Type} {S : α → HV} : EvN tDNewK σ H (DcM S []) := fun H1 e Q k p hp => k p _ hp (Ex.new hp) ⟨[], upd_same, .nil⟩
/-! dicts -/
theorem ep_dget {α : Type} {S : α → HV} {m : AL α} {k : Str} {x : α} (hd : EvP td σ H (Dc S m)) [∀ x, StayR (S x)] (hy : EvP ty σ H (Is (.str k))) (g : aget m k = some x) : EvP (tDGet td ty) σ H (S x) := fun H1 e Q kk =>
  hd H1 e _ fun a H2 e2 ra => hy H2 (e.trans e2) _ fun b H3 e3 rb => by
    cases (show b = _ from rb)
    obtain ⟨p, kvs, e1, s, rs⟩ := (inferInstance : StayX (Dc S m)).ex _ _ _ e3 ra
    obtain ⟨w, e4, rw'⟩ := rs.has g
    exact ⟨p, w, e1, Or.inl ⟨kvs, .inr k, s, rfl, e4.symm⟩, kk w H3 (e2.trans e3) rw'⟩
theorem ep_dget2 {α : Type} {S : α → HV} {m : AL α} {k : Str} {x : α} (hd : EvP td σ H (Dc S m)) [∀ x, StayR (S x)] (hy : EvP ty σ H (Is (.str k))) (hx : EvP tx σ H (S x)) : EvP (tDGet2 td ty tx) σ H (S ((aget m k).getD x)) := fun H1 e Q kk =>
  hd H1 e _ fun a H2 e2 ra => by
    obtain ⟨p, kvs, e1, s, rs⟩ := id ra
    refine ⟨p, e1, Or.inl ⟨kvs, s⟩, ?_⟩
    refine hy H2 (e.trans e2) _ fun b H3 e3 rb => ?_
    refine hx H3 ((e.trans e2).trans e3) _ fun c H4 e4 rc => ?_
    cases (show b = _ from rb)
    have s4 : Rd H4 p (.dK kvs) := ex_rd e4 (ex_rd e3 s)
    have rs4 : PD S H4 kvs m := rs.map fun x v h => (inferInstance : StayX (S x)).ex _ _ _ (e3.trans e4) h
    rcases rs4.get k with ⟨g1, g2⟩ | ⟨w, y, g1, g2, r⟩
    · refine ⟨none, Or.inl ⟨kvs, .inr k, s4, rfl, g1.symm⟩, ?_⟩
      rw [g2] at kk
      exact kk c H4 ((e2.trans e3).trans e4) rc
    · refine ⟨some w, Or.inl ⟨kvs, .inr k, s4, rfl, g1.symm⟩, ?_⟩
      rw [g2] at kk
      exact kk w H4 ((e2.trans e3).trans e4) r
theorem ep_din {α : Type} {S : α → HV} {m : AL α} {k : Str} (hy : EvP ty σ H (Is (.str k))) (hd : EvP td σ H (Dc S m)) : EvP (tDIn ty td) σ H (Is (.bl (aget m k).isSome)) := fun H1 e Q kk =>
  hy H1 e _ fun b H2 e2 rb => hd H2 (e.trans e2) _ fun a H3 e3 ra => by
    cases (show b = _ from rb)
    obtain ⟨p, kvs, e1, s, rs⟩ := ra
    rcases rs.get k with ⟨g1, g2⟩ | ⟨w, y, g1, g2, r⟩
    · refine ⟨p, none, e1, Or.inl ⟨kvs, .inr k, s, rfl, g1.symm⟩, ?_⟩
      rw [g2] at kk
      exact kk _ H3 (e2.trans e3) rfl
    · refine ⟨p, some w, e1, Or.inl ⟨kvs, .inr k, s, rfl, g1.symm⟩, ?_⟩
      rw [g2] at kk
      exact kk _ H3 (e2.trans e3) rfl
theorem ep_dnotin {α : Type} {S : α → HV} {m : AL α} {k : Str} (hy : EvP ty σ H (Is (.str k))) (hd : EvP td σ H (Dc S m)) : EvP (tDNotIn ty td) σ H (Is (.bl (aget m k).isNone)) := fun H1 e Q kk =>
  hy H1 e _ fun b H2 e2 rb => hd H2 (e.trans e2) _ fun a H3 e3 ra => by
    cases (show b = _ from rb)
    obtain ⟨p, kvs, e1, s, rs⟩ := ra
    rcases rs.get k with ⟨g1, g2⟩ | ⟨w, y, g1, g2, r⟩
    · refine ⟨p, none, e1, Or.inl ⟨kvs, .inr k, s, rfl, g1.symm⟩, ?_⟩
      rw [g2] at kk
      exact kk _ H3 (e2.trans e3) rfl
    · refine ⟨p, some w, e1, Or.inl ⟨kvs, .inr k, s, rfl, g1.symm⟩, ?_⟩
      rw [g2] at kk
      exact kk _ H3 (e2.trans e3) rfl
/-! tests -/
theorem et_t {b : Bool} (h : EvP te σ H (Is (.bl b))) : EvT (tTest te) σ H b := et_test (ev_ep h)
theorem et_b {b : Bool} (h : EvP te σ H (Is (.bl b))) : EvT (tB te) σ H b := et_B (ev_ep h)
/-! statements -/
variable {D : Ends} {tz : TS} {g : TG}
theorem p_asg {i : Nat} (h : EvP te σ H R) (k : ∀ v H1, Ex H H1 → R H1 v → D.nx (σ.set i (some v)) H1) : tAsg te (gName i) D σ H := h H (Ex.refl H) _ fun v H1 e r => k v H1 e r
theorem p_asgN {S : Hp → Addr → Prop} {i : Nat} (h : EvN te σ H S) (k : ∀ p H1, H p = none → Ex H H1 → S H1 p → D.nx (σ.set i (some (.ref p))) H1) : tAsg te (gName i) D σ H := h H (Ex.refl H) _ fun p H1 n e r => k p H1 n e r
theorem qp_asg {i : Nat} (h : EvP te σ H R) (k : ∀ v H1, Ex H H1 → R H1 v → tz D (σ.set i (some v)) H1) : tSeq (tAsg te (gName i)) tz D σ H := p_asg (D := { D with nx := tz D }) h k
theorem qp_asgN {S : Hp → Addr → Prop} {i : Nat} (h : EvN te σ H S) (k : ∀ p H1, H p = none → Ex H H1 → S H1 p → tz D (σ.set i (some (.ref p))) H1) : tSeq (tAsg te (gName i)) tz D σ H := p_asgN (D := { D with nx := tz D }) h k
theorem p_ret (h : EvP te σ H R) (k : RetP H R D.rt) : tRet te D σ H := h H (Ex.refl H) _ k
theorem p_retN {S : Hp → Addr → Prop} (h : EvN te σ H S) (k : RetN H S D.rt) : tRet te D σ H := h H (Ex.refl H) _ k
theorem p_put {α : Type} {S : α → HV} {m : AL α} {d : Addr} {k : Str} {x : α} {tv : TE} (hm : DcM S m H d) [∀ x, StayX (S x)] (hl : m.length < 10000) (hv : EvP tv σ H (S x)) (hd : EvP td σ H (Is (.ref d))) (hy : EvP ty σ H (Is (.str k)))
    (kk : ∀ kvs v H1, Ex H H1 → H1 d = some (.dK kvs) → PD S H1 kvs m → S x H1 v → D.nx σ (upd H1 d (.dK (putK kvs (.inr k) v)))) : sDPut td ty tv D σ H := by
  refine hv H (Ex.refl H) _ fun v H1 e1 rv => ?_
  refine hd H1 e1 _ fun b H2 e2 rb => ?_
  refine hy H2 (e1.trans e2) _ fun c H3 e3 rc => ?_
  cases (show b = _ from rb)
  cases (show c = _ from rc)
  obtain ⟨kvs, e, p⟩ := hm
  have e' := ((e1.trans e2).trans e3) d _ e
  refine ⟨d, _, rfl, DPut.k (k := .inr k) e' ?_, kk kvs v H3 ((e1.trans e2).trans e3) e' (p.map fun x v h => (inferInstance : StayX (S x)).ex _ _ _ ((e1.trans e2).trans e3) h) ((inferInstance : StayX (S x)).ex _ _ _ (e2.trans e3) rv)⟩
  have z : kvs.length < 10000 := by rw [p.len]; exact hl
  exact sz_lt (by omega)
end
end Tc
set_option Elab.async false
set_option linter.all false
set_option maxRecDepth 100000
set_option maxHeartbeats 4000000
set_option exponentiation.threshold 10000
namespace Tc
open PySem PySem.Spec PyProof.Rows L2 Evl
/-! ### locks, whether or not it is locked already -/
def Lk (u : HO) (u0 : HO) : Prop := (u0 = u ∧ Mut (some u)) ∨ ∃ o, u0 = .frz o u
def tLockR (t : TS) : TS := fun D σ H => ∃ d u u0, H d = some u0 ∧ Lk u u0 ∧ ∀ od, t ⟨fun σ' H' => H' d = some (.frz od u) ∧ D.nx σ' (upd H' d u0), fun v H' => H' d = some (.frz od u) ∧ D.rt v (upd H' d u0), fun σ' H' => H' d = some (.frz od u) ∧ D.bk σ' (upd H' d u0), fun σ' H' => H' d = some (.frz od u) ∧ D.ct σ' (upd H' d u0)⟩ σ (upd H d (.frz od u))
def tLockRE (t : TE) : TE := fun σ H Q => ∃ d u u0, H d = some u0 ∧ Lk u u0 ∧ ∀ od, t σ (upd H d (.frz od u)) fun v H' => H' d = some (.frz od u) ∧ Q v (upd H' d u0)
theorem upd_id {H : Hp} {d : Addr} {u : HO} (h : H d = some u) : upd H d u = H := by
  funext b
  unfold upd
  by_cases e : b = d
  · rw [if_pos e, e, h]
  · rw [if_neg e]
section
variable {X : Cx}
theorem ps_lockR {st : Stmt} {t : TS} (h : PS X st t) : PS X st (tLockR t) := by
  refine ⟨fun pins s σ H D I hw => ?_⟩
  obtain ⟨d, u, u0, hd, hk, hw⟩ := hw
  rcases hk with ⟨rfl, mu⟩ | ⟨o, rfl⟩
  · exact (ps_lock h).run pins s σ H D I ⟨d, u0, hd, mu, hw⟩
  · have hw1 := hw o
    rw [upd_id hd] at hw1
    refine thn (h.run pins s σ H _ I hw1) fun f s1 q => ?_
    cases f with
    | next => obtain ⟨σ', H', I2, e, q⟩ := q; rw [upd_id e] at q; exact ⟨σ', H', I2, q⟩
    | brk => obtain ⟨σ', H', I2, e, q⟩ := q; rw [upd_id e] at q; exact ⟨σ', H', I2, q⟩
    | cont => obtain ⟨σ', H', I2, e, q⟩ := q; rw [upd_id e] at q; exact ⟨σ', H', I2, q⟩
    | ret v => obtain ⟨x, σ', H', I2, r, e, q⟩ := q; rw [upd_id e] at q; exact ⟨x, σ', H', I2, r, q⟩
theorem pe_lockR {e : Expr} {t : TE} (h : PE X e t) : PE X e (tLockRE t) := by
  refine ⟨fun pins s σ H Q I hw => ?_⟩
  obtain ⟨d, u, u0, hd, hk, hw⟩ := hw
  rcases hk with ⟨rfl, mu⟩ | ⟨o, rfl⟩
  · exact (pe_lock h).run pins s σ H Q I ⟨d, u0, hd, mu, hw⟩
  · have hw1 := hw o
    rw [upd_id hd] at hw1
    refine thn (h.run pins s σ H _ I hw1) fun v s1 ⟨x, H', I2, r, e, q⟩ => ?_
    rw [upd_id e] at q
    exact ⟨x, H', I2, r, q⟩
end
theorem lk_of {H : Hp} {d : Addr} {kvs : List (Key × V)} (h : Rd H d (.dK kvs)) : ∃ u0, H d = some u0 ∧ Lk (.dK kvs) u0 := by
  rcases h with h | ⟨o, h⟩
  · exact ⟨_, h, .inl ⟨rfl, True.intro⟩⟩
  · exact ⟨_, h, .inr ⟨o, rfl⟩⟩
/-- the heap with d locked -/
abbrev lck (H : Hp) (d : Addr) (od : Obj) (u : HO) : Hp := upd H d (.frz od u)
theorem ex_lock {B H : Hp} {d : Addr} {x : HO} (e : Ex B H) : Ex (upd B d x) (upd H d x) := fun a o h => by
  by_cases z : a = d
  · rw [z, upd_same] at h ⊢; exact h
  · rw [upd_ne z] at h ⊢; exact e a o h
theorem ex_unlock {B H' : Hp} {d : Addr} {x u0 : HO} (e : Ex (upd B d x) H') (h : B d = some u0) : Ex B (upd H' d u0) := fun a o ha => by
  by_cases z : a = d
  · rw [z, h] at ha; rw [z, upd_same]; exact ha
  · rw [upd_ne z]; exact e a o (by rw [upd_ne z]; exact ha)
theorem rx_lock {B : Hp} {d : Addr} {od : Obj} {u u0 : HO} (h : B d = some u0) (k : Lk u u0) : Rx B (lck B d od u) := fun a w nf r => by
  unfold lck
  by_cases z : a = d
  · rw [z] at r ⊢
    rcases k with ⟨rfl, mu⟩ | ⟨o, rfl⟩
    · rcases r with r | ⟨o', r⟩
      · rw [h] at r; cases r; exact .inr ⟨od, upd_same⟩
      · rw [h] at r; cases r; exact mu.elim
    · rcases r with r | ⟨o', r⟩
      · rw [h] at r; cases r; exact nf.elim
      · rw [h] at r; cases r; exact .inr ⟨od, upd_same⟩
  · rcases r with r | ⟨o', r⟩
    · exact .inl (by rw [upd_ne z]; exact r)
    · exact .inr ⟨o', by rw [upd_ne z]; exact r⟩
theorem lk_nt {u u0 : HO} (k : Lk u u0) (h : ∀ xs, u ≠ .tup xs) : NT (some u0) := by
  rcases k with ⟨rfl, mu⟩ | ⟨o, rfl⟩
  · cases u0 <;> first | trivial | exact mu.elim
  · cases u <;> first | trivial | exact (h _ rfl)

/-! ### for loops -/
section
variable {K : PySem.W.Frag} {σ : L2.St} {B H H' : Hp} {tl td te : TE} {tu : TS} {g : TG} {D : Ends} {α : Type} {S : α → HV}
theorem tup2 {a b : V} {j1 j2 : Nat} {T : Addr} {Q : L2.St → Hp → Prop} (hT : SqT K H T [a, b]) (q : Q ((σ.set j1 (some a)).set j2 (some b)) H) : gTup K 2 (gCons (gName j1) (gCons (gName j2) gNil)) (.ref T) σ H Q :=
  ⟨T, [a, b], rfl, hT, rfl, a, [b], rfl, b, [], rfl, rfl, q⟩
theorem tup3 {a b c : V} {j1 j2 j3 : Nat} {T : Addr} {Q : L2.St → Hp → Prop} (hT : SqT K H T [a, b, c]) (q : Q (((σ.set j1 (some a)).set j2 (some b)).set j3 (some c)) H) : gTup K 3 (gCons (gName j1) (gCons (gName j2) (gCons (gName j3) gNil))) (.ref T) σ H Q :=
  ⟨T, [a, b, c], rfl, hT, rfl, a, [b, c], rfl, b, [c], rfl, c, [], rfl, rfl, q⟩
/-- over a list known to the base B -/
theorem p_forL {xs : List α} {v : V} (h : EvP tl σ H (Is v)) (hB : Ls K S xs B v) [∀ x, StayR (S x)] (Pv : Nat → L2.St → Hp → Prop) (e : Rx B H) (h0 : ∀ H1, Ex H H1 → Pv 0 σ H1) (hx : ∀ i σ' H', Pv i σ' H' → Rx B H')
    (hs : ∀ i x w σ' H', xs[i]? = some x → Pv i σ' H' → S x H' w → g w σ' H' fun σ2 H2 => tu { D with nx := Pv (i + 1), ct := Pv (i + 1), bk := D.nx } σ2 H2) (hd : ∀ σ' H', Pv xs.length σ' H' → D.nx σ' H') : tFor (iList K tl) g tu D σ H := by
  obtain ⟨a, vs, rfl, hl, hp⟩ := hB
  have hlen : vs.length = xs.length := Paired.length hp
  refine s_forL (a := a) (xs := vs) (ev_ep h) (sqL_rx e hl) Pv h0 (fun i σ' H' _ p => sqL_rx (hx i σ' H' p) hl) (fun i w σ' H' hw p => ?_) (fun σ' H' p => hd σ' H' (by rw [← hlen]; exact p))
  obtain ⟨x, ex, r⟩ := Paired.get0 hp hw
  exact hs i x w σ' H' ex p ((inferInstance : StayR (S x)).rx _ _ _ (hx i σ' H' p) r)
/-- by enumerate -/
theorem p_forEnum {xs : List α} {v : V} {j1 j2 : Nat} (h : EvP tl σ H (Is v)) (hB : Ls K S xs B v) [∀ x, StayR (S x)] (Pv : Nat → L2.St → Hp → Prop) (e : Rx B H) (h0 : ∀ H1, Ex H H1 → Pv 0 σ H1) (hx : ∀ i σ' H', Pv i σ' H' → Rx B H')
    (hst : ∀ i σ' H1 H2, Pv i σ' H1 → Ex H1 H2 → Pv i σ' H2)
    (hs : ∀ i x w σ' H', xs[i]? = some x → Pv i σ' H' → S x H' w → tu { D with nx := Pv (i + 1), ct := Pv (i + 1), bk := D.nx } ((σ'.set j1 (some (.int (i : Int)))).set j2 (some w)) H') (hd : ∀ σ' H', Pv xs.length σ' H' → D.nx σ' H') : tFor (iEnum K (tCons tl tNil)) (gTup K 2 (gCons (gName j1) (gCons (gName j2) gNil))) tu D σ H := by
  obtain ⟨a, vs, rfl, hl, hp⟩ := hB
  have hlen : vs.length = xs.length := Paired.length hp
  refine h H (Ex.refl H) _ fun v H1 e1 rv => ?_
  cases (show v = _ from rv)
  refine ⟨a, vs, rfl, sqL_rx (e.trans (rx_ex e1)) hl, for_it (walk_enum (K := K) (a := a) (xs := vs)) Pv (h0 H1 e1) (fun i σ' H' _ p => sqL_rx (hx i σ' H' p) hl) ?_ (fun σ' H' p => hd σ' H' (by rw [← hlen]; exact p))⟩
  intro i x σ' H2 H3 hi p y
  obtain ⟨T, x1, w, rfl, nT, rfl, f1, f2⟩ := y
  cases f1
  obtain ⟨z, ez, r⟩ := Paired.get0 hp f2
  have p3 := hst i σ' H2 _ p (Ex.new (p := T) (o := .tup [.int (i : Int), w]) nT)
  refine tup2 (SqT.of upd_same) ?_
  exact hs i z w σ' _ ez p3 ((inferInstance : StayR (S z)).rx _ _ _ (hx _ _ _ p3) r)
/-- the keys of a dict, locked -/
theorem p_forKeys {m : AL α} {d : Addr} {kvs : List (Key × V)} {j : Nat} (hd : ∀ od, EvP td σ (lck H d od (.dK kvs)) (Is (.ref d))) (hB : Rd B d (.dK kvs)) (hp : PD S B kvs m) (e : Ex B H)
    (Pv : Hp → Nat → L2.St → Hp → Prop) (h0 : ∀ od H1, Ex (lck H d od (.dK kvs)) H1 → Pv (lck B d od (.dK kvs)) 0 σ H1) (hx : ∀ BL i σ' H', Pv BL i σ' H' → Ex BL H')
    (hs : ∀ od i p σ' H' rt bk, m[i]? = some p → Pv (lck B d od (.dK kvs)) i σ' H' → tu { nx := Pv (lck B d od (.dK kvs)) (i + 1), rt := rt, ct := Pv (lck B d od (.dK kvs)) (i + 1), bk := bk } (σ'.set j (some (.str p.1))) H')
    (hn : ∀ od u0 σ' H', B d = some u0 → Pv (lck B d od (.dK kvs)) m.length σ' H' → D.nx σ' (upd H' d u0)) : tLockR (tFor (iKeys td) (gName j) tu) D σ H := by
  obtain ⟨u0, hu, hk⟩ := lk_of hB
  refine ⟨d, .dK kvs, u0, e d _ hu, hk, fun od => ?_⟩
  have hlen : kvs.length = m.length := hp.len
  refine hd od _ (Ex.refl _) _ fun v H1 e1 rv => ?_
  cases (show v = _ from rv)
  have hBL : (lck B d od (.dK kvs)) d = some (.frz od (.dK kvs)) := upd_same
  refine ⟨d, od, rfl, .inl ⟨kvs, e1 d _ upd_same, for_it (walk_keys (d := d) (o := od) (kvs := kvs)) (Pv (lck B d od (.dK kvs))) (h0 od H1 e1) (fun i σ' H' _ p => hx _ i σ' H' p d _ hBL) ?_ (fun σ' H' p => ⟨hx _ _ σ' H' p d _ hBL, hn od u0 σ' H' hu (by rw [← hlen]; exact p)⟩)⟩⟩
  intro i x σ' H2 H3 hi p y
  obtain ⟨rfl, k, w, ek, rfl⟩ := y
  obtain ⟨z, ez, rfl, r⟩ := hp.at i ek
  exact hs od i z σ' _ _ _ ez p
/-- the keys of a dict that is locked already -/
theorem p_forKeysL {m : AL α} {d : Addr} {od : Obj} {kvs : List (Key × V)} {j : Nat} (hd : EvP td σ H (Is (.ref d))) (hB : B d = some (.frz od (.dK kvs))) (hp : PD S B kvs m) (e : Ex B H)
    (Pv : Nat → L2.St → Hp → Prop) (h0 : ∀ H1, Ex H H1 → Pv 0 σ H1) (hx : ∀ i σ' H', Pv i σ' H' → Ex B H')
    (hs : ∀ i p σ' H', m[i]? = some p → Pv i σ' H' → tu { D with nx := Pv (i + 1), ct := Pv (i + 1), bk := D.nx } (σ'.set j (some (.str p.1))) H')
    (hn : ∀ σ' H', Pv m.length σ' H' → D.nx σ' H') : tFor (iKeys td) (gName j) tu D σ H := by
  have hlen : kvs.length = m.length := hp.len
  refine hd H (Ex.refl _) _ fun v H1 e1 rv => ?_
  cases (show v = _ from rv)
  refine ⟨d, od, rfl, .inl ⟨kvs, e1 d _ (e d _ hB), for_it (walk_keys (d := d) (o := od) (kvs := kvs)) Pv (h0 H1 e1) (fun i σ' H' _ p => hx i σ' H' p d _ hB) ?_ (fun σ' H' p => hn σ' H' (by rw [← hlen]; exact p))⟩⟩
  intro i x σ' H2 H3 hi p y
  obtain ⟨rfl, k, w, ek, rfl⟩ := y
  obtain ⟨z, ez, rfl, r⟩ := hp.at i ek
  exact hs i z σ' _ ez p
/-- the items of a dict, locked -/
theorem p_forItems {m : AL α} {d : Addr} {kvs : List (Key × V)} {j1 j2 : Nat} [∀ x, StayR (S x)] (hd : ∀ od, EvP td σ (lck H d od (.dK kvs)) (Is (.ref d))) (hB : Rd B d (.dK kvs)) (hp : PD S B kvs m) (e : Ex B H)
    (Pv : Hp → Nat → L2.St → Hp → Prop) (h0 : ∀ od H1, Ex (lck H d od (.dK kvs)) H1 → Pv (lck B d od (.dK kvs)) 0 σ H1) (hx : ∀ BL i σ' H', Pv BL i σ' H' → Ex BL H')
    (hst : ∀ BL i σ' H1 H2, Pv BL i σ' H1 → Ex H1 H2 → Pv BL i σ' H2)
    (hs : ∀ od i p w σ' H' rt bk, m[i]? = some p → Pv (lck B d od (.dK kvs)) i σ' H' → S p.2 H' w → tu { nx := Pv (lck B d od (.dK kvs)) (i + 1), rt := rt, ct := Pv (lck B d od (.dK kvs)) (i + 1), bk := bk } ((σ'.set j1 (some (.str p.1))).set j2 (some w)) H')
    (hn : ∀ od u0 σ' H', B d = some u0 → Pv (lck B d od (.dK kvs)) m.length σ' H' → D.nx σ' (upd H' d u0)) : tLockR (tFor (iItems td) (gTup K 2 (gCons (gName j1) (gCons (gName j2) gNil))) tu) D σ H := by
  obtain ⟨u0, hu, hk⟩ := lk_of hB
  refine ⟨d, .dK kvs, u0, e d _ hu, hk, fun od => ?_⟩
  have hlen : kvs.length = m.length := hp.len
  refine hd od _ (Ex.refl _) _ fun v H1 e1 rv => ?_
  cases (show v = _ from rv)
  have hBL : (lck B d od (.dK kvs)) d = some (.frz od (.dK kvs)) := upd_same
  refine ⟨d, od, kvs, rfl, e1 d _ upd_same, for_it (walk_items (d := d) (o := od) (kvs := kvs)) (Pv (lck B d od (.dK kvs))) (h0 od H1 e1) (fun i σ' H' _ p => hx _ i σ' H' p d _ hBL) ?_ (fun σ' H' p => ⟨hx _ _ σ' H' p d _ hBL, hn od u0 σ' H' hu (by rw [← hlen]; exact p)⟩)⟩
  intro i x σ' H2 H3 hi p y
  obtain ⟨T, x1, w, rfl, nT, rfl, f1, f2⟩ := y
  obtain ⟨⟨k, w2⟩, ek⟩ : ∃ kv, kvs[i]? = some kv := by
    cases z : kvs[i]? with
    | none => have g2 : (kvs[i]?).map Prod.snd = _ := f2; rw [z] at g2; cases g2
    | some kv => exact ⟨kv, rfl⟩
  have g1 : (kvs[i]?).map (fun kv => kV kv.1) = some x1 := f1
  have g2 : (kvs[i]?).map Prod.snd = some w := f2
  rw [ek] at g1 g2
  cases g1
  cases g2
  obtain ⟨z, ez, rfl, r⟩ := hp.at i ek
  have p3 := hst _ i σ' H2 _ p (Ex.new (p := T) (o := .tup [kV (.inr z.1), w2]) nT)
  refine tup2 (SqT.of upd_same) ?_
  exact hs od i z w2 σ' _ _ _ ez p3 ((inferInstance : StayR (S z.2)).rx _ _ _ ((rx_lock hu hk).trans (rx_ex (hx _ _ _ _ p3))) r)
end
/-! ### comprehensions -/
/-- what is walked, told: as many turns as there are things, each told by RI -/
def EvI {α : Type} (wi : TI) (σ : L2.St) (H : Hp) (as : List α) (RI : α → HV) : Prop := ∀ H1, Ex H H1 → ∀ Rr : It → Hp → Prop,
  (∀ J B, Ex H1 B → (∀ i H', i < as.length → Ex B H' → J.go i H') → (∀ H', Ex B H' → J.stop as.length H') → (∀ i H' x H'', i < as.length → Ex B H' → J.yld i H' x H'' → Ex H' H'' ∧ ∃ a, as[i]? = some a ∧ RI a H'' x) → Rr J B) → wi σ H1 Rr
section
variable {K : PySem.W.Frag} {σ : L2.St} {B H H' : Hp} {tl td te : TE} {α β : Type} {S : α → HV} {U : β → HV}
theorem EvI.mono {wi : TI} {as : List α} {RI : α → HV} (e : Ex H H') (h : EvI wi σ H as RI) : EvI wi σ H' as RI := fun H1 a Rr k => h H1 (e.trans a) Rr k
theorem ei_list {xs : List α} (h : EvP tl σ H (Ls K S xs)) [∀ x, StayR (S x)] : EvI (iList K tl) σ H xs S := fun H1 e Rr k => h H1 e _ fun v B eB r => by
  obtain ⟨a, vs, rfl, hl, hp⟩ := r
  have hlen : vs.length = xs.length := Paired.length hp
  have w := walk_list (K := K) (a := a) (xs := vs)
  refine ⟨a, rfl, ⟨vs, hl⟩, k _ B eB (fun i H' hi e' => w.goes i H' (by omega) (sqL_rx (rx_ex e') hl)) (fun H' e' => by rw [← hlen]; exact w.stops H' (sqL_rx (rx_ex e') hl)) fun i H' x H'' hi e' y => ?_⟩
  obtain ⟨rfl, ex⟩ := w.yields i H' x H'' (by omega) (sqL_rx (rx_ex e') hl) y
  obtain ⟨z, ez, r⟩ := Paired.get0 hp ex
  exact ⟨Ex.refl _, z, ez, (inferInstance : StayX (S z)).ex _ _ _ e' r⟩
theorem ei_range {ta : TA} {n : Nat} (h : EvAs ta σ H [Is (.int (n : Int))]) (hn : n ≤ 100000) : EvI (iRng1 ta) σ H (List.range n) (fun i => Is (.int (i : Int))) := fun H1 e Rr k => h H1 e _ fun vs B eB r => by
  obtain ⟨a, rfl, ra⟩ := r.one
  cases (show a = _ from ra)
  have w := walk_range (lo := 0) (n := n)
  refine ⟨(n : Int), rfl, by omega, by omega, ?_⟩
  show Rr (Itr 0 n) B
  refine k _ B eB (fun i H' hi e' => w.goes i H' (by simpa using hi) True.intro) (fun H' e' => by rw [List.length_range]; exact w.stops H' True.intro) fun i H' x H'' hi e' y => ?_
  obtain ⟨rfl, ex⟩ := w.yields i H' x H'' (by simpa using hi) True.intro y
  refine ⟨Ex.refl _, i, by rw [List.getElem?_range]; simpa using hi, ?_⟩
  have ex2 : x = V.int (0 + (i : Int)) := ex
  show x = V.int (i : Int)
  rw [ex2, Int.zero_add]
theorem ei_zip {ta : TA} {xs : List α} {ys : List β} (h : EvAs ta σ H [Ls K S xs, Ls K U ys]) [∀ x, StayR (S x)] [∀ x, StayR (U x)] : EvI (iZip K ta) σ H (xs.zip ys) (fun p => Tp K [S p.1, U p.2]) := fun H1 e Rr k => h H1 e _ fun vs B eB r => by
  obtain ⟨a, b, rfl, ra, rb⟩ := r.two
  obtain ⟨a, us, rfl, hl, hp⟩ := ra
  obtain ⟨b, ws, rfl, hl2, hp2⟩ := rb
  have l1 : us.length = xs.length := Paired.length hp
  have l2 : ws.length = ys.length := Paired.length hp2
  have w := walk_zip (K := K) (a := a) (b := b) (xs := us) (ys := ws) (n := (xs.zip ys).length) (by rw [List.length_zip, l1, l2])
  refine ⟨a, b, us, ws, rfl, hl, hl2, k _ B eB (fun i H' hi e' => w.goes i H' hi ⟨sqL_rx (rx_ex e') hl, sqL_rx (rx_ex e') hl2⟩) (fun H' e' => w.stops H' ⟨sqL_rx (rx_ex e') hl, sqL_rx (rx_ex e') hl2⟩) fun i H' x H'' hi e' y => ?_⟩
  obtain ⟨T, x1, x2, rfl, nT, rfl, f1, f2⟩ := w.yields i H' x H'' hi ⟨sqL_rx (rx_ex e') hl, sqL_rx (rx_ex e') hl2⟩ y
  obtain ⟨z, ez, r⟩ := Paired.get0 hp f1
  obtain ⟨z2, ez2, r2⟩ := Paired.get0 hp2 f2
  refine ⟨Ex.new nT, (z, z2), by rw [List.getElem?_zip_eq_some]; exact ⟨ez, ez2⟩, T, _, rfl, SqT.of upd_same, .cons ?_ (.cons ?_ .nil)⟩
  · exact (inferInstance : StayX (S z)).ex _ _ _ (e'.trans (Ex.new nT)) r
  · exact (inferInstance : StayX (U z2)).ex _ _ _ (e'.trans (Ex.new nT)) r2
theorem ei_keys {m : AL α} {d : Addr} {od : Obj} {kvs : List (Key × V)} (h : EvP td σ H (Is (.ref d))) (hd : H d = some (.frz od (.dK kvs))) (hp : PD S H kvs m) : EvI (iKeys td) σ H m (fun p => Is (.str p.1)) := fun H1 e Rr k => h H1 e _ fun v B eB r => by
  cases (show v = _ from r)
  have hlen : kvs.length = m.length := hp.len
  have w := walk_keys (d := d) (o := od) (kvs := kvs)
  have hB : B d = some (.frz od (.dK kvs)) := eB d _ (e d _ hd)
  refine ⟨d, od, rfl, .inl ⟨kvs, hB, k _ B eB (fun i H' hi e' => w.goes i H' (by omega) (e' d _ hB)) (fun H' e' => by rw [← hlen]; exact w.stops H' (e' d _ hB)) fun i H' x H'' hi e' y => ?_⟩⟩
  obtain ⟨rfl, kk, vv, ek, rfl⟩ := w.yields i H' x H'' (by omega) (e' d _ hB) y
  obtain ⟨z, ez, rfl, r⟩ := hp.at i ek
  exact ⟨Ex.refl _, z, ez, rfl⟩
theorem ei_items {m : AL α} {d : Addr} {od : Obj} {kvs : List (Key × V)} (h : EvP td σ H (Is (.ref d))) (hd : H d = some (.frz od (.dK kvs))) (hp : PD S H kvs m) [∀ x, StayX (S x)] : EvI (iItems td) σ H m (fun p => Tp K [Is (.str p.1), S p.2]) := fun H1 e Rr k => h H1 e _ fun v B eB r => by
  cases (show v = _ from r)
  have hlen : kvs.length = m.length := hp.len
  have w := walk_items (d := d) (o := od) (kvs := kvs)
  have hB : B d = some (.frz od (.dK kvs)) := eB d _ (e d _ hd)
  refine ⟨d, od, kvs, rfl, hB, k _ B eB (fun i H' hi e' => w.goes i H' (by omega) (e' d _ hB)) (fun H' e' => by rw [← hlen]; exact w.stops H' (e' d _ hB)) fun i H' x H'' hi e' y => ?_⟩
  obtain ⟨T, x1, x2, rfl, nT, rfl, f1, f2⟩ := w.yields i H' x H'' (by omega) (e' d _ hB) y
  obtain ⟨⟨k1, w2⟩, ek⟩ : ∃ kv, kvs[i]? = some kv := by
    cases z : kvs[i]? with
    | none => have g2 : (kvs[i]?).map Prod.snd = _ := f2; rw [z] at g2; cases g2
    | some kv => exact ⟨kv, rfl⟩
  have g1 : (kvs[i]?).map (fun kv => kV kv.1) = some x1 := f1
  have g2 : (kvs[i]?).map Prod.snd = some x2 := f2
  rw [ek] at g1 g2
  cases g1
  cases g2
  obtain ⟨z, ez, rfl, r⟩ := hp.at i ek
  exact ⟨Ex.new nT, z, ez, T, _, rfl, SqT.of upd_same, .cons rfl (.cons ((inferInstance : StayX (S z.2)).ex _ _ _ (((e.trans eB).trans e').trans (Ex.new nT)) r) .nil)⟩

theorem filter_take_succ {p : α → Bool} {as : List α} {i : Nat} {a : α} (h : as[i]? = some a) : (as.take (i + 1)).filter p = (as.take i).filter p ++ (if p a = true then [a] else []) := by
  rw [List.take_add_one, h, List.filter_append]
  simp [List.filter_cons]
/-- a comprehension: one new list -/
theorem en_lc {wi : TI} {g : TG} {tt : TT} {vs : List Nat} {as : List α} {RI : α → HV} {p : α → Bool} {f : α → β} (hi : EvI wi σ H as RI) (hn : as.length ≤ 40000) [∀ x, Stay (U x)]
    (hb : ∀ a x H', Ex H H' → a ∈ as → RI a H' x → ∃ σ2, (∀ Q : L2.St → Hp → Prop, Q σ2 H' → g x (wipe σ vs) H' Q) ∧ wipe σ2 vs = wipe σ vs ∧ EvT tt σ2 H' (p a) ∧ (p a = true → EvP te σ2 H' (U (f a)))) :
    EvN (tLc wi g tt te vs) σ H (LsM U ((as.filter p).map f)) := fun H1 e Q k => hi H1 e _ fun J B eB go stop yld Dl hD => by
  have hBD : Ex B (upd B Dl (.lst [])) := Ex.new hD
  let Pv : Nat → Hp → Prop := fun i H' => Ex B H' ∧ LsM U (((as.take i).filter p).map f) H' Dl
  refine ⟨fun i m H' => m = as.length - i ∧ i ≤ as.length ∧ Pv i H', ⟨as.length, by simp, Nat.zero_le _, hBD, [], upd_same, .nil⟩, ?_⟩
  rintro i m H' ⟨rfl, hi', e', hl⟩
  by_cases hlt : i < as.length
  · refine .inr ⟨go i H' hlt e', Pv (i + 1), fun H'' p' => ⟨as.length - (i + 1), by omega, rfl, hlt, p'⟩, fun x H'' y => ?_⟩
    obtain ⟨e2, a, ea, ra⟩ := yld i H' x H'' hlt e' y
    obtain ⟨σ2, hg, hw, ht, he⟩ := hb a x H'' ((e.trans eB).trans (e'.trans e2)) (List.mem_of_getElem? ea) ra
    refine hg _ ⟨hw, ?_⟩
    refine ht H'' (Ex.refl _) _ fun H3 e3 => ?_
    obtain ⟨ws, hws, hpw⟩ := hl
    have lw : ws.length ≤ 40000 := by
      rw [Paired.length hpw, List.length_map]
      have h1 := List.length_filter_le p (as.take i)
      rw [List.length_take] at h1
      omega
    cases hpa : p a with
    | false =>
      show Pv (i + 1) H3
      refine ⟨(e'.trans e2).trans e3, ws, (e2.trans e3) Dl _ hws, ?_⟩
      rw [filter_take_succ ea, hpa]
      simp only [Bool.false_eq_true, if_false, List.append_nil]
      exact L2.Paired.mapP hpw fun w b h => (inferInstance : StayX (U b)).ex _ _ _ (e2.trans e3) h
    | true =>
      show te σ2 H3 fun y H4 => ∃ acc, H4 Dl = some (.lst acc) ∧ acc.length < sizeLine ∧ Pv (i + 1) (upd H4 Dl (.lst (acc ++ [y])))
      refine he hpa H3 e3 _ fun y H4 e4 ry => ⟨ws, ((e2.trans e3).trans e4) Dl _ hws, sz_lt (by omega), Ex.mut (((e'.trans e2).trans e3).trans e4) hD, ws ++ [y], upd_same, ?_⟩
      rw [filter_take_succ ea, hpa]
      simp only [if_true, List.map_append, List.map_cons, List.map_nil]
      have nt : Kp H4 (upd H4 Dl (.lst (ws ++ [y]))) := kp_upd (by rw [((e2.trans e3).trans e4) Dl _ hws]; exact True.intro)
      exact Paired.snoc (L2.Paired.mapP hpw fun w b h => (inferInstance : Stay (U b)).kp _ _ _ ((kp_ex ((e2.trans e3).trans e4)).trans nt) h) ((inferInstance : Stay (U (f a))).kp _ _ _ nt ry)
  · have e5 : i = as.length := by omega
    subst e5
    refine .inl ⟨stop H' e', k Dl H' (fresh_back eB hD) (eB.trans e') ?_⟩
    rw [List.take_length] at hl
    exact hl
end
end Tc
set_option Elab.async false
set_option linter.all false
set_option maxRecDepth 100000
set_option maxHeartbeats 4000000
set_option exponentiation.threshold 10000
/-! comparisons that the layer has no rule for: lists of texts, dicts of fractions, a pair of a text and such a dict -/
namespace PySem.SeqAt
open AutoSeq1 (wpAny_loadPart')
open MeetsSeq MeetsSeq2 MeetsSeq3 SeqRoads2
section
variable {prog : Program} {w : World}
theorem tc_tuple_ne (p q : Addr) (us vs : Array Value) (n1 n2 : Nat) (d1 d2 : Option Addr) (s1 s2 : Array (Option Value)) (hz : us.size = vs.size) :
    MeetsIn prog w (Builtin.«tuple.__ne__» ⟨[.ref p, .ref q], []⟩)
      (fun A R s => s.heap.get? p = some { cls := .type "tuple", dict := d1, data := .seq us n1, slots := s1 } ∧ s.heap.get? q = some { cls := .type "tuple", dict := d2, data := .seq vs n2, slots := s2 } ∧
        (∀ j (a1 : j < us.size) (a2 : j < vs.size), EqP prog w A.in1 s us[j] vs[j] true) ∧ R (.ok (.ret (.bool false))) s) :=
  .of_wp fun A R s h => by
    obtain ⟨hp, g, d, tk, os⟩ := s
    obtain ⟨hl, hb, he, h⟩ := h
    have f2 := AutoSeq1.sub_tuple_tuple
    wp_walk using wpAny_loadPart' hl, wpAny_loadPart' hb, wpAny_forIn_list _ (fun rest b s' => b.1 = none ∧ s' = ⟨hp, g, d, tk, os⟩ ∧ ∃ i, rest = (us.toList.zip vs.toList).drop i) _
    case turn =>
      rintro ⟨y, x⟩ rest b s' ⟨hb', rfl, i, hz'⟩
      have hlt : i < (us.toList.zip vs.toList).length := by
        rcases Nat.lt_or_ge i (us.toList.zip vs.toList).length with h' | h'
        · exact h'
        · rw [List.drop_of_length_le h'] at hz'; cases hz'
      have hlen : (us.toList.zip vs.toList).length = us.size := by simp [hz]
      have a1 : i < us.size := by omega
      have a2 : i < vs.size := by omega
      rw [List.drop_eq_getElem_cons hlt] at hz'
      injection hz' with hyx hrest
      have hy : y = us[i] := by simpa using congrArg Prod.fst hyx
      have hx : x = vs[i] := by simpa using congrArg Prod.snd hyx
      subst hy hx
      refine wpAny_bind (he i a1 a2 _ _ ?_)
      wp_walk
      exact ⟨rfl, rfl, i + 1, hrest⟩
    case fin =>
      rintro ⟨b1, b2⟩ s' ⟨hb', rfl, i, hz'⟩
      simp only at hb'
      subst hb'
      wp_walk
      refine ⟨_, rfl, ?_⟩
      simpa [Builtin.Tuple.tupleCompareSizes, hz] using h
    case h =>
      exact ⟨rfl, rfl, 0, rfl⟩
theorem tc_tuples_ne {A : Around} {s : Shared} {p q : Addr} {us vs : Array Value} (hl : s.heap.IsTuple p us) (hb : s.heap.IsTuple q vs) (hz : us.size = vs.size) (hu : A.units < cLine)
    (he : ∀ j (a1 : j < us.size) (a2 : j < vs.size), EqP prog w A.in1 s us[j] vs[j] true) (E Q : Value → Shared → Prop) (h : Q (.bool false) s) : wpAny (model prog w) A (richCompare .NotEq (.ref p) (.ref q)) Q E s := by
  obtain ⟨⟨cls, dd, data, sl⟩, ho, hc, n, hd⟩ := id hl
  obtain ⟨⟨cls2, dd2, data2, sl2⟩, ho2, hc2, n2, hd2⟩ := id hb
  simp only at hc hd hc2 hd2
  subst hc hd hc2 hd2
  have ta : s.TypeIs (.ref p) "tuple" := ⟨_, ho, rfl⟩
  exact wpAny_richCompare_same_room (op := .NotEq) ta ⟨_, ho2, rfl⟩ F.slot_tuple_ne (call_meetsIn F.slot_tuple_ne ta F.entry_tuple_ne (F.args_tuple_ne_2 _ _) (tc_tuple_ne p q us vs n n2 dd dd2 sl sl2 hz)
    ⟨ho, ho2, he, ⟨(fun x => nomatch x), h⟩⟩) hu
end
end PySem.SeqAt
namespace Tc
open PySem PySem.Spec PyProof.Rows L2 Evl
def rNeE (K : PySem.W.Frag) : R2 := fun x y H Q => ∃ a b xs, x = .ref a ∧ y = .ref b ∧ SqL K H a xs ∧ SqL K H b [] ∧ Q (.bl (!xs.isEmpty)) H
def rNeS (K : PySem.W.Frag) : R2 := fun x y H Q => ∃ a b, ∃ ns : List Str, x = .ref a ∧ y = .ref b ∧ SqL K H a (ns.map V.str) ∧ SqL K H b (ns.map V.str) ∧ Q (.bl false) H
/-- two dicts of the same fractions -/
def SameD (K : PySem.W.Frag) (H : Hp) (a b : Addr) : Prop := ∃ ks ls, ∃ m m' : AL Rat, Rd H a (.dK ks) ∧ Rd H b (.dK ls) ∧ PD (Fr K) H ks m ∧ PD (Fr K) H ls m' ∧ m.length = m'.length ∧ ∀ p ∈ m, aget m' p.1 = some p.2
def rEqDF (K : PySem.W.Frag) : R2 := fun x y H Q => ∃ a b, x = .ref a ∧ y = .ref b ∧ SameD K H a b ∧ Q (.bl true) H
def rNeV (K : PySem.W.Frag) : R2 := fun x y H Q => ∃ p q s a b, x = .ref p ∧ y = .ref q ∧ SqT K H p [.str s, .ref a] ∧ SqT K H q [.str s, .ref b] ∧ SameD K H a b ∧ Q (.bl false) H
section
variable {X : Cx} {pins : List (Addr × Obj)} {σ : L2.St} {H : Hp} {s : Shared}
theorem op_neE (hu : X.A.units < cLine) : OpR X (compareOp .NotEq) (rNeE X.K) := by
  intro pins s σ H x y v u Q I rx ry h
  obtain ⟨a, b, xs, rfl, rfl, ha, hb, q⟩ := h
  cases (show v = Value.ref a from rx)
  cases (show u = Value.ref b from ry)
  obtain ⟨us, r1, p1, _⟩ := I.list ha
  obtain ⟨ws, r2, p2, _⟩ := I.list hb
  have hw : ws = [] := by cases r2; rfl
  subst hw
  have hl := r1.length
  by_cases he : us = []
  · subst he
    have hx : xs = [] := List.eq_nil_of_length_eq_zero (by simpa using hl)
    subst hx
    exact (SeqAt.RcNeAt.lists (e := fun _ => true) p1.isList p2.isList rfl hu (fun j h1 h2 => absurd h1 (by simp))) X.prog X.w _ _ ⟨.bl false, H, I, rfl, q⟩
  · have hx : xs ≠ [] := fun z => he (List.eq_nil_of_length_eq_zero (by rw [← hl, z]; rfl))
    have e1 : xs.isEmpty = false := by
      cases xs with
      | nil => exact absurd rfl hx
      | cons _ _ => rfl
    rw [e1] at q
    exact (SeqAt.RcNeAt.lists_lengths p1.isList p2.isList (by simpa using he) hu) X.prog X.w _ _ ⟨.bl true, H, I, rfl, q⟩
theorem op_neS (hu : X.A.units < cLine) : OpR X (compareOp .NotEq) (rNeS X.K) := by
  intro pins s σ H x y v u Q I rx ry h
  obtain ⟨a, b, ns, rfl, rfl, ha, hb, q⟩ := h
  cases (show v = Value.ref a from rx)
  cases (show u = Value.ref b from ry)
  obtain ⟨us, r1, p1, _⟩ := I.list ha
  obtain ⟨ws, r2, p2, _⟩ := I.list hb
  have l1 := r1.length
  have l2 := r2.length
  have g := SeqAt.RcNeAt.lists (A := X.A) (s := s) (e := fun _ => true) p1.isList p2.isList (by simpa using l1.symm.trans l2) hu (fun j h1 h2 => ?_)
  · rw [show ((List.range us.toArray.size).all fun _ => true) = true from List.all_eq_true.mpr fun _ _ => rfl] at g
    exact g X.prog X.w _ _ ⟨.bl false, H, I, rfl, q⟩
  · have j1 : j < us.length := by simpa using h1
    have j2 : j < ws.length := by simpa using h2
    have j3 : j < (ns.map V.str).length := by rw [l1]; exact j1
    obtain ⟨u1, e1, g1⟩ := r1.get (List.getElem?_eq_getElem j3)
    obtain ⟨u2, e2, g2⟩ := r2.get (List.getElem?_eq_getElem j3)
    rw [List.getElem?_eq_getElem j1] at e1
    rw [List.getElem?_eq_getElem j2] at e2
    cases e1
    cases e2
    have fl : flatB (ns.map V.str)[j] = true := by rw [List.getElem_map]; rfl
    have := eqAt_same (A := X.A.in1) (s := s) g1 g2 fl
    simpa using this
theorem eqP_fr {A : Around} (I : Inv X pins σ H s) {K : PySem.W.Frag} (hK : X.K = K) {q : Rat} {x y : V} {v u : Value} (hu : A.units + 4 < cLine) (hx : Fr K q H x) (hy : Fr K q H y) (rx : RelV x v) (ry : RelV y u) : SeqAt.EqP X.prog X.w A s v u true := by
  subst hK
  obtain ⟨as, r1⟩ := Dp.reads I _ x v (frD hx) rx
  obtain ⟨bs, r2⟩ := Dp.reads I _ y u (frD hy) ry
  have hc := SeqAt.canLay_of_shaped (shF q.num (q.den : Int))
  have g := SeqAt.eqAt_reads _ _ A s v u as bs r1 r2 hc hc (by simp [PyData.depth, PyData.depthAll]; omega)
  rw [eqvF, decide_eq_true rfl] at g
  exact g.eqP
theorem same_run (I : Inv X pins σ H s) {A : Around} (hu : A.units + 8 < cLine) {a b : Addr} (h : SameD X.K H a b) (E Q : Value → Shared → Prop) (q : Q (.bool true) s) : wpAny (model X.prog X.w) A (richCompare .Eq (.ref a) (.ref b)) Q E s := by
  obtain ⟨ks, ls, m, m', ra, rb, pa, pb, hl, hp⟩ := h
  obtain ⟨_, ya, va, rva, da⟩ := dk_rd I.hok ra
  obtain ⟨_, yb, vb, rvb, db⟩ := dk_rd I.hok rb
  refine PySem.W.rcP_dicts (knd := mixKind X.prog X.w) (r := true) ya yb da db (by omega) (fun _ => hits_run (F := fun x y => ∃ q, Fr X.K q H x ∧ Fr X.K q H y) (fun x y v u ⟨q, h1, h2⟩ r1 r2 => eqP_fr I rfl (by show A.units + 1 + 4 < cLine; omega) h1 h2 r1 r2) rvb rva fun kv hkv => ?_) E Q ?_
  · obtain ⟨i, hi⟩ := List.getElem?_of_mem hkv
    obtain ⟨k, v⟩ := kv
    obtain ⟨p, ep, rfl, hf⟩ := pa.at i hi
    obtain ⟨w, ew, hf2⟩ := pb.has (hp p (List.mem_of_getElem? ep))
    exact ⟨w, ew, p.2, hf, hf2⟩
  · have e : va.length = vb.length := by
      rw [← rva.length, ← rvb.length, pa.len, pb.len]
      exact hl
    rw [show (va.length == vb.length && true) = true by rw [e]; simp]
    exact q
theorem op_eqDF (hu : X.A.units + 64 < cLine) : OpR X (compareOp .Eq) (rEqDF X.K) := by
  intro pins s σ H x y v u Q I rx ry h
  obtain ⟨a, b, rfl, rfl, hs, q⟩ := h
  cases (show v = Value.ref a from rx)
  cases (show u = Value.ref b from ry)
  exact same_run I (by omega) hs _ _ ⟨.bl true, H, I, rfl, q⟩
theorem op_neV (hu : X.A.units + 64 < cLine) : OpR X (compareOp .NotEq) (rNeV X.K) := by
  intro pins s σ H x y v u Q I rx ry h
  obtain ⟨p, q, z, a, b, rfl, rfl, hp, hq, hs, k⟩ := h
  cases (show v = Value.ref p from rx)
  cases (show u = Value.ref q from ry)
  obtain ⟨us, r1, p1, _⟩ := I.tuple hp
  obtain ⟨ws, r2, p2, _⟩ := I.tuple hq
  obtain ⟨u1, u2, rfl, g1, g2⟩ := r1.two
  obtain ⟨w1, w2, rfl, k1, k2⟩ := r2.two
  cases (show u2 = Value.ref a from g2)
  cases (show w2 = Value.ref b from k2)
  refine SeqAt.tc_tuples_ne p1 p2 rfl (by omega) (fun j h1 h2 => ?_) _ _ ⟨.bl false, H, I, rfl, k⟩
  have hj : j = 0 ∨ j = 1 := by
    have : j < 2 := h1
    omega
  rcases hj with rfl | rfl
  · exact (eqAt_same g1 k1 rfl).eqP
  · show SeqAt.EqP X.prog X.w X.A.in1 s (.ref a) (.ref b) true
    by_cases e : a = b
    · subst e
      exact (SeqAt.EqAt.same _).eqP
    · exact SeqAt.eqP_refs e (fun E Q h => same_run I (by show X.A.units + 1 + 8 < cLine; omega) hs E Q h)
end
end Tc
set_option Elab.async false
set_option linter.all false
set_option maxRecDepth 100000
set_option maxHeartbeats 4000000
set_option exponentiation.threshold 10000
namespace Tc
open PySem PySem.Spec PyProof.Rows L2 Evl
/-! ### built-ins by rules of our own names -/
def rAbs : List V → Hp → VK → Prop := fun xs H Q => ∃ i, xs = [.int i] ∧ Q (.int (if i < 0 then -i else i)) H
def rIntB : List V → Hp → VK → Prop := fun xs H Q => ∃ k, xs = [.bl k] ∧ Q (.int (if k then 1 else 0)) H
def rKeysD : List V → Hp → VK → Prop := fun xs H Q => ∃ (a : Addr) (kvs : List (Key × V)), xs = [.ref a] ∧ Rd H a (.dK kvs) ∧ ∀ p, H p = none → Q (.ref p) (upd H p (.lst (kvs.map fun kv => kV kv.1)))
def rDictD : List V → Hp → VK → Prop := fun xs H Q => ∃ (a : Addr) (kvs : List (Key × V)), xs = [.ref a] ∧ Rd H a (.dK kvs) ∧ ∀ p, H p = none → Q (.ref p) (upd H p (.dK kvs))
def rSortedD : List V → Hp → VK → Prop := fun xs H Q => ∃ (a : Addr) (kvs : List (Key × V)) (ks : List Str), xs = [.ref a] ∧ Rd H a (.dK kvs) ∧ kvs.map (·.1) = ks.map Sum.inr ∧ ks.length < 64 ∧ ∀ ys p, ys.Perm ks → sortedS ys = true → H p = none → Q (.ref p) (upd H p (.lst (ys.map V.str)))
def rInsert : V → List V → Hp → VK → Prop := fun x vs H Q => ∃ (l : Addr) (xs : List V) (i : Int) (y : V), x = .ref l ∧ vs = [.int i, y] ∧ H l = some (.lst xs) ∧ xs.length < sizeLine ∧ 0 ≤ i ∧ i < 2 ^ 63 ∧ Q .non (upd H l (.lst (xs.take i.toNat ++ [y] ++ xs.drop i.toNat)))
def rJoin (K : PySem.W.Frag) : V → List V → Hp → VK → Prop := fun x xs H Q => ∃ a p, ∃ ys : List Str, x = .str a ∧ xs = [.ref p] ∧ (SqL K H p (ys.map V.str) ∨ SqT K H p (ys.map V.str)) ∧ (ys.map (·.length)).sum + ys.length * a.length ≤ 16777216 ∧ Q (.str (Txt.join a ys)) H
section
variable {X : Cx}
theorem call_absR : CallR X (.builtin "abs") rAbs := call_abs
theorem call_intR : CallR X (.type "int") rIntB := fun pins s σ H xs us Q I r h => call_int1 pins s σ H xs us Q I r (Or.inr h)
theorem call_lenR : CallR X (.builtin "len") (rLenS X.K) := call_len_seq
theorem call_listR : CallR X (.type "list") (rListS X.K) := call_list_of
theorem call_listDR (hc : X.calm = true) : CallR X (.type "list") rKeysD := call_listD hc
theorem call_dictDR : CallR X (.type "dict") rDictD := call_dictD
theorem call_sortedDR (hc : X.calm = true) : CallR X (.builtin "sorted") rSortedD := call_sortedD hc
theorem mt_insertR : MtR X "list.insert" rInsert := mt_insert
end
/-- the module's two kinds of fractions -/
structure Cst (K : PySem.W.Frag) : Prop where
  z1 : ∀ H, SqT K H (He.ga K "NOUGHT_solving") [.int 0, .int 1]
  z2 : ∀ H, SqT K H (He.ga K "NOUGHT_tables") [.int 0, .int 1]
  o2 : ∀ H, SqT K H (He.ga K "WHOLE_tables") [.int 1, .int 1]
  z3 : ∀ H, SqT K H (He.ga K "NOUGHT_longrun") [.int 0, .int 1]
  o3 : ∀ H, SqT K H (He.ga K "WHOLE_longrun") [.int 1, .int 1]
  z4 : ∀ H, SqT K H (He.ga K "NOUGHT_ages") [.int 0, .int 1]
section
variable {K : PySem.W.Frag} {σ : L2.St} {H : Hp}
theorem fr0 {a : Addr} (h : ∀ H, SqT K H a [.int 0, .int 1]) : Fr K 0 H (.ref a) := ⟨ok0, a, rfl, h H⟩
theorem fr1 {a : Addr} (h : ∀ H, SqT K H a [.int 1, .int 1]) : Fr K 1 H (.ref a) := ⟨ok1, a, rfl, h H⟩
theorem ep_zero {a : Addr} (h : ∀ H, SqT K H a [.int 0, .int 1]) : EvP (tC (.ref a)) σ H (Fr K 0) := ep_c (fr0 h)
theorem ep_one {a : Addr} (h : ∀ H, SqT K H a [.int 1, .int 1]) : EvP (tC (.ref a)) σ H (Fr K 1) := ep_c (fr1 h)
end

/-! ### promises: fractions -/
def sp_divisor (K : PySem.W.Frag) : Sp := fun vs H Q _ => ∃ a b : Int, vs = [.int a, .int b] ∧ 0 ≤ b ∧ RetP H (Is (.int (Int.gcd a b : Nat))) Q
def sp_lowest (K : PySem.W.Frag) : Sp := fun vs H Q _ => ∃ a b : Int, vs = [.int a, .int b] ∧ 0 < b ∧ b.natAbs < 2 ^ 8000 ∧ Ok (Rat.divInt a b) ∧ RetP H (Fr K (Rat.divInt a b)) Q
def sp_plus (K : PySem.W.Frag) : Sp := fun vs H Q _ => ∃ p q v w, vs = [v, w] ∧ Fr K p H v ∧ Fr K q H w ∧ Ok (p + q) ∧ RetP H (Fr K (p + q)) Q
def sp_minus (K : PySem.W.Frag) : Sp := fun vs H Q _ => ∃ p q v w, vs = [v, w] ∧ Fr K p H v ∧ Fr K q H w ∧ Ok (p - q) ∧ RetP H (Fr K (p - q)) Q
/-- a fraction that need not be in lowest terms -/
def Fq (K : PySem.W.Frag) (q : Rat) : HV := fun H v => ∃ (n : Int) (d : Nat), 0 < d ∧ n.natAbs < 2 ^ 2000 ∧ d < 2 ^ 2000 ∧ Rat.divInt n (d : Int) = q ∧ Tp K [Is (.int n), Is (.int (d : Int))] H v
theorem Fr.q {K : PySem.W.Frag} {q : Rat} {H : Hp} {v : V} (h : Fr K q H v) : Fq K q H v := ⟨q.num, q.den, q.den_pos, h.ok.1, h.ok.2, Rat.num_divInt_den q, h.tp⟩
def sp_times (K : PySem.W.Frag) : Sp := fun vs H Q _ => ∃ p q v w, vs = [v, w] ∧ Fr K p H v ∧ Fq K q H w ∧ Ok (p * q) ∧ RetP H (Fr K (p * q)) Q
def sp_over (K : PySem.W.Frag) : Sp := fun vs H Q _ => ∃ p q v w, vs = [v, w] ∧ Fr K p H v ∧ Fr K q H w ∧ 0 < q ∧ Ok (p / q) ∧ RetP H (Fr K (p / q)) Q
def sp_under (K : PySem.W.Frag) : Sp := fun vs H Q _ => ∃ p q v w, vs = [v, w] ∧ Fr K p H v ∧ Fr K q H w ∧ RetP H (Is (.bl (decide (p < q)))) Q
def fsum (qs : List Rat) : Rat := qs.foldl (fun a b => a + b) 0
def sp_sum_of (K : PySem.W.Frag) : Sp := fun vs H Q _ => ∃ qs v, vs = [v] ∧ Ls K (Fr K) qs H v ∧ (∀ i, Ok (fsum (qs.take i))) ∧ RetP H (Fr K (fsum qs)) Q
abbrev sp_law_divisor := sp_divisor
abbrev sp_law_lowest := sp_lowest
abbrev sp_law_plus := sp_plus
abbrev sp_law_times := sp_times
abbrev sp_law_under := sp_under
section
variable {K : PySem.W.Frag} {σ : L2.St} {H : Hp} {ta tb : TE} {p q : Rat} {E : XK}
theorem ep_plus (ha : EvP ta σ H (Fr K p)) (hb : EvP tb σ H (Fr K q)) (o : Ok (p + q)) : EvP (tCall (sp_plus K) [] E (tCons ta (tCons tb tNil))) σ H (Fr K (p + q)) :=
  ep_call (eas_cons ha (eas_cons hb eas_nil)) fun H1 vs e r Q k => by
    obtain ⟨a, b, ev, ra, rb⟩ := r.two
    exact ⟨p, q, a, b, ev, ra, rb, o, k⟩
theorem ep_minus (ha : EvP ta σ H (Fr K p)) (hb : EvP tb σ H (Fr K q)) (o : Ok (p - q)) : EvP (tCall (sp_minus K) [] E (tCons ta (tCons tb tNil))) σ H (Fr K (p - q)) :=
  ep_call (eas_cons ha (eas_cons hb eas_nil)) fun H1 vs e r Q k => by
    obtain ⟨a, b, ev, ra, rb⟩ := r.two
    exact ⟨p, q, a, b, ev, ra, rb, o, k⟩
theorem ep_times (ha : EvP ta σ H (Fr K p)) (hb : EvP tb σ H (Fr K q)) (o : Ok (p * q)) : EvP (tCall (sp_times K) [] E (tCons ta (tCons tb tNil))) σ H (Fr K (p * q)) :=
  ep_call (eas_cons ha (eas_cons hb eas_nil)) fun H1 vs e r Q k => by
    obtain ⟨a, b, ev, ra, rb⟩ := r.two
    exact ⟨p, q, a, b, ev, ra, rb.q, o, k⟩
theorem ep_timesQ {n : Int} {d : Nat} (ha : EvP ta σ H (Fr K p)) (hb : EvP tb σ H (Tp K [Is (.int n), Is (.int (d : Int))])) (hd : 0 < d) (h1 : n.natAbs < 2 ^ 2000) (h2 : d < 2 ^ 2000) (o : Ok (p * Rat.divInt n (d : Int))) : EvP (tCall (sp_times K) [] E (tCons ta (tCons tb tNil))) σ H (Fr K (p * Rat.divInt n (d : Int))) :=
  ep_call (eas_cons ha (eas_cons hb eas_nil)) fun H1 vs e r Q k => by
    obtain ⟨a, b, ev, ra, rb⟩ := r.two
    exact ⟨p, Rat.divInt n (d : Int), a, b, ev, ra, ⟨n, d, hd, h1, h2, rfl, rb⟩, o, k⟩
theorem ep_over (ha : EvP ta σ H (Fr K p)) (hb : EvP tb σ H (Fr K q)) (hq : 0 < q) (o : Ok (p / q)) : EvP (tCall (sp_over K) [] E (tCons ta (tCons tb tNil))) σ H (Fr K (p / q)) :=
  ep_call (eas_cons ha (eas_cons hb eas_nil)) fun H1 vs e r Q k => by
    obtain ⟨a, b, ev, ra, rb⟩ := r.two
    exact ⟨p, q, a, b, ev, ra, rb, hq, o, k⟩
theorem ep_under (ha : EvP ta σ H (Fr K p)) (hb : EvP tb σ H (Fr K q)) : EvP (tCall (sp_under K) [] E (tCons ta (tCons tb tNil))) σ H (Is (.bl (decide (p < q)))) :=
  ep_call (eas_cons ha (eas_cons hb eas_nil)) fun H1 vs e r Q k => by
    obtain ⟨a, b, ev, ra, rb⟩ := r.two
    exact ⟨p, q, a, b, ev, ra, rb, k⟩
theorem ep_lowest {a b : Int} (ha : EvP ta σ H (Is (.int a))) (hb : EvP tb σ H (Is (.int b))) (h0 : 0 < b) (hb2 : b.natAbs < 2 ^ 8000) (e : Rat.divInt a b = q) (o : Ok q) : EvP (tCall (sp_lowest K) [] E (tCons ta (tCons tb tNil))) σ H (Fr K q) := by
  subst e
  exact ep_call (eas_cons ha (eas_cons hb eas_nil)) fun H1 vs e r Q k => by
    obtain ⟨x, y, ev, ra, rb⟩ := r.two
    cases (show x = _ from ra)
    cases (show y = _ from rb)
    exact ⟨a, b, ev, h0, hb2, o, k⟩
end
end Tc
set_option Elab.async false
set_option linter.all false
set_option maxRecDepth 100000
namespace Tc
open PySem PySem.Spec PyProof.Rows L2 Evl
def t_divisor (K : PySem.W.Frag) : TS :=
  (tSeq (tWhile (tTest (tOp rNe (tVar 1) (tC (.int 0)))) (tPar 0 1 (tCons (tVar 1) (tCons (tOp rModI (tVar 0) (tVar 1)) tNil))))
    (tRet (tCB rAbs (tCons (tVar 0) tNil))))
def t_lowest (K : PySem.W.Frag) : TS :=
  (tSeq (tAsg (tCall (sp_divisor K) [] E0 (tCons (tVar 0) (tCons (tVar 1) tNil))) (gName 2))
    (tSeq (tIfS (tTest (tOp rLtI (tVar 1) (tC (.int 0)))) (tAsg (tOp rSubI (tC (.int 0)) (tVar 2)) (gName 2)) tNext)
    (tRet (tTup (tCons (tOp rDivI (tVar 0) (tVar 2)) (tCons (tOp rDivI (tVar 1) (tVar 2)) tNil))))))
def t_plus (K : PySem.W.Frag) : TS :=
  (tRet (tCall (sp_lowest K) [] E0 (tCons (tOp rPlusI (tOp rMulI (tOp (rIxT K) (tVar 0) (tC (.int 0))) (tOp (rIxT K) (tVar 1) (tC (.int 1)))) (tOp rMulI (tOp (rIxT K) (tVar 1) (tC (.int 0))) (tOp (rIxT K) (tVar 0) (tC (.int 1))))) (tCons (tOp rMulI (tOp (rIxT K) (tVar 0) (tC (.int 1))) (tOp (rIxT K) (tVar 1) (tC (.int 1)))) tNil))))
def t_minus (K : PySem.W.Frag) : TS :=
  (tRet (tCall (sp_lowest K) [] E0 (tCons (tOp rSubI (tOp rMulI (tOp (rIxT K) (tVar 0) (tC (.int 0))) (tOp (rIxT K) (tVar 1) (tC (.int 1)))) (tOp rMulI (tOp (rIxT K) (tVar 1) (tC (.int 0))) (tOp (rIxT K) (tVar 0) (tC (.int 1))))) (tCons (tOp rMulI (tOp (rIxT K) (tVar 0) (tC (.int 1))) (tOp (rIxT K) (tVar 1) (tC (.int 1)))) tNil))))
def t_times (K : PySem.W.Frag) : TS :=
  (tRet (tCall (sp_lowest K) [] E0 (tCons (tOp rMulI (tOp (rIxT K) (tVar 0) (tC (.int 0))) (tOp (rIxT K) (tVar 1) (tC (.int 0)))) (tCons (tOp rMulI (tOp (rIxT K) (tVar 0) (tC (.int 1))) (tOp (rIxT K) (tVar 1) (tC (.int 1)))) tNil))))
def t_over (K : PySem.W.Frag) : TS :=
  (tSeq (tIfS (tTest (tOp rEq (tOp (rIxT K) (tVar 1) (tC (.int 0))) (tC (.int 0)))) tNever tNext)
    (tRet (tCall (sp_lowest K) [] E0 (tCons (tOp rMulI (tOp (rIxT K) (tVar 0) (tC (.int 0))) (tOp (rIxT K) (tVar 1) (tC (.int 1)))) (tCons (tOp rMulI (tOp (rIxT K) (tVar 0) (tC (.int 1))) (tOp (rIxT K) (tVar 1) (tC (.int 0)))) tNil)))))
def t_under (K : PySem.W.Frag) : TS :=
  (tRet (tOp rLtI (tOp rMulI (tOp (rIxT K) (tVar 0) (tC (.int 0))) (tOp (rIxT K) (tVar 1) (tC (.int 1)))) (tOp rMulI (tOp (rIxT K) (tVar 1) (tC (.int 0))) (tOp (rIxT K) (tVar 0) (tC (.int 1))))))
def t_sum_of (K : PySem.W.Frag) : TS :=
  (tSeq (tAsg (tTup (tCons (tC (.int 0)) (tCons (tC (.int 1)) tNil))) (gName 1))
    (tSeq (tFor (iList K (tVar 0)) (gName 2) (tAsg (tCall (sp_plus K) [] E0 (tCons (tVar 1) (tCons (tVar 2) tNil))) (gName 1)))
    (tRet (tVar 1))))
def t_law_divisor (K : PySem.W.Frag) : TS :=
  (tSeq (tWhile (tTest (tOp rNe (tVar 1) (tC (.int 0)))) (tPar 0 1 (tCons (tVar 1) (tCons (tOp rModI (tVar 0) (tVar 1)) tNil))))
    (tRet (tCB rAbs (tCons (tVar 0) tNil))))
def t_law_lowest (K : PySem.W.Frag) : TS :=
  (tSeq (tAsg (tCall (sp_law_divisor K) [] E0 (tCons (tVar 0) (tCons (tVar 1) tNil))) (gName 2))
    (tRet (tTup (tCons (tOp rDivI (tVar 0) (tVar 2)) (tCons (tOp rDivI (tVar 1) (tVar 2)) tNil)))))
def t_law_plus (K : PySem.W.Frag) : TS :=
  (tRet (tCall (sp_law_lowest K) [] E0 (tCons (tOp rPlusI (tOp rMulI (tOp (rIxT K) (tVar 0) (tC (.int 0))) (tOp (rIxT K) (tVar 1) (tC (.int 1)))) (tOp rMulI (tOp (rIxT K) (tVar 1) (tC (.int 0))) (tOp (rIxT K) (tVar 0) (tC (.int 1))))) (tCons (tOp rMulI (tOp (rIxT K) (tVar 0) (tC (.int 1))) (tOp (rIxT K) (tVar 1) (tC (.int 1)))) tNil))))
def t_law_times (K : PySem.W.Frag) : TS :=
  (tRet (tCall (sp_law_lowest K) [] E0 (tCons (tOp rMulI (tOp (rIxT K) (tVar 0) (tC (.int 0))) (tOp (rIxT K) (tVar 1) (tC (.int 0)))) (tCons (tOp rMulI (tOp (rIxT K) (tVar 0) (tC (.int 1))) (tOp (rIxT K) (tVar 1) (tC (.int 1)))) tNil))))
def t_law_under (K : PySem.W.Frag) : TS :=
  (tRet (tOp rLtI (tOp rMulI (tOp (rIxT K) (tVar 0) (tC (.int 0))) (tOp (rIxT K) (tVar 1) (tC (.int 1)))) (tOp rMulI (tOp (rIxT K) (tVar 1) (tC (.int 0))) (tOp (rIxT K) (tVar 0) (tC (.int 1))))))
end Tc
set_option Elab.async false
set_option linter.all false
set_option maxRecDepth 100000
set_option maxHeartbeats 4000000
set_option exponentiation.threshold 10000
namespace Tc
open PySem PySem.Spec PyProof.Rows L2 Evl
/-! readings: fractions -/
/-- a body's ends -/
abbrev BE (Q : VK) : Ends := { nx := fun _ H' => Q .non H', rt := Q }
theorem gcd_step (x y : Int) : Int.gcd y (x % y) = Int.gcd x y := by
  have h : Int.gcd y (x % y + y * (x / y)) = Int.gcd y (x % y) := Int.gcd_add_mul_left_right _ _ _
  rw [Int.emod_add_mul_ediv] at h
  rw [← h, Int.gcd_comm]
section
variable {K : PySem.W.Frag}
theorem len_divisor (K : PySem.W.Frag) : ∀ vs H Q E, sp_divisor K vs H Q E → vs.length = 2 := by
  rintro vs H Q E ⟨a, b, rfl, _⟩
  rfl
theorem rd_divisor (C : Cst K) (vs : List V) (H : Hp) (Q : VK) (E : XK) (h : sp_divisor K vs H Q E) : t_divisor K (BE Q) (start ["one", "other"] vs) H := by
  obtain ⟨a, b, rfl, hb, k⟩ := h
  refine q_while (fun m σ H' => ∃ x y : Int, σ = [some (.int x), some (.int y)] ∧ 0 ≤ y ∧ m = y.toNat ∧ Int.gcd x y = Int.gcd a b ∧ Ex H H') b.toNat ⟨a, b, rfl, hb, rfl, rfl, Ex.refl _⟩ ?_
  rintro m σ H1 ⟨x, y, rfl, hy, rfl, hg, e1⟩
  refine ⟨!decide (y = 0), et_t (ep_neI (ep_var rfl rfl) ep_i), fun hb H2 e2 => ?_, fun hb H2 e2 => ?_⟩
  · have hy0 : y ≠ 0 := by simpa using hb
    have hp : 0 < y := by omega
    refine ⟨fun σ' H' => ∃ m', m' < y.toNat ∧ ∃ x' y' : Int, σ' = [some (.int x'), some (.int y')] ∧ 0 ≤ y' ∧ m' = y'.toNat ∧ Int.gcd x' y' = Int.gcd a b ∧ Ex H H', fun _ _ h => h, ?_⟩
    refine (eas_cons (ep_var (R := Is (.int y)) rfl rfl) (eas_cons (ep_modI (ep_var rfl rfl) (ep_var rfl rfl) hp) eas_nil)) H2 (Ex.refl _) _ fun vs H3 e3 r => ?_
    obtain ⟨v, w, rfl, rv, rw'⟩ := r.two
    cases (show v = _ from rv)
    cases (show w = _ from rw')
    refine ⟨_, _, rfl, ?_⟩
    have h1 := Int.emod_nonneg x hy0
    have h2 := Int.emod_lt_of_pos x hp
    exact ⟨(x % y).toNat, by omega, y, x % y, rfl, h1, rfl, by rw [gcd_step, hg], (e1.trans e2).trans e3⟩
  · have hy0 : y = 0 := by simpa using hb
    subst hy0
    refine p_ret (R := Is (.int (Int.gcd a b : Nat))) (ep_cb (eas_cons (ep_var (R := Is (.int x)) rfl rfl) eas_nil) fun H3 vs e3 r Q' k' => ?_) fun v H3 e3 r => k v H3 ((e1.trans e2).trans e3) r
    obtain ⟨v, rfl, rv⟩ := r.one
    cases (show v = _ from rv)
    refine ⟨x, rfl, k' _ _ (Ex.refl _) ?_⟩
    have hgx : (Int.gcd a b : Nat) = x.natAbs := by rw [← hg, Int.gcd_zero_right]
    show V.int _ = V.int _
    rw [hgx]
    congr 1
    split <;> omega
abbrev rd_law_divisor := @rd_divisor
theorem len_lowest (K : PySem.W.Frag) : ∀ vs H Q E, sp_lowest K vs H Q E → vs.length = 2 := by
  rintro vs H Q E ⟨a, b, rfl, _⟩
  rfl
theorem gcd_bits {a b : Int} (hb : 0 < b) (h : b.natAbs < 2 ^ 8000) : CDivW a ((Int.gcd a b : Nat) : Int) ∧ CDivW b ((Int.gcd a b : Nat) : Int) := by
  have hp : 0 < Int.gcd a b := Int.gcd_pos_of_ne_zero_right a (by omega)
  have hl : Int.gcd a b ≤ b.natAbs := Int.gcd_le_natAbs_right a (by omega)
  have h1 : (((Int.gcd a b : Nat) : Int)).natAbs < 2 ^ 8000 := by
    rw [Int.natAbs_natCast]
    exact Nat.lt_of_le_of_lt hl h
  exact ⟨wide_div (by omega) h1 (by decide) (by decide), wide_div (by omega) h1 (by decide) (by decide)⟩
theorem low_num {a b : Int} (hb : 0 < b) : (Rat.divInt a b).num = a / ((Int.gcd a b : Nat) : Int) := by
  rw [Rat.num_divInt, Int.sign_eq_one_of_pos hb, Int.one_mul, Int.gcd_comm]
theorem low_den {a b : Int} (hb : 0 < b) : (((Rat.divInt a b).den : Nat) : Int) = b / ((Int.gcd a b : Nat) : Int) := by
  rw [Rat.den_divInt, if_neg (by omega), Int.gcd_comm]
  have e : b = ((b.natAbs : Nat) : Int) := by omega
  rw [e, Int.natAbs_natCast]
  exact Int.natCast_ediv _ _
theorem rd_low_end {a b : Int} (hb : 0 < b) (h8 : b.natAbs < 2 ^ 8000) (o : Ok (Rat.divInt a b)) {σ : L2.St} {H : Hp} {i j k : Nat} (h0 : σ[i]? = some (some (.int a))) (h1 : σ[j]? = some (some (.int b))) (h2 : σ[k]? = some (some (.int ((Int.gcd a b : Nat) : Int)))) :
    EvP (tTup (tCons (tOp rDivI (tVar i) (tVar k)) (tCons (tOp rDivI (tVar j) (tVar k)) tNil))) σ H (Fr K (Rat.divInt a b)) := by
  have h := eas_cons (ep_divI (ep_var h0 is_rfl) (ep_var h2 is_rfl) (gcd_bits (a := a) hb h8).1) (eas_cons (ep_divI (H := H) (ep_var h1 is_rfl) (ep_var h2 is_rfl) (gcd_bits (a := a) hb h8).2) eas_nil)
  rw [← low_den hb] at h
  exact ep_frac h o (low_num hb) rfl
theorem ep_div {ta tb : TE} {σ : L2.St} {H : Hp} {a b : Int} {E : XK} (ha : EvP ta σ H (Is (.int a))) (hb : EvP tb σ H (Is (.int b))) (h0 : 0 ≤ b) : EvP (tCall (sp_divisor K) [] E (tCons ta (tCons tb tNil))) σ H (Is (.int ((Int.gcd a b : Nat) : Int))) :=
  ep_call (eas_cons ha (eas_cons hb eas_nil)) fun H1 vs e r Q k => by
    obtain ⟨x, y, ev, ra, rb⟩ := r.two
    cases (show x = _ from ra)
    cases (show y = _ from rb)
    exact ⟨a, b, ev, h0, k⟩
theorem rd_lowest (C : Cst K) (vs : List V) (H : Hp) (Q : VK) (E : XK) (h : sp_lowest K vs H Q E) : t_lowest K (BE Q) (start ["top", "bottom", "by"] vs) H := by
  obtain ⟨a, b, rfl, hb, h8, o, k⟩ := h
  refine qp_asg (ep_div (ep_var rfl is_rfl) (ep_var rfl is_rfl) (by omega)) fun v H1 e1 r => ?_
  cases (show v = _ from r)
  refine q_when (et_t (ep_ltI (ep_var rfl is_rfl) ep_i)) (fun hc => ?_) fun _ H2 e2 => ?_
  · have := of_decide_eq_true hc; omega
  · exact p_ret (rd_low_end hb h8 o (i := 0) (j := 1) (k := 2) rfl rfl rfl) fun v H3 e3 r => k v H3 ((e1.trans e2).trans e3) r
theorem rd_law_lowest (C : Cst K) (vs : List V) (H : Hp) (Q : VK) (E : XK) (h : sp_lowest K vs H Q E) : t_law_lowest K (BE Q) (start ["_law_top", "_law_bottom", "_law_share"] vs) H := by
  obtain ⟨a, b, rfl, hb, h8, o, k⟩ := h
  refine qp_asg (ep_div (ep_var rfl is_rfl) (ep_var rfl is_rfl) (by omega)) fun v H1 e1 r => ?_
  cases (show v = _ from r)
  exact p_ret (rd_low_end hb h8 o (i := 0) (j := 1) (k := 2) rfl rfl rfl) fun v H3 e3 r => k v H3 (e1.trans e3) r
/-! sums and products -/
theorem ok_num {q : Rat} (o : Ok q) : q.num.natAbs < 2 ^ 2000 := o.1
theorem ok_den {q : Rat} (o : Ok q) : ((q.den : Int)).natAbs < 2 ^ 2000 := by rw [Int.natAbs_natCast]; exact o.2
theorem mulW {i j : Int} (ha : i.natAbs < 2 ^ 2000) (hb : j.natAbs < 2 ^ 2000) : CMulW i j := wide_mul ha hb (by decide) (by decide) (by decide)
theorem den_lt {p q : Rat} (op : Ok p) (oq : Ok q) : ((p.den : Int) * (q.den : Int)).natAbs < 2 ^ 8000 :=
  Nat.lt_of_lt_of_le (wide_lt (ok_den op) (ok_den oq)) (Nat.pow_le_pow_right (by decide) (by decide))
theorem den_pos' (p : Rat) : (0 : Int) < (p.den : Int) := by have := p.den_pos; omega
theorem den_mul_pos (p q : Rat) : (0 : Int) < (p.den : Int) * (q.den : Int) := Int.mul_pos (den_pos' p) (den_pos' q)
theorem add_div (p q : Rat) : Rat.divInt (p.num * (q.den : Int) + q.num * (p.den : Int)) ((p.den : Int) * (q.den : Int)) = p + q := by
  rw [← Rat.divInt_add_divInt p.num q.num (Int.ne_of_gt (den_pos' p)) (Int.ne_of_gt (den_pos' q)), Rat.num_divInt_den, Rat.num_divInt_den]
theorem sub_div (p q : Rat) : Rat.divInt (p.num * (q.den : Int) - q.num * (p.den : Int)) ((p.den : Int) * (q.den : Int)) = p - q := by
  rw [← Rat.divInt_sub_divInt p.num q.num (Int.ne_of_gt (den_pos' p)) (Int.ne_of_gt (den_pos' q)), Rat.num_divInt_den, Rat.num_divInt_den]
theorem mul_div (p q : Rat) : Rat.divInt (p.num * q.num) ((p.den : Int) * (q.den : Int)) = p * q := by
  rw [← Rat.divInt_mul_divInt, Rat.num_divInt_den, Rat.num_divInt_den]
theorem div_div' {p q : Rat} (hq : 0 < q) : Rat.divInt (p.num * (q.den : Int)) ((p.den : Int) * q.num) = p / q := by
  rw [Rat.div_def, Rat.inv_def, ← Rat.divInt_mul_divInt, Rat.num_divInt_den]
theorem num_pos {q : Rat} (hq : 0 < q) : 0 < q.num := by
  have h := (Rat.lt_iff 0 q).mp hq
  simp only [Rat.num_ofNat, Int.zero_mul, Rat.den_ofNat] at h
  simpa using h
theorem len2 {α : Type} {P : V → V → Prop} : True := trivial
theorem len_plus (K : PySem.W.Frag) : ∀ vs H Q E, sp_plus K vs H Q E → vs.length = 2 := by
  rintro vs H Q E ⟨p, q, v, w, rfl, _⟩; rfl
theorem len_minus (K : PySem.W.Frag) : ∀ vs H Q E, sp_minus K vs H Q E → vs.length = 2 := by
  rintro vs H Q E ⟨p, q, v, w, rfl, _⟩; rfl
theorem len_times (K : PySem.W.Frag) : ∀ vs H Q E, sp_times K vs H Q E → vs.length = 2 := by
  rintro vs H Q E ⟨p, q, v, w, rfl, _⟩; rfl
theorem len_over (K : PySem.W.Frag) : ∀ vs H Q E, sp_over K vs H Q E → vs.length = 2 := by
  rintro vs H Q E ⟨p, q, v, w, rfl, _⟩; rfl
theorem len_under (K : PySem.W.Frag) : ∀ vs H Q E, sp_under K vs H Q E → vs.length = 2 := by
  rintro vs H Q E ⟨p, q, v, w, rfl, _⟩; rfl
theorem len_sum_of (K : PySem.W.Frag) : ∀ vs H Q E, sp_sum_of K vs H Q E → vs.length = 1 := by
  rintro vs H Q E ⟨p, v, rfl, _⟩; rfl
theorem ret_add {σ : L2.St} {H : Hp} {p q : Rat} {v w : V} (hv : Fr K p H v) (hw : Fr K q H w) (o : Ok (p + q)) (h0 : σ[0]? = some (some v)) (h1 : σ[1]? = some (some w)) {E : XK} : EvP (tCall (sp_lowest K) [] E (tCons (tOp rPlusI (tOp rMulI (tOp (rIxT K) (tVar 0) (tC (.int 0))) (tOp (rIxT K) (tVar 1) (tC (.int 1)))) (tOp rMulI (tOp (rIxT K) (tVar 1) (tC (.int 0))) (tOp (rIxT K) (tVar 0) (tC (.int 1))))) (tCons (tOp rMulI (tOp (rIxT K) (tVar 0) (tC (.int 1))) (tOp (rIxT K) (tVar 1) (tC (.int 1)))) tNil))) σ H (Fr K (p + q)) := by
  have a := ep_var (R := Fr K p) h0 hv
  have b := ep_var (R := Fr K q) h1 hw
  exact ep_lowest (ep_addI (ep_mulI (ep_num a) (ep_den b) (mulW (ok_num hv.ok) (ok_den hw.ok))) (ep_mulI (ep_num b) (ep_den a) (mulW (ok_num hw.ok) (ok_den hv.ok)))) (ep_mulI (ep_den a) (ep_den b) (mulW (ok_den hv.ok) (ok_den hw.ok)))
    (den_mul_pos p q) (den_lt hv.ok hw.ok) (add_div p q) o
theorem ret_mul {σ : L2.St} {H : Hp} {p q : Rat} {v w : V} (hv : Fr K p H v) (hw : Fq K q H w) (o : Ok (p * q)) (h0 : σ[0]? = some (some v)) (h1 : σ[1]? = some (some w)) {E : XK} : EvP (tCall (sp_lowest K) [] E (tCons (tOp rMulI (tOp (rIxT K) (tVar 0) (tC (.int 0))) (tOp (rIxT K) (tVar 1) (tC (.int 0)))) (tCons (tOp rMulI (tOp (rIxT K) (tVar 0) (tC (.int 1))) (tOp (rIxT K) (tVar 1) (tC (.int 1)))) tNil))) σ H (Fr K (p * q)) := by
  obtain ⟨n, d, hd, n1, n2, e, t⟩ := hw
  have a := ep_var (R := Fr K p) h0 hv
  have b := ep_var (R := Tp K [Is (.int n), Is (.int (d : Int))]) h1 t
  have d2 : ((d : Int)).natAbs < 2 ^ 2000 := by rw [Int.natAbs_natCast]; exact n2
  refine ep_lowest (ep_mulI (ep_num a) (ep_ixT (j := 0) b ep_i rfl) (mulW (ok_num hv.ok) n1)) (ep_mulI (ep_den a) (ep_ixT (j := 1) b ep_i rfl) (mulW (ok_den hv.ok) d2)) (Int.mul_pos (den_pos' p) (by omega)) (Nat.lt_of_lt_of_le (wide_lt (ok_den hv.ok) d2) (Nat.pow_le_pow_right (by decide) (by decide))) ?_ o
  rw [← e, ← Rat.divInt_mul_divInt, Rat.num_divInt_den]
theorem ret_lt {σ : L2.St} {H : Hp} {p q : Rat} {v w : V} (hv : Fr K p H v) (hw : Fr K q H w) (h0 : σ[0]? = some (some v)) (h1 : σ[1]? = some (some w)) : EvP (tOp rLtI (tOp rMulI (tOp (rIxT K) (tVar 0) (tC (.int 0))) (tOp (rIxT K) (tVar 1) (tC (.int 1)))) (tOp rMulI (tOp (rIxT K) (tVar 1) (tC (.int 0))) (tOp (rIxT K) (tVar 0) (tC (.int 1))))) σ H (Is (.bl (decide (p < q)))) := by
  have a := ep_var (R := Fr K p) h0 hv
  have b := ep_var (R := Fr K q) h1 hw
  have e : decide (p < q) = decide (p.num * (q.den : Int) < q.num * (p.den : Int)) := by
    rw [Bool.eq_iff_iff]
    simp only [decide_eq_true_eq]
    exact Rat.lt_iff p q
  rw [e]
  exact ep_ltI (ep_mulI (ep_num a) (ep_den b) (mulW (ok_num hv.ok) (ok_den hw.ok))) (ep_mulI (ep_num b) (ep_den a) (mulW (ok_num hw.ok) (ok_den hv.ok)))
theorem rd_plus (C : Cst K) (vs : List V) (H : Hp) (Q : VK) (E : XK) (h : sp_plus K vs H Q E) : t_plus K (BE Q) (start ["one", "other"] vs) H := by
  obtain ⟨p, q, v, w, rfl, hv, hw, o, k⟩ := h
  exact p_ret (ret_add hv hw o rfl rfl) k
theorem rd_times (C : Cst K) (vs : List V) (H : Hp) (Q : VK) (E : XK) (h : sp_times K vs H Q E) : t_times K (BE Q) (start ["one", "other"] vs) H := by
  obtain ⟨p, q, v, w, rfl, hv, hw, o, k⟩ := h
  exact p_ret (ret_mul hv hw o rfl rfl) k
theorem rd_under (C : Cst K) (vs : List V) (H : Hp) (Q : VK) (E : XK) (h : sp_under K vs H Q E) : t_under K (BE Q) (start ["one", "other"] vs) H := by
  obtain ⟨p, q, v, w, rfl, hv, hw, k⟩ := h
  exact p_ret (ret_lt hv hw rfl rfl) k
theorem rd_law_plus (C : Cst K) (vs : List V) (H : Hp) (Q : VK) (E : XK) (h : sp_plus K vs H Q E) : t_law_plus K (BE Q) (start ["_law_one", "_law_other"] vs) H := rd_plus C vs H Q E h
theorem rd_law_times (C : Cst K) (vs : List V) (H : Hp) (Q : VK) (E : XK) (h : sp_times K vs H Q E) : t_law_times K (BE Q) (start ["_law_one", "_law_other"] vs) H := rd_times C vs H Q E h
theorem rd_law_under (C : Cst K) (vs : List V) (H : Hp) (Q : VK) (E : XK) (h : sp_under K vs H Q E) : t_law_under K (BE Q) (start ["_law_one", "_law_other"] vs) H := rd_under C vs H Q E h
theorem rd_minus (C : Cst K) (vs : List V) (H : Hp) (Q : VK) (E : XK) (h : sp_minus K vs H Q E) : t_minus K (BE Q) (start ["one", "other"] vs) H := by
  obtain ⟨p, q, v, w, rfl, hv, hw, o, k⟩ := h
  have a := ep_var (σ := start ["one", "other"] [v, w]) (i := 0) (R := Fr K p) rfl hv
  have b := ep_var (σ := start ["one", "other"] [v, w]) (i := 1) (R := Fr K q) rfl hw
  exact p_ret (ep_lowest (ep_subI (ep_mulI (ep_num a) (ep_den b) (mulW (ok_num hv.ok) (ok_den hw.ok))) (ep_mulI (ep_num b) (ep_den a) (mulW (ok_num hw.ok) (ok_den hv.ok)))) (ep_mulI (ep_den a) (ep_den b) (mulW (ok_den hv.ok) (ok_den hw.ok)))
    (den_mul_pos p q) (den_lt hv.ok hw.ok) (sub_div p q) o) k
theorem rd_over (C : Cst K) (vs : List V) (H : Hp) (Q : VK) (E : XK) (h : sp_over K vs H Q E) : t_over K (BE Q) (start ["one", "other"] vs) H := by
  obtain ⟨p, q, v, w, rfl, hv, hw, hq, o, k⟩ := h
  have a := fun {H'} (e : Ex H H') => ep_var (σ := start ["one", "other"] [v, w]) (i := 0) (R := Fr K p) rfl (hv.ex e)
  have b := fun {H'} (e : Ex H H') => ep_var (σ := start ["one", "other"] [v, w]) (i := 1) (R := Fr K q) rfl (hw.ex e)
  have hn := num_pos hq
  refine q_when (et_t (ep_eqI (ep_num (b (Ex.refl _))) ep_i)) (fun hc => ?_) fun _ H1 e1 => ?_
  · have := of_decide_eq_true hc; omega
  · refine p_ret (ep_lowest (ep_mulI (ep_num (a e1)) (ep_den (b e1)) (mulW (ok_num hv.ok) (ok_den hw.ok))) (ep_mulI (ep_den (a e1)) (ep_num (b e1)) (mulW (ok_den hv.ok) (ok_num hw.ok))) (Int.mul_pos (den_pos' p) hn)
      (Nat.lt_of_lt_of_le (wide_lt (ok_den hv.ok) (ok_num hw.ok)) (Nat.pow_le_pow_right (by decide) (by decide))) (div_div' hq) o) fun v H2 e2 r => k v H2 (e1.trans e2) r
theorem fsum_snoc {qs : List Rat} {i : Nat} {q : Rat} (h : qs[i]? = some q) : fsum (qs.take (i + 1)) = fsum (qs.take i) + q := by
  unfold fsum
  rw [List.take_add_one, h, List.foldl_append]
  rfl
theorem rd_sum_of (C : Cst K) (vs : List V) (H : Hp) (Q : VK) (E : XK) (h : sp_sum_of K vs H Q E) : t_sum_of K (BE Q) (start ["some", "found", "one"] vs) H := by
  obtain ⟨qs, v, rfl, hl, ok, k⟩ := h
  refine qp_asg (R := Fr K 0) (ep_frac (n := 0) (d := 1) (eas_cons ep_i (eas_cons ep_i eas_nil)) ok0 rfl rfl) fun z H1 e1 hz => ?_
  refine p_forL (D := { BE Q with nx := tRet (tVar 1) (BE Q) }) (B := H) (v := v) (ep_var rfl is_rfl) hl (fun i σ' H' => ∃ y x, σ' = [some v, some y, x] ∧ Ex H H' ∧ Fr K (fsum (qs.take i)) H' y) (rx_ex e1) (fun H2 e2 => ⟨z, none, rfl, e1.trans e2, hz.ex e2⟩) (fun i σ' H' ⟨_, _, _, e, _⟩ => rx_ex e) ?_ ?_
  · rintro i q w σ' H' hq ⟨y, x, rfl, e, hy⟩ hw
    refine p_asg (ep_plus (ep_var (i := 1) rfl hy) (ep_var (i := 2) (R := Fr K q) rfl hw) (by rw [← fsum_snoc hq]; exact ok (i + 1))) fun r H2 e2 hr => ?_
    exact ⟨r, some w, rfl, e.trans e2, by rw [fsum_snoc hq]; exact hr⟩
  · rintro σ' H' ⟨y, x, rfl, e, hy⟩
    rw [List.take_length] at hy
    exact p_ret (ep_var (i := 1) rfl hy) fun v' H2 e2 r => k v' H2 (e.trans e2) r
abbrev len_law_divisor := len_divisor
abbrev len_law_lowest := len_lowest
abbrev len_law_plus := len_plus
abbrev len_law_times := len_times
abbrev len_law_under := len_under
end
end Tc
set_option Elab.async false
set_option linter.all false
set_option maxRecDepth 100000
set_option maxHeartbeats 4000000
set_option exponentiation.threshold 10000
namespace Tc
open PySem PySem.Spec PyProof.Rows L2 Evl
/-! ### heaps where one object alone changes -/
def ExB (d : Addr) (H H' : Hp) : Prop := ∀ a o, a ≠ d → H a = some o → H' a = some o
theorem ExB.ofEx {d : Addr} {H H' : Hp} (e : Ex H H') : ExB d H H' := fun a o _ h => e a o h
theorem ExB.upd {d : Addr} {H : Hp} {o : HO} : ExB d H (upd H d o) := fun a u n h => by rw [upd_ne n]; exact h
theorem ExB.trans {d : Addr} {H H1 H2 : Hp} (a : ExB d H H1) (b : ExB d H1 H2) : ExB d H H2 := fun x o n h => b x o n (a x o n h)
theorem ExB.ex {d : Addr} {B H H' : Hp} (e : Ex B H) (n : B d = none) (x : ExB d H H') : Ex B H' := fun a o h => x a o (ne_of_none h n) (e a o h)
theorem ExB.kp {d : Addr} {H H' : Hp} (n : NT (H d)) (x : ExB d H H') : Kp H H' := fun a xs r => by
  have ne : a ≠ d := fun e => by
    subst e
    rcases r with r | ⟨o', r⟩
    · rw [r] at n; exact n
    · rw [r] at n; exact n
  rcases r with r | ⟨o', r⟩
  · exact .inl (x _ _ ne r)
  · exact .inr ⟨o', x _ _ ne r⟩
instance {α : Type} {R : α → HV} [h : ∀ x, StayX (R x)] {m : AL α} {d : Addr} : StayX (fun H v => v = .ref d ∧ DcM R m H d) := ⟨fun H H' v e ⟨e1, kvs, e2, p⟩ => ⟨e1, kvs, e d _ e2, p.map fun x v r => (h x).ex _ _ _ e r⟩⟩
theorem DcM.ex {α : Type} {R : α → HV} [h : ∀ x, StayX (R x)] {m : AL α} {d : Addr} {H H' : Hp} (r : DcM R m H d) (e : Ex H H') : DcM R m H' d := by
  obtain ⟨kvs, e2, p⟩ := r
  exact ⟨kvs, e d _ e2, p.map fun x v r => (h x).ex _ _ _ e r⟩
theorem DcM.nt {α : Type} {R : α → HV} {m : AL α} {d : Addr} {H : Hp} (r : DcM R m H d) : NT (H d) := by
  obtain ⟨kvs, e2, p⟩ := r
  rw [e2]; trivial
theorem DcM.kpu {α : Type} {R : α → HV} [h : ∀ x, Stay (R x)] {m : AL α} {d e : Addr} {H H' : Hp} (r : DcM R m H d) (n : d ≠ e) (x : ExB e H H') (nt : NT (H e)) : DcM R m H' d := by
  obtain ⟨kvs, e2, p⟩ := r
  exact ⟨kvs, x _ _ n e2, p.map fun y v r => (h y).kp _ _ _ (x.kp nt) r⟩
/-! ### names, places, steps -/
abbrev NmR : Str → HV := fun n => Is (.str n)
inductive Pl where
  | cask (n : Str) (r : Rat)
  | sink (n : Str)
def Pl.name : Pl → Str
  | .cask n _ => n
  | .sink n => n
def Pl.isC : Pl → Bool
  | .cask _ _ => true
  | .sink _ => false
def PlR (K : PySem.W.Frag) : Pl → HV
  | .cask n r => Tp K [Is (.str "cask"), Is (.str n), Fr K r]
  | .sink n => Tp K [Is (.str "sink"), Is (.str n)]
instance {K : PySem.W.Frag} : ∀ p, Stay (PlR K p)
  | .cask n r => inferInstanceAs (Stay (Tp K [Is (.str "cask"), Is (.str n), Fr K r]))
  | .sink n => inferInstanceAs (Stay (Tp K [Is (.str "sink"), Is (.str n)]))
inductive Stp where
  | bring (lot : Str) (year : Int) (x : Str) (q : Rat)
  | pass (x y : Str) (s : Rat)
def StpR (K : PySem.W.Frag) : Stp → HV
  | .bring l y x q => Tp K [Is (.str "bring"), Tp K [Is (.str l), Is (.int y)], Is (.str x), Fr K q]
  | .pass x y s => Tp K [Is (.str "pass"), Is (.str x), Is (.str y), Fr K s]
instance {K : PySem.W.Frag} : ∀ p, Stay (StpR K p)
  | .bring l y x q => inferInstanceAs (Stay (Tp K [Is (.str "bring"), Tp K [Is (.str l), Is (.int y)], Is (.str x), Fr K q]))
  | .pass x y s => inferInstanceAs (Stay (Tp K [Is (.str "pass"), Is (.str x), Is (.str y), Fr K s]))
/-! ### tables: what the text reckons -/
def pass1 (m : AL Rat) (x : Str) (q s : Rat) : AL Rat := if q - q * s = 0 then adel m x else aput m x (q - q * s)
def passOn (m : AL Rat) (x y : Str) (s : Rat) : AL Rat := match aget m x with
  | none => m
  | some q => if q * s = 0 then pass1 m x q s else aput (pass1 m x q s) y ((aget (pass1 m x q s) y).getD 0 + q * s)
def OkPass (m : AL Rat) (x y : Str) (s : Rat) : Prop := ∀ q, aget m x = some q → Ok (q * s) ∧ Ok (q - q * s) ∧ Ok ((aget (pass1 m x q s) y).getD 0 + q * s)
theorem pass1_len (m : AL Rat) (x : Str) (q s : Rat) : (pass1 m x q s).length ≤ m.length + 1 := by
  unfold pass1
  split
  · have := adel_len m x; omega
  · exact aput_len _ _ _
theorem passOn_len (m : AL Rat) (x y : Str) (s : Rat) : (passOn m x y s).length ≤ m.length + 2 := by
  unfold passOn
  split
  · omega
  · have h1 := pass1_len m x (by assumption) s
    split
    · omega
    · exact Nat.le_trans (aput_len _ _ _) (by omega)
def stepRow (m : AL Rat) : Stp → AL Rat
  | .pass x y s => passOn m x y s
  | .bring _ _ _ _ => m
def OkStep (m : AL Rat) : Stp → Prop
  | .pass x y s => OkPass m x y s
  | .bring _ _ _ _ => True
def rowFrom (m : AL Rat) (steps : List Stp) : AL Rat := steps.foldl stepRow m
def OkRow (m : AL Rat) (steps : List Stp) : Prop := ∀ i st, steps[i]? = some st → OkStep (rowFrom m (steps.take i)) st
theorem rowFrom_snoc {m : AL Rat} {steps : List Stp} {i : Nat} {st : Stp} (h : steps[i]? = some st) : rowFrom m (steps.take (i + 1)) = stepRow (rowFrom m (steps.take i)) st := by
  unfold rowFrom
  rw [List.take_add_one, h, List.foldl_append]
  rfl
theorem rowFrom_len (m : AL Rat) (steps : List Stp) : (rowFrom m steps).length ≤ m.length + 2 * steps.length := by
  unfold rowFrom
  induction steps generalizing m with
  | nil => simp
  | cons st r ih =>
    rw [List.foldl_cons]
    have h1 := ih (stepRow m st)
    have h2 : (stepRow m st).length ≤ m.length + 2 := by
      cases st with
      | pass x y s => exact passOn_len m x y s
      | bring _ _ _ _ => exact Nat.le_add_right _ _
    rw [List.length_cons]
    omega
def tabM (names : List Str) (steps : List Stp) : AL (AL Rat) := names.foldl (fun acc n => aput acc n (rowFrom [(n, 1)] steps)) []
theorem tabM_snoc {names : List Str} {steps : List Stp} {i : Nat} {n : Str} (h : names[i]? = some n) : tabM (names.take (i + 1)) steps = aput (tabM (names.take i) steps) n (rowFrom [(n, 1)] steps) := by
  unfold tabM
  rw [List.take_add_one, h, List.foldl_append]
  rfl
theorem tabM_len (names : List Str) (steps : List Stp) : (tabM names steps).length ≤ names.length := by
  unfold tabM
  suffices h : ∀ (acc : AL (AL Rat)), (names.foldl (fun acc n => aput acc n (rowFrom [(n, 1)] steps)) acc).length ≤ acc.length + names.length by simpa using h []
  induction names with
  | nil => intro acc; simp
  | cons n r ih =>
    intro acc
    rw [List.foldl_cons]
    have h1 := ih (aput acc n (rowFrom [(n, 1)] steps))
    have h2 := aput_len acc n (rowFrom [(n, 1)] steps)
    rw [List.length_cons]
    omega
def casksM (house : List Pl) : List Str := (house.filter Pl.isC).map Pl.name
def wholeM (house : List Pl) (steps : List Stp) : AL (AL Rat) := tabM (house.map Pl.name) steps
/-! ### promises -/
def sp_pass_on (K : PySem.W.Frag) : Sp := fun vs H Q _ => ∃ d x y v m s, vs = [.ref d, .str x, .str y, v] ∧ DcM (Fr K) m H d ∧ Fr K s H v ∧ OkPass m x y s ∧ m.length ≤ 1000 ∧
  ∀ H', ExB d H H' → DcM (Fr K) (passOn m x y s) H' d → Q .non H'
abbrev TabR (K : PySem.W.Frag) (T : AL (AL Rat)) : HV := Dc (fun row => Dc (Fr K) row) T
def sp_table (K : PySem.W.Frag) : Sp := fun vs H Q _ => ∃ v w names steps, vs = [v, w] ∧ Ls K NmR names H v ∧ Ls K (StpR K) steps H w ∧ (∀ n ∈ names, OkRow [(n, 1)] steps) ∧ names.length ≤ 100 ∧ steps.length ≤ 100 ∧
  RetP H (TabR K (tabM names steps)) Q
def sp_casks_of (K : PySem.W.Frag) : Sp := fun vs H Q _ => ∃ v house, vs = [v] ∧ Ls K (PlR K) house H v ∧ house.length ≤ 100 ∧ RetN H (LsM NmR (casksM house)) Q
/-- what a round's table wants -/
def OkTab (house : List Pl) (steps : List Stp) : Prop := (∀ n ∈ house.map Pl.name, OkRow [(n, 1)] steps) ∧ house.length ≤ 100 ∧ steps.length ≤ 100
def sp_whole_table (K : PySem.W.Frag) : Sp := fun vs H Q _ => ∃ v w house steps, vs = [v, w] ∧ Ls K (PlR K) house H v ∧ Ls K (StpR K) steps H w ∧ OkTab house steps ∧ RetP H (TabR K (wholeM house steps)) Q
end Tc
set_option Elab.async false
set_option linter.all false
set_option maxRecDepth 100000
namespace Tc
open PySem PySem.Spec PyProof.Rows L2 Evl
def t_pass_on (K : PySem.W.Frag) : TS :=
  (tSeq (tIfS (tB (tDNotIn (tVar 1) (tVar 0))) tRetN tNext)
    (tSeq (tAsg (tCall (sp_times K) [] E0 (tCons (tDGet (tVar 0) (tVar 1)) (tCons (tVar 3) tNil))) (gName 4))
    (tSeq (tAsg (tCall (sp_minus K) [] E0 (tCons (tDGet (tVar 0) (tVar 1)) (tCons (tVar 4) tNil))) (gName 5))
    (tSeq (tIfS (tTest (tOp (rEqD K) (tVar 5) (tC (.ref (He.ga K "NOUGHT_tables"))))) (tDrop (tDPop1 (tVar 0) (tVar 1))) (sDPut (tVar 0) (tVar 1) (tVar 5)))
    (tIfS (tTest (tOp (rNeD K) (tVar 4) (tC (.ref (He.ga K "NOUGHT_tables"))))) (sDPut (tVar 0) (tVar 2) (tCall (sp_plus K) [] E0 (tCons (tDGet2 (tVar 0) (tVar 2) (tC (.ref (He.ga K "NOUGHT_tables")))) (tCons (tVar 4) tNil)))) tNext)))))
def t_table (K : PySem.W.Frag) : TS :=
  (tSeq (tAsg tDNewK (gName 2))
    (tSeq (tFor (iList K (tVar 0)) (gName 3) (tSeq (tAsg (tDisp [((tVar 3), (tC (.ref (He.ga K "WHOLE_tables"))))]) (gName 4))
    (tSeq (tFor (iList K (tVar 1)) (gName 5) (tIfS (tTest (tOp rEq (tOp (rIxT K) (tVar 5) (tC (.int 0))) (tC (.str "pass")))) (tDrop (tCall (sp_pass_on K) [] E0 (tCons (tVar 4) (tCons (tOp (rIxT K) (tVar 5) (tC (.int 1))) (tCons (tOp (rIxT K) (tVar 5) (tC (.int 2))) (tCons (tOp (rIxT K) (tVar 5) (tC (.int 3))) tNil)))))) tNext))
    (sDPut (tVar 2) (tVar 3) (tVar 4)))))
    (tRet (tVar 2))))
def t_casks_of (K : PySem.W.Frag) : TS :=
  (tRet (tLc (iList K (tVar 0)) (gName 1) (tTest (tOp rEq (tOp (rIxT K) (tVar 1) (tC (.int 0))) (tC (.str "cask")))) (tOp (rIxT K) (tVar 1) (tC (.int 1))) [1]))
def t_whole_table (K : PySem.W.Frag) : TS :=
  (tRet (tCall (sp_table K) [] E0 (tCons (tLc (iList K (tVar 0)) (gName 2) tYes (tOp (rIxT K) (tVar 2) (tC (.int 1))) [2]) (tCons (tVar 1) tNil))))
end Tc
set_option Elab.async false
set_option linter.all false
set_option maxRecDepth 100000
set_option maxHeartbeats 4000000
set_option exponentiation.threshold 10000
namespace Tc
open PySem PySem.Spec PyProof.Rows L2 Evl
section
variable {K : PySem.W.Frag} {σ : L2.St} {H H' : Hp} {ta tb te tx td ty tv tk : TE} {t : TT} {tu tw tz : TS} {D : Ends} {α : Type} {S : α → HV} {m : AL α} {d : Addr} {k : Str} {x : α}
theorem p_putM (hm : DcM S m H d) [∀ x, Stay (S x)] (hl : m.length < 10000) (hv : EvP tv σ H (S x)) (hd : EvP td σ H (Is (.ref d))) (hy : EvP ty σ H (Is (.str k)))
    (kk : ∀ H1, ExB d H H1 → DcM S (aput m k x) H1 d → D.nx σ H1) : sDPut td ty tv D σ H :=
  p_put hm hl hv hd hy fun kvs v H1 e h1 p r => kk _ ((ExB.ofEx e).trans ExB.upd) ⟨_, upd_same, (p.put k r).map fun y w hw => (inferInstance : Stay (S y)).kp _ _ _ (kp_upd (by rw [h1]; trivial)) hw⟩
theorem qp_putM (hm : DcM S m H d) [∀ x, Stay (S x)] (hl : m.length < 10000) (hv : EvP tv σ H (S x)) (hd : EvP td σ H (Is (.ref d))) (hy : EvP ty σ H (Is (.str k)))
    (kk : ∀ H1, ExB d H H1 → DcM S (aput m k x) H1 d → tz D σ H1) : tSeq (sDPut td ty tv) tz D σ H := p_putM (D := { D with nx := tz D }) hm hl hv hd hy kk
theorem p_popM (hm : DcM S m H d) [∀ x, Stay (S x)] (g : aget m k = some x) (hd : EvP td σ H (Is (.ref d))) (hy : EvP ty σ H (Is (.str k)))
    (kk : ∀ H1, ExB d H H1 → DcM S (adel m k) H1 d → D.nx σ H1) : tDrop (tDPop1 td ty) D σ H := by
  refine hd H (Ex.refl H) _ fun a H1 e1 ra => ?_
  cases (show a = _ from ra)
  obtain ⟨kvs, e, p⟩ := hm
  refine ⟨d, rfl, .inl ⟨kvs, .inl (e1 d _ e)⟩, ?_⟩
  refine hy H1 e1 _ fun b H2 e2 rb => ?_
  cases (show b = _ from rb)
  have e' := (e1.trans e2) d _ e
  have p' : PD S H2 kvs m := p.map fun y w hw => (inferInstance : StayX (S y)).ex _ _ _ (e1.trans e2) hw
  obtain ⟨w, g1, _⟩ := p'.has g
  refine ⟨kvs, .inr k, w, e', rfl, g1, kk _ ((ExB.ofEx (e1.trans e2)).trans ExB.upd) ⟨_, upd_same, (p'.del k).map fun y w hw => (inferInstance : Stay (S y)).kp _ _ _ (kp_upd (by rw [e']; trivial)) hw⟩⟩
theorem qp_popM (hm : DcM S m H d) [∀ x, Stay (S x)] (g : aget m k = some x) (hd : EvP td σ H (Is (.ref d))) (hy : EvP ty σ H (Is (.str k)))
    (kk : ∀ H1, ExB d H H1 → DcM S (adel m k) H1 d → tz D σ H1) : tSeq (tDrop (tDPop1 td ty)) tz D σ H := p_popM (D := { D with nx := tz D }) hm g hd hy kk
theorem en_disp1 [∀ x, Stay (S x)] (hk : EvP tk σ H (Is (.str k))) (hv : EvP tv σ H (S x)) : EvN (tDisp [(tk, tv)]) σ H (DcM S [(k, x)]) := fun H1 e Q q => by
  intro p hp
  have e1 : Ex H1 (upd H1 p (.dK [])) := Ex.new hp
  refine hk _ (e.trans e1) _ fun a H2 e2 ra => ?_
  refine hv _ ((e.trans e1).trans e2) _ fun v H3 e3 rv => ?_
  cases (show a = _ from ra)
  have hp3 : H3 p = some (.dK []) := (e2.trans e3) p _ upd_same
  refine ⟨hp3, [(.inr k, v)], rfl, (show 1 ≤ 15 by decide), q p _ hp (Ex.mut ((e1.trans e2).trans e3) hp) ⟨_, upd_same, ?_⟩⟩
  show PD S _ (putK [] (.inr k) v) [(k, x)]
  exact .cons ⟨rfl, (inferInstance : Stay (S x)).kp _ _ _ (kp_upd (by rw [hp3]; trivial)) rv⟩ .nil
/-- one or another, then the rest, told by what both come to -/
theorem q_both {b : Bool} (h : EvT t σ H b) (M : L2.St → Hp → Prop) (h1 : b = true → ∀ H1, Ex H H1 → tu { D with nx := M } σ H1) (h2 : b = false → ∀ H1, Ex H H1 → tw { D with nx := M } σ H1) (mono : ∀ D' D'' : Ends, (∀ σ H, D'.nx σ H → D''.nx σ H) → D'.rt = D''.rt → D'.bk = D''.bk → D'.ct = D''.ct → tIfS t tu tw D' σ H → tIfS t tu tw D'' σ H)
    (k : ∀ σ' H', M σ' H' → tz D σ' H') : tSeq (tIfS t tu tw) tz D σ H := mono { D with nx := M } { D with nx := tz D } k rfl rfl rfl (s_if (D := { D with nx := M }) h h1 h2)
end
section
variable {K : PySem.W.Frag}
theorem len_pass_on (K : PySem.W.Frag) : ∀ vs H Q E, sp_pass_on K vs H Q E → vs.length = 4 := by
  rintro vs H Q E ⟨d, x, y, v, m, s, rfl, _⟩; rfl
theorem rd_pass_on (C : Cst K) (vs : List V) (H : Hp) (Q : VK) (E : XK) (h : sp_pass_on K vs H Q E) : t_pass_on K (BE Q) (start ["shares", "x", "y", "share", "gone", "left"] vs) H := by
  obtain ⟨d, x, y, v, m, s, rfl, hm, hv, ok, hl, k⟩ := h
  refine q_when (et_b (ep_dnotin (ep_var rfl is_rfl) (ep_var (i := 0) rfl hm.dc))) (fun hb H1 e1 => ?_) fun hb H1 e1 => ?_
  · refine k H1 (ExB.ofEx e1) ?_
    have e : aget m x = none := by simpa using hb
    unfold passOn
    rw [e]
    exact hm.ex e1
  · obtain ⟨q, hq⟩ : ∃ q, aget m x = some q := by
      cases e : aget m x with
      | none => rw [e] at hb; cases hb
      | some q => exact ⟨q, rfl⟩
    obtain ⟨o1, o2, o3⟩ := ok q hq
    have hm1 := hm.ex e1
    refine qp_asg (ep_times (ep_dget (ep_var (i := 0) rfl hm1.dc) (ep_var rfl is_rfl) hq) (ep_var (i := 3) (R := Fr K s) rfl (hv.ex e1)) o1) fun g H2 e2 hg => ?_
    have hm2 := hm1.ex e2
    refine qp_asg (ep_minus (ep_dget (ep_var (i := 0) rfl hm2.dc) (ep_var rfl is_rfl) hq) (ep_var (i := 4) rfl hg) o2) fun l H3 e3 hl3 => ?_
    have hm3 := hm2.ex e3
    have e13 : Ex H H3 := (e1.trans e2).trans e3
    -- what follows the first if
    have rest : ∀ H4, ExB d H3 H4 → DcM (Fr K) (pass1 m x q s) H4 d → tIfS (tTest (tOp (rNeD K) (tVar 4) (tC (.ref (He.ga K "NOUGHT_tables"))))) (sDPut (tVar 0) (tVar 2) (tCall (sp_plus K) [] E0 (tCons (tDGet2 (tVar 0) (tVar 2) (tC (.ref (He.ga K "NOUGHT_tables")))) (tCons (tVar 4) tNil)))) tNext (BE Q) [some (.ref d), some (.str x), some (.str y), some v, some g, some l] H4 := by
      intro H4 x4 hm4
      have hg4 : Fr K (q * s) H4 g := (hg.ex e3).kp (x4.kp hm3.nt)
      refine s_when (et_t (ep_neF (ep_var (i := 4) rfl hg4) (ep_zero C.z2))) (fun hb H5 e5 => ?_) fun hb H5 e5 => ?_
      · have hz : ¬ q * s = 0 := by simpa using hb
        have hm5 := hm4.ex e5
        refine p_putM hm5 (by have := pass1_len m x q s; omega) (ep_plus (ep_dget2 (S := Fr K) (x := (0 : Rat)) (ep_var (i := 0) rfl hm5.dc) (ep_var (i := 2) rfl is_rfl) (ep_zero C.z2)) (ep_var (i := 4) rfl (hg4.ex e5)) o3) (ep_var rfl is_rfl) (ep_var rfl is_rfl) fun H6 x6 hm6 => ?_
        refine k H6 ((ExB.ofEx e13).trans (x4.trans ((ExB.ofEx e5).trans x6))) ?_
        unfold passOn
        rw [hq]
        simp only [if_neg hz]
        exact hm6
      · have hz : q * s = 0 := by simpa using hb
        refine k H5 ((ExB.ofEx e13).trans (x4.trans (ExB.ofEx e5))) ?_
        unfold passOn
        rw [hq]
        simp only [if_pos hz]
        exact hm4.ex e5
    refine q_if (et_t (ep_eqF (ep_var (i := 5) rfl hl3) (ep_zero C.z2))) (fun hb H4 e4 => ?_) fun hb H4 e4 => ?_
    · have hz : q - q * s = 0 := by simpa using hb
      refine p_popM (hm3.ex e4) hq (ep_var rfl is_rfl) (ep_var rfl is_rfl) fun H5 x5 hm5 => rest H5 ((ExB.ofEx e4).trans x5) ?_
      unfold pass1
      rw [if_pos hz]
      exact hm5
    · have hz : ¬ q - q * s = 0 := by simpa using hb
      refine p_putM (hm3.ex e4) (by omega) (ep_var (i := 5) rfl (hl3.ex e4)) (ep_var rfl is_rfl) (ep_var rfl is_rfl) fun H5 x5 hm5 => rest H5 ((ExB.ofEx e4).trans x5) ?_
      unfold pass1
      rw [if_neg hz]
      exact hm5
end
end Tc
set_option Elab.async false
set_option linter.all false
set_option maxRecDepth 100000
set_option maxHeartbeats 4000000
set_option exponentiation.threshold 10000
namespace Tc
open PySem PySem.Spec PyProof.Rows L2 Evl
/-- a dict of one's own (not the one at p), at the value -/
def DcP {α : Type} (p : Addr) (R : α → HV) (m : AL α) : HV := fun H v => ∃ d, v = .ref d ∧ d ≠ p ∧ DcM R m H d
instance {α : Type} {p : Addr} {R : α → HV} [h : ∀ x, StayX (R x)] {m : AL α} : StayX (DcP p R m) := ⟨fun H H' v e ⟨d, e1, n, r⟩ => ⟨d, e1, n, r.ex e⟩⟩
theorem PD.map2 {α : Type} {R R' : α → HV} {H H' : Hp} {kvs : List (Key × V)} {m : AL α} (h : PD R H kvs m) (f : ∀ x v, R x H v → R' x H' v) : PD R' H' kvs m := L2.Paired.mapP h fun _ _ ⟨e, r⟩ => ⟨e, f _ _ r⟩
section
variable {K : PySem.W.Frag}
theorem p_exprCall {sp : Sp} {E : XK} {ta : TA} {σ : L2.St} {H : Hp} {D : Ends} {Rs : List HV} (h : EvAs ta σ H Rs) (hs : ∀ H1 vs, Ex H H1 → AllP Rs H1 vs → sp vs H1 (fun _ H' => D.nx σ H') E) : tDrop (tCall sp [] E ta) D σ H :=
  h H (Ex.refl H) _ fun vs H1 e r => by
    show sp (vs ++ []) H1 _ E
    rw [List.append_nil]
    exact hs H1 vs e r
theorem AllP.get2 {R1 R2' : HV} {H : Hp} {a b : V} (h : AllP [R1, R2'] H [a, b]) : R1 H a ∧ R2' H b := by
  cases h with
  | cons x y => cases y with
    | cons z _ => exact ⟨x, z⟩
/-- the step's four places -/
theorem st_kind {st : Stp} {σ : L2.St} {H : Hp} {te : TE} (h : EvP te σ H (StpR K st)) : EvP (tOp (rIxT K) te (tC (.int 0))) σ H (Is (.str (match st with | .bring _ _ _ _ => "bring" | .pass _ _ _ => "pass"))) := by
  cases st with
  | bring l y x q => exact ep_ixT (j := 0) (Rs := [Is (.str "bring"), Tp K [Is (.str l), Is (.int y)], Is (.str x), Fr K q]) h ep_i rfl
  | pass x y s => exact ep_ixT (j := 0) (Rs := [Is (.str "pass"), Is (.str x), Is (.str y), Fr K s]) h ep_i rfl
theorem call_pass {d : Addr} {m : AL Rat} {x y : Str} {s : Rat} {σ : L2.St} {H : Hp} {td te : TE} {D : Ends} (hm : DcM (Fr K) m H d) (hd : EvP td σ H (Is (.ref d))) (hs : EvP te σ H (StpR K (.pass x y s))) (ok : OkPass m x y s) (hl : m.length ≤ 1000)
    (k : ∀ H', ExB d H H' → DcM (Fr K) (passOn m x y s) H' d → D.nx σ H') :
    tDrop (tCall (sp_pass_on K) [] E0 (tCons td (tCons (tOp (rIxT K) te (tC (.int 1))) (tCons (tOp (rIxT K) te (tC (.int 2))) (tCons (tOp (rIxT K) te (tC (.int 3))) tNil))))) D σ H := by
  have hs' : EvP te σ H (Tp K [Is (.str "pass"), Is (.str x), Is (.str y), Fr K s]) := hs
  refine p_exprCall (eas_cons hd (eas_cons (ep_ixT (j := 1) hs' ep_i rfl) (eas_cons (ep_ixT (j := 2) hs' ep_i rfl) (eas_cons (ep_ixT (j := 3) hs' ep_i rfl) eas_nil)))) fun H1 vs e r => ?_
  obtain ⟨a, b, c, f, rfl, ra, rb, rc, rf⟩ := r.four
  cases (show a = _ from ra)
  cases (show b = _ from rb)
  cases (show c = _ from rc)
  exact ⟨d, x, y, f, m, s, rfl, hm.ex e, rf, ok, hl, fun H' x1 h' => k H' ((ExB.ofEx e).trans x1) h'⟩
theorem len_table (K : PySem.W.Frag) : ∀ vs H Q E, sp_table K vs H Q E → vs.length = 2 := by
  rintro vs H Q E ⟨v, w, names, steps, rfl, _⟩; rfl
theorem rd_table (C : Cst K) (vs : List V) (H : Hp) (Q : VK) (E : XK) (h : sp_table K vs H Q E) : t_table K (BE Q) (start ["names", "steps", "found", "name", "shares", "step"] vs) H := by
  obtain ⟨v, w, names, steps, rfl, hn, hs, ok, ln, ls, k⟩ := h
  refine qp_asgN (en_dnew (S := fun row => DcP 0 (Fr K) row)) fun p H1 np e1 h1 => ?_
  obtain ⟨kv0, hp0, pd0⟩ := h1
  have hkv0 : kv0 = [] := by cases pd0; rfl
  subst hkv0
  refine p_forL (D := { BE Q with nx := tRet (tVar 2) (BE Q) }) (B := H) (v := v) (ep_var rfl is_rfl) hn
    (fun i σ' H' => ∃ x3 x4 x5, σ' = [some v, some w, some (.ref p), x3, x4, x5] ∧ Ex H H' ∧ DcM (DcP p (Fr K)) (tabM (names.take i) steps) H' p) (rx_ex e1)
    (fun H2 e2 => ⟨none, none, none, rfl, e1.trans e2, [], e2 p _ hp0, .nil⟩) (fun i σ' H' ⟨_, _, _, _, e, _⟩ => rx_ex e) ?_ ?_
  · rintro i n nv σ' H2 hin ⟨x3, x4, x5, rfl, e2, hm2⟩ hnv
    cases (show nv = _ from hnv)
    refine qp_asgN (en_disp1 (S := Fr K) (k := n) (x := (1 : Rat)) (ep_var rfl is_rfl) (ep_one C.o2)) fun d H3 nd e3 hd => ?_
    have hokr := ok n (List.mem_of_getElem? hin)
    have nH : H d = none := fresh_back e2 nd
    refine p_forL (D := { nx := (sDPut (tVar 2) (tVar 3) (tVar 4)) _, rt := _, ct := _, bk := _ }) (B := H) (v := w) (ep_var rfl is_rfl) hs
      (fun j σ'' H' => ∃ x5, σ'' = [some v, some w, some (.ref p), some (.str n), some (.ref d), x5] ∧ Ex H2 H' ∧ DcM (Fr K) (rowFrom [(n, 1)] (steps.take j)) H' d) (rx_ex (e2.trans e3))
      (fun H4 e4 => ⟨x5, rfl, e3.trans e4, hd.ex e4⟩) (fun j σ'' H' ⟨_, _, e, _⟩ => rx_ex (e2.trans e)) ?_ ?_
    · rintro j st sv σ'' H4 hj ⟨x5', rfl, e4, hm4⟩ hsv
      have okj := hokr j st hj
      have hlen : (rowFrom [(n, 1)] (steps.take j)).length ≤ 1000 := by
        have h1 := rowFrom_len [(n, 1)] (steps.take j)
        rw [List.length_take] at h1
        simp only [List.length_cons, List.length_nil] at h1
        omega
      refine s_when (et_t (ep_eqS (st_kind (st := st) (ep_var (i := 5) (σ := [some v, some w, some (.ref p), some (.str n), some (.ref d), some sv]) (v := sv) rfl hsv)) ep_s)) (fun hb H5 e5 => ?_) fun hb H5 e5 => ?_
      · cases st with
        | bring _ _ _ _ => exact absurd (of_decide_eq_true hb) (show ¬ (("bring" : Str) = "pass") by decide +kernel)
        | pass x y s =>
          refine call_pass (hm4.ex e5) (ep_var (i := 4) rfl is_rfl) (ep_var (i := 5) rfl ((inferInstance : StayX (StpR K _)).ex _ _ _ e5 hsv)) okj hlen fun H6 x6 h6 => ?_
          exact ⟨_, rfl, ExB.ex (e4.trans e5) nd x6, by rw [rowFrom_snoc hj]; exact h6⟩
      · cases st with
        | bring _ _ _ _ => exact ⟨_, rfl, e4.trans e5, by rw [rowFrom_snoc hj]; exact hm4.ex e5⟩
        | pass x y s => exact absurd rfl (of_decide_eq_false hb)
    · rintro σ'' H4 ⟨x5', rfl, e4, hm4⟩
      rw [List.take_length] at hm4
      have ndp : d ≠ p := fun z => by
        obtain ⟨kvs, e, _⟩ := hm2
        rw [z, e] at nd
        cases nd
      refine p_put (hm2.ex e4) (by have := tabM_len (names.take i) steps; rw [List.length_take] at this; omega) (x := rowFrom [(n, 1)] steps) (ep_var (i := 4) rfl ⟨d, rfl, ndp, hm4⟩) (ep_var rfl is_rfl) (ep_var rfl is_rfl) fun kvs v' H5 e5 h5 pd5 r5 => ?_
      refine ⟨_, _, _, rfl, Ex.mut ((e2.trans e4).trans e5) np, ?_⟩
      rw [tabM_snoc hin]
      refine ⟨_, upd_same, (pd5.put n r5).map fun row u hu => ?_⟩
      obtain ⟨d', e, n', r⟩ := hu
      exact ⟨d', e, n', r.kpu n' ExB.upd (by rw [h5]; trivial)⟩
  · rintro σ' H2 ⟨x3, x4, x5, rfl, e2, kvs, h2, pd⟩
    rw [List.take_length] at pd
    refine p_ret (R := Is (.ref p)) (ep_var (i := 2) rfl is_rfl) fun u H3 e3 hu => ?_
    cases (show u = _ from hu)
    refine k _ H3 (e2.trans e3) ⟨p, kvs, rfl, .inl (e3 p _ h2), pd.map2 fun row u hu => ?_⟩
    obtain ⟨d', e, n', r⟩ := hu
    subst e
    exact (r.ex e3).dc
theorem len_casks_of (K : PySem.W.Frag) : ∀ vs H Q E, sp_casks_of K vs H Q E → vs.length = 1 := by
  rintro vs H Q E ⟨v, house, rfl, _⟩; rfl
theorem pl_kind {pl : Pl} {σ : L2.St} {H : Hp} {te : TE} (h : EvP te σ H (PlR K pl)) : EvP (tOp (rIxT K) te (tC (.int 0))) σ H (Is (.str (if pl.isC = true then "cask" else "sink"))) := by
  cases pl with
  | cask n r => exact ep_ixT (j := 0) (Rs := [Is (.str "cask"), Is (.str n), Fr K r]) h ep_i rfl
  | sink n => exact ep_ixT (j := 0) (Rs := [Is (.str "sink"), Is (.str n)]) h ep_i rfl
theorem pl_name {pl : Pl} {σ : L2.St} {H : Hp} {te : TE} (h : EvP te σ H (PlR K pl)) : EvP (tOp (rIxT K) te (tC (.int 1))) σ H (Is (.str pl.name)) := by
  cases pl with
  | cask n r => exact ep_ixT (j := 1) (Rs := [Is (.str "cask"), Is (.str n), Fr K r]) h ep_i rfl
  | sink n => exact ep_ixT (j := 1) (Rs := [Is (.str "sink"), Is (.str n)]) h ep_i rfl
theorem pl_room {n : Str} {r : Rat} {σ : L2.St} {H : Hp} {te : TE} (h : EvP te σ H (PlR K (.cask n r))) : EvP (tOp (rIxT K) te (tC (.int 2))) σ H (Fr K r) :=
  ep_ixT (j := 2) (Rs := [Is (.str "cask"), Is (.str n), Fr K r]) h ep_i rfl
theorem pl_test {pl : Pl} {σ : L2.St} {H : Hp} {te : TE} (h : EvP te σ H (PlR K pl)) : EvT (tTest (tOp rEq (tOp (rIxT K) te (tC (.int 0))) (tC (.str "cask")))) σ H pl.isC := by
  have e : decide ((if pl.isC = true then ("cask" : Str) else "sink") = "cask") = pl.isC := by
    cases pl with
    | cask n r => show decide ((if true = true then ("cask" : Str) else "sink") = "cask") = true; decide +kernel
    | sink n => show decide ((if false = true then ("cask" : Str) else "sink") = "cask") = false; decide +kernel
  exact et_is (et_t (ep_eqS (pl_kind h) ep_s)) e
theorem rd_casks_of (C : Cst K) (vs : List V) (H : Hp) (Q : VK) (E : XK) (h : sp_casks_of K vs H Q E) : t_casks_of K (BE Q) (start ["house", "place"] vs) H := by
  obtain ⟨v, house, rfl, hh, hl, k⟩ := h
  exact p_retN (en_lc (U := NmR) (p := Pl.isC) (f := Pl.name) (ei_list (ep_var rfl hh)) (by omega) fun pl x H' e _ r =>
    ⟨[some v, some x], fun Q q => q, rfl, pl_test (ep_var (i := 1) rfl r), fun _ => pl_name (ep_var (i := 1) rfl r)⟩) k
theorem len_whole_table (K : PySem.W.Frag) : ∀ vs H Q E, sp_whole_table K vs H Q E → vs.length = 2 := by
  rintro vs H Q E ⟨v, w, names, steps, rfl, _⟩; rfl
theorem tYesT {σ : L2.St} {H : Hp} : EvT tYes σ H true := fun H1 _ Q q => q H1 (Ex.refl H1)
theorem filt_true {α : Type} (l : List α) : l.filter (fun _ => true) = l := List.filter_eq_self.mpr fun _ _ => rfl
theorem ep_names {v : V} {house : List Pl} {σ : L2.St} {H : Hp} {i j : Nat} (hl : house.length ≤ 1000) (h : EvP (tVar i) σ H (Ls K (PlR K) house)) (hw : ∀ x, wipe ((wipe σ [j]).set j (some x)) [j] = wipe σ [j]) (hj : ∀ x, ((wipe σ [j]).set j (some x))[j]? = some (some x)) :
    EvN (tLc (iList K (tVar i)) (gName j) tYes (tOp (rIxT K) (tVar j) (tC (.int 1))) [j]) σ H (LsM NmR (house.map Pl.name)) := by
  have g := en_lc (U := NmR) (p := fun _ => true) (f := Pl.name) (g := gName j) (tt := tYes) (te := tOp (rIxT K) (tVar j) (tC (.int 1))) (vs := [j]) (ei_list h) (by omega) fun pl x H' e _ r => ⟨(wipe σ [j]).set j (some x), fun Q q => q, hw x, tYesT, fun _ => pl_name (ep_var (hj x) r)⟩
  rw [filt_true] at g
  exact g
theorem rd_whole_table (C : Cst K) (vs : List V) (H : Hp) (Q : VK) (E : XK) (h : sp_whole_table K vs H Q E) : t_whole_table K (BE Q) (start ["house", "steps", "place"] vs) H := by
  obtain ⟨v, w, house, steps, rfl, hh, hs, ⟨ok, l1, l2⟩, k⟩ := h
  refine p_ret (ep_call (R := TabR K (wholeM house steps)) (eas_cons (R := Ls K NmR (house.map Pl.name)) ((ep_names (v := v) (i := 0) (j := 2) (by omega) (ep_var rfl hh) (fun _ => rfl) (fun _ => rfl)).p.weak fun H' u _ r => ?_) (eas_cons (ep_var (i := 1) rfl hs) eas_nil)) fun H1 vs e r Q' k' => ?_) k
  · obtain ⟨p, rfl, r⟩ := r
    exact r.ls
  · obtain ⟨a, b, rfl, ra, rb⟩ := r.two
    exact ⟨a, b, _, steps, rfl, ra, rb, ok, by rw [List.length_map]; exact l1, l2, k'⟩
end
end Tc
set_option Elab.async false
set_option linter.all false
set_option maxRecDepth 100000
set_option maxHeartbeats 4000000
set_option exponentiation.threshold 10000
namespace Tc
open PySem PySem.Spec PyProof.Rows L2 Evl
/-! ### what is brought -/
structure Br where
  lot : Str
  year : Int
  q : Rat
  m : AL Rat
def brStep (acc : List Br) : Stp → List Br
  | .bring l y x q => acc ++ [⟨l, y, q, [(x, 1)]⟩]
  | .pass x y s => acc.map fun b => { b with m := passOn b.m x y s }
def brFrom (steps : List Stp) : List Br := steps.foldl brStep []
def OkBr (steps : List Stp) : Prop := ∀ i x y s, steps[i]? = some (.pass x y s) → ∀ b ∈ brFrom (steps.take i), OkPass b.m x y s
theorem brFrom_snoc {steps : List Stp} {i : Nat} {st : Stp} (h : steps[i]? = some st) : brFrom (steps.take (i + 1)) = brStep (brFrom (steps.take i)) st := by
  unfold brFrom
  rw [List.take_add_one, h, List.foldl_append]
  rfl
theorem brFrom_len (steps : List Stp) : (brFrom steps).length ≤ steps.length ∧ ∀ b ∈ brFrom steps, b.m.length ≤ 1 + 2 * steps.length := by
  unfold brFrom
  suffices h : ∀ (acc : List Br) (n : Nat), (∀ b ∈ acc, b.m.length ≤ 1 + 2 * n) → (steps.foldl brStep acc).length ≤ acc.length + steps.length ∧ ∀ b ∈ steps.foldl brStep acc, b.m.length ≤ 1 + 2 * (n + steps.length) by
    have := h [] 0 (fun b hb => nomatch hb)
    simpa using this
  induction steps with
  | nil => intro acc n h; exact ⟨by simp, by simpa using h⟩
  | cons st r ih =>
    intro acc n h
    rw [List.foldl_cons]
    have h2 : (brStep acc st).length ≤ acc.length + 1 ∧ ∀ b ∈ brStep acc st, b.m.length ≤ 1 + 2 * (n + 1) := by
      cases st with
      | bring l y x q =>
        refine ⟨by simp [brStep], fun b hb => ?_⟩
        rcases List.mem_append.mp hb with hb | hb
        · have := h b hb; omega
        · rw [List.mem_singleton.mp hb]; simp
      | pass x y s =>
        refine ⟨by simp [brStep], fun b hb => ?_⟩
        obtain ⟨b', hb', rfl⟩ := List.mem_map.mp hb
        have h1 := h b' hb'
        have h3 := passOn_len b'.m x y s
        show (passOn b'.m x y s).length ≤ _
        omega
    obtain ⟨h3, h4⟩ := ih (brStep acc st) (n + 1) h2.2
    rw [List.length_cons]
    refine ⟨by omega, fun b hb => ?_⟩
    have := h4 b hb
    omega
/-- the list of what was brought, its dicts new since H0 -/
def BrL (K : PySem.W.Frag) (H0 : Hp) (bs : List Br) (H : Hp) (p : Addr) : Prop := ∃ z : List (V × Addr), H p = some (.lst (z.map (·.1))) ∧ (z.map (·.2)).Nodup ∧ z.length = bs.length ∧
  ∀ (k : Nat) (t : V) (e : Addr) (b : Br), z[k]? = some (t, e) → bs[k]? = some b → H0 e = none ∧ e ≠ p ∧ Tp K [Tp K [Is (.str b.lot), Is (.int b.year)], Fr K b.q, Is (.ref e)] H t ∧ DcM (Fr K) b.m H e
def sp_brought (K : PySem.W.Frag) : Sp := fun vs H Q _ => ∃ v w names steps, vs = [v, w] ∧ Ls K NmR names H v ∧ Ls K (StpR K) steps H w ∧ OkBr steps ∧ steps.length ≤ 100 ∧
  ∀ p H', H p = none → Ex H H' → BrL K H (brFrom steps) H' p → Q (.ref p) H'
/-! ### the casks' table -/
def restr (cs : List Str) (row : AL Rat) : AL Rat := row.foldl (fun m p => if p.1 ∈ cs then aput m p.1 p.2 else m) []
def ctabF (cs : List Str) (W : AL (AL Rat)) (ns : List Str) : AL (AL Rat) := ns.foldl (fun acc n => aput acc n (restr cs ((aget W n).getD []))) []
def ctabM (house : List Pl) (steps : List Stp) : AL (AL Rat) := ctabF (casksM house) (wholeM house steps) (casksM house)
def sp_casks_table (K : PySem.W.Frag) : Sp := fun vs H Q _ => ∃ v w house steps, vs = [v, w] ∧ Ls K (PlR K) house H v ∧ Ls K (StpR K) steps H w ∧ OkTab house steps ∧ RetP H (TabR K (ctabM house steps)) Q
/-! ### no cask stays closed -/
def NoClosed (house : List Pl) (steps : List Stp) : Prop := ∀ ks : List Str, ks.Nodup → (∀ n ∈ ks, n ∈ casksM house ∧ ∀ row, aget (wholeM house steps) n = some row → ∀ p ∈ row, p.1 ∈ ks) → ks = []
def sp_closed_casks (K : PySem.W.Frag) : Sp := fun vs H Q _ => ∃ v w house steps, vs = [v, w] ∧ Ls K (PlR K) house H v ∧ Ls K (StpR K) steps H w ∧ OkTab house steps ∧ (casksM house).Nodup ∧ (casksM house).length < 60 ∧ NoClosed house steps ∧ RetN H (LsM NmR []) Q
/-! ### what is brought to casks -/
def addOne (f : AL Rat) (q : Rat) (p : Str × Rat) : AL Rat := match aget f p.1 with
  | some z => aput f p.1 (z + q * p.2)
  | none => f
def addRow (f : AL Rat) (q : Rat) (row : AL Rat) : AL Rat := row.foldl (fun f p => addOne f q p) f
def OkOne (f : AL Rat) (q : Rat) (p : Str × Rat) : Prop := ∀ z, aget f p.1 = some z → Ok (q * p.2) ∧ Ok (z + q * p.2)
def OkAdd (f : AL Rat) (q : Rat) (row : AL Rat) : Prop := ∀ i p, row[i]? = some p → OkOne (addRow f q (row.take i)) q p
def zerosM (ns : List Str) : AL Rat := ns.foldl (fun m n => aput m n 0) []
def btoF (f : AL Rat) (bs : List Br) : AL Rat := bs.foldl (fun f b => addRow f b.q b.m) f
def btoM (house : List Pl) (steps : List Stp) : AL Rat := btoF (zerosM (casksM house)) (brFrom steps)
def OkBto (house : List Pl) (steps : List Stp) : Prop := OkBr steps ∧ steps.length ≤ 100 ∧ house.length ≤ 100 ∧ ∀ i b, (brFrom steps)[i]? = some b → OkAdd (btoF (zerosM (casksM house)) ((brFrom steps).take i)) b.q b.m
def sp_brought_to (K : PySem.W.Frag) : Sp := fun vs H Q _ => ∃ v w house steps, vs = [v, w] ∧ Ls K (PlR K) house H v ∧ Ls K (StpR K) steps H w ∧ OkBto house steps ∧ RetN H (DcM (Fr K) (btoM house steps)) Q
/-! ### about these -/
theorem addOne_len (f : AL Rat) (q : Rat) (p : Str × Rat) : (addOne f q p).length = f.length := by
  unfold addOne
  cases h : aget f p.1 with
  | none => rfl
  | some z =>
    simp only
    unfold aput
    rw [if_pos, List.length_map]
    unfold aget at h
    cases g : (f.find? fun r => decide (r.1 = p.1)) with
    | none => rw [g] at h; cases h
    | some r =>
      have h1 := List.find?_some g
      exact List.any_eq_true.mpr ⟨r, List.mem_of_find?_eq_some g, h1⟩
theorem addRow_len (f : AL Rat) (q : Rat) (row : AL Rat) : (addRow f q row).length = f.length := by
  unfold addRow
  induction row generalizing f with
  | nil => rfl
  | cons p r ih => rw [List.foldl_cons, ih, addOne_len]
theorem btoF_len (f : AL Rat) (bs : List Br) : (btoF f bs).length = f.length := by
  unfold btoF
  induction bs generalizing f with
  | nil => rfl
  | cons p r ih => rw [List.foldl_cons, ih, addRow_len]
theorem zerosM_len (ns : List Str) : (zerosM ns).length ≤ ns.length := by
  unfold zerosM
  suffices h : ∀ (acc : AL Rat), (ns.foldl (fun m n => aput m n 0) acc).length ≤ acc.length + ns.length by simpa using h []
  induction ns with
  | nil => intro acc; simp
  | cons n r ih =>
    intro acc
    rw [List.foldl_cons]
    have h1 := ih (aput acc n 0)
    have h2 := aput_len acc n (0 : Rat)
    rw [List.length_cons]
    omega
theorem restr_len (cs : List Str) (row : AL Rat) : (restr cs row).length ≤ row.length := by
  unfold restr
  suffices h : ∀ (acc : AL Rat), (row.foldl (fun m p => if p.1 ∈ cs then aput m p.1 p.2 else m) acc).length ≤ acc.length + row.length by simpa using h []
  induction row with
  | nil => intro acc; simp
  | cons p r ih =>
    intro acc
    rw [List.foldl_cons, List.length_cons]
    have h1 := ih (if p.1 ∈ cs then aput acc p.1 p.2 else acc)
    have h2 := aput_len acc p.1 p.2
    have h3 : (if p.1 ∈ cs then aput acc p.1 p.2 else acc).length ≤ acc.length + 1 := by split <;> omega
    omega
theorem ctabF_len (cs : List Str) (W : AL (AL Rat)) (ns : List Str) : (ctabF cs W ns).length ≤ ns.length := by
  unfold ctabF
  suffices h : ∀ (acc : AL (AL Rat)), (ns.foldl (fun acc n => aput acc n (restr cs ((aget W n).getD []))) acc).length ≤ acc.length + ns.length by simpa using h []
  induction ns with
  | nil => intro acc; simp
  | cons n r ih =>
    intro acc
    rw [List.foldl_cons, List.length_cons]
    have h1 := ih (aput acc n (restr cs ((aget W n).getD [])))
    have h2 := aput_len acc n (restr cs ((aget W n).getD []))
    omega
theorem fold_snoc {α β : Type} {f : β → α → β} {b : β} {xs : List α} {i : Nat} {x : α} (h : xs[i]? = some x) : (xs.take (i + 1)).foldl f b = f ((xs.take i).foldl f b) x := by
  rw [List.take_add_one, h, List.foldl_append]
  rfl
theorem tabM_get {names : List Str} {steps : List Stp} {n : Str} (h : n ∈ names) : aget (tabM names steps) n = some (rowFrom [(n, 1)] steps) := by
  unfold tabM
  suffices g : ∀ (acc : AL (AL Rat)), (n ∈ names ∨ aget acc n = some (rowFrom [(n, 1)] steps)) → aget (names.foldl (fun acc n => aput acc n (rowFrom [(n, 1)] steps)) acc) n = some (rowFrom [(n, 1)] steps) from g [] (.inl h)
  clear h
  induction names with
  | nil =>
    intro acc h
    rcases h with h | h
    · cases h
    · exact h
  | cons a r ih =>
    intro acc h
    rw [List.foldl_cons]
    refine ih _ ?_
    by_cases e : n = a
    · right
      rw [aget_put, if_pos e, e]
    · rcases h with h | h
      · rcases List.mem_cons.mp h with h | h
        · exact absurd h e
        · exact .inl h
      · right
        rw [aget_put, if_neg e, h]
theorem casks_sub {house : List Pl} {n : Str} (h : n ∈ casksM house) : n ∈ house.map Pl.name := by
  unfold casksM at h
  obtain ⟨p, hp, e⟩ := List.mem_map.mp h
  exact List.mem_map.mpr ⟨p, (List.mem_filter.mp hp).1, e⟩
theorem whole_get {house : List Pl} {steps : List Stp} {n : Str} (h : n ∈ casksM house) : aget (wholeM house steps) n = some (rowFrom [(n, 1)] steps) := tabM_get (casks_sub h)
end Tc
set_option Elab.async false
set_option linter.all false
set_option maxRecDepth 100000
namespace Tc
open PySem PySem.Spec PyProof.Rows L2 Evl
def t_brought (K : PySem.W.Frag) : TS :=
  (tSeq (tAsg (tLst tNil) (gName 2))
    (tSeq (tFor (iList K (tVar 1)) (gName 3) (tIfS (tTest (tOp rEq (tOp (rIxT K) (tVar 3) (tC (.int 0))) (tC (.str "bring")))) (tDrop (tBM K "list" rAppend (tVar 2) (tCons (tTup (tCons (tOp (rIxT K) (tVar 3) (tC (.int 1))) (tCons (tOp (rIxT K) (tVar 3) (tC (.int 3))) (tCons (tDisp [((tOp (rIxT K) (tVar 3) (tC (.int 2))), (tC (.ref (He.ga K "WHOLE_tables"))))]) tNil)))) tNil))) (tFor (iList K (tVar 2)) (gTup K 3 (gCons (gName 4) (gCons (gName 5) (gCons (gName 6) gNil)))) (tDrop (tCall (sp_pass_on K) [] E0 (tCons (tVar 6) (tCons (tOp (rIxT K) (tVar 3) (tC (.int 1))) (tCons (tOp (rIxT K) (tVar 3) (tC (.int 2))) (tCons (tOp (rIxT K) (tVar 3) (tC (.int 3))) tNil)))))))))
    (tRet (tVar 2))))
def t_casks_table (K : PySem.W.Frag) : TS :=
  (tSeq (tAsg (tCall (sp_casks_of K) [] E0 (tCons (tVar 0) tNil)) (gName 2))
    (tSeq (tAsg (tCall (sp_whole_table K) [] E0 (tCons (tVar 0) (tCons (tVar 1) tNil))) (gName 3))
    (tSeq (tAsg tDNewK (gName 4))
    (tSeq (tFor (iList K (tVar 2)) (gName 5) (tSeq (sDPut (tVar 4) (tVar 5) tDNewK)
    (tLockR (tFor (iItems (tDGet (tVar 3) (tVar 5))) (gTup K 2 (gCons (gName 6) (gCons (gName 7) gNil))) (tIfS (tTest (tOp (rIn K false) (tVar 6) (tVar 2))) (sDPut (tDGet (tVar 4) (tVar 5)) (tVar 6) (tVar 7)) tNext)))))
    (tRet (tVar 4))))))
def t_closed_casks (K : PySem.W.Frag) : TS :=
  (tSeq (tAsg (tCall (sp_whole_table K) [] E0 (tCons (tVar 0) (tCons (tVar 1) tNil))) (gName 2))
    (tSeq (tAsg tDNewK (gName 3))
    (tSeq (tFor (iList K (tCall (sp_casks_of K) [] E0 (tCons (tVar 0) tNil))) (gName 4) (sDPut (tVar 3) (tVar 4) (tC (.bl true))))
    (tSeq (tAsg (tC (.bl true)) (gName 5))
    (tSeq (tWhile (tB (tVar 5)) (tSeq (tAsg (tC (.bl false)) (gName 5))
    (tFor (iList K (tCB rKeysD (tCons (tVar 3) tNil))) (gName 4) (tIfS (tTest (tOp (rNeE K) (tLockRE (tLc (iKeys (tDGet (tVar 2) (tVar 4))) (gName 6) (tB (tDNotIn (tVar 6) (tVar 3))) (tVar 6) [6])) (tLst tNil))) (tSeq (tDrop (tDPop1 (tVar 3) (tVar 4)))
    (tAsg (tC (.bl true)) (gName 5))) tNext))))
    (tRet (tCB rSortedD (tCons (tVar 3) tNil))))))))
def t_brought_to (K : PySem.W.Frag) : TS :=
  (tSeq (tAsg tDNewK (gName 2))
    (tSeq (tFor (iList K (tCall (sp_casks_of K) [] E0 (tCons (tVar 0) tNil))) (gName 3) (sDPut (tVar 2) (tVar 3) (tC (.ref (He.ga K "NOUGHT_longrun")))))
    (tSeq (tFor (iList K (tCall (sp_brought K) [] E0 (tCons (tLc (iList K (tVar 0)) (gName 4) tYes (tOp (rIxT K) (tVar 4) (tC (.int 1))) [4]) (tCons (tVar 1) tNil)))) (gTup K 3 (gCons (gName 5) (gCons (gName 6) (gCons (gName 7) gNil)))) (tLockR (tFor (iItems (tVar 7)) (gTup K 2 (gCons (gName 4) (gCons (gName 8) gNil))) (tIfS (tB (tDIn (tVar 4) (tVar 2))) (sDPut (tVar 2) (tVar 4) (tCall (sp_plus K) [] E0 (tCons (tDGet (tVar 2) (tVar 4)) (tCons (tCall (sp_times K) [] E0 (tCons (tVar 6) (tCons (tVar 8) tNil))) tNil)))) tNext))))
    (tRet (tVar 2)))))
end Tc
set_option Elab.async false
set_option linter.all false
set_option maxRecDepth 100000
set_option maxHeartbeats 4000000
set_option exponentiation.threshold 10000
namespace Tc
open PySem PySem.Spec PyProof.Rows L2 Evl
/-- a dict that H did not know -/
def NewD (K : PySem.W.Frag) (H0 : Hp) (m : AL Rat) : HV := fun H v => ∃ e, v = .ref e ∧ H0 e = none ∧ DcM (Fr K) m H e
instance {K : PySem.W.Frag} {H0 : Hp} {m : AL Rat} : StayX (NewD K H0 m) := ⟨fun H H' v e ⟨d, e1, n, r⟩ => ⟨d, e1, n, r.ex e⟩⟩
section
variable {K : PySem.W.Frag} {σ : L2.St} {H H' : Hp} {ta tb te tx td ty tv tk : TE} {t : TT} {tu tw tz : TS} {D : Ends} {R : HV}
theorem EvN.pf {m : AL Rat} (h : EvN te σ H (DcM (Fr K) m)) : EvP te σ H (NewD K H m) := fun H1 e Q k => h H1 e Q fun p H2 n e2 r => k _ H2 e2 ⟨p, rfl, fresh_back e n, r⟩
theorem p_app {l : Addr} {xs : List V} {to : TE} (hl : H l = some (.lst xs)) (ha : EvP to σ H (Is (.ref l))) (h : EvP te σ H R) (hz : xs.length < 100000) (k : ∀ v H1, Ex H H1 → H1 l = some (.lst xs) → R H1 v → D.nx σ (upd H1 l (.lst (xs ++ [v])))) :
    tDrop (tBM K "list" rAppend to (tCons te tNil)) D σ H := ha H (Ex.refl H) _ fun a H1 e1 ra => by
  cases (show a = _ from ra)
  exact ⟨Or.inl ⟨rfl, xs, sq_of (e1 l _ hl)⟩, h H1 e1 _ fun v H2 e2 rv => ⟨l, xs, v, rfl, rfl, e2 l _ (e1 l _ hl), sz_lt hz, k v H2 (e1.trans e2) (e2 l _ (e1 l _ hl)) rv⟩⟩
theorem qp_app {l : Addr} {xs : List V} {to : TE} (hl : H l = some (.lst xs)) (ha : EvP to σ H (Is (.ref l))) (h : EvP te σ H R) (hz : xs.length < 100000) (k : ∀ v H1, Ex H H1 → H1 l = some (.lst xs) → R H1 v → tz D σ (upd H1 l (.lst (xs ++ [v])))) :
    tSeq (tDrop (tBM K "list" rAppend to (tCons te tNil))) tz D σ H := p_app (D := { D with nx := tz D }) hl ha h hz k
theorem Tp.three {R1 R2' R3 : HV} {v : V} (h : Tp K [R1, R2', R3] H v) : ∃ T a b c, v = .ref T ∧ SqT K H T [a, b, c] ∧ R1 H a ∧ R2' H b ∧ R3 H c := by
  obtain ⟨T, vs, e, s, r⟩ := h
  obtain ⟨a, b, c, rfl, ra, rb, rc⟩ := r.three
  exact ⟨T, a, b, c, e, s, ra, rb, rc⟩
theorem Tp.two {R1 R2' : HV} {v : V} (h : Tp K [R1, R2'] H v) : ∃ T a b, v = .ref T ∧ SqT K H T [a, b] ∧ R1 H a ∧ R2' H b := by
  obtain ⟨T, vs, e, s, r⟩ := h
  obtain ⟨a, b, rfl, ra, rb⟩ := r.two
  exact ⟨T, a, b, e, s, ra, rb⟩
end
section
variable {K : PySem.W.Frag}
theorem len_brought (K : PySem.W.Frag) : ∀ vs H Q E, sp_brought K vs H Q E → vs.length = 2 := by
  rintro vs H Q E ⟨v, w, names, steps, rfl, _⟩; rfl
theorem rd_brought (C : Cst K) (vs : List V) (H : Hp) (Q : VK) (E : XK) (h : sp_brought K vs H Q E) : t_brought K (BE Q) (start ["names", "steps", "found", "step", "lot", "amount", "ends"] vs) H := by
  obtain ⟨v, w, names, steps, rfl, hn, hs, ok, ls, k⟩ := h
  refine qp_asgN (en_nil (S := NmR)) fun p H1 np e1 h1 => ?_
  obtain ⟨kv0, hp0, pd0⟩ := h1
  have hkv0 : kv0 = [] := by cases pd0; rfl
  subst hkv0
  refine p_forL (D := { BE Q with nx := tRet (tVar 2) (BE Q) }) (B := H) (v := w) (ep_var rfl is_rfl) hs
    (fun i σ' H' => ∃ x3 x4 x5 x6, σ' = [some v, some w, some (.ref p), x3, x4, x5, x6] ∧ Ex H H' ∧ BrL K H (brFrom (steps.take i)) H' p) (rx_ex e1)
    (fun H2 e2 => ⟨none, none, none, none, rfl, e1.trans e2, [], e2 p _ hp0, List.nodup_nil, rfl, fun k t e b h => by simp at h⟩) (fun i σ' H' ⟨_, _, _, _, _, e, _⟩ => rx_ex e) ?_ ?_
  · rintro i st sv σ' H2 hi ⟨x3, x4, x5, x6, rfl, e2, z, hz, nd, lz, hall⟩ hsv
    have lb := brFrom_len (steps.take i)
    rw [List.length_take] at lb
    have lz100 : z.length ≤ 100 := by omega
    have hst : ∀ {H3 : Hp} {σ : L2.St} (e : Ex H2 H3) (h : σ[3]? = some (some sv)), EvP (tVar 3) σ H3 (StpR K st) := fun e h => ep_var h ((inferInstance : StayX (StpR K _)).ex _ _ _ e hsv)
    refine s_if (et_t (ep_eqS (st_kind (hst (Ex.refl _) rfl)) ep_s)) (fun hb H3 e3 => ?_) fun hb H3 e3 => ?_
    · cases st with
      | pass x y s => exact absurd (of_decide_eq_true hb) (show ¬ (("pass" : Str) = "bring") by decide +kernel)
      | bring l y x q =>
        have hst' : ∀ {H4 : Hp} {σ : L2.St} (e : Ex H3 H4) (h : σ[3]? = some (some sv)), EvP (tVar 3) σ H4 (Tp K [Is (.str "bring"), Tp K [Is (.str l), Is (.int y)], Is (.str x), Fr K q]) := fun e h => hst (e3.trans e) h
        refine p_app (R := Tp K [Tp K [Is (.str l), Is (.int y)], Fr K q, NewD K H3 [(x, 1)]]) (e3 p _ hz) (ep_var rfl is_rfl)
          ((ep_tup (eas_cons (ep_ixT (j := 1) (hst' (Ex.refl _) rfl) ep_i rfl) (eas_cons (ep_ixT (j := 3) (hst' (Ex.refl _) rfl) ep_i rfl) (eas_cons (EvN.pf (en_disp1 (ep_ixT (j := 2) (hst' (Ex.refl _) rfl) ep_i rfl) (ep_one C.o2))) eas_nil))) (show 3 ≤ 100000 by decide)))
          (by rw [List.length_map]; omega) fun t H4 e4 h4 ht => ?_
        obtain ⟨T, a, b, c, rfl, sT, ra, rb, e, rfl, ne, hd⟩ := ht.three
        have hnp : e ≠ p := fun z' => by rw [z', e3 p _ hz] at ne; cases ne
        have ntp : NT (H4 p) := by rw [h4]; trivial
        refine ⟨_, _, _, _, rfl, Ex.mut ((e2.trans e3).trans e4) np, ?_⟩
        rw [brFrom_snoc hi]
        refine ⟨z ++ [(.ref T, e)], ?_, ?_, ?_, ?_⟩
        · rw [List.map_append]; exact upd_same
        · rw [List.map_append]
          refine nd_snoc nd fun hm => ?_
          obtain ⟨⟨t', e'⟩, hm1, hm2⟩ := List.mem_map.mp hm
          obtain ⟨kk, hk⟩ := List.getElem?_of_mem hm1
          have hlt : kk < (brFrom (steps.take i)).length := by
            have := (List.getElem?_eq_some_iff.mp hk).1
            omega
          obtain ⟨_, _, _, kvs', q1, _⟩ := hall kk t' e' _ hk (List.getElem?_eq_getElem hlt)
          have hm2' : e' = e := hm2
          rw [hm2'] at q1
          have := e3 e _ q1
          rw [ne] at this
          cases this
        · show _ = (brFrom (steps.take i) ++ [_]).length
          rw [List.length_append, List.length_append, lz]; rfl
        · intro kk t' e' b' hk hb'
          have hb' : (brFrom (steps.take i) ++ [(⟨l, y, q, [(x, 1)]⟩ : Br)])[kk]? = some b' := hb'
          by_cases hlt : kk < z.length
          · rw [List.getElem?_append_left hlt] at hk
            rw [List.getElem?_append_left (by omega)] at hb'
            obtain ⟨q0, q1, q2, q3⟩ := hall kk t' e' b' hk hb'
            refine ⟨q0, q1, ?_, (q3.ex (e3.trans e4)).kpu q1 ExB.upd ntp⟩
            exact (inferInstance : Stay (Tp K _)).kp _ _ _ ((kp_ex (e3.trans e4)).trans (kp_upd ntp)) q2
          · have ek : kk = z.length := by
              have := (List.getElem?_eq_some_iff.mp hk).1
              rw [List.length_append] at this
              simp only [List.length_cons, List.length_nil] at this
              omega
            subst ek
            rw [List.getElem?_append_right (Nat.le_refl _), Nat.sub_self] at hk
            rw [lz, List.getElem?_append_right (Nat.le_refl _), Nat.sub_self] at hb'
            cases hk
            cases hb'
            refine ⟨fresh_back (e2.trans e3) ne, hnp, ?_, hd.kpu hnp ExB.upd ntp⟩
            exact (inferInstance : Stay (Tp K _)).kp _ _ _ (kp_upd ntp) ⟨T, _, rfl, sT, .cons ra (.cons rb (.cons rfl .nil))⟩
    · cases st with
      | bring l y x q => exact absurd rfl (of_decide_eq_false hb)
      | pass x y s =>
        refine s_forL (K := K) (a := p) (xs := z.map (·.1)) (ev_ep (ep_var rfl is_rfl)) (SqL.of (e3 p _ hz))
          (fun k σ'' H' => ∃ x4 x5 x6, σ'' = [some v, some w, some (.ref p), some sv, x4, x5, x6] ∧ Ex H H' ∧ H' p = some (.lst (z.map (·.1))) ∧ Kp H2 H' ∧
            ∀ (j : Nat) (t : V) (e : Addr) (b : Br), z[j]? = some (t, e) → (brFrom (steps.take i))[j]? = some b → DcM (Fr K) (if j < k then passOn b.m x y s else b.m) H' e)
          (fun H4 e4 => ⟨_, _, _, rfl, (e2.trans e3).trans e4, e4 p _ (e3 p _ hz), kp_ex (e3.trans e4), fun j t e b hj hb => by rw [if_neg (Nat.not_lt_zero j)]; exact (hall j t e b hj hb).2.2.2.ex (e3.trans e4)⟩)
          (fun k σ'' H' _ ⟨_, _, _, _, _, h, _⟩ => SqL.of h) ?_ ?_
        · rintro j tv σ'' H4 hj ⟨y4, y5, y6, rfl, e4, hp4, kp4, hall4⟩
          rw [List.getElem?_map] at hj
          obtain ⟨⟨t, e⟩, hzj, ht⟩ : ∃ te, z[j]? = some te ∧ te.1 = tv := by
            cases g : z[j]? with
            | none => rw [g] at hj; cases hj
            | some te => rw [g] at hj; exact ⟨te, rfl, Option.some.inj hj⟩
          have ht : t = tv := ht
          subst ht
          have hlt : j < (brFrom (steps.take i)).length := by
            have := (List.getElem?_eq_some_iff.mp hzj).1
            omega
          have hbj := List.getElem?_eq_getElem hlt
          generalize hbe : (brFrom (steps.take i))[j] = b at hbj
          obtain ⟨q0, q1, q2, q3⟩ := hall j t e b hzj hbj
          have q2' := (inferInstance : Stay (Tp K [Tp K [Is (.str b.lot), Is (.int b.year)], Fr K b.q, Is (.ref e)])).kp _ _ _ kp4 q2
          obtain ⟨T, a1, b1, c1, rfl, sT, ra, rb, rc⟩ := q2'.three
          cases (show c1 = _ from rc)
          refine tup3 sT ?_
          have hm := hall4 j _ e b hzj hbj
          rw [if_neg (Nat.lt_irrefl j)] at hm
          have okb : OkPass b.m x y s := ok i x y s hi b (List.mem_of_getElem? hbj)
          have hlen : b.m.length ≤ 1000 := by have := lb.2 b (List.mem_of_getElem? hbj); omega
          refine call_pass hm (ep_var (i := 6) rfl is_rfl) (ep_var (i := 3) rfl ((inferInstance : Stay (StpR K (.pass x y s))).kp _ _ _ kp4 hsv)) okb hlen fun H5 x5 h5 => ?_
          refine ⟨_, _, _, rfl, ExB.ex e4 q0 x5, x5 p _ (Ne.symm q1) hp4, kp4.trans (x5.kp hm.nt), fun j' t' e' b' hj' hb' => ?_⟩
          by_cases ej : j' = j
          · subst ej
            rw [hzj] at hj'
            cases hj'
            rw [hbj] at hb'
            cases hb'
            rw [if_pos (Nat.lt_succ_self _)]
            exact h5
          · have ne : e' ≠ e := fun z' => by
              subst z'
              have a1 : (z.map (·.2))[j']? = some e' := by rw [List.getElem?_map, hj']; rfl
              have a2 : (z.map (·.2))[j]? = some e' := by rw [List.getElem?_map, hzj]; rfl
              exact ej (nd_ix nd a1 a2)
            have g := (hall4 j' t' e' b' hj' hb').kpu ne x5 hm.nt
            have ee : (if j' < j + 1 then passOn b'.m x y s else b'.m) = (if j' < j then passOn b'.m x y s else b'.m) := by
              by_cases hh : j' < j
              · rw [if_pos hh, if_pos (by omega)]
              · rw [if_neg hh, if_neg (by omega)]
            rw [ee]
            exact g
        · rintro σ'' H4 ⟨y4, y5, y6, rfl, e4, hp4, kp4, hall4⟩
          refine ⟨_, _, _, _, rfl, e4, ?_⟩
          rw [brFrom_snoc hi]
          refine ⟨z, hp4, nd, by rw [lz]; simp [brStep], fun kk t e b hk hb => ?_⟩
          have hb : ((brFrom (steps.take i)).map fun b => { b with m := passOn b.m x y s })[kk]? = some b := hb
          rw [List.getElem?_map] at hb
          obtain ⟨b0, hb0, rfl⟩ : ∃ b0, (brFrom (steps.take i))[kk]? = some b0 ∧ { b0 with m := passOn b0.m x y s } = b := by
            cases g : (brFrom (steps.take i))[kk]? with
            | none => rw [g] at hb; cases hb
            | some b0 => rw [g] at hb; exact ⟨b0, rfl, Option.some.inj hb⟩
          obtain ⟨q0, q1, q2, q3⟩ := hall kk t e b0 hk hb0
          have g := hall4 kk t e b0 hk hb0
          rw [if_pos (by rw [List.length_map]; exact (List.getElem?_eq_some_iff.mp hk).1)] at g
          exact ⟨q0, q1, (inferInstance : Stay (Tp K _)).kp _ _ _ kp4 q2, g⟩
  · rintro σ' H2 ⟨x3, x4, x5, x6, rfl, e2, hB⟩
    rw [List.take_length] at hB
    refine p_ret (R := Is (.ref p)) (ep_var (i := 2) rfl is_rfl) fun u H3 e3 hu => ?_
    cases (show u = _ from hu)
    refine k p H3 np (e2.trans e3) ?_
    obtain ⟨z, hz, nd, lz, hall⟩ := hB
    refine ⟨z, e3 p _ hz, nd, lz, fun kk t e b hk hb => ?_⟩
    obtain ⟨q0, q1, q2, q3⟩ := hall kk t e b hk hb
    exact ⟨q0, q1, (inferInstance : Stay (Tp K _)).kp _ _ _ (kp_ex e3) q2, q3.ex e3⟩
end
end Tc
set_option Elab.async false
set_option linter.all false
set_option maxRecDepth 100000
set_option maxHeartbeats 4000000
set_option exponentiation.threshold 10000
namespace Tc
open PySem PySem.Spec PyProof.Rows L2 Evl
section
variable {K : PySem.W.Frag} {σ : L2.St} {H H' B : Hp} {ta tb te tx td ty tv tk : TE} {t : TT} {tu tw tz : TS} {D : Ends} {R : HV} {d : Addr} {kvs : List (Key × V)} {k : Str} {v : V}
theorem p_putG (hm : H d = some (.dK kvs)) [s : StayX R] (hl : kvs.length < 10000) (hv : EvP tv σ H R) (hd : EvP td σ H (Is (.ref d))) (hy : EvP ty σ H (Is (.str k)))
    (kk : ∀ v H1, Ex H H1 → R H1 v → H1 d = some (.dK kvs) → D.nx σ (upd H1 d (.dK (putK kvs (.inr k) v)))) : sDPut td ty tv D σ H := by
  refine hv H (Ex.refl H) _ fun v H1 e1 rv => ?_
  refine hd H1 e1 _ fun b H2 e2 rb => ?_
  refine hy H2 (e1.trans e2) _ fun c H3 e3 rc => ?_
  cases (show b = _ from rb)
  cases (show c = _ from rc)
  have e' := ((e1.trans e2).trans e3) d _ hm
  exact ⟨d, _, rfl, DPut.k (k := .inr k) e' (sz_lt (by omega)), kk v H3 ((e1.trans e2).trans e3) (s.ex _ _ _ (e2.trans e3) rv) e'⟩
theorem qp_putG (hm : H d = some (.dK kvs)) [s : StayX R] (hl : kvs.length < 10000) (hv : EvP tv σ H R) (hd : EvP td σ H (Is (.ref d))) (hy : EvP ty σ H (Is (.str k)))
    (kk : ∀ v H1, Ex H H1 → R H1 v → H1 d = some (.dK kvs) → tz D σ (upd H1 d (.dK (putK kvs (.inr k) v)))) : tSeq (sDPut td ty tv) tz D σ H := p_putG (D := { D with nx := tz D }) hm hl hv hd hy kk
theorem ep_dgetV (hd : EvP td σ H (Is (.ref d))) (hr : Rd H d (.dK kvs)) (hy : EvP ty σ H (Is (.str k))) (g : valV kvs (.inr k) = some v) : EvP (tDGet td ty) σ H (Is v) := fun H1 e Q kk =>
  hd H1 e _ fun a H2 e2 ra => hy H2 (e.trans e2) _ fun b H3 e3 rb => by
    cases (show a = _ from ra)
    cases (show b = _ from rb)
    exact ⟨d, v, rfl, Or.inl ⟨kvs, .inr k, ex_rd e3 (ex_rd e2 (ex_rd e hr)), rfl, g.symm⟩, kk v H3 (e2.trans e3) rfl⟩
theorem inV_str (s : Str) (ns : List Str) : inV (.str s) (ns.map V.str) = decide (s ∈ ns) := by
  unfold inV
  rw [List.any_map, Bool.eq_iff_iff]
  simp only [List.any_eq_true, decide_eq_true_eq, Function.comp]
  constructor
  · rintro ⟨x, hx, e⟩
    have e' : (x == s) = true := e
    rw [← eq_of_beq e']
    exact hx
  · intro h
    exact ⟨s, h, (show (s == s) = true from beq_self_eq_true s)⟩
theorem ls_strs {ns : List Str} (h : Ls K NmR ns H v) : ∃ a, v = .ref a ∧ SqL K H a (ns.map V.str) := by
  obtain ⟨a, vs, e, s, p⟩ := h
  refine ⟨a, e, ?_⟩
  have ev : vs = ns.map V.str := by
    clear s
    induction p with
    | nil => rfl
    | cons h _ ih => rw [List.map_cons, ← ih]; rw [show _ = V.str _ from h]
  rw [← ev]
  exact s
theorem ep_inL {s : Str} {ns : List Str} (hx : EvP ta σ H (Is (.str s))) (hl : EvP tb σ H (Ls K NmR ns)) : EvP (tOp (rIn K false) ta tb) σ H (Is (.bl (decide (s ∈ ns)))) := ep_op hx hl fun H1 a b e ra rb Q k => by
  cases (show a = _ from ra)
  obtain ⟨p, rfl, sq⟩ := ls_strs rb
  refine ⟨p, _, rfl, Or.inl sq, rfl, ?_, ?_⟩
  · rw [List.all_map]
    exact List.all_eq_true.mpr fun _ _ => rfl
  · rw [if_neg (by decide), inV_str]
    exact k _ H1 (Ex.refl _) rfl
/-- an inner row of a table: its address -/
theorem tab_row {W : AL (AL Rat)} {n : Str} {row : AL Rat} {kvs : List (Key × V)} (h : PD (fun row => Dc (Fr K) row) H kvs W) (g : aget W n = some row) : ∃ d kr, valV kvs (.inr n) = some (.ref d) ∧ Rd H d (.dK kr) ∧ PD (Fr K) H kr row := by
  obtain ⟨v, e, d, kr, rfl, r, p⟩ := h.has g
  exact ⟨d, kr, e, r, p⟩
end
section
variable {K : PySem.W.Frag}
theorem len_casks_table (K : PySem.W.Frag) : ∀ vs H Q E, sp_casks_table K vs H Q E → vs.length = 2 := by
  rintro vs H Q E ⟨v, w, names, steps, rfl, _⟩; rfl
theorem casks_le {house : List Pl} : (casksM house).length ≤ house.length := by
  unfold casksM
  rw [List.length_map]
  exact List.length_filter_le _ _
theorem rd_ne {H : Hp} {a p : Addr} {u : HO} (r : Rd H a u) (n : H p = none) : a ≠ p := by
  rcases r with r | ⟨o, r⟩
  · exact ne_of_none r n
  · exact ne_of_none r n
theorem rd_casks_table (C : Cst K) (vs : List V) (H : Hp) (Q : VK) (E : XK) (h : sp_casks_table K vs H Q E) : t_casks_table K (BE Q) (start ["house", "steps", "casks", "whole", "found", "name", "place", "share"] vs) H := by
  obtain ⟨v, w, house, steps, rfl, hh, hs, okt, k⟩ := h
  obtain ⟨okr, l1, l2⟩ := id okt
  refine qp_asgN (S := LsM NmR (casksM house)) (en_call (eas_cons (ep_var (i := 0) rfl hh) eas_nil) fun H1 us e r Q' k' => ?_) fun ac H1 nac e1 hac => ?_
  · obtain ⟨a, rfl, ra⟩ := r.one
    exact ⟨a, house, rfl, ra, l1, k'⟩
  refine qp_asg (R := TabR K (wholeM house steps)) (ep_call (eas_cons (ep_var (i := 0) (v := v) rfl ((inferInstance : StayX (Ls K (PlR K) house)).ex _ _ _ e1 hh)) (eas_cons (ep_var (i := 1) (v := w) rfl ((inferInstance : StayX (Ls K (StpR K) steps)).ex _ _ _ e1 hs)) eas_nil)) fun H2 us e r Q' k' => ?_) fun vw B e2 hw => ?_
  · obtain ⟨a, b, rfl, ra, rb⟩ := r.two
    exact ⟨a, b, house, steps, rfl, ra, rb, okt, k'⟩
  have hcB : Ls K NmR (casksM house) B (.ref ac) := (inferInstance : StayX (Ls K NmR (casksM house))).ex _ _ _ e2 hac.ls
  obtain ⟨dw, kvw, rfl, rw_, pw⟩ := hw
  have eHB : Ex H B := e1.trans e2
  refine qp_asgN (en_dnew (S := fun row => DcP 0 (Fr K) row)) fun p H3 np e3 h3 => ?_
  obtain ⟨kv0, hp0, pd0⟩ := h3
  have hkv0 : kv0 = [] := by cases pd0; rfl
  subst hkv0
  have lc := @casks_le house
  refine p_forL (D := { BE Q with nx := tRet (tVar 4) (BE Q) }) (B := B) (v := .ref ac) (ep_var rfl is_rfl) hcB
    (fun i σ' H' => ∃ x5 x6 x7, σ' = [some v, some w, some (.ref ac), some (.ref dw), some (.ref p), x5, x6, x7] ∧ Ex B H' ∧ DcM (DcP p (Fr K)) (ctabF (casksM house) (wholeM house steps) ((casksM house).take i)) H' p) (rx_ex e3)
    (fun H2 e2 => ⟨none, none, none, rfl, e3.trans e2, [], e2 p _ hp0, .nil⟩) (fun i σ' H' ⟨_, _, _, _, e, _⟩ => rx_ex e) ?_ ?_
  · rintro i n nv σ' Hl hin ⟨x5, x6, x7, rfl, eBl, kvs, hpl, pdl⟩ hnv
    cases (show nv = _ from hnv)
    have hnm := List.mem_of_getElem? hin
    have hrow := whole_get (steps := steps) hnm
    generalize hr : rowFrom [(n, 1)] steps = row at hrow
    obtain ⟨dr, kr, evr, rdr, pdr⟩ := tab_row pw hrow
    have lkv : kvs.length < 10000 := by
      rw [pdl.len]
      have := ctabF_len (casksM house) (wholeM house steps) ((casksM house).take i)
      rw [List.length_take] at this
      omega
    refine qp_putG (R := NewD K Hl []) hpl lkv (EvN.pf en_dnew) (ep_var (i := 4) rfl is_rfl) (ep_var (i := 5) rfl is_rfl) fun sv H1 el1 hsv hp1 => ?_
    obtain ⟨s, rfl, ns, hs0⟩ := hsv
    have nsp : s ≠ p := fun z => by rw [z, hpl] at ns; cases ns
    generalize hB2 : upd Hl p (.dK (putK kvs (.inr n) (.ref s))) = B2
    have hB2p : B2 p = some (.dK (putK kvs (.inr n) (.ref s))) := by rw [← hB2]; exact upd_same
    have e24 : Ex B2 (upd H1 p (.dK (putK kvs (.inr n) (.ref s)))) := fun a o ha => by
      by_cases z : a = p
      · rw [z, upd_same]; rw [z, hB2p] at ha; exact ha
      · rw [upd_ne z]
        rw [← hB2, upd_ne z] at ha
        exact el1 a o ha
    have eBB2 : Ex B B2 := by rw [← hB2]; exact Ex.mut eBl np
    have nB2s : B2 s = none := by rw [← hB2, upd_ne nsp]; exact ns
    have rd2 : Rd B2 dr (.dK kr) := ex_rd eBB2 rdr
    have ndrs : dr ≠ s := rd_ne rd2 nB2s
    obtain ⟨u0, hu0, hk0⟩ := lk_of rd2
    have hs4 : DcM (Fr K) [] (upd H1 p (.dK (putK kvs (.inr n) (.ref s)))) s := hs0.kpu nsp ExB.upd (by rw [hp1]; trivial)
    refine p_forItems (S := Fr K) (m := row) (d := dr) (kvs := kr) (B := B2) (K := K) (fun od => ep_dgetV (kvs := kvw) (ep_var rfl is_rfl) ?_ (ep_var rfl is_rfl) evr) rd2 (pdr.map fun x u hu => hu.ex eBB2) e24
      (fun BL j σ'' H' => ∃ x6 x7, σ'' = [some v, some w, some (.ref ac), some (.ref dw), some (.ref p), some (.str n), x6, x7] ∧ Ex BL H' ∧ DcM (Fr K) (restr (casksM house) (row.take j)) H' s)
      (fun od H5 e5 => ⟨x6, x7, rfl, (ex_lock e24).trans e5, (hs4.kpu (Ne.symm ndrs) ExB.upd ?_).ex e5⟩) (fun BL j σ'' H' ⟨_, _, _, e, _⟩ => e)
      (fun BL j σ'' Ha Hb ⟨y6, y7, es, e, hm⟩ eab => ⟨y6, y7, es, e.trans eab, hm.ex eab⟩) ?_ ?_
    · exact (rx_lock hu0 hk0).trans (rx_ex (ex_lock e24)) _ _ True.intro (ex_rd eBB2 rw_)
    · rw [e24 dr _ hu0]
      exact lk_nt hk0 (fun xs z => by cases z)
    · rintro od j ⟨pl, sh⟩ wv σ'' H5 rt bk hj ⟨y6, y7, rfl, e5, hm5⟩ hwv
      have rp : Rd H5 p (.dK (putK kvs (.inr n) (.ref s))) := rx_ex e5 _ _ True.intro ((rx_lock hu0 hk0) _ _ True.intro (.inl hB2p))
      have hc5 : Ls K NmR (casksM house) H5 (.ref ac) := (inferInstance : StayR (Ls K NmR (casksM house))).rx _ _ _ (((rx_ex eBB2).trans (rx_lock hu0 hk0)).trans (rx_ex e5)) hcB
      refine s_when (et_t (ep_inL (ep_var (i := 6) rfl is_rfl) (ep_var (i := 2) rfl hc5))) (fun hb H6 e6 => ?_) fun hb H6 e6 => ?_
      · have hmem : pl ∈ casksM house := of_decide_eq_true hb
        have hlen := restr_len (casksM house) (row.take j)
        have hrl := rowFrom_len [(n, 1)] steps
        rw [hr] at hrl
        simp only [List.length_cons, List.length_nil] at hrl
        rw [List.length_take] at hlen
        refine p_putM (hm5.ex e6) (by omega) (ep_var (i := 7) rfl (hwv.ex e6)) (ep_dgetV (ep_var (i := 4) rfl is_rfl) (ex_rd e6 rp) (ep_var (i := 5) rfl is_rfl) (by rw [valV_put, if_pos rfl])) (ep_var (i := 6) rfl is_rfl) fun H7 x7' h7 => ?_
        refine ⟨_, _, rfl, ExB.ex (e5.trans e6) ?_ x7', ?_⟩
        · show (lck B2 dr od (.dK kr)) s = none
          unfold lck
          rw [upd_ne (Ne.symm ndrs)]
          exact nB2s
        · unfold restr at h7 ⊢
          rw [fold_snoc hj, if_pos hmem]
          exact h7
      · have hmem : ¬ pl ∈ casksM house := of_decide_eq_false hb
        refine ⟨_, _, rfl, e5.trans e6, ?_⟩
        unfold restr at hm5 ⊢
        rw [fold_snoc hj, if_neg hmem]
        exact hm5.ex e6
    · rintro od u1 σ'' H5 hu1 ⟨y6, y7, rfl, e5, hm5⟩
      rw [List.take_length] at hm5
      have e25 : Ex B2 (upd H5 dr u1) := ex_unlock e5 hu1
      have h5d : H5 dr = some (.frz od (.dK kr)) := e5 dr _ upd_same
      refine ⟨_, _, _, rfl, eBB2.trans e25, ?_⟩
      have ec : ctabF (casksM house) (wholeM house steps) ((casksM house).take (i + 1)) = aput (ctabF (casksM house) (wholeM house steps) ((casksM house).take i)) n (restr (casksM house) row) := by
        unfold ctabF
        rw [fold_snoc hin, hrow]
        rfl
      rw [ec]
      refine ⟨_, e25 p _ hB2p, PD.put (PD.map pdl fun rw0 u hu => ?_) n ⟨s, rfl, nsp, ?_⟩⟩
      · obtain ⟨d', eu, nd', hd'⟩ := hu
        refine ⟨d', eu, nd', (DcM.ex ?_ e25)⟩
        rw [← hB2]
        exact hd'.kpu nd' ExB.upd (by rw [hpl]; trivial)
      · exact hm5.kpu (Ne.symm ndrs) ExB.upd (by rw [h5d]; trivial)
  · rintro σ' H2 ⟨x3, x4, x5, rfl, e2, kvs, h2, pd⟩
    rw [List.take_length] at pd
    refine p_ret (R := Is (.ref p)) (ep_var (i := 4) rfl is_rfl) fun u H3 e3 hu => ?_
    cases (show u = _ from hu)
    refine k _ H3 ((eHB.trans e2).trans e3) ⟨p, kvs, rfl, .inl (e3 p _ h2), pd.map2 fun row u hu => ?_⟩
    obtain ⟨d', e, n', r⟩ := hu
    subst e
    exact (r.ex e3).dc
end
end Tc
set_option Elab.async false
set_option linter.all false
set_option maxRecDepth 100000
set_option maxHeartbeats 4000000
set_option exponentiation.threshold 10000
namespace Tc
open PySem PySem.Spec PyProof.Rows L2 Evl
/-- the heap without p -/
def rem (H : Hp) (p : Addr) : Hp := fun a => if a = p then none else H a
theorem rem_none {H : Hp} {p : Addr} : rem H p p = none := if_pos rfl
theorem rem_ne {H : Hp} {p a : Addr} (h : a ≠ p) : rem H p a = H a := if_neg h
theorem ex_rem {H : Hp} {p : Addr} : Ex (rem H p) H := fun a o h => by
  by_cases z : a = p
  · rw [z, rem_none] at h; cases h
  · rw [rem_ne z] at h; exact h
theorem rem_exB {H H' : Hp} {p : Addr} (e : Ex (rem H p) H') : ExB p H H' := fun a o n h => e a o (by rw [rem_ne n]; exact h)
theorem exB_rem {H H' : Hp} {p : Addr} (e : ExB p H H') : Ex (rem H p) H' := fun a o h => by
  by_cases z : a = p
  · rw [z, rem_none] at h; cases h
  · rw [rem_ne z] at h; exact e a o z h
theorem kp_rem {H : Hp} {p : Addr} (n : NT (H p)) : Kp H (rem H p) := fun a xs r => by
  have ne : a ≠ p := fun e => by
    subst e
    rcases r with r | ⟨o', r⟩
    · rw [r] at n; exact n
    · rw [r] at n; exact n
  rcases r with r | ⟨o', r⟩
  · exact .inl (by rw [rem_ne ne]; exact r)
  · exact .inr ⟨o', by rw [rem_ne ne]; exact r⟩
theorem ex_rem_of {B H : Hp} {p : Addr} (e : Ex B H) (n : B p = none) : Ex B (rem H p) := fun a o h => by
  rw [rem_ne (ne_of_none h n)]
  exact e a o h
theorem DcM.rem {α : Type} {R : α → HV} [h : ∀ x, Stay (R x)] {m : AL α} {d p : Addr} {H : Hp} (r : DcM R m H d) (n : d ≠ p) (nt : NT (H p)) : DcM R m (rem H p) d := by
  obtain ⟨kvs, e2, pd⟩ := r
  exact ⟨kvs, by rw [rem_ne n]; exact e2, pd.map fun y v r => (h y).kp _ _ _ (kp_rem nt) r⟩
section
variable {K : PySem.W.Frag} {σ : L2.St} {H H' B : Hp} {tl ta tb te tx td ty tv tk : TE} {t : TT} {tu tw tz : TS} {D : Ends} {g : TG} {R : HV} {α : Type} {S : α → HV}
/-- over a new list, while the body changes the thing at p alone -/
theorem p_forN {xs : List α} {p : Addr} {o : HO} (h : EvN tl σ H (LsM S xs)) [∀ x, Stay (S x)] (hp : H p = some o) (Pv : Nat → L2.St → Hp → Prop) (h0 : ∀ H1, Ex H H1 → Pv 0 σ H1) (hnt : ∀ i σ' H', Pv i σ' H' → NT (H' p))
    (hs : ∀ i x w σ' H', xs[i]? = some x → Pv i σ' H' → S x H' w → g w σ' H' fun σ2 H2 => tu { D with nx := fun σ3 H3 => ExB p H' H3 ∧ Pv (i + 1) σ3 H3, ct := fun σ3 H3 => ExB p H' H3 ∧ Pv (i + 1) σ3 H3, bk := D.nx } σ2 H2) (hd : ∀ σ' H', Pv xs.length σ' H' → D.nx σ' H') : tFor (iList K tl) g tu D σ H := by
  refine h H (Ex.refl H) _ fun a H1 na e1 hl => ?_
  obtain ⟨vs, hv, hpv⟩ := hl
  have nap : a ≠ p := fun z => by rw [z, hp] at na; cases na
  have hlen : vs.length = xs.length := Paired.length hpv
  refine ⟨a, rfl, ⟨vs, SqL.of hv⟩, fun i m σ' H' => m = vs.length - i ∧ i ≤ vs.length ∧ Pv i σ' H' ∧ H' a = some (.lst vs) ∧ Kp H1 H', ⟨vs.length, by simp, Nat.zero_le _, h0 H1 e1, hv, Kp.refl _⟩, ?_⟩
  rintro i m σ' H' ⟨rfl, hi, pv, ha, kp⟩
  have w := walk_list (K := K) (a := a) (xs := vs)
  by_cases hlt : i < vs.length
  · refine .inr ⟨w.goes i H' hlt (SqL.of ha), fun σ3 H3 => ExB p H' H3 ∧ Pv (i + 1) σ3 H3, fun σ3 H3 ⟨x3, p3⟩ => ⟨vs.length - (i + 1), by omega, rfl, hlt, p3, x3 a _ nap ha, kp.trans (x3.kp (hnt _ _ _ pv))⟩, fun x H'' y => ?_⟩
    obtain ⟨rfl, ex⟩ := w.yields i H' x H'' hlt (SqL.of ha) y
    obtain ⟨z, ez, r⟩ := Paired.get0 hpv ex
    exact hs i z x σ' _ ez pv ((inferInstance : Stay (S z)).kp _ _ _ kp r)
  · have e : i = vs.length := by omega
    subst e
    exact .inl ⟨w.stops H' (SqL.of ha), hd σ' H' (by rw [← hlen]; exact pv)⟩
theorem en_lockE {β : Type} {U : β → HV} {xs : List β} {d : Addr} {kvs : List (Key × V)} (hr : Rd H d (.dK kvs)) (h : ∀ od, EvN te σ (lck H d od (.dK kvs)) (LsM U xs)) [∀ x, Stay (U x)] : EvN (tLockRE te) σ H (LsM U xs) := fun H1 e Q k => by
  obtain ⟨u0, hu, hk⟩ := lk_of (ex_rd e hr)
  refine ⟨d, .dK kvs, u0, hu, hk, fun od => h od _ (ex_lock e) _ fun p H2 np e2 r => ?_⟩
  have h2d : H2 d = some (.frz od (.dK kvs)) := e2 d _ upd_same
  have npd : p ≠ d := fun z => by
    have np : lck H1 d od (.dK kvs) p = none := np
    rw [z] at np
    unfold lck at np
    rw [upd_same] at np
    cases np
  refine ⟨h2d, k p _ (by have np : lck H1 d od (.dK kvs) p = none := np; unfold lck at np; rw [upd_ne npd] at np; exact np) (ex_unlock e2 hu) ?_⟩
  obtain ⟨ws, hw, pw⟩ := r
  exact ⟨ws, by rw [upd_ne npd]; exact hw, L2.Paired.mapP pw fun w x hx => (inferInstance : Stay (U x)).kp _ _ _ (kp_upd (by rw [h2d]; trivial)) hx⟩
theorem ep_neL {xs ys : List α} (ha : EvP ta σ H (Ls K S xs)) (hy : ys = []) [∀ x, StayR (S x)] (hb : EvP tb σ H (Ls K S ys)) : EvP (tOp (rNeE K) ta tb) σ H (Is (.bl (!xs.isEmpty))) := ep_op ha hb fun H1 a b e ra rb Q k => by
  subst hy
  obtain ⟨p, vs, rfl, s, pv⟩ := ra
  obtain ⟨q, ws, rfl, s2, pw⟩ := rb
  cases pw
  refine ⟨p, q, vs, rfl, rfl, s, s2, ?_⟩
  have e2 : vs.isEmpty = xs.isEmpty := by
    cases pv with
    | nil => rfl
    | cons _ _ => rfl
  rw [e2]
  exact k _ H1 (Ex.refl _) rfl
theorem EvN.ls {xs : List α} (h : EvN te σ H (LsM S xs)) : EvP te σ H (Ls K S xs) := h.p.weak fun H' v _ ⟨p, e, r⟩ => by
  subst e
  exact r.ls
theorem EvN.dc {m : AL α} (h : EvN te σ H (DcM S m)) : EvP te σ H (Dc S m) := h.p.weak fun H' v _ ⟨p, e, r⟩ => by
  subst e
  exact r.dc
theorem en_casks {house : List Pl} (h : EvP te σ H (Ls K (PlR K) house)) (hl : house.length ≤ 100) : EvN (tCall (sp_casks_of K) [] E0 (tCons te tNil)) σ H (LsM NmR (casksM house)) := en_call (eas_cons h eas_nil) fun H1 us e r Q' k' => by
  obtain ⟨a, rfl, ra⟩ := r.one
  exact ⟨a, house, rfl, ra, hl, k'⟩
theorem ep_whole {house : List Pl} {steps : List Stp} (h : EvP ta σ H (Ls K (PlR K) house)) (h2 : EvP tb σ H (Ls K (StpR K) steps)) (ok : OkTab house steps) : EvP (tCall (sp_whole_table K) [] E0 (tCons ta (tCons tb tNil))) σ H (TabR K (wholeM house steps)) := ep_call (eas_cons h (eas_cons h2 eas_nil)) fun H1 us e r Q' k' => by
  obtain ⟨a, b, rfl, ra, rb⟩ := r.two
  exact ⟨a, b, house, steps, rfl, ra, rb, ok, k'⟩
end
theorem aget_some_mem {α : Type} {m : AL α} {k : Str} (h : k ∈ m.map (·.1)) : ∃ x, aget m k = some x := by
  obtain ⟨p, hp, e⟩ := List.mem_map.mp h
  unfold aget
  cases g : (m.find? fun r => decide (r.1 = k)) with
  | none =>
    rw [List.find?_eq_none] at g
    exact absurd (decide_eq_true e) (g p hp)
  | some r => exact ⟨r.2, rfl⟩
theorem aget_mem {α : Type} {m : AL α} {k : Str} {x : α} (h : aget m k = some x) : k ∈ m.map (·.1) := by
  unfold aget at h
  cases g : (m.find? fun r => decide (r.1 = k)) with
  | none => rw [g] at h; cases h
  | some r =>
    have h1 := List.find?_some g
    exact List.mem_map.mpr ⟨r, List.mem_of_find?_eq_some g, of_decide_eq_true h1⟩
theorem aget_none {α : Type} {m : AL α} {k : Str} (h : aget m k = none) : ¬ k ∈ m.map (·.1) := fun z => by
  obtain ⟨x, e⟩ := aget_some_mem z
  rw [h] at e; cases e
theorem adel_keys {α : Type} {m : AL α} {k : Str} : (adel m k).map (·.1) = (m.map (·.1)).filter fun n => decide (n ≠ k) := by
  unfold adel
  rw [List.filter_map]
  rfl
theorem adel_lt {α : Type} {m : AL α} {k : Str} (h : k ∈ m.map (·.1)) : (adel m k).length < m.length := by
  obtain ⟨p, hp, e⟩ := List.mem_map.mp h
  unfold adel
  induction m with
  | nil => cases hp
  | cons a r ih =>
    rw [List.filter_cons]
    by_cases z : a.1 = k
    · rw [if_neg (by simpa using z)]
      exact Nat.lt_succ_of_le (List.length_filter_le _ _)
    · rw [if_pos (by simpa using z)]
      rcases List.mem_cons.mp hp with hp | hp
      · rw [hp] at e; exact absurd e z
      · rw [List.length_cons, List.length_cons]
        exact Nat.succ_lt_succ (ih (List.mem_map.mpr ⟨p, hp, e⟩) hp)
theorem aput_keys_new {α : Type} {m : AL α} {k : Str} {x : α} (h : ¬ k ∈ m.map (·.1)) : (aput m k x).map (·.1) = m.map (·.1) ++ [k] := by
  unfold aput
  rw [if_neg, List.map_append]
  · rfl
  · intro z
    obtain ⟨p, hp, e⟩ := List.any_eq_true.mp z
    exact h (List.mem_map.mpr ⟨p, hp, of_decide_eq_true e⟩)
abbrev BlR : Bool → HV := fun b => Is (.bl b)
section
variable {K : PySem.W.Frag}
theorem len_closed_casks (K : PySem.W.Frag) : ∀ vs H Q E, sp_closed_casks K vs H Q E → vs.length = 2 := by
  rintro vs H Q E ⟨v, w, names, steps, rfl, _⟩; rfl
theorem rd_closed_casks (C : Cst K) (vs : List V) (H : Hp) (Q : VK) (E : XK) (h : sp_closed_casks K vs H Q E) : t_closed_casks K (BE Q) (start ["house", "steps", "whole", "kept", "name", "grown", "place"] vs) H := by
  obtain ⟨v, w, house, steps, rfl, hh, hs, okt, ndc, l60, noc, k⟩ := h
  have l1 := okt.2.1
  refine qp_asg (ep_whole (ep_var (i := 0) rfl hh) (ep_var (i := 1) rfl hs) okt) fun vw B e1 hw => ?_
  obtain ⟨dw, kvw, rfl, rw_, pw⟩ := id hw
  refine qp_asgN (en_dnew (S := BlR)) fun p H2 np e2 h2 => ?_
  have npH : H p = none := fresh_back e1 np
  obtain ⟨kv0, hp0, pd0⟩ := id h2
  refine p_forN (S := NmR) (p := p) (en_casks (ep_var (i := 0) rfl ((inferInstance : StayX (Ls K (PlR K) house)).ex _ _ _ (e1.trans e2) hh)) l1) hp0
    (fun i σ' H' => ∃ x4 x5 x6 kept, σ' = [some v, some w, some (.ref dw), some (.ref p), x4, x5, x6] ∧ Ex B H' ∧ DcM BlR kept H' p ∧ kept.map (·.1) = (casksM house).take i)
    (fun H1 e => ⟨_, _, _, [], rfl, e2.trans e, h2.ex e, rfl⟩) (fun i σ' H' ⟨_, _, _, _, _, _, h, _⟩ => h.nt) ?_ ?_
  · rintro i n nv σ' H3 hi ⟨x4, x5, x6, kept, rfl, e3, hm, hk⟩ hnv
    cases (show nv = _ from hnv)
    have hlk : kept.length = ((casksM house).take i).length := by rw [← hk, List.length_map]
    rw [List.length_take] at hlk
    refine p_putM (x := true) hm (by omega) (ep_c rfl) (ep_var rfl is_rfl) (ep_var rfl is_rfl) fun H4 x4' h4 => ⟨x4', _, _, _, _, rfl, ExB.ex e3 np x4', h4, ?_⟩
    rw [aput_keys_new, hk, List.take_add_one, hi]
    · rfl
    · rw [hk]
      intro hm
      obtain ⟨j, hj⟩ := List.getElem?_of_mem hm
      rw [List.getElem?_take] at hj
      split at hj
      · have := nd_ix ndc hj hi
        omega
      · cases hj
  · rintro σ' H3 ⟨x4, x5, x6, kept0, rfl, e3, hm0, hk0⟩
    rw [List.take_length] at hk0
    refine qp_asg (R := Is (.bl true)) (ep_c rfl) fun u H4 e4 hu => ?_
    cases (show u = _ from hu)
    refine q_while (fun m σ' H' => ∃ x4 x6 g kept, σ' = [some v, some w, some (.ref dw), some (.ref p), x4, some (.bl g), x6] ∧ Ex B H' ∧ DcM BlR kept H' p ∧ (kept.map (·.1)).Nodup ∧ (∀ n ∈ kept.map (·.1), n ∈ casksM house) ∧ m = (if g = true then kept.length + 1 else 0) ∧
      (g = false → ∀ n ∈ kept.map (·.1), ∀ row, aget (wholeM house steps) n = some row → ∀ r ∈ row, r.1 ∈ kept.map (·.1))) (kept0.length + 1)
      ⟨_, _, true, kept0, rfl, e3.trans e4, hm0.ex e4, by rw [hk0]; exact ndc, by rw [hk0]; exact fun n h => h, rfl, fun z => nomatch z⟩ ?_
    rintro m σ' H5 ⟨y4, y6, g, kept, rfl, e5, hm5, nd5, sub5, rfl, stab⟩
    refine ⟨g, et_b (ep_var (i := 5) rfl is_rfl), fun hg H6 e6 => ?_, fun hg H6 e6 => ?_⟩
    · subst hg
      refine ⟨fun σ' H' => ∃ m', m' < kept.length + 1 ∧ ∃ x4 x6 g kept, σ' = [some v, some w, some (.ref dw), some (.ref p), x4, some (.bl g), x6] ∧ Ex B H' ∧ DcM BlR kept H' p ∧ (kept.map (·.1)).Nodup ∧ (∀ n ∈ kept.map (·.1), n ∈ casksM house) ∧ m' = (if g = true then kept.length + 1 else 0) ∧
        (g = false → ∀ n ∈ kept.map (·.1), ∀ row, aget (wholeM house steps) n = some row → ∀ r ∈ row, r.1 ∈ kept.map (·.1)), fun σ2 H2 h => by rw [if_pos rfl]; exact h, ?_⟩
      refine qp_asg (R := Is (.bl false)) (ep_c rfl) fun u H7 e7 hu => ?_
      cases (show u = _ from hu)
      have hm7 := hm5.ex (e6.trans e7)
      obtain ⟨kv7, hp7, pd7⟩ := id hm7
      have hkeys : EvN (tCB rKeysD (tCons (tVar 3) tNil)) [some v, some w, some (.ref dw), some (.ref p), y4, some (.bl false), y6] H7 (LsM NmR (kept.map (·.1))) := en_cb (eas_cons (ep_var (i := 3) rfl is_rfl) eas_nil) fun H8 us e8 r Q' k' => by
        obtain ⟨a, rfl, ra⟩ := r.one
        cases (show a = _ from ra)
        refine ⟨p, kv7, rfl, .inl (e8 p _ hp7), fun q hq => k' q _ hq (Ex.new hq) ⟨_, upd_same, ?_⟩⟩
        rw [pd7.keys]
        generalize kept.map (·.1) = ns
        induction ns with
        | nil => exact .nil
        | cons a r ih => exact .cons rfl ih
      refine p_forN (S := NmR) (p := p) hkeys hp7
        (fun i σ' H' => ∃ x4 g x6 kept', σ' = [some v, some w, some (.ref dw), some (.ref p), x4, some (.bl g), x6] ∧ Ex B H' ∧ DcM BlR kept' H' p ∧ (kept'.map (·.1)).Nodup ∧ (∀ n ∈ kept'.map (·.1), n ∈ kept.map (·.1)) ∧ (∀ n ∈ (kept.map (·.1)).drop i, n ∈ kept'.map (·.1)) ∧
          ((g = false ∧ kept' = kept ∧ ∀ n ∈ (kept.map (·.1)).take i, ∀ row, aget (wholeM house steps) n = some row → ∀ r ∈ row, r.1 ∈ kept.map (·.1)) ∨ (g = true ∧ kept'.length < kept.length)))
        (fun H1 e => ⟨_, false, _, kept, rfl, ((e5.trans e6).trans e7).trans e, hm7.ex e, nd5, fun n h => h, fun n h => by rw [List.drop_zero] at h; exact h, .inl ⟨rfl, rfl, fun n h => by rw [List.take_zero] at h; cases h⟩⟩) (fun i σ' H' ⟨_, _, _, _, _, _, h, _⟩ => h.nt) ?_ ?_
      · rintro i n nv σ' H8 hi ⟨z4, g, z6, kept', rfl, e8, hm8, nd8, sub8, top8, alt⟩ hnv
        cases (show nv = _ from hnv)
        have hnk : n ∈ kept.map (·.1) := List.mem_of_getElem? hi
        have hnc := sub5 n hnk
        have hrow := whole_get (steps := steps) hnc
        generalize rowFrom [(n, 1)] steps = row at hrow
        obtain ⟨dr, kr, evr, rdr, pdr⟩ := tab_row pw hrow
        have hnd : n ∈ (kept.map (·.1)).drop i := by
          have hlt := (List.getElem?_eq_some_iff.mp hi).1
          rw [List.drop_eq_getElem_cons hlt]
          have : (kept.map (·.1))[i] = n := (List.getElem?_eq_some_iff.mp hi).2
          rw [this]
          exact List.mem_cons_self
        have hn' := top8 n hnd
        obtain ⟨bn, hbn⟩ := aget_some_mem hn'
        have dropS : ∀ n' ∈ (kept.map (·.1)).drop (i + 1), n' ∈ (kept.map (·.1)).drop i ∧ n' ≠ n := fun n' h' => by
          obtain ⟨j, hj⟩ := List.getElem?_of_mem h'
          rw [List.getElem?_drop] at hj
          refine ⟨List.mem_of_getElem? (i := j + 1) (by rw [List.getElem?_drop]; rw [show i + (j + 1) = i + 1 + j by omega]; exact hj), fun z => ?_⟩
          rw [z] at hj
          have := nd_ix nd5 hj hi
          omega
        -- the places that are not kept
        have test : EvT (tTest (tOp (rNeE K) (tLockRE (tLc (iKeys (tDGet (tVar 2) (tVar 4))) (gName 6) (tB (tDNotIn (tVar 6) (tVar 3))) (tVar 6) [6])) (tLst tNil))) [some v, some w, some (.ref dw), some (.ref p), some (.str n), some (.bl g), z6] H8 (!((row.filter fun r => (aget kept' r.1).isNone).map (·.1)).isEmpty) := by
          have rd8 : Rd H8 dr (.dK kr) := ex_rd e8 rdr
          obtain ⟨u0, hu0, hk0'⟩ := lk_of rd8
          refine et_t (ep_neL (S := NmR) (ys := []) (EvN.ls (en_lockE rd8 fun od => ?_)) rfl (EvN.ls en_nil))
          have ndp : dr ≠ p := rd_ne rdr np
          refine en_lc (U := NmR) (p := fun r : Str × Rat => (aget kept' r.1).isNone) (f := fun r : Str × Rat => r.1) (ei_keys (S := Fr K) (m := row) (kvs := kr) (od := od) (ep_dgetV (kvs := kvw) (ep_var rfl is_rfl) ((rx_lock hu0 hk0') _ _ True.intro (ex_rd e8 rw_)) (ep_var rfl is_rfl) evr) upd_same ((pdr.map fun x u hu => hu.kp ((kp_ex e8).trans (kp_rx (rx_lock hu0 hk0')))))) ?_ fun r x H9 e9 hr hx => ?_
          · have h1 := pdr.len
            have : row.length ≤ 40000 := by
              have hr2 := whole_get (steps := steps) hnc
              rw [hrow] at hr2
              cases hr2
              have := rowFrom_len [(n, 1)] steps
              simp only [List.length_cons, List.length_nil] at this
              have := okt.2.2
              omega
            exact this
          · cases (show x = _ from hx)
            have hm9 : DcM BlR kept' H9 p := (hm8.kpu (Ne.symm ndp) ExB.upd (by rw [hu0]; exact lk_nt hk0' (fun xs z => by cases z))).ex e9
            exact ⟨[some v, some w, some (.ref dw), some (.ref p), some (.str n), some (.bl g), some (.str r.1)], fun Q q => q, rfl, et_b (ep_dnotin (ep_var (i := 6) rfl is_rfl) (ep_var (i := 3) rfl hm9.dc)), fun _ => ep_var (i := 6) rfl is_rfl⟩
        refine s_if test (fun hb H9 e9 => ?_) fun hb H9 e9 => ?_
        · refine p_popM (D := { nx := _, rt := _, bk := _, ct := _ }) (hm8.ex e9) hbn (ep_var rfl is_rfl) (ep_var rfl is_rfl) fun H10 x10 h10 => ?_
          dsimp only
          refine p_asg (R := Is (.bl true)) (ep_c rfl) fun u H11 e11 hu => ?_
          cases (show u = _ from hu)
          have hlt := adel_lt hn'
          refine ⟨(ExB.ofEx e9).trans (x10.trans (ExB.ofEx e11)), _, true, _, adel kept' n, rfl, (ExB.ex (e8.trans e9) np x10).trans e11, h10.ex e11, ?_, fun n' h' => ?_, fun n' h' => ?_, .inr ⟨rfl, ?_⟩⟩
          · rw [adel_keys]; exact List.Pairwise.filter _ nd8
          · rw [adel_keys] at h'
            exact sub8 n' (List.mem_filter.mp h').1
          · rw [adel_keys]
            obtain ⟨a1, a2⟩ := dropS n' h'
            exact List.mem_filter.mpr ⟨top8 n' a1, decide_eq_true a2⟩
          · rcases alt with ⟨_, rfl, _⟩ | ⟨_, h'⟩
            · exact hlt
            · omega
        · have hall : ∀ r ∈ row, r.1 ∈ kept'.map (·.1) := fun r hr => by
            cases g' : aget kept' r.1 with
            | some x => exact aget_mem g'
            | none =>
              have hmem : r ∈ row.filter fun r => (aget kept' r.1).isNone := List.mem_filter.mpr ⟨hr, by rw [g']; rfl⟩
              have hne : ((row.filter fun r => (aget kept' r.1).isNone).map (·.1)).isEmpty = true := by simpa using hb
              rw [List.isEmpty_iff] at hne
              have h3 := List.mem_map_of_mem (f := (·.1)) hmem
              rw [hne] at h3
              cases h3
          refine ⟨ExB.ofEx e9, _, g, _, kept', rfl, e8.trans e9, hm8.ex e9, nd8, sub8, fun n' h' => top8 n' (dropS n' h').1, ?_⟩
          rcases alt with ⟨hg0, rfl, hst⟩ | ⟨hg1, hlt⟩
          · refine .inl ⟨hg0, rfl, fun n' h' row' hr' => ?_⟩
            rw [List.take_add_one, hi] at h'
            rcases List.mem_append.mp h' with h' | h'
            · exact hst n' h' row' hr'
            · have h'' : n' = n := by simpa using h'
              subst h''
              rw [hrow] at hr'
              cases hr'
              exact hall
          · exact .inr ⟨hg1, hlt⟩
      · rintro σ' H8 ⟨z4, g, z6, kept', rfl, e8, hm8, nd8, sub8, top8, alt⟩
        rw [List.take_length] at alt
        rcases alt with ⟨hg0, rfl, hst⟩ | ⟨hg1, hlt⟩
        · subst hg0
          exact ⟨0, Nat.succ_pos _, _, _, false, kept', rfl, e8, hm8, nd8, sub5, rfl, fun _ => hst⟩
        · subst hg1
          exact ⟨kept'.length + 1, by omega, _, _, true, kept', rfl, e8, hm8, nd8, fun n hn => sub5 n (sub8 n hn), by rw [if_pos rfl], fun z => nomatch z⟩
    · subst hg
      have hnil : kept.map (·.1) = [] := noc _ nd5 fun n hn => ⟨sub5 n hn, stab rfl n hn⟩
      have hk : kept = [] := List.map_eq_nil_iff.mp hnil
      subst hk
      obtain ⟨kvs, hp6, pd6⟩ := hm5.ex e6
      have hkv : kvs = [] := by cases pd6; rfl
      subst hkv
      refine p_retN (S := LsM NmR []) (en_cb (eas_cons (ep_var (i := 3) rfl is_rfl) eas_nil) fun H8 us e8 r Q' k' => ?_) fun q H9 nq e9 hq => k q H9 (fresh_back ((e1.trans e5).trans e6) nq) (((e1.trans e5).trans e6).trans e9) hq
      obtain ⟨a, rfl, ra⟩ := r.one
      cases (show a = _ from ra)
      refine ⟨p, [], [], rfl, .inl (e8 p _ hp6), rfl, by decide, fun ys q hy _ hq => ?_⟩
      have hys : ys = [] := List.Perm.eq_nil hy
      subst hys
      exact k' q _ hq (Ex.new hq) ⟨[], upd_same, .nil⟩
end
end Tc
set_option Elab.async false
set_option linter.all false
set_option maxRecDepth 100000
set_option maxHeartbeats 4000000
set_option exponentiation.threshold 10000
namespace Tc
open PySem PySem.Spec PyProof.Rows L2 Evl
section
variable {K : PySem.W.Frag}
theorem addRow_snoc {f : AL Rat} {q : Rat} {row : AL Rat} {i : Nat} {p : Str × Rat} (h : row[i]? = some p) : addRow f q (row.take (i + 1)) = addOne (addRow f q (row.take i)) q p := fold_snoc h
/-- found[place] = plus(found[place], times(amount, share)) -/
theorem p_addOne {f : AL Rat} {q : Rat} {pl : Str} {sh z : Rat} {p : Addr} {σ : L2.St} {H : Hp} {D : Ends} {tf ta ts tp : TE} (hm : DcM (Fr K) f H p) (hf : EvP tf σ H (Is (.ref p))) (hp : EvP tp σ H (Is (.str pl))) (ha : EvP ta σ H (Fr K q)) (hs : EvP ts σ H (Fr K sh)) (hz : aget f pl = some z) (hl : f.length ≤ 1000) (ok : OkOne f q (pl, sh))
    (k : ∀ H', ExB p H H' → DcM (Fr K) (addOne f q (pl, sh)) H' p → D.nx σ H') :
    sDPut tf tp (tCall (sp_plus K) [] E0 (tCons (tDGet tf tp) (tCons (tCall (sp_times K) [] E0 (tCons ta (tCons ts tNil))) tNil))) D σ H := by
  obtain ⟨o1, o2⟩ := ok z hz
  have hd : EvP tf σ H (Dc (Fr K) f) := hf.weak fun H' v e h => by
    cases (show v = _ from h)
    exact (hm.ex e).dc
  refine p_putM hm (by omega) (ep_plus (ep_dget hd hp hz) (ep_times ha hs o1) o2) hf hp fun H' x h' => k H' x ?_
  unfold addOne
  rw [hz]
  exact h'
def ForK (J : It) (g : TG) (tb : TS) (D : Ends) (σ : L2.St) (H : Hp) : Prop := ∃ W : Nat → Nat → L2.St → Hp → Prop, (∃ m, W 0 m σ H) ∧ ∀ i m σ H, W i m σ H →
  (J.stop i H ∧ D.nx σ H) ∨ (J.go i H ∧ ∃ N : L2.St → Hp → Prop, (∀ σ' H', N σ' H' → ∃ m', m' < m ∧ W (i + 1) m' σ' H') ∧ ∀ x H', J.yld i H x H' → g x σ H' fun σ2 H2 => tb { D with nx := N, ct := N, bk := D.nx } σ2 H2)
theorem for_call {sp : Sp} {E : XK} {ta : TA} {σ : L2.St} {H : Hp} {Rs : List HV} {g : TG} {tb : TS} {D : Ends} (h : EvAs ta σ H Rs)
    (k : ∀ H1 vs, Ex H H1 → AllP Rs H1 vs → sp vs H1 (fun x H2 => ∃ a, x = .ref a ∧ (∃ xs, SqL K H2 a xs) ∧ ForK (Itl K a) g tb D σ H2) E) : tFor (iList K (tCall sp [] E ta)) g tb D σ H :=
  h H (Ex.refl H) _ fun vs H1 e r => by
    show sp (vs ++ []) H1 _ E
    rw [List.append_nil]
    exact k H1 vs e r
theorem len_brought_to (K : PySem.W.Frag) : ∀ vs H Q E, sp_brought_to K vs H Q E → vs.length = 2 := by
  rintro vs H Q E ⟨v, w, names, steps, rfl, _⟩; rfl
theorem rd_brought_to (C : Cst K) (vs : List V) (H : Hp) (Q : VK) (E : XK) (h : sp_brought_to K vs H Q E) : t_brought_to K (BE Q) (start ["house", "steps", "found", "name", "place", "lot", "amount", "ends", "share"] vs) H := by
  obtain ⟨v, w, house, steps, rfl, hh, hs, ⟨okb, l2, l1, oka⟩, k⟩ := h
  have hhS := (inferInstance : StayX (Ls K (PlR K) house)).ex
  refine qp_asgN (en_dnew (S := Fr K)) fun p H1 np e1 h1 => ?_
  obtain ⟨kv0, hp0, pd0⟩ := id h1
  have lcs := @casks_le house
  refine p_forN (S := NmR) (p := p) (en_casks (ep_var (i := 0) rfl (hhS _ _ _ e1 hh)) l1) hp0
    (fun i σ' H' => ∃ x3 x4 x5 x6 x7 x8, σ' = [some v, some w, some (.ref p), x3, x4, x5, x6, x7, x8] ∧ Ex H H' ∧ DcM (Fr K) (zerosM ((casksM house).take i)) H' p)
    (fun H2 e => ⟨_, _, _, _, _, _, rfl, e1.trans e, h1.ex e⟩) (fun i σ' H' ⟨_, _, _, _, _, _, _, _, h⟩ => h.nt) ?_ ?_
  · rintro i n nv σ' H3 hi ⟨x3, x4, x5, x6, x7, x8, rfl, e3, hm⟩ hnv
    cases (show nv = _ from hnv)
    have hl := zerosM_len ((casksM house).take i)
    rw [List.length_take] at hl
    refine p_putM (x := (0 : Rat)) hm (by omega) (ep_zero C.z3) (ep_var rfl is_rfl) (ep_var rfl is_rfl) fun H4 x4' h4 => ⟨x4', _, _, _, _, _, _, rfl, ExB.ex e3 np x4', ?_⟩
    unfold zerosM at h4 ⊢
    rw [fold_snoc hi]
    exact h4
  · rintro σ' H3 ⟨x3, x4, x5, x6, x7, x8, rfl, e3, hm3⟩
    rw [List.take_length] at hm3
    have hlen0 : (zerosM (casksM house)).length ≤ 100 := by have := zerosM_len (casksM house); omega
    dsimp only
    show tFor _ _ _ _ _ _
    refine for_call (eas_cons (EvN.ls (K := K) (ep_names (v := v) (i := 0) (j := 4) (house := house) (σ := [some v, some w, some (.ref p), x3, x4, x5, x6, x7, x8]) (by omega) (ep_var rfl (hhS _ _ _ e3 hh)) (fun _ => rfl) (fun _ => rfl))) (eas_cons (ep_var (i := 1) rfl ((inferInstance : StayX (Ls K (StpR K) steps)).ex _ _ _ e3 hs)) eas_nil)) fun H4 us e4 r => ?_
    obtain ⟨a, b, rfl, ra, rb⟩ := r.two
    refine ⟨a, b, _, steps, rfl, ra, rb, okb, l2, fun pl H5 npl e5 hB => ?_⟩
    obtain ⟨z, hz, ndz, lz, hall⟩ := hB
    have hp4 : ∃ kv, H4 p = some (.dK kv) := by
      obtain ⟨kv, e, _⟩ := hm3
      exact ⟨kv, e4 p _ e⟩
    have nplp : pl ≠ p := fun zz => by
      obtain ⟨kv, e⟩ := hp4
      rw [zz, e] at npl
      cases npl
    have hm5 : DcM (Fr K) (zerosM (casksM house)) H5 p := (hm3.ex e4).ex e5
    refine ⟨pl, rfl, ⟨_, SqL.of hz⟩, for_list (xs := z.map (·.1)) (fun i σ' H' => ∃ x3 x4 x5 x6 x7 x8, σ' = [some v, some w, some (.ref p), x3, x4, x5, x6, x7, x8] ∧ Ex H H' ∧ ExB p H5 H' ∧ DcM (Fr K) (btoF (zerosM (casksM house)) ((brFrom steps).take i)) H' p)
      ⟨_, _, _, _, _, _, rfl, (e3.trans e4).trans e5, ExB.ofEx (Ex.refl _), hm5⟩ (fun i σ' H' _ ⟨_, _, _, _, _, _, _, _, x, _⟩ => SqL.of (x pl _ nplp hz)) ?_ ?_⟩
    · rintro i tv σ' H6 hj ⟨y3, y4, y5, y6, y7, y8, rfl, e6, x6', hm6⟩
      rw [List.getElem?_map] at hj
      obtain ⟨⟨t, e⟩, hzj, ht⟩ : ∃ te, z[i]? = some te ∧ te.1 = tv := by
        cases g : z[i]? with
        | none => rw [g] at hj; cases hj
        | some te => rw [g] at hj; exact ⟨te, rfl, Option.some.inj hj⟩
      have ht : t = tv := ht
      subst ht
      have hlt : i < (brFrom steps).length := by
        have := (List.getElem?_eq_some_iff.mp hzj).1
        omega
      have hbj := List.getElem?_eq_getElem hlt
      generalize hbe : (brFrom steps)[i] = b at hbj
      obtain ⟨q0, q1, q2, q3⟩ := hall i t e b hzj hbj
      have nep : e ≠ p := fun zz => by
        obtain ⟨kv, e'⟩ := hp4
        rw [zz, e'] at q0
        cases q0
      have kp6 : Kp H5 H6 := x6'.kp hm5.nt
      have q2' := (inferInstance : Stay (Tp K [Tp K [Is (.str b.lot), Is (.int b.year)], Fr K b.q, Is (.ref e)])).kp _ _ _ kp6 q2
      obtain ⟨T, a1, b1, c1, rfl, sT, ra, rb', rc⟩ := q2'.three
      cases (show c1 = _ from rc)
      refine tup3 sT ?_
      have he6 : DcM (Fr K) b.m H6 e := q3.kpu nep x6' hm5.nt
      obtain ⟨ke, hke, pke⟩ := he6.rem nep hm6.nt
      have hlenf : (btoF (zerosM (casksM house)) ((brFrom steps).take i)).length ≤ 100 := by rw [btoF_len]; exact hlen0
      refine p_forItems (S := Fr K) (K := K) (m := b.m) (d := e) (kvs := ke) (B := rem H6 p) (fun od => ep_var rfl is_rfl) (.inl hke) pke ex_rem
        (fun BL j σ'' H' => ∃ x4 x8, σ'' = [some v, some w, some (.ref p), y3, x4, some a1, some b1, some (.ref e), x8] ∧ Ex BL H' ∧ Fr K b.q H' b1 ∧ DcM (Fr K) (addRow (btoF (zerosM (casksM house)) ((brFrom steps).take i)) b.q (b.m.take j)) H' p)
        (fun od H7 e7 => ⟨_, _, rfl, (ex_lock ex_rem).trans e7, (rb'.kp (kp_upd ?_)).ex e7, (hm6.kpu (Ne.symm nep) ExB.upd ?_).ex e7⟩) (fun BL j σ'' H' ⟨_, _, _, e, _⟩ => e)
        (fun BL j σ'' Ha Hb ⟨z4, z8, es, e, hb, hm⟩ eab => ⟨z4, z8, es, e.trans eab, hb.ex eab, hm.ex eab⟩) ?_ ?_
      · rw [ex_rem e _ hke]; trivial
      · rw [ex_rem e _ hke]; trivial
      · rintro od j ⟨nm, sh⟩ wv σ'' H7 rt bk hj' ⟨z4, z8, rfl, e7, hb7, hm7⟩ hwv
        have hlen7 : (addRow (btoF (zerosM (casksM house)) ((brFrom steps).take i)) b.q (b.m.take j)).length ≤ 1000 := by rw [addRow_len]; omega
        have okj := oka i b hbj j (nm, sh) hj'
        have nB : (lck (rem H6 p) e od (.dK ke)) p = none := by unfold lck; rw [upd_ne (Ne.symm nep)]; exact rem_none
        refine s_when (et_b (ep_din (ep_var (i := 4) rfl is_rfl) (ep_var (i := 2) rfl hm7.dc))) (fun hb H8 e8 => ?_) fun hb H8 e8 => ?_
        · obtain ⟨zz, hzz⟩ := Option.isSome_iff_exists.mp hb
          refine p_addOne (hm7.ex e8) (ep_var (i := 2) rfl is_rfl) (ep_var (i := 4) rfl is_rfl) (ep_var (i := 6) rfl (hb7.ex e8)) (ep_var (i := 8) rfl (hwv.ex e8)) hzz hlen7 okj fun H9 x9 h9 => ?_
          exact ⟨_, _, rfl, ExB.ex (e7.trans e8) nB x9, (hb7.ex e8).kp (x9.kp (hm7.ex e8).nt), by rw [addRow_snoc hj']; exact h9⟩
        · have hnone : aget (addRow (btoF (zerosM (casksM house)) ((brFrom steps).take i)) b.q (b.m.take j)) nm = none := by simpa using hb
          refine ⟨_, _, rfl, e7.trans e8, hb7.ex e8, ?_⟩
          rw [addRow_snoc hj']
          unfold addOne
          rw [hnone]
          exact hm7.ex e8
      · rintro od u0 σ'' H7 hu0 ⟨z4, z8, rfl, e7, hb7, hm7⟩
        rw [List.take_length] at hm7
        have eR : Ex (rem H6 p) (upd H7 e u0) := ex_unlock e7 hu0
        have x67 : ExB p H6 (upd H7 e u0) := rem_exB eR
        have h7e : H7 e = some (.frz od (.dK ke)) := e7 e _ upd_same
        refine ⟨_, _, _, _, _, _, rfl, ExB.ex e6 np x67, x6'.trans x67, ?_⟩
        unfold btoF
        rw [fold_snoc hbj]
        exact hm7.kpu (Ne.symm nep) ExB.upd (by rw [h7e]; trivial)
    · rintro σ' H6 ⟨y3, y4, y5, y6, y7, y8, rfl, e6, x6', hm6⟩
      have hfull : (brFrom steps).take (z.map (·.1)).length = brFrom steps := List.take_of_length_le (by rw [List.length_map]; omega)
      rw [hfull] at hm6
      refine p_ret (R := Is (.ref p)) (ep_var (i := 2) rfl is_rfl) fun u H7 e7 hu => ?_
      cases (show u = _ from hu)
      exact k p H7 np (e6.trans e7) (hm6.ex e7)
end
end Tc
set_option Elab.async false
set_option linter.all false
set_option maxRecDepth 100000
set_option maxHeartbeats 4000000
set_option exponentiation.threshold 10000
namespace Tc
open PySem PySem.Spec PyProof.Rows L2 Evl
/-! ### led through a round -/
def leadF (f : AL Rat) (A : AL (AL Rat)) (t : AL Rat) : AL Rat := t.foldl (fun f p => addRow f p.2 ((aget A p.1).getD [])) f
def ledM (A : AL (AL Rat)) (t : AL Rat) : AL Rat := leadF (zerosM (t.map (·.1))) A t
structure LedOk (A : AL (AL Rat)) (t : AL Rat) : Prop where
  nd : (t.map (·.1)).Nodup
  len : t.length ≤ 100
  row : ∀ n ∈ t.map (·.1), ∃ row, aget A n = some row ∧ ∀ r ∈ row, r.1 ∈ t.map (·.1)
  ok : ∀ i p, t[i]? = some p → OkAdd (leadF (zerosM (t.map (·.1))) A (t.take i)) p.2 ((aget A p.1).getD [])
def sp_next_round (K : PySem.W.Frag) : Sp := fun vs H Q _ => ∃ v w A t, vs = [v, w] ∧ TabR K A H v ∧ Dc (Fr K) t H w ∧ LedOk A t ∧ RetN H (DcM (Fr K) (ledM A t)) Q
def sp_law_led (K : PySem.W.Frag) : Sp := sp_next_round K
theorem leadF_len (f : AL Rat) (A : AL (AL Rat)) (t : AL Rat) : (leadF f A t).length = f.length := by
  unfold leadF
  induction t generalizing f with
  | nil => rfl
  | cons p r ih => rw [List.foldl_cons, ih, addRow_len]
theorem zerosM_get {ns : List Str} {n : Str} (h : n ∈ ns) : aget (zerosM ns) n = some 0 := by
  unfold zerosM
  suffices g : ∀ acc : AL Rat, (n ∈ ns ∨ aget acc n = some 0) → aget (ns.foldl (fun m n => aput m n 0) acc) n = some 0 from g [] (.inl h)
  clear h
  induction ns with
  | nil =>
    intro acc h
    rcases h with h | h
    · cases h
    · exact h
  | cons a r ih =>
    intro acc h
    rw [List.foldl_cons]
    refine ih _ ?_
    by_cases e : n = a
    · right
      rw [aget_put, if_pos e]
    · rcases h with h | h
      · rcases List.mem_cons.mp h with h | h
        · exact absurd h e
        · exact .inl h
      · right
        rw [aget_put, if_neg e, h]
theorem addOne_has {f : AL Rat} {q : Rat} {p : Str × Rat} {n : Str} (h : (aget f n).isSome) : (aget (addOne f q p) n).isSome := by
  unfold addOne
  cases g : aget f p.1 with
  | none => exact h
  | some z =>
    simp only [aget_put]
    split
    · rfl
    · exact h
theorem addRow_has {f : AL Rat} {q : Rat} {row : AL Rat} {n : Str} (h : (aget f n).isSome) : (aget (addRow f q row) n).isSome := by
  unfold addRow
  induction row generalizing f with
  | nil => exact h
  | cons p r ih => rw [List.foldl_cons]; exact ih (addOne_has h)
theorem leadF_has {f : AL Rat} {A : AL (AL Rat)} {t : AL Rat} {n : Str} (h : (aget f n).isSome) : (aget (leadF f A t) n).isSome := by
  unfold leadF
  induction t generalizing f with
  | nil => exact h
  | cons p r ih => rw [List.foldl_cons]; exact ih (addRow_has h)
theorem aget_of_nd {α : Type} {m : AL α} (nd : (m.map (·.1)).Nodup) {p : Str × α} (h : p ∈ m) : aget m p.1 = some p.2 := by
  induction m with
  | nil => cases h
  | cons a r ih =>
    rw [List.map_cons, List.nodup_cons] at nd
    unfold aget
    rw [List.find?_cons]
    by_cases e : a.1 = p.1
    · rw [decide_eq_true e]
      rcases List.mem_cons.mp h with h | h
      · rw [h]; rfl
      · exact absurd (List.mem_map.mpr ⟨p, h, rfl⟩) (e ▸ nd.1)
    · rw [decide_eq_false e]
      rcases List.mem_cons.mp h with h | h
      · exact absurd (by rw [h]) e
      · exact ih nd.2 h
/-! ### the bound -/
def leftStep (A : AL (AL Rat)) (l : AL Rat) : AL Rat := A.map fun p => (p.1, fsum (p.2.map fun r => r.2 * (aget l r.1).getD 0))
def left0 (A : AL (AL Rat)) : AL Rat := A.map fun p => (p.1, 1)
def leftN (A : AL (AL Rat)) : Nat → AL Rat
  | 0 => left0 A
  | k + 1 => leftStep A (leftN A k)
def mostM (l : AL Rat) : Rat := l.foldl (fun m p => if m < p.2 then p.2 else m) 0
structure BndOk (A : AL (AL Rat)) (k : Nat) : Prop where
  nd : (A.map (·.1)).Nodup
  len : A.length ≤ 100
  rows : ∀ p ∈ A, p.2.length ≤ 100 ∧ ∀ r ∈ p.2, r.1 ∈ A.map (·.1)
  pos : 1 ≤ k
  no : ∀ j, 1 ≤ j → j < k → ¬ mostM (leftN A j) < 1
  yes : mostM (leftN A k) < 1
  ok : ∀ j, j < k → ∀ p ∈ A, (∀ r ∈ p.2, Ok (r.2 * (aget (leftN A j) r.1).getD 0)) ∧ ∀ i, Ok (fsum ((p.2.map fun r => r.2 * (aget (leftN A j) r.1).getD 0).take i))
def sp_bound_of (K : PySem.W.Frag) : Sp := fun vs H Q _ => ∃ v A k, vs = [v] ∧ TabR K A H v ∧ BndOk A k ∧ RetP H (Tp K [Is (.int (k : Int)), Fr K (mostM (leftN A k))]) Q
end Tc
set_option Elab.async false
set_option linter.all false
set_option maxRecDepth 100000
namespace Tc
open PySem PySem.Spec PyProof.Rows L2 Evl
def t_next_round (K : PySem.W.Frag) : TS :=
  (tSeq (tAsg tDNewK (gName 2))
    (tSeq (tLockR (tFor (iKeys (tVar 1)) (gName 3) (sDPut (tVar 2) (tVar 3) (tC (.ref (He.ga K "NOUGHT_ages"))))))
    (tSeq (tLockR (tFor (iItems (tVar 1)) (gTup K 2 (gCons (gName 3) (gCons (gName 4) gNil))) (tLockR (tFor (iItems (tDGet (tVar 0) (tVar 3))) (gTup K 2 (gCons (gName 5) (gCons (gName 6) gNil))) (sDPut (tVar 2) (tVar 5) (tCall (sp_plus K) [] E0 (tCons (tDGet (tVar 2) (tVar 5)) (tCons (tCall (sp_times K) [] E0 (tCons (tVar 4) (tCons (tVar 6) tNil))) tNil))))))))
    (tRet (tVar 2)))))
def t_law_led (K : PySem.W.Frag) : TS :=
  (tSeq (tAsg tDNewK (gName 2))
    (tSeq (tLockR (tFor (iKeys (tVar 1)) (gName 3) (sDPut (tVar 2) (tVar 3) (tTup (tCons (tC (.int 0)) (tCons (tC (.int 1)) tNil))))))
    (tSeq (tLockR (tFor (iKeys (tVar 1)) (gName 3) (tLockR (tFor (iItems (tDGet (tVar 0) (tVar 3))) (gTup K 2 (gCons (gName 4) (gCons (gName 5) gNil))) (sDPut (tVar 2) (tVar 4) (tCall (sp_law_plus K) [] E0 (tCons (tDGet (tVar 2) (tVar 4)) (tCons (tCall (sp_law_times K) [] E0 (tCons (tDGet (tVar 1) (tVar 3)) (tCons (tVar 5) tNil))) tNil))))))))
    (tRet (tVar 2)))))
def t_bound_of (K : PySem.W.Frag) : TS :=
  (tSeq (tAsg tDNewK (gName 1))
    (tSeq (tLockR (tFor (iKeys (tVar 0)) (gName 2) (sDPut (tVar 1) (tVar 2) (tC (.ref (He.ga K "WHOLE_longrun"))))))
    (tSeq (tAsg (tC (.int 0)) (gName 3))
    (tWhile (tB (tC (.bl true))) (tSeq (tAsg (tOp rPlusI (tVar 3) (tC (.int 1))) (gName 3))
    (tSeq (tAsg tDNewK (gName 4))
    (tSeq (tLockR (tFor (iKeys (tVar 0)) (gName 2) (sDPut (tVar 4) (tVar 2) (tCall (sp_sum_of K) [] E0 (tCons (tLockRE (tLc (iItems (tDGet (tVar 0) (tVar 2))) (gTup K 2 (gCons (gName 6) (gCons (gName 7) gNil))) tYes (tCall (sp_times K) [] E0 (tCons (tVar 7) (tCons (tDGet (tVar 1) (tVar 6)) tNil))) [6, 7])) tNil)))))
    (tSeq (tAsg (tVar 4) (gName 1))
    (tSeq (tAsg (tC (.ref (He.ga K "NOUGHT_longrun"))) (gName 5))
    (tSeq (tLockR (tFor (iKeys (tVar 1)) (gName 2) (tIfS (tB (tCall (sp_under K) [] E0 (tCons (tVar 5) (tCons (tDGet (tVar 1) (tVar 2)) tNil)))) (tAsg (tDGet (tVar 1) (tVar 2)) (gName 5)) tNext)))
    (tIfS (tB (tCall (sp_under K) [] E0 (tCons (tVar 5) (tCons (tC (.ref (He.ga K "WHOLE_longrun"))) tNil)))) (tRet (tTup (tCons (tVar 3) (tCons (tVar 5) tNil)))) tNext)))))))))))
end Tc
set_option Elab.async false
set_option linter.all false
set_option maxRecDepth 100000
set_option maxHeartbeats 4000000
set_option exponentiation.threshold 10000
namespace Tc
open PySem PySem.Spec PyProof.Rows L2 Evl
theorem rx_rem {H : Hp} {p a : Addr} {u : HO} (n : a ≠ p) (r : Rd H a u) : Rd (rem H p) a u := by
  rcases r with r | ⟨o, r⟩
  · exact .inl (by rw [rem_ne n]; exact r)
  · exact .inr ⟨o, by rw [rem_ne n]; exact r⟩
section
variable {K : PySem.W.Frag}
/-- for place, share in row.items(): found[place] = plus(found[place], times(amount, share)) -/
theorem p_rowLoop {σf : Option V → Option V → L2.St} {j1 j2 : Nat} {a0 b0 : Option V} {H : Hp} {D : Ends} {td ta : TE} {p dr : Addr} {kr : List (Key × V)} {row f : AL Rat} {q : Rat}
    (hs : ∀ a b x y, ((σf a b).set j1 x).set j2 y = σf x y) (h2 : ∀ a b, (σf a b)[2]? = some (some (.ref p))) (hj1 : ∀ a b, (σf a b)[j1]? = some a) (hj2 : ∀ a b, (σf a b)[j2]? = some b)
    (rd : Rd H dr (.dK kr)) (pd : PD (Fr K) H kr row) (ne : dr ≠ p) (hd : ∀ od, EvP td (σf a0 b0) (lck H dr od (.dK kr)) (Is (.ref dr))) (hm : DcM (Fr K) f H p) (hk : ∀ r ∈ row, (aget f r.1).isSome) (hl : f.length ≤ 100) (ok : OkAdd f q row)
    (ha : ∀ od a b H', Ex (lck (rem H p) dr od (.dK kr)) H' → EvP ta (σf a b) H' (Fr K q))
    (k : ∀ a b H', ExB p H H' → DcM (Fr K) (addRow f q row) H' p → D.nx (σf a b) H') :
    tLockR (tFor (iItems td) (gTup K 2 (gCons (gName j1) (gCons (gName j2) gNil))) (sDPut (tVar 2) (tVar j1) (tCall (sp_plus K) [] E0 (tCons (tDGet (tVar 2) (tVar j1)) (tCons (tCall (sp_times K) [] E0 (tCons ta (tCons (tVar j2) tNil))) tNil))))) D (σf a0 b0) H := by
  have rdr : Rd (rem H p) dr (.dK kr) := rx_rem ne rd
  refine p_forItems (S := Fr K) (K := K) (m := row) (d := dr) (kvs := kr) (B := rem H p) hd rdr (pd.map fun x u hu => hu.kp (kp_rem hm.nt)) ex_rem
    (fun BL j σ' H' => ∃ a b, σ' = σf a b ∧ Ex BL H' ∧ DcM (Fr K) (addRow f q (row.take j)) H' p)
    (fun od H1 e1 => ⟨a0, b0, rfl, (ex_lock ex_rem).trans e1, (hm.kpu (Ne.symm ne) ExB.upd ?_).ex e1⟩) (fun BL j σ' H' ⟨_, _, _, e, _⟩ => e)
    (fun BL j σ' Ha Hb ⟨a, b, es, e, h⟩ eab => ⟨a, b, es, e.trans eab, h.ex eab⟩) ?_ ?_
  · obtain ⟨u0, hu0, hk0⟩ := lk_of rd
    rw [hu0]
    exact lk_nt hk0 (fun xs z => by cases z)
  · rintro od j ⟨nm, sh⟩ wv σ' H1 rt bk hj ⟨a, b, rfl, e1, hm1⟩ hwv
    rw [hs]
    have nB : (lck (rem H p) dr od (.dK kr)) p = none := by unfold lck; rw [upd_ne (Ne.symm ne)]; exact rem_none
    obtain ⟨z, hz⟩ := Option.isSome_iff_exists.mp (addRow_has (q := q) (row := row.take j) (hk (nm, sh) (List.mem_of_getElem? hj)))
    refine p_addOne hm1 (ep_var (h2 _ _) is_rfl) (ep_var (hj1 _ _) is_rfl) (ha od _ _ H1 e1) (ep_var (hj2 _ _) hwv) hz (by rw [addRow_len]; omega) (ok j (nm, sh) hj) fun H2 x2 h2' => ?_
    exact ⟨_, _, rfl, ExB.ex e1 nB x2, by rw [addRow_snoc hj]; exact h2'⟩
  · rintro od u0 σ' H1 hu0 ⟨a, b, rfl, e1, hm1⟩
    rw [List.take_length] at hm1
    have eR : Ex (rem H p) (upd H1 dr u0) := ex_unlock e1 hu0
    have h1d : H1 dr = some (.frz od (.dK kr)) := e1 dr _ upd_same
    exact k a b _ (rem_exB eR) (hm1.kpu (Ne.symm ne) ExB.upd (by rw [h1d]; trivial))
/-- all to nought, by the keys of a dict -/
theorem p_zeros {m : AL Rat} {d p : Addr} {kvs : List (Key × V)} {σf : Option V → L2.St} {j ip : Nat} {a0 : Option V} {B H : Hp} {D : Ends} {td tz : TE}
    (hs : ∀ a x, (σf a).set j x = σf x) (hp : ∀ a, (σf a)[ip]? = some (some (.ref p))) (hj : ∀ a, (σf a)[j]? = some a)
    (hd : ∀ od, EvP td (σf a0) (lck H d od (.dK kvs)) (Is (.ref d))) (rd : Rd B d (.dK kvs)) (pd : PD (Fr K) B kvs m) (e : Ex B H) (np : B p = none) (h0 : H p = some (.dK [])) (hl : m.length ≤ 100)
    (hz : ∀ a H', EvP tz (σf a) H' (Fr K 0)) (k : ∀ a H', Ex B H' → DcM (Fr K) (zerosM (m.map (·.1))) H' p → D.nx (σf a) H') :
    tLockR (tFor (iKeys td) (gName j) (sDPut (tVar ip) (tVar j) tz)) D (σf a0) H := by
  have ndp : d ≠ p := rd_ne rd np
  refine p_forKeys (S := Fr K) (m := m) (d := d) (kvs := kvs) (B := B) hd rd pd e
    (fun BL i σ' H' => ∃ a, σ' = σf a ∧ Ex BL H' ∧ DcM (Fr K) (zerosM ((m.map (·.1)).take i)) H' p)
    (fun od H1 e1 => ⟨a0, rfl, (ex_lock e).trans e1, [], e1 p _ (by unfold lck; rw [upd_ne (Ne.symm ndp)]; exact h0), .nil⟩) (fun BL i σ' H' ⟨_, _, e, _⟩ => e) ?_ ?_
  · rintro od i ⟨n, q⟩ σ' H1 rt bk hi ⟨a, rfl, e1, hm1⟩
    rw [hs]
    have nB : (lck B d od (.dK kvs)) p = none := by unfold lck; rw [upd_ne (Ne.symm ndp)]; exact np
    have hlz := zerosM_len ((m.map (·.1)).take i)
    rw [List.length_take, List.length_map] at hlz
    refine p_putM (x := (0 : Rat)) hm1 (by omega) (hz _ _) (ep_var (hp _) is_rfl) (ep_var (hj _) is_rfl) fun H2 x2 h2 => ⟨_, rfl, ExB.ex e1 nB x2, ?_⟩
    unfold zerosM at h2 ⊢
    rw [fold_snoc (show (m.map (·.1))[i]? = some n by rw [List.getElem?_map, hi]; rfl)]
    exact h2
  · rintro od u0 σ' H1 hu0 ⟨a, rfl, e1, hm1⟩
    have ht : (m.map (·.1)).take m.length = m.map (·.1) := List.take_of_length_le (by rw [List.length_map]; exact Nat.le_refl _)
    rw [ht] at hm1
    have h1d : H1 d = some (.frz od (.dK kvs)) := e1 d _ upd_same
    exact k a _ (ex_unlock e1 hu0) (hm1.kpu (Ne.symm ndp) ExB.upd (by rw [h1d]; trivial))
theorem len_next_round (K : PySem.W.Frag) : ∀ vs H Q E, sp_next_round K vs H Q E → vs.length = 2 := by
  rintro vs H Q E ⟨v, w, A, t, rfl, _⟩; rfl
abbrev len_law_led := len_next_round
theorem rd_next_round (C : Cst K) (vs : List V) (H : Hp) (Q : VK) (E : XK) (h : sp_next_round K vs H Q E) : t_next_round K (BE Q) (start ["shares", "totals", "found", "name", "amount", "place", "share"] vs) H := by
  obtain ⟨v, w, A, t, rfl, hA, hT, lo, k⟩ := h
  obtain ⟨dA, kA, rfl, rA, pA⟩ := id hA
  obtain ⟨dt, kt, rfl, rT, pT⟩ := id hT
  refine qp_asgN (en_dnew (S := Fr K)) fun p H1 np e1 h1 => ?_
  obtain ⟨kv0, hp0, pd0⟩ := id h1
  have hkv0 : kv0 = [] := by cases pd0; rfl
  subst hkv0
  refine p_zeros (D := { BE Q with nx := tSeq _ _ (BE Q) }) (σf := fun x3 => [some (.ref dA), some (.ref dt), some (.ref p), x3, none, none, none]) (j := 3) (ip := 2) (a0 := none) (fun _ _ => rfl) (fun _ => rfl) (fun _ => rfl) (fun od => ep_var rfl is_rfl) rT pT e1 np hp0 lo.len (fun a H' => ep_zero C.z4) fun x3 H2 e2 hm2 => ?_
  dsimp only
  have hz := zerosM_len (t.map (·.1))
  rw [List.length_map] at hz
  have hzl := Nat.le_trans hz lo.len
  have hnt : dt ≠ p := rd_ne rT np
  refine p_forItems (D := { BE Q with nx := tRet (tVar 2) (BE Q) }) (S := Fr K) (K := K) (m := t) (d := dt) (kvs := kt) (B := H) (fun od => ep_var rfl is_rfl) rT pT e2
    (fun BL i σ' H' => ∃ x3 x4 x5 x6, σ' = [some (.ref dA), some (.ref dt), some (.ref p), x3, x4, x5, x6] ∧ Ex BL H' ∧ DcM (Fr K) (leadF (zerosM (t.map (fun p : Str × Rat => p.1))) A (t.take i)) H' p)
    (fun od H3 e3 => ⟨_, _, _, _, rfl, (ex_lock e2).trans e3, (hm2.kpu (Ne.symm hnt) ExB.upd ?_).ex e3⟩) (fun BL j σ' H' ⟨_, _, _, _, _, e, _⟩ => e)
    (fun BL j σ' Ha Hb ⟨a, b, c, d, es, e, h⟩ eab => ⟨a, b, c, d, es, e.trans eab, h.ex eab⟩) ?_ ?_
  · obtain ⟨u0, hu0, hk0⟩ := lk_of rT
    rw [e2 dt _ hu0]
    exact lk_nt hk0 (fun xs z => by cases z)
  · rintro od i ⟨n, q⟩ wv σ' H3 rt bk hi ⟨x3', x4, x5, x6, rfl, e3, hm3⟩ hwv
    obtain ⟨u0, hu0, hk0⟩ := lk_of rT
    have rxB : Rx H (lck H dt od (.dK kt)) := rx_lock hu0 hk0
    have rx3 : Rx H H3 := rxB.trans (rx_ex e3)
    have nB : (lck H dt od (.dK kt)) p = none := by unfold lck; rw [upd_ne (Ne.symm hnt)]; exact np
    have hmem := List.mem_of_getElem? hi
    have hnk : n ∈ t.map (·.1) := List.mem_map.mpr ⟨(n, q), hmem, rfl⟩
    obtain ⟨row, hrow, hsub⟩ := lo.row n hnk
    obtain ⟨dr, kr, evr, rdr, pdr⟩ := tab_row pA hrow
    have okr := lo.ok i (n, q) hi
    have er : (aget A n).getD [] = row := by rw [hrow]; rfl
    simp only [er] at okr
    have ndr : dr ≠ p := rd_ne rdr np
    have rd3 : Rd H3 dr (.dK kr) := rx3 _ _ True.intro rdr
    obtain ⟨u1, hu1, hk1⟩ := lk_of rd3
    refine p_rowLoop (σf := fun a b => [some (.ref dA), some (.ref dt), some (.ref p), some (.str n), some wv, a, b]) (j1 := 5) (j2 := 6) (a0 := x5) (b0 := x6) (fun _ _ _ _ => rfl) (fun _ _ => rfl) (fun _ _ => rfl) (fun _ _ => rfl) rd3 (pdr.map fun x u hu => hu.kp (kp_rx rx3)) ndr
      (fun od' => ep_dgetV (kvs := kA) (ep_var rfl is_rfl) ((rx_lock hu1 hk1) _ _ True.intro (rx3 _ _ True.intro rA)) (ep_var rfl is_rfl) evr) hm3 (fun r hr => leadF_has (by rw [zerosM_get (hsub r hr)]; rfl)) (by rw [leadF_len]; exact hzl) okr
      (fun od' a b H' e' => ep_var (i := 4) rfl ((hwv.kp ((kp_rem hm3.nt).trans (kp_upd ?_))).ex e')) fun a b H4 x4' hm4 => ?_
    · rw [rem_ne ndr, hu1]
      exact lk_nt hk1 (fun xs z => by cases z)
    · refine ⟨_, _, _, _, rfl, ExB.ex e3 nB x4', ?_⟩
      unfold leadF
      rw [fold_snoc hi]
      simp only [er]
      exact hm4
  · rintro od u0 σ' H3 hu0 ⟨x3', x4, x5, x6, rfl, e3, hm3⟩
    rw [List.take_length] at hm3
    have h3d : H3 dt = some (.frz od (.dK kt)) := e3 dt _ upd_same
    have eF : Ex H (upd H3 dt u0) := ex_unlock e3 hu0
    have hmF : DcM (Fr K) (ledM A t) (upd H3 dt u0) p := hm3.kpu (Ne.symm hnt) ExB.upd (by rw [h3d]; trivial)
    dsimp only
    refine p_ret (R := Is (.ref p)) (ep_var (i := 2) rfl is_rfl) fun u H5 e5 hu => ?_
    cases (show u = _ from hu)
    exact k p H5 np (eF.trans e5) (hmF.ex e5)
theorem rd_law_led (C : Cst K) (vs : List V) (H : Hp) (Q : VK) (E : XK) (h : sp_law_led K vs H Q E) : t_law_led K (BE Q) (start ["_law_tab", "_law_totals", "_law_found", "_law_name", "_law_place", "_law_share"] vs) H := by
  obtain ⟨v, w, A, t, rfl, hA, hT, lo, k⟩ := h
  obtain ⟨dA, kA, rfl, rA, pA⟩ := id hA
  obtain ⟨dt, kt, rfl, rT, pT⟩ := id hT
  refine qp_asgN (en_dnew (S := Fr K)) fun p H1 np e1 h1 => ?_
  obtain ⟨kv0, hp0, pd0⟩ := id h1
  have hkv0 : kv0 = [] := by cases pd0; rfl
  subst hkv0
  refine p_zeros (D := { BE Q with nx := tSeq _ _ (BE Q) }) (σf := fun x3 => [some (.ref dA), some (.ref dt), some (.ref p), x3, none, none]) (j := 3) (ip := 2) (a0 := none) (fun _ _ => rfl) (fun _ => rfl) (fun _ => rfl) (fun od => ep_var rfl is_rfl) rT pT e1 np hp0 lo.len (fun a H' => ep_frac (n := 0) (d := 1) (eas_cons ep_i (eas_cons ep_i eas_nil)) ok0 rfl rfl) fun x3 H2 e2 hm2 => ?_
  dsimp only
  have hz := zerosM_len (t.map (·.1))
  rw [List.length_map] at hz
  have hzl := Nat.le_trans hz lo.len
  have hnt : dt ≠ p := rd_ne rT np
  refine p_forKeys (D := { BE Q with nx := tRet (tVar 2) (BE Q) }) (S := Fr K) (m := t) (d := dt) (kvs := kt) (B := H) (fun od => ep_var rfl is_rfl) rT pT e2
    (fun BL i σ' H' => ∃ x3 x4 x5, σ' = [some (.ref dA), some (.ref dt), some (.ref p), x3, x4, x5] ∧ Ex BL H' ∧ DcM (Fr K) (leadF (zerosM (t.map (fun p : Str × Rat => p.1))) A (t.take i)) H' p)
    (fun od H3 e3 => ⟨_, _, _, rfl, (ex_lock e2).trans e3, (hm2.kpu (Ne.symm hnt) ExB.upd ?_).ex e3⟩) (fun BL j σ' H' ⟨_, _, _, _, e, _⟩ => e) ?_ ?_
  · obtain ⟨u0, hu0, hk0⟩ := lk_of rT
    rw [e2 dt _ hu0]
    exact lk_nt hk0 (fun xs z => by cases z)
  · rintro od i ⟨n, q⟩ σ' H3 rt bk hi ⟨x3', x4, x5, rfl, e3, hm3⟩
    obtain ⟨u0, hu0, hk0⟩ := lk_of rT
    have rxB : Rx H (lck H dt od (.dK kt)) := rx_lock hu0 hk0
    have rx3 : Rx H H3 := rxB.trans (rx_ex e3)
    have nB : (lck H dt od (.dK kt)) p = none := by unfold lck; rw [upd_ne (Ne.symm hnt)]; exact np
    have hmem := List.mem_of_getElem? hi
    have hnk : n ∈ t.map (·.1) := List.mem_map.mpr ⟨(n, q), hmem, rfl⟩
    obtain ⟨row, hrow, hsub⟩ := lo.row n hnk
    obtain ⟨dr, kr, evr, rdr, pdr⟩ := tab_row pA hrow
    have okr := lo.ok i (n, q) hi
    have er : (aget A n).getD [] = row := by rw [hrow]; rfl
    simp only [er] at okr
    have ndr : dr ≠ p := rd_ne rdr np
    have rd3 : Rd H3 dr (.dK kr) := rx3 _ _ True.intro rdr
    obtain ⟨u1, hu1, hk1⟩ := lk_of rd3
    refine p_rowLoop (σf := fun a b => [some (.ref dA), some (.ref dt), some (.ref p), some (.str n), a, b]) (j1 := 4) (j2 := 5) (a0 := x4) (b0 := x5) (fun _ _ _ _ => rfl) (fun _ _ => rfl) (fun _ _ => rfl) (fun _ _ => rfl) rd3 (pdr.map fun x u hu => hu.kp (kp_rx rx3)) ndr
      (fun od' => ep_dgetV (kvs := kA) (ep_var rfl is_rfl) ((rx_lock hu1 hk1) _ _ True.intro (rx3 _ _ True.intro rA)) (ep_var rfl is_rfl) evr) hm3 (fun r hr => leadF_has (by rw [zerosM_get (hsub r hr)]; rfl)) (by rw [leadF_len]; exact hzl) okr
      (fun od' a b H' e' => ep_dget (S := Fr K) (m := t) (ep_var (i := 1) rfl ?_) (ep_var rfl is_rfl) (aget_of_nd lo.nd hmem)) fun a b H4 x4' hm4 => ?_
    · -- the totals are read
      have r0 : Rd (rem H3 p) dt (.dK kt) := rx_rem hnt (rx3 _ _ True.intro rT)
      have hu1' : rem H3 p dr = some u1 := by rw [rem_ne ndr]; exact hu1
      exact ⟨dt, kt, rfl, rx_ex e' _ _ True.intro ((rx_lock hu1' hk1) _ _ True.intro r0), pT.map fun x u hu => ((hu.kp (kp_rx rx3)).kp ((kp_rem hm3.nt).trans (kp_upd (by rw [hu1']; exact lk_nt hk1 (fun xs z => by cases z))))).ex e'⟩
    · refine ⟨_, _, _, rfl, ExB.ex e3 nB x4', ?_⟩
      unfold leadF
      rw [fold_snoc hi]
      simp only [er]
      exact hm4
  · rintro od u0 σ' H3 hu0 ⟨x3', x4, x5, rfl, e3, hm3⟩
    rw [List.take_length] at hm3
    have h3d : H3 dt = some (.frz od (.dK kt)) := e3 dt _ upd_same
    have eF : Ex H (upd H3 dt u0) := ex_unlock e3 hu0
    have hmF : DcM (Fr K) (ledM A t) (upd H3 dt u0) p := hm3.kpu (Ne.symm hnt) ExB.upd (by rw [h3d]; trivial)
    dsimp only
    refine p_ret (R := Is (.ref p)) (ep_var (i := 2) rfl is_rfl) fun u H5 e5 hu => ?_
    cases (show u = _ from hu)
    exact k p H5 np (eF.trans e5) (hmF.ex e5)
end
end Tc
set_option Elab.async false
set_option linter.all false
set_option maxRecDepth 100000
set_option maxHeartbeats 4000000
set_option exponentiation.threshold 10000
namespace Tc
open PySem PySem.Spec PyProof.Rows L2 Evl
theorem aput_new {α : Type} {m : AL α} {k : Str} {x : α} (h : ¬ k ∈ m.map (fun p => p.1)) : aput m k x = m ++ [(k, x)] := by
  unfold aput
  rw [if_neg]
  intro z
  obtain ⟨p, hp, e⟩ := List.any_eq_true.mp z
  exact h (List.mem_map.mpr ⟨p, hp, of_decide_eq_true e⟩)
theorem nd_take {α : Type} {m : AL α} (nd : (m.map (fun p => p.1)).Nodup) {i : Nat} {p : Str × α} (h : m[i]? = some p) : ¬ p.1 ∈ (m.take i).map (fun p => p.1) := fun z => by
  rw [List.map_take] at z
  obtain ⟨j, hj⟩ := List.getElem?_of_mem z
  rw [List.getElem?_take] at hj
  split at hj
  · have := nd_ix nd hj (show (m.map (fun p => p.1))[i]? = some p.1 by rw [List.getElem?_map, h]; rfl)
    omega
  · cases hj
section
variable {K : PySem.W.Frag}
/-- a new dict by the keys of a dict -/
theorem p_mapKeys {α β : Type} {S : α → HV} {U : β → HV} [∀ x, Stay (U x)] [∀ x, StayR (S x)] {m : AL α} {f : Str × α → β} {d p : Addr} {kvs : List (Key × V)} {σf : Option V → L2.St} {j ip : Nat} {a0 : Option V} {B H : Hp} {D : Ends} {td tz : TE} (nd : (m.map (fun p => p.1)).Nodup)
    (hs : ∀ a x, (σf a).set j x = σf x) (hp : ∀ a, (σf a)[ip]? = some (some (.ref p))) (hj : ∀ a, (σf a)[j]? = some a)
    (hd : ∀ od, EvP td (σf a0) (lck H d od (.dK kvs)) (Is (.ref d))) (rd : Rd B d (.dK kvs)) (pd : PD S B kvs m) (e : Ex B H) (np : B p = none) (h0 : H p = some (.dK [])) (hl : m.length ≤ 1000)
    (hz : ∀ (od : Obj) (i : Nat) (pr : Str × α) (H' : Hp), m[i]? = some pr → Rx B H' → H' d = some (.frz od (.dK kvs)) → PD S H' kvs m → EvP tz (σf (some (.str pr.1))) H' (U (f pr))) (k : ∀ a H', Ex B H' → DcM U (m.map fun pr => (pr.1, f pr)) H' p → D.nx (σf a) H') :
    tLockR (tFor (iKeys td) (gName j) (sDPut (tVar ip) (tVar j) tz)) D (σf a0) H := by
  have ndp : d ≠ p := rd_ne rd np
  obtain ⟨u0, hu0, hk0⟩ := lk_of rd
  have nt0 : NT (some u0) := lk_nt hk0 (fun xs z => by cases z)
  refine p_forKeys (S := S) (m := m) (d := d) (kvs := kvs) (B := B) hd rd pd e
    (fun BL i σ' H' => ∃ a, σ' = σf a ∧ Ex BL H' ∧ DcM U ((m.take i).map fun pr => (pr.1, f pr)) H' p)
    (fun od H1 e1 => ⟨a0, rfl, (ex_lock e).trans e1, [], e1 p _ (by unfold lck; rw [upd_ne (Ne.symm ndp)]; exact h0), .nil⟩) (fun BL i σ' H' ⟨_, _, e, _⟩ => e) ?_ ?_
  · rintro od i ⟨n, q⟩ σ' H1 rt bk hi ⟨a, rfl, e1, hm1⟩
    rw [hs]
    have nB : (lck B d od (.dK kvs)) p = none := by unfold lck; rw [upd_ne (Ne.symm ndp)]; exact np
    have rxB : Rx B H1 := (rx_lock hu0 hk0).trans (rx_ex e1)
    have pdB : PD S H1 kvs m := pd.map fun x v h => (inferInstance : StayR (S x)).rx _ _ _ rxB h
    refine p_putM (x := f (n, q)) hm1 (by rw [List.length_map, List.length_take]; omega) (hz od i (n, q) H1 hi rxB (e1 d _ upd_same) pdB) (ep_var (hp _) is_rfl) (ep_var (hj _) is_rfl) fun H2 x2 h2 => ⟨_, rfl, ExB.ex e1 nB x2, ?_⟩
    have hnn := nd_take nd hi
    rw [aput_new (by rw [List.map_map]; exact hnn)] at h2
    rw [List.take_add_one, hi, List.map_append]
    exact h2
  · rintro od u0 σ' H1 hu0 ⟨a, rfl, e1, hm1⟩
    rw [List.take_length] at hm1
    have h1d : H1 d = some (.frz od (.dK kvs)) := e1 d _ upd_same
    exact k a _ (ex_unlock e1 hu0) (hm1.kpu (Ne.symm ndp) ExB.upd (by rw [h1d]; trivial))
theorem aget_map {α β : Type} {m : AL α} {f : Str × α → β} {n : Str} : aget (m.map fun p => (p.1, f p)) n = (m.find? fun p => decide (p.1 = n)).map f := by
  unfold aget
  rw [List.find?_map]
  cases h : m.find? ((fun p : Str × β => decide (p.1 = n)) ∘ fun p => (p.1, f p)) with
  | none =>
    have h' : m.find? (fun p => decide (p.1 = n)) = none := h
    rw [h']; rfl
  | some p =>
    have h' : m.find? (fun p => decide (p.1 = n)) = some p := h
    rw [h']; rfl
theorem leftN_keys (A : AL (AL Rat)) (k : Nat) : (leftN A k).map (fun p => p.1) = A.map (fun p => p.1) := by
  cases k with
  | zero => show (left0 A).map _ = _; unfold left0; rw [List.map_map]; rfl
  | succ k => show (leftStep A (leftN A k)).map _ = _; unfold leftStep; rw [List.map_map]; rfl
theorem len_bound_of (K : PySem.W.Frag) : ∀ vs H Q E, sp_bound_of K vs H Q E → vs.length = 1 := by
  rintro vs H Q E ⟨v, A, k, rfl, _⟩; rfl
/-- one row's sum -/
theorem ep_rowSum {σ : L2.St} {H : Hp} {dA : Addr} {kA : List (Key × V)} {row l : AL Rat} {n : Str} {dr : Addr} {kr : List (Key × V)} {il : Nat} (hA : σ[0]? = some (some (.ref dA))) (hn : σ[2]? = some (some (.str n))) (rA : Rd H dA (.dK kA)) (evr : valV kA (.inr n) = some (.ref dr)) (rdr : Rd H dr (.dK kr)) (pdr : PD (Fr K) H kr row)
    {lv : V} (hl : σ[1]? = some (some lv)) (hD : Dc (Fr K) l H lv) (hσ : σ.length = 8)
    (len : row.length ≤ 100) (has : ∀ r ∈ row, (aget l r.1).isSome) (ok1 : ∀ r ∈ row, Ok (r.2 * (aget l r.1).getD 0)) (ok2 : ∀ i, Ok (fsum ((row.map fun r => r.2 * (aget l r.1).getD 0).take i))) :
    EvP (tCall (sp_sum_of K) [] E0 (tCons (tLockRE (tLc (iItems (tDGet (tVar 0) (tVar 2))) (gTup K 2 (gCons (gName 6) (gCons (gName 7) gNil))) tYes (tCall (sp_times K) [] E0 (tCons (tVar 7) (tCons (tDGet (tVar 1) (tVar 6)) tNil))) [6, 7])) tNil)) σ H (Fr K (fsum (row.map fun r => r.2 * (aget l r.1).getD 0))) := by
  obtain ⟨dl, kl, rfl, rl, pl⟩ := id hD
  have key : EvN (tLockRE (tLc (iItems (tDGet (tVar 0) (tVar 2))) (gTup K 2 (gCons (gName 6) (gCons (gName 7) gNil))) tYes (tCall (sp_times K) [] E0 (tCons (tVar 7) (tCons (tDGet (tVar 1) (tVar 6)) tNil))) [6, 7])) σ H (LsM (Fr K) (row.map fun r => r.2 * (aget l r.1).getD 0)) := by
    obtain ⟨u1, hu1, hk1⟩ := lk_of rdr
    refine en_lockE rdr fun od => ?_
    have rx1 : Rx H (lck H dr od (.dK kr)) := rx_lock hu1 hk1
    have kp1 := kp_rx rx1
    have h := en_lc (U := Fr K) (σ := σ) (H := lck H dr od (.dK kr)) (te := tCall (sp_times K) [] E0 (tCons (tVar 7) (tCons (tDGet (tVar 1) (tVar 6)) tNil))) (g := gTup K 2 (gCons (gName 6) (gCons (gName 7) gNil))) (tt := tYes) (vs := [6, 7]) (p := fun _ => true) (f := fun r : Str × Rat => r.2 * (aget l r.1).getD 0)
      (ei_items (K := K) (S := Fr K) (m := row) (kvs := kr) (od := od) (ep_dgetV (kvs := kA) (ep_var hA is_rfl) (rx1 _ _ True.intro rA) (ep_var hn is_rfl) evr) upd_same (pdr.map fun x u hu => hu.kp kp1)) (by omega) fun r x H9 e9 hr hx => ?_
    · rw [filt_true] at h
      exact h
    · obtain ⟨T, a, b, rfl, hT, ha, hb⟩ := hx.two
      cases (show a = _ from ha)
      refine ⟨((wipe σ [6, 7]).set 6 (some (.str r.1))).set 7 (some b), fun Q q => tup2 hT q, ?_, tYesT, fun _ => ?_⟩
      · match σ, hσ with
        | [s0, s1, s2, s3, s4, s5, s6, s7], _ => rfl
      · match σ, hσ, hl with
        | [s0, s1, s2, s3, s4, s5, s6, s7], _, hl =>
          obtain ⟨z, hz⟩ := Option.isSome_iff_exists.mp (has r hr)
          have o := ok1 r hr
          have e2 : s1 = some (.ref dl) := by simpa using hl
          subst e2
          rw [hz] at o ⊢
          refine ep_times (ep_var (i := 7) rfl hb) (ep_dget (S := Fr K) (m := l) (ep_var (i := 1) rfl ?_) (ep_var (i := 6) rfl is_rfl) hz) o
          exact (inferInstance : StayX (Dc (Fr K) l)).ex _ _ _ e9 ((inferInstance : StayR (Dc (Fr K) l)).rx _ _ _ rx1 hD)
  refine ep_call (eas_cons (EvN.ls (K := K) key) eas_nil) fun H1 us e r Q k => ?_
  obtain ⟨a, rfl, ra⟩ := r.one
  exact ⟨_, a, rfl, ra, ok2, k⟩
theorem rd_bound_of (C : Cst K) (vs : List V) (H : Hp) (Q : VK) (E : XK) (h : sp_bound_of K vs H Q E) : t_bound_of K (BE Q) (start ["shares", "left", "name", "k", "news", "most", "place", "share"] vs) H := by
  obtain ⟨v, A, k, rfl, hA, bo, kq⟩ := h
  obtain ⟨dA, kA, rfl, rA, pA⟩ := id hA
  refine qp_asgN (en_dnew (S := Fr K)) fun p H1 np e1 h1 => ?_
  obtain ⟨kv0, hp0, pd0⟩ := id h1
  have hkv0 : kv0 = [] := by cases pd0; rfl
  subst hkv0
  refine p_mapKeys (D := { BE Q with nx := tSeq _ _ (BE Q) }) (S := fun row => Dc (Fr K) row) (U := Fr K) (f := fun _ => (1 : Rat)) (σf := fun x2 => [some (.ref dA), some (.ref p), x2, none, none, none, none, none]) (j := 2) (ip := 1) (a0 := none) bo.nd (fun _ _ => rfl) (fun _ => rfl) (fun _ => rfl) (fun od => ep_var rfl is_rfl) rA pA e1 np hp0 (Nat.le_trans bo.len (by decide)) (fun od i pr H' _ _ _ _ => ep_one C.o3) fun x2 H2 e2 hm2 => ?_
  dsimp only
  refine qp_asg (R := Is (.int 0)) ep_i fun u H3 e3 hu => ?_
  cases (show u = _ from hu)
  refine s_while (D := BE Q) (fun m σ' H' => ∃ (j : Nat) (l : Addr) (x2 x4 x5 : Option V), m = k - j ∧ j < k ∧ σ' = [some (.ref dA), some (.ref l), x2, some (.int (j : Int)), x4, x5, none, none] ∧ Ex H H' ∧ DcM (Fr K) (leftN A j) H' l) k
    ⟨0, p, _, _, _, rfl, bo.pos, rfl, e2.trans e3, hm2.ex e3⟩ ?_
  rintro m σ' H4 ⟨j, l, y2, y4, y5, rfl, hj, rfl, e4, hm4⟩
  refine ⟨true, et_b (ep_c rfl), fun _ H5 e5 => ⟨fun σ' H' => ∃ m', m' < k - j ∧ ∃ (j : Nat) (l : Addr) (x2 x4 x5 : Option V), m' = k - j ∧ j < k ∧ σ' = [some (.ref dA), some (.ref l), x2, some (.int (j : Int)), x4, x5, none, none] ∧ Ex H H' ∧ DcM (Fr K) (leftN A j) H' l, fun _ _ h => h, ?_⟩, fun z => nomatch z⟩
  refine qp_asg (R := Is (.int ((j + 1 : Nat) : Int))) ((ep_addI (i := (j : Int)) (j := 1) (ep_var rfl is_rfl) ep_i).weak fun _ _ _ h => h) fun u H6 e6 hu => ?_
  cases (show u = _ from hu)
  refine qp_asgN (en_dnew (S := Fr K)) fun q H7 nq e7 h7 => ?_
  obtain ⟨kv7, hp7, pd7⟩ := id h7
  have hkv7 : kv7 = [] := by cases pd7; rfl
  subst hkv7
  have e46 := e5.trans e6
  have hm6 := hm4.ex e46
  obtain ⟨kl, hl6, pl6⟩ := id hm6
  have nlq : l ≠ q := fun z => by rw [z, nq] at hl6; cases hl6
  have e06 := e4.trans e46
  have rA6 := ex_rd e06 rA
  have pA6 : PD (fun row => Dc (Fr K) row) H6 kA A := pA.map fun x v h => (inferInstance : StayX (Dc (Fr K) x)).ex _ _ _ e06 h
  have okj := bo.ok j hj
  refine p_mapKeys (D := { nx := _, rt := _, bk := _, ct := _ }) (S := fun row => Dc (Fr K) row) (U := Fr K) (f := fun pr : Str × AL Rat => fsum (pr.2.map fun r => r.2 * (aget (leftN A j) r.1).getD 0)) (σf := fun x2 => [some (.ref dA), some (.ref l), x2, some (.int ((j + 1 : Nat) : Int)), some (.ref q), y5, none, none]) (j := 2) (ip := 4) (a0 := y2) bo.nd (fun _ _ => rfl) (fun _ => rfl) (fun _ => rfl) (fun od => ep_var rfl is_rfl) rA6 pA6 e7 nq hp7 (Nat.le_trans bo.len (by decide)) (fun od i pr H' hi rx' hd' pd' => ?_) fun x2' H8 e8 hm8 => ?_
  · have hmem := List.mem_of_getElem? hi
    obtain ⟨dr, kr, evr, rdr, pdr⟩ := tab_row pd' (aget_of_nd bo.nd hmem)
    refine ep_rowSum (kA := kA) (il := 0) rfl rfl (.inr ⟨od, hd'⟩) evr rdr pdr rfl ((inferInstance : StayR (Dc (Fr K) (leftN A j))).rx _ _ _ rx' hm6.dc) rfl (bo.rows pr hmem).1 (fun r hr => ?_) (okj pr hmem).1 (okj pr hmem).2
    have h1 := (bo.rows pr hmem).2 r hr
    rw [← leftN_keys A j] at h1
    obtain ⟨x, hx⟩ := aget_some_mem h1
    rw [hx]; rfl
  dsimp only
  have hm8 : DcM (Fr K) (leftN A (j + 1)) H8 q := hm8
  refine qp_asg (R := Is (.ref q)) (ep_var (i := 4) rfl is_rfl) fun u H9 e9 hu => ?_
  cases (show u = _ from hu)
  refine qp_asg (R := Fr K 0) (ep_zero C.z3) fun z0 H10 e10 hz0 => ?_
  have hm10 := hm8.ex (e9.trans e10)
  obtain ⟨kq10, hq10, pq10⟩ := id hm10
  have e010 : Ex H H10 := e06.trans (e8.trans (e9.trans e10))
  refine p_forKeys (D := { nx := _, rt := _, bk := _, ct := _ }) (S := Fr K) (m := leftN A (j + 1)) (d := q) (kvs := kq10) (B := H10) (fun od => ep_var (i := 1) rfl is_rfl) (.inl hq10) pq10 (Ex.refl _)
    (fun BL i σ' H' => ∃ x2 w5, σ' = [some (.ref dA), some (.ref q), x2, some (.int ((j + 1 : Nat) : Int)), some (.ref q), some w5, none, none] ∧ Ex BL H' ∧ Fr K (mostM ((leftN A (j + 1)).take i)) H' w5)
    (fun od H11 e11 => ⟨_, _, rfl, e11, (hz0.kp ?_).ex e11⟩) (fun BL i σ' H' ⟨_, _, _, e, _⟩ => e) ?_ ?_
  · exact kp_upd (by rw [hq10]; trivial)
  · rintro od i pr σ' H11 rt bk hi ⟨x2, w5, rfl, e11, hw⟩
    have nd1 : ((leftN A (j + 1)).map (fun p => p.1)).Nodup := by rw [leftN_keys]; exact bo.nd
    have hget := aget_of_nd nd1 (List.mem_of_getElem? hi)
    have hD11 : Dc (Fr K) (leftN A (j + 1)) H11 (.ref q) := ⟨q, kq10, rfl, .inr ⟨od, e11 q _ upd_same⟩, pq10.map fun x u hu => (hu.kp (kp_upd (by rw [hq10]; trivial))).ex e11⟩
    have hms : mostM ((leftN A (j + 1)).take (i + 1)) = if mostM ((leftN A (j + 1)).take i) < pr.2 then pr.2 else mostM ((leftN A (j + 1)).take i) := by
      unfold mostM
      rw [fold_snoc hi]
    refine s_when (et_b (ep_under (q := pr.2) (ep_var (i := 5) rfl hw) (ep_dget (S := Fr K) (m := leftN A (j + 1)) (ep_var (i := 1) rfl hD11) (ep_var (i := 2) rfl is_rfl) hget))) (fun hb H12 e12 => ?_) fun hb H12 e12 => ?_
    · refine p_asg (R := Fr K pr.2) (ep_dget (S := Fr K) (m := leftN A (j + 1)) (ep_var (i := 1) rfl ((inferInstance : StayX (Dc (Fr K) (leftN A (j + 1)))).ex _ _ _ e12 hD11)) (ep_var (i := 2) rfl is_rfl) hget) fun w H13 e13 hw' => ⟨_, _, rfl, (e11.trans e12).trans e13, ?_⟩
      rw [hms, if_pos (of_decide_eq_true hb)]
      exact hw'
    · refine ⟨_, _, rfl, e11.trans e12, ?_⟩
      rw [hms, if_neg (of_decide_eq_false hb)]
      exact hw.ex e12
  · rintro od u0 σ' H11 hu0 ⟨x2, w5, rfl, e11, hw⟩
    rw [List.take_length] at hw
    have h11q : H11 q = some (.frz od (.dK kq10)) := e11 q _ upd_same
    have eF : Ex H10 (upd H11 q u0) := ex_unlock e11 hu0
    have hwF := hw.kp (kp_upd (p := q) (o := u0) (by rw [h11q]; trivial))
    refine s_when (et_b (ep_under (q := 1) (ep_var (i := 5) rfl hwF) (ep_one C.o3))) (fun hb H12 e12 => ?_) fun hb H12 e12 => ?_
    · have hlt : mostM (leftN A (j + 1)) < 1 := of_decide_eq_true hb
      have hk : j + 1 = k := by
        rcases Nat.lt_or_ge (j + 1) k with h' | h'
        · exact absurd hlt (bo.no (j + 1) (by omega) h')
        · omega
      refine p_ret (R := Tp K [Is (.int (k : Int)), Fr K (mostM (leftN A k))]) (ep_tup (K := K) (eas_cons (ep_var (i := 3) rfl (by rw [← hk]; exact is_rfl)) (eas_cons (ep_var (i := 5) rfl (by rw [← hk]; exact hwF.ex e12)) eas_nil)) (show 2 ≤ 100000 by decide)) fun u H13 e13 hu => kq u H13 (e010.trans (eF.trans (e12.trans e13))) hu
    · have hnl : ¬ mostM (leftN A (j + 1)) < 1 := of_decide_eq_false hb
      have hk : j + 1 < k := by
        rcases Nat.lt_or_ge (j + 1) k with h' | h'
        · exact h'
        · have : j + 1 = k := by omega
          exact absurd (by rw [this]; exact bo.yes) hnl
      exact ⟨k - (j + 1), by omega, j + 1, q, _, _, _, rfl, hk, rfl, e010.trans (eF.trans e12), (hm10.ex (Ex.refl _)).ex (eF.trans e12)⟩
end
end Tc
set_option Elab.async false
set_option linter.all false
set_option maxRecDepth 100000
set_option maxHeartbeats 4000000
set_option exponentiation.threshold 10000
namespace Tc
open PySem PySem.Spec PyProof.Rows L2 Evl
/-! ### rows of a square, kept in a list -/
def RowR (K : PySem.W.Frag) (r : Addr) (row : List Rat) : HV := fun H v => ∃ a, v = .ref a ∧ a ≠ r ∧ Ls K (Fr K) row H (.ref a)
instance {K : PySem.W.Frag} {r : Addr} {row : List Rat} : StayR (RowR K r row) := ⟨fun H H' v e ⟨a, e1, n, h⟩ => ⟨a, e1, n, (inferInstance : StayR (Ls K (Fr K) row)).rx _ _ _ e h⟩⟩
abbrev RowsM (K : PySem.W.Frag) (rs : List (List Rat)) (H : Hp) (r : Addr) : Prop := LsM (RowR K r) rs H r
/-- one row, when the row chosen is c -/
def clr1 (at_ : Nat) (c : List Rat) (k : Nat) (row : List Rat) : List Rat := if k ≠ at_ ∧ row.getD at_ 0 ≠ 0 then (row.zip c).map (fun p => p.1 - row.getD at_ 0 * p.2) else row
def clrTo (at_ : Nat) (c : List Rat) (rs : List (List Rat)) (k : Nat) : List (List Rat) := rs.mapIdx fun i row => if i < k then clr1 at_ c i row else row
def chosenM (rs : List (List Rat)) (at_ : Nat) : List Rat := (rs.getD at_ []).map fun x => x / (rs.getD at_ []).getD at_ 0
def clearM (rs : List (List Rat)) (at_ : Nat) : List (List Rat) := clrTo at_ (chosenM rs at_) (rs.set at_ (chosenM rs at_)) rs.length
structure ClrOk (rs : List (List Rat)) (at_ : Nat) : Prop where
  lt : at_ < rs.length
  len : rs.length ≤ 100
  row : ∀ row ∈ rs, at_ < row.length ∧ row.length ≤ 100
  pos : 0 < (rs.getD at_ []).getD at_ 0
  okc : ∀ x ∈ chosenM rs at_, Ok x
  okr : ∀ k row, k ≠ at_ → rs[k]? = some row → ∀ p ∈ row.zip (chosenM rs at_), Ok (row.getD at_ 0 * p.2) ∧ Ok (p.1 - row.getD at_ 0 * p.2)
def sp_clear_column (K : PySem.W.Frag) : Sp := fun vs H Q _ => ∃ (r : Addr) (at_ : Nat) (rs : List (List Rat)), vs = [.ref r, .int (at_ : Int)] ∧ RowsM K rs H r ∧ ClrOk rs at_ ∧ ∀ H', ExB r H H' → RowsM K (clearM rs at_) H' r → Q .non H'
def rowsOf (sq : List (List Rat)) (w : List Rat) : List (List Rat) := (sq.zip w).map fun p => p.1 ++ [p.2]
def solTo (rs : List (List Rat)) : Nat → List (List Rat)
  | 0 => rs
  | k + 1 => clearM (solTo rs k) k
def solvedM (sq : List (List Rat)) (w : List Rat) : List Rat := (solTo (rowsOf sq w) (rowsOf sq w).length).map fun row => row.getLastD 0
structure SolOk (sq : List (List Rat)) (w : List Rat) : Prop where
  len : sq.length = w.length
  le : sq.length ≤ 100
  rows : ∀ row ∈ sq, row.length ≤ 100
  ok : ∀ i, i < sq.length → ClrOk (solTo (rowsOf sq w) i) i
  last : ∀ row ∈ solTo (rowsOf sq w) sq.length, row ≠ []
def sp_solved (K : PySem.W.Frag) : Sp := fun vs H Q _ => ∃ v u sq w, vs = [v, u] ∧ Ls K (fun row => Ls K (Fr K) row) sq H v ∧ Ls K (Fr K) w H u ∧ SolOk sq w ∧ RetN H (LsM (Fr K) (solvedM sq w)) Q
/-! ### what is left in the long run -/
def squareM (A : AL (AL Rat)) : List (List Rat) := (A.map fun p => p.1).map fun place => (A.map fun p => p.1).map fun name => (if name = place then 1 else 0) - (aget ((aget A name).getD []) place).getD 0
def wantedM (A : AL (AL Rat)) (b : AL Rat) : List Rat := (A.map fun p => p.1).map fun name => (aget b name).getD 0
def leftBy (A : AL (AL Rat)) (b : AL Rat) : AL Rat := (A.map fun p => p.1).zip (solvedM (squareM A) (wantedM A b))
structure LbOk (A : AL (AL Rat)) (b : AL Rat) : Prop where
  nd : (A.map fun p => p.1).Nodup
  len : A.length ≤ 90
  has : ∀ n ∈ A.map (fun p => p.1), (aget b n).isSome
  ok : ∀ row ∈ squareM A, ∀ q ∈ row, Ok q
  sol : SolOk (squareM A) (wantedM A b)
def sp_left_by (K : PySem.W.Frag) : Sp := fun vs H Q _ => ∃ v u A b, vs = [v, u] ∧ TabR K A H v ∧ Dc (Fr K) b H u ∧ LbOk A b ∧ RetN H (DcM (Fr K) (leftBy A b)) Q
structure LrOk (house : List Pl) (steps : List Stp) (k : Nat) : Prop where
  tab : OkTab house steps
  nd : (casksM house).Nodup
  len : (casksM house).length < 60
  no : NoClosed house steps
  bto : OkBto house steps
  lb : LbOk (ctabM house steps) (btoM house steps)
  bnd : BndOk (ctabM house steps) k
def sp_long_run (K : PySem.W.Frag) : Sp := fun vs H Q _ => ∃ v w house steps k, vs = [v, w] ∧ Ls K (PlR K) house H v ∧ Ls K (StpR K) steps H w ∧ LrOk house steps k ∧
  RetP H (Tp K [Is (.str "lasting"), Dc (Fr K) (leftBy (ctabM house steps) (btoM house steps)), Tp K [Is (.int (k : Int)), Fr K (mostM (leftN (ctabM house steps) k))]]) Q
end Tc
set_option Elab.async false
set_option linter.all false
set_option maxRecDepth 100000
namespace Tc
open PySem PySem.Spec PyProof.Rows L2 Evl
def t_clear_column (K : PySem.W.Frag) : TS :=
  (tSeq (tAsg (tVar 1) (gName 2))
    (tSeq (tWhile (tTest (tOp (rEqD K) (tOp (rIxL K) (tOp (rIxL K) (tVar 0) (tVar 2)) (tVar 1)) (tC (.ref (He.ga K "NOUGHT_solving"))))) (tAsg (tOp rPlusI (tVar 2) (tC (.int 1))) (gName 2)))
    (tSeq (tAsg (tOp (rIxL K) (tVar 0) (tVar 2)) (gName 3))
    (tSeq (tAsg (tOp (rIxL K) (tVar 0) (tVar 1)) (gSub (tVar 0) (tVar 2) rSetL))
    (tSeq (tAsg (tOp (rIxL K) (tVar 3) (tVar 1)) (gName 4))
    (tSeq (tAsg (tLc (iList K (tVar 3)) (gName 7) tYes (tCall (sp_over K) [] E0 (tCons (tVar 7) (tCons (tVar 4) tNil))) [7]) (gName 3))
    (tSeq (tAsg (tVar 3) (gSub (tVar 0) (tVar 1) rSetL))
    (tFor (iRng1 (tCons (tCB (rLenS K) (tCons (tVar 0) tNil)) tNil)) (gName 5) (tIfS (tAnd (tTest (tOp rNe (tVar 5) (tVar 1))) (tTest (tOp (rNeD K) (tOp (rIxL K) (tOp (rIxL K) (tVar 0) (tVar 5)) (tVar 1)) (tC (.ref (He.ga K "NOUGHT_solving")))))) (tSeq (tAsg (tOp (rIxL K) (tOp (rIxL K) (tVar 0) (tVar 5)) (tVar 1)) (gName 6))
    (tAsg (tLc (iZip K (tCons (tOp (rIxL K) (tVar 0) (tVar 5)) (tCons (tVar 3) tNil))) (gTup K 2 (gCons (gName 8) (gCons (gName 9) gNil))) tYes (tCall (sp_minus K) [] E0 (tCons (tVar 8) (tCons (tCall (sp_times K) [] E0 (tCons (tVar 6) (tCons (tVar 9) tNil))) tNil))) [8, 9]) (gSub (tVar 0) (tVar 5) rSetL))) tNext)))))))))
def t_solved (K : PySem.W.Frag) : TS :=
  (tSeq (tAsg (tLc (iZip K (tCons (tVar 0) (tCons (tVar 1) tNil))) (gTup K 2 (gCons (gName 4) (gCons (gName 5) gNil))) tYes (tOp rCat (tCB (rListS K) (tCons (tVar 4) tNil)) (tLst (tCons (tVar 5) tNil))) [4, 5]) (gName 2))
    (tSeq (tFor (iRng1 (tCons (tCB (rLenS K) (tCons (tVar 2) tNil)) tNil)) (gName 3) (tDrop (tCall (sp_clear_column K) [] E0 (tCons (tVar 2) (tCons (tVar 3) tNil)))))
    (tRet (tLc (iList K (tVar 2)) (gName 4) tYes (tOp (rIxL K) (tVar 4) (tUn (rU fun i => .int (-i)) (tC (.int 1)))) [4]))))
def t_left_by (K : PySem.W.Frag) : TS :=
  (tSeq (tAsg (tCB rKeysD (tCons (tVar 0) tNil)) (gName 2))
    (tSeq (tAsg (tLst tNil) (gName 3))
    (tSeq (tFor (iList K (tVar 2)) (gName 4) (tSeq (tAsg (tLst tNil) (gName 5))
    (tSeq (tFor (iList K (tVar 2)) (gName 6) (tSeq (tAsg (tC (.ref (He.ga K "NOUGHT_longrun"))) (gName 7))
    (tSeq (tIfS (tTest (tOp rEq (tVar 6) (tVar 4))) (tAsg (tC (.ref (He.ga K "WHOLE_longrun"))) (gName 7)) tNext)
    (tDrop (tBM K "list" rAppend (tVar 5) (tCons (tCall (sp_minus K) [] E0 (tCons (tVar 7) (tCons (tDGet2 (tDGet (tVar 0) (tVar 6)) (tVar 4) (tC (.ref (He.ga K "NOUGHT_longrun")))) tNil))) tNil))))))
    (tDrop (tBM K "list" rAppend (tVar 3) (tCons (tVar 5) tNil))))))
    (tSeq (tAsg tDNewK (gName 8))
    (tSeq (tFor (iZip K (tCons (tVar 2) (tCons (tCall (sp_solved K) [] E0 (tCons (tVar 3) (tCons (tLc (iList K (tVar 2)) (gName 6) tYes (tDGet (tVar 1) (tVar 6)) [6]) tNil))) tNil))) (gTup K 2 (gCons (gName 6) (gCons (gName 9) gNil))) (sDPut (tVar 8) (tVar 6) (tVar 9)))
    (tRet (tVar 8)))))))
def t_long_run (K : PySem.W.Frag) : TS :=
  (tSeq (tAsg (tCall (sp_closed_casks K) [] E0 (tCons (tVar 0) (tCons (tVar 1) tNil))) (gName 2))
    (tSeq (tIfS (tTest (tOp (rNeE K) (tVar 2) (tLst tNil))) (tRet (tTup (tCons (tC (.str "closed")) (tCons (tVar 2) tNil)))) tNext)
    (tSeq (tAsg (tCall (sp_casks_table K) [] E0 (tCons (tVar 0) (tCons (tVar 1) tNil))) (gName 3))
    (tRet (tTup (tCons (tC (.str "lasting")) (tCons (tCall (sp_left_by K) [] E0 (tCons (tVar 3) (tCons (tCall (sp_brought_to K) [] E0 (tCons (tVar 0) (tCons (tVar 1) tNil))) tNil))) (tCons (tCall (sp_bound_of K) [] E0 (tCons (tVar 3) tNil)) tNil))))))))
end Tc
set_option Elab.async false
set_option linter.all false
set_option maxRecDepth 100000
set_option maxHeartbeats 4000000
set_option exponentiation.threshold 10000
namespace Tc
open PySem PySem.Spec PyProof.Rows L2 Evl
theorem rd_exB {H H' : Hp} {a p : Addr} {u : HO} (x : ExB p H H') (n : a ≠ p) (r : Rd H a u) : Rd H' a u := by
  rcases r with r | ⟨o, r⟩
  · exact .inl (x a _ n r)
  · exact .inr ⟨o, x a _ n r⟩
section
variable {K : PySem.W.Frag} {σ : L2.St} {H H' : Hp} {ta tb te to : TE} {D : Ends} {α : Type} {S : α → HV}
theorem ls_exB {α : Type} {S : α → HV} [∀ x, Stay (S x)] {row : List α} {a p : Addr} (x : ExB p H H') (nt : NT (H p)) (n : a ≠ p) (h : Ls K S row H (.ref a)) : Ls K S row H' (.ref a) := by
  obtain ⟨b, vs, e, s, pv⟩ := h
  cases e
  refine ⟨a, vs, rfl, ?_, L2.Paired.mapP pv fun w y hw => (inferInstance : Stay (S y)).kp _ _ _ (x.kp nt) hw⟩
  rcases s with s | s
  · exact .inl (rd_exB x n s)
  · exact .inr s
theorem rowR_exB {row : List Rat} {p : Addr} {v : V} (x : ExB p H H') (nt : NT (H p)) (h : RowR K p row H v) : RowR K p row H' v := by
  obtain ⟨a, e, n, l⟩ := h
  exact ⟨a, e, n, ls_exB x nt n l⟩
theorem LsM.nt {xs : List α} {p : Addr} (h : LsM S xs H p) : NT (H p) := by
  obtain ⟨vs, e, _⟩ := h
  rw [e]; trivial
theorem LsM.ex [∀ x, StayX (S x)] {xs : List α} {p : Addr} (h : LsM S xs H p) (e : Ex H H') : LsM S xs H' p := by
  obtain ⟨vs, e1, pv⟩ := h
  exact ⟨vs, e p _ e1, L2.Paired.mapP pv fun w y hw => (inferInstance : StayX (S y)).ex _ _ _ e hw⟩
theorem paired_set {β : Type} {R : V → β → Prop} : ∀ {vs : List V} {xs : List β} {j : Nat} {v : V} {x : β}, Paired R vs xs → R v x → Paired R (vs.set j v) (xs.set j x)
  | _, _, _, _, _, .nil, _ => .nil
  | _, _, 0, _, _, .cons a t, h => .cons h t
  | _, _, j + 1, _, _, .cons a t, h => .cons a (paired_set t h)
theorem p_setRow {rs : List (List Rat)} {r : Addr} {j : Nat} {row : List Rat} (hm : RowsM K rs H r) (h : EvP te σ H (RowR K r row)) (ho : EvP ta σ H (Is (.ref r))) (hi : EvP tb σ H (Is (.int (j : Int)))) (hj : j < rs.length) (k : ∀ H1, ExB r H H1 → RowsM K (rs.set j row) H1 r → D.nx σ H1) :
    tAsg te (gSub ta tb rSetL) D σ H := h H (Ex.refl H) _ fun v H1 e1 rv => ho H1 e1 _ fun b H2 e2 rb => hi H2 (e1.trans e2) _ fun c H3 e3 rc => by
  cases (show b = _ from rb)
  cases (show c = _ from rc)
  have e := (e1.trans e2).trans e3
  obtain ⟨vs, hv, pv⟩ := hm
  have hl : vs.length = rs.length := Paired.length pv
  have h3 : H3 r = some (.lst vs) := e r _ hv
  have x3 : ExB r H3 (upd H3 r (.lst (vs.set j v))) := ExB.upd
  have nt3 : NT (H3 r) := by rw [h3]; trivial
  have e23 := e2.trans e3
  refine ⟨r, vs, (j : Int), j, rfl, rfl, h3, ixN_nat (by omega), k _ ((ExB.ofEx e).trans x3) ⟨vs.set j v, upd_same, ?_⟩⟩
  exact paired_set (L2.Paired.mapP pv fun w y hw => rowR_exB x3 nt3 ((inferInstance : StayR (RowR K r y)).rx _ _ _ (rx_ex e) hw)) (rowR_exB x3 nt3 ((inferInstance : StayR (RowR K r row)).rx _ _ _ (rx_ex e23) rv))
theorem qp_setRow {rs : List (List Rat)} {r : Addr} {j : Nat} {row : List Rat} {tz : TS} (hm : RowsM K rs H r) (h : EvP te σ H (RowR K r row)) (ho : EvP ta σ H (Is (.ref r))) (hi : EvP tb σ H (Is (.int (j : Int)))) (hj : j < rs.length) (k : ∀ H1, ExB r H H1 → RowsM K (rs.set j row) H1 r → tz D σ H1) :
    tSeq (tAsg te (gSub ta tb rSetL)) tz D σ H := p_setRow (D := { D with nx := tz D }) hm h ho hi hj k
theorem ep_len {xs : List α} (h : EvP ta σ H (Ls K S xs)) : EvP (tCB (rLenS K) (tCons ta tNil)) σ H (Is (.int (xs.length : Int))) := fun H1 e Q k => h H1 e _ fun v H2 e2 rv => by
  obtain ⟨a, vs, rfl, s, pv⟩ := rv
  refine ⟨a, vs, rfl, .inl s, ?_⟩
  have hl : vs.length = xs.length := Paired.length pv
  rw [hl]
  exact k _ H2 e2 rfl
theorem ea_one {v : V} (h : EvP ta σ H (Is v)) : EvA (tCons ta tNil) σ H [v] := ea_cons (ev_ep h) ea_nil
/-- the cell of a row of rows -/
theorem ep_row {rs : List (List Rat)} {r : Addr} {i : Nat} {row : List Rat} (hm : RowsM K rs H r) (ha : EvP ta σ H (Is (.ref r))) (hb : EvP tb σ H (Is (.int (i : Int)))) (hi : rs[i]? = some row) : EvP (tOp (rIxL K) ta tb) σ H (RowR K r row) :=
  ep_ixL (S := RowR K r) (xs := rs) (fun H1 e Q k => ha H1 e _ fun v H2 e2 rv => by
    cases (show v = _ from rv)
    exact k _ H2 e2 (hm.ex (e.trans e2)).ls) hb hi
theorem ep_cell {row : List Rat} {r : Addr} {i : Nat} {x : Rat} (ha : EvP ta σ H (RowR K r row)) (hb : EvP tb σ H (Is (.int (i : Int)))) (hi : row[i]? = some x) : EvP (tOp (rIxL K) ta tb) σ H (Fr K x) :=
  ep_ixL (S := Fr K) (xs := row) (ha.weak fun H' v _ ⟨a, e, _, l⟩ => by rw [e]; exact l) hb hi
theorem EvN.rowR {row : List Rat} {r : Addr} (h : EvN te σ H (LsM (Fr K) row)) (hr : H r ≠ none) : EvP te σ H (RowR K r row) := fun H1 e Q k => h H1 e Q fun p H2 n e2 l => k _ H2 e2 ⟨p, rfl, fun z => by
  rw [z] at n
  exact hr (fresh_back e n), l.ls⟩
end
theorem getD_of {α : Type} {xs : List α} {i : Nat} {x d : α} (h : xs[i]? = some x) : xs.getD i d = x := by
  rw [List.getD_eq_getElem?_getD, h]; rfl
theorem clrTo_zero {at_ : Nat} {c : List Rat} {rs : List (List Rat)} : clrTo at_ c rs 0 = rs := by
  unfold clrTo
  apply List.ext_getElem?
  intro i
  rw [List.getElem?_mapIdx]
  cases rs[i]? <;> rfl
theorem clrTo_get {at_ : Nat} {c : List Rat} {rs : List (List Rat)} {k i : Nat} : (clrTo at_ c rs k)[i]? = (rs[i]?).map fun row => if i < k then clr1 at_ c i row else row := by
  unfold clrTo
  rw [List.getElem?_mapIdx]
theorem clrTo_len {at_ : Nat} {c : List Rat} {rs : List (List Rat)} {k : Nat} : (clrTo at_ c rs k).length = rs.length := by
  unfold clrTo
  rw [List.length_mapIdx]
theorem clrTo_succ {at_ : Nat} {c : List Rat} {rs : List (List Rat)} {k : Nat} {row : List Rat} (h : rs[k]? = some row) : clrTo at_ c rs (k + 1) = (clrTo at_ c rs k).set k (clr1 at_ c k row) := by
  apply List.ext_getElem?
  intro i
  rw [clrTo_get, List.getElem?_set, clrTo_len, clrTo_get]
  by_cases e : k = i
  · subst e
    have hlt := (List.getElem?_eq_some_iff.mp h).1
    rw [if_pos rfl, if_pos hlt, h, Option.map_some, if_pos (Nat.lt_succ_self k)]
  · rw [if_neg e]
    cases g : rs[i]? with
    | none => rfl
    | some x =>
      rw [Option.map_some, Option.map_some]
      by_cases l : i < k
      · rw [if_pos (by omega), if_pos l]
      · rw [if_neg (by omega), if_neg l]
theorem clrTo_same {at_ : Nat} {c : List Rat} {rs : List (List Rat)} {k : Nat} {row : List Rat} (h : rs[k]? = some row) (e : clr1 at_ c k row = row) : clrTo at_ c rs (k + 1) = clrTo at_ c rs k := by
  rw [clrTo_succ h, e]
  apply List.ext_getElem?
  intro i
  rw [List.getElem?_set]
  by_cases z : k = i
  · subst z
    have hlt := (List.getElem?_eq_some_iff.mp h).1
    rw [if_pos rfl, clrTo_len, if_pos hlt, clrTo_get, h, Option.map_some, if_neg (Nat.lt_irrefl k)]
  · rw [if_neg z]
section
variable {K : PySem.W.Frag}
theorem len_clear_column (K : PySem.W.Frag) : ∀ vs H Q E, sp_clear_column K vs H Q E → vs.length = 2 := by
  rintro vs H Q E ⟨v, A, k, rfl, _⟩; rfl
theorem rd_clear_column (C : Cst K) (vs : List V) (H : Hp) (Q : VK) (E : XK) (h : sp_clear_column K vs H Q E) : t_clear_column K (BE Q) (start ["rows", "at", "found", "chosen", "first", "k", "by", "cell", "mine", "theirs"] vs) H := by
  obtain ⟨r, at_, rs, rfl, hm, ok, kq⟩ := h
  obtain ⟨row0, hrow0⟩ : ∃ row, rs[at_]? = some row := ⟨_, List.getElem?_eq_getElem ok.lt⟩
  have hmem0 : row0 ∈ rs := List.mem_of_getElem? hrow0
  obtain ⟨hl0, hl0'⟩ := ok.row row0 hmem0
  obtain ⟨p, hp⟩ : ∃ p, row0[at_]? = some p := ⟨_, List.getElem?_eq_getElem hl0⟩
  have eD : rs.getD at_ [] = row0 := getD_of hrow0
  have hpos := ok.pos
  rw [eD, getD_of hp] at hpos
  have hch : chosenM rs at_ = row0.map fun x => x / p := by unfold chosenM; rw [eD, getD_of hp]
  have okc := ok.okc
  have okr := ok.okr
  rw [hch] at okc okr
  have lt0 := ok.lt
  refine qp_asg (R := Is (.int (at_ : Int))) (ep_var (i := 1) rfl is_rfl) fun u H1 e1 hu => ?_
  cases (show u = _ from hu)
  refine q_while (fun m σ' H' => σ' = [some (.ref r), some (.int (at_ : Int)), some (.int (at_ : Int)), none, none, none, none, none, none, none] ∧ Ex H H') 0 ⟨rfl, e1⟩ ?_
  rintro m σ' H2 ⟨rfl, e2⟩
  have hm2 := hm.ex e2
  refine ⟨decide (p = 0), et_t (ep_eqF (ep_cell (ep_row hm2 (ep_var rfl is_rfl) (ep_var (i := 2) rfl is_rfl) hrow0) (ep_var (i := 1) rfl is_rfl) hp) (ep_zero C.z1)), fun hb => absurd (of_decide_eq_true hb) (fun z => by rw [z] at hpos; exact absurd hpos (by decide)), fun _ H3 e3 => ?_⟩
  have hm3 := hm2.ex e3
  refine qp_asg (R := RowR K r row0) (ep_row hm3 (ep_var rfl is_rfl) (ep_var (i := 2) rfl is_rfl) hrow0) fun w3 H4 e4 hw3 => ?_
  have hm4 := hm3.ex e4
  refine qp_setRow hm4 (ep_row hm4 (ep_var rfl is_rfl) (ep_var (i := 1) rfl is_rfl) hrow0) (ep_var rfl is_rfl) (ep_var (i := 2) rfl is_rfl) lt0 fun H5 x5 hm5 => ?_
  have hset : rs.set at_ row0 = rs := by
    apply List.ext_getElem?
    intro i
    rw [List.getElem?_set]
    by_cases z : at_ = i
    · subst z; rw [if_pos rfl, if_pos lt0, hrow0]
    · rw [if_neg z]
  rw [hset] at hm5
  have hw5 : RowR K r row0 H5 w3 := rowR_exB x5 hm4.nt hw3
  refine qp_asg (R := Fr K p) (ep_cell (ep_var (i := 3) rfl hw5) (ep_var (i := 1) rfl is_rfl) hp) fun w4 H6 e6 hw4 => ?_
  have hm6 := hm5.ex e6
  have hw6 : RowR K r row0 H6 w3 := (inferInstance : StayX (RowR K r row0)).ex _ _ _ e6 hw5
  have hr6 : H6 r ≠ none := by obtain ⟨vs, e, _⟩ := hm6; rw [e]; exact fun z => nomatch z
  have hov : EvN (tLc (iList K (tVar 3)) (gName 7) tYes (tCall (sp_over K) [] E0 (tCons (tVar 7) (tCons (tVar 4) tNil))) [7]) [some (.ref r), some (.int (at_ : Int)), some (.int (at_ : Int)), some w3, some w4, none, none, none, none, none] H6 (LsM (Fr K) (row0.map fun x => x / p)) := by
    have h := en_lc (U := Fr K) (σ := [some (.ref r), some (.int (at_ : Int)), some (.int (at_ : Int)), some w3, some w4, none, none, none, none, none]) (H := H6) (te := tCall (sp_over K) [] E0 (tCons (tVar 7) (tCons (tVar 4) tNil))) (g := gName 7) (tt := tYes) (vs := [7]) (p := fun _ => true) (f := fun x : Rat => x / p)
      (ei_list (S := Fr K) (xs := row0) (ep_var (i := 3) rfl hw6 |>.weak fun H' v _ ⟨a, e, _, l⟩ => by rw [e]; exact l)) (by omega) fun x w H7 e7 hx hw => ⟨_, fun Q q => q, rfl, tYesT, fun _ => ep_over (ep_var (i := 7) rfl hw) (ep_var (i := 4) rfl (hw4.ex e7)) hpos (okc _ (List.mem_map.mpr ⟨x, hx, rfl⟩))⟩
    rw [filt_true] at h
    exact h
  refine qp_asg (R := RowR K r (row0.map fun x => x / p)) (hov.rowR hr6) fun w3' H7 e7 hw3' => ?_
  have hm7 := hm6.ex e7
  refine qp_setRow hm7 (ep_var (i := 3) rfl hw3') (ep_var rfl is_rfl) (ep_var (i := 1) rfl is_rfl) lt0 fun H8 x8 hm8 => ?_
  have hw8 : RowR K r (row0.map fun x => x / p) H8 w3' := rowR_exB x8 hm7.nt hw3'
  have x08 : ExB r H H8 := (ExB.ofEx ((e2.trans e3).trans e4)).trans (x5.trans ((ExB.ofEx (e6.trans e7)).trans x8))
  have hlen8 : (rs.set at_ (row0.map fun x => x / p)).length = rs.length := List.length_set
  have le100 := ok.len
  refine s_forR1 (D := BE Q) (n := (rs.length : Int)) (ea_one (by rw [← hlen8]; exact ep_len (K := K) (S := RowR K r) (ep_var (i := 0) rfl hm8.ls))) (by omega)
    (fun k σ' H' => ∃ x5 x6, σ' = [some (.ref r), some (.int (at_ : Int)), some (.int (at_ : Int)), some w3', some w4, x5, x6, none, none, none] ∧ ExB r H H' ∧ RowR K r (row0.map fun x => x / p) H' w3' ∧ RowsM K (clrTo at_ (row0.map fun x => x / p) (rs.set at_ (row0.map fun x => x / p)) k) H' r)
    (fun H9 e9 => ⟨_, _, rfl, x08.trans (ExB.ofEx e9), (inferInstance : StayX (RowR K r (row0.map fun x => x / p))).ex _ _ _ e9 hw8, by rw [clrTo_zero]; exact hm8.ex e9⟩) ?_ ?_
  · rintro k σ' H9 hk ⟨x5', x6', rfl, x9, hw9, hm9⟩
    have hk' : k < rs.length := by omega
    obtain ⟨row, hrow⟩ : ∃ row, (rs.set at_ (row0.map fun x => x / p))[k]? = some row := ⟨_, List.getElem?_eq_getElem (by rw [hlen8]; exact hk')⟩
    have hrow9 : (clrTo at_ (row0.map fun x => x / p) (rs.set at_ (row0.map fun x => x / p)) k)[k]? = some row := by
      rw [clrTo_get, hrow, Option.map_some, if_neg (Nat.lt_irrefl k)]
    have hrl : at_ < row.length ∧ row.length ≤ 100 := by
      rw [List.getElem?_set] at hrow
      by_cases z : at_ = k
      · rw [if_pos z, if_pos lt0] at hrow
        cases hrow
        rw [List.length_map]
        exact ⟨hl0, hl0'⟩
      · rw [if_neg z] at hrow
        exact ok.row row (List.mem_of_getElem? hrow)
    obtain ⟨c, hc⟩ : ∃ c, row[at_]? = some c := ⟨_, List.getElem?_eq_getElem hrl.1⟩
    have test : EvT (tAnd (tTest (tOp rNe (tVar 5) (tVar 1))) (tTest (tOp (rNeD K) (tOp (rIxL K) (tOp (rIxL K) (tVar 0) (tVar 5)) (tVar 1)) (tC (.ref (He.ga K "NOUGHT_solving")))))) [some (.ref r), some (.int (at_ : Int)), some (.int (at_ : Int)), some w3', some w4, some (.int (k : Int)), x6', none, none, none] H9 ((!decide ((k : Int) = (at_ : Int))) && !decide (c = 0)) :=
      et_and (et_t (ep_neI (ep_var (i := 5) rfl is_rfl) (ep_var (i := 1) rfl is_rfl))) fun _ => et_t (ep_neF (ep_cell (ep_row hm9 (ep_var rfl is_rfl) (ep_var (i := 5) rfl is_rfl) hrow9) (ep_var (i := 1) rfl is_rfl) hc) (ep_zero C.z1))
    refine s_when test (fun hb H10 e10 => ?_) fun hb H10 e10 => ?_
    · simp only [Bool.and_eq_true, Bool.not_eq_true', decide_eq_false_iff_not] at hb
      obtain ⟨hb1, hb2⟩ := hb
      have hka : k ≠ at_ := fun z => hb1 (by rw [z])
      have hrk : rs[k]? = some row := by
        rw [List.getElem?_set, if_neg (Ne.symm hka)] at hrow
        exact hrow
      have okk := okr k row hka hrk
      rw [getD_of hc] at okk
      have hm10 := hm9.ex e10
      have hw10 : RowR K r (row0.map fun x => x / p) H10 w3' := (inferInstance : StayX (RowR K r (row0.map fun x => x / p))).ex _ _ _ e10 hw9
      refine qp_asg (R := Fr K c) (ep_cell (ep_row hm10 (ep_var rfl is_rfl) (ep_var (i := 5) rfl is_rfl) hrow9) (ep_var (i := 1) rfl is_rfl) hc) fun w6 H11 e11 hw6 => ?_
      have hm11 := hm10.ex e11
      have hw11 : RowR K r (row0.map fun x => x / p) H11 w3' := (inferInstance : StayX (RowR K r (row0.map fun x => x / p))).ex _ _ _ e11 hw10
      have hr11 : H11 r ≠ none := by obtain ⟨vs, e, _⟩ := hm11; rw [e]; exact fun z => nomatch z
      have hzl : (row.zip (row0.map fun x => x / p)).length ≤ 40000 := by
        rw [List.length_zip]
        omega
      have hcomp : EvN (tLc (iZip K (tCons (tOp (rIxL K) (tVar 0) (tVar 5)) (tCons (tVar 3) tNil))) (gTup K 2 (gCons (gName 8) (gCons (gName 9) gNil))) tYes (tCall (sp_minus K) [] E0 (tCons (tVar 8) (tCons (tCall (sp_times K) [] E0 (tCons (tVar 6) (tCons (tVar 9) tNil))) tNil))) [8, 9]) [some (.ref r), some (.int (at_ : Int)), some (.int (at_ : Int)), some w3', some w4, some (.int (k : Int)), some w6, none, none, none] H11 (LsM (Fr K) ((row.zip (row0.map fun x => x / p)).map fun q => q.1 - c * q.2)) := by
        have h := en_lc (U := Fr K) (σ := [some (.ref r), some (.int (at_ : Int)), some (.int (at_ : Int)), some w3', some w4, some (.int (k : Int)), some w6, none, none, none]) (H := H11) (te := tCall (sp_minus K) [] E0 (tCons (tVar 8) (tCons (tCall (sp_times K) [] E0 (tCons (tVar 6) (tCons (tVar 9) tNil))) tNil))) (g := gTup K 2 (gCons (gName 8) (gCons (gName 9) gNil))) (tt := tYes) (vs := [8, 9]) (p := fun _ => true) (f := fun q : Rat × Rat => q.1 - c * q.2)
          (ei_zip (K := K) (S := Fr K) (U := Fr K) (xs := row) (ys := row0.map fun x => x / p) (eas_cons ((ep_row hm11 (ep_var (i := 0) rfl is_rfl) (ep_var (i := 5) rfl is_rfl) hrow9).weak fun H' v _ ⟨a, e, _, l⟩ => by rw [e]; exact l) (eas_cons ((ep_var (i := 3) rfl hw11).weak fun H' v _ ⟨a, e, _, l⟩ => by rw [e]; exact l) eas_nil))) hzl fun q w H12 e12 hq hw => ?_
        · rw [filt_true] at h
          exact h
        · obtain ⟨T, a, b, rfl, hT, ha, hb⟩ := hw.two
          exact ⟨[some (.ref r), some (.int (at_ : Int)), some (.int (at_ : Int)), some w3', some w4, some (.int (k : Int)), some w6, none, some a, some b], fun Q q => tup2 hT q, rfl, tYesT, fun _ => ep_minus (ep_var (i := 8) rfl ha) (ep_times (ep_var (i := 6) rfl (hw6.ex e12)) (ep_var (i := 9) rfl hb) (okk q hq).1) (okk q hq).2⟩
      refine p_setRow hm11 (hcomp.rowR hr11) (ep_var rfl is_rfl) (ep_var (i := 5) rfl is_rfl) (by rw [clrTo_len, hlen8]; exact hk') fun H12 x12 hm12 => ⟨_, _, rfl, (x9.trans (ExB.ofEx (e10.trans e11))).trans x12, rowR_exB x12 hm11.nt hw11, ?_⟩
      rw [clrTo_succ hrow]
      have : clr1 at_ (row0.map fun x => x / p) k row = (row.zip (row0.map fun x => x / p)).map fun q => q.1 - c * q.2 := by
        unfold clr1
        rw [getD_of hc, if_pos ⟨hka, hb2⟩]
      rw [this]
      exact hm12
    · refine ⟨_, _, rfl, x9.trans (ExB.ofEx e10), (inferInstance : StayX (RowR K r (row0.map fun x => x / p))).ex _ _ _ e10 hw9, ?_⟩
      rw [clrTo_same hrow]
      · exact hm9.ex e10
      · unfold clr1
        rw [getD_of hc, if_neg]
        rintro ⟨h1, h2⟩
        rw [decide_eq_false (show ¬ (k : Int) = (at_ : Int) by omega), decide_eq_false h2] at hb
        cases hb
  · rintro σ' H9 ⟨x5', x6', rfl, x9, hw9, hm9⟩
    refine kq H9 x9 ?_
    unfold clearM
    rw [hch]
    exact hm9
end
end Tc
set_option Elab.async false
set_option linter.all false
set_option maxRecDepth 100000
set_option maxHeartbeats 4000000
set_option exponentiation.threshold 10000
namespace Tc
open PySem PySem.Spec PyProof.Rows L2 Evl
section
variable {K : PySem.W.Frag} {σ : L2.St} {B H H' : Hp} {tl ta tb te : TE} {α : Type} {D : Ends}
/-- a comprehension that gives rows: each a new list -/
theorem en_lcRows {wi : TI} {g : TG} {vs : List Nat} {as : List α} {RI : α → HV} {f : α → List Rat} (hi : EvI wi σ H as RI) (hn : as.length ≤ 40000)
    (hb : ∀ a x H', Ex H H' → a ∈ as → RI a H' x → ∃ σ2, (∀ Q : L2.St → Hp → Prop, Q σ2 H' → g x (wipe σ vs) H' Q) ∧ wipe σ2 vs = wipe σ vs ∧ EvN te σ2 H' (LsM (Fr K) (f a))) :
    EvN (tLc wi g tYes te vs) σ H (fun H p => RowsM K (as.map f) H p) := fun H1 e Q k => hi H1 e _ fun J B eB go stop yld Dl hD => by
  have hBD : Ex B (upd B Dl (.lst [])) := Ex.new hD
  let Pv : Nat → Hp → Prop := fun i H' => Ex B H' ∧ RowsM K ((as.take i).map f) H' Dl
  refine ⟨fun i m H' => m = as.length - i ∧ i ≤ as.length ∧ Pv i H', ⟨as.length, by simp, Nat.zero_le _, hBD, [], upd_same, .nil⟩, ?_⟩
  rintro i m H' ⟨rfl, hi', e', hl⟩
  by_cases hlt : i < as.length
  · refine .inr ⟨go i H' hlt e', Pv (i + 1), fun H'' p' => ⟨as.length - (i + 1), by omega, rfl, hlt, p'⟩, fun x H'' y => ?_⟩
    obtain ⟨e2, a, ea, ra⟩ := yld i H' x H'' hlt e' y
    obtain ⟨σ2, hg, hw, he⟩ := hb a x H'' ((e.trans eB).trans (e'.trans e2)) (List.mem_of_getElem? ea) ra
    refine hg _ ⟨hw, ?_⟩
    refine tYesT H'' (Ex.refl _) _ fun H3 e3 => ?_
    obtain ⟨ws, hws, hpw⟩ := hl
    have lw : ws.length ≤ 40000 := by
      rw [Paired.length hpw, List.length_map, List.length_take]
      omega
    show te σ2 H3 fun y H4 => ∃ acc, H4 Dl = some (.lst acc) ∧ acc.length < sizeLine ∧ Pv (i + 1) (upd H4 Dl (.lst (acc ++ [y])))
    refine he H3 e3 _ fun q H4 nq e4 ry => ⟨ws, ((e2.trans e3).trans e4) Dl _ hws, sz_lt (by omega), Ex.mut (((e'.trans e2).trans e3).trans e4) hD, ws ++ [.ref q], upd_same, ?_⟩
    have h4 := ((e2.trans e3).trans e4) Dl _ hws
    have x4 : ExB Dl H4 (upd H4 Dl (.lst (ws ++ [.ref q]))) := ExB.upd
    have nt4 : NT (H4 Dl) := by rw [h4]; trivial
    have nqd : q ≠ Dl := fun z => by
      rw [z] at nq
      rw [(e2.trans e3) Dl _ hws] at nq
      cases nq
    rw [List.take_add_one, ea, List.map_append]
    exact Paired.snoc (L2.Paired.mapP hpw fun w b h => rowR_exB x4 nt4 ((inferInstance : StayX (RowR K Dl b)).ex _ _ _ ((e2.trans e3).trans e4) h)) (rowR_exB x4 nt4 ⟨q, rfl, nqd, ry.ls⟩)
  · have e5 : i = as.length := by omega
    subst e5
    refine .inl ⟨stop H' e', k Dl H' (fresh_back eB hD) (eB.trans e') ?_⟩
    rw [List.take_length] at hl
    exact hl
theorem ep_m1 : EvP (tUn (rU fun i => .int (-i)) (tC (.int 1))) σ H (Is (.int (-1))) := fun H1 e Q k => ⟨1, rfl, k _ H1 (Ex.refl _) rfl⟩
theorem getLast_eq {α : Type} {row : List α} {d : α} (h : row ≠ []) : ∃ init, row = init ++ [row.getLastD d] := by
  refine ⟨row.dropLast, ?_⟩
  have h1 := List.dropLast_concat_getLast h
  rw [List.getLastD_eq_getLast?, List.getLast?_eq_some_getLast h]
  exact h1.symm
theorem ep_last {row : List Rat} {r : Addr} (ha : EvP ta σ H (RowR K r row)) (hb : EvP tb σ H (Is (.int (-1)))) (hr : row ≠ []) : EvP (tOp (rIxL K) ta tb) σ H (Fr K (row.getLastD 0)) :=
  ep_op ha hb fun H1 a b e ra rb Q k => by
    cases (show b = _ from rb)
    obtain ⟨a, rfl, _, p, vs, e1, s, rs⟩ := ra
    cases e1
    obtain ⟨init, hi⟩ := getLast_eq (d := (0 : Rat)) hr
    generalize row.getLastD 0 = l at hi k
    subst hi
    have hl : vs.length = init.length + 1 := by rw [Paired.length rs]; simp
    obtain ⟨w, e2, rw'⟩ := Paired.get1 rs (j := init.length) (y := l) (by simp)
    have e3 : atI vs (-1) = some w := by
      unfold atI ixN
      rw [if_neg (by decide), if_pos (by omega)]
      show vs[_]? = some w
      rw [show (-1 + (vs.length : Int)).toNat = init.length by omega]
      exact e2
    exact ⟨a, vs, -1, w, rfl, rfl, s, e3, k w H1 (Ex.refl _) rw'⟩
theorem en_listS {xs : List α} {S : α → HV} [∀ x, Stay (S x)] (ha : EvP ta σ H (Ls K S xs)) : EvN (tCB (rListS K) (tCons ta tNil)) σ H (LsM S xs) := fun H1 e Q k => ha H1 e _ fun v H2 e2 rv => by
  obtain ⟨a, vs, rfl, s, pv⟩ := rv
  exact ⟨a, vs, rfl, .inl s, fun l hl => k l _ (fresh_back e2 hl) (e2.trans (Ex.new hl)) ⟨vs, upd_same, L2.Paired.mapP pv fun w y hw => (inferInstance : StayX (S y)).ex _ _ _ (Ex.new hl) hw⟩⟩
theorem paired_app {α β : Type} {R : α → β → Prop} : ∀ {a : List α} {b : List β} {c : List α} {d : List β}, Paired R a b → Paired R c d → Paired R (a ++ c) (b ++ d)
  | _, _, _, _, .nil, h => h
  | _, _, _, _, .cons h t, g => .cons h (paired_app t g)
theorem en_cat {xs ys : List α} {S : α → HV} [∀ x, Stay (S x)] (ha : EvN ta σ H (LsM S xs)) (hb : EvN tb σ H (LsM S ys)) (hl : xs.length + ys.length ≤ 100000) : EvN (tOp rCat ta tb) σ H (LsM S (xs ++ ys)) := fun H1 e Q k => ha H1 e _ fun p H2 np e2 hp => hb H2 (e.trans e2) _ fun q H3 nq e3 hq => by
  obtain ⟨vs, hv, pv⟩ := hp
  obtain ⟨ws, hw, pw⟩ := hq
  have l1 : vs.length = xs.length := Paired.length pv
  have l2 : ws.length = ys.length := Paired.length pw
  refine ⟨p, q, vs, ws, rfl, rfl, e3 p _ hv, hw, sz_of (by omega), fun r hr => k r _ (fresh_back (e2.trans e3) hr) ((e2.trans e3).trans (Ex.new hr)) ⟨vs ++ ws, upd_same, ?_⟩⟩
  have a1 : Paired (fun w x => S x (upd H3 r (.lst (vs ++ ws))) w) vs xs := L2.Paired.mapP pv fun w y hw => (inferInstance : StayX (S y)).ex _ _ _ (e3.trans (Ex.new hr)) hw
  have a2 : Paired (fun w x => S x (upd H3 r (.lst (vs ++ ws))) w) ws ys := L2.Paired.mapP pw fun w y hw => (inferInstance : StayX (S y)).ex _ _ _ (Ex.new hr) hw
  exact paired_app a1 a2
theorem en_one {x : α} {S : α → HV} [∀ x, Stay (S x)] (ha : EvP ta σ H (S x)) : EvN (tLst (tCons ta tNil)) σ H (LsM S [x]) := (en_lst (Rs := [S x]) (eas_cons ha eas_nil) (show 1 ≤ 100000 by decide)).weak fun H' p _ r => by
  obtain ⟨vs, e, a⟩ := r
  obtain ⟨w, rfl, hw⟩ := a.one
  exact ⟨[w], e, .cons hw .nil⟩
end
section
variable {K : PySem.W.Frag}
theorem len_solved (K : PySem.W.Frag) : ∀ vs H Q E, sp_solved K vs H Q E → vs.length = 2 := by
  rintro vs H Q E ⟨v, A, k, w, rfl, _⟩; rfl
theorem clearM_len (rs : List (List Rat)) (k : Nat) : (clearM rs k).length = rs.length := by
  unfold clearM
  rw [clrTo_len, List.length_set]
theorem solTo_len (rs : List (List Rat)) (k : Nat) : (solTo rs k).length = rs.length := by
  induction k with
  | zero => rfl
  | succ k ih => show (clearM (solTo rs k) k).length = _; rw [clearM_len, ih]
theorem rd_solved (C : Cst K) (vs : List V) (H : Hp) (Q : VK) (E : XK) (h : sp_solved K vs H Q E) : t_solved K (BE Q) (start ["square", "wanted", "rows", "at", "row", "last"] vs) H := by
  obtain ⟨v, u, sq, w, rfl, hs, hw, ok, kq⟩ := h
  have l1 := ok.len
  have l2 := ok.le
  have hz : (sq.zip w).length = sq.length := by rw [List.length_zip]; omega
  have hrl : (rowsOf sq w).length = sq.length := by unfold rowsOf; rw [List.length_map, hz]
  refine qp_asgN (S := fun H p => RowsM K ((sq.zip w).map fun p => p.1 ++ [p.2]) H p) (en_lcRows (f := fun p : List Rat × Rat => p.1 ++ [p.2]) (ei_zip (K := K) (S := fun row => Ls K (Fr K) row) (U := Fr K) (eas_cons (ep_var (i := 0) rfl hs) (eas_cons (ep_var (i := 1) rfl hw) eas_nil))) (by omega) fun q x H1 e1 hq hx => ?_) fun r H1 nr e1 hm => ?_
  · obtain ⟨T, a, b, rfl, hT, ha, hb⟩ := hx.two
    have hql : q.1.length ≤ 100 := ok.rows q.1 (List.of_mem_zip hq).1
    exact ⟨[some v, some u, none, none, some a, some b], fun Q q => tup2 hT q, rfl, en_cat (en_listS (ep_var (i := 4) rfl ha)) (en_one (ep_var (i := 5) rfl hb)) (by simp only [List.length_cons, List.length_nil]; omega)⟩
  · have hm : RowsM K (rowsOf sq w) H1 r := hm
    refine q_forR1 (D := BE Q) (n := ((rowsOf sq w).length : Int)) (ea_one (ep_len (K := K) (S := RowR K r) (ep_var (i := 2) rfl hm.ls))) (by omega)
      (fun k σ' H' => ∃ x3, σ' = [some v, some u, some (.ref r), x3, none, none] ∧ Ex H H' ∧ RowsM K (solTo (rowsOf sq w) k) H' r) (fun H2 e2 => ⟨_, rfl, e1.trans e2, hm.ex e2⟩) ?_ ?_
    · rintro k σ' H2 hk ⟨x3, rfl, e2, hm2⟩
      refine p_exprCall (eas_cons (ep_var (i := 2) rfl (is_rfl (x := .ref r))) (eas_cons (ep_var (i := 3) rfl (is_rfl (x := .int (k : Int)))) eas_nil)) fun H3 us e3 r3 => ?_
      obtain ⟨a, b, rfl, ha, hb⟩ := r3.two
      cases (show a = _ from ha)
      cases (show b = _ from hb)
      exact ⟨r, k, solTo (rowsOf sq w) k, rfl, hm2.ex e3, ok.ok k (by omega), fun H4 x4 h4 => ⟨_, rfl, ExB.ex (e2.trans e3) nr x4, h4⟩⟩
    · rintro σ' H2 ⟨x3, rfl, e2, hm2⟩
      have hm2 : RowsM K (solTo (rowsOf sq w) (rowsOf sq w).length) H2 r := hm2
      have hlast := ok.last
      rw [← hrl] at hlast
      refine p_retN (S := LsM (Fr K) (solvedM sq w)) ?_ fun q H3 nq e3 hq => kq q H3 (fresh_back e2 nq) (e2.trans e3) hq
      have h := en_lc (U := Fr K) (σ := [some v, some u, some (.ref r), x3, none, none]) (H := H2) (te := tOp (rIxL K) (tVar 4) (tUn (rU fun i => .int (-i)) (tC (.int 1)))) (g := gName 4) (tt := tYes) (vs := [4]) (p := fun _ => true) (f := fun row : List Rat => row.getLastD 0)
        (ei_list (K := K) (S := RowR K r) (xs := solTo (rowsOf sq w) (rowsOf sq w).length) (ep_var (i := 2) rfl hm2.ls)) (by rw [solTo_len]; omega) fun row x H4 e4 hr hx => ⟨_, fun Q q => q, rfl, tYesT, fun _ => ep_last (ep_var (i := 4) rfl hx) ep_m1 (hlast row hr)⟩
      rw [filt_true] at h
      exact h
end
end Tc
set_option Elab.async false
set_option linter.all false
set_option maxRecDepth 100000
set_option maxHeartbeats 4000000
set_option exponentiation.threshold 10000
namespace Tc
open PySem PySem.Spec PyProof.Rows L2 Evl
section
variable {K : PySem.W.Frag} {σ : L2.St} {B H H' : Hp} {tl ta tb te to : TE} {α β : Type} {S : α → HV} {U : β → HV} {D : Ends} {tu tz : TS}
theorem p_appM {l : Addr} {xs : List α} {x : α} (hm : LsM S xs H l) [∀ x, Stay (S x)] (hl : xs.length < 10000) (ha : EvP to σ H (Is (.ref l))) (h : EvP te σ H (S x)) (k : ∀ H1, ExB l H H1 → LsM S (xs ++ [x]) H1 l → D.nx σ H1) :
    tDrop (tBM K "list" rAppend to (tCons te tNil)) D σ H := by
  obtain ⟨vs, hv, pv⟩ := hm
  have hz : vs.length = xs.length := Paired.length pv
  refine p_app hv ha h (by omega) fun v H1 e1 h1 rv => k _ ((ExB.ofEx e1).trans ExB.upd) ⟨vs ++ [v], upd_same, ?_⟩
  have kp : Kp H1 (upd H1 l (.lst (vs ++ [v]))) := kp_upd (by rw [h1]; trivial)
  exact Paired.snoc (L2.Paired.mapP pv fun w y hw => (inferInstance : Stay (S y)).kp _ _ _ ((kp_ex e1).trans kp) hw) ((inferInstance : Stay (S x)).kp _ _ _ kp rv)
theorem p_appRow {l : Addr} {rs : List (List Rat)} {row : List Rat} (hm : RowsM K rs H l) (hl : rs.length < 10000) (ha : EvP to σ H (Is (.ref l))) (h : EvP te σ H (RowR K l row)) (k : ∀ H1, ExB l H H1 → RowsM K (rs ++ [row]) H1 l → D.nx σ H1) :
    tDrop (tBM K "list" rAppend to (tCons te tNil)) D σ H := by
  obtain ⟨vs, hv, pv⟩ := hm
  have hz : vs.length = rs.length := Paired.length pv
  refine p_app hv ha h (by omega) fun v H1 e1 h1 rv => k _ ((ExB.ofEx e1).trans ExB.upd) ⟨vs ++ [v], upd_same, ?_⟩
  have x1 : ExB l H1 (upd H1 l (.lst (vs ++ [v]))) := ExB.upd
  have nt : NT (H1 l) := by rw [h1]; trivial
  exact Paired.snoc (L2.Paired.mapP pv fun w y hw => rowR_exB x1 nt ((inferInstance : StayX (RowR K l y)).ex _ _ _ e1 hw)) (rowR_exB x1 nt rv)
theorem sqL_exB {a p : Addr} {xs : List V} {kv : List (Key × V)} (s : SqL K H a xs) (hp : H p = some (.dK kv)) (x : ExB p H H') : SqL K H' a xs := by
  rcases s with s | s
  · refine .inl (rd_exB x (fun z => ?_) s)
    subst z
    rcases s with s | ⟨o, s⟩ <;> (rw [hp] at s; cases s)
  · exact .inr s
/-- over two lists, while the body changes the dict at p alone -/
theorem p_forZip {ta : TA} {xs : List α} {ys : List β} {p : Addr} {j1 j2 : Nat} (h : EvAs ta σ H [Ls K S xs, Ls K U ys]) [∀ x, Stay (S x)] [∀ x, Stay (U x)] (Pv : Nat → L2.St → Hp → Prop) (h0 : ∀ H1, Ex H H1 → Pv 0 σ H1) (hdk : ∀ i σ' H', Pv i σ' H' → ∃ kv, H' p = some (.dK kv))
    (hs : ∀ i x y w1 w2 σ' H0 H', xs[i]? = some x → ys[i]? = some y → Pv i σ' H0 → Ex H0 H' → S x H' w1 → U y H' w2 → tu { D with nx := fun σ3 H3 => ExB p H0 H3 ∧ Pv (i + 1) σ3 H3, ct := fun σ3 H3 => ExB p H0 H3 ∧ Pv (i + 1) σ3 H3, bk := D.nx } ((σ'.set j1 (some w1)).set j2 (some w2)) H') (hd : ∀ σ' H', Pv (min xs.length ys.length) σ' H' → D.nx σ' H') : tFor (iZip K ta) (gTup K 2 (gCons (gName j1) (gCons (gName j2) gNil))) tu D σ H := by
  refine h H (Ex.refl H) _ fun vs H1 e1 r => ?_
  obtain ⟨a, b, rfl, ra, rb⟩ := r.two
  obtain ⟨a, us, rfl, hl, pu⟩ := ra
  obtain ⟨b, ws, rfl, hl2, pw⟩ := rb
  have l1 : us.length = xs.length := Paired.length pu
  have l2 : ws.length = ys.length := Paired.length pw
  have w := walk_zip (K := K) (a := a) (b := b) (xs := us) (ys := ws) (n := min xs.length ys.length) (by rw [l1, l2])
  refine ⟨a, b, us, ws, rfl, hl, hl2, fun i m σ' H' => m = min xs.length ys.length - i ∧ i ≤ min xs.length ys.length ∧ Pv i σ' H' ∧ SqL K H' a us ∧ SqL K H' b ws ∧ Kp H1 H', ⟨_, rfl, Nat.zero_le _, h0 H1 e1, hl, hl2, Kp.refl _⟩, ?_⟩
  rintro i m σ' H' ⟨rfl, hi, pv, ha, hb, kp⟩
  by_cases hlt : i < min xs.length ys.length
  · obtain ⟨kv, hkv⟩ := hdk _ _ _ pv
    refine .inr ⟨w.goes i H' hlt ⟨ha, hb⟩, fun σ3 H3 => ExB p H' H3 ∧ Pv (i + 1) σ3 H3, fun σ3 H3 ⟨x3, p3⟩ => ⟨min xs.length ys.length - (i + 1), by omega, rfl, hlt, p3, sqL_exB ha hkv x3, sqL_exB hb hkv x3, kp.trans (x3.kp (by rw [hkv]; trivial))⟩, fun x H'' y => ?_⟩
    obtain ⟨T, x1, x2, rfl, nT, rfl, f1, f2⟩ := w.yields i H' x H'' hlt ⟨ha, hb⟩ y
    obtain ⟨z, ez, r1⟩ := Paired.get0 pu f1
    obtain ⟨z2, ez2, r2⟩ := Paired.get0 pw f2
    have eT : Ex H' (upd H' T (.tup [x1, x2])) := Ex.new nT
    refine tup2 (SqT.of upd_same) ?_
    exact hs i z z2 x1 x2 σ' H' _ ez ez2 pv eT ((inferInstance : Stay (S z)).kp _ _ _ (kp.trans (kp_ex eT)) r1) ((inferInstance : Stay (U z2)).kp _ _ _ (kp.trans (kp_ex eT)) r2)
  · have e : i = min xs.length ys.length := by omega
    subst e
    exact .inl ⟨w.stops H' ⟨ha, hb⟩, hd σ' H' pv⟩
theorem en_keysD {m : AL α} [∀ x, StayX (S x)] (ha : EvP ta σ H (Dc S m)) : EvN (tCB rKeysD (tCons ta tNil)) σ H (LsM NmR (m.map fun p => p.1)) := fun H1 e Q k => ha H1 e _ fun v H2 e2 rv => by
  obtain ⟨a, kvs, rfl, s, pd⟩ := rv
  refine ⟨a, kvs, rfl, s, fun q hq => k q _ (fresh_back e2 hq) (e2.trans (Ex.new hq)) ⟨_, upd_same, ?_⟩⟩
  rw [pd.keys]
  generalize (m.map (fun p => p.1)) = ns
  induction ns with
  | nil => exact .nil
  | cons a r ih => exact .cons rfl ih
end
theorem ls_Rx {K : PySem.W.Frag} {α : Type} {S : α → HV} [∀ x, StayR (S x)] {xs : List α} {H H' : Hp} {v : V} (e : Rx H H') (h : Ls K S xs H v) : Ls K S xs H' v := (inferInstance : StayR (Ls K S xs)).rx _ _ _ e h
section
variable {K : PySem.W.Frag}
theorem len_left_by (K : PySem.W.Frag) : ∀ vs H Q E, sp_left_by K vs H Q E → vs.length = 2 := by
  rintro vs H Q E ⟨v, A, k, w, rfl, _⟩; rfl
theorem rd_left_by (C : Cst K) (vs : List V) (H : Hp) (Q : VK) (E : XK) (h : sp_left_by K vs H Q E) : t_left_by K (BE Q) (start ["shares", "wanted", "casks", "square", "place", "row", "name", "own", "found", "amount"] vs) H := by
  obtain ⟨v, u, A, b, rfl, hA, hb, ok, kq⟩ := h
  have lenA := ok.len
  have hkl : (A.map fun p => p.1).length = A.length := List.length_map _
  refine qp_asgN (en_keysD (S := fun row => Dc (Fr K) row) (m := A) (ep_var (i := 0) rfl hA)) fun c H1 nc e1 hc => ?_
  have hA1 : TabR K A H1 v := (inferInstance : StayX (TabR K A)).ex _ _ _ e1 hA
  have hb1 : Dc (Fr K) b H1 u := (inferInstance : StayX (Dc (Fr K) b)).ex _ _ _ e1 hb
  have hcL : Ls K NmR (A.map fun p => p.1) H1 (.ref c) := hc.ls
  refine qp_asgN (en_nil (S := RowR K c)) fun s H2 ns e2 hs => ?_
  have hs : RowsM K [] H2 s := by obtain ⟨vs, e, p⟩ := hs; cases p; exact ⟨[], e, .nil⟩
  refine p_forL (D := { BE Q with nx := tSeq _ _ (BE Q) }) (S := NmR) (K := K) (xs := A.map fun p => p.1) (v := .ref c) (B := H1) (ep_var (i := 2) rfl is_rfl) hcL
    (fun i σ' H' => ∃ x4 x5 x6 x7, σ' = [some v, some u, some (.ref c), some (.ref s), x4, x5, x6, x7, none, none] ∧ Ex H1 H' ∧ RowsM K ((squareM A).take i) H' s) (rx_ex e2)
    (fun H3 e3 => ⟨_, _, _, _, rfl, e2.trans e3, by rw [List.take_zero]; exact hs.ex e3⟩) (fun i σ' H' ⟨_, _, _, _, _, e, _⟩ => rx_ex e) ?_ ?_
  · rintro i place pv σ' H3 hi ⟨x4, x5, x6, x7, rfl, e3, hs3⟩ hpv
    cases (show pv = _ from hpv)
    obtain ⟨row, hrow⟩ : ∃ row, (A.map fun p => p.1).map (fun name => (if name = place then (1 : Rat) else 0) - (aget ((aget A name).getD []) place).getD 0) = row := ⟨_, rfl⟩
    have hsi : (squareM A)[i]? = some row := by
      unfold squareM
      rw [List.getElem?_map, hi, ← hrow]; rfl
    have hrl : row.length = A.length := by rw [← hrow, List.length_map, hkl]
    have hi' := (List.getElem?_eq_some_iff.mp hi).1
    have okrow := ok.ok row (List.mem_of_getElem? hsi)
    refine qp_asgN (en_nil (S := Fr K)) fun rw_ H4 nr e4 hr4 => ?_
    refine p_forL (S := NmR) (K := K) (xs := A.map fun p => p.1) (v := .ref c) (B := H3) (ep_var (i := 2) rfl is_rfl) (ls_Rx (rx_ex e3) hcL)
      (fun j σ' H' => ∃ x6 x7, σ' = [some v, some u, some (.ref c), some (.ref s), some (.str place), some (.ref rw_), x6, x7, none, none] ∧ Ex H3 H' ∧ LsM (Fr K) (row.take j) H' rw_) (rx_ex e4)
      (fun H5 e5 => ⟨_, _, rfl, e4.trans e5, by rw [List.take_zero]; exact hr4.ex e5⟩) (fun j σ' H' ⟨_, _, _, e, _⟩ => rx_ex e) ?_ ?_
    · rintro j name nv σ' H5 hj ⟨y6, y7, rfl, e5, hr5⟩ hnv
      cases (show nv = _ from hnv)
      have hj' := (List.getElem?_eq_some_iff.mp hj).1
      obtain ⟨rowA, hgA⟩ := aget_some_mem (List.mem_of_getElem? hj)
      have hrj : row[j]? = some ((if name = place then (1 : Rat) else 0) - (aget rowA place).getD 0) := by
        rw [← hrow, List.getElem?_map, hj, Option.map_some, hgA]; rfl
      have okj := okrow _ (List.mem_of_getElem? hrj)
      have e15 := e3.trans e5
      refine qp_asg (R := Fr K 0) (ep_zero C.z3) fun w7 H6 e6 hw7 => ?_
      have fin : ∀ (D2 : Ends), (∀ σ' H', (∃ x6 x7, σ' = [some v, some u, some (.ref c), some (.ref s), some (.str place), some (.ref rw_), x6, x7, none, none] ∧ Ex H3 H' ∧ LsM (Fr K) (row.take (j + 1)) H' rw_) → D2.nx σ' H') → ∀ (o : Rat) (w : V) (H7 : Hp), o = (if name = place then (1 : Rat) else 0) → Ex H6 H7 → Fr K o H7 w → tDrop (tBM K "list" rAppend (tVar 5) (tCons (tCall (sp_minus K) [] E0 (tCons (tVar 7) (tCons (tDGet2 (tDGet (tVar 0) (tVar 6)) (tVar 4) (tC (.ref (He.ga K "NOUGHT_longrun")))) tNil))) tNil)) D2 [some v, some u, some (.ref c), some (.ref s), some (.str place), some (.ref rw_), some (.str name), some w, none, none] H7 := fun D2 hD2 o w H7 ho e7 hw => by
        subst ho
        have e17 := (e15.trans e6).trans e7
        have hr7 := hr5.ex (e6.trans e7)
        refine p_appM (x := (if name = place then (1 : Rat) else 0) - (aget rowA place).getD 0) hr7 (by rw [List.length_take]; omega) (ep_var (i := 5) rfl is_rfl) (ep_minus (ep_var (i := 7) rfl hw) (ep_dget2 (S := Fr K) (m := rowA) (x := (0 : Rat)) (ep_dget (S := fun row => Dc (Fr K) row) (m := A) (ep_var (i := 0) rfl ((inferInstance : StayX (TabR K A)).ex _ _ _ e17 hA1)) (ep_var (i := 6) rfl is_rfl) hgA) (ep_var (i := 4) rfl is_rfl) (ep_zero C.z3)) okj) fun H8 x8 h8 => hD2 _ _ ⟨_, _, rfl, ?_, ?_⟩
        · exact ExB.ex ((e5.trans e6).trans e7) nr x8
        · rw [List.take_add_one, hrj]
          exact h8
      refine q_when (et_t (ep_eqS (ep_var (i := 6) rfl is_rfl) (ep_var (i := 4) rfl is_rfl))) (fun hb' H7 e7 => ?_) fun hb' H7 e7 => ?_
      · refine p_asg (R := Fr K 1) (ep_one C.o3) fun w H8 e8 hw => ?_
        exact fin _ (fun _ _ h => h) 1 w H8 (by rw [if_pos (of_decide_eq_true hb')]) (e7.trans e8) hw
      · exact fin _ (fun _ _ h => h) 0 w7 H7 (by rw [if_neg (of_decide_eq_false hb')]) e7 (hw7.ex e7)
    · rintro σ' H5 ⟨y6, y7, rfl, e5, hr5⟩
      rw [List.take_of_length_le (by rw [hkl, hrl]; exact Nat.le_refl _)] at hr5
      have hs5 := hs3.ex e5
      have hsr : rw_ ≠ s := fun z => by
        obtain ⟨vs, e, _⟩ := hs3
        rw [z, e] at nr; cases nr
      refine p_appRow (row := row) hs5 (by rw [List.length_take]; unfold squareM; rw [List.length_map]; omega) (ep_var (i := 3) rfl is_rfl) (ep_var (i := 5) rfl ⟨rw_, rfl, hsr, hr5.ls⟩) fun H6 x6' h6 => ⟨_, _, _, _, rfl, ExB.ex (e3.trans e5) ns x6', ?_⟩
      rw [List.take_add_one, hsi]
      exact h6
  · rintro σ' H3 ⟨x4, x5, x6, x7, rfl, e3, hs3⟩
    rw [List.take_of_length_le (by unfold squareM; rw [List.length_map]; exact Nat.le_refl _)] at hs3
    dsimp only
    refine qp_asgN (en_dnew (S := Fr K)) fun f H4 nf e4 hf4 => ?_
    have e14 := e3.trans e4
    have hcL4 : Ls K NmR (A.map fun p => p.1) H4 (.ref c) := ls_Rx (rx_ex e14) hcL
    have hb4 : Dc (Fr K) b H4 u := (inferInstance : StayX (Dc (Fr K) b)).ex _ _ _ e14 hb1
    have hs4 := hs3.ex e4
    have hwl : EvN (tLc (iList K (tVar 2)) (gName 6) tYes (tDGet (tVar 1) (tVar 6)) [6]) [some v, some u, some (.ref c), some (.ref s), x4, x5, x6, x7, some (.ref f), none] H4 (LsM (Fr K) (wantedM A b)) := by
      have h := en_lc (U := Fr K) (σ := [some v, some u, some (.ref c), some (.ref s), x4, x5, x6, x7, some (.ref f), none]) (H := H4) (te := tDGet (tVar 1) (tVar 6)) (g := gName 6) (tt := tYes) (vs := [6]) (p := fun _ => true) (f := fun n : Str => (aget b n).getD 0)
        (ei_list (K := K) (S := NmR) (xs := A.map fun p => p.1) (ep_var (i := 2) rfl hcL4)) (by omega) fun n x H5 e5 hn hx => ⟨_, fun Q q => q, rfl, tYesT, fun _ => ?_⟩
      · rw [filt_true] at h
        exact h
      · cases (show x = _ from hx)
        obtain ⟨q, hq⟩ := Option.isSome_iff_exists.mp (ok.has n hn)
        rw [hq]
        exact ep_dget (S := Fr K) (m := b) (ep_var (i := 1) rfl ((inferInstance : StayX (Dc (Fr K) b)).ex _ _ _ e5 hb4)) (ep_var (i := 6) rfl is_rfl) hq
    have hsol : EvN (tCall (sp_solved K) [] E0 (tCons (tVar 3) (tCons (tLc (iList K (tVar 2)) (gName 6) tYes (tDGet (tVar 1) (tVar 6)) [6]) tNil))) [some v, some u, some (.ref c), some (.ref s), x4, x5, x6, x7, some (.ref f), none] H4 (LsM (Fr K) (solvedM (squareM A) (wantedM A b))) := by
      refine en_call (Rs := [Ls K (RowR K s) (squareM A), Ls K (Fr K) (wantedM A b)]) (eas_cons (ep_var (i := 3) rfl hs4.ls) (eas_cons (EvN.ls hwl) eas_nil)) fun H5 us e5 r Q' k' => ?_
      obtain ⟨a, c', rfl, ra, rc⟩ := r.two
      obtain ⟨a, vs, rfl, sa, pa⟩ := ra
      exact ⟨_, c', _, _, rfl, ⟨a, vs, rfl, sa, L2.Paired.mapP pa fun w y ⟨d, e, _, l⟩ => by rw [e]; exact l⟩, rc, ok.sol, k'⟩
    refine p_forZip (D := { BE Q with nx := tRet (tVar 8) (BE Q) }) (S := NmR) (U := Fr K) (p := f) (eas_cons (ep_var (i := 2) rfl hcL4) (eas_cons (EvN.ls hsol) eas_nil))
      (fun i σ' H' => ∃ y6 y9, σ' = [some v, some u, some (.ref c), some (.ref s), x4, x5, y6, x7, some (.ref f), y9] ∧ Ex H3 H' ∧ DcM (Fr K) ((leftBy A b).take i) H' f)
      (fun H5 e5 => ⟨_, _, rfl, e4.trans e5, by rw [List.take_zero]; exact hf4.ex e5⟩) (fun i σ' H' ⟨_, _, _, _, kv, h, _⟩ => ⟨kv, h⟩) ?_ ?_
    · rintro i n q w1 w2 σ' H5 H6 hn hq ⟨y6, y9, rfl, e5, hf5⟩ e56 h1 h2
      cases (show w1 = _ from h1)
      have hlb : (leftBy A b)[i]? = some (n, q) := by unfold leftBy; rw [List.getElem?_zip_eq_some]; exact ⟨hn, hq⟩
      have hlen : ((leftBy A b).take i).length ≤ 90 := by
        unfold leftBy
        rw [List.length_take, List.length_zip]
        omega
      refine p_putM (x := q) (hf5.ex e56) (by omega) (ep_var (i := 9) rfl h2) (ep_var (i := 8) rfl is_rfl) (ep_var (i := 6) rfl is_rfl) fun H7 x7' h7 => ⟨(ExB.ofEx e56).trans x7', _, _, rfl, ExB.ex (e5.trans e56) nf x7', ?_⟩
      rw [aput_new] at h7
      · rw [List.take_add_one, hlb]
        exact h7
      · intro z
        obtain ⟨j, hj⟩ := List.getElem?_of_mem z
        rw [List.getElem?_map, List.getElem?_take] at hj
        split at hj
        · cases g : (leftBy A b)[j]? with
          | none => rw [g] at hj; cases hj
          | some pq =>
            rw [g] at hj
            have e : pq.1 = n := by simpa using hj
            unfold leftBy at g
            rw [List.getElem?_zip_eq_some] at g
            rw [e] at g
            have := nd_ix ok.nd g.1 hn
            omega
        · cases hj
    · rintro σ' H5 ⟨y6, y9, rfl, e5, hf5⟩
      have hlen : min (A.map fun p => p.1).length (solvedM (squareM A) (wantedM A b)).length = (leftBy A b).length := by unfold leftBy; rw [List.length_zip]
      rw [hlen, List.take_length] at hf5
      dsimp only
      refine p_ret (R := Is (.ref f)) (ep_var (i := 8) rfl is_rfl) fun w H6 e6 hw => ?_
      cases (show w = _ from hw)
      exact kq f H6 (fresh_back (e1.trans e3) nf) ((e1.trans (e3.trans e5)).trans e6) (hf5.ex e6)
theorem len_long_run (K : PySem.W.Frag) : ∀ vs H Q E, sp_long_run K vs H Q E → vs.length = 2 := by
  rintro vs H Q E ⟨v, A, k, w, l, rfl, _⟩; rfl
theorem ep_casks_table {σ : L2.St} {H : Hp} {ta tb : TE} {house : List Pl} {steps : List Stp} (h : EvP ta σ H (Ls K (PlR K) house)) (h2 : EvP tb σ H (Ls K (StpR K) steps)) (ok : OkTab house steps) : EvP (tCall (sp_casks_table K) [] E0 (tCons ta (tCons tb tNil))) σ H (TabR K (ctabM house steps)) := ep_call (eas_cons h (eas_cons h2 eas_nil)) fun H1 us e r Q' k' => by
  obtain ⟨a, b, rfl, ra, rb⟩ := r.two
  exact ⟨a, b, house, steps, rfl, ra, rb, ok, k'⟩
theorem en_brought_to {σ : L2.St} {H : Hp} {ta tb : TE} {house : List Pl} {steps : List Stp} (h : EvP ta σ H (Ls K (PlR K) house)) (h2 : EvP tb σ H (Ls K (StpR K) steps)) (ok : OkBto house steps) : EvN (tCall (sp_brought_to K) [] E0 (tCons ta (tCons tb tNil))) σ H (DcM (Fr K) (btoM house steps)) := en_call (eas_cons h (eas_cons h2 eas_nil)) fun H1 us e r Q' k' => by
  obtain ⟨a, b, rfl, ra, rb⟩ := r.two
  exact ⟨a, b, house, steps, rfl, ra, rb, ok, k'⟩
theorem en_closed {σ : L2.St} {H : Hp} {ta tb : TE} {house : List Pl} {steps : List Stp} (h : EvP ta σ H (Ls K (PlR K) house)) (h2 : EvP tb σ H (Ls K (StpR K) steps)) (ok : OkTab house steps) (nd : (casksM house).Nodup) (len : (casksM house).length < 60) (no : NoClosed house steps) : EvN (tCall (sp_closed_casks K) [] E0 (tCons ta (tCons tb tNil))) σ H (LsM NmR []) := en_call (eas_cons h (eas_cons h2 eas_nil)) fun H1 us e r Q' k' => by
  obtain ⟨a, b, rfl, ra, rb⟩ := r.two
  exact ⟨a, b, house, steps, rfl, ra, rb, ok, nd, len, no, k'⟩
theorem en_left_by {σ : L2.St} {H : Hp} {ta tb : TE} {A : AL (AL Rat)} {b : AL Rat} (h : EvP ta σ H (TabR K A)) (h2 : EvP tb σ H (Dc (Fr K) b)) (ok : LbOk A b) : EvN (tCall (sp_left_by K) [] E0 (tCons ta (tCons tb tNil))) σ H (DcM (Fr K) (leftBy A b)) := en_call (eas_cons h (eas_cons h2 eas_nil)) fun H1 us e r Q' k' => by
  obtain ⟨a, c, rfl, ra, rb⟩ := r.two
  exact ⟨a, c, A, b, rfl, ra, rb, ok, k'⟩
theorem ep_bound_of {σ : L2.St} {H : Hp} {ta : TE} {A : AL (AL Rat)} {k : Nat} (h : EvP ta σ H (TabR K A)) (ok : BndOk A k) : EvP (tCall (sp_bound_of K) [] E0 (tCons ta tNil)) σ H (Tp K [Is (.int (k : Int)), Fr K (mostM (leftN A k))]) := ep_call (eas_cons h eas_nil) fun H1 us e r Q' k' => by
  obtain ⟨a, rfl, ra⟩ := r.one
  exact ⟨a, A, k, rfl, ra, ok, k'⟩
theorem rd_long_run (C : Cst K) (vs : List V) (H : Hp) (Q : VK) (E : XK) (h : sp_long_run K vs H Q E) : t_long_run K (BE Q) (start ["house", "steps", "closed", "shares"] vs) H := by
  obtain ⟨v, w, house, steps, k, rfl, hh, hs, ok, kq⟩ := h
  refine qp_asgN (en_closed (ep_var (i := 0) rfl hh) (ep_var (i := 1) rfl hs) ok.tab ok.nd ok.len ok.no) fun c H1 nc e1 hc => ?_
  refine q_when (b := false) (et_t (ep_neL (S := NmR) (xs := []) (ys := []) (ep_var (i := 2) rfl hc.ls) rfl (EvN.ls en_nil))) (fun z => nomatch z) fun _ H2 e2 => ?_
  have hh2 : Ls K (PlR K) house H2 v := ls_Rx (rx_ex (e1.trans e2)) hh
  have hs2 : Ls K (StpR K) steps H2 w := ls_Rx (rx_ex (e1.trans e2)) hs
  refine qp_asg (R := TabR K (ctabM house steps)) (ep_casks_table (ep_var (i := 0) rfl hh2) (ep_var (i := 1) rfl hs2) ok.tab) fun t H3 e3 ht => ?_
  have hh3 : Ls K (PlR K) house H3 v := ls_Rx (rx_ex e3) hh2
  have hs3 : Ls K (StpR K) steps H3 w := ls_Rx (rx_ex e3) hs2
  refine p_ret (R := Tp K [Is (.str "lasting"), Dc (Fr K) (leftBy (ctabM house steps) (btoM house steps)), Tp K [Is (.int (k : Int)), Fr K (mostM (leftN (ctabM house steps) k))]]) ?_ fun u H4 e4 hu => kq u H4 (((e1.trans e2).trans e3).trans e4) hu
  exact ep_tup (K := K) (eas_cons ep_s (eas_cons (EvN.dc (en_left_by (ep_var (i := 3) rfl ht) (EvN.dc (en_brought_to (ep_var (i := 0) rfl hh3) (ep_var (i := 1) rfl hs3) ok.bto)) ok.lb)) (eas_cons (ep_bound_of (ep_var (i := 3) rfl ht) ok.bnd) eas_nil))) (show 3 ≤ 100000 by decide)
end
end Tc
set_option Elab.async false
set_option linter.all false
set_option maxRecDepth 100000
set_option maxHeartbeats 4000000
set_option exponentiation.threshold 10000
namespace Tc
open PySem PySem.Spec PyProof.Rows L2 Evl
/-! ### ages -/
def ledN (A : AL (AL Rat)) (t : AL Rat) : Nat → AL Rat
  | 0 => t
  | k + 1 => ledM A (ledN A t k)
structure ByOk (house : List Pl) (steps : List Stp) (many : Nat) : Prop where
  tab : OkTab house steps
  nd : (casksM house).Nodup
  len : (casksM house).length < 60
  no : NoClosed house steps
  bto : OkBto house steps
  le : many ≤ 100
  led : ∀ i, i < many → LedOk (ctabM house steps) (ledN (ctabM house steps) (btoM house steps) i)
def sp_by_age (K : PySem.W.Frag) : Sp := fun vs H Q _ => ∃ v w house steps, ∃ many : Nat, vs = [v, w, .int (many : Int)] ∧ Ls K (PlR K) house H v ∧ Ls K (StpR K) steps H w ∧ ByOk house steps many ∧
  RetN H (LsM (fun m => Dc (Fr K) m) ((List.range many).map (ledN (ctabM house steps) (btoM house steps)))) Q
def midsM (A : AL (AL Rat)) (b : AL Rat) : AL Rat := (leftBy A b).map fun p => (p.1, (aget (leftBy A (ledM A (leftBy A b))) p.1).getD 0 / p.2)
structure MaOk (house : List Pl) (steps : List Stp) : Prop where
  tab : OkTab house steps
  nd : (casksM house).Nodup
  len : (casksM house).length < 60
  no : NoClosed house steps
  bto : OkBto house steps
  lb1 : LbOk (ctabM house steps) (btoM house steps)
  led : LedOk (ctabM house steps) (leftBy (ctabM house steps) (btoM house steps))
  lb2 : LbOk (ctabM house steps) (ledM (ctabM house steps) (leftBy (ctabM house steps) (btoM house steps)))
  pos : ∀ p ∈ leftBy (ctabM house steps) (btoM house steps), 0 < p.2 ∧ ∃ q, aget (leftBy (ctabM house steps) (ledM (ctabM house steps) (leftBy (ctabM house steps) (btoM house steps)))) p.1 = some q ∧ Ok (q / p.2)
  ndt : ((leftBy (ctabM house steps) (btoM house steps)).map fun p => p.1).Nodup
  lent : (leftBy (ctabM house steps) (btoM house steps)).length ≤ 100
def sp_mean_ages (K : PySem.W.Frag) : Sp := fun vs H Q _ => ∃ v w house steps, vs = [v, w] ∧ Ls K (PlR K) house H v ∧ Ls K (StpR K) steps H w ∧ MaOk house steps ∧ RetN H (DcM (Fr K) (midsM (ctabM house steps) (btoM house steps))) Q
/-! ### deeds -/
inductive Dd where
  | move (x y : Str) (q : Rat)
  | fill (x y : Str)
  | bring (l x : Str) (q : Rat)
  | part (x y : Str) (s : Rat)
  | year
def DdR (K : PySem.W.Frag) : Dd → HV
  | .move x y q => Tp K [Is (.str "move"), Is (.str x), Is (.str y), Fr K q]
  | .fill x y => Tp K [Is (.str "fill"), Is (.str x), Is (.str y)]
  | .bring l x q => Tp K [Is (.str "bring"), Is (.str l), Is (.str x), Fr K q]
  | .part x y s => Tp K [Is (.str "part"), Is (.str x), Is (.str y), Fr K s]
  | .year => Tp K [Is (.str "year")]
instance {K : PySem.W.Frag} : ∀ p, Stay (DdR K p)
  | .move x y q => inferInstanceAs (Stay (Tp K [Is (.str "move"), Is (.str x), Is (.str y), Fr K q]))
  | .fill x y => inferInstanceAs (Stay (Tp K [Is (.str "fill"), Is (.str x), Is (.str y)]))
  | .bring l x q => inferInstanceAs (Stay (Tp K [Is (.str "bring"), Is (.str l), Is (.str x), Fr K q]))
  | .part x y s => inferInstanceAs (Stay (Tp K [Is (.str "part"), Is (.str x), Is (.str y), Fr K s]))
  | .year => inferInstanceAs (Stay (Tp K [Is (.str "year")]))
def Dd.kind : Dd → Str
  | .move _ _ _ => "move"
  | .fill _ _ => "fill"
  | .bring _ _ _ => "bring"
  | .part _ _ _ => "part"
  | .year => "year"
def Dd.n1 : Dd → Str
  | .move x _ _ => x
  | .fill x _ => x
  | .bring l _ _ => l
  | .part x _ _ => x
  | .year => ""
def Dd.n2 : Dd → Str
  | .move _ y _ => y
  | .fill _ y => y
  | .bring _ x _ => x
  | .part _ y _ => y
  | .year => ""
def roomsM (house : List Pl) : AL Rat := house.foldl (fun m p => match p with | .cask n r => aput m n r | .sink _ => m) []
def sp_rooms_by_name (K : PySem.W.Frag) : Sp := fun vs H Q _ => ∃ v house, vs = [v] ∧ Ls K (PlR K) house H v ∧ house.length ≤ 100 ∧ RetN H (DcM (Fr K) (roomsM house)) Q
def tkOf (rooms tot : AL Rat) : Dd → Rat
  | .move x _ q => q / (aget tot x).getD 0
  | .fill x y => ((aget rooms y).getD 0 - (aget tot y).getD 0) / (aget tot x).getD 0
  | .part _ _ s => s
  | .bring _ _ _ => 0
  | .year => 0
def TkOk (rooms tot : AL Rat) : Dd → Prop
  | .move x _ q => ∃ tx, aget tot x = some tx ∧ 0 < q ∧ ¬ tx < q ∧ 0 < tx ∧ Ok (q / tx)
  | .fill x y => ∃ tx ty ry, aget tot x = some tx ∧ aget tot y = some ty ∧ aget rooms y = some ry ∧ Ok (ry - ty) ∧ 0 < ry - ty ∧ ¬ tx < ry - ty ∧ 0 < tx ∧ Ok ((ry - ty) / tx)
  | .part _ _ _ => True
  | .bring _ _ _ => False
  | .year => False
def sp_taken_share (K : PySem.W.Frag) : Sp := fun vs H Q _ => ∃ v w d i rooms tot dd, vs = [v, w, d, i] ∧ Dc (Fr K) rooms H v ∧ Dc (Fr K) tot H w ∧ DdR K dd H d ∧ TkOk rooms tot dd ∧ RetP H (Fr K (tkOf rooms tot dd)) Q
/-- the step of a deed, and the totals behind it -/
def stepD (rooms tot : AL Rat) (year : Int) : Dd → Stp
  | .bring l x q => .bring l year x q
  | d => .pass d.n1 d.n2 (tkOf rooms tot d)
def outD (rooms tot : AL Rat) (d : Dd) : AL Rat := aput tot d.n1 ((aget tot d.n1).getD 0 - (aget tot d.n1).getD 0 * tkOf rooms tot d)
def totD (rooms tot : AL Rat) : Dd → AL Rat
  | .bring _ x q => aput tot x ((aget tot x).getD 0 + q)
  | d => aput (outD rooms tot d) d.n2 ((aget (outD rooms tot d) d.n2).getD 0 + (aget tot d.n1).getD 0 * tkOf rooms tot d)
def StOk (rooms tot : AL Rat) : Dd → Prop
  | .year => True
  | .bring l x q => ∃ tx, aget tot x = some tx ∧ Ok (tx + q) ∧ ∀ r, aget rooms x = some r → ¬ r < tx + q
  | d => TkOk rooms tot d ∧ ∃ tx ty, aget tot d.n1 = some tx ∧ aget (outD rooms tot d) d.n2 = some ty ∧ Ok (tx * tkOf rooms tot d) ∧ Ok (tx - tx * tkOf rooms tot d) ∧ Ok (ty + tx * tkOf rooms tot d) ∧ ∀ r, aget rooms d.n2 = some r → ¬ r < ty + tx * tkOf rooms tot d
def sp_step_of (K : PySem.W.Frag) : Sp := fun vs H Q _ => ∃ v t year d i rooms tot dd, vs = [v, .ref t, .int year, d, i] ∧ Dc (Fr K) rooms H v ∧ v ≠ .ref t ∧ DcM (Fr K) tot H t ∧ tot.length ≤ 1000 ∧ DdR K dd H d ∧ dd ≠ .year ∧ StOk rooms tot dd ∧
  ∀ u H', ExB t H H' → DcM (Fr K) (totD rooms tot dd) H' t → StpR K (stepD rooms tot year dd) H' u → Q u H'
structure SS where
  tot : AL Rat
  year : Int
  acc : List Stp
def ssOne (rooms : AL Rat) (s : SS) : Dd → SS
  | .year => { s with year := s.year + 1 }
  | d => ⟨totD rooms s.tot d, s.year, s.acc ++ [stepD rooms s.tot s.year d]⟩
def ssAll (rooms : AL Rat) (s : SS) (ds : List Dd) : SS := ds.foldl (ssOne rooms) s
structure SsOk (house : List Pl) (tot : AL Rat) (year : Int) (ds : List Dd) : Prop where
  h100 : house.length ≤ 100
  d100 : ds.length ≤ 100
  len : ∀ i, (ssAll (roomsM house) ⟨tot, year, []⟩ (ds.take i)).tot.length ≤ 1000
  ok : ∀ i d, ds[i]? = some d → StOk (roomsM house) (ssAll (roomsM house) ⟨tot, year, []⟩ (ds.take i)).tot d
def sp_steps_of (K : PySem.W.Frag) : Sp := fun vs H Q _ => ∃ v w d house tot year ds, vs = [v, w, .int year, d] ∧ Ls K (PlR K) house H v ∧ Dc (Fr K) tot H w ∧ Ls K (DdR K) ds H d ∧ SsOk house tot year ds ∧
  RetP H (Tp K [Ls K (StpR K) (ssAll (roomsM house) ⟨tot, year, []⟩ ds).acc, Dc (Fr K) (ssAll (roomsM house) ⟨tot, year, []⟩ ds).tot]) Q
end Tc
set_option Elab.async false
set_option linter.all false
set_option maxRecDepth 100000
namespace Tc
open PySem PySem.Spec PyProof.Rows L2 Evl
def t_by_age (K : PySem.W.Frag) : TS :=
  (tSeq (tIfS (tTest (tOp (rNeE K) (tCall (sp_closed_casks K) [] E0 (tCons (tVar 0) (tCons (tVar 1) tNil))) (tLst tNil))) (tRet (tC .non)) tNext)
    (tSeq (tAsg (tCall (sp_casks_table K) [] E0 (tCons (tVar 0) (tCons (tVar 1) tNil))) (gName 3))
    (tSeq (tAsg (tCall (sp_brought_to K) [] E0 (tCons (tVar 0) (tCons (tVar 1) tNil))) (gName 4))
    (tSeq (tAsg (tLst tNil) (gName 5))
    (tSeq (tFor (iRng1 (tCons (tVar 2) tNil)) (gName 6) (tSeq (tDrop (tBM K "list" rAppend (tVar 5) (tCons (tCB rDictD (tCons (tVar 4) tNil)) tNil)))
    (tAsg (tCall (sp_next_round K) [] E0 (tCons (tVar 3) (tCons (tVar 4) tNil))) (gName 4))))
    (tRet (tVar 5)))))))
def t_mean_ages (K : PySem.W.Frag) : TS :=
  (tSeq (tIfS (tTest (tOp (rNeE K) (tCall (sp_closed_casks K) [] E0 (tCons (tVar 0) (tCons (tVar 1) tNil))) (tLst tNil))) (tRet (tC .non)) tNext)
    (tSeq (tAsg (tCall (sp_casks_table K) [] E0 (tCons (tVar 0) (tCons (tVar 1) tNil))) (gName 2))
    (tSeq (tAsg (tCall (sp_left_by K) [] E0 (tCons (tVar 2) (tCons (tCall (sp_brought_to K) [] E0 (tCons (tVar 0) (tCons (tVar 1) tNil))) tNil))) (gName 3))
    (tSeq (tAsg (tCall (sp_left_by K) [] E0 (tCons (tVar 2) (tCons (tCall (sp_next_round K) [] E0 (tCons (tVar 2) (tCons (tVar 3) tNil))) tNil))) (gName 4))
    (tSeq (tAsg tDNewK (gName 5))
    (tSeq (tLockR (tFor (iKeys (tVar 3)) (gName 6) (tSeq (sDPut (tVar 5) (tVar 6) (tC .non))
    (tIfS (tTest (tOp (rNeD K) (tDGet (tVar 3) (tVar 6)) (tC (.ref (He.ga K "NOUGHT_ages"))))) (sDPut (tVar 5) (tVar 6) (tCall (sp_over K) [] E0 (tCons (tDGet (tVar 4) (tVar 6)) (tCons (tDGet (tVar 3) (tVar 6)) tNil)))) tNext))))
    (tRet (tVar 5))))))))
def t_rooms_by_name (K : PySem.W.Frag) : TS :=
  (tSeq (tAsg tDNewK (gName 1))
    (tSeq (tFor (iList K (tVar 0)) (gName 2) (tIfS (tTest (tOp rEq (tOp (rIxT K) (tVar 2) (tC (.int 0))) (tC (.str "cask")))) (sDPut (tVar 1) (tOp (rIxT K) (tVar 2) (tC (.int 1))) (tOp (rIxT K) (tVar 2) (tC (.int 2)))) tNext))
    (tRet (tVar 1))))
def t_taken_share (K : PySem.W.Frag) : TS :=
  (tSeq (tIfS (tTest (tOp rEq (tOp (rIxT K) (tVar 2) (tC (.int 0))) (tC (.str "part")))) (tRet (tOp (rIxT K) (tVar 2) (tC (.int 3)))) tNext)
    (tSeq (tIfS (tTest (tOp rEq (tOp (rIxT K) (tVar 2) (tC (.int 0))) (tC (.str "all")))) (tRet (tTup (tCons (tC (.int 1)) (tCons (tC (.int 1)) tNil)))) tNext)
    (tSeq (tAsg (tOp (rIxT K) (tVar 2) (tUn (rU fun i => .int (-i)) (tC (.int 1)))) (gName 4))
    (tSeq (tIfS (tTest (tOp rEq (tOp (rIxT K) (tVar 2) (tC (.int 0))) (tC (.str "fill")))) (tAsg (tCall (sp_minus K) [] E0 (tCons (tDGet (tVar 0) (tOp (rIxT K) (tVar 2) (tC (.int 2)))) (tCons (tDGet (tVar 1) (tOp (rIxT K) (tVar 2) (tC (.int 2)))) tNil))) (gName 4)) tNext)
    (tSeq (tIfS (tB (tCall (sp_under K) [] E0 (tCons (tDGet (tVar 1) (tOp (rIxT K) (tVar 2) (tC (.int 1)))) (tCons (tVar 4) tNil)))) tNever tNext)
    (tSeq (tIfS (tTest (tOp (rEqD K) (tVar 4) (tTup (tCons (tC (.int 0)) (tCons (tC (.int 1)) tNil))))) (tRet (tTup (tCons (tC (.int 0)) (tCons (tC (.int 1)) tNil)))) tNext)
    (tRet (tCall (sp_over K) [] E0 (tCons (tVar 4) (tCons (tDGet (tVar 1) (tOp (rIxT K) (tVar 2) (tC (.int 1)))) tNil))))))))))
def t_step_of (K : PySem.W.Frag) : TS :=
  (tSeq (tIfS (tTest (tOp rEq (tOp (rIxT K) (tVar 3) (tC (.int 0))) (tC (.str "bring")))) (tSeq (tAsg (tTup (tCons (tC (.str "bring")) (tCons (tTup (tCons (tOp (rIxT K) (tVar 3) (tC (.int 1))) (tCons (tVar 2) tNil))) (tCons (tOp (rIxT K) (tVar 3) (tC (.int 2))) (tCons (tOp (rIxT K) (tVar 3) (tC (.int 3))) tNil))))) (gName 5))
    (sDPut (tVar 1) (tOp (rIxT K) (tVar 3) (tC (.int 2))) (tCall (sp_plus K) [] E0 (tCons (tDGet (tVar 1) (tOp (rIxT K) (tVar 3) (tC (.int 2)))) (tCons (tOp (rIxT K) (tVar 3) (tC (.int 3))) tNil))))) (tSeq (tAsg (tCall (sp_taken_share K) [] E0 (tCons (tVar 0) (tCons (tVar 1) (tCons (tVar 3) (tCons (tVar 4) tNil))))) (gName 6))
    (tSeq (tAsg (tTup (tCons (tC (.str "pass")) (tCons (tOp (rIxT K) (tVar 3) (tC (.int 1))) (tCons (tOp (rIxT K) (tVar 3) (tC (.int 2))) (tCons (tVar 6) tNil))))) (gName 5))
    (tSeq (tAsg (tCall (sp_times K) [] E0 (tCons (tDGet (tVar 1) (tOp (rIxT K) (tVar 3) (tC (.int 1)))) (tCons (tVar 6) tNil))) (gName 7))
    (tSeq (sDPut (tVar 1) (tOp (rIxT K) (tVar 3) (tC (.int 1))) (tCall (sp_minus K) [] E0 (tCons (tDGet (tVar 1) (tOp (rIxT K) (tVar 3) (tC (.int 1)))) (tCons (tVar 7) tNil))))
    (sDPut (tVar 1) (tOp (rIxT K) (tVar 3) (tC (.int 2))) (tCall (sp_plus K) [] E0 (tCons (tDGet (tVar 1) (tOp (rIxT K) (tVar 3) (tC (.int 2)))) (tCons (tVar 7) tNil)))))))))
    (tSeq (tIfS (tAnd (tB (tDIn (tOp (rIxT K) (tVar 5) (tC (.int 2))) (tVar 0))) (tB (tCall (sp_under K) [] E0 (tCons (tDGet (tVar 0) (tOp (rIxT K) (tVar 5) (tC (.int 2)))) (tCons (tDGet (tVar 1) (tOp (rIxT K) (tVar 5) (tC (.int 2)))) tNil))))) tNever tNext)
    (tRet (tVar 5))))
def t_steps_of (K : PySem.W.Frag) : TS :=
  (tSeq (tAsg (tCall (sp_rooms_by_name K) [] E0 (tCons (tVar 0) tNil)) (gName 4))
    (tSeq (tAsg (tCB rDictD (tCons (tVar 1) tNil)) (gName 5))
    (tSeq (tAsg (tLst tNil) (gName 6))
    (tSeq (tFor (iEnum K (tCons (tVar 3) tNil)) (gTup K 2 (gCons (gName 7) (gCons (gName 8) gNil))) (tIfS (tTest (tOp rEq (tOp (rIxT K) (tVar 8) (tC (.int 0))) (tC (.str "year")))) (tAsg (tOp rPlusI (tVar 2) (tC (.int 1))) (gName 2)) (tDrop (tBM K "list" rAppend (tVar 6) (tCons (tCall (sp_step_of K) [] E0 (tCons (tVar 4) (tCons (tVar 5) (tCons (tVar 2) (tCons (tVar 8) (tCons (tVar 7) tNil)))))) tNil)))))
    (tRet (tTup (tCons (tVar 6) (tCons (tVar 5) tNil))))))))
end Tc
set_option Elab.async false
set_option linter.all false
set_option maxRecDepth 100000
set_option maxHeartbeats 4000000
set_option exponentiation.threshold 10000
namespace Tc
open PySem PySem.Spec PyProof.Rows L2 Evl
/-- a dict that is not at r -/
def DcR (K : PySem.W.Frag) (r : Addr) (m : AL Rat) : HV := fun H v => ∃ a, v = .ref a ∧ a ≠ r ∧ Dc (Fr K) m H (.ref a)
instance {K : PySem.W.Frag} {r : Addr} {m : AL Rat} : StayR (DcR K r m) := ⟨fun H H' v e ⟨a, e1, n, h⟩ => ⟨a, e1, n, (inferInstance : StayR (Dc (Fr K) m)).rx _ _ _ e h⟩⟩
section
variable {K : PySem.W.Frag} {σ : L2.St} {B H H' : Hp} {tl ta tb te to : TE} {D : Ends} {tu tz : TS}
theorem dcR_exB {m : AL Rat} {p : Addr} {v : V} (x : ExB p H H') (nt : NT (H p)) (h : DcR K p m H v) : DcR K p m H' v := by
  obtain ⟨a, e, n, b, kvs, e1, s, pd⟩ := h
  cases e1
  exact ⟨a, e, n, a, kvs, rfl, rd_exB x n s, pd.map fun y w hw => hw.kp (x.kp nt)⟩
theorem p_appD {l : Addr} {ms : List (AL Rat)} {m : AL Rat} (hm : LsM (DcR K l) ms H l) (hl : ms.length < 10000) (ha : EvP to σ H (Is (.ref l))) (h : EvP te σ H (DcR K l m)) (k : ∀ H1, ExB l H H1 → LsM (DcR K l) (ms ++ [m]) H1 l → D.nx σ H1) :
    tDrop (tBM K "list" rAppend to (tCons te tNil)) D σ H := by
  obtain ⟨vs, hv, pv⟩ := hm
  have hz : vs.length = ms.length := Paired.length pv
  refine p_app hv ha h (by omega) fun v H1 e1 h1 rv => k _ ((ExB.ofEx e1).trans ExB.upd) ⟨vs ++ [v], upd_same, ?_⟩
  have x1 : ExB l H1 (upd H1 l (.lst (vs ++ [v]))) := ExB.upd
  have nt : NT (H1 l) := by rw [h1]; trivial
  exact Paired.snoc (L2.Paired.mapP pv fun w y hw => dcR_exB x1 nt ((inferInstance : StayX (DcR K l y)).ex _ _ _ e1 hw)) (dcR_exB x1 nt rv)
theorem qp_appD {l : Addr} {ms : List (AL Rat)} {m : AL Rat} (hm : LsM (DcR K l) ms H l) (hl : ms.length < 10000) (ha : EvP to σ H (Is (.ref l))) (h : EvP te σ H (DcR K l m)) (k : ∀ H1, ExB l H H1 → LsM (DcR K l) (ms ++ [m]) H1 l → tz D σ H1) :
    tSeq (tDrop (tBM K "list" rAppend to (tCons te tNil))) tz D σ H := p_appD (D := { D with nx := tz D }) hm hl ha h k
theorem en_dictD {m : AL Rat} (ha : EvP ta σ H (Dc (Fr K) m)) : EvN (tCB rDictD (tCons ta tNil)) σ H (DcM (Fr K) m) := fun H1 e Q k => ha H1 e _ fun v H2 e2 rv => by
  obtain ⟨a, kvs, rfl, s, pd⟩ := rv
  exact ⟨a, kvs, rfl, s, fun q hq => k q _ (fresh_back e2 hq) (e2.trans (Ex.new hq)) ⟨kvs, upd_same, pd.map fun y w hw => hw.ex (Ex.new hq)⟩⟩
theorem EvN.dcR {m : AL Rat} {r : Addr} (h : EvN te σ H (DcM (Fr K) m)) (hr : H r ≠ none) : EvP te σ H (DcR K r m) := fun H1 e Q k => h H1 e Q fun p H2 n e2 l => k _ H2 e2 ⟨p, rfl, fun z => by
  rw [z] at n
  exact hr (fresh_back e n), l.dc⟩
theorem en_next_round {A : AL (AL Rat)} {t : AL Rat} (h : EvP ta σ H (TabR K A)) (h2 : EvP tb σ H (Dc (Fr K) t)) (ok : LedOk A t) : EvN (tCall (sp_next_round K) [] E0 (tCons ta (tCons tb tNil))) σ H (DcM (Fr K) (ledM A t)) := en_call (eas_cons h (eas_cons h2 eas_nil)) fun H1 us e r Q' k' => by
  obtain ⟨a, c, rfl, ra, rb⟩ := r.two
  exact ⟨a, c, A, t, rfl, ra, rb, ok, k'⟩
end
section
variable {K : PySem.W.Frag}
theorem len_by_age (K : PySem.W.Frag) : ∀ vs H Q E, sp_by_age K vs H Q E → vs.length = 3 := by
  rintro vs H Q E ⟨v, A, k, w, l, rfl, _⟩; rfl
theorem rd_by_age (C : Cst K) (vs : List V) (H : Hp) (Q : VK) (E : XK) (h : sp_by_age K vs H Q E) : t_by_age K (BE Q) (start ["house", "steps", "many", "shares", "amounts", "found", "age"] vs) H := by
  obtain ⟨v, w, house, steps, many, rfl, hh, hs, ok, kq⟩ := h
  refine q_when (b := false) (et_t (ep_neL (S := NmR) (xs := []) (ys := []) (EvN.ls (en_closed (ep_var (i := 0) rfl hh) (ep_var (i := 1) rfl hs) ok.tab ok.nd ok.len ok.no)) rfl (EvN.ls en_nil))) (fun z => nomatch z) fun _ H2 e2 => ?_
  have hh2 : Ls K (PlR K) house H2 v := ls_Rx (rx_ex e2) hh
  have hs2 : Ls K (StpR K) steps H2 w := ls_Rx (rx_ex e2) hs
  refine qp_asg (R := TabR K (ctabM house steps)) (ep_casks_table (ep_var (i := 0) rfl hh2) (ep_var (i := 1) rfl hs2) ok.tab) fun t H3 e3 ht => ?_
  have hh3 : Ls K (PlR K) house H3 v := ls_Rx (rx_ex e3) hh2
  have hs3 : Ls K (StpR K) steps H3 w := ls_Rx (rx_ex e3) hs2
  refine qp_asgN (en_brought_to (ep_var (i := 0) rfl hh3) (ep_var (i := 1) rfl hs3) ok.bto) fun am H4 nam e4 ham => ?_
  refine qp_asgN (en_nil (S := DcR K am)) fun f H5 nf e5 hf => ?_
  have hf : LsM (DcR K f) [] H5 f := by obtain ⟨vs, e, p⟩ := hf; cases p; exact ⟨[], e, .nil⟩
  have ht4 : TabR K (ctabM house steps) H4 t := (inferInstance : StayX (TabR K (ctabM house steps))).ex _ _ _ e4 ht
  have lm := ok.le
  refine q_forR1 (D := BE Q) (n := (many : Int)) (ea_one (ep_var (i := 2) rfl is_rfl)) (by omega)
    (fun i σ' H' => ∃ am x6, σ' = [some v, some w, some (.int (many : Int)), some t, some am, some (.ref f), x6] ∧ Ex H4 H' ∧ Dc (Fr K) (ledN (ctabM house steps) (btoM house steps) i) H' am ∧ LsM (DcR K f) ((List.range i).map (ledN (ctabM house steps) (btoM house steps))) H' f)
    (fun H6 e6 => ⟨_, _, rfl, e5.trans e6, (ham.ex (e5.trans e6)).dc, hf.ex e6⟩) ?_ ?_
  · rintro i σ' H6 hi ⟨am', x6, rfl, e6, ham6, hf6⟩
    have hi' : i < many := by omega
    have hf6n : H6 f ≠ none := by obtain ⟨vs, e, _⟩ := hf6; rw [e]; exact fun z => nomatch z
    obtain ⟨da, ka, rfl, ra, pa⟩ := id ham6
    have hda : da ≠ f := fun z => by
      obtain ⟨vs, e, _⟩ := hf6
      subst z
      rcases ra with r | ⟨o, r⟩ <;> (rw [e] at r; cases r)
    refine qp_appD hf6 (by rw [List.length_map, List.length_range]; omega) (ep_var (i := 5) rfl is_rfl) ((en_dictD (ep_var (i := 4) rfl ham6)).dcR hf6n) fun H7 x7 h7 => ?_
    have e7 : Ex H4 H7 := ExB.ex e6 nf x7
    have ham7 : Dc (Fr K) (ledN (ctabM house steps) (btoM house steps) i) H7 (.ref da) := ⟨da, ka, rfl, rd_exB x7 hda ra, pa.map fun y w hw => hw.kp (x7.kp hf6.nt)⟩
    refine p_asgN (en_next_round (ep_var (i := 3) rfl ((inferInstance : StayX (TabR K (ctabM house steps))).ex _ _ _ e7 ht4)) (ep_var (i := 4) rfl ham7) (ok.led i hi')) fun q H8 nq e8 hq => ⟨_, _, rfl, e7.trans e8, hq.dc, ?_⟩
    rw [List.range_succ, List.map_append]
    exact h7.ex e8
  · rintro σ' H6 ⟨am', x6, rfl, e6, ham6, hf6⟩
    have hf6 : LsM (DcR K f) ((List.range many).map (ledN (ctabM house steps) (btoM house steps))) H6 f := hf6
    refine p_ret (R := Is (.ref f)) (ep_var (i := 5) rfl is_rfl) fun u H7 e7 hu => ?_
    cases (show u = _ from hu)
    obtain ⟨vs, e, pv⟩ := hf6.ex e7
    exact kq f H7 (fresh_back ((e2.trans e3).trans e4) nf) (((e2.trans e3).trans e4).trans (e6.trans e7)) ⟨vs, e, L2.Paired.mapP pv fun w y ⟨a, e, _, h⟩ => by rw [e]; exact h⟩
/-- a fraction or None -/
def OpR (K : PySem.W.Frag) : Option Rat → HV
  | none => Is .non
  | some q => Fr K q
instance {K : PySem.W.Frag} : ∀ o, Stay (OpR K o)
  | none => inferInstanceAs (Stay (Is .non))
  | some q => inferInstanceAs (Stay (Fr K q))
theorem aput_last {α : Type} {m : AL α} {n : Str} {x y : α} (h : ¬ n ∈ m.map (fun p => p.1)) : aput (m ++ [(n, x)]) n y = m ++ [(n, y)] := by
  unfold aput
  rw [if_pos (by simp), List.map_append]
  congr 1
  · rw [List.map_congr_left (g := id)]
    · exact List.map_id m
    · intro p hp
      rw [if_neg]
      · rfl
      · intro z
        exact h (List.mem_map.mpr ⟨p, hp, z⟩)
  · simp
theorem len_mean_ages (K : PySem.W.Frag) : ∀ vs H Q E, sp_mean_ages K vs H Q E → vs.length = 2 := by
  rintro vs H Q E ⟨v, A, k, w, rfl, _⟩; rfl
theorem rd_mean_ages (C : Cst K) (vs : List V) (H : Hp) (Q : VK) (E : XK) (h : sp_mean_ages K vs H Q E) : t_mean_ages K (BE Q) (start ["house", "steps", "shares", "totals", "rounds", "found", "name"] vs) H := by
  obtain ⟨v, w, house, steps, rfl, hh, hs, ok, kq⟩ := h
  refine q_when (b := false) (et_t (ep_neL (S := NmR) (xs := []) (ys := []) (EvN.ls (en_closed (ep_var (i := 0) rfl hh) (ep_var (i := 1) rfl hs) ok.tab ok.nd ok.len ok.no)) rfl (EvN.ls en_nil))) (fun z => nomatch z) fun _ H2 e2 => ?_
  have hh2 : Ls K (PlR K) house H2 v := ls_Rx (rx_ex e2) hh
  have hs2 : Ls K (StpR K) steps H2 w := ls_Rx (rx_ex e2) hs
  refine qp_asg (R := TabR K (ctabM house steps)) (ep_casks_table (ep_var (i := 0) rfl hh2) (ep_var (i := 1) rfl hs2) ok.tab) fun t H3 e3 ht => ?_
  have hh3 : Ls K (PlR K) house H3 v := ls_Rx (rx_ex e3) hh2
  have hs3 : Ls K (StpR K) steps H3 w := ls_Rx (rx_ex e3) hs2
  refine qp_asgN (en_left_by (ep_var (i := 2) rfl ht) (EvN.dc (en_brought_to (ep_var (i := 0) rfl hh3) (ep_var (i := 1) rfl hs3) ok.bto)) ok.lb1) fun dt H4 ndt e4 hdt => ?_
  have ht4 : TabR K (ctabM house steps) H4 t := (inferInstance : StayX (TabR K (ctabM house steps))).ex _ _ _ e4 ht
  refine qp_asgN (en_left_by (ep_var (i := 2) rfl ht4) (EvN.dc (en_next_round (ep_var (i := 2) rfl ht4) (ep_var (i := 3) rfl hdt.dc) ok.led)) ok.lb2) fun dr H5 ndr e5 hdr => ?_
  refine qp_asgN (en_dnew (S := OpR K)) fun f H6 nf e6 hf => ?_
  obtain ⟨kt, hkt, pkt⟩ := id (hdt.ex e5)
  have hdt5 := hdt.ex e5
  have htf : dt ≠ f := fun z => by rw [z, nf] at hkt; cases hkt
  obtain ⟨A, hA⟩ : ∃ A, ctabM house steps = A := ⟨_, rfl⟩
  obtain ⟨b, hb⟩ : ∃ b, btoM house steps = b := ⟨_, rfl⟩
  have ok1 := ok.pos
  have ok2 := ok.ndt
  have ok3 := ok.lent
  rw [hA, hb] at ok1 ok2 ok3 kq hdt hdt5 hdr pkt
  obtain ⟨tt, htt⟩ : ∃ tt, leftBy A b = tt := ⟨_, rfl⟩
  obtain ⟨rr, hrr⟩ : ∃ rr, leftBy A (ledM A tt) = rr := ⟨_, rfl⟩
  rw [htt] at ok1 ok2 ok3 hdt hdt5 pkt
  simp only [htt, hrr] at ok1 hdr
  have hmids : midsM A b = tt.map fun p => (p.1, (aget rr p.1).getD 0 / p.2) := by unfold midsM; rw [htt, hrr]
  rw [hmids] at kq
  have eH5 : Ex H H5 := (((e2.trans e3).trans e4).trans e5)
  refine p_forKeys (D := { BE Q with nx := tRet (tVar 5) (BE Q) }) (S := Fr K) (m := tt) (d := dt) (kvs := kt) (B := H5) (fun od => ep_var (i := 3) rfl is_rfl) (.inl hkt) pkt e6
    (fun BL i σ' H' => ∃ x6, σ' = [some v, some w, some t, some (.ref dt), some (.ref dr), some (.ref f), x6] ∧ Ex BL H' ∧ DcM (OpR K) ((tt.take i).map fun p => (p.1, some ((aget rr p.1).getD 0 / p.2))) H' f)
    (fun od H7 e7 => ⟨_, rfl, (ex_lock e6).trans e7, (hf.kpu (Ne.symm htf) ExB.upd (by rw [e6 dt _ hkt]; trivial)).ex e7⟩) (fun BL i σ' H' ⟨_, _, e, _⟩ => e) ?_ ?_
  · rintro od i ⟨n, q⟩ σ' H7 rt bk hi ⟨x6, rfl, e7, hf7⟩
    have nB : (lck H5 dt od (.dK kt)) f = none := by unfold lck; rw [upd_ne (Ne.symm htf)]; exact nf
    have hmem := List.mem_of_getElem? hi
    obtain ⟨hq0, r, hr, okr⟩ := ok1 (n, q) hmem
    have hq0 : 0 < q := hq0
    have hgt := aget_of_nd ok2 hmem
    have hnn := nd_take ok2 hi
    have hl7 : ((tt.take i).map fun p => (p.1, some ((aget rr p.1).getD 0 / p.2))).length ≤ 100 := by rw [List.length_map, List.length_take]; omega
    have hnn' : ¬ n ∈ ((tt.take i).map fun p => (p.1, some ((aget rr p.1).getD 0 / p.2))).map (fun p => p.1) := by rw [List.map_map]; exact hnn
    refine qp_putM (x := (none : Option Rat)) hf7 (by omega) (ep_c rfl) (ep_var (i := 5) rfl is_rfl) (ep_var (i := 6) rfl is_rfl) fun H8 x8 h8 => ?_
    rw [aput_new hnn'] at h8
    have e8 := ExB.ex e7 nB x8
    have hu0 : H5 dt = some (.dK kt) := hkt
    have kpB : Kp H5 (lck H5 dt od (.dK kt)) := kp_upd (by rw [hkt]; trivial)
    have hT8 : Dc (Fr K) tt H8 (.ref dt) := ⟨dt, kt, rfl, .inr ⟨od, e8 dt _ upd_same⟩, pkt.map fun x u hu => (hu.kp kpB).ex e8⟩
    have hR8 : Dc (Fr K) rr H8 (.ref dr) := (inferInstance : StayR (Dc (Fr K) rr)).rx _ _ _ ((rx_lock (od := od) hu0 (.inl ⟨rfl, trivial⟩)).trans (rx_ex e8)) hdr.dc
    refine s_when (et_t (ep_neF (q1 := q) (ep_dget (S := Fr K) (m := tt) (ep_var (i := 3) rfl hT8) (ep_var (i := 6) rfl is_rfl) hgt) (ep_zero C.z4))) (fun _ H9 e9 => ?_) fun hb' H9 e9 => ?_
    · have e89 := e8.trans e9
      have hT9 : Dc (Fr K) tt H9 (.ref dt) := (inferInstance : StayX (Dc (Fr K) tt)).ex _ _ _ e9 hT8
      have hR9 : Dc (Fr K) rr H9 (.ref dr) := (inferInstance : StayX (Dc (Fr K) rr)).ex _ _ _ e9 hR8
      refine p_putM (x := some (r / q)) (h8.ex e9) (by rw [List.length_append, List.length_singleton]; omega) (show EvP _ _ _ (OpR K (some (r / q))) from ep_over (ep_dget (S := Fr K) (m := rr) (ep_var (i := 4) rfl hR9) (ep_var (i := 6) rfl is_rfl) hr) (ep_dget (S := Fr K) (m := tt) (ep_var (i := 3) rfl hT9) (ep_var (i := 6) rfl is_rfl) hgt) hq0 okr) (ep_var (i := 5) rfl is_rfl) (ep_var (i := 6) rfl is_rfl) fun H10 x10 h10 => ⟨_, rfl, ExB.ex e89 nB x10, ?_⟩
      rw [aput_last hnn'] at h10
      rw [List.take_add_one, hi, List.map_append]
      have : ((some (n, q)).toList.map fun p : Str × Rat => (p.1, some ((aget rr p.1).getD 0 / p.2))) = [(n, some (r / q))] := by
        show [(n, some ((aget rr n).getD 0 / q))] = _
        rw [show aget rr n = some r from hr]; rfl
      rw [this]
      exact h10
    · have h0 : q = 0 := by simpa using hb'
      rw [h0] at hq0
      exact absurd hq0 (by decide)
  · rintro od u0 σ' H7 hu0 ⟨x6, rfl, e7, hf7⟩
    rw [List.take_length] at hf7
    have h7d : H7 dt = some (.frz od (.dK kt)) := e7 dt _ upd_same
    have eF : Ex H5 (upd H7 dt u0) := ex_unlock e7 hu0
    have hfF := hf7.kpu (Ne.symm htf) (ExB.upd (o := u0)) (by rw [h7d]; trivial)
    dsimp only
    refine p_ret (R := Is (.ref f)) (ep_var (i := 5) rfl is_rfl) fun u H8 e8 hu => ?_
    cases (show u = _ from hu)
    obtain ⟨kv, hkv, pkv⟩ := hfF.ex e8
    refine kq f H8 (fresh_back eH5 nf) ((eH5.trans eF).trans e8) ⟨kv, hkv, ?_⟩
    clear hf7 hfF ok1 ok2 ok3 hdt hdt5 pkt hmids kq hkv htt hrr hdr
    generalize tt = l at pkv
    induction l generalizing kv with
    | nil => cases pkv; exact .nil
    | cons a l ih =>
      cases pkv with
      | cons h t => exact .cons h (ih _ t)
end
end Tc
set_option Elab.async false
set_option linter.all false
set_option maxRecDepth 100000
set_option maxHeartbeats 4000000
set_option exponentiation.threshold 10000
namespace Tc
open PySem PySem.Spec PyProof.Rows L2 Evl
section
variable {K : PySem.W.Frag}
theorem len_rooms_by_name (K : PySem.W.Frag) : ∀ vs H Q E, sp_rooms_by_name K vs H Q E → vs.length = 1 := by
  rintro vs H Q E ⟨v, A, rfl, _⟩; rfl
def rmOne (m : AL Rat) (p : Pl) : AL Rat := match p with | .cask n r => aput m n r | .sink _ => m
theorem roomsM_eq (house : List Pl) : roomsM house = house.foldl rmOne [] := rfl
theorem rmOne_len (m : AL Rat) (p : Pl) : (rmOne m p).length ≤ m.length + 1 := by
  cases p with
  | cask n r => exact aput_len _ _ _
  | sink n => exact Nat.le_succ _
theorem rmAll_len (m : AL Rat) (ps : List Pl) : (ps.foldl rmOne m).length ≤ m.length + ps.length := by
  induction ps generalizing m with
  | nil => simp
  | cons p r ih =>
    rw [List.foldl_cons, List.length_cons]
    have h1 := ih (rmOne m p)
    have h2 := rmOne_len m p
    omega
theorem rd_rooms_by_name (C : Cst K) (vs : List V) (H : Hp) (Q : VK) (E : XK) (h : sp_rooms_by_name K vs H Q E) : t_rooms_by_name K (BE Q) (start ["house", "found", "place"] vs) H := by
  obtain ⟨v, house, rfl, hh, hl, kq⟩ := h
  refine qp_asgN (en_dnew (S := Fr K)) fun f H1 nf e1 hf => ?_
  refine p_forL (D := { BE Q with nx := tRet (tVar 1) (BE Q) }) (S := PlR K) (K := K) (xs := house) (v := v) (B := H) (ep_var (i := 0) rfl is_rfl) hh
    (fun i σ' H' => ∃ x2, σ' = [some v, some (.ref f), x2] ∧ Ex H H' ∧ DcM (Fr K) ((house.take i).foldl rmOne []) H' f) (rx_ex e1)
    (fun H2 e2 => ⟨_, rfl, e1.trans e2, hf.ex e2⟩) (fun i σ' H' ⟨_, _, e, _⟩ => rx_ex e) ?_ ?_
  · rintro i p pv σ' H2 hi ⟨x2, rfl, e2, hf2⟩ hp
    have hp' : EvP (tVar 2) [some v, some (.ref f), some pv] H2 (PlR K p) := ep_var (i := 2) rfl hp
    refine s_when (pl_test hp') (fun hb H3 e3 => ?_) fun hb H3 e3 => ?_
    · cases p with
      | sink n => cases hb
      | cask n r =>
        have hll := rmAll_len [] (house.take i)
        rw [List.length_take] at hll
        refine p_putM (x := r) (hf2.ex e3) (by simp only [List.length_nil] at hll; omega) (pl_room (hp'.mono e3)) (ep_var (i := 1) rfl is_rfl) (pl_name (hp'.mono e3)) fun H4 x4 h4 => ⟨_, rfl, ExB.ex (e2.trans e3) nf x4, ?_⟩
        rw [fold_snoc hi]
        exact h4
    · cases p with
      | cask n r => cases hb
      | sink n =>
        refine ⟨_, rfl, e2.trans e3, ?_⟩
        rw [fold_snoc hi]
        exact hf2.ex e3
  · rintro σ' H2 ⟨x2, rfl, e2, hf2⟩
    rw [List.take_length] at hf2
    dsimp only
    refine p_ret (R := Is (.ref f)) (ep_var (i := 1) rfl is_rfl) fun u H3 e3 hu => ?_
    cases (show u = _ from hu)
    exact kq f H3 nf (e2.trans e3) (hf2.ex e3)
/-! the parts of a deed -/
variable {σ : L2.St} {H : Hp} {te tk : TE} {d : Dd}
theorem d_kind (h : EvP te σ H (DdR K d)) : EvP (tOp (rIxT K) te (tC (.int 0))) σ H (Is (.str d.kind)) := by
  cases d with
  | move x y q => exact ep_ixT (j := 0) (Rs := [Is (.str "move"), Is (.str x), Is (.str y), Fr K q]) h ep_i rfl
  | fill x y => exact ep_ixT (j := 0) (Rs := [Is (.str "fill"), Is (.str x), Is (.str y)]) h ep_i rfl
  | bring l x q => exact ep_ixT (j := 0) (Rs := [Is (.str "bring"), Is (.str l), Is (.str x), Fr K q]) h ep_i rfl
  | part x y s => exact ep_ixT (j := 0) (Rs := [Is (.str "part"), Is (.str x), Is (.str y), Fr K s]) h ep_i rfl
  | year => exact ep_ixT (j := 0) (Rs := [Is (.str "year")]) h ep_i rfl
theorem d_n1 (h : EvP te σ H (DdR K d)) (ny : d ≠ .year) : EvP (tOp (rIxT K) te (tC (.int 1))) σ H (Is (.str d.n1)) := by
  cases d with
  | move x y q => exact ep_ixT (j := 1) (Rs := [Is (.str "move"), Is (.str x), Is (.str y), Fr K q]) h ep_i rfl
  | fill x y => exact ep_ixT (j := 1) (Rs := [Is (.str "fill"), Is (.str x), Is (.str y)]) h ep_i rfl
  | bring l x q => exact ep_ixT (j := 1) (Rs := [Is (.str "bring"), Is (.str l), Is (.str x), Fr K q]) h ep_i rfl
  | part x y s => exact ep_ixT (j := 1) (Rs := [Is (.str "part"), Is (.str x), Is (.str y), Fr K s]) h ep_i rfl
  | year => exact absurd rfl ny
theorem d_n2 (h : EvP te σ H (DdR K d)) (ny : d ≠ .year) : EvP (tOp (rIxT K) te (tC (.int 2))) σ H (Is (.str d.n2)) := by
  cases d with
  | move x y q => exact ep_ixT (j := 2) (Rs := [Is (.str "move"), Is (.str x), Is (.str y), Fr K q]) h ep_i rfl
  | fill x y => exact ep_ixT (j := 2) (Rs := [Is (.str "fill"), Is (.str x), Is (.str y)]) h ep_i rfl
  | bring l x q => exact ep_ixT (j := 2) (Rs := [Is (.str "bring"), Is (.str l), Is (.str x), Fr K q]) h ep_i rfl
  | part x y s => exact ep_ixT (j := 2) (Rs := [Is (.str "part"), Is (.str x), Is (.str y), Fr K s]) h ep_i rfl
  | year => exact absurd rfl ny
theorem d_is {s : Str} (h : EvP te σ H (DdR K d)) : EvT (tTest (tOp rEq (tOp (rIxT K) te (tC (.int 0))) (tC (.str s)))) σ H (decide (d.kind = s)) := et_t (ep_eqS (d_kind h) ep_s)
/-- the last of a tuple -/
theorem ep_ixTneg {Rs : List HV} {R : HV} (ha : EvP te σ H (Tp K Rs)) [StayAllK Rs] (hb : EvP tk σ H (Is (.int (-1)))) (hj : Rs[Rs.length - 1]? = some R) : EvP (tOp (rIxT K) te tk) σ H R := ep_op ha hb fun H1 a b e ra rb Q k => by
  cases (show b = _ from rb)
  obtain ⟨p, vs, e1, s, rs⟩ := ra
  obtain ⟨w, e2, rw'⟩ := rs.at hj
  have hl : vs.length = Rs.length := Paired.length rs
  have hlt := (List.getElem?_eq_some_iff.mp hj).1
  have e3 : atI vs (-1) = some w := by
    unfold atI ixN
    rw [if_neg (by decide), if_pos (by omega)]
    show vs[_]? = some w
    rw [show (-1 + (vs.length : Int)).toNat = Rs.length - 1 by omega]
    exact e2
  exact ⟨p, vs, -1, w, e1, rfl, s, e3, k w H1 (Ex.refl _) rw'⟩
end
section
variable {K : PySem.W.Frag}
theorem len_taken_share (K : PySem.W.Frag) : ∀ vs H Q E, sp_taken_share K vs H Q E → vs.length = 4 := by
  rintro vs H Q E ⟨v, w, d, i, rooms, tot, dd, rfl, _⟩; rfl
theorem rd_taken_share (C : Cst K) (vs : List V) (H : Hp) (Q : VK) (E : XK) (h : sp_taken_share K vs H Q E) : t_taken_share K (BE Q) (start ["rooms", "totals", "deed", "at", "wanted"] vs) H := by
  obtain ⟨v, w, d, i, rooms, tot, dd, rfl, hr, ht, hd, ok, kq⟩ := h
  have hd0 : ∀ x4, EvP (tVar 2) [some v, some w, some d, some i, x4] H (DdR K dd) := fun x4 => ep_var (i := 2) rfl hd
  refine q_when (d_is (hd0 none)) (fun hb H1 e1 => ?_) fun hb H1 e1 => ?_
  · have hk := of_decide_eq_true hb
    cases dd with
    | part x y s => exact p_ret (R := Fr K s) (ep_ixT (j := 3) (Rs := [Is (.str "part"), Is (.str x), Is (.str y), Fr K s]) ((hd0 none).mono e1) ep_i rfl) fun u H2 e2 hu => kq u H2 (e1.trans e2) hu
    | move x y q => exact absurd hk (show ¬ ("move" : Str) = "part" by decide +kernel)
    | fill x y => exact absurd hk (show ¬ ("fill" : Str) = "part" by decide +kernel)
    | bring l x q => exact ok.elim
    | year => exact ok.elim
  refine q_when (b := false) (by
    have h := (d_is (s := "all") (hd0 none)).mono e1
    have e : decide (dd.kind = ("all" : Str)) = false := by
      cases dd with
      | move x y q => show decide (("move" : Str) = "all") = false; decide +kernel
      | fill x y => show decide (("fill" : Str) = "all") = false; decide +kernel
      | bring l x q => show decide (("bring" : Str) = "all") = false; decide +kernel
      | part x y s => show decide (("part" : Str) = "all") = false; decide +kernel
      | year => show decide (("year" : Str) = "all") = false; decide +kernel
    rw [e] at h
    exact h) (fun z => nomatch z) fun _ H2 e2 => ?_
  have e02 := e1.trans e2
  have hr2 : Dc (Fr K) rooms H2 v := (inferInstance : StayX (Dc (Fr K) rooms)).ex _ _ _ e02 hr
  have ht2 : Dc (Fr K) tot H2 w := (inferInstance : StayX (Dc (Fr K) tot)).ex _ _ _ e02 ht
  have hd2 : DdR K dd H2 d := (inferInstance : StayX (DdR K dd)).ex _ _ _ e02 hd
  -- the end, when wanted is known
  have fin : ∀ (wq tx : Rat) (u : V) (H3 : Hp), Ex H2 H3 → Fr K wq H3 u → aget tot dd.n1 = some tx → dd ≠ .year → 0 < wq → ¬ tx < wq → 0 < tx → Ok (wq / tx) → tkOf rooms tot dd = wq / tx →
      tSeq (tIfS (tB (tCall (sp_under K) [] E0 (tCons (tDGet (tVar 1) (tOp (rIxT K) (tVar 2) (tC (.int 1)))) (tCons (tVar 4) tNil)))) tNever tNext)
      (tSeq (tIfS (tTest (tOp (rEqD K) (tVar 4) (tTup (tCons (tC (.int 0)) (tCons (tC (.int 1)) tNil))))) (tRet (tTup (tCons (tC (.int 0)) (tCons (tC (.int 1)) tNil)))) tNext)
      (tRet (tCall (sp_over K) [] E0 (tCons (tVar 4) (tCons (tDGet (tVar 1) (tOp (rIxT K) (tVar 2) (tC (.int 1)))) tNil))))) (BE Q) [some v, some w, some d, some i, some u] H3 := fun wq tx u H3 e3 hu hx ny h0 hn htx oq eqs => by
    have ht3 : Dc (Fr K) tot H3 w := (inferInstance : StayX (Dc (Fr K) tot)).ex _ _ _ e3 ht2
    have hd3 : EvP (tVar 2) [some v, some w, some d, some i, some u] H3 (DdR K dd) := ep_var (i := 2) rfl ((inferInstance : StayX (DdR K dd)).ex _ _ _ e3 hd2)
    have gx : EvP (tDGet (tVar 1) (tOp (rIxT K) (tVar 2) (tC (.int 1)))) [some v, some w, some d, some i, some u] H3 (Fr K tx) := ep_dget (S := Fr K) (m := tot) (ep_var (i := 1) rfl ht3) (d_n1 hd3 ny) hx
    refine q_when (et_b (ep_under gx (ep_var (i := 4) rfl hu))) (fun hb => absurd (of_decide_eq_true hb) hn) fun _ H4 e4 => ?_
    refine q_when (et_t (ep_eqF (q2 := 0) (ep_var (i := 4) rfl (hu.ex e4)) (ep_frac (n := 0) (d := 1) (eas_cons ep_i (eas_cons ep_i eas_nil)) ok0 rfl rfl))) (fun hb => absurd (of_decide_eq_true hb) (fun z => by rw [z] at h0; exact absurd h0 (by decide))) fun _ H5 e5 => ?_
    refine p_ret (R := Fr K (wq / tx)) (ep_over (ep_var (i := 4) rfl (hu.ex (e4.trans e5))) (gx.mono (e4.trans e5)) htx oq) fun z H6 e6 hz => kq z H6 (((e02.trans e3).trans (e4.trans e5)).trans e6) (by rw [eqs]; exact hz)
  cases dd with
  | part x y s => exact absurd rfl (of_decide_eq_false hb)
  | bring l x q => exact ok.elim
  | year => exact ok.elim
  | move x y q =>
    obtain ⟨tx, hx, h0, hn, htx, oq⟩ := ok
    refine qp_asg (R := Fr K q) (ep_ixTneg (Rs := [Is (.str "move"), Is (.str x), Is (.str y), Fr K q]) (ep_var (i := 2) rfl hd2) ep_m1 rfl) fun u H3 e3 hu => ?_
    refine q_when (b := false) (d_is (d := .move x y q) (ep_var (i := 2) rfl ((inferInstance : StayX (DdR K (.move x y q))).ex _ _ _ e3 hd2))) (fun z => nomatch z) fun _ H4 e4 => ?_
    exact fin q tx u H4 (e3.trans e4) (hu.ex e4) hx (fun z => nomatch z) h0 hn htx oq (by show q / (aget tot x).getD 0 = _; rw [hx]; rfl)
  | fill x y =>
    obtain ⟨tx, ty, ry, hx, hy, hry, ow, h0, hn, htx, oq⟩ := ok
    refine qp_asg (R := Is (.str y)) (ep_ixTneg (Rs := [Is (.str "fill"), Is (.str x), Is (.str y)]) (ep_var (i := 2) rfl hd2) ep_m1 rfl) fun u H3 e3 hu => ?_
    have hd3 : DdR K (.fill x y) H3 d := (inferInstance : StayX (DdR K (.fill x y))).ex _ _ _ e3 hd2
    refine q_when (b := true) (d_is (d := .fill x y) (ep_var (i := 2) rfl hd3)) (fun _ H4 e4 => ?_) (fun z => nomatch z)
    have e24 := e3.trans e4
    have hd4 : DdR K (.fill x y) H4 d := (inferInstance : StayX (DdR K (.fill x y))).ex _ _ _ e4 hd3
    refine p_asg (R := Fr K (ry - ty)) (ep_minus (ep_dget (S := Fr K) (m := rooms) (ep_var (i := 0) rfl ((inferInstance : StayX (Dc (Fr K) rooms)).ex _ _ _ e24 hr2)) (d_n2 (d := .fill x y) (ep_var (i := 2) rfl hd4) (fun z => nomatch z)) hry) (ep_dget (S := Fr K) (m := tot) (ep_var (i := 1) rfl ((inferInstance : StayX (Dc (Fr K) tot)).ex _ _ _ e24 ht2)) (d_n2 (d := .fill x y) (ep_var (i := 2) rfl hd4) (fun z => nomatch z)) hy) ow) fun u2 H5 e5 hu2 => ?_
    exact fin (ry - ty) tx u2 H5 (e24.trans e5) hu2 hx (fun z => nomatch z) h0 hn htx oq (by show ((aget rooms y).getD 0 - (aget tot y).getD 0) / (aget tot x).getD 0 = _; rw [hx, hy, hry]; rfl)
end
end Tc
set_option Elab.async false
set_option linter.all false
set_option maxRecDepth 100000
set_option maxHeartbeats 4000000
set_option exponentiation.threshold 10000
namespace Tc
open PySem PySem.Spec PyProof.Rows L2 Evl
section
variable {K : PySem.W.Frag}
theorem stepD_pass {rooms tot : AL Rat} {year : Int} {d : Dd} (nb : ∀ l x q, d ≠ .bring l x q) : stepD rooms tot year d = .pass d.n1 d.n2 (tkOf rooms tot d) := by
  cases d with
  | bring l x q => exact absurd rfl (nb l x q)
  | move x y q => rfl
  | fill x y => rfl
  | part x y s => rfl
  | year => rfl
theorem totD_pass {rooms tot : AL Rat} {d : Dd} (nb : ∀ l x q, d ≠ .bring l x q) : totD rooms tot d = aput (outD rooms tot d) d.n2 ((aget (outD rooms tot d) d.n2).getD 0 + (aget tot d.n1).getD 0 * tkOf rooms tot d) := by
  cases d with
  | bring l x q => exact absurd rfl (nb l x q)
  | move x y q => rfl
  | fill x y => rfl
  | part x y s => rfl
  | year => rfl
theorem StOk_pass {rooms tot : AL Rat} {d : Dd} (nb : ∀ l x q, d ≠ .bring l x q) (ny : d ≠ .year) (h : StOk rooms tot d) : TkOk rooms tot d ∧ ∃ tx ty, aget tot d.n1 = some tx ∧ aget (outD rooms tot d) d.n2 = some ty ∧ Ok (tx * tkOf rooms tot d) ∧ Ok (tx - tx * tkOf rooms tot d) ∧ Ok (ty + tx * tkOf rooms tot d) ∧ ∀ r, aget rooms d.n2 = some r → ¬ r < ty + tx * tkOf rooms tot d := by
  cases d with
  | bring l x q => exact absurd rfl (nb l x q)
  | move x y q => exact h
  | fill x y => exact h
  | part x y s => exact h
  | year => exact absurd rfl ny
theorem st_n2 {rooms tot : AL Rat} {year : Int} {d : Dd} {σ : L2.St} {H : Hp} {te : TE} (h : EvP te σ H (StpR K (stepD rooms tot year d))) : EvP (tOp (rIxT K) te (tC (.int 2))) σ H (Is (.str d.n2)) := by
  by_cases nb : ∃ l x q, d = .bring l x q
  · obtain ⟨l, x, q, rfl⟩ := nb
    exact ep_ixT (j := 2) (Rs := [Is (.str "bring"), Tp K [Is (.str l), Is (.int year)], Is (.str x), Fr K q]) h ep_i rfl
  · rw [stepD_pass fun l x q e => nb ⟨l, x, q, e⟩] at h
    exact ep_ixT (j := 2) (Rs := [Is (.str "pass"), Is (.str d.n1), Is (.str d.n2), Fr K (tkOf rooms tot d)]) h ep_i rfl
theorem dc_exB {m : AL Rat} {H H' : Hp} {a p : Addr} (x : ExB p H H') (nt : NT (H p)) (n : a ≠ p) (h : Dc (Fr K) m H (.ref a)) : Dc (Fr K) m H' (.ref a) := by
  obtain ⟨b, kvs, e1, s, pd⟩ := h
  cases e1
  exact ⟨a, kvs, rfl, rd_exB x n s, pd.map fun y w hw => hw.kp (x.kp nt)⟩
theorem len_step_of (K : PySem.W.Frag) : ∀ vs H Q E, sp_step_of K vs H Q E → vs.length = 5 := by
  rintro vs H Q E ⟨v, t, year, d, i, rooms, tot, dd, rfl, _⟩; rfl
theorem rd_step_of (C : Cst K) (vs : List V) (H : Hp) (Q : VK) (E : XK) (h : sp_step_of K vs H Q E) : t_step_of K (BE Q) (start ["rooms", "totals", "year", "deed", "at", "step", "share", "goes"] vs) H := by
  obtain ⟨v, t, year, d, i, rooms, tot, dd, rfl, hr, nv, ht, hl, hd, ny, ok, kq⟩ := h
  obtain ⟨a, kr, rfl, rr, pr⟩ := id hr
  have hat : a ≠ t := fun z => nv (by rw [z])
  -- the tail
  have fin : ∀ (st : Stp) (u : V) (x6 x7 : Option V) (t2 : Rat) (H3 : Hp), ExB t H H3 → DcM (Fr K) (totD rooms tot dd) H3 t → StpR K (stepD rooms tot year dd) H3 u → aget (totD rooms tot dd) dd.n2 = some t2 → (∀ r, aget rooms dd.n2 = some r → ¬ r < t2) →
      tSeq (tIfS (tAnd (tB (tDIn (tOp (rIxT K) (tVar 5) (tC (.int 2))) (tVar 0))) (tB (tCall (sp_under K) [] E0 (tCons (tDGet (tVar 0) (tOp (rIxT K) (tVar 5) (tC (.int 2)))) (tCons (tDGet (tVar 1) (tOp (rIxT K) (tVar 5) (tC (.int 2)))) tNil))))) tNever tNext)
      (tRet (tVar 5)) (BE Q) [some (.ref a), some (.ref t), some (.int year), some d, some i, some u, x6, x7] H3 := fun st u x6 x7 t2 H3 x3 ht3 hu hx2 hroom => by
    have hr3 : Dc (Fr K) rooms H3 (.ref a) := dc_exB x3 ht.nt hat hr
    have n2 : EvP (tOp (rIxT K) (tVar 5) (tC (.int 2))) [some (.ref a), some (.ref t), some (.int year), some d, some i, some u, x6, x7] H3 (Is (.str dd.n2)) := st_n2 (ep_var (i := 5) rfl hu)
    have test := et_and (t := tB (tDIn (tOp (rIxT K) (tVar 5) (tC (.int 2))) (tVar 0))) (u := tB (tCall (sp_under K) [] E0 (tCons (tDGet (tVar 0) (tOp (rIxT K) (tVar 5) (tC (.int 2)))) (tCons (tDGet (tVar 1) (tOp (rIxT K) (tVar 5) (tC (.int 2)))) tNil)))) (σ := [some (.ref a), some (.ref t), some (.int year), some d, some i, some u, x6, x7]) (H := H3) (a := (aget rooms dd.n2).isSome) (b := decide ((aget rooms dd.n2).getD 0 < t2))
      (et_b (ep_din (S := Fr K) (m := rooms) n2 (ep_var (i := 0) rfl hr3))) fun hs => by
        obtain ⟨r, hrr⟩ := Option.isSome_iff_exists.mp hs
        rw [hrr]
        exact et_b (ep_under (ep_dget (S := Fr K) (m := rooms) (ep_var (i := 0) rfl hr3) n2 hrr) (ep_dget (S := Fr K) (m := totD rooms tot dd) (ep_var (i := 1) rfl ht3.dc) n2 hx2))
    refine q_when test (fun hb => ?_) fun _ H4 e4 => ?_
    · simp only [Bool.and_eq_true, decide_eq_true_eq] at hb
      obtain ⟨h1, h2⟩ := hb
      obtain ⟨r, hrr⟩ := Option.isSome_iff_exists.mp h1
      rw [hrr] at h2
      exact absurd h2 (hroom r hrr)
    · refine p_ret (R := StpR K (stepD rooms tot year dd)) (ep_var (i := 5) rfl ((inferInstance : StayX (StpR K (stepD rooms tot year dd))).ex _ _ _ e4 hu)) fun z H5 e5 hz => ?_
      exact kq z H5 (x3.trans (ExB.ofEx (e4.trans e5))) (ht3.ex (e4.trans e5)) hz
  refine q_if (d_is (ep_var (i := 3) rfl hd)) (fun hb H1 e1 => ?_) fun hb H1 e1 => ?_
  · have hk := of_decide_eq_true hb
    cases dd with
    | move x y q => exact absurd hk (show ¬ ("move" : Str) = "bring" by decide +kernel)
    | fill x y => exact absurd hk (show ¬ ("fill" : Str) = "bring" by decide +kernel)
    | part x y s => exact absurd hk (show ¬ ("part" : Str) = "bring" by decide +kernel)
    | year => exact absurd rfl ny
    | bring l x q =>
      obtain ⟨tx, htx, otx, hroom⟩ := ok
      have hd1 : DdR K (.bring l x q) H1 d := (inferInstance : StayX (DdR K (.bring l x q))).ex _ _ _ e1 hd
      have dv : ∀ x5, EvP (tVar 3) [some (.ref a), some (.ref t), some (.int year), some d, some i, x5, none, none] H1 (DdR K (.bring l x q)) := fun x5 => ep_var (i := 3) rfl hd1
      have d3 : ∀ x5, EvP (tOp (rIxT K) (tVar 3) (tC (.int 3))) [some (.ref a), some (.ref t), some (.int year), some d, some i, x5, none, none] H1 (Fr K q) := fun x5 => ep_ixT (j := 3) (Rs := [Is (.str "bring"), Is (.str l), Is (.str x), Fr K q]) (dv x5) ep_i rfl
      have tup : EvP (tTup (tCons (tC (.str "bring")) (tCons (tTup (tCons (tOp (rIxT K) (tVar 3) (tC (.int 1))) (tCons (tVar 2) tNil))) (tCons (tOp (rIxT K) (tVar 3) (tC (.int 2))) (tCons (tOp (rIxT K) (tVar 3) (tC (.int 3))) tNil))))) [some (.ref a), some (.ref t), some (.int year), some d, some i, none, none, none] H1 (StpR K (.bring l year x q)) :=
        ep_tup (K := K) (Rs := [Is (.str "bring"), Tp K [Is (.str l), Is (.int year)], Is (.str x), Fr K q]) (eas_cons ep_s (eas_cons (ep_tup (K := K) (eas_cons (d_n1 (dv none) (fun z => nomatch z)) (eas_cons (ep_var (i := 2) rfl is_rfl) eas_nil)) (show 2 ≤ 100000 by decide)) (eas_cons (d_n2 (dv none) (fun z => nomatch z)) (eas_cons (d3 none) eas_nil)))) (show 4 ≤ 100000 by decide)
      refine qp_asg (R := StpR K (.bring l year x q)) tup fun u H2 e2 hu => ?_
      have e12 := e1.trans e2
      have ht2 := ht.ex e12
      have nd2 := (d_n2 (dv (some u)) (fun z => nomatch z)).mono e2
      refine p_putM (x := tx + q) ht2 (by omega) (ep_plus (ep_dget (S := Fr K) (m := tot) (ep_var (i := 1) rfl ht2.dc) nd2 htx) ((d3 (some u)).mono e2) otx) (ep_var (i := 1) rfl is_rfl) nd2 fun H3 x3 h3 => ?_
      have et : totD rooms tot (.bring l x q) = aput tot x (tx + q) := by show aput tot x ((aget tot x).getD 0 + q) = _; rw [htx]; rfl
      refine fin (.bring l year x q) u none none (tx + q) H3 ((ExB.ofEx e12).trans x3) (by rw [et]; exact h3) ((inferInstance : Stay (StpR K (.bring l year x q))).kp _ _ _ (x3.kp ht2.nt) hu) (by rw [et]; show aget (aput tot x (tx + q)) x = _; rw [aget_put, if_pos rfl]) hroom
  · have nb : ∀ l x q, dd ≠ .bring l x q := fun l x q z => by
      rw [z] at hb
      exact absurd (show (Dd.bring l x q).kind = "bring" from rfl) (of_decide_eq_false hb)
    obtain ⟨okt, tx, ty, htx, hty, o1, o2, o3, hroom⟩ := StOk_pass nb ny ok
    have hd1 : DdR K dd H1 d := (inferInstance : StayX (DdR K dd)).ex _ _ _ e1 hd
    have hr1 : Dc (Fr K) rooms H1 (.ref a) := (inferInstance : StayX (Dc (Fr K) rooms)).ex _ _ _ e1 hr
    have ht1 := ht.ex e1
    refine qp_asg (R := Fr K (tkOf rooms tot dd)) (ep_call (eas_cons (ep_var (i := 0) rfl hr1) (eas_cons (ep_var (i := 1) rfl ht1.dc) (eas_cons (ep_var (i := 3) rfl hd1) (eas_cons (ep_var (i := 4) rfl (is_rfl (x := i))) eas_nil)))) fun H2 us e2 r Q' k' => ?_) fun w H2 e2 hw => ?_
    · obtain ⟨b1, b2, b3, b4, rfl, r1, r2, r3, r4⟩ := r.four
      exact ⟨b1, b2, b3, b4, rooms, tot, dd, rfl, r1, r2, r3, okt, k'⟩
    have hd2 : DdR K dd H2 d := (inferInstance : StayX (DdR K dd)).ex _ _ _ e2 hd1
    refine qp_asg (R := StpR K (stepD rooms tot year dd)) ?_ fun u H3 e3 hu => ?_
    · rw [stepD_pass nb]
      exact ep_tup (K := K) (Rs := [Is (.str "pass"), Is (.str dd.n1), Is (.str dd.n2), Fr K (tkOf rooms tot dd)]) (eas_cons ep_s (eas_cons (d_n1 (ep_var (i := 3) rfl hd2) ny) (eas_cons (d_n2 (ep_var (i := 3) rfl hd2) ny) (eas_cons (ep_var (i := 6) rfl hw) eas_nil)))) (show 4 ≤ 100000 by decide)
    have e13 := (e1.trans e2).trans e3
    have hd3 : DdR K dd H3 d := (inferInstance : StayX (DdR K dd)).ex _ _ _ e3 hd2
    have ht3 := ht.ex e13
    refine qp_asg (R := Fr K (tx * tkOf rooms tot dd)) (ep_times (ep_dget (S := Fr K) (m := tot) (ep_var (i := 1) rfl ht3.dc) (d_n1 (ep_var (i := 3) rfl hd3) ny) htx) (ep_var (i := 6) rfl (hw.ex e3)) o1) fun g H4 e4 hg => ?_
    have ht4 := ht3.ex e4
    have hd4 : DdR K dd H4 d := (inferInstance : StayX (DdR K dd)).ex _ _ _ e4 hd3
    have eout : outD rooms tot dd = aput tot dd.n1 (tx - tx * tkOf rooms tot dd) := by unfold outD; rw [htx]; rfl
    refine qp_putM (x := tx - tx * tkOf rooms tot dd) ht4 (by omega) (ep_minus (ep_dget (S := Fr K) (m := tot) (ep_var (i := 1) rfl ht4.dc) (d_n1 (ep_var (i := 3) rfl hd4) ny) htx) (ep_var (i := 7) rfl hg) o2) (ep_var (i := 1) rfl is_rfl) (d_n1 (ep_var (i := 3) rfl hd4) ny) fun H5 x5 h5 => ?_
    rw [← eout] at h5
    have hd5 : DdR K dd H5 d := (inferInstance : Stay (DdR K dd)).kp _ _ _ (x5.kp ht4.nt) hd4
    have hg5 : Fr K (tx * tkOf rooms tot dd) H5 g := hg.kp (x5.kp ht4.nt)
    have hlo : (outD rooms tot dd).length ≤ 1001 := by rw [eout]; exact Nat.le_trans (aput_len _ _ _) (by omega)
    refine p_putM (x := ty + tx * tkOf rooms tot dd) h5 (by omega) (ep_plus (ep_dget (S := Fr K) (m := outD rooms tot dd) (ep_var (i := 1) rfl h5.dc) (d_n2 (ep_var (i := 3) rfl hd5) ny) hty) (ep_var (i := 7) rfl hg5) o3) (ep_var (i := 1) rfl is_rfl) (d_n2 (ep_var (i := 3) rfl hd5) ny) fun H6 x6 h6 => ?_
    have et : totD rooms tot dd = aput (outD rooms tot dd) dd.n2 (ty + tx * tkOf rooms tot dd) := by rw [totD_pass nb, hty, htx]; rfl
    have hu4 : StpR K (stepD rooms tot year dd) H4 u := (inferInstance : StayX (StpR K (stepD rooms tot year dd))).ex _ _ _ e4 hu
    refine fin (stepD rooms tot year dd) u _ _ (ty + tx * tkOf rooms tot dd) H6 ((ExB.ofEx (e13.trans e4)).trans (x5.trans x6)) (by rw [et]; exact h6) ((inferInstance : Stay (StpR K (stepD rooms tot year dd))).kp _ _ _ ((x5.kp ht4.nt).trans (x6.kp h5.nt)) hu4) (by rw [et, aget_put, if_pos rfl]) hroom
theorem ssAll_snoc {rooms : AL Rat} {s : SS} {ds : List Dd} {i : Nat} {d : Dd} (h : ds[i]? = some d) : ssAll rooms s (ds.take (i + 1)) = ssOne rooms (ssAll rooms s (ds.take i)) d := fold_snoc h
theorem ssOne_do {rooms : AL Rat} {s : SS} {d : Dd} (ny : d ≠ .year) : ssOne rooms s d = ⟨totD rooms s.tot d, s.year, s.acc ++ [stepD rooms s.tot s.year d]⟩ := by
  cases d with
  | year => exact absurd rfl ny
  | bring l x q => rfl
  | move x y q => rfl
  | fill x y => rfl
  | part x y s => rfl
theorem ssOne_acc (rooms : AL Rat) (s : SS) (d : Dd) : (ssOne rooms s d).acc.length ≤ s.acc.length + 1 := by
  by_cases ny : d = .year
  · rw [ny]; exact Nat.le_succ _
  · rw [ssOne_do ny]; simp
theorem ssAll_acc (rooms : AL Rat) (s : SS) (ds : List Dd) : (ssAll rooms s ds).acc.length ≤ s.acc.length + ds.length := by
  unfold ssAll
  induction ds generalizing s with
  | nil => simp
  | cons d r ih =>
    rw [List.foldl_cons, List.length_cons]
    have h1 := ih (ssOne rooms s d)
    have h2 := ssOne_acc rooms s d
    omega
theorem LsM.kpu {α : Type} {S : α → HV} [∀ x, Stay (S x)] {xs : List α} {l p : Addr} {H H' : Hp} (h : LsM S xs H l) (n : l ≠ p) (x : ExB p H H') (nt : NT (H p)) : LsM S xs H' l := by
  obtain ⟨vs, e, pv⟩ := h
  exact ⟨vs, x _ _ n e, L2.Paired.mapP pv fun w y hw => (inferInstance : Stay (S y)).kp _ _ _ (x.kp nt) hw⟩
theorem len_steps_of (K : PySem.W.Frag) : ∀ vs H Q E, sp_steps_of K vs H Q E → vs.length = 4 := by
  rintro vs H Q E ⟨v, t, year, d, i, rooms, tot, rfl, _⟩; rfl
theorem rd_steps_of (C : Cst K) (vs : List V) (H : Hp) (Q : VK) (E : XK) (h : sp_steps_of K vs H Q E) : t_steps_of K (BE Q) (start ["house", "totals", "year", "deeds", "rooms", "now", "steps", "at", "deed"] vs) H := by
  obtain ⟨v, w, d, house, tot, year, ds, rfl, hh, ht, hd, ok, kq⟩ := h
  have l1 := ok.h100
  have l2 := ok.d100
  refine qp_asgN (S := DcM (Fr K) (roomsM house)) (en_call (eas_cons (ep_var (i := 0) rfl hh) eas_nil) fun H1 us e r Q' k' => ?_) fun a H1 na e1 ha => ?_
  · obtain ⟨b, rfl, rb⟩ := r.one
    exact ⟨b, house, rfl, rb, l1, k'⟩
  obtain ⟨rooms, hrooms⟩ : ∃ rooms, roomsM house = rooms := ⟨_, rfl⟩
  have lenk := ok.len
  have okk := ok.ok
  rw [hrooms] at ha lenk okk kq
  have ht1 : Dc (Fr K) tot H1 w := (inferInstance : StayX (Dc (Fr K) tot)).ex _ _ _ e1 ht
  refine qp_asgN (en_dictD (ep_var (i := 1) rfl ht1)) fun n H2 nn e2 hn => ?_
  refine qp_asgN (en_nil (S := StpR K)) fun l H3 nl e3 hl => ?_
  have nl1 : H1 l = none := fresh_back e2 nl
  have hln : l ≠ n := fun z => by
    obtain ⟨kv, hkv, _⟩ := hn
    rw [z, hkv] at nl; cases nl
  obtain ⟨ka, hka, _⟩ := id ha
  have han : a ≠ n := fun z => by rw [← z, hka] at nn; cases nn
  have hd1 : Ls K (DdR K) ds H1 d := ls_Rx (rx_ex e1) hd
  refine p_forEnum (D := { BE Q with nx := tRet (tTup (tCons (tVar 6) (tCons (tVar 5) tNil))) (BE Q) }) (S := DdR K) (K := K) (xs := ds) (v := d) (B := H1) (ep_var (i := 3) rfl is_rfl) hd1
    (fun i σ' H' => ∃ x7 x8, σ' = [some v, some w, some (.int (ssAll rooms ⟨tot, year, []⟩ (ds.take i)).year), some d, some (.ref a), some (.ref n), some (.ref l), x7, x8] ∧ Ex H1 H' ∧ DcM (Fr K) (ssAll rooms ⟨tot, year, []⟩ (ds.take i)).tot H' n ∧ LsM (StpR K) (ssAll rooms ⟨tot, year, []⟩ (ds.take i)).acc H' l) (rx_ex (e2.trans e3))
    (fun H4 e4 => ⟨_, _, rfl, (e2.trans e3).trans e4, hn.ex (e3.trans e4), hl.ex e4⟩) (fun i σ' H' ⟨_, _, _, e, _⟩ => rx_ex e)
    (fun i σ' Ha Hb ⟨_, _, es, e, h1, h2⟩ eab => ⟨_, _, es, e.trans eab, h1.ex eab, h2.ex eab⟩) ?_ ?_
  · rintro i dd dv σ' H4 hi ⟨x7, x8, rfl, e4, hn4, hl4⟩ hdv
    rw [ssAll_snoc hi]
    have oki := okk i dd hi
    have leni := lenk i
    have lacc : (ssAll rooms ⟨tot, year, []⟩ (ds.take i)).acc.length ≤ 100 := by
      have h := ssAll_acc rooms ⟨tot, year, []⟩ (ds.take i)
      rw [List.length_take] at h
      simp only [List.length_nil] at h
      omega
    generalize ssAll rooms ⟨tot, year, []⟩ (ds.take i) = s at hn4 hl4 oki leni lacc
    refine s_if (d_is (ep_var (i := 8) rfl hdv)) (fun hb H5 e5 => ?_) fun hb H5 e5 => ?_
    · have hk := of_decide_eq_true hb
      cases dd with
      | move x y q => exact absurd hk (show ¬ ("move" : Str) = "year" by decide +kernel)
      | fill x y => exact absurd hk (show ¬ ("fill" : Str) = "year" by decide +kernel)
      | part x y s => exact absurd hk (show ¬ ("part" : Str) = "year" by decide +kernel)
      | bring l x q => exact absurd hk (show ¬ ("bring" : Str) = "year" by decide +kernel)
      | year =>
        refine p_asg (R := Is (.int (s.year + 1))) (ep_addI (ep_var (i := 2) rfl is_rfl) ep_i) fun u H6 e6 hu => ?_
        cases (show u = _ from hu)
        exact ⟨_, _, rfl, (e4.trans e5).trans e6, hn4.ex (e5.trans e6), hl4.ex (e5.trans e6)⟩
    · have ny : dd ≠ .year := fun z => by
        rw [z] at hb
        exact absurd (show Dd.year.kind = "year" from rfl) (of_decide_eq_false hb)
      rw [ssOne_do ny]
      have hn5 := hn4.ex e5
      have hl5 := hl4.ex e5
      obtain ⟨vs, hvs, pvs⟩ := id hl5
      have e15 := e4.trans e5
      refine ⟨.ref l, rfl, Or.inl ⟨rfl, vs, sq_of hvs⟩, ?_⟩
      have args : EvAs (tCons (tVar 4) (tCons (tVar 5) (tCons (tVar 2) (tCons (tVar 8) (tCons (tVar 7) tNil))))) [some v, some w, some (.int s.year), some d, some (.ref a), some (.ref n), some (.ref l), some (.int (i : Int)), some dv] H5 [Is (.ref a), Is (.ref n), Is (.int s.year), DdR K dd, Is (.int (i : Int))] :=
        eas_cons (ep_var (i := 4) rfl is_rfl) (eas_cons (ep_var (i := 5) rfl is_rfl) (eas_cons (ep_var (i := 2) rfl is_rfl) (eas_cons (ep_var (i := 8) rfl ((inferInstance : StayX (DdR K dd)).ex _ _ _ e5 hdv)) (eas_cons (ep_var (i := 7) rfl is_rfl) eas_nil))))
      show tCall (sp_step_of K) [] E0 (tCons (tVar 4) (tCons (tVar 5) (tCons (tVar 2) (tCons (tVar 8) (tCons (tVar 7) tNil))))) [some v, some w, some (.int s.year), some d, some (.ref a), some (.ref n), some (.ref l), some (.int (i : Int)), some dv] H5 _
      refine args H5 (Ex.refl _) _ fun us H6 e6 r => ?_
      show sp_step_of K (us ++ []) H6 _ _
      rw [List.append_nil]
      cases r with
      | cons r1 r =>
        obtain ⟨b2, b3, b4, b5, rfl, r2, r3, r4, r5⟩ := AllP.four r
        cases (show _ = _ from r1)
        cases (show _ = _ from r2)
        cases (show _ = _ from r3)
        have hn6 := hn5.ex e6
        have hl6 := hl5.ex e6
        refine ⟨.ref a, n, s.year, b4, b5, rooms, s.tot, dd, rfl, (ha.ex (e15.trans e6)).dc, fun z => han (by cases z; rfl), hn6, leni, r4, ny, oki, fun u H7 x7' hn7 hu => ?_⟩
        have hl7 : LsM (StpR K) s.acc H7 l := hl6.kpu hln x7' hn6.nt
        obtain ⟨ws, hws, pws⟩ := id hl7
        have lw : ws.length = s.acc.length := Paired.length pws
        have nt7 : NT (H7 l) := hl7.nt
        have kp : Kp H7 (upd H7 l (.lst (ws ++ [u]))) := kp_upd nt7
        refine ⟨l, ws, u, rfl, rfl, hws, sz_lt (by omega), _, _, rfl, ?_, hn7.kpu (Ne.symm hln) ExB.upd nt7, ⟨ws ++ [u], upd_same, ?_⟩⟩
        · exact ExB.ex (ExB.ex (e15.trans e6) nn x7') nl1 ExB.upd
        · exact Paired.snoc (L2.Paired.mapP pws fun w y hw => (inferInstance : Stay (StpR K y)).kp _ _ _ kp hw) ((inferInstance : Stay (StpR K (stepD rooms s.tot s.year dd))).kp _ _ _ kp hu)
  · rintro σ' H4 ⟨x7, x8, rfl, e4, hn4, hl4⟩
    rw [List.take_length] at hn4 hl4
    dsimp only
    refine p_ret (R := Tp K [Ls K (StpR K) (ssAll rooms ⟨tot, year, []⟩ ds).acc, Dc (Fr K) (ssAll rooms ⟨tot, year, []⟩ ds).tot]) (ep_tup (K := K) (eas_cons (ep_var (i := 6) rfl hl4.ls) (eas_cons (ep_var (i := 5) rfl hn4.dc) eas_nil)) (show 2 ≤ 100000 by decide)) fun u H5 e5 hu => kq u H5 ((e1.trans e4).trans e5) hu
end
end Tc
set_option Elab.async false
set_option linter.all false
set_option maxRecDepth 100000
set_option maxHeartbeats 4000000
set_option exponentiation.threshold 10000
namespace Tc
open PySem PySem.Spec PyProof.Rows L2 Evl
abbrev IntR : Int → HV := fun i => Is (.int i)
def cellAt (ns : List Int) (k : Nat) : Int := ns.getD k 0
def sp_law_cell_at (K : PySem.W.Frag) : Sp := fun vs H Q _ => ∃ v ns, ∃ k : Nat, vs = [v, .int (k : Int)] ∧ Ls K IntR ns H v ∧ RetP H (Is (.int (cellAt ns k))) Q
def mixA : List Int := [48271, 69621, 16807, 39373]
def mixB : List Int := [65537, 65539, 65543, 65551]
def mixedF (c : Int) (k : Nat) : Int := c % 1000003 * mixA.getD k 0 % mixB.getD k 1
def sp_law_mixed (K : PySem.W.Frag) : Sp := fun vs H Q _ => ∃ c, ∃ k : Nat, vs = [.int c, .int (k : Int)] ∧ k < 4 ∧ RetP H (Is (.int (mixedF c k))) Q
/-! names -/
def lettersS : Str := "abcdefghijklmnopqrstuvwxyz"
def letters : List Nat := [97, 98, 99, 100, 101, 102, 103, 104, 105, 106, 107, 108, 109, 110, 111, 112, 113, 114, 115, 116, 117, 118, 119, 120, 121, 122]
def baseLen (c : Int) : Nat := (1 + c % 8).toNat
def baseF (c : Int) : List Int := (List.range (baseLen c)).map fun k : Nat => (c / ((k : Int) + 1) + (k : Int) * (k : Int)) % 26
def atF (c : Int) : Int := c / 8 % ((baseLen c : Nat) : Int)
def nameF (c : Int) (k : Nat) : Str := ⟨((List.range (baseLen c)).map fun j : Nat => letters.getD ((((baseF c).getD j 0) + (k : Int) * (if decide ((j : Int) = atF c) = true then 1 else 0)) % 26).toNat 0).toArray⟩
def namesF (c : Int) : List Str := (List.range 9).map (nameF c)
def sp_law_names (K : PySem.W.Frag) : Sp := fun vs H Q _ => ∃ c, vs = [.int c] ∧ RetP H (Ls K NmR (namesF c)) Q
/-! house -/
def roomF (c : Int) (k : Nat) : Rat := Rat.divInt (20 + mixedF c k % 100) (1 + mixedF c k / 100 % 2)
def manyF (c : Int) : Nat := (2 + c % 3).toNat
def csF (c : Int) (ns : List Str) : List (Str × Rat) := (List.range (manyF c)).map fun k => (ns.getD k "", roomF c k)
def houseF (c : Int) (ns : List Str) : List Pl :=
  let cs := (csF c ns).map fun p => Pl.cask p.1 p.2
  let i := (c / 3 % ((manyF c : Nat) : Int)).toNat
  (cs.take i ++ [.sink (ns.getD 4 "")] ++ cs.drop i) ++ [.sink (ns.getD 5 "")]
def sp_law_house (K : PySem.W.Frag) : Sp := fun vs H Q _ => ∃ c v ns, vs = [.int c, v] ∧ Ls K NmR ns H v ∧ ns.length = 9 ∧ (∀ k, k < 4 → Ok (roomF c k)) ∧ RetP H (Ls K (PlR K) (houseF c ns)) Q
/-! the round -/
def leastF (cs : List (Str × Rat)) : Rat := cs.foldl (fun m p => if p.2 < m then p.2 else m) ((cs.getD 0 ("", 0)).2)
def quartF (c : Int) : Rat := Rat.divInt (1 + c % 4) 4
def amountF (cs : List (Str × Rat)) (cells : List Int) : Rat := leastF cs * Rat.divInt (1 + cells.getD 2 0 % 4) 4
def turnD (cs : List (Str × Rat)) (cells : List Int) (k : Nat) : Dd :=
  if mixedF (cells.getD 3 0) (k % 4) % 2 = 0 then .fill (cs.getD (k - 1) ("", 0)).1 (cs.getD k ("", 0)).1 else .move (cs.getD (k - 1) ("", 0)).1 (cs.getD k ("", 0)).1 (amountF cs cells)
def mainD (cs : List (Str × Rat)) (ns : List Str) (cells : List Int) : List Dd :=
  [Dd.move (cs.getD (cs.length - 1) ("", 0)).1 (ns.getD (4 + cells.getD 2 0 / 4 % 2).toNat "") (amountF cs cells)] ++ ((List.range (cs.length - 1)).map fun i => turnD cs cells (cs.length - 1 - i)) ++ [Dd.bring (ns.getD (6 + cells.getD 3 0 % 3).toNat "") (cs.getD 0 ("", 0)).1 (amountF cs cells)]
def lostF (cells : List Int) : Rat := Rat.divInt (1 + cells.getD 4 0 / 8 % 3) (4 + cells.getD 4 0 / 24 % 3)
def partP (cs : List (Str × Rat)) (cells : List Int) : Nat := (cells.getD 4 0 / 2 % (cs.length : Int)).toNat
def moreD (cs : List (Str × Rat)) (ns : List Str) (cells : List Int) : List Dd :=
  let p := cs.getD (partP cs cells) ("", 0)
  [.part p.1 (ns.getD 4 "") (lostF cells), .bring (ns.getD 7 "") p.1 (p.2 * lostF cells)]
def partAt (cs : List (Str × Rat)) (ns : List Str) (cells : List Int) : Nat := if cells.getD 4 0 / 72 % 2 = 0 then 0 else (mainD cs ns cells).length
def workD (cs : List (Str × Rat)) (ns : List Str) (cells : List Int) : List Dd :=
  if cells.getD 4 0 % 2 = 1 then (mainD cs ns cells).take (partAt cs ns cells) ++ moreD cs ns cells ++ (mainD cs ns cells).drop (partAt cs ns cells) else mainD cs ns cells
def yearAt (cs : List (Str × Rat)) (ns : List Str) (cells : List Int) : Nat := (cells.getD 3 0 / 3 % (((workD cs ns cells).length : Int) + 1)).toNat
def roundF (cs : List (Str × Rat)) (ns : List Str) (cells : List Int) : List Dd := (workD cs ns cells).take (yearAt cs ns cells) ++ [.year] ++ (workD cs ns cells).drop (yearAt cs ns cells)
structure RoOk (cs : List (Str × Rat)) (cells : List Int) : Prop where
  lo : 2 ≤ cs.length
  hi : cs.length ≤ 4
  quart : Ok (Rat.divInt (1 + cells.getD 2 0 % 4) 4)
  amount : Ok (amountF cs cells)
  lost : Ok (lostF cells)
  part : Ok ((cs.getD (partP cs cells) ("", 0)).2 * lostF cells)
def AnyI : HV := fun _ v => ∃ i : Int, v = .int i
instance : Stay AnyI := ⟨fun _ _ _ _ h => h⟩
def sp_law_round (K : PySem.W.Frag) : Sp := fun vs H Q _ => ∃ v w u house ns cells cs, vs = [v, w, u] ∧ Ls K (PlR K) house H v ∧ Ls K NmR ns H w ∧ Ls K IntR cells H u ∧ house.length ≤ 100 ∧ ns.length = 9 ∧ cells.length = 5 ∧ house.filter Pl.isC = cs.map (fun p => Pl.cask p.1 p.2) ∧ RoOk cs cells ∧
  RetP H (Tp K [Ls K (DdR K) (roundF cs ns cells), AnyI]) Q
/-! what is left -/
def unitM (A : AL (AL Rat)) (n : Str) : AL Rat := (A.map fun p => p.1).map fun m => (m, if m = n then 1 else 0)
def leftOf (A : AL (AL Rat)) (k : Nat) (n : Str) : Rat := fsum ((ledN A (unitM A n) k).map fun p => p.2)
def leftsF (A : AL (AL Rat)) (k : Nat) : List Rat := (A.map fun p => p.1).map (leftOf A k)
structure LfOk (A : AL (AL Rat)) (k : Nat) : Prop where
  nd : (A.map fun p => p.1).Nodup
  len : A.length ≤ 100
  lek : k ≤ 100
  led : ∀ n ∈ A.map (fun p => p.1), ∀ i, i < k → LedOk A (ledN A (unitM A n) i)
  ndl : ∀ n ∈ A.map (fun p => p.1), ((ledN A (unitM A n) k).map fun p => p.1).Nodup
  ok : ∀ n ∈ A.map (fun p => p.1), ∀ i, Ok (fsum (((ledN A (unitM A n) k).map fun p => p.2).take i))
def sp_law_left (K : PySem.W.Frag) : Sp := fun vs H Q _ => ∃ v A, ∃ k : Nat, vs = [v, .int (k : Int)] ∧ TabR K A H v ∧ LfOk A k ∧ RetN H (LsM (Fr K) (leftsF A k)) Q
structure BrOk (A : AL (AL Rat)) (k : Nat) (m : Rat) : Prop where
  pos : 1 ≤ k
  lf : LfOk A k
  lf' : LfOk A (k - 1)
  mem : m ∈ leftsF A k
  lt : m < 1
  top : ∀ q ∈ leftsF A k, ¬ m < q
  one : 1 ∈ leftsF A (k - 1)
def sp_law_bound_right (K : PySem.W.Frag) : Sp := fun vs H Q _ => ∃ v w A m, ∃ k : Nat, vs = [v, w] ∧ TabR K A H v ∧ Tp K [Is (.int (k : Int)), Fr K m] H w ∧ BrOk A k m ∧ RetP H (Is (.bl true)) Q
/-! ages -/
def addAll (f g : AL Rat) (ns : List Str) : AL Rat := ns.foldl (fun f n => aput f n ((aget f n).getD 0 + (aget g n).getD 0)) f
def agesTo (A : AL (AL Rat)) (b t : AL Rat) (many : Nat) : Nat → AL Rat
  | 0 => ledN A t many
  | k + 1 => addAll (agesTo A b t many k) (ledN A b k) (t.map fun p => p.1)
structure ArOk (house : List Pl) (steps : List Stp) (t : AL Rat) (many : Nat) : Prop where
  by_ : ByOk house steps many
  led : ∀ i, i < many → LedOk (ctabM house steps) (ledN (ctabM house steps) t i)
  nd : (t.map fun p => p.1).Nodup
  len : t.length ≤ 60
  add : ∀ i, i < many → ∀ j n, (t.map fun p => p.1)[j]? = some n → ∃ x y, aget (addAll (agesTo (ctabM house steps) (btoM house steps) t many i) (ledN (ctabM house steps) (btoM house steps) i) ((t.map fun p => p.1).take j)) n = some x ∧ aget (ledN (ctabM house steps) (btoM house steps) i) n = some y ∧ Ok (x + y)
  lenr : (agesTo (ctabM house steps) (btoM house steps) t many many).length = t.length
  fin : ∀ p ∈ agesTo (ctabM house steps) (btoM house steps) t many many, aget t p.1 = some p.2
def sp_law_ages_right (K : PySem.W.Frag) : Sp := fun vs H Q _ => ∃ v w u z house steps t, ∃ many : Nat, vs = [v, w, u, z, .int (many : Int)] ∧ Ls K (PlR K) house H v ∧ Ls K (StpR K) steps H w ∧ TabR K (ctabM house steps) H u ∧ Dc (Fr K) t H z ∧ ArOk house steps t many ∧ RetP H (Is (.bl true)) Q
def olderM (mids t : AL Rat) : AL Rat := t.map fun p => (p.1, (aget mids p.1).getD 0 * p.2 + p.2)
structure MrOk (house : List Pl) (steps : List Stp) (t : AL Rat) : Prop where
  ma : MaOk house steps
  nd : (t.map fun p => p.1).Nodup
  len : t.length ≤ 100
  mid : ∀ p ∈ t, ∃ q, aget (midsM (ctabM house steps) (btoM house steps)) p.1 = some q ∧ Ok (q * p.2) ∧ Ok (q * p.2 + p.2)
  led : LedOk (ctabM house steps) (olderM (midsM (ctabM house steps) (btoM house steps)) t)
  fin : ∀ p ∈ t, ∃ q, aget (midsM (ctabM house steps) (btoM house steps)) p.1 = some q ∧ aget (ledM (ctabM house steps) (olderM (midsM (ctabM house steps) (btoM house steps)) t)) p.1 = some (q * p.2)
def sp_law_means_right (K : PySem.W.Frag) : Sp := fun vs H Q _ => ∃ v w u z house steps t, vs = [v, w, u, z] ∧ Ls K (PlR K) house H v ∧ Ls K (StpR K) steps H w ∧ TabR K (ctabM house steps) H u ∧ Dc (Fr K) t H z ∧ MrOk house steps t ∧ RetP H (Is (.bl true)) Q
/-! the law -/
def standM (house : List Pl) : AL Rat := house.foldl (fun m p => match p with | .cask n r => aput (aput m n 0) n r | .sink n => aput m n 0) []
def lawCells (ns : List Int) : List Int := (List.range 5).map fun k => cellAt ns (2 + k)
def lawNames (ns : List Int) : List Str := namesF (cellAt ns 0)
def lawHouse (ns : List Int) : List Pl := houseF (cellAt ns 1) (lawNames ns)
def lawCs (ns : List Int) : List (Str × Rat) := csF (cellAt ns 1) (lawNames ns)
def lawDeeds (ns : List Int) : List Dd := roundF (lawCs ns) (lawNames ns) (lawCells ns)
def lawYear (ns : List Int) : Int := 1000 + cellAt ns 1 / 7 % 900
def lawSs (ns : List Int) : SS := ssAll (roomsM (lawHouse ns)) ⟨standM (lawHouse ns), lawYear ns, []⟩ (lawDeeds ns)
def lawSteps (ns : List Int) : List Stp := (lawSs ns).acc
def lawMany (ns : List Int) : Nat := (cellAt ns 7 % 5).toNat
structure LawOk (ns : List Int) (k : Nat) : Prop where
  rooms : ∀ j, j < 4 → Ok (roomF (cellAt ns 1) j)
  isC : (lawHouse ns).filter Pl.isC = (lawCs ns).map (fun p => Pl.cask p.1 p.2)
  ro : RoOk (lawCs ns) (lawCells ns)
  ss : SsOk (lawHouse ns) (standM (lawHouse ns)) (lawYear ns) (lawDeeds ns)
  lr : LrOk (lawHouse ns) (lawSteps ns) k
  len : (leftBy (ctabM (lawHouse ns) (lawSteps ns)) (btoM (lawHouse ns) (lawSteps ns))).length = (roomsM (lawHouse ns)).length
  same : ∀ p ∈ leftBy (ctabM (lawHouse ns) (lawSteps ns)) (btoM (lawHouse ns) (lawSteps ns)), aget (roomsM (lawHouse ns)) p.1 = some p.2
  keys : ((ctabM (lawHouse ns) (lawSteps ns)).map fun p => p.1) = (roomsM (lawHouse ns)).map fun p => p.1
  kl : (roomsM (lawHouse ns)).length < 60
  br : BrOk (ctabM (lawHouse ns) (lawSteps ns)) k (mostM (leftN (ctabM (lawHouse ns) (lawSteps ns)) k))
  ar : ArOk (lawHouse ns) (lawSteps ns) (roomsM (lawHouse ns)) (lawMany ns)
  mr : MrOk (lawHouse ns) (lawSteps ns) (roomsM (lawHouse ns))
def sp_law (K : PySem.W.Frag) : Sp := fun vs H Q _ => ∃ v ns k, vs = [v] ∧ Ls K IntR ns H v ∧ LawOk ns k ∧ RetP H (Is (.bl true)) Q
end Tc
set_option Elab.async false
set_option linter.all false
set_option maxRecDepth 100000
namespace Tc
open PySem PySem.Spec PyProof.Rows L2 Evl
def t_law_cell_at (K : PySem.W.Frag) : TS :=
  (tSeq (tIfS (tTest (tOp rLtI (tVar 1) (tCB (rLenS K) (tCons (tVar 0) tNil)))) (tRet (tOp (rIxL K) (tVar 0) (tVar 1))) tNext)
    (tRet (tC (.int 0))))
def t_law_mixed (K : PySem.W.Frag) : TS :=
  (tRet (tOp rModI (tOp rMulI (tOp rModI (tVar 0) (tC (.int 1000003))) (tOp (rIxL K) (tLst (tCons (tC (.int 48271)) (tCons (tC (.int 69621)) (tCons (tC (.int 16807)) (tCons (tC (.int 39373)) tNil))))) (tVar 1))) (tOp (rIxL K) (tLst (tCons (tC (.int 65537)) (tCons (tC (.int 65539)) (tCons (tC (.int 65543)) (tCons (tC (.int 65551)) tNil))))) (tVar 1))))
def t_law_names (K : PySem.W.Frag) : TS :=
  (tSeq (tAsg (tC (.str "abcdefghijklmnopqrstuvwxyz")) (gName 1))
    (tSeq (tAsg (tLc (iRng1 (tCons (tOp rPlusI (tC (.int 1)) (tOp rModI (tVar 0) (tC (.int 8)))) tNil)) (gName 2) tYes (tOp rModI (tOp rPlusI (tOp rDivI (tVar 0) (tOp rPlusI (tVar 2) (tC (.int 1)))) (tOp rMulI (tVar 2) (tVar 2))) (tC (.int 26))) [2]) (gName 3))
    (tSeq (tAsg (tOp rModI (tOp rDivI (tVar 0) (tC (.int 8))) (tCB (rLenS K) (tCons (tVar 3) tNil))) (gName 4))
    (tSeq (tAsg (tLst tNil) (gName 5))
    (tSeq (tFor (iRng1 (tCons (tC (.int 9)) tNil)) (gName 2) (tDrop (tBM K "list" rAppend (tVar 5) (tCons (tM1 (rJoin K) (tC (.str "")) (tLc (iRng1 (tCons (tCB (rLenS K) (tCons (tVar 3) tNil)) tNil)) (gName 6) tYes (tOp rIxS (tVar 1) (tOp rModI (tOp rPlusI (tOp (rIxL K) (tVar 3) (tVar 6)) (tOp rMulI (tVar 2) (tCB rIntB (tCons (tOp rEq (tVar 6) (tVar 4)) tNil)))) (tC (.int 26)))) [6])) tNil))))
    (tRet (tVar 5)))))))
def t_law_house (K : PySem.W.Frag) : TS :=
  (tSeq (tAsg (tLst tNil) (gName 2))
    (tSeq (tFor (iRng1 (tCons (tOp rPlusI (tC (.int 2)) (tOp rModI (tVar 0) (tC (.int 3)))) tNil)) (gName 3) (tSeq (tAsg (tCall (sp_law_lowest K) [] E0 (tCons (tOp rPlusI (tC (.int 20)) (tOp rModI (tCall (sp_law_mixed K) [] E0 (tCons (tVar 0) (tCons (tVar 3) tNil))) (tC (.int 100)))) (tCons (tOp rPlusI (tC (.int 1)) (tOp rModI (tOp rDivI (tCall (sp_law_mixed K) [] E0 (tCons (tVar 0) (tCons (tVar 3) tNil))) (tC (.int 100))) (tC (.int 2)))) tNil))) (gName 4))
    (tDrop (tBM K "list" rAppend (tVar 2) (tCons (tTup (tCons (tC (.str "cask")) (tCons (tOp (rIxL K) (tVar 1) (tVar 3)) (tCons (tVar 4) tNil)))) tNil)))))
    (tSeq (tDrop (tBM K "list" rInsert (tVar 2) (tCons (tOp rModI (tOp rDivI (tVar 0) (tC (.int 3))) (tCB (rLenS K) (tCons (tVar 2) tNil))) (tCons (tTup (tCons (tC (.str "sink")) (tCons (tOp (rIxL K) (tVar 1) (tC (.int 4))) tNil))) tNil))))
    (tSeq (tDrop (tBM K "list" rAppend (tVar 2) (tCons (tTup (tCons (tC (.str "sink")) (tCons (tOp (rIxL K) (tVar 1) (tC (.int 5))) tNil))) tNil)))
    (tRet (tVar 2))))))
def t_law_round (K : PySem.W.Frag) : TS :=
  (tSeq (tAsg (tLc (iList K (tVar 0)) (gName 3) (tTest (tOp rEq (tOp (rIxT K) (tVar 3) (tC (.int 0))) (tC (.str "cask")))) (tVar 3) [3]) (gName 4))
    (tSeq (tAsg (tOp (rIxT K) (tOp (rIxL K) (tVar 4) (tC (.int 0))) (tC (.int 2))) (gName 5))
    (tSeq (tFor (iList K (tVar 4)) (gName 3) (tIfS (tB (tCall (sp_law_under K) [] E0 (tCons (tOp (rIxT K) (tVar 3) (tC (.int 2))) (tCons (tVar 5) tNil)))) (tAsg (tOp (rIxT K) (tVar 3) (tC (.int 2))) (gName 5)) tNext))
    (tSeq (tAsg (tCall (sp_law_times K) [] E0 (tCons (tVar 5) (tCons (tTup (tCons (tOp rPlusI (tC (.int 1)) (tOp rModI (tOp (rIxL K) (tVar 2) (tC (.int 2))) (tC (.int 4)))) (tCons (tC (.int 4)) tNil))) tNil))) (gName 6))
    (tSeq (tAsg (tLst (tCons (tTup (tCons (tC (.str "move")) (tCons (tOp (rIxT K) (tOp (rIxL K) (tVar 4) (tUn (rU fun i => .int (-i)) (tC (.int 1)))) (tC (.int 1))) (tCons (tOp (rIxL K) (tVar 1) (tOp rPlusI (tC (.int 4)) (tOp rModI (tOp rDivI (tOp (rIxL K) (tVar 2) (tC (.int 2))) (tC (.int 4))) (tC (.int 2))))) (tCons (tVar 6) tNil))))) tNil)) (gName 7))
    (tSeq (tFor (iRng3 (tCons (tOp rSubI (tCB (rLenS K) (tCons (tVar 4) tNil)) (tC (.int 1))) (tCons (tC (.int 0)) (tCons (tUn (rU fun i => .int (-i)) (tC (.int 1))) tNil)))) (gName 8) (tIfS (tTest (tOp rEq (tOp rModI (tCall (sp_law_mixed K) [] E0 (tCons (tOp (rIxL K) (tVar 2) (tC (.int 3))) (tCons (tOp rModI (tVar 8) (tC (.int 4))) tNil))) (tC (.int 2))) (tC (.int 0)))) (tDrop (tBM K "list" rAppend (tVar 7) (tCons (tTup (tCons (tC (.str "fill")) (tCons (tOp (rIxT K) (tOp (rIxL K) (tVar 4) (tOp rSubI (tVar 8) (tC (.int 1)))) (tC (.int 1))) (tCons (tOp (rIxT K) (tOp (rIxL K) (tVar 4) (tVar 8)) (tC (.int 1))) tNil)))) tNil))) (tDrop (tBM K "list" rAppend (tVar 7) (tCons (tTup (tCons (tC (.str "move")) (tCons (tOp (rIxT K) (tOp (rIxL K) (tVar 4) (tOp rSubI (tVar 8) (tC (.int 1)))) (tC (.int 1))) (tCons (tOp (rIxT K) (tOp (rIxL K) (tVar 4) (tVar 8)) (tC (.int 1))) (tCons (tVar 6) tNil))))) tNil)))))
    (tSeq (tDrop (tBM K "list" rAppend (tVar 7) (tCons (tTup (tCons (tC (.str "bring")) (tCons (tOp (rIxL K) (tVar 1) (tOp rPlusI (tC (.int 6)) (tOp rModI (tOp (rIxL K) (tVar 2) (tC (.int 3))) (tC (.int 3))))) (tCons (tOp (rIxT K) (tOp (rIxL K) (tVar 4) (tC (.int 0))) (tC (.int 1))) (tCons (tVar 6) tNil))))) tNil)))
    (tSeq (tAsg (tOp rSubI (tCB (rLenS K) (tCons (tVar 7) tNil)) (tC (.int 1))) (gName 9))
    (tSeq (tIfS (tTest (tOp rEq (tOp rModI (tOp (rIxL K) (tVar 2) (tC (.int 4))) (tC (.int 2))) (tC (.int 1)))) (tSeq (tAsg (tOp (rIxL K) (tVar 4) (tOp rModI (tOp rDivI (tOp (rIxL K) (tVar 2) (tC (.int 4))) (tC (.int 2))) (tCB (rLenS K) (tCons (tVar 4) tNil)))) (gName 3))
    (tSeq (tAsg (tCall (sp_law_lowest K) [] E0 (tCons (tOp rPlusI (tC (.int 1)) (tOp rModI (tOp rDivI (tOp (rIxL K) (tVar 2) (tC (.int 4))) (tC (.int 8))) (tC (.int 3)))) (tCons (tOp rPlusI (tC (.int 4)) (tOp rModI (tOp rDivI (tOp (rIxL K) (tVar 2) (tC (.int 4))) (tC (.int 24))) (tC (.int 3)))) tNil))) (gName 10))
    (tSeq (tAsg (tOp (rIxL K) (tLst (tCons (tC (.int 0)) (tCons (tCB (rLenS K) (tCons (tVar 7) tNil)) tNil))) (tOp rModI (tOp rDivI (tOp (rIxL K) (tVar 2) (tC (.int 4))) (tC (.int 72))) (tC (.int 2)))) (gName 11))
    (tSeq (tAsg (tLst (tCons (tTup (tCons (tC (.str "part")) (tCons (tOp (rIxT K) (tVar 3) (tC (.int 1))) (tCons (tOp (rIxL K) (tVar 1) (tC (.int 4))) (tCons (tVar 10) tNil))))) (tCons (tTup (tCons (tC (.str "bring")) (tCons (tOp (rIxL K) (tVar 1) (tC (.int 7))) (tCons (tOp (rIxT K) (tVar 3) (tC (.int 1))) (tCons (tCall (sp_law_times K) [] E0 (tCons (tOp (rIxT K) (tVar 3) (tC (.int 2))) (tCons (tVar 10) tNil))) tNil))))) tNil))) (gName 12))
    (tSeq (tAsg (tOp rCat (tOp rCat (tSl (rSlL K) (tVar 7) tNoPart (tPart (tVar 11))) (tVar 12)) (tSl (rSlL K) (tVar 7) (tPart (tVar 11)) tNoPart)) (gName 7))
    (tAsg (tOp rPlusI (tVar 9) (tOp rMulI (tC (.int 2)) (tCB rIntB (tCons (tOp rEq (tVar 11) (tC (.int 0))) tNil)))) (gName 9))))))) tNext)
    (tSeq (tAsg (tOp rModI (tOp rDivI (tOp (rIxL K) (tVar 2) (tC (.int 3))) (tC (.int 3))) (tOp rPlusI (tCB (rLenS K) (tCons (tVar 7) tNil)) (tC (.int 1)))) (gName 11))
    (tRet (tTup (tCons (tOp rCat (tOp rCat (tSl (rSlL K) (tVar 7) tNoPart (tPart (tVar 11))) (tLst (tCons (tTup (tCons (tC (.str "year")) tNil)) tNil))) (tSl (rSlL K) (tVar 7) (tPart (tVar 11)) tNoPart)) (tCons (tOp rPlusI (tVar 9) (tCB rIntB (tCons (tOp rLeI (tVar 11) (tVar 9)) tNil))) tNil))))))))))))))
def t_law_left (K : PySem.W.Frag) : TS :=
  (tSeq (tAsg (tLst tNil) (gName 2))
    (tSeq (tLockR (tFor (iKeys (tVar 0)) (gName 3) (tSeq (tAsg tDNewK (gName 4))
    (tSeq (tLockR (tFor (iKeys (tVar 0)) (gName 5) (sDPut (tVar 4) (tVar 5) (tTup (tCons (tCB rIntB (tCons (tOp rEq (tVar 5) (tVar 3)) tNil)) (tCons (tC (.int 1)) tNil))))))
    (tSeq (tFor (iRng1 (tCons (tVar 1) tNil)) (gName 6) (tAsg (tCall (sp_law_led K) [] E0 (tCons (tVar 0) (tCons (tVar 4) tNil))) (gName 4)))
    (tSeq (tAsg (tTup (tCons (tC (.int 0)) (tCons (tC (.int 1)) tNil))) (gName 7))
    (tSeq (tLockR (tFor (iKeys (tVar 4)) (gName 5) (tAsg (tCall (sp_law_plus K) [] E0 (tCons (tVar 7) (tCons (tDGet (tVar 4) (tVar 5)) tNil))) (gName 7))))
    (tDrop (tBM K "list" rAppend (tVar 2) (tCons (tVar 7) tNil))))))))))
    (tRet (tVar 2))))
def t_law_bound_right (K : PySem.W.Frag) : TS :=
  (tSeq (tAsg (tVar 1) (gTup K 2 (gCons (gName 2) (gCons (gName 3) gNil))))
    (tSeq (tAsg (tCall (sp_law_left K) [] E0 (tCons (tVar 0) (tCons (tVar 2) tNil))) (gName 4))
    (tSeq (tIfS (tOr (tTest (tOp (rNotInD K) (tVar 3) (tVar 4))) (tNot (tB (tCall (sp_law_under K) [] E0 (tCons (tVar 3) (tCons (tTup (tCons (tC (.int 1)) (tCons (tC (.int 1)) tNil))) tNil)))))) (tRet (tC (.bl false))) tNext)
    (tSeq (tIfS (tTest (tOp (rNeE K) (tLc (iList K (tVar 4)) (gName 5) (tB (tCall (sp_law_under K) [] E0 (tCons (tVar 3) (tCons (tVar 5) tNil)))) (tVar 5) [5]) (tLst tNil))) (tRet (tC (.bl false))) tNext)
    (tRet (tOp (rInD K) (tTup (tCons (tC (.int 1)) (tCons (tC (.int 1)) tNil))) (tCall (sp_law_left K) [] E0 (tCons (tVar 0) (tCons (tOp rSubI (tVar 2) (tC (.int 1))) tNil)))))))))
def t_law_ages_right (K : PySem.W.Frag) : TS :=
  (tSeq (tAsg (tCall (sp_by_age K) [] E0 (tCons (tVar 0) (tCons (tVar 1) (tCons (tVar 4) tNil)))) (gName 5))
    (tSeq (tIfS (tOr (tNot (tB (tCB (rIsi K) (tCons (tVar 5) (tCons (tC (.ty "list")) tNil))))) (tTest (tOp rNe (tCB (rLenS K) (tCons (tVar 5) tNil)) (tVar 4)))) (tRet (tC (.bl false))) tNext)
    (tSeq (tAsg (tCB rDictD (tCons (tVar 3) tNil)) (gName 6))
    (tSeq (tFor (iRng1 (tCons (tVar 4) tNil)) (gName 7) (tAsg (tCall (sp_law_led K) [] E0 (tCons (tVar 2) (tCons (tVar 6) tNil))) (gName 6)))
    (tSeq (tFor (iRng1 (tCons (tVar 4) tNil)) (gName 8) (tLockR (tFor (iKeys (tVar 3)) (gName 9) (sDPut (tVar 6) (tVar 9) (tCall (sp_law_plus K) [] E0 (tCons (tDGet (tVar 6) (tVar 9)) (tCons (tDGet (tOp (rIxL K) (tVar 5) (tVar 8)) (tVar 9)) tNil)))))))
    (tRet (tOp (rEqDF K) (tVar 6) (tVar 3))))))))
def t_law_means_right (K : PySem.W.Frag) : TS :=
  (tSeq (tAsg (tCall (sp_mean_ages K) [] E0 (tCons (tVar 0) (tCons (tVar 1) tNil))) (gName 4))
    (tSeq (tAsg tDNewK (gName 5))
    (tSeq (tLockR (tFor (iKeys (tVar 3)) (gName 6) (sDPut (tVar 5) (tVar 6) (tCall (sp_law_plus K) [] E0 (tCons (tCall (sp_law_times K) [] E0 (tCons (tDGet (tVar 4) (tVar 6)) (tCons (tDGet (tVar 3) (tVar 6)) tNil))) (tCons (tDGet (tVar 3) (tVar 6)) tNil))))))
    (tSeq (tAsg (tCall (sp_law_led K) [] E0 (tCons (tVar 2) (tCons (tVar 5) tNil))) (gName 7))
    (tSeq (tLockR (tFor (iKeys (tVar 3)) (gName 6) (tIfS (tTest (tOp (rNeD K) (tDGet (tVar 7) (tVar 6)) (tCall (sp_law_times K) [] E0 (tCons (tDGet (tVar 4) (tVar 6)) (tCons (tDGet (tVar 3) (tVar 6)) tNil))))) (tRet (tC (.bl false))) tNext)))
    (tRet (tC (.bl true))))))))
def t_law (K : PySem.W.Frag) : TS :=
  (tSeq (tAsg (tCall (sp_law_names K) [] E0 (tCons (tCall (sp_law_cell_at K) [] E0 (tCons (tVar 0) (tCons (tC (.int 0)) tNil))) tNil)) (gName 1))
    (tSeq (tAsg (tLc (iRng1 (tCons (tC (.int 5)) tNil)) (gName 14) tYes (tCall (sp_law_cell_at K) [] E0 (tCons (tVar 0) (tCons (tOp rPlusI (tC (.int 2)) (tVar 14)) tNil))) [14]) (gName 2))
    (tSeq (tAsg (tCall (sp_law_house K) [] E0 (tCons (tCall (sp_law_cell_at K) [] E0 (tCons (tVar 0) (tCons (tC (.int 1)) tNil))) (tCons (tVar 1) tNil))) (gName 3))
    (tSeq (tAsg (tOp rPlusI (tC (.int 1000)) (tOp rModI (tOp rDivI (tCall (sp_law_cell_at K) [] E0 (tCons (tVar 0) (tCons (tC (.int 1)) tNil))) (tC (.int 7))) (tC (.int 900)))) (gName 4))
    (tSeq (tAsg (tCall (sp_law_round K) [] E0 (tCons (tVar 3) (tCons (tVar 1) (tCons (tVar 2) tNil)))) (gTup K 2 (gCons (gName 5) (gCons (gName 6) gNil))))
    (tSeq (tAsg tDNewK (gName 7))
    (tSeq (tAsg tDNewK (gName 8))
    (tSeq (tFor (iList K (tVar 3)) (gName 9) (tSeq (sDPut (tVar 7) (tOp (rIxT K) (tVar 9) (tC (.int 1))) (tTup (tCons (tC (.int 0)) (tCons (tC (.int 1)) tNil))))
    (tIfS (tTest (tOp rEq (tOp (rIxT K) (tVar 9) (tC (.int 0))) (tC (.str "cask")))) (tSeq (sDPut (tVar 7) (tOp (rIxT K) (tVar 9) (tC (.int 1))) (tOp (rIxT K) (tVar 9) (tC (.int 2))))
    (sDPut (tVar 8) (tOp (rIxT K) (tVar 9) (tC (.int 1))) (tOp (rIxT K) (tVar 9) (tC (.int 2))))) tNext)))
    (tSeq (tAsg (tCall (sp_steps_of K) [] E0 (tCons (tVar 3) (tCons (tCB rDictD (tCons (tVar 7) tNil)) (tCons (tVar 4) (tCons (tVar 5) tNil))))) (gTup K 2 (gCons (gName 10) (gCons (gName 11) gNil))))
    (tSeq (tAsg (tCall (sp_long_run K) [] E0 (tCons (tVar 3) (tCons (tCB (rListS K) (tCons (tVar 10) tNil)) tNil))) (gName 12))
    (tSeq (tIfS (tOr (tNot (tB (tCB (rIsi K) (tCons (tVar 12) (tCons (tC (.ty "tuple")) tNil))))) (tOr (tTest (tOp rNe (tCB (rLenS K) (tCons (tVar 12) tNil)) (tC (.int 3)))) (tTest (tOp (rNeV K) (tSl (rSlT K) (tVar 12) tNoPart (tPart (tC (.int 2)))) (tTup (tCons (tC (.str "lasting")) (tCons (tVar 8) tNil))))))) (tRet (tC (.bl false))) tNext)
    (tSeq (tAsg (tCall (sp_casks_table K) [] E0 (tCons (tVar 3) (tCons (tVar 10) tNil))) (gName 13))
    (tSeq (tIfS (tOr (tTest (tOp (rNeS K) (tCB rSortedD (tCons (tVar 13) tNil)) (tCB rSortedD (tCons (tVar 8) tNil)))) (tNot (tB (tCall (sp_law_bound_right K) [] E0 (tCons (tVar 13) (tCons (tOp (rIxT K) (tVar 12) (tC (.int 2))) tNil)))))) (tRet (tC (.bl false))) tNext)
    (tSeq (tIfS (tNot (tB (tCall (sp_law_ages_right K) [] E0 (tCons (tVar 3) (tCons (tVar 10) (tCons (tVar 13) (tCons (tVar 8) (tCons (tOp rModI (tCall (sp_law_cell_at K) [] E0 (tCons (tVar 0) (tCons (tC (.int 7)) tNil))) (tC (.int 5))) tNil)))))))) (tRet (tC (.bl false))) tNext)
    (tRet (tCall (sp_law_means_right K) [] E0 (tCons (tVar 3) (tCons (tVar 10) (tCons (tVar 13) (tCons (tVar 8) tNil))))))))))))))))))))
end Tc
set_option Elab.async false
set_option linter.all false
set_option maxRecDepth 100000
set_option maxHeartbeats 4000000
set_option exponentiation.threshold 10000
namespace Tc
open PySem PySem.Spec PyProof.Rows L2 Evl
theorem nat_lt_pow {n a : Nat} (h : n < 2 ^ a) : n < 2 ^ a := h
theorem mulS {i j : Int} (ha : i.natAbs < 10000000) (hb : j.natAbs < 10000000) : CMulW i j := mulW (Nat.lt_of_lt_of_le ha (by decide +kernel)) (Nat.lt_of_lt_of_le hb (by decide +kernel))
theorem divS {i j : Int} (h : 0 < j) (hb : j < 10000000) : CDivW i j := ⟨h, by
  have : j.natAbs < 2 ^ 24 := by omega
  have h2 : j.natAbs.log2 < 24 := (Nat.log2_lt (by omega)).mpr this
  omega⟩
section
variable {K : PySem.W.Frag} {σ : L2.St} {H : Hp} {ta tb te : TE}
theorem ep_intB {b : Bool} (h : EvP ta σ H (Is (.bl b))) : EvP (tCB rIntB (tCons ta tNil)) σ H (Is (.int (if b = true then 1 else 0))) := fun H1 e Q k => h H1 e _ fun v H2 e2 rv => by
  cases (show v = _ from rv)
  exact ⟨b, rfl, k _ H2 e2 (by cases b <;> rfl)⟩
theorem ep_is {x y : V} (h : EvP te σ H (Is x)) (e : x = y) : EvP te σ H (Is y) := e ▸ h
theorem ep_ii {i j : Int} (h : EvP te σ H (Is (.int i))) (e : i = j) : EvP te σ H (Is (.int j)) := e ▸ h
theorem ep_ints {xs : List Int} {k : Nat} {i : Int} {ta : TA} {Rs : List HV} (h : EvAs ta σ H Rs) (hr : Rs = xs.map fun i => Is (.int i)) (hl : xs.length ≤ 100000) (hk : EvP tb σ H (Is (.int (k : Int)))) (hi : xs[k]? = some i) [StayAll Rs] : EvP (tOp (rIxL K) (tLst ta) tb) σ H (Is (.int i)) := by
  refine ep_ixL (S := IntR) (xs := xs) (EvN.ls ((en_lst h (by rw [hr, List.length_map]; exact hl)).weak fun H' p _ r => ?_)) hk hi
  obtain ⟨vs, e, a⟩ := r
  subst hr
  refine ⟨vs, e, ?_⟩
  clear h hl hi hk e
  induction xs generalizing vs with
  | nil => cases a; exact .nil
  | cons x xs ih => cases a with
    | cons h t => exact .cons h (ih _ t)
theorem len_law_cell_at (K : PySem.W.Frag) : ∀ vs H Q E, sp_law_cell_at K vs H Q E → vs.length = 2 := by
  rintro vs H Q E ⟨v, A, k, rfl, _⟩; rfl
theorem rd_law_cell_at (C : Cst K) (vs : List V) (H : Hp) (Q : VK) (E : XK) (h : sp_law_cell_at K vs H Q E) : t_law_cell_at K (BE Q) (start ["_law_script", "_law_k"] vs) H := by
  obtain ⟨v, ns, k, rfl, hn, kq⟩ := h
  refine q_when (et_t (ep_ltI (ep_var (i := 1) rfl is_rfl) (ep_len (K := K) (S := IntR) (ep_var (i := 0) rfl hn)))) (fun hb H1 e1 => ?_) fun hb H1 e1 => ?_
  · have hlt : k < ns.length := by have := of_decide_eq_true hb; omega
    refine p_ret (R := Is (.int (cellAt ns k))) (ep_ixL (S := IntR) (xs := ns) (ep_var (i := 0) rfl (ls_Rx (rx_ex e1) hn)) (ep_var (i := 1) rfl is_rfl) ?_) fun u H2 e2 hu => kq u H2 (e1.trans e2) hu
    unfold cellAt
    rw [List.getD_eq_getElem?_getD, List.getElem?_eq_getElem hlt]; rfl
  · have hge : ¬ k < ns.length := by have := of_decide_eq_false hb; omega
    refine p_ret (R := Is (.int (cellAt ns k))) (ep_ii ep_i ?_) fun u H2 e2 hu => kq u H2 (e1.trans e2) hu
    unfold cellAt
    rw [List.getD_eq_getElem?_getD, List.getElem?_eq_none (by omega)]; rfl
theorem mixA_get {k : Nat} (h : k < 4) : mixA[k]? = some (mixA.getD k 0) ∧ 0 ≤ mixA.getD k 0 ∧ mixA.getD k 0 < 100000 := by
  match k, h with
  | 0, _ => exact ⟨rfl, by decide, by decide⟩
  | 1, _ => exact ⟨rfl, by decide, by decide⟩
  | 2, _ => exact ⟨rfl, by decide, by decide⟩
  | 3, _ => exact ⟨rfl, by decide, by decide⟩
theorem mixB_get {k : Nat} (h : k < 4) : mixB[k]? = some (mixB.getD k 1) ∧ 0 < mixB.getD k 1 ∧ mixB.getD k 1 < 100000 := by
  match k, h with
  | 0, _ => exact ⟨rfl, by decide, by decide⟩
  | 1, _ => exact ⟨rfl, by decide, by decide⟩
  | 2, _ => exact ⟨rfl, by decide, by decide⟩
  | 3, _ => exact ⟨rfl, by decide, by decide⟩
theorem len_law_mixed (K : PySem.W.Frag) : ∀ vs H Q E, sp_law_mixed K vs H Q E → vs.length = 2 := by
  rintro vs H Q E ⟨v, k, rfl, _⟩; rfl
theorem rd_law_mixed (C : Cst K) (vs : List V) (H : Hp) (Q : VK) (E : XK) (h : sp_law_mixed K vs H Q E) : t_law_mixed K (BE Q) (start ["_law_cell", "_law_k"] vs) H := by
  obtain ⟨c, k, rfl, hk, kq⟩ := h
  obtain ⟨a1, a2, a3⟩ := mixA_get hk
  obtain ⟨b1, b2, b3⟩ := mixB_get hk
  have m0 := Int.emod_nonneg c (show (1000003 : Int) ≠ 0 by decide)
  have m1 := Int.emod_lt_of_pos c (show (0 : Int) < 1000003 by decide)
  refine p_ret (R := Is (.int (mixedF c k))) (ep_modI (ep_mulI (ep_modI (ep_var (i := 0) rfl is_rfl) ep_i (by decide)) (ep_ints (xs := mixA) (eas_cons ep_i (eas_cons ep_i (eas_cons ep_i (eas_cons ep_i eas_nil)))) rfl (by decide) (ep_var (i := 1) rfl is_rfl) a1) (mulS (by omega) (by omega))) (ep_ints (xs := mixB) (eas_cons ep_i (eas_cons ep_i (eas_cons ep_i (eas_cons ep_i eas_nil)))) rfl (by decide) (ep_var (i := 1) rfl is_rfl) b1) b2) fun u H2 e2 hu => kq u H2 e2 hu
theorem mixed_nn {c : Int} {k : Nat} (h : k < 4) : 0 ≤ mixedF c k := Int.emod_nonneg _ (by have := (mixB_get h).2.1; omega)
theorem ep_mixed {c : Int} {k : Nat} {E : XK} (ha : EvP ta σ H (Is (.int c))) (hb : EvP tb σ H (Is (.int (k : Int)))) (hk : k < 4) : EvP (tCall (sp_law_mixed K) [] E (tCons ta (tCons tb tNil))) σ H (Is (.int (mixedF c k))) := ep_call (eas_cons ha (eas_cons hb eas_nil)) fun H1 us e r Q' k' => by
  obtain ⟨a, b, rfl, ra, rb⟩ := r.two
  cases (show a = _ from ra)
  cases (show b = _ from rb)
  exact ⟨c, k, rfl, hk, k'⟩
theorem ep_cellAt {ns : List Int} {k : Nat} {E : XK} (ha : EvP ta σ H (Ls K IntR ns)) (hb : EvP tb σ H (Is (.int (k : Int)))) : EvP (tCall (sp_law_cell_at K) [] E (tCons ta (tCons tb tNil))) σ H (Is (.int (cellAt ns k))) := ep_call (eas_cons ha (eas_cons hb eas_nil)) fun H1 us e r Q' k' => by
  obtain ⟨a, b, rfl, ra, rb⟩ := r.two
  cases (show b = _ from rb)
  exact ⟨a, ns, k, rfl, ra, k'⟩
theorem letters_eq : lettersS.cps.toList = letters := by decide +kernel
theorem ep_letter {i : Nat} (ha : EvP ta σ H (Is (.str lettersS))) (hb : EvP tb σ H (Is (.int (i : Int)))) (hi : i < 26) : EvP (tOp rIxS ta tb) σ H (Is (.str ⟨#[letters.getD i 0]⟩)) := ep_op ha hb fun H1 x y e rx ry Q k => by
  cases (show x = _ from rx)
  cases (show y = _ from ry)
  refine ⟨lettersS, (i : Int), letters.getD i 0, rfl, rfl, by decide +kernel, ?_, k _ H1 (Ex.refl _) rfl⟩
  rw [letters_eq]
  refine atI_nat ?_
  have hl : i < letters.length := hi
  rw [List.getD_eq_getElem?_getD, List.getElem?_eq_getElem hl]; rfl
theorem join1 : ∀ l : List Nat, Str.join ("" : Str) (l.map fun c => (⟨#[c]⟩ : Str)) = ⟨l.toArray⟩
  | [] => rfl
  | [a] => rfl
  | a :: b :: r => by
    have ih := join1 (b :: r)
    show (⟨#[a]⟩ : Str) ++ ("" : Str) ++ Str.join ("" : Str) ((b :: r).map fun c => (⟨#[c]⟩ : Str)) = _
    rw [ih]
    show (⟨(#[a] ++ ("" : Str).cps) ++ (b :: r).toArray⟩ : Str) = _
    have e : ("" : Str).cps = #[] := by decide +kernel
    rw [e]
    simp
theorem ep_join {l : List Nat} (h : EvN te σ H (LsM NmR (l.map fun c => (⟨#[c]⟩ : Str)))) (hl : l.length ≤ 1000) : EvP (tM1 (rJoin K) (tC (.str "")) te) σ H (Is (.str ⟨l.toArray⟩)) := fun H1 e Q k => by
  refine ⟨⟨_, rfl⟩, h H1 e _ fun p H2 np e2 hp => ?_⟩
  obtain ⟨vs, hv, pv⟩ := hp
  have ev : vs = (l.map fun c => (⟨#[c]⟩ : Str)).map V.str := by
    clear hl hv h
    generalize (l.map fun c => (⟨#[c]⟩ : Str)) = ys at pv
    induction ys generalizing vs with
    | nil => cases pv; rfl
    | cons a r ih => cases pv with
      | cons h t => rw [List.map_cons, ← ih _ t, show _ = V.str a from h]
  refine ⟨_, p, l.map fun c => (⟨#[c]⟩ : Str), rfl, rfl, .inl (SqL.of (by rw [← ev]; exact hv)), ?_, ?_⟩
  · have e0 : ("" : Str).length = 0 := by decide +kernel
    rw [e0, Nat.mul_zero, Nat.add_zero]
    have : ((l.map fun c => (⟨#[c]⟩ : Str)).map (·.length)).sum = l.length := by
      clear hl hv h pv ev k
      induction l with
      | nil => rfl
      | cons a r ih =>
        rw [List.map_cons, List.map_cons, List.sum_cons, ih, List.length_cons]
        show 1 + r.length = _
        omega
    rw [this]
    omega
  · rw [TL.join_eq, join1]
    exact k _ H2 e2 rfl
theorem len_law_names (K : PySem.W.Frag) : ∀ vs H Q E, sp_law_names K vs H Q E → vs.length = 1 := by
  rintro vs H Q E ⟨v, rfl, _⟩; rfl
theorem rd_law_names (C : Cst K) (vs : List V) (H : Hp) (Q : VK) (E : XK) (h : sp_law_names K vs H Q E) : t_law_names K (BE Q) (start ["_law_cell", "_law_letters", "_law_k", "_law_base", "_law_at", "_law_names_here", "_law_j"] vs) H := by
  obtain ⟨c, rfl, kq⟩ := h
  have c8 := Int.emod_nonneg c (show (8 : Int) ≠ 0 by decide)
  have c8' := Int.emod_lt_of_pos c (show (0 : Int) < 8 by decide)
  have hbl : ((baseLen c : Nat) : Int) = 1 + c % 8 := by unfold baseLen; omega
  have hbl8 : baseLen c ≤ 8 := by omega
  have hbl1 : 1 ≤ baseLen c := by omega
  have lenB : (baseF c).length = baseLen c := by unfold baseF; rw [List.length_map, List.length_range]
  refine qp_asg (R := Is (.str lettersS)) (ep_c rfl) fun u H1 e1 hu => ?_
  cases (show u = _ from hu)
  refine qp_asgN (S := LsM IntR (baseF c)) ?_ fun p H2 np e2 hp => ?_
  · have h := en_lc (U := IntR) (σ := [some (.int c), some (.str lettersS), none, none, none, none, none]) (H := H1) (te := tOp rModI (tOp rPlusI (tOp rDivI (tVar 0) (tOp rPlusI (tVar 2) (tC (.int 1)))) (tOp rMulI (tVar 2) (tVar 2))) (tC (.int 26))) (g := gName 2) (tt := tYes) (vs := [2]) (p := fun _ => true) (f := fun k : Nat => (c / ((k : Int) + 1) + (k : Int) * (k : Int)) % 26)
      (ei_range (n := baseLen c) (eas_cons (ep_ii (ep_addI ep_i (ep_modI (ep_var (i := 0) rfl is_rfl) ep_i (by decide))) hbl.symm) eas_nil) (by omega)) (by rw [List.length_range]; omega) fun k x H3 e3 hk hx => ⟨_, fun Q q => q, rfl, tYesT, fun _ => ?_⟩
    · rw [filt_true] at h
      exact h
    · cases (show x = _ from hx)
      have hk' : k < baseLen c := List.mem_range.mp hk
      exact ep_modI (ep_addI (ep_divI (ep_var (i := 0) rfl is_rfl) (ep_addI (ep_var (i := 2) rfl is_rfl) ep_i) (divS (by omega) (by omega))) (ep_mulI (ep_var (i := 2) rfl is_rfl) (ep_var (i := 2) rfl is_rfl) (mulS (by omega) (by omega)))) ep_i (by decide)
  have hpL : Ls K IntR (baseF c) H2 (.ref p) := hp.ls
  refine qp_asg (R := Is (.int (atF c))) (ep_modI (ep_divI (ep_var (i := 0) rfl is_rfl) ep_i (divS (by decide) (by decide))) (ep_ii (ep_len (K := K) (S := IntR) (ep_var (i := 3) rfl hpL)) (by rw [lenB])) (by omega)) fun u H3 e3 hu => ?_
  cases (show u = _ from hu)
  refine qp_asgN (en_nil (S := NmR)) fun l H4 nl e4 hl => ?_
  have hpL3 : Ls K IntR (baseF c) H3 (.ref p) := ls_Rx (rx_ex e3) hpL
  refine q_forR1 (D := BE Q) (n := 9) (ea_one ep_i) (by omega)
    (fun k σ' H' => ∃ x2, σ' = [some (.int c), some (.str lettersS), x2, some (.ref p), some (.int (atF c)), some (.ref l), none] ∧ Ex H3 H' ∧ LsM NmR ((List.range k).map (nameF c)) H' l)
    (fun H5 e5 => ⟨_, rfl, e4.trans e5, hl.ex e5⟩) ?_ ?_
  · rintro k σ' H5 hk ⟨x2, rfl, e5, hl5⟩
    have hk9 : k < 9 := by omega
    have hpL5 : Ls K IntR (baseF c) H5 (.ref p) := ls_Rx (rx_ex e5) hpL3
    refine p_appM (x := nameF c k) hl5 (by rw [List.length_map, List.length_range]; omega) (ep_var (i := 5) rfl is_rfl) (ep_join ?_ (by rw [List.length_map, List.length_range]; omega)) fun H6 x6 h6 => ⟨_, rfl, ExB.ex e5 nl x6, ?_⟩
    · have h := en_lc (U := NmR) (σ := [some (.int c), some (.str lettersS), some (.int (k : Int)), some (.ref p), some (.int (atF c)), some (.ref l), none]) (H := H5) (te := tOp rIxS (tVar 1) (tOp rModI (tOp rPlusI (tOp (rIxL K) (tVar 3) (tVar 6)) (tOp rMulI (tVar 2) (tCB rIntB (tCons (tOp rEq (tVar 6) (tVar 4)) tNil)))) (tC (.int 26)))) (g := gName 6) (tt := tYes) (vs := [6]) (p := fun _ => true) (f := fun j : Nat => (⟨#[letters.getD ((((baseF c).getD j 0) + (k : Int) * (if decide ((j : Int) = atF c) = true then 1 else 0)) % 26).toNat 0]⟩ : Str))
        (ei_range (n := baseLen c) (eas_cons (ep_ii (ep_len (K := K) (S := IntR) (ep_var (i := 3) rfl hpL5)) (by rw [lenB])) eas_nil) (by omega)) (by rw [List.length_range]; omega) fun j x H7 e7 hj hx => ⟨_, fun Q q => q, rfl, tYesT, fun _ => ?_⟩
      · rw [filt_true] at h
        rw [List.map_map]
        exact h
      · cases (show x = _ from hx)
        have hj' : j < baseLen c := List.mem_range.mp hj
        have hbj : (baseF c)[j]? = some ((baseF c).getD j 0) := by rw [List.getD_eq_getElem?_getD, List.getElem?_eq_getElem (by omega)]; rfl
        have hpL7 : Ls K IntR (baseF c) H7 (.ref p) := ls_Rx (rx_ex e7) hpL5
        generalize (baseF c).getD j 0 = bj at hbj ⊢
        have m0 := Int.emod_nonneg (bj + (k : Int) * (if decide ((j : Int) = atF c) = true then 1 else 0)) (show (26 : Int) ≠ 0 by decide)
        have m1 := Int.emod_lt_of_pos (bj + (k : Int) * (if decide ((j : Int) = atF c) = true then 1 else 0)) (show (0 : Int) < 26 by decide)
        refine ep_letter (ep_var (i := 1) rfl is_rfl) (ep_ii (ep_modI (ep_addI (ep_ixL (S := IntR) (xs := baseF c) (ep_var (i := 3) rfl hpL7) (ep_var (i := 6) rfl is_rfl) hbj) (ep_mulI (ep_var (i := 2) rfl is_rfl) (ep_intB (ep_eqI (ep_var (i := 6) rfl is_rfl) (ep_var (i := 4) rfl is_rfl))) (mulS (by omega) (by split <;> decide)))) ep_i (by decide)) (by omega)) (by omega)
    · rw [List.range_succ, List.map_append]
      exact h6
  · rintro σ' H5 ⟨x2, rfl, e5, hl5⟩
    refine p_ret (R := Ls K NmR (namesF c)) (ep_var (i := 5) rfl hl5.ls) fun u H6 e6 hu => kq u H6 ((e1.trans e2).trans (e3.trans (e5.trans e6))) hu
end
end Tc
set_option Elab.async false
set_option linter.all false
set_option maxRecDepth 100000
set_option maxHeartbeats 4000000
set_option exponentiation.threshold 10000
namespace Tc
open PySem PySem.Spec PyProof.Rows L2 Evl
/-- a tracked list of things, as a value -/
def LsV {α : Type} (S : α → HV) (xs : List α) : HV := fun H v => ∃ p, v = .ref p ∧ LsM S xs H p
instance {α : Type} {S : α → HV} [∀ x, StayX (S x)] {xs : List α} : StayX (LsV S xs) := ⟨fun H H' v e ⟨p, e1, h⟩ => ⟨p, e1, h.ex e⟩⟩
theorem get_getD {α : Type} {xs : List α} {i : Nat} {d : α} (h : i < xs.length) : xs[i]? = some (xs.getD i d) := by
  rw [List.getD_eq_getElem?_getD, List.getElem?_eq_getElem h]; rfl
theorem paired_take {α β : Type} {R : α → β → Prop} : ∀ {a : List α} {b : List β} (n : Nat), Paired R a b → Paired R (a.take n) (b.take n)
  | _, _, 0, _ => by rw [List.take_zero, List.take_zero]; exact .nil
  | _, _, n + 1, .nil => by rw [List.take_nil, List.take_nil]; exact .nil
  | _, _, n + 1, .cons h t => by rw [List.take_succ_cons, List.take_succ_cons]; exact .cons h (paired_take n t)
theorem paired_drop {α β : Type} {R : α → β → Prop} : ∀ {a : List α} {b : List β} (n : Nat), Paired R a b → Paired R (a.drop n) (b.drop n)
  | _, _, 0, h => h
  | _, _, n + 1, .nil => by rw [List.drop_nil, List.drop_nil]; exact .nil
  | _, _, n + 1, .cons h t => by rw [List.drop_succ_cons, List.drop_succ_cons]; exact paired_drop n t
theorem paired_map {α β γ : Type} {R : α → β → Prop} {f : γ → β} : ∀ {a : List α} {b : List γ}, Paired R a (b.map f) → Paired (fun x y => R x (f y)) a b
  | [], [], _ => .nil
  | _ :: _, _ :: _, .cons h t => .cons h (paired_map t)
  | [], _ :: _, h => nomatch h
  | _ :: _, [], h => nomatch h
section
variable {K : PySem.W.Frag} {σ : L2.St} {H H' : Hp} {ta tb te to ti : TE} {α : Type} {S : α → HV} {D : Ends} {tz : TS}
theorem EvN.v {xs : List α} (h : EvN te σ H (LsM S xs)) : EvP te σ H (LsV S xs) := h.p
theorem en_catV {xs ys : List α} [∀ x, Stay (S x)] (ha : EvP ta σ H (LsV S xs)) (hb : EvP tb σ H (LsV S ys)) (hl : xs.length + ys.length ≤ 100000) : EvN (tOp rCat ta tb) σ H (LsM S (xs ++ ys)) := fun H1 e Q k => ha H1 e _ fun v H2 e2 hp => hb H2 (e.trans e2) _ fun w H3 e3 hq => by
  obtain ⟨p, rfl, vs, hv, pv⟩ := hp
  obtain ⟨q, rfl, ws, hw, pw⟩ := hq
  have l1 : vs.length = xs.length := Paired.length pv
  have l2 : ws.length = ys.length := Paired.length pw
  refine ⟨p, q, vs, ws, rfl, rfl, e3 p _ hv, hw, sz_of (by omega), fun r hr => k r _ (fresh_back (e2.trans e3) hr) ((e2.trans e3).trans (Ex.new hr)) ⟨vs ++ ws, upd_same, ?_⟩⟩
  have a1 : Paired (fun w x => S x (upd H3 r (.lst (vs ++ ws))) w) vs xs := L2.Paired.mapP pv fun w y hw => (inferInstance : StayX (S y)).ex _ _ _ (e3.trans (Ex.new hr)) hw
  have a2 : Paired (fun w x => S x (upd H3 r (.lst (vs ++ ws))) w) ws ys := L2.Paired.mapP pw fun w y hw => (inferInstance : StayX (S y)).ex _ _ _ (Ex.new hr) hw
  exact paired_app a1 a2
theorem en_slTo {xs : List α} {j : Nat} [∀ x, Stay (S x)] (ha : EvP te σ H (Ls K S xs)) (hb : EvP tb σ H (Is (.int (j : Int)))) : EvN (tSl (rSlL K) te tNoPart (tPart tb)) σ H (LsM S (xs.take j)) := fun H1 e Q k => ha H1 e _ fun v H2 e2 rv => hb H2 (e.trans e2) _ fun w H3 e3 rw_ => by
  cases (show w = _ from rw_)
  refine ⟨(j : Int), rfl, ?_⟩
  obtain ⟨a, vs, rfl, s, pv⟩ := rv
  have hl : vs.length = xs.length := Paired.length pv
  refine ⟨a, vs, rfl, ex_l e3 s, fun p hp => k p _ (fresh_back (e2.trans e3) hp) ((e2.trans e3).trans (Ex.new hp)) ⟨_, upd_same, ?_⟩⟩
  have e : cutV vs none (some (j : Int)) = vs.take j := by
    unfold cutV
    rw [HT.sIx_none, HT.sIx_nat, List.drop_zero, Nat.sub_zero]
    rcases Nat.le_total j vs.length with h | h
    · rw [Nat.min_eq_left h]
    · rw [Nat.min_eq_right h, List.take_length, List.take_of_length_le h]
  rw [e]
  exact L2.Paired.mapP (paired_take j pv) fun w y hw => (inferInstance : StayX (S y)).ex _ _ _ (e3.trans (Ex.new hp)) hw
theorem en_slFrom {xs : List α} {j : Nat} [∀ x, Stay (S x)] (ha : EvP te σ H (Ls K S xs)) (hb : EvP tb σ H (Is (.int (j : Int)))) : EvN (tSl (rSlL K) te (tPart tb) tNoPart) σ H (LsM S (xs.drop j)) := fun H1 e Q k => ha H1 e _ fun v H2 e2 rv => hb H2 (e.trans e2) _ fun w H3 e3 rw_ => by
  cases (show w = _ from rw_)
  refine ⟨(j : Int), rfl, ?_⟩
  obtain ⟨a, vs, rfl, s, pv⟩ := rv
  have hl : vs.length = xs.length := Paired.length pv
  refine ⟨a, vs, rfl, ex_l e3 s, fun p hp => k p _ (fresh_back (e2.trans e3) hp) ((e2.trans e3).trans (Ex.new hp)) ⟨_, upd_same, ?_⟩⟩
  have e : cutV vs (some (j : Int)) none = vs.drop j := by
    unfold cutV
    rw [HT.sIx_none, HT.sIx_nat]
    rcases Nat.le_total j vs.length with h | h
    · rw [Nat.min_eq_left h, List.take_of_length_le (by rw [List.length_drop]; exact Nat.le_refl _)]
    · rw [Nat.min_eq_right h, Nat.sub_self, List.take_zero, List.drop_of_length_le h]
  rw [e]
  exact L2.Paired.mapP (paired_drop j pv) fun w y hw => (inferInstance : StayX (S y)).ex _ _ _ (e3.trans (Ex.new hp)) hw
theorem ep_ixLneg {xs : List α} {x : α} (ha : EvP ta σ H (Ls K S xs)) [∀ x, StayR (S x)] (hb : EvP tb σ H (Is (.int (-1)))) (hj : xs[xs.length - 1]? = some x) : EvP (tOp (rIxL K) ta tb) σ H (S x) :=
  ep_op ha hb fun H1 a b e ra rb Q k => by
    cases (show b = _ from rb)
    obtain ⟨p, vs, e1, s, rs⟩ := ra
    obtain ⟨w, e2, rw'⟩ := Paired.get1 rs hj
    have hl : vs.length = xs.length := Paired.length rs
    have hlt := (List.getElem?_eq_some_iff.mp hj).1
    have e3 : atI vs (-1) = some w := by
      unfold atI ixN
      rw [if_neg (by decide), if_pos (by omega)]
      show vs[_]? = some w
      rw [show (-1 + (vs.length : Int)).toNat = xs.length - 1 by omega]
      exact e2
    exact ⟨p, vs, -1, w, e1, rfl, s, e3, k w H1 (Ex.refl _) rw'⟩
theorem p_insM {l : Addr} {xs : List α} {x : α} {i : Nat} (hm : LsM S xs H l) [∀ x, Stay (S x)] (hl : xs.length < 10000) (hi : i < 10000) (ha : EvP to σ H (Is (.ref l))) (hti : EvP ti σ H (Is (.int (i : Int)))) (h : EvP te σ H (S x)) (k : ∀ H1, ExB l H H1 → LsM S (xs.take i ++ [x] ++ xs.drop i) H1 l → D.nx σ H1) :
    tDrop (tBM K "list" rInsert to (tCons ti (tCons te tNil))) D σ H := ha H (Ex.refl H) _ fun a H1 e1 ra => by
  cases (show a = _ from ra)
  obtain ⟨vs, hv, pv⟩ := hm
  have hz : vs.length = xs.length := Paired.length pv
  refine ⟨Or.inl ⟨rfl, vs, sq_of (e1 l _ hv)⟩, hti H1 e1 _ fun w H2 e2 rw_ => h H2 (e1.trans e2) _ fun v H3 e3 rv => ?_⟩
  cases (show w = _ from rw_)
  have h3 := (e1.trans (e2.trans e3)) l _ hv
  refine ⟨l, vs, (i : Int), v, rfl, rfl, h3, sz_lt (by omega), by omega, by omega, ?_⟩
  have x3 : ExB l H3 (upd H3 l (.lst (vs.take (i : Int).toNat ++ [v] ++ vs.drop (i : Int).toNat))) := ExB.upd
  have nt3 : NT (H3 l) := by rw [h3]; trivial
  refine k _ ((ExB.ofEx (e1.trans (e2.trans e3))).trans x3) ⟨_, upd_same, ?_⟩
  rw [Int.toNat_natCast]
  rw [Int.toNat_natCast] at x3
  have kp : Kp H (upd H3 l (.lst (vs.take i ++ [v] ++ vs.drop i))) := (kp_ex (e1.trans (e2.trans e3))).trans (x3.kp nt3)
  have pv' := L2.Paired.mapP pv fun w y hw => (inferInstance : Stay (S y)).kp _ _ _ kp hw
  exact paired_app (Paired.snoc (paired_take i pv') ((inferInstance : Stay (S x)).kp _ _ _ (x3.kp nt3) rv)) (paired_drop i pv')
theorem qp_insM {l : Addr} {xs : List α} {x : α} {i : Nat} (hm : LsM S xs H l) [∀ x, Stay (S x)] (hl : xs.length < 10000) (hi : i < 10000) (ha : EvP to σ H (Is (.ref l))) (hti : EvP ti σ H (Is (.int (i : Int)))) (h : EvP te σ H (S x)) (k : ∀ H1, ExB l H H1 → LsM S (xs.take i ++ [x] ++ xs.drop i) H1 l → tz D σ H1) :
    tSeq (tDrop (tBM K "list" rInsert to (tCons ti (tCons te tNil)))) tz D σ H := p_insM (D := { D with nx := tz D }) hm hl hi ha hti h k
theorem qp_appM {l : Addr} {xs : List α} {x : α} (hm : LsM S xs H l) [∀ x, Stay (S x)] (hl : xs.length < 10000) (ha : EvP to σ H (Is (.ref l))) (h : EvP te σ H (S x)) (k : ∀ H1, ExB l H H1 → LsM S (xs ++ [x]) H1 l → tz D σ H1) :
    tSeq (tDrop (tBM K "list" rAppend to (tCons te tNil))) tz D σ H := p_appM (D := { D with nx := tz D }) hm hl ha h k
theorem s_forRneg {ta : TA} {tu : TS} {j n : Nat} (h : EvA ta σ H [.int (n : Int), .int 0, .int (-1)]) (hn : n ≤ 1000) (Pv : Nat → L2.St → Hp → Prop) (h0 : ∀ H1, Ex H H1 → Pv 0 σ H1)
    (hs : ∀ i σ' H', i < n → Pv i σ' H' → tu { D with nx := Pv (i + 1), ct := Pv (i + 1), bk := D.nx } (σ'.set j (some (.int ((n - i : Nat) : Int)))) H') (hd : ∀ σ' H', Pv n σ' H' → D.nx σ' H') : tFor (iRng3 ta) (gName j) tu D σ H :=
  h H (Ex.refl H) _ fun H1 e => by
    have hc := RgC.neg (i := (n : Int)) (j := 0) (by omega) (by omega) (by decide) (by decide)
    have hn' : ((n : Int) - 0).toNat = n := by omega
    rw [hn'] at hc
    exact ⟨(n : Int), 0, -1, n, rfl, hc, for_rangeC (lo := (n : Int)) (c := -1) (n := n) Pv (h0 H1 e) (fun i σ' H' hi p => by
      show tu { D with nx := Pv (i + 1), ct := Pv (i + 1), bk := D.nx } (σ'.set j (some (.int ((n : Int) + (i : Nat) * (-1))))) H'
      rw [show (n : Int) + (i : Nat) * (-1) = ((n - i : Nat) : Int) by omega]
      exact hs i σ' H' hi p) hd⟩
theorem ep_nm {ns : List Str} {i : Int} (ha : EvP ta σ H (Ls K NmR ns)) (hb : EvP tb σ H (Is (.int i))) (h0 : 0 ≤ i) (h9 : i < 9) (hl : ns.length = 9) : EvP (tOp (rIxL K) ta tb) σ H (Is (.str (ns.getD i.toNat ""))) :=
  ep_ixL (S := NmR) (xs := ns) ha (ep_ii hb (show i = ((i.toNat : Nat) : Int) by omega)) (get_getD (by omega))
theorem ep_c5 {cells : List Int} {i : Nat} (ha : EvP ta σ H (Ls K IntR cells)) (hb : EvP tb σ H (Is (.int (i : Int)))) (h : i < 5) (hl : cells.length = 5) : EvP (tOp (rIxL K) ta tb) σ H (Is (.int (cells.getD i 0))) :=
  ep_ixL (S := IntR) (xs := cells) ha hb (get_getD (by omega))
end
section
variable {K : PySem.W.Frag}
theorem len_law_house (K : PySem.W.Frag) : ∀ vs H Q E, sp_law_house K vs H Q E → vs.length = 2 := by
  rintro vs H Q E ⟨c, v, ns, rfl, _⟩; rfl
theorem rd_law_house (C : Cst K) (vs : List V) (H : Hp) (Q : VK) (E : XK) (h : sp_law_house K vs H Q E) : t_law_house K (BE Q) (start ["_law_cell", "_law_names_here", "_law_house_here", "_law_k", "_law_room"] vs) H := by
  obtain ⟨c, v, ns, rfl, hn, hl9, okr, kq⟩ := h
  have c3 := Int.emod_nonneg c (show (3 : Int) ≠ 0 by decide)
  have c3' := Int.emod_lt_of_pos c (show (0 : Int) < 3 by decide)
  have hmn : ((manyF c : Nat) : Int) = 2 + c % 3 := by unfold manyF; omega
  have hm2 : 2 ≤ manyF c := by omega
  have hm4 : manyF c ≤ 4 := by omega
  refine qp_asgN (en_nil (S := PlR K)) fun l H1 nl e1 hl => ?_
  refine q_forR1 (D := BE Q) (n := ((manyF c : Nat) : Int)) (ea_one (ep_ii (ep_addI ep_i (ep_modI (ep_var (i := 0) rfl is_rfl) ep_i (by decide))) hmn.symm)) (by omega)
    (fun k σ' H' => ∃ x3 x4, σ' = [some (.int c), some v, some (.ref l), x3, x4] ∧ Ex H H' ∧ LsM (PlR K) ((List.range k).map fun k => Pl.cask (ns.getD k "") (roomF c k)) H' l)
    (fun H2 e2 => ⟨_, _, rfl, e1.trans e2, hl.ex e2⟩) ?_ ?_
  · rintro k σ' H2 hk ⟨x3, x4, rfl, e2, hl2⟩
    have hk4 : k < 4 := by omega
    have mx := mixed_nn (c := c) hk4
    have m1 := Int.emod_nonneg (mixedF c k / 100) (show (2 : Int) ≠ 0 by decide)
    have m2 := Int.emod_lt_of_pos (mixedF c k / 100) (show (0 : Int) < 2 by decide)
    have kv : EvP (tVar 3) [some (.int c), some v, some (.ref l), some (.int (k : Int)), x4] H2 (Is (.int (k : Int))) := ep_var (i := 3) rfl is_rfl
    refine qp_asg (R := Fr K (roomF c k)) (ep_lowest (ep_addI ep_i (ep_modI (ep_mixed (ep_var (i := 0) rfl is_rfl) kv hk4) ep_i (by decide))) (ep_addI ep_i (ep_modI (ep_divI (ep_mixed (ep_var (i := 0) rfl is_rfl) kv hk4) ep_i (divS (by decide) (by decide))) ep_i (by decide))) (by omega) (Nat.lt_of_lt_of_le (show _ < 4 by omega) (by decide +kernel)) rfl (okr k hk4)) fun w H3 e3 hw => ?_
    have hn3 : Ls K NmR ns H3 v := ls_Rx (rx_ex (e2.trans e3)) hn
    refine p_appM (x := Pl.cask (ns.getD k "") (roomF c k)) (hl2.ex e3) (by rw [List.length_map, List.length_range]; omega) (ep_var (i := 2) rfl is_rfl) (ep_tup (K := K) (Rs := [Is (.str "cask"), Is (.str (ns.getD k "")), Fr K (roomF c k)]) (eas_cons ep_s (eas_cons (ep_ixL (S := NmR) (xs := ns) (ep_var (i := 1) rfl hn3) (ep_var (i := 3) rfl is_rfl) (get_getD (by omega))) (eas_cons (ep_var (i := 4) rfl hw) eas_nil))) (show 3 ≤ 100000 by decide)) fun H4 x4' h4 => ⟨_, _, rfl, ExB.ex (e2.trans e3) (fresh_back (Ex.refl _) nl) x4', ?_⟩
    rw [List.range_succ, List.map_append]
    exact h4
  · rintro σ' H2 ⟨x3, x4, rfl, e2, hl2⟩
    rw [Int.toNat_natCast] at hl2
    have lenC : ((List.range (manyF c)).map fun k => Pl.cask (ns.getD k "") (roomF c k)).length = manyF c := by rw [List.length_map, List.length_range]
    have hn2 : Ls K NmR ns H2 v := ls_Rx (rx_ex e2) hn
    have i0 := Int.emod_nonneg (c / 3) (show ((manyF c : Nat) : Int) ≠ 0 by omega)
    have i1 := Int.emod_lt_of_pos (c / 3) (show (0 : Int) < ((manyF c : Nat) : Int) by omega)
    refine qp_insM (x := Pl.sink (ns.getD 4 "")) (i := (c / 3 % ((manyF c : Nat) : Int)).toNat) hl2 (by omega) (by omega) (ep_var (i := 2) rfl is_rfl) (ep_ii (ep_modI (ep_divI (ep_var (i := 0) rfl is_rfl) ep_i (divS (by decide) (by decide))) (ep_ii (ep_len (K := K) (S := PlR K) (ep_var (i := 2) rfl hl2.ls)) (by rw [lenC])) (by omega)) (by omega))
      (ep_tup (K := K) (Rs := [Is (.str "sink"), Is (.str (ns.getD 4 ""))]) (eas_cons ep_s (eas_cons (ep_ixL (S := NmR) (xs := ns) (ep_var (i := 1) rfl hn2) (ep_i (i := ((4 : Nat) : Int))) (get_getD (by omega))) eas_nil)) (show 2 ≤ 100000 by decide)) fun H3 x3' h3 => ?_
    have e3 : Ex H H3 := ExB.ex e2 nl x3'
    have hn3 : Ls K NmR ns H3 v := ls_Rx (rx_ex e3) hn
    refine qp_appM (x := Pl.sink (ns.getD 5 "")) h3 (by simp only [List.length_append, List.length_take, List.length_drop, List.length_cons, List.length_nil]; omega) (ep_var (i := 2) rfl is_rfl)
      (ep_tup (K := K) (Rs := [Is (.str "sink"), Is (.str (ns.getD 5 ""))]) (eas_cons ep_s (eas_cons (ep_ixL (S := NmR) (xs := ns) (ep_var (i := 1) rfl hn3) (ep_i (i := ((5 : Nat) : Int))) (get_getD (by omega))) eas_nil)) (show 2 ≤ 100000 by decide)) fun H4 x4' h4 => ?_
    have e4 : Ex H H4 := ExB.ex e3 nl x4'
    have he : houseF c ns = ((((List.range (manyF c)).map fun k => Pl.cask (ns.getD k "") (roomF c k)).take (c / 3 % ((manyF c : Nat) : Int)).toNat ++ [Pl.sink (ns.getD 4 "")] ++ ((List.range (manyF c)).map fun k => Pl.cask (ns.getD k "") (roomF c k)).drop (c / 3 % ((manyF c : Nat) : Int)).toNat) ++ [Pl.sink (ns.getD 5 "")]) := by
      unfold houseF csF
      rw [List.map_map]
      rfl
    refine p_ret (R := Ls K (PlR K) (houseF c ns)) (ep_var (i := 2) rfl (by rw [he]; exact h4.ls)) fun u H5 e5 hu => kq u H5 (e4.trans e5) hu
end
end Tc
set_option Elab.async false
set_option linter.all false
set_option maxRecDepth 100000
set_option maxHeartbeats 4000000
set_option exponentiation.threshold 10000
namespace Tc
open PySem PySem.Spec PyProof.Rows L2 Evl
abbrev CkR (K : PySem.W.Frag) : Str × Rat → HV := fun p => PlR K (.cask p.1 p.2)
section
variable {K : PySem.W.Frag}
theorem len_law_round (K : PySem.W.Frag) : ∀ vs H Q E, sp_law_round K vs H Q E → vs.length = 3 := by
  rintro vs H Q E ⟨v, w, u, house, ns, cells, cs, rfl, _⟩; rfl
theorem main_len (cs : List (Str × Rat)) (ns : List Str) (cells : List Int) : (mainD cs ns cells).length = cs.length - 1 + 2 := by
  unfold mainD
  simp only [List.length_append, List.length_cons, List.length_nil, List.length_map, List.length_range]
  omega
theorem work_len (cs : List (Str × Rat)) (ns : List Str) (cells : List Int) : (workD cs ns cells).length ≤ cs.length - 1 + 4 := by
  unfold workD
  split
  · simp only [List.length_append, List.length_take, List.length_drop, main_len]
    unfold moreD
    simp only [List.length_cons, List.length_nil]
    omega
  · rw [main_len]; omega
theorem ck_name {σ : L2.St} {H : Hp} {te : TE} {p : Str × Rat} (h : EvP te σ H (CkR K p)) : EvP (tOp (rIxT K) te (tC (.int 1))) σ H (Is (.str p.1)) := pl_name (pl := .cask p.1 p.2) h
theorem ck_room {σ : L2.St} {H : Hp} {te : TE} {p : Str × Rat} (h : EvP te σ H (CkR K p)) : EvP (tOp (rIxT K) te (tC (.int 2))) σ H (Fr K p.2) := pl_room h
theorem rd_law_round (C : Cst K) (vs : List V) (H : Hp) (Q : VK) (E : XK) (h : sp_law_round K vs H Q E) : t_law_round K (BE Q) (start ["_law_house_here", "_law_names_here", "_law_cells", "_law_place", "_law_casks", "_law_least", "_law_amount", "_law_deeds", "_law_k", "_law_last", "_law_lost", "_law_at", "_law_more"] vs) H := by
  obtain ⟨v, w, u, house, ns, cells, cs, rfl, hh, hn, hc, h100, hl9, hl5, hcs, ok, kq⟩ := h
  have lo := ok.lo
  have hi := ok.hi
  have c2 := Int.emod_nonneg (cells.getD 2 0) (show (4 : Int) ≠ 0 by decide)
  have c2' := Int.emod_lt_of_pos (cells.getD 2 0) (show (0 : Int) < 4 by decide)
  have hnn : ∀ {H'}, Ex H H' → Ls K NmR ns H' w := fun e => ls_Rx (rx_ex e) hn
  have hcc : ∀ {H'}, Ex H H' → Ls K IntR cells H' u := fun e => ls_Rx (rx_ex e) hc
  refine qp_asgN (S := LsM (CkR K) cs) ?_ fun pc H1 npc e1 hpc => ?_
  · have h := en_lc (U := PlR K) (σ := [some v, some w, some u, none, none, none, none, none, none, none, none, none, none]) (H := H) (te := tVar 3) (g := gName 3) (tt := tTest (tOp rEq (tOp (rIxT K) (tVar 3) (tC (.int 0))) (tC (.str "cask")))) (vs := [3]) (p := Pl.isC) (f := id)
      (ei_list (K := K) (S := PlR K) (xs := house) (ep_var (i := 0) rfl hh)) (by omega) fun p x H3 e3 hp hx => ⟨[some v, some w, some u, some x, none, none, none, none, none, none, none, none, none], fun Q q => q, rfl, pl_test (ep_var (i := 3) rfl hx), fun _ => ep_var (i := 3) rfl hx⟩
    rw [List.map_id, hcs] at h
    exact h.weak fun H' p _ ⟨vs, e, pv⟩ => ⟨vs, e, paired_map pv⟩
  have hcL : ∀ {H'}, Ex H1 H' → Ls K (CkR K) cs H' (.ref pc) := fun e => ls_Rx (rx_ex e) hpc.ls
  obtain ⟨p0, hp0⟩ : ∃ p0, cs.getD 0 ("", 0) = p0 := ⟨_, rfl⟩
  have g0 : cs[0]? = some p0 := by rw [← hp0]; exact get_getD (by omega)
  obtain ⟨pl, hpl⟩ : ∃ pl, cs.getD (cs.length - 1) ("", 0) = pl := ⟨_, rfl⟩
  have gl : cs[cs.length - 1]? = some pl := by rw [← hpl]; exact get_getD (by omega)
  refine qp_asg (R := Fr K p0.2) (ck_room (ep_ixL (S := CkR K) (xs := cs) (ep_var (i := 4) rfl (hcL (Ex.refl _))) (ep_i (i := ((0 : Nat) : Int))) g0)) fun w5 H2 e2 hw5 => ?_
  refine p_forL (D := { BE Q with nx := tSeq _ _ (BE Q) }) (S := CkR K) (K := K) (xs := cs) (v := .ref pc) (B := H2) (ep_var (i := 4) rfl is_rfl) (hcL e2)
    (fun i σ' H' => ∃ x3 y5, σ' = [some v, some w, some u, x3, some (.ref pc), some y5, none, none, none, none, none, none, none] ∧ Ex H2 H' ∧ Fr K ((cs.take i).foldl (fun m p => if p.2 < m then p.2 else m) p0.2) H' y5) (Rx.refl _)
    (fun H3 e3 => ⟨_, _, rfl, e3, hw5.ex e3⟩) (fun i σ' H' ⟨_, _, _, e, _⟩ => rx_ex e) ?_ ?_
  · rintro i p pv σ' H3 hi' ⟨x3, y5, rfl, e3, hy⟩ hpv
    have es := fold_snoc (f := fun m (p : Str × Rat) => if p.2 < m then p.2 else m) (b := p0.2) hi'
    refine s_when (et_b (ep_under (p := p.2) (ck_room (ep_var (i := 3) rfl hpv)) (ep_var (i := 5) rfl hy))) (fun hb H4 e4 => ?_) fun hb H4 e4 => ?_
    · refine p_asg (R := Fr K p.2) (ck_room (ep_var (i := 3) rfl ((inferInstance : StayX (CkR K p)).ex _ _ _ e4 hpv))) fun z H5 e5 hz => ⟨_, _, rfl, (e3.trans e4).trans e5, ?_⟩
      rw [es, if_pos (of_decide_eq_true hb)]
      exact hz
    · refine ⟨_, _, rfl, e3.trans e4, ?_⟩
      rw [es, if_neg (of_decide_eq_false hb)]
      exact hy.ex e4
  rintro σ' H3 ⟨x3, y5, rfl, e3, hy⟩
  rw [List.take_length] at hy
  have hy : Fr K (leastF cs) H3 y5 := by unfold leastF; rw [hp0]; exact hy
  dsimp only
  have eH3 : Ex H H3 := e1.trans (e2.trans e3)
  have e13 : Ex H1 H3 := e2.trans e3
  refine qp_asg (R := Fr K (amountF cs cells)) (ep_timesQ (n := 1 + cells.getD 2 0 % 4) (d := 4) (ep_var (i := 5) rfl hy) (ep_tup (K := K) (eas_cons (ep_addI ep_i (ep_modI (ep_c5 (ep_var (i := 2) rfl (hcc eH3)) (ep_i (i := ((2 : Nat) : Int))) (by decide) hl5) ep_i (by decide))) (eas_cons ep_i eas_nil)) (show 2 ≤ 100000 by decide)) (by decide) (Nat.lt_of_lt_of_le (show _ < 8 by omega) (by decide +kernel)) (by decide +kernel) ok.amount) fun wa H4 e4 hwa => ?_
  have eH4 := eH3.trans e4
  have e14 := e13.trans e4
  have d0 := Int.emod_nonneg (cells.getD 2 0 / 4) (show (2 : Int) ≠ 0 by decide)
  have d1 := Int.emod_lt_of_pos (cells.getD 2 0 / 4) (show (0 : Int) < 2 by decide)
  obtain ⟨am, ham⟩ : ∃ am, amountF cs cells = am := ⟨_, rfl⟩
  rw [ham] at hwa
  refine qp_asgN (en_one (S := DdR K) (x := Dd.move pl.1 (ns.getD (4 + cells.getD 2 0 / 4 % 2).toNat "") am) (ep_tup (K := K) (Rs := [Is (.str "move"), Is (.str pl.1), Is (.str (ns.getD (4 + cells.getD 2 0 / 4 % 2).toNat "")), Fr K am]) (eas_cons ep_s (eas_cons (ck_name (ep_ixLneg (S := CkR K) (xs := cs) (ep_var (i := 4) rfl (hcL e14)) ep_m1 gl))
    (eas_cons (ep_nm (ep_var (i := 1) rfl (hnn eH4)) (ep_addI ep_i (ep_modI (ep_divI (ep_c5 (ep_var (i := 2) rfl (hcc eH4)) (ep_i (i := ((2 : Nat) : Int))) (by decide) hl5) ep_i (divS (by decide) (by decide))) ep_i (by decide))) (by omega) (by omega) hl9) (eas_cons (ep_var (i := 6) rfl hwa) eas_nil)))) (show 4 ≤ 100000 by decide))) fun l H5 nl e5 hl => ?_
  have nlH : H l = none := fresh_back eH4 nl
  have cl : ∀ {σ : L2.St} {H' : Hp}, σ[4]? = some (some (.ref pc)) → Ex H1 H' → EvP (tCB (rLenS K) (tCons (tVar 4) tNil)) σ H' (Is (.int (cs.length : Int))) := fun hs e => ep_len (K := K) (S := CkR K) (ep_var hs (hcL e))
  have e15 := e14.trans e5
  refine s_forRneg (D := { BE Q with nx := tSeq _ _ (BE Q) }) (n := cs.length - 1) (ea_cons (ev_ep (ep_ii (ep_subI (cl rfl e15) ep_i) (show (cs.length : Int) - 1 = ((cs.length - 1 : Nat) : Int) by omega))) (ea_cons (ev_ep ep_i) (ea_one ep_m1))) (by omega)
    (fun i σ' H' => ∃ x8, σ' = [some v, some w, some u, x3, some (.ref pc), some y5, some wa, some (.ref l), x8, none, none, none, none] ∧ Ex H4 H' ∧ LsM (DdR K) ([Dd.move pl.1 (ns.getD (4 + cells.getD 2 0 / 4 % 2).toNat "") am] ++ (List.range i).map fun i => turnD cs cells (cs.length - 1 - i)) H' l)
    (fun H6 e6 => ⟨_, rfl, e5.trans e6, hl.ex e6⟩) ?_ ?_
  · rintro i σ' H6 hi' ⟨x8, rfl, e6, hl6⟩
    obtain ⟨k, hk⟩ : ∃ k, cs.length - 1 - i = k := ⟨_, rfl⟩
    rw [hk]
    have eH6 := eH4.trans e6
    have e16 := e14.trans e6
    obtain ⟨pk, hpk⟩ : ∃ pk, cs.getD k ("", 0) = pk := ⟨_, rfl⟩
    have gk : cs[k]? = some pk := by rw [← hpk]; exact get_getD (by omega)
    obtain ⟨pk', hpk'⟩ : ∃ pk, cs.getD (k - 1) ("", 0) = pk := ⟨_, rfl⟩
    have gk' : cs[k - 1]? = some pk' := by rw [← hpk']; exact get_getD (by omega)
    have sn : ∀ d : Dd, turnD cs cells k = d → ([Dd.move pl.1 (ns.getD (4 + cells.getD 2 0 / 4 % 2).toNat "") am] ++ (List.range i).map fun i => turnD cs cells (cs.length - 1 - i)) ++ [d] = [Dd.move pl.1 (ns.getD (4 + cells.getD 2 0 / 4 % 2).toNat "") am] ++ (List.range (i + 1)).map fun i => turnD cs cells (cs.length - 1 - i) := fun d hd => by
      rw [List.range_succ, List.map_append, List.map_singleton, hk, hd, List.append_assoc]
    have ll : ([Dd.move pl.1 (ns.getD (4 + cells.getD 2 0 / 4 % 2).toNat "") am] ++ (List.range i).map fun i => turnD cs cells (cs.length - 1 - i)).length < 10000 := by
      simp only [List.length_append, List.length_cons, List.length_nil, List.length_map, List.length_range]; omega
    have hkm : EvP (tOp rModI (tVar 8) (tC (.int 4))) [some v, some w, some u, x3, some (.ref pc), some y5, some wa, some (.ref l), some (.int (k : Int)), none, none, none, none] H6 (Is (.int ((k % 4 : Nat) : Int))) := ep_ii (ep_modI (ep_var (i := 8) rfl is_rfl) ep_i (by decide)) (by omega)
    refine s_if (et_t (ep_eqI (ep_modI (ep_mixed (ep_c5 (ep_var (i := 2) rfl (hcc eH6)) (ep_i (i := ((3 : Nat) : Int))) (by decide) hl5) hkm (Nat.mod_lt _ (by decide))) ep_i (by decide)) ep_i)) (fun hb H7 e7 => ?_) fun hb H7 e7 => ?_
    · have ht : turnD cs cells k = .fill pk'.1 pk.1 := by unfold turnD; rw [if_pos (of_decide_eq_true hb), hpk, hpk']
      refine p_appM (x := Dd.fill pk'.1 pk.1) (hl6.ex e7) ll (ep_var (i := 7) rfl is_rfl) (ep_tup (K := K) (Rs := [Is (.str "fill"), Is (.str pk'.1), Is (.str pk.1)]) (eas_cons ep_s (eas_cons (ck_name (ep_ixL (S := CkR K) (xs := cs) (ep_var (i := 4) rfl (hcL (e16.trans e7))) (ep_ii (ep_subI (ep_var (i := 8) rfl is_rfl) ep_i) (show (k : Int) - 1 = ((k - 1 : Nat) : Int) by omega)) gk')) (eas_cons (ck_name (ep_ixL (S := CkR K) (xs := cs) (ep_var (i := 4) rfl (hcL (e16.trans e7))) (ep_var (i := 8) rfl is_rfl) gk)) eas_nil))) (show 3 ≤ 100000 by decide)) fun H8 x8' h8 => ⟨_, rfl, ExB.ex (e6.trans e7) nl x8', ?_⟩
      rw [← sn _ ht]
      exact h8
    · have ht : turnD cs cells k = .move pk'.1 pk.1 am := by unfold turnD; rw [if_neg (of_decide_eq_false hb), hpk, hpk', ham]
      refine p_appM (x := Dd.move pk'.1 pk.1 am) (hl6.ex e7) ll (ep_var (i := 7) rfl is_rfl) (ep_tup (K := K) (Rs := [Is (.str "move"), Is (.str pk'.1), Is (.str pk.1), Fr K am]) (eas_cons ep_s (eas_cons (ck_name (ep_ixL (S := CkR K) (xs := cs) (ep_var (i := 4) rfl (hcL (e16.trans e7))) (ep_ii (ep_subI (ep_var (i := 8) rfl is_rfl) ep_i) (show (k : Int) - 1 = ((k - 1 : Nat) : Int) by omega)) gk')) (eas_cons (ck_name (ep_ixL (S := CkR K) (xs := cs) (ep_var (i := 4) rfl (hcL (e16.trans e7))) (ep_var (i := 8) rfl is_rfl) gk)) (eas_cons (ep_var (i := 6) rfl (hwa.ex (e6.trans e7))) eas_nil)))) (show 4 ≤ 100000 by decide)) fun H8 x8' h8 => ⟨_, rfl, ExB.ex (e6.trans e7) nl x8', ?_⟩
      rw [← sn _ ht]
      exact h8
  rintro σ' H6 ⟨x8, rfl, e6, hl6⟩
  dsimp only
  have eH6 := eH4.trans e6
  have e16 := e14.trans e6
  have f0 := Int.emod_nonneg (cells.getD 3 0) (show (3 : Int) ≠ 0 by decide)
  have f1 := Int.emod_lt_of_pos (cells.getD 3 0) (show (0 : Int) < 3 by decide)
  refine qp_appM (x := Dd.bring (ns.getD (6 + cells.getD 3 0 % 3).toNat "") p0.1 am) hl6 (by simp only [List.length_append, List.length_cons, List.length_nil, List.length_map, List.length_range]; omega) (ep_var (i := 7) rfl is_rfl)
    (ep_tup (K := K) (Rs := [Is (.str "bring"), Is (.str (ns.getD (6 + cells.getD 3 0 % 3).toNat "")), Is (.str p0.1), Fr K am]) (eas_cons ep_s (eas_cons (ep_nm (ep_var (i := 1) rfl (hnn eH6)) (ep_addI ep_i (ep_modI (ep_c5 (ep_var (i := 2) rfl (hcc eH6)) (ep_i (i := ((3 : Nat) : Int))) (by decide) hl5) ep_i (by decide))) (by omega) (by omega) hl9)
      (eas_cons (ck_name (ep_ixL (S := CkR K) (xs := cs) (ep_var (i := 4) rfl (hcL e16)) (ep_i (i := ((0 : Nat) : Int))) g0)) (eas_cons (ep_var (i := 6) rfl (hwa.ex e6)) eas_nil)))) (show 4 ≤ 100000 by decide)) fun H7 x7 h7 => ?_
  have hmain : mainD cs ns cells = [Dd.move pl.1 (ns.getD (4 + cells.getD 2 0 / 4 % 2).toNat "") am] ++ ((List.range (cs.length - 1)).map fun i => turnD cs cells (cs.length - 1 - i)) ++ [Dd.bring (ns.getD (6 + cells.getD 3 0 % 3).toNat "") p0.1 am] := by unfold mainD; rw [hpl, hp0, ham]
  rw [← hmain] at h7
  have e47 : Ex H4 H7 := ExB.ex e6 nl x7
  have eH7 := eH4.trans e47
  have e17 := e14.trans e47
  have ml := main_len cs ns cells
  refine qp_asg (R := Is (.int (((mainD cs ns cells).length : Int) - 1))) (ep_subI (ep_len (K := K) (S := DdR K) (ep_var (i := 7) rfl h7.ls)) ep_i) fun z H8 e8 hz => ?_
  cases (show z = _ from hz)
  have h8 := h7.ex e8
  have eH8 := eH7.trans e8
  have e18 := e17.trans e8
  -- the end
  have fin : ∀ (q : Addr) (y3 y10 y11 y12 : Option V) (last : Int) (H' : Hp), Ex H H' → LsM (DdR K) (workD cs ns cells) H' q →
      tSeq (tAsg (tOp rModI (tOp rDivI (tOp (rIxL K) (tVar 2) (tC (.int 3))) (tC (.int 3))) (tOp rPlusI (tCB (rLenS K) (tCons (tVar 7) tNil)) (tC (.int 1)))) (gName 11))
      (tRet (tTup (tCons (tOp rCat (tOp rCat (tSl (rSlL K) (tVar 7) tNoPart (tPart (tVar 11))) (tLst (tCons (tTup (tCons (tC (.str "year")) tNil)) tNil))) (tSl (rSlL K) (tVar 7) (tPart (tVar 11)) tNoPart)) (tCons (tOp rPlusI (tVar 9) (tCB rIntB (tCons (tOp rLeI (tVar 11) (tVar 9)) tNil))) tNil)))) (BE Q)
      [some v, some w, some u, y3, some (.ref pc), some y5, some wa, some (.ref q), x8, some (.int last), y10, y11, y12] H' := fun q y3 y10 y11 y12 last H' e' hq => by
    have wl := work_len cs ns cells
    have g0 := Int.emod_nonneg (cells.getD 3 0 / 3) (show ((workD cs ns cells).length : Int) + 1 ≠ 0 by omega)
    have g1 := Int.emod_lt_of_pos (cells.getD 3 0 / 3) (show (0 : Int) < ((workD cs ns cells).length : Int) + 1 by omega)
    refine qp_asg (R := Is (.int ((yearAt cs ns cells : Nat) : Int))) (ep_ii (ep_modI (ep_divI (ep_c5 (ep_var (i := 2) rfl (hcc e')) (ep_i (i := ((3 : Nat) : Int))) (by decide) hl5) ep_i (divS (by decide) (by decide))) (ep_addI (ep_len (K := K) (S := DdR K) (ep_var (i := 7) rfl hq.ls)) ep_i) (by omega)) (by unfold yearAt; omega)) fun z H9 e9 hz => ?_
    cases (show z = _ from hz)
    have hq9 := (hq.ex e9).ls (K := K)
    have yl : yearAt cs ns cells ≤ (workD cs ns cells).length := by unfold yearAt; omega
    refine p_ret (R := Tp K [Ls K (DdR K) (roundF cs ns cells), AnyI]) (ep_tup (K := K) (eas_cons (EvN.ls (en_catV (EvN.v (en_catV (EvN.v (en_slTo (S := DdR K) (xs := workD cs ns cells) (ep_var (i := 7) rfl hq9) (ep_var (i := 11) rfl is_rfl))) (EvN.v (en_one (S := DdR K) (x := Dd.year) (ep_tup (K := K) (Rs := [Is (.str "year")]) (eas_cons ep_s eas_nil) (show 1 ≤ 100000 by decide)))) ?_)) (EvN.v (en_slFrom (S := DdR K) (xs := workD cs ns cells) (ep_var (i := 7) rfl hq9) (ep_var (i := 11) rfl is_rfl))) ?_)) (eas_cons (EvP.weak (ep_addI (ep_var (i := 9) rfl is_rfl) (ep_intB (ep_leI (ep_var (i := 11) rfl is_rfl) (ep_var (i := 9) rfl is_rfl)))) fun _ _ _ h => ⟨_, h⟩) eas_nil)) (show 2 ≤ 100000 by decide)) fun y H10 e10 hy => kq y H10 ((e'.trans e9).trans e10) hy
    · rw [List.length_take, List.length_singleton]; omega
    · simp only [List.length_append, List.length_take, List.length_drop, List.length_singleton]; omega
  have q0 := Int.emod_nonneg (cells.getD 4 0) (show (2 : Int) ≠ 0 by decide)
  refine q_when (et_t (ep_eqI (ep_modI (ep_c5 (ep_var (i := 2) rfl (hcc eH8)) (ep_i (i := ((4 : Nat) : Int))) (by decide) hl5) ep_i (by decide)) ep_i)) (fun hb H9 e9 => ?_) fun hb H9 e9 => ?_
  · have hb1 := of_decide_eq_true hb
    have hwork : workD cs ns cells = (mainD cs ns cells).take (partAt cs ns cells) ++ moreD cs ns cells ++ (mainD cs ns cells).drop (partAt cs ns cells) := by unfold workD; rw [if_pos hb1]
    have eH9 := eH8.trans e9
    have e19 := e18.trans e9
    have h9 := h8.ex e9
    have r0 := Int.emod_nonneg (cells.getD 4 0 / 2) (show (cs.length : Int) ≠ 0 by omega)
    have r1 := Int.emod_lt_of_pos (cells.getD 4 0 / 2) (show (0 : Int) < (cs.length : Int) by omega)
    obtain ⟨pp, hpp⟩ : ∃ pp, cs.getD (partP cs cells) ("", 0) = pp := ⟨_, rfl⟩
    have gp : cs[partP cs cells]? = some pp := by rw [← hpp]; exact get_getD (by unfold partP; omega)
    have cell4 : ∀ {σ : L2.St} {H' : Hp}, σ[2]? = some (some u) → Ex H H' → EvP (tOp (rIxL K) (tVar 2) (tC (.int 4))) σ H' (Is (.int (cells.getD 4 0))) := fun hs e => ep_c5 (ep_var hs (hcc e)) (ep_i (i := ((4 : Nat) : Int))) (by decide) hl5
    refine qp_asg (R := CkR K pp) (ep_ixL (S := CkR K) (xs := cs) (ep_var (i := 4) rfl (hcL e19)) (ep_ii (ep_modI (ep_divI (cell4 rfl eH9) ep_i (divS (by decide) (by decide))) (cl rfl e19) (by omega)) (show cells.getD 4 0 / 2 % (cs.length : Int) = ((partP cs cells : Nat) : Int) by unfold partP; omega)) gp) fun w3 H10 e10 hw3 => ?_
    have eH10 := eH9.trans e10
    have s0 := Int.emod_nonneg (cells.getD 4 0 / 8) (show (3 : Int) ≠ 0 by decide)
    have s1 := Int.emod_lt_of_pos (cells.getD 4 0 / 8) (show (0 : Int) < 3 by decide)
    have t0 := Int.emod_nonneg (cells.getD 4 0 / 24) (show (3 : Int) ≠ 0 by decide)
    have t1 := Int.emod_lt_of_pos (cells.getD 4 0 / 24) (show (0 : Int) < 3 by decide)
    refine qp_asg (R := Fr K (lostF cells)) (ep_lowest (ep_addI ep_i (ep_modI (ep_divI (cell4 rfl eH10) ep_i (divS (by decide) (by decide))) ep_i (by decide))) (ep_addI ep_i (ep_modI (ep_divI (cell4 rfl eH10) ep_i (divS (by decide) (by decide))) ep_i (by decide))) (by omega) (Nat.lt_of_lt_of_le (show _ < 8 by omega) (by decide +kernel)) rfl ok.lost) fun w10 H11 e11 hw10 => ?_
    have eH11 := eH10.trans e11
    have h11 := (h9.ex e10).ex e11
    have v0 := Int.emod_nonneg (cells.getD 4 0 / 72) (show (2 : Int) ≠ 0 by decide)
    have v1 := Int.emod_lt_of_pos (cells.getD 4 0 / 72) (show (0 : Int) < 2 by decide)
    refine qp_asg (R := Is (.int ((partAt cs ns cells : Nat) : Int))) (ep_ints (xs := [0, ((mainD cs ns cells).length : Int)]) (k := (cells.getD 4 0 / 72 % 2).toNat) (eas_cons ep_i (eas_cons (ep_len (K := K) (S := DdR K) (ep_var (i := 7) rfl h11.ls)) eas_nil)) rfl (show 2 ≤ 100000 by decide) (ep_ii (ep_modI (ep_divI (cell4 rfl eH11) ep_i (divS (by decide) (by decide))) ep_i (by decide)) (by omega)) ?_) fun z H12 e12 hz => ?_
    · by_cases hz0 : cells.getD 4 0 / 72 % 2 = 0
      · have hpa : partAt cs ns cells = 0 := by unfold partAt; rw [if_pos hz0]
        rw [hz0, hpa]; rfl
      · have hpa : partAt cs ns cells = (mainD cs ns cells).length := by unfold partAt; rw [if_neg hz0]
        have e1' : cells.getD 4 0 / 72 % 2 = 1 := by omega
        rw [e1', hpa]; rfl
    cases (show z = _ from hz)
    have eH12 := eH11.trans e12
    have hw3' : CkR K pp H12 w3 := (inferInstance : StayX (CkR K pp)).ex _ _ _ (e11.trans e12) hw3
    have hw10' := hw10.ex e12
    have okp := ok.part
    rw [hpp] at okp
    refine qp_asgN (S := LsM (DdR K) (moreD cs ns cells)) ?_ fun pm H13 npm e13' hpm => ?_
    · refine (en_lst (Rs := [DdR K (.part pp.1 (ns.getD 4 "") (lostF cells)), DdR K (.bring (ns.getD 7 "") pp.1 (pp.2 * lostF cells))]) (eas_cons (ep_tup (K := K) (Rs := [Is (.str "part"), Is (.str pp.1), Is (.str (ns.getD 4 "")), Fr K (lostF cells)]) (eas_cons ep_s (eas_cons (ck_name (ep_var (i := 3) rfl hw3')) (eas_cons (ep_ixL (S := NmR) (xs := ns) (ep_var (i := 1) rfl (hnn eH12)) (ep_i (i := ((4 : Nat) : Int))) (get_getD (by omega))) (eas_cons (ep_var (i := 10) rfl hw10') eas_nil)))) (show 4 ≤ 100000 by decide))
        (eas_cons (ep_tup (K := K) (Rs := [Is (.str "bring"), Is (.str (ns.getD 7 "")), Is (.str pp.1), Fr K (pp.2 * lostF cells)]) (eas_cons ep_s (eas_cons (ep_ixL (S := NmR) (xs := ns) (ep_var (i := 1) rfl (hnn eH12)) (ep_i (i := ((7 : Nat) : Int))) (get_getD (by omega))) (eas_cons (ck_name (ep_var (i := 3) rfl hw3')) (eas_cons (ep_times (ck_room (ep_var (i := 3) rfl hw3')) (ep_var (i := 10) rfl hw10') okp) eas_nil)))) (show 4 ≤ 100000 by decide)) eas_nil)) (show 2 ≤ 100000 by decide)).weak fun H' p _ r => ?_
      obtain ⟨vs, e, a⟩ := r
      obtain ⟨x, y, rfl, hx, hy⟩ := a.two
      refine ⟨[x, y], e, ?_⟩
      unfold moreD
      rw [hpp]
      exact .cons hx (.cons hy .nil)
    have eH13 := eH12.trans e13'
    have h13 := ((h11.ex e12).ex e13')
    have ml2 : (moreD cs ns cells).length = 2 := rfl
    refine qp_asgN (S := LsM (DdR K) (workD cs ns cells)) ?_ fun pw H14 npw e14' hpw => ?_
    · rw [hwork]
      refine en_catV (EvN.v (en_catV (EvN.v (en_slTo (S := DdR K) (xs := mainD cs ns cells) (ep_var (i := 7) rfl h13.ls) (ep_var (i := 11) rfl is_rfl))) (ep_var (i := 12) rfl ⟨pm, rfl, hpm⟩) ?_)) (EvN.v (en_slFrom (S := DdR K) (xs := mainD cs ns cells) (ep_var (i := 7) rfl h13.ls) (ep_var (i := 11) rfl is_rfl))) ?_
      · rw [List.length_take, ml2]; omega
      · simp only [List.length_append, List.length_take, List.length_drop, ml2]; omega
    refine p_asg (R := Is (.int (((mainD cs ns cells).length : Int) - 1 + 2 * (if decide (((partAt cs ns cells : Nat) : Int) = 0) = true then 1 else 0)))) (ep_addI (ep_var (i := 9) rfl is_rfl) (ep_mulI ep_i (ep_intB (ep_eqI (ep_var (i := 11) rfl is_rfl) ep_i)) (mulS (by decide) (by split <;> decide)))) fun z H15 e15' hz => ?_
    cases (show z = _ from hz)
    exact fin pw (some w3) _ _ _ _ H15 ((eH13.trans e14').trans e15') (hpw.ex e15')
  · have hwork : workD cs ns cells = mainD cs ns cells := by unfold workD; rw [if_neg (of_decide_eq_false hb)]
    exact fin l x3 none none none _ H9 (eH8.trans e9) (by rw [hwork]; exact h8.ex e9)
end
end Tc
set_option Elab.async false
set_option linter.all false
set_option maxRecDepth 100000
set_option maxHeartbeats 4000000
set_option exponentiation.threshold 10000
namespace Tc
open PySem PySem.Spec PyProof.Rows L2 Evl
def frP (q : Rat) : PyData := .tuple [.int q.num, .int (q.den : Int)]
theorem fr_shaped (qs : List Rat) : SeqAt.shaped (.list (qs.map frP)) = true := by
  have h1 : PyData.canLayAll0 (qs.map frP) = true := by
    induction qs with
    | nil => rfl
    | cons q r ih =>
      rw [List.map_cons]
      show (PyData.canLay0 (frP q) && PyData.canLayAll0 (r.map frP)) = true
      rw [ih]
      simp [frP, PyData.canLay0, PyData.canLayAll0]
  have h2 : PyData.depthAll (qs.map frP) ≤ 1 := by
    induction qs with
    | nil => exact Nat.zero_le _
    | cons q r ih =>
      rw [List.map_cons]
      have ih' := ih (by
        have : (PyData.canLay0 (frP q) && PyData.canLayAll0 (r.map frP)) = true := h1
        rw [Bool.and_eq_true] at this
        exact this.2)
      simp only [PyData.depthAll, frP, PyData.depth] at *
      omega
  unfold SeqAt.shaped
  simp only [PyData.canLay0, PyData.depth, h1, Bool.true_and, decide_eq_true_eq]
  exact decide_eq_true (by omega)
theorem any_fr (qs : List Rat) (q : Rat) : ((qs.map frP).any fun z => PyData.eqv z (frP q)) = decide (q ∈ qs) := by
  induction qs with
  | nil => rfl
  | cons a r ih =>
    rw [List.map_cons, List.any_cons, ih]
    have e : PyData.eqv (frP a) (frP q) = decide (a = q) := eqvF a q
    rw [e, Bool.eq_iff_iff]
    simp only [Bool.or_eq_true, decide_eq_true_eq, List.mem_cons]
    exact ⟨fun h => h.elim (fun z => .inl z.symm) .inr, fun h => h.elim (fun z => .inl z.symm) .inr⟩
section
variable {K : PySem.W.Frag} {σ : L2.St} {H H' : Hp} {ta tb te : TE}
theorem ls_dp {qs : List Rat} {v : V} (h : Ls K (Fr K) qs H v) : Dp K H v (.list (qs.map frP)) := by
  obtain ⟨a, vs, rfl, s, pv⟩ := h
  refine .lst s ?_
  clear s
  induction pv with
  | nil => exact .nil
  | cons h _ ih => exact .cons (frD h) ih
theorem ep_notinD {q : Rat} {qs : List Rat} (ha : EvP ta σ H (Fr K q)) (hb : EvP tb σ H (Ls K (Fr K) qs)) : EvP (tOp (rNotInD K) ta tb) σ H (Is (.bl (!decide (q ∈ qs)))) := ep_op ha hb fun H1 x y e rx ry Q k =>
  ⟨_, _, frD rx, ls_dp ry, shF _ _, fr_shaped qs, by
    have e : (!(qs.map frP).any fun z => PyData.eqv z (.tuple [.int q.num, .int (q.den : Int)])) = !decide (q ∈ qs) := congrArg not (any_fr qs q)
    rw [e]
    exact k _ H1 (Ex.refl _) rfl⟩
theorem ep_inD {q : Rat} {qs : List Rat} (ha : EvP ta σ H (Fr K q)) (hb : EvP tb σ H (Ls K (Fr K) qs)) : EvP (tOp (rInD K) ta tb) σ H (Is (.bl (decide (q ∈ qs)))) := ep_op ha hb fun H1 x y e rx ry Q k =>
  ⟨_, _, frD rx, ls_dp ry, shF _ _, fr_shaped qs, by
    have e : ((qs.map frP).any fun z => PyData.eqv z (.tuple [.int q.num, .int (q.den : Int)])) = decide (q ∈ qs) := any_fr qs q
    rw [e]
    exact k _ H1 (Ex.refl _) rfl⟩
theorem ep_isList {p : Addr} {vs : List V} (ha : EvP ta σ H (Is (.ref p))) (hp : H p = some (.lst vs)) : EvP (tCB (rIsi K) (tCons ta (tCons (tC (.ty "list")) tNil))) σ H (Is (.bl true)) :=
  ep_cb (eas_cons ha (eas_cons (ep_c (R := Is (.ty "list")) rfl) eas_nil)) fun H1 us e r Q k => by
    obtain ⟨a, b, rfl, ra, rb⟩ := r.two
    cases (show a = _ from ra)
    cases (show b = _ from rb)
    exact ⟨.ref p, .ty "list", .type "list", .type "list", true, rfl, .ty "list", .base (.lst (e p _ hp)), if_pos (by decide +kernel), k _ H1 (Ex.refl _) rfl⟩
theorem ep_isTup {Rs : List HV} (ha : EvP ta σ H (Tp K Rs)) [StayX (Tp K Rs)] : EvP (tCB (rIsi K) (tCons ta (tCons (tC (.ty "tuple")) tNil))) σ H (Is (.bl true)) :=
  ep_cb (eas_cons ha (eas_cons (ep_c (R := Is (.ty "tuple")) rfl) eas_nil)) fun H1 us e r Q k => by
    obtain ⟨a, b, rfl, ra, rb⟩ := r.two
    cases (show b = _ from rb)
    obtain ⟨p, vs, rfl, s, _⟩ := ra
    have ty : TyX K H1 (.ref p) (.type "tuple") := by
      rcases s with (s | ⟨o, s⟩) | ⟨o, its, n, e1, e2, _⟩
      · exact .base (.tup s)
      · exact .fTuple s
      · exact .kTuple e1 e2
    exact ⟨.ref p, .ty "tuple", .type "tuple", .type "tuple", true, rfl, .ty "tuple", ty, if_pos (by decide +kernel), k _ H1 (Ex.refl _) rfl⟩
theorem en_law_led {A : AL (AL Rat)} {t : AL Rat} (h : EvP ta σ H (TabR K A)) (h2 : EvP tb σ H (Dc (Fr K) t)) (ok : LedOk A t) : EvN (tCall (sp_law_led K) [] E0 (tCons ta (tCons tb tNil))) σ H (DcM (Fr K) (ledM A t)) := en_next_round h h2 ok
theorem en_law_left {A : AL (AL Rat)} {k : Nat} (h : EvP ta σ H (TabR K A)) (h2 : EvP tb σ H (Is (.int (k : Int)))) (ok : LfOk A k) : EvN (tCall (sp_law_left K) [] E0 (tCons ta (tCons tb tNil))) σ H (LsM (Fr K) (leftsF A k)) := en_call (eas_cons h (eas_cons h2 eas_nil)) fun H1 us e r Q' k' => by
  obtain ⟨a, c, rfl, ra, rb⟩ := r.two
  cases (show c = _ from rb)
  exact ⟨a, A, k, rfl, ra, ok, k'⟩
/-- led so many times -/
theorem p_ledLoop {A : AL (AL Rat)} {t0 : AL Rat} {many : Nat} {σf : Option V → V → L2.St} {j ia io : Nat} {B : Hp} {tm : TE} {D : Ends} {a0 : Option V} {q0 : Addr} {vA : V}
    (hs : ∀ a v x, (σf a v).set j x = σf x v) (ho : ∀ a v x, (σf a v).set io (some x) = σf a x) (hA : ∀ a v, (σf a v)[ia]? = some (some vA)) (ht : ∀ a v, (σf a v)[io]? = some (some v))
    (hB : TabR K A B vA) (e : Ex B H) (nq : B q0 = none) (hq : DcM (Fr K) t0 H q0) (lm : many ≤ 100) (hm : EvP tm (σf a0 (.ref q0)) H (Is (.int (many : Int)))) (ok : ∀ i, i < many → LedOk A (ledN A t0 i))
    (k : ∀ a q H', B q = none → Ex B H' → DcM (Fr K) (ledN A t0 many) H' q → D.nx (σf a (.ref q)) H') :
    tFor (iRng1 (tCons tm tNil)) (gName j) (tAsg (tCall (sp_law_led K) [] E0 (tCons (tVar ia) (tCons (tVar io) tNil))) (gName io)) D (σf a0 (.ref q0)) H := by
  refine s_forR1 (n := (many : Int)) (ea_one hm) (by omega) (fun i σ' H' => ∃ a q, σ' = σf a (.ref q) ∧ B q = none ∧ Ex B H' ∧ DcM (Fr K) (ledN A t0 i) H' q)
    (fun H1 e1 => ⟨_, _, rfl, nq, e.trans e1, hq.ex e1⟩) ?_ ?_
  · rintro i σ' H1 hi ⟨a, q, rfl, n1, e1, h1⟩
    rw [hs]
    refine p_asgN (en_law_led (ep_var (hA _ _) ((inferInstance : StayX (TabR K A)).ex _ _ _ e1 hB)) (ep_var (ht _ _) h1.dc) (ok i (by omega))) fun q2 H2 n2 e2 h2 => ?_
    rw [ho]
    exact ⟨_, _, rfl, fresh_back e1 n2, e1.trans e2, h2⟩
  · rintro σ' H1 ⟨a, q, rfl, n1, e1, h1⟩
    rw [Int.toNat_natCast] at h1
    exact k a q H1 n1 e1 h1
theorem len_law_left (K : PySem.W.Frag) : ∀ vs H Q E, sp_law_left K vs H Q E → vs.length = 2 := by
  rintro vs H Q E ⟨v, A, k, rfl, _⟩; rfl
theorem rd_law_left (C : Cst K) (vs : List V) (H : Hp) (Q : VK) (E : XK) (h : sp_law_left K vs H Q E) : t_law_left K (BE Q) (start ["_law_tab", "_law_k", "_law_left_here", "_law_name", "_law_totals", "_law_other", "_law_turn", "_law_share"] vs) H := by
  obtain ⟨v, A, k, rfl, hA, ok, kq⟩ := h
  obtain ⟨dA, kA, rfl, rA, pA⟩ := id hA
  obtain ⟨u0, hu0, hk0⟩ := lk_of rA
  have lek := ok.lek
  have lenA := ok.len
  refine qp_asgN (en_nil (S := Fr K)) fun l H1 nl e1 hl => ?_
  have ndl : dA ≠ l := rd_ne rA nl
  refine p_forKeys (D := { BE Q with nx := tRet (tVar 2) (BE Q) }) (S := fun row => Dc (Fr K) row) (m := A) (d := dA) (kvs := kA) (B := H) (fun od => ep_var (i := 0) rfl is_rfl) rA pA e1
    (fun BL i σ' H' => ∃ x3 x4 x5 x6 x7, σ' = [some (.ref dA), some (.int (k : Int)), some (.ref l), x3, x4, x5, x6, x7] ∧ Ex BL H' ∧ LsM (Fr K) ((leftsF A k).take i) H' l)
    (fun od H2 e2 => ⟨_, _, _, _, _, rfl, (ex_lock e1).trans e2, by
      rw [List.take_zero]
      obtain ⟨vs, e, p⟩ := hl
      cases p
      exact ⟨[], e2 l _ (by unfold lck; rw [upd_ne (Ne.symm ndl)]; exact e), .nil⟩⟩) (fun BL i σ' H' ⟨_, _, _, _, _, _, e, _⟩ => e) ?_ ?_
  · rintro od i ⟨n, row⟩ σ' H2 rt bk hi ⟨x3, x4, x5, x6, x7, rfl, e2, hl2⟩
    have hn : n ∈ A.map (fun p => p.1) := List.mem_map.mpr ⟨(n, row), List.mem_of_getElem? hi, rfl⟩
    have hni : (A.map fun p => p.1)[i]? = some n := by rw [List.getElem?_map, hi]; rfl
    have nB : (lck H dA od (.dK kA)) l = none := by unfold lck; rw [upd_ne (Ne.symm ndl)]; exact nl
    have rxB : Rx H H2 := (rx_lock hu0 hk0).trans (rx_ex e2)
    have hA2 : TabR K A H2 (.ref dA) := (inferInstance : StayR (TabR K A)).rx _ _ _ rxB hA
    have rA2 : Rd H2 dA (.dK kA) := .inr ⟨od, e2 dA _ upd_same⟩
    have pA2 : PD (fun row => Dc (Fr K) row) H2 kA A := pA.map fun x v h => (inferInstance : StayR (Dc (Fr K) x)).rx _ _ _ rxB h
    refine qp_asgN (en_dnew (S := Fr K)) fun q H3 nq e3 hq => ?_
    obtain ⟨kv0, hp0, pd0⟩ := id hq
    have hkv0 : kv0 = [] := by cases pd0; rfl
    subst hkv0
    refine p_mapKeys (D := { nx := _, rt := _, bk := _, ct := _ }) (S := fun row => Dc (Fr K) row) (U := Fr K) (f := fun p : Str × AL Rat => (if p.1 = n then (1 : Rat) else 0)) (σf := fun x5 => [some (.ref dA), some (.int (k : Int)), some (.ref l), some (.str n), some (.ref q), x5, x6, x7]) (j := 5) (ip := 4) (a0 := x5) ok.nd (fun _ _ => rfl) (fun _ => rfl) (fun _ => rfl) (fun od => ep_var (i := 0) rfl is_rfl) rA2 pA2 e3 nq hp0 (by omega)
      (fun od2 j pr H' hj rx' hd' pd' => ?_) fun x5' H4 e4 hm4 => ?_
    · have h1 := ep_intB (σ := [some (.ref dA), some (.int (k : Int)), some (.ref l), some (.str n), some (.ref q), some (.str pr.1), x6, x7]) (H := H') (ep_eqS (i := pr.1) (j := n) (ta := tVar 5) (tb := tVar 3) (ep_var (i := 5) rfl is_rfl) (ep_var (i := 3) rfl is_rfl))
      by_cases hc : pr.1 = n
      · rw [decide_eq_true hc] at h1
        rw [if_pos hc]
        exact ep_frac (n := 1) (d := 1) (eas_cons h1 (eas_cons ep_i eas_nil)) ok1 rfl rfl
      · rw [decide_eq_false hc] at h1
        rw [if_neg hc]
        exact ep_frac (n := 0) (d := 1) (eas_cons h1 (eas_cons ep_i eas_nil)) ok0 rfl rfl
    dsimp only
    have hun : (A.map fun p : Str × AL Rat => (p.1, if p.1 = n then (1 : Rat) else 0)) = unitM A n := by unfold unitM; rw [List.map_map]; rfl
    rw [hun] at hm4
    have e24 : Ex (lck H dA od (.dK kA)) H4 := e2.trans e4
    have hl4 := hl2.ex e4
    obtain ⟨vl, hvl, _⟩ := id hl2
    have hlq : l ≠ q := fun z => by rw [z, nq] at hvl; cases hvl
    refine p_ledLoop (D := { nx := tSeq _ _ _, rt := _, bk := _, ct := _ }) (B := H2) (A := A) (t0 := unitM A n) (many := k) (σf := fun a v => [some (.ref dA), some (.int (k : Int)), some (.ref l), some (.str n), some v, x5', a, x7]) (a0 := x6) (q0 := q) (vA := .ref dA) (ia := 0) (io := 4) (j := 6) (fun _ _ _ => rfl) (fun _ _ _ => rfl) (fun _ _ => rfl) (fun _ _ => rfl) hA2 e4 nq hm4 lek (ep_var (i := 1) rfl is_rfl) (ok.led n hn) fun x6' t H5 nt e5 ht => ?_
    dsimp only
    refine qp_asg (R := Fr K 0) (ep_frac (n := 0) (d := 1) (eas_cons ep_i (eas_cons ep_i eas_nil)) ok0 rfl rfl) fun w7 H6 e6 hw7 => ?_
    have ht6 := ht.ex e6
    obtain ⟨kt, hkt, pkt⟩ := id ht6
    obtain ⟨tt, htt⟩ : ∃ tt, ledN A (unitM A n) k = tt := ⟨_, rfl⟩
    have okt := ok.ok n hn
    have ndt := ok.ndl n hn
    rw [htt] at pkt okt ndt ht6
    refine p_forKeys (D := { nx := _, rt := _, bk := _, ct := _ }) (S := Fr K) (m := tt) (d := t) (kvs := kt) (B := H6) (fun od => ep_var (i := 4) rfl is_rfl) (.inl hkt) pkt (Ex.refl _)
      (fun BL j σ' H' => ∃ y5 w, σ' = [some (.ref dA), some (.int (k : Int)), some (.ref l), some (.str n), some (.ref t), y5, x6', some w] ∧ Ex BL H' ∧ Fr K (fsum ((tt.map fun p => p.2).take j)) H' w)
      (fun od3 H7 e7 => ⟨_, _, rfl, e7, (hw7.kp (kp_upd (by rw [hkt]; trivial))).ex e7⟩) (fun BL j σ' H' ⟨_, _, _, e, _⟩ => e) ?_ ?_
    · rintro od3 j ⟨n', q'⟩ σ' H7 rt' bk' hj ⟨y5, w, rfl, e7, hw⟩
      have hT : Dc (Fr K) tt H7 (.ref t) := ⟨t, kt, rfl, .inr ⟨od3, e7 t _ upd_same⟩, pkt.map fun x u hu => (hu.kp (kp_upd (by rw [hkt]; trivial))).ex e7⟩
      have hj' : (tt.map fun p => p.2)[j]? = some q' := by rw [List.getElem?_map, hj]; rfl
      have okj := okt (j + 1)
      rw [fsum_snoc hj'] at okj
      refine p_asg (R := Fr K (fsum ((tt.map fun p => p.2).take j) + q')) (ep_plus (ep_var (i := 7) rfl hw) (ep_dget (S := Fr K) (m := tt) (ep_var (i := 4) rfl hT) (ep_var (i := 5) rfl is_rfl) (aget_of_nd ndt (List.mem_of_getElem? hj))) okj) fun z H8 e8 hz => ⟨_, _, rfl, e7.trans e8, ?_⟩
      rw [fsum_snoc hj']
      exact hz
    · rintro od3 u1 σ' H7 hu1 ⟨y5, w, rfl, e7, hw⟩
      have hml : (tt.map fun p => p.2).take tt.length = tt.map fun p => p.2 := List.take_of_length_le (by rw [List.length_map]; exact Nat.le_refl _)
      rw [hml] at hw
      have h7t : H7 t = some (.frz od3 (.dK kt)) := e7 t _ upd_same
      have eF : Ex H6 (upd H7 t u1) := ex_unlock e7 hu1
      have hwF := hw.kp (kp_upd (p := t) (o := u1) (by rw [h7t]; trivial))
      have eAll := e2.trans (e5.trans (e6.trans eF))
      have hlF : LsM (Fr K) ((leftsF A k).take i) (upd H7 t u1) l := hl2.ex ((e5.trans e6).trans eF)
      refine p_appM (D := { nx := _, rt := _, bk := _, ct := _ }) (x := leftOf A k n) hlF (by unfold leftsF; rw [List.length_take, List.length_map, List.length_map]; omega) (ep_var (i := 2) rfl is_rfl) (ep_var (i := 7) rfl (by unfold leftOf; rw [htt]; exact hwF)) fun H8 x8 h8 => ⟨_, _, _, _, _, rfl, ExB.ex eAll nB x8, ?_⟩
      have hgi : (leftsF A k)[i]? = some (leftOf A k n) := by unfold leftsF; rw [List.getElem?_map, hni]; rfl
      rw [List.take_add_one, hgi]
      exact h8
  · rintro od u1 σ' H2 hu1 ⟨x3, x4, x5, x6, x7, rfl, e2, hl2⟩
    rw [List.take_of_length_le (by unfold leftsF; rw [List.length_map, List.length_map]; exact Nat.le_refl _)] at hl2
    have h2d : H2 dA = some (.frz od (.dK kA)) := e2 dA _ upd_same
    have eF : Ex H (upd H2 dA u1) := ex_unlock e2 hu1
    have hlF := hl2.kpu (Ne.symm ndl) (ExB.upd (o := u1)) (by rw [h2d]; trivial)
    dsimp only
    refine p_ret (R := Is (.ref l)) (ep_var (i := 2) rfl is_rfl) fun u H3 e3 hu => ?_
    cases (show u = _ from hu)
    exact kq l H3 nl (eF.trans e3) (hlF.ex e3)
theorem len_law_bound_right (K : PySem.W.Frag) : ∀ vs H Q E, sp_law_bound_right K vs H Q E → vs.length = 2 := by
  rintro vs H Q E ⟨v, w, A, m, k, rfl, _⟩; rfl
theorem rd_law_bound_right (C : Cst K) (vs : List V) (H : Hp) (Q : VK) (E : XK) (h : sp_law_bound_right K vs H Q E) : t_law_bound_right K (BE Q) (start ["_law_tab", "_law_bound", "_law_k", "_law_share", "_law_found", "_law_one"] vs) H := by
  obtain ⟨v, w, A, m, k, rfl, hA, hw, ok, kq⟩ := h
  obtain ⟨T, a, b, rfl, hT, ha, hb⟩ := Tp.two hw
  cases (show a = _ from ha)
  refine ⟨.ref T, rfl, tup2 (j1 := 2) (j2 := 3) hT ?_⟩
  have hm0 : Fr K m H b := hb
  have pos := ok.pos
  refine qp_asgN (en_law_left (ep_var (i := 0) rfl hA) (ep_var (i := 2) rfl is_rfl) ok.lf) fun f H1 nf e1 hf => ?_
  have one : ∀ {σ : L2.St} {H' : Hp}, EvP (tTup (tCons (tC (.int 1)) (tCons (tC (.int 1)) tNil))) σ H' (Fr K 1) := ep_frac (n := 1) (d := 1) (eas_cons ep_i (eas_cons ep_i eas_nil)) ok1 rfl rfl
  have hb1 := hm0.ex e1
  have hA1 : TabR K A H1 v := (inferInstance : StayX (TabR K A)).ex _ _ _ e1 hA
  refine q_when (b := false) (et_is (et_or (a := !decide (m ∈ leftsF A k)) (b := !decide (m < 1)) (et_t (ep_notinD (ep_var (i := 3) rfl hb1) (ep_var (i := 4) rfl hf.ls))) fun _ => et_not (et_b (ep_under (ep_var (i := 3) rfl hb1) one))) ?_) (fun z => nomatch z) fun _ H2 e2 => ?_
  · rw [decide_eq_true ok.mem, decide_eq_true ok.lt]; rfl
  have hb2 := hb1.ex e2
  have hf2 := hf.ex e2
  have hA2 : TabR K A H2 v := (inferInstance : StayX (TabR K A)).ex _ _ _ e2 hA1
  have llen : (leftsF A k).length = A.length := by unfold leftsF; rw [List.length_map, List.length_map]
  have lA := ok.lf.len
  have hfil : (leftsF A k).filter (fun q => decide (m < q)) = [] := by
    rw [List.filter_eq_nil_iff]
    intro q hq
    simpa using ok.top q hq
  refine q_when (b := false) (et_t (ep_neL (S := Fr K) (xs := []) (ys := []) (EvN.ls ?_) rfl (EvN.ls en_nil))) (fun z => nomatch z) fun _ H3 e3 => ?_
  · have h := en_lc (U := Fr K) (σ := [some v, some (.ref T), some (.int (k : Int)), some b, some (.ref f), none]) (H := H2) (te := tVar 5) (g := gName 5) (tt := tB (tCall (sp_law_under K) [] E0 (tCons (tVar 3) (tCons (tVar 5) tNil)))) (vs := [5]) (p := fun q => decide (m < q)) (f := id)
      (ei_list (K := K) (S := Fr K) (xs := leftsF A k) (ep_var (i := 4) rfl hf2.ls)) (by omega) fun q x H9 e9 hq hx => ⟨[some v, some (.ref T), some (.int (k : Int)), some b, some (.ref f), some x], fun Q q => q, rfl, et_b (ep_under (ep_var (i := 3) rfl (hb2.ex e9)) (ep_var (i := 5) rfl hx)), fun _ => ep_var (i := 5) rfl hx⟩
    rw [List.map_id, hfil] at h
    exact h
  · have hA3 : TabR K A H3 v := (inferInstance : StayX (TabR K A)).ex _ _ _ e3 hA2
    refine p_ret (R := Is (.bl true)) (ep_is (ep_inD one (EvN.ls (en_law_left (ep_var (i := 0) rfl hA3) (ep_ii (ep_subI (ep_var (i := 2) rfl is_rfl) ep_i) (show (k : Int) - 1 = ((k - 1 : Nat) : Int) by omega)) ok.lf'))) (by rw [decide_eq_true ok.one])) fun u H4 e4 hu => kq u H4 (((e1.trans e2).trans e3).trans e4) hu
end
end Tc
set_option Elab.async false
set_option linter.all false
set_option maxRecDepth 100000
set_option maxHeartbeats 4000000
set_option exponentiation.threshold 10000
namespace Tc
open PySem PySem.Spec PyProof.Rows L2 Evl
section
variable {K : PySem.W.Frag}
theorem addAll_len (f g : AL Rat) (ns : List Str) : (addAll f g ns).length ≤ f.length + ns.length := by
  unfold addAll
  induction ns generalizing f with
  | nil => simp
  | cons n r ih =>
    rw [List.foldl_cons, List.length_cons]
    have h1 := ih (aput f n ((aget f n).getD 0 + (aget g n).getD 0))
    have h2 := aput_len f n ((aget f n).getD 0 + (aget g n).getD 0)
    omega
theorem ledM_len (A : AL (AL Rat)) (t : AL Rat) : (ledM A t).length ≤ t.length := by
  unfold ledM
  rw [leadF_len]
  have := zerosM_len (t.map (·.1))
  rw [List.length_map] at this
  exact this
theorem ledN_len (A : AL (AL Rat)) (t : AL Rat) (k : Nat) : (ledN A t k).length ≤ t.length := by
  induction k with
  | zero => exact Nat.le_refl _
  | succ k ih => exact Nat.le_trans (ledM_len A _) ih
theorem agesTo_len (A : AL (AL Rat)) (b t : AL Rat) (many i : Nat) : (agesTo A b t many i).length ≤ t.length + i * t.length := by
  induction i with
  | zero =>
    have := ledN_len A t many
    show (ledN A t many).length ≤ _
    omega
  | succ i ih =>
    show (addAll (agesTo A b t many i) (ledN A b i) (t.map fun p => p.1)).length ≤ _
    have h := addAll_len (agesTo A b t many i) (ledN A b i) (t.map fun p => p.1)
    rw [List.length_map] at h
    rw [Nat.succ_mul]
    omega
theorem len_law_ages_right (K : PySem.W.Frag) : ∀ vs H Q E, sp_law_ages_right K vs H Q E → vs.length = 5 := by
  rintro vs H Q E ⟨v, w, u, z, house, steps, t, many, rfl, _⟩; rfl
theorem rd_law_ages_right (C : Cst K) (vs : List V) (H : Hp) (Q : VK) (E : XK) (h : sp_law_ages_right K vs H Q E) : t_law_ages_right K (BE Q) (start ["_law_house_here", "_law_steps", "_law_tab", "_law_totals", "_law_many", "_law_found", "_law_left_here", "_law_turn", "_law_age", "_law_name"] vs) H := by
  obtain ⟨v, w, u, z, house, steps, t, many, rfl, hh, hs, hA, hT, ok, kq⟩ := h
  have lm := ok.by_.le
  have lt := ok.len
  have lek : many ≤ 100 := lm
  refine qp_asgN (S := LsM (fun m => Dc (Fr K) m) ((List.range many).map (ledN (ctabM house steps) (btoM house steps)))) (en_call (eas_cons (ep_var (i := 0) rfl hh) (eas_cons (ep_var (i := 1) rfl hs) (eas_cons (ep_var (i := 4) rfl (is_rfl (x := .int (many : Int)))) eas_nil))) fun H1 us e r Q' k' => ?_) fun f H1 nf e1 hf => ?_
  · obtain ⟨a, b, c, rfl, ra, rb, rc⟩ := r.three
    cases (show c = _ from rc)
    exact ⟨a, b, house, steps, many, rfl, ra, rb, ok.by_, k'⟩
  obtain ⟨vf, hvf, _⟩ := id hf
  have lenf : ((List.range many).map (ledN (ctabM house steps) (btoM house steps))).length = many := by rw [List.length_map, List.length_range]
  refine q_when (b := false) (et_is (et_or (a := !true) (b := !decide ((many : Int) = (many : Int))) (et_not (et_b (ep_isList (ep_var (i := 5) rfl is_rfl) hvf))) fun _ => et_t (ep_neI (ep_ii (ep_len (K := K) (S := fun m => Dc (Fr K) m) (ep_var (i := 5) rfl hf.ls)) (by rw [lenf])) (ep_var (i := 4) rfl is_rfl))) (by simp)) (fun z => nomatch z) fun _ H2 e2 => ?_
  have eH2 := e1.trans e2
  have hT2 : Dc (Fr K) t H2 z := (inferInstance : StayX (Dc (Fr K) t)).ex _ _ _ eH2 hT
  have hA2 : TabR K (ctabM house steps) H2 u := (inferInstance : StayX (TabR K (ctabM house steps))).ex _ _ _ eH2 hA
  have hf2 : Ls K (fun m => Dc (Fr K) m) ((List.range many).map (ledN (ctabM house steps) (btoM house steps))) H2 (.ref f) := ls_Rx (rx_ex e2) hf.ls
  obtain ⟨A, hAe⟩ : ∃ A, ctabM house steps = A := ⟨_, rfl⟩
  obtain ⟨b, hbe⟩ : ∃ b, btoM house steps = b := ⟨_, rfl⟩
  have okled := ok.led
  have okadd := ok.add
  have oklen := ok.lenr
  have okfin := ok.fin
  have oknd := ok.nd
  rw [hAe] at hA2 okled okadd oklen okfin
  rw [hAe, hbe] at hf2
  rw [hbe] at okadd oklen okfin
  obtain ⟨dt, kt, rfl, rt_, pt⟩ := id hT2
  refine qp_asgN (en_dictD (ep_var (i := 3) rfl hT2)) fun q H3 nq e3 hq => ?_
  refine p_ledLoop (D := { BE Q with nx := tSeq _ _ (BE Q) }) (B := H2) (A := A) (t0 := t) (many := many) (σf := fun a x => [some v, some w, some u, some (.ref dt), some (.int (many : Int)), some (.ref f), some x, a, none, none]) (a0 := none) (q0 := q) (vA := u) (ia := 2) (io := 6) (j := 7) (fun _ _ _ => rfl) (fun _ _ _ => rfl) (fun _ _ => rfl) (fun _ _ => rfl) hA2 e3 nq hq lek (ep_var (i := 4) rfl is_rfl) okled fun x7 g H4 ng e4 hg => ?_
  dsimp only
  have nd_ : dt ≠ g := rd_ne rt_ ng
  refine q_forR1 (D := BE Q) (n := (many : Int)) (ea_one (ep_var (i := 4) rfl is_rfl)) (by omega)
    (fun i σ' H' => ∃ x8 x9, σ' = [some v, some w, some u, some (.ref dt), some (.int (many : Int)), some (.ref f), some (.ref g), x7, x8, x9] ∧ Ex H2 H' ∧ DcM (Fr K) (agesTo A b t many i) H' g)
    (fun H5 e5 => ⟨_, _, rfl, e4.trans e5, hg.ex e5⟩) ?_ ?_
  · rintro i σ' H5 hi ⟨x8, x9, rfl, e5, hg5⟩
    have hi' : i < many := by omega
    obtain ⟨u0, hu0, hk0⟩ := lk_of rt_
    refine p_forKeys (S := Fr K) (m := t) (d := dt) (kvs := kt) (B := H2) (fun od => ep_var (i := 3) rfl is_rfl) rt_ pt e5
      (fun BL j σ' H' => ∃ y9, σ' = [some v, some w, some u, some (.ref dt), some (.int (many : Int)), some (.ref f), some (.ref g), x7, some (.int (i : Int)), y9] ∧ Ex BL H' ∧ DcM (Fr K) (addAll (agesTo A b t many i) (ledN A b i) ((t.map fun p => p.1).take j)) H' g)
      (fun od H6 e6 => ⟨_, rfl, (ex_lock e5).trans e6, (hg5.kpu (Ne.symm nd_) ExB.upd (by rw [e5 dt _ hu0]; exact lk_nt hk0 (fun xs z => by cases z))).ex e6⟩) (fun BL j σ' H' ⟨_, _, e, _⟩ => e) ?_ ?_
    · rintro od j ⟨n, r⟩ σ' H6 rt bk hj ⟨y9, rfl, e6, hg6⟩
      have hnj : (t.map fun p => p.1)[j]? = some n := by rw [List.getElem?_map, hj]; rfl
      obtain ⟨x, y, hx, hy, oxy⟩ := okadd i hi' j n hnj
      have nB : (lck H2 dt od (.dK kt)) g = none := by unfold lck; rw [upd_ne (Ne.symm nd_)]; exact ng
      have rx6 : Rx H2 H6 := (rx_lock hu0 hk0).trans (rx_ex e6)
      have hf6 : Ls K (fun m => Dc (Fr K) m) ((List.range many).map (ledN A b)) H6 (.ref f) := ls_Rx rx6 hf2
      have hfi : ((List.range many).map (ledN A b))[i]? = some (ledN A b i) := by rw [List.getElem?_map, List.getElem?_range hi']; rfl
      have hll : (addAll (agesTo A b t many i) (ledN A b i) ((t.map fun p => p.1).take j)).length < 10000 := by
        have h1 := addAll_len (agesTo A b t many i) (ledN A b i) ((t.map fun p => p.1).take j)
        have h2 := agesTo_len A b t many i
        rw [List.length_take, List.length_map] at h1
        have h3 : i * t.length ≤ 100 * 60 := Nat.mul_le_mul (by omega) lt
        omega
      refine p_putM (S := Fr K) (x := x + y) hg6 hll (ep_plus (ep_dget (S := Fr K) (ep_var (i := 6) rfl hg6.dc) (ep_var (i := 9) rfl is_rfl) hx) (ep_dget (S := Fr K) (m := ledN A b i) (ep_ixL (S := fun m => Dc (Fr K) m) (xs := (List.range many).map (ledN A b)) (ep_var (i := 5) rfl hf6) (ep_var (i := 8) rfl is_rfl) hfi) (ep_var (i := 9) rfl is_rfl) hy) oxy) (ep_var (i := 6) rfl is_rfl) (ep_var (i := 9) rfl is_rfl) fun H7 x7' h7 => ⟨_, rfl, ExB.ex e6 nB x7', ?_⟩
      have es : addAll (agesTo A b t many i) (ledN A b i) ((t.map fun p => p.1).take (j + 1)) = aput (addAll (agesTo A b t many i) (ledN A b i) ((t.map fun p => p.1).take j)) n (x + y) := by
        unfold addAll at hx ⊢
        rw [fold_snoc hnj, hx, hy]
        rfl
      rw [es]
      exact h7
    · rintro od u1 σ' H6 hu1 ⟨y9, rfl, e6, hg6⟩
      rw [List.take_of_length_le (by rw [List.length_map]; exact Nat.le_refl _)] at hg6
      have h6d : H6 dt = some (.frz od (.dK kt)) := e6 dt _ upd_same
      exact ⟨_, _, rfl, ex_unlock e6 hu1, hg6.kpu (Ne.symm nd_) (ExB.upd (o := u1)) (by rw [h6d]; trivial)⟩
  · rintro σ' H5 ⟨x8, x9, rfl, e5, hg5⟩
    rw [Int.toNat_natCast] at hg5
    have rt5 : Rd H5 dt (.dK kt) := ex_rd e5 rt_
    refine p_ret (R := Is (.bl true)) (ep_op (R1 := Is (.ref g)) (R2' := Is (.ref dt)) (ep_var (i := 6) rfl is_rfl) (ep_var (i := 3) rfl is_rfl) fun H6 x y e6 rx ry Q' k' => ?_) fun y H6 e6 hy => kq y H6 (eH2.trans (e5.trans e6)) hy
    cases (show x = _ from rx)
    cases (show y = _ from ry)
    obtain ⟨kg, hkg, pkg⟩ := hg5.ex e6
    exact ⟨g, dt, rfl, rfl, ⟨kg, kt, _, t, .inl hkg, ex_rd e6 rt5, pkg, pt.map fun x w hw => hw.ex (e5.trans e6), oklen, okfin⟩, k' _ H6 (Ex.refl _) rfl⟩
theorem len_law_means_right (K : PySem.W.Frag) : ∀ vs H Q E, sp_law_means_right K vs H Q E → vs.length = 4 := by
  rintro vs H Q E ⟨v, w, u, z, house, steps, t, rfl, _⟩; rfl
theorem rd_law_means_right (C : Cst K) (vs : List V) (H : Hp) (Q : VK) (E : XK) (h : sp_law_means_right K vs H Q E) : t_law_means_right K (BE Q) (start ["_law_house_here", "_law_steps", "_law_tab", "_law_totals", "_law_mids", "_law_older", "_law_name", "_law_led_here"] vs) H := by
  obtain ⟨v, w, u, z, house, steps, t, rfl, hh, hs, hA, hT, ok, kq⟩ := h
  have lt := ok.len
  refine qp_asgN (S := DcM (Fr K) (midsM (ctabM house steps) (btoM house steps))) (en_call (eas_cons (ep_var (i := 0) rfl hh) (eas_cons (ep_var (i := 1) rfl hs) eas_nil)) fun H1 us e r Q' k' => ?_) fun f H1 nf e1 hf => ?_
  · obtain ⟨a, b, rfl, ra, rb⟩ := r.two
    exact ⟨a, b, house, steps, rfl, ra, rb, ok.ma, k'⟩
  have okmid := ok.mid
  have okled := ok.led
  have okfin := ok.fin
  have oknd := ok.nd
  generalize ctabM house steps = A at *
  generalize midsM A (btoM house steps) = mids at *
  have hT1 : Dc (Fr K) t H1 z := (inferInstance : StayX (Dc (Fr K) t)).ex _ _ _ e1 hT
  have hA1 : TabR K A H1 u := (inferInstance : StayX (TabR K A)).ex _ _ _ e1 hA
  obtain ⟨dt, kt, rfl, rt_, pt⟩ := id hT1
  refine qp_asgN (en_dnew (S := Fr K)) fun o H2 no e2 ho => ?_
  obtain ⟨kv0, hp0, pd0⟩ := id ho
  have hkv0 : kv0 = [] := by cases pd0; rfl
  subst hkv0
  have hfD : Dc (Fr K) mids H1 (.ref f) := hf.dc
  refine p_mapKeys (D := { BE Q with nx := tSeq _ _ (BE Q) }) (S := Fr K) (U := Fr K) (f := fun p : Str × Rat => (aget mids p.1).getD 0 * p.2 + p.2) (σf := fun x6 => [some v, some w, some u, some (.ref dt), some (.ref f), some (.ref o), x6, none]) (j := 6) (ip := 5) (a0 := none) oknd (fun _ _ => rfl) (fun _ => rfl) (fun _ => rfl) (fun od => ep_var (i := 3) rfl is_rfl) rt_ pt e2 no hp0 (by omega)
    (fun od i pr H' hi rx' hd' pd' => ?_) fun x6 H3 e3 hm3 => ?_
  · have hmem := List.mem_of_getElem? hi
    obtain ⟨q, hq, oq1, oq2⟩ := okmid pr hmem
    have hgt := aget_of_nd oknd hmem
    have hT' : Dc (Fr K) t H' (.ref dt) := (inferInstance : StayR (Dc (Fr K) t)).rx _ _ _ rx' hT1
    have hf' : Dc (Fr K) mids H' (.ref f) := (inferInstance : StayR (Dc (Fr K) mids)).rx _ _ _ rx' hfD
    rw [hq]
    have gT : EvP (tDGet (tVar 3) (tVar 6)) [some v, some w, some u, some (.ref dt), some (.ref f), some (.ref o), some (.str pr.1), none] H' (Fr K pr.2) := ep_dget (S := Fr K) (m := t) (ep_var (i := 3) rfl hT') (ep_var (i := 6) rfl is_rfl) hgt
    exact ep_plus (ep_times (ep_dget (S := Fr K) (m := mids) (ep_var (i := 4) rfl hf') (ep_var (i := 6) rfl is_rfl) hq) gT oq1) gT oq2
  dsimp only
  have hm3 : DcM (Fr K) (olderM mids t) H3 o := hm3
  refine qp_asgN (en_law_led (ep_var (i := 2) rfl ((inferInstance : StayX (TabR K A)).ex _ _ _ e3 hA1)) (ep_var (i := 5) rfl hm3.dc) okled) fun g H4 ng e4 hg => ?_
  have e14 := e3.trans e4
  have hT4 : Dc (Fr K) t H4 (.ref dt) := (inferInstance : StayX (Dc (Fr K) t)).ex _ _ _ e14 hT1
  have hf4 : Dc (Fr K) mids H4 (.ref f) := (inferInstance : StayX (Dc (Fr K) mids)).ex _ _ _ e14 hfD
  have rt4 : Rd H4 dt (.dK kt) := ex_rd e14 rt_
  have pt4 : PD (Fr K) H4 kt t := pt.map fun x w hw => hw.ex e14
  obtain ⟨u0, hu0, hk0⟩ := lk_of rt4
  refine p_forKeys (D := { BE Q with nx := tRet (tC (.bl true)) (BE Q) }) (S := Fr K) (m := t) (d := dt) (kvs := kt) (B := H4) (fun od => ep_var (i := 3) rfl is_rfl) rt4 pt4 (Ex.refl _)
    (fun BL i σ' H' => ∃ y6, σ' = [some v, some w, some u, some (.ref dt), some (.ref f), some (.ref o), y6, some (.ref g)] ∧ Ex BL H') (fun od H5 e5 => ⟨_, rfl, e5⟩) (fun BL i σ' H' ⟨_, _, e⟩ => e) ?_ ?_
  · rintro od i pr σ' H5 rt bk hi ⟨y6, rfl, e5⟩
    have hmem := List.mem_of_getElem? hi
    obtain ⟨q, hq, oq1, oq2⟩ := okmid pr hmem
    obtain ⟨q', hq', hfin⟩ := okfin pr hmem
    have hqq : q' = q := by rw [hq] at hq'; cases hq'; rfl
    subst hqq
    have hgt := aget_of_nd oknd hmem
    have rx5 : Rx H4 H5 := (rx_lock hu0 hk0).trans (rx_ex e5)
    have hT5 : Dc (Fr K) t H5 (.ref dt) := (inferInstance : StayR (Dc (Fr K) t)).rx _ _ _ rx5 hT4
    have hf5 : Dc (Fr K) mids H5 (.ref f) := (inferInstance : StayR (Dc (Fr K) mids)).rx _ _ _ rx5 hf4
    have hg5 : Dc (Fr K) (ledM A (olderM mids t)) H5 (.ref g) := (inferInstance : StayR (Dc (Fr K) (ledM A (olderM mids t)))).rx _ _ _ rx5 hg.dc
    refine s_when (b := false) (et_is (et_t (ep_neF (ep_dget (S := Fr K) (m := ledM A (olderM mids t)) (ep_var (i := 7) rfl hg5) (ep_var (i := 6) rfl is_rfl) hfin) (ep_times (ep_dget (S := Fr K) (m := mids) (ep_var (i := 4) rfl hf5) (ep_var (i := 6) rfl is_rfl) hq) (ep_dget (S := Fr K) (m := t) (ep_var (i := 3) rfl hT5) (ep_var (i := 6) rfl is_rfl) hgt) oq1))) (by simp)) (fun z => nomatch z) fun _ H6 e6 => ⟨_, rfl, e5.trans e6⟩
  · rintro od u1 σ' H5 hu1 ⟨y6, rfl, e5⟩
    have eF : Ex H4 (upd H5 dt u1) := ex_unlock e5 hu1
    dsimp only
    refine p_ret (R := Is (.bl true)) (ep_c rfl) fun y H6 e6 hy => kq y H6 ((e1.trans e14).trans (eF.trans e6)) hy
end
end Tc
set_option Elab.async false
set_option linter.all false
set_option maxRecDepth 100000
set_option maxHeartbeats 4000000
set_option exponentiation.threshold 10000
namespace Tc
open PySem PySem.Spec PyProof.Rows L2 Evl
theorem rise_pw : ∀ (l : List Str) (p : Str), risingS p l = true → (p :: l).Pairwise fun a b => a.cps.toList ≤ b.cps.toList
  | [], p, _ => by simp
  | x :: r, p, h => by
    have h' : (!ltCps x.cps.toList p.cps.toList && risingS x r) = true := h
    rw [Bool.and_eq_true, PyProof.Rows.ltCps_eq] at h'
    obtain ⟨h1, h2⟩ := h'
    have h1 : p.cps.toList ≤ x.cps.toList := by
      have : decide (x.cps.toList < p.cps.toList) = false := by simpa using h1
      exact of_decide_eq_false this
    have ih := rise_pw r x h2
    rw [List.pairwise_cons]
    refine ⟨fun b hb => ?_, ih⟩
    rcases List.mem_cons.mp hb with hb | hb
    · rw [hb]; exact h1
    · exact List.le_trans h1 ((List.pairwise_cons.mp ih).1 b hb)
theorem sorted_pw {l : List Str} (h : sortedS l = true) : l.Pairwise fun a b => a.cps.toList ≤ b.cps.toList := by
  cases l with
  | nil => exact .nil
  | cons x r => exact rise_pw r x h
theorem sorted_eq {a b k : List Str} (ha : a.Perm k) (hb : b.Perm k) (sa : sortedS a = true) (sb : sortedS b = true) : a = b := by
  refine List.Perm.eq_of_pairwise (le := fun a b : Str => a.cps.toList ≤ b.cps.toList) (fun x y _ _ h1 h2 => ?_) (sorted_pw sa) (sorted_pw sb) (ha.trans hb.symm)
  have e := List.le_antisymm h1 h2
  cases x
  cases y
  congr 1
  exact Array.toList_inj.mp e
section
variable {K : PySem.W.Frag} {σ : L2.St} {H H' : Hp} {ta tb te : TE} {D : Ends} {tz : TS}
theorem qp_asg2 {R1 R2' : HV} {j1 j2 : Nat} (h : EvP te σ H (Tp K [R1, R2'])) (k : ∀ a b H1, Ex H H1 → R1 H1 a → R2' H1 b → tz D ((σ.set j1 (some a)).set j2 (some b)) H1) : tSeq (tAsg te (gTup K 2 (gCons (gName j1) (gCons (gName j2) gNil)))) tz D σ H := h H (Ex.refl H) _ fun v H1 e r => by
  obtain ⟨T, a, b, rfl, hT, ha, hb⟩ := r.two
  exact tup2 hT (k a b H1 e ha hb)
theorem ep_lenT {Rs : List HV} (h : EvP ta σ H (Tp K Rs)) : EvP (tCB (rLenS K) (tCons ta tNil)) σ H (Is (.int (Rs.length : Int))) := fun H1 e Q k => h H1 e _ fun v H2 e2 rv => by
  obtain ⟨a, vs, rfl, s, pv⟩ := rv
  refine ⟨a, vs, rfl, .inr s, ?_⟩
  have hl : vs.length = Rs.length := Paired.length pv
  rw [hl]
  exact k _ H2 e2 rfl
theorem ep_slT2 {R1 R2' R3 : HV} [s1 : StayX R1] [s2 : StayX R2'] (h : EvP te σ H (Tp K [R1, R2', R3])) : EvP (tSl (rSlT K) te tNoPart (tPart (tC (.int 2)))) σ H (Tp K [R1, R2']) := fun H1 e Q k => h H1 e _ fun v H2 e2 rv => by
  obtain ⟨T, a, b, c, rfl, hT, ha, hb, hc⟩ := rv.three
  refine ⟨2, rfl, T, [a, b, c], rfl, hT, fun z => absurd (show HT.sIx 3 3 (some 2) = 3 from z.2) (by decide), fun p hp => k _ _ (e2.trans (Ex.new hp)) ⟨p, [a, b], rfl, SqT.of upd_same, .cons (s1.ex _ _ _ (Ex.new hp) ha) (.cons (s2.ex _ _ _ (Ex.new hp) hb) .nil)⟩⟩
theorem ep_neV {s : Str} {m m' : AL Rat} (ha : EvP ta σ H (Tp K [Is (.str s), Dc (Fr K) m])) (hb : EvP tb σ H (Tp K [Is (.str s), Dc (Fr K) m'])) (hl : m.length = m'.length) (hm : ∀ p ∈ m, aget m' p.1 = some p.2) : EvP (tOp (rNeV K) ta tb) σ H (Is (.bl false)) := ep_op ha hb fun H1 x y e rx ry Q k => by
  obtain ⟨T, a, b, rfl, hT, h1, h2⟩ := rx.two
  obtain ⟨T', a', b', rfl, hT', h1', h2'⟩ := ry.two
  cases (show a = _ from h1)
  cases (show a' = _ from h1')
  obtain ⟨d, ks, rfl, r, p⟩ := h2
  obtain ⟨d', ks', rfl, r', p'⟩ := h2'
  exact ⟨T, T', s, d, d', rfl, rfl, hT, hT', ⟨ks, ks', m, m', r, r', p, p', hl, hm⟩, k _ H1 (Ex.refl _) rfl⟩
/-- sorted, some order of the keys -/
def SoR (K : PySem.W.Frag) (ks : List Str) : HV := fun H v => ∃ ys, ys.Perm ks ∧ sortedS ys = true ∧ Ls K NmR ys H v
instance {ks : List Str} : StayR (SoR K ks) := ⟨fun H H' v e ⟨ys, a, b, c⟩ => ⟨ys, a, b, (inferInstance : StayR (Ls K NmR ys)).rx _ _ _ e c⟩⟩
theorem ls_ofstrs {ys : List Str} {p : Addr} (h : H p = some (.lst (ys.map V.str))) : Ls K NmR ys H (.ref p) := by
  refine ⟨p, _, rfl, SqL.of h, ?_⟩
  clear h
  induction ys with
  | nil => exact .nil
  | cons a r ih => exact .cons rfl ih
theorem ep_sortedD {α : Type} {S : α → HV} {m : AL α} (h : EvP ta σ H (Dc S m)) (hl : m.length < 64) : EvP (tCB rSortedD (tCons ta tNil)) σ H (SoR K (m.map fun p => p.1)) := fun H1 e Q k => h H1 e _ fun v H2 e2 rv => by
  obtain ⟨a, kvs, rfl, r, pd⟩ := rv
  refine ⟨a, kvs, m.map fun p => p.1, rfl, r, ?_, by rw [List.length_map]; exact hl, fun ys p h1 h2 hp => k _ _ (e2.trans (Ex.new hp)) ⟨ys, h1, h2, ls_ofstrs upd_same⟩⟩
  clear r k h hl
  induction pd with
  | nil => rfl
  | cons h _ ih =>
    rw [List.map_cons, List.map_cons, List.map_cons, ← ih, h.1]
theorem ep_so {α : Type} {S : α → HV} {m : AL α} {ks : List Str} (h : EvP ta σ H (Dc S m)) (hl : m.length < 64) (e : (m.map fun p => p.1) = ks) : EvP (tCB rSortedD (tCons ta tNil)) σ H (SoR K ks) := e ▸ ep_sortedD h hl
theorem ep_ixTX {j : Nat} {Rs : List HV} {R : HV} (ha : EvP ta σ H (Tp K Rs)) [StayX (Tp K Rs)] (hb : EvP tb σ H (Is (.int (j : Int)))) (hj : Rs[j]? = some R) : EvP (tOp (rIxT K) ta tb) σ H R := ep_op ha hb fun H1 a b e ra rb Q k => by
  cases (show b = _ from rb)
  obtain ⟨p, vs, e1, s, rs⟩ := ra
  obtain ⟨w, e2, rw'⟩ := rs.at hj
  exact ⟨p, vs, (j : Int), w, e1, rfl, s, atI_nat e2, k w H1 (Ex.refl _) rw'⟩
theorem ep_neSo {ks : List Str} (ha : EvP ta σ H (SoR K ks)) (hb : EvP tb σ H (SoR K ks)) : EvP (tOp (rNeS K) ta tb) σ H (Is (.bl false)) := ep_op ha hb fun H1 x y e rx ry Q k => by
  obtain ⟨ys, a1, a2, a3⟩ := rx
  obtain ⟨zs, b1, b2, b3⟩ := ry
  have e := sorted_eq b1 a1 b2 a2
  subst e
  obtain ⟨p, rfl, s⟩ := ls_strs a3
  obtain ⟨q, rfl, s'⟩ := ls_strs b3
  exact ⟨p, q, zs, rfl, rfl, s, s', k _ H1 (Ex.refl _) rfl⟩
end
def stOne (m : AL Rat) (p : Pl) : AL Rat := match p with | .cask n r => aput (aput m n 0) n r | .sink n => aput m n 0
theorem standM_eq (house : List Pl) : standM house = house.foldl stOne [] := rfl
theorem stAll_len (m : AL Rat) (ps : List Pl) : (ps.foldl stOne m).length ≤ m.length + 2 * ps.length := by
  induction ps generalizing m with
  | nil => simp
  | cons p r ih =>
    rw [List.foldl_cons, List.length_cons]
    have h1 := ih (stOne m p)
    have h2 : (stOne m p).length ≤ m.length + 2 := by
      cases p with
      | cask n q => exact Nat.le_trans (aput_len _ _ _) (Nat.succ_le_succ (aput_len _ _ _))
      | sink n => exact Nat.le_trans (aput_len _ _ _) (Nat.le_succ _)
    omega
section
variable {K : PySem.W.Frag}
theorem len_law (K : PySem.W.Frag) : ∀ vs H Q E, sp_law K vs H Q E → vs.length = 1 := by
  rintro vs H Q E ⟨v, ns, k, rfl, _⟩; rfl
theorem rd_law (C : Cst K) (vs : List V) (H : Hp) (Q : VK) (E : XK) (h : sp_law K vs H Q E) : t_law K (BE Q) (start ["_law_script", "_law_names_here", "_law_cells", "_law_house_here", "_law_year", "_law_deeds", "_law_last", "_law_standing", "_law_totals", "_law_place", "_law_steps", "_law_after", "_law_found", "_law_tab", "_law_k"] vs) H := by
  obtain ⟨v, ns, k, rfl, hs, ok, kq⟩ := h
  have hss : ∀ {H'}, Ex H H' → Ls K IntR ns H' v := fun e => ls_Rx (rx_ex e) hs
  have cell : ∀ {σ : L2.St} {H' : Hp} {j : Nat} {tk : TE}, σ[0]? = some (some v) → Ex H H' → EvP tk σ H' (Is (.int (j : Int))) → EvP (tCall (sp_law_cell_at K) [] E0 (tCons (tVar 0) (tCons tk tNil))) σ H' (Is (.int (cellAt ns j))) := fun h0 e hk => ep_cellAt (ep_var h0 (hss e)) hk
  have nl9 : (lawNames ns).length = 9 := by unfold lawNames namesF; rw [List.length_map, List.length_range]
  -- names
  refine qp_asg (R := Ls K NmR (lawNames ns)) (ep_call (eas_cons (cell (j := 0) rfl (Ex.refl _) ep_i) eas_nil) fun H1 us e r Q' k' => ?_) fun n H1 e1 hn => ?_
  · obtain ⟨a, rfl, ra⟩ := r.one
    cases (show a = _ from ra)
    exact ⟨cellAt ns 0, rfl, k'⟩
  -- cells
  refine qp_asgN (S := LsM IntR (lawCells ns)) ?_ fun pc H2 npc e2 hc => ?_
  · have h := en_lc (U := IntR) (σ := [some v, some n, none, none, none, none, none, none, none, none, none, none, none, none, none]) (H := H1) (te := tCall (sp_law_cell_at K) [] E0 (tCons (tVar 0) (tCons (tOp rPlusI (tC (.int 2)) (tVar 14)) tNil))) (g := gName 14) (tt := tYes) (vs := [14]) (p := fun _ => true) (f := fun j : Nat => cellAt ns (2 + j))
      (ei_range (n := 5) (eas_cons ep_i eas_nil) (by decide)) (by decide) fun j x H3 e3 hj hx => ⟨_, fun Q q => q, rfl, tYesT, fun _ => ?_⟩
    · rw [filt_true] at h
      exact h
    · cases (show x = _ from hx)
      exact cell (j := 2 + j) rfl (e1.trans e3) (ep_ii (ep_addI ep_i (ep_var (i := 14) rfl is_rfl)) (by omega))
  have e02 := e1.trans e2
  have hn2 : Ls K NmR (lawNames ns) H2 n := ls_Rx (rx_ex e2) hn
  -- house
  refine qp_asg (R := Ls K (PlR K) (lawHouse ns)) (ep_call (eas_cons (cell (j := 1) rfl e02 ep_i) (eas_cons (ep_var (i := 1) rfl hn2) eas_nil)) fun H3 us e r Q' k' => ?_) fun hv H3 e3 hh => ?_
  · obtain ⟨a, b, rfl, ra, rb⟩ := r.two
    cases (show a = _ from ra)
    exact ⟨cellAt ns 1, b, lawNames ns, rfl, rb, nl9, ok.rooms, k'⟩
  have e03 := e02.trans e3
  have y0 := Int.emod_nonneg (cellAt ns 1 / 7) (show (900 : Int) ≠ 0 by decide)
  refine qp_asg (R := Is (.int (lawYear ns))) (ep_addI ep_i (ep_modI (ep_divI (cell (j := 1) rfl e03 ep_i) ep_i (divS (by decide) (by decide))) ep_i (by decide))) fun yv H4 e4 hy => ?_
  cases (show yv = _ from hy)
  have e04 := e03.trans e4
  have hn4 : Ls K NmR (lawNames ns) H4 n := ls_Rx (rx_ex (e3.trans e4)) hn2
  have hh4 : Ls K (PlR K) (lawHouse ns) H4 hv := ls_Rx (rx_ex e4) hh
  have hc4 : Ls K IntR (lawCells ns) H4 (.ref pc) := ls_Rx (rx_ex (e3.trans e4)) hc.ls
  have h100 := ok.ss.h100
  have lc5 : (lawCells ns).length = 5 := by unfold lawCells; rw [List.length_map, List.length_range]
  -- the round
  refine qp_asg2 (R1 := Ls K (DdR K) (lawDeeds ns)) (R2' := AnyI) (ep_call (eas_cons (ep_var (i := 3) rfl hh4) (eas_cons (ep_var (i := 1) rfl hn4) (eas_cons (ep_var (i := 2) rfl hc4) eas_nil))) fun H5 us e r Q' k' => ?_) fun dv lv H5 e5 hd _ => ?_
  · obtain ⟨a, b, c, rfl, ra, rb, rc⟩ := r.three
    exact ⟨a, b, c, lawHouse ns, lawNames ns, lawCells ns, lawCs ns, rfl, ra, rb, rc, h100, nl9, lc5, ok.isC, ok.ro, k'⟩
  have e05 := e04.trans e5
  have hh5 : Ls K (PlR K) (lawHouse ns) H5 hv := ls_Rx (rx_ex e5) hh4
  -- standing, totals
  refine qp_asgN (en_dnew (S := Fr K)) fun s H6 nS e6 hS => ?_
  refine qp_asgN (en_dnew (S := Fr K)) fun t H7 nT e7 hT => ?_
  have nT5 : H5 t = none := fresh_back e6 nT
  have hst : s ≠ t := fun z => by
    obtain ⟨kv, hkv, _⟩ := hS
    rw [z, nT] at hkv; cases hkv
  refine p_forL (D := { BE Q with nx := tSeq _ _ (BE Q) }) (S := PlR K) (K := K) (xs := lawHouse ns) (v := hv) (B := H5) (ep_var (i := 3) rfl is_rfl) hh5
    (fun i σ' H' => ∃ x9, σ' = [some v, some n, some (.ref pc), some hv, some (.int (lawYear ns)), some dv, some lv, some (.ref s), some (.ref t), x9, none, none, none, none, none] ∧ Ex H5 H' ∧ DcM (Fr K) (((lawHouse ns).take i).foldl stOne []) H' s ∧ DcM (Fr K) (((lawHouse ns).take i).foldl rmOne []) H' t) (rx_ex (e6.trans e7))
    (fun H8 e8 => ⟨_, rfl, (e6.trans e7).trans e8, hS.ex (e7.trans e8), hT.ex e8⟩) (fun i σ' H' ⟨_, _, e, _⟩ => rx_ex e) ?_ ?_
  · rintro i p pv σ' H8 hi ⟨x9, rfl, e8, hS8, hT8⟩ hp
    have ll1 := stAll_len [] ((lawHouse ns).take i)
    have ll2 := rmAll_len [] ((lawHouse ns).take i)
    simp only [List.length_nil, List.length_take] at ll1 ll2
    have pvar : EvP (tVar 9) [some v, some n, some (.ref pc), some hv, some (.int (lawYear ns)), some dv, some lv, some (.ref s), some (.ref t), some pv, none, none, none, none, none] H8 (PlR K p) := ep_var (i := 9) rfl hp
    refine qp_putM (x := (0 : Rat)) hS8 (by omega) (ep_frac (n := 0) (d := 1) (eas_cons ep_i (eas_cons ep_i eas_nil)) ok0 rfl rfl) (ep_var (i := 7) rfl is_rfl) (pl_name pvar) fun H9 x9' h9 => ?_
    have e9 : Ex H5 H9 := ExB.ex e8 nS x9'
    have hT9 := hT8.kpu (Ne.symm hst) x9' hS8.nt
    have hp9 : PlR K p H9 pv := (inferInstance : Stay (PlR K p)).kp _ _ _ (x9'.kp hS8.nt) hp
    have pvar9 : EvP (tVar 9) [some v, some n, some (.ref pc), some hv, some (.int (lawYear ns)), some dv, some lv, some (.ref s), some (.ref t), some pv, none, none, none, none, none] H9 (PlR K p) := ep_var (i := 9) rfl hp9
    refine s_when (pl_test pvar9) (fun hb H10 e10 => ?_) fun hb H10 e10 => ?_
    · cases p with
      | sink nm => cases hb
      | cask nm r =>
        have h10 := h9.ex e10
        have la := aput_len (((lawHouse ns).take i).foldl stOne []) nm (0 : Rat)
        refine qp_putM (x := r) h10 (by show (aput _ nm 0).length < _; omega) (pl_room (pvar9.mono e10)) (ep_var (i := 7) rfl is_rfl) (pl_name (pvar9.mono e10)) fun H11 x11 h11 => ?_
        have hT10 := hT9.ex e10
        have hT11 := hT10.kpu (Ne.symm hst) x11 h10.nt
        have e11 : Ex H5 H11 := ExB.ex (e9.trans e10) nS x11
        have hp11 : PlR K (.cask nm r) H11 pv := (inferInstance : Stay (PlR K (.cask nm r))).kp _ _ _ ((kp_ex e10).trans (x11.kp h10.nt)) hp9
        have pvar11 : EvP (tVar 9) [some v, some n, some (.ref pc), some hv, some (.int (lawYear ns)), some dv, some lv, some (.ref s), some (.ref t), some pv, none, none, none, none, none] H11 (PlR K (.cask nm r)) := ep_var (i := 9) rfl hp11
        refine p_putM (x := r) hT11 (by omega) (pl_room pvar11) (ep_var (i := 8) rfl is_rfl) (pl_name pvar11) fun H12 x12 h12 => ⟨_, rfl, ExB.ex e11 nT5 x12, ?_, ?_⟩
        · rw [fold_snoc hi]
          exact h11.kpu hst x12 hT11.nt
        · rw [fold_snoc hi]
          exact h12
    · cases p with
      | cask nm r => cases hb
      | sink nm =>
        refine ⟨_, rfl, e9.trans e10, ?_, ?_⟩
        · rw [fold_snoc hi]
          exact h9.ex e10
        · rw [fold_snoc hi]
          exact hT9.ex e10
  rintro σ' H8 ⟨x9, rfl, e8, hS8, hT8⟩
  rw [List.take_length] at hS8 hT8
  have hS8 : DcM (Fr K) (standM (lawHouse ns)) H8 s := hS8
  have hT8 : DcM (Fr K) (roomsM (lawHouse ns)) H8 t := hT8
  dsimp only
  have e08 := e05.trans e8
  have hh8 : Ls K (PlR K) (lawHouse ns) H8 hv := ls_Rx (rx_ex e8) hh5
  have hd8 : Ls K (DdR K) (lawDeeds ns) H8 dv := ls_Rx (rx_ex e8) hd
  -- the steps
  refine qp_asg2 (R1 := Ls K (StpR K) (lawSteps ns)) (R2' := Dc (Fr K) (lawSs ns).tot) (ep_call (eas_cons (ep_var (i := 3) rfl hh8) (eas_cons (EvN.dc (en_dictD (ep_var (i := 7) rfl hS8.dc))) (eas_cons (ep_var (i := 4) rfl (is_rfl (x := .int (lawYear ns)))) (eas_cons (ep_var (i := 5) rfl hd8) eas_nil)))) fun H9 us e r Q' k' => ?_) fun sv av H9 e9 hst9 _ => ?_
  · obtain ⟨a, b, c, d, rfl, ra, rb, rc, rd⟩ := r.four
    cases (show c = _ from rc)
    exact ⟨a, b, d, lawHouse ns, standM (lawHouse ns), lawYear ns, lawDeeds ns, rfl, ra, rb, rd, ok.ss, k'⟩
  have e09 := e08.trans e9
  have hh9 : Ls K (PlR K) (lawHouse ns) H9 hv := ls_Rx (rx_ex e9) hh8
  have hT9 := hT8.ex e9
  -- the long run
  refine qp_asg (R := Tp K [Is (.str "lasting"), Dc (Fr K) (leftBy (ctabM (lawHouse ns) (lawSteps ns)) (btoM (lawHouse ns) (lawSteps ns))), Tp K [Is (.int (k : Int)), Fr K (mostM (leftN (ctabM (lawHouse ns) (lawSteps ns)) k))]]) (ep_call (eas_cons (ep_var (i := 3) rfl hh9) (eas_cons (EvN.ls (K := K) (en_listS (S := StpR K) (ep_var (i := 10) rfl hst9))) eas_nil)) fun H10 us e r Q' k' => ?_) fun fv H10 e10 hf => ?_
  · obtain ⟨a, b, rfl, ra, rb⟩ := r.two
    exact ⟨a, b, lawHouse ns, lawSteps ns, k, rfl, ra, rb, ok.lr, k'⟩
  have e010 := e09.trans e10
  have hT10 := hT9.ex e10
  have hh10 : Ls K (PlR K) (lawHouse ns) H10 hv := ls_Rx (rx_ex e10) hh9
  have hs10 : Ls K (StpR K) (lawSteps ns) H10 sv := ls_Rx (rx_ex e10) hst9
  obtain ⟨A, hA⟩ : ∃ A, ctabM (lawHouse ns) (lawSteps ns) = A := ⟨_, rfl⟩
  obtain ⟨b, hb⟩ : ∃ b, btoM (lawHouse ns) (lawSteps ns) = b := ⟨_, rfl⟩
  have oklen := ok.len
  have oksame := ok.same
  have okkeys := ok.keys
  have okbr := ok.br
  rw [hA, hb] at hf oklen oksame
  rw [hA] at okkeys okbr
  have fvar : ∀ {H'} {x13 x14 : Option V}, Ex H10 H' → EvP (tVar 12) [some v, some n, some (.ref pc), some hv, some (.int (lawYear ns)), some dv, some lv, some (.ref s), some (.ref t), x9, some sv, some av, some fv, x13, x14] H' (Tp K [Is (.str "lasting"), Dc (Fr K) (leftBy A b), Tp K [Is (.int (k : Int)), Fr K (mostM (leftN A k))]]) := fun e => ep_var (i := 12) rfl ((inferInstance : StayX (Tp K [Is (.str "lasting"), Dc (Fr K) (leftBy A b), Tp K [Is (.int (k : Int)), Fr K (mostM (leftN A k))]])).ex _ _ _ e hf)
  have tvar : ∀ {H'} {x13 x14 : Option V}, Ex H10 H' → EvP (tVar 8) [some v, some n, some (.ref pc), some hv, some (.int (lawYear ns)), some dv, some lv, some (.ref s), some (.ref t), x9, some sv, some av, some fv, x13, x14] H' (Dc (Fr K) (roomsM (lawHouse ns))) := fun e => ep_var (i := 8) rfl (hT10.ex e).dc
  refine q_when (b := false) (et_is (et_or (a := !true) (b := (!decide (((3 : Nat) : Int) = 3)) || false) (et_not (et_b (ep_isTup (fvar (Ex.refl _))))) fun _ => et_or (et_t (ep_neI (ep_lenT (fvar (Ex.refl _))) ep_i)) fun _ => et_t (ep_neV (ep_slT2 (fvar (Ex.refl _))) (ep_tup (K := K) (eas_cons ep_s (eas_cons (tvar (Ex.refl _)) eas_nil)) (show 2 ≤ 100000 by decide)) oklen oksame)) rfl) (fun z => nomatch z) fun _ H11 e11 => ?_
  have e011 := e010.trans e11
  have hh11 : Ls K (PlR K) (lawHouse ns) H11 hv := ls_Rx (rx_ex e11) hh10
  have hs11 : Ls K (StpR K) (lawSteps ns) H11 sv := ls_Rx (rx_ex e11) hs10
  refine qp_asg (R := TabR K (ctabM (lawHouse ns) (lawSteps ns))) (ep_casks_table (ep_var (i := 3) rfl hh11) (ep_var (i := 10) rfl hs11) ok.lr.tab) fun tv H12 e12 htab => ?_
  have e112 := e11.trans e12
  have lenA : (ctabM (lawHouse ns) (lawSteps ns)).length < 64 := by
    have h1 : ((ctabM (lawHouse ns) (lawSteps ns)).map fun p => p.1).length = ((roomsM (lawHouse ns)).map fun p => p.1).length := by rw [hA, okkeys]
    rw [List.length_map, List.length_map] at h1
    have := ok.kl
    omega
  have htT : Dc (fun row => Dc (Fr K) row) (ctabM (lawHouse ns) (lawSteps ns)) H12 tv := htab
  refine q_when (b := false) (et_is (et_or (a := false) (b := !true) (et_t (ep_neSo (ks := (roomsM (lawHouse ns)).map fun p => p.1) (ep_so (K := K) (ep_var (i := 13) rfl htT) lenA (by rw [hA, okkeys])) (ep_so (K := K) (S := Fr K) (tvar e112) (by have := ok.kl; omega) rfl))) fun _ => et_not (et_b (ep_call (eas_cons (ep_var (i := 13) rfl htab) (eas_cons (ep_ixTX (j := 2) (fvar e112) ep_i rfl) eas_nil)) fun H13 us e r Q' k' => ?_))) rfl) (fun z => nomatch z) fun _ H13 e13 => ?_
  · obtain ⟨a, c, rfl, ra, rc⟩ := r.two
    rw [hA] at ra
    exact ⟨a, c, A, _, k, rfl, ra, rc, okbr, k'⟩
  have e1013 := e112.trans e13
  have hh13 : Ls K (PlR K) (lawHouse ns) H13 hv := ls_Rx (rx_ex e1013) hh10
  have hs13 : Ls K (StpR K) (lawSteps ns) H13 sv := ls_Rx (rx_ex e1013) hs10
  have htab13 : TabR K (ctabM (lawHouse ns) (lawSteps ns)) H13 tv := (inferInstance : StayX (TabR K (ctabM (lawHouse ns) (lawSteps ns)))).ex _ _ _ e13 htab
  have m0 := Int.emod_nonneg (cellAt ns 7) (show (5 : Int) ≠ 0 by decide)
  have hmany : cellAt ns 7 % 5 = ((lawMany ns : Nat) : Int) := by unfold lawMany; omega
  refine q_when (b := false) (et_is (et_not (et_b (ep_call (R := Is (.bl true)) (eas_cons (ep_var (i := 3) rfl hh13) (eas_cons (ep_var (i := 10) rfl hs13) (eas_cons (ep_var (i := 13) rfl htab13) (eas_cons (tvar e1013) (eas_cons (ep_ii (ep_modI (cell (j := 7) rfl (e010.trans e1013) ep_i) ep_i (by decide)) hmany) eas_nil))))) fun H14 us e r Q' k' => ?_))) rfl) (fun z => nomatch z) fun _ H14 e14 => ?_
  · cases r with
    | cons r1 r =>
      obtain ⟨b2, b3, b4, b5, rfl, r2, r3, r4, r5⟩ := AllP.four r
      cases (show b5 = _ from r5)
      exact ⟨_, b2, b3, b4, lawHouse ns, lawSteps ns, roomsM (lawHouse ns), lawMany ns, rfl, r1, r2, r3, r4, ok.ar, k'⟩
  have e1014 := e1013.trans e14
  have hh14 : Ls K (PlR K) (lawHouse ns) H14 hv := ls_Rx (rx_ex e1014) hh10
  have hs14 : Ls K (StpR K) (lawSteps ns) H14 sv := ls_Rx (rx_ex e1014) hs10
  have htab14 : TabR K (ctabM (lawHouse ns) (lawSteps ns)) H14 tv := (inferInstance : StayX (TabR K (ctabM (lawHouse ns) (lawSteps ns)))).ex _ _ _ e14 htab13
  refine p_ret (R := Is (.bl true)) (ep_call (eas_cons (ep_var (i := 3) rfl hh14) (eas_cons (ep_var (i := 10) rfl hs14) (eas_cons (ep_var (i := 13) rfl htab14) (eas_cons (tvar e1014) eas_nil)))) fun H15 us e r Q' k' => ?_) fun y H15 e15 hy => kq y H15 ((e010.trans e1014).trans e15) hy
  obtain ⟨b1, b2, b3, b4, rfl, r1, r2, r3, r4⟩ := r.four
  exact ⟨b1, b2, b3, b4, lawHouse ns, lawSteps ns, roomsM (lawHouse ns), rfl, r1, r2, r3, r4, ok.mr, k'⟩
end
end Tc
set_option Elab.async false
set_option linter.all false
set_option maxRecDepth 100000
set_option maxHeartbeats 4000000
namespace Tc
open PySem PySem.Spec PyProof.Rows L2 Evl
/-! the text by places, what its top leaves -/
def topS (i : Nat) : Stmt := PySem.Challenge.pw_tiercask_k64_whole_steady_in_the_long_ru.main.body.getD i (.Pass ⟨0, 0, 0, 0⟩)
structure DefAt (K : PySem.W.Frag) (mg : Str → Option Value) (x : Str) (i : Nat) (ps : List Str) : Prop where
  ex : ∃ f fd, FunD K x x (defArgs (topS i)) (defBody (topS i)) (defScope (topS i)) [] [] f fd ∧ mg x = some (.ref f) ∧ Binds K fd ps []
structure Txt (K : PySem.W.Frag) (mg : Str → Option Value) : Prop where
  c : Cst K
  g_NOUGHT_solving : mg "NOUGHT_solving" = some (.ref (He.ga K "NOUGHT_solving"))
  g_NOUGHT_tables : mg "NOUGHT_tables" = some (.ref (He.ga K "NOUGHT_tables"))
  g_WHOLE_tables : mg "WHOLE_tables" = some (.ref (He.ga K "WHOLE_tables"))
  g_NOUGHT_longrun : mg "NOUGHT_longrun" = some (.ref (He.ga K "NOUGHT_longrun"))
  g_WHOLE_longrun : mg "WHOLE_longrun" = some (.ref (He.ga K "WHOLE_longrun"))
  g_NOUGHT_ages : mg "NOUGHT_ages" = some (.ref (He.ga K "NOUGHT_ages"))
  b_abs : mg "abs" = none
  b_len : mg "len" = none
  b_range : mg "range" = none
  b_zip : mg "zip" = none
  b_list : mg "list" = none
  b_dict : mg "dict" = none
  b_sorted : mg "sorted" = none
  b_enumerate : mg "enumerate" = none
  b_isinstance : mg "isinstance" = none
  b_tuple : mg "tuple" = none
  b_int : mg "int" = none
  d_divisor : DefAt K mg "divisor" 6 ["one", "other"]
  d_lowest : DefAt K mg "lowest" 7 ["top", "bottom"]
  d_plus : DefAt K mg "plus" 8 ["one", "other"]
  d_minus : DefAt K mg "minus" 9 ["one", "other"]
  d_times : DefAt K mg "times" 10 ["one", "other"]
  d_over : DefAt K mg "over" 11 ["one", "other"]
  d_under : DefAt K mg "under" 12 ["one", "other"]
  d_sum_of : DefAt K mg "sum_of" 13 ["some"]
  d_clear_column : DefAt K mg "clear_column" 16 ["rows", "at"]
  d_solved : DefAt K mg "solved" 17 ["square", "wanted"]
  d_pass_on : DefAt K mg "pass_on" 21 ["shares", "x", "y", "share"]
  d_table : DefAt K mg "table" 22 ["names", "steps"]
  d_brought : DefAt K mg "brought" 23 ["names", "steps"]
  d_casks_of : DefAt K mg "casks_of" 27 ["house"]
  d_whole_table : DefAt K mg "whole_table" 28 ["house", "steps"]
  d_casks_table : DefAt K mg "casks_table" 29 ["house", "steps"]
  d_closed_casks : DefAt K mg "closed_casks" 30 ["house", "steps"]
  d_brought_to : DefAt K mg "brought_to" 31 ["house", "steps"]
  d_left_by : DefAt K mg "left_by" 32 ["shares", "wanted"]
  d_bound_of : DefAt K mg "bound_of" 33 ["shares"]
  d_long_run : DefAt K mg "long_run" 34 ["house", "steps"]
  d_next_round : DefAt K mg "next_round" 37 ["shares", "totals"]
  d_by_age : DefAt K mg "by_age" 38 ["house", "steps", "many"]
  d_mean_ages : DefAt K mg "mean_ages" 39 ["house", "steps"]
  d_rooms_by_name : DefAt K mg "rooms_by_name" 41 ["house"]
  d_taken_share : DefAt K mg "taken_share" 42 ["rooms", "totals", "deed", "at"]
  d_step_of : DefAt K mg "step_of" 43 ["rooms", "totals", "year", "deed", "at"]
  d_steps_of : DefAt K mg "steps_of" 44 ["house", "totals", "year", "deeds"]
  d_law_cell_at : DefAt K mg "_law_cell_at" 46 ["_law_script", "_law_k"]
  d_law_mixed : DefAt K mg "_law_mixed" 47 ["_law_cell", "_law_k"]
  d_law_divisor : DefAt K mg "_law_divisor" 48 ["_law_one", "_law_other"]
  d_law_lowest : DefAt K mg "_law_lowest" 49 ["_law_top", "_law_bottom"]
  d_law_plus : DefAt K mg "_law_plus" 50 ["_law_one", "_law_other"]
  d_law_times : DefAt K mg "_law_times" 52 ["_law_one", "_law_other"]
  d_law_under : DefAt K mg "_law_under" 53 ["_law_one", "_law_other"]
  d_law_names : DefAt K mg "_law_names" 54 ["_law_cell"]
  d_law_house : DefAt K mg "_law_house" 55 ["_law_cell", "_law_names_here"]
  d_law_round : DefAt K mg "_law_round" 56 ["_law_house_here", "_law_names_here", "_law_cells"]
  d_law_led : DefAt K mg "_law_led" 57 ["_law_tab", "_law_totals"]
  d_law_left : DefAt K mg "_law_left" 58 ["_law_tab", "_law_k"]
  d_law_bound_right : DefAt K mg "_law_bound_right" 59 ["_law_tab", "_law_bound"]
  d_law_ages_right : DefAt K mg "_law_ages_right" 60 ["_law_house_here", "_law_steps", "_law_tab", "_law_totals", "_law_many"]
  d_law_means_right : DefAt K mg "_law_means_right" 61 ["_law_house_here", "_law_steps", "_law_tab", "_law_totals"]
  d_law : DefAt K mg "law" 62 ["_law_script"]
/-- a def of the text, called by its name -/
structure Cal (P : Program) (w : World) (K : PySem.W.Frag) (mg : Str → Option Value) (base : Heap) (k : Nat) (x : Str) (ps : List Str) (sp : Sp) : Prop where
  ex : ∃ f fd, FnOk P w K mg base CX0 k f fd ps sp ∧ mg x = some (.ref f) ∧ PySem.W.keepIn K (.ref f) = true ∧ Binds K fd ps []
section
variable {P : Program} {w : World} {K : PySem.W.Frag} {mg : Str → Option Value} {base : Heap}
theorem cal_of {x : Str} {i : Nat} {N ps : List Str} {k : Nat} {sp : Sp} (d : DefAt K mg x i ps) (S : FnScope N ps (defScope (topS i))) (len : ∀ vs H Q E, sp vs H Q E → vs.length = ps.length)
    (hb : ∀ {f : Addr} (cdv : Value) (A : Around) (outer : List Env) (s : Shared) (H : Hp) (vs : List V) (Q : VK) (E : XK), Room k (A.deeper (envOfC x (defScope (topS i)) s.heap.objs.size f cdv)) → sp vs H Q E →
      ∃ t, PSs (cxOf CX0 P w K mg base N x (defScope (topS i)) f cdv A outer s H E) (defBody (topS i)) t ∧ t { nx := fun _ H' => Q .non H', rt := Q } (start N vs) H) : Cal P w K mg base (k + 1) x ps sp := by
  obtain ⟨f, fd, F, g, b⟩ := d.ex
  exact ⟨f, fd, F.ok S len (hb (f := f)), g, F.kp, b⟩
theorem pe_callC {X : Cx} {k : Nat} {x : Str} {ps : List Str} {sp : Sp} {p pos : Pos} {e : Expr} {es : List Expr} {t : TA} (c : Cal X.prog X.w X.K X.mg X.base k x ps sp) (hr : Room k X.A) (hg : Gl X x) (ha : PA X (e :: es) t)
    (hdb : (x == ("__debug__" : Str)) = false := by decide) (he : starEach (e :: es) X.env = (false, eval e X.env) :: starEach es X.env := by rfl) (hpl : (backTo pos (starEach es X.env)).any (·.1) = false := by rfl) :
    PE X (.Call (.Name x p) (e :: es) [] pos) (tCall sp [] E0 t) := by
  obtain ⟨f, fd, F, g, kp, b⟩ := c.ex
  exact pe_call F hr hg g kp b .nil pass0 ha hdb he hpl
theorem hu65_of {A : Around} {k : Nat} (hr : Room k A) : A.units + 65 < cLine := by have := hr.un; omega
end
end Tc
set_option Elab.async false
set_option linter.all false
set_option maxRecDepth 100000
set_option maxHeartbeats 0
namespace Tc
open PySem PySem.Spec PyProof.Rows L2
def mkD (x : String) (i : Nat) : He.DefD := ⟨(x, none), x, x, defArgs (topS i), defBody (topS i), defScope (topS i), [], []⟩

def fns : List He.DefD := ([mkD "divisor" 6, mkD "lowest" 7, mkD "plus" 8, mkD "minus" 9, mkD "times" 10, mkD "over" 11, mkD "under" 12, mkD "sum_of" 13, mkD "clear_column" 16, mkD "solved" 17] : List He.DefD) ++ ([mkD "pass_on" 21, mkD "table" 22, mkD "brought" 23, mkD "casks_of" 27, mkD "whole_table" 28, mkD "casks_table" 29, mkD "closed_casks" 30, mkD "brought_to" 31, mkD "left_by" 32, mkD "bound_of" 33] : List He.DefD) ++ ([mkD "long_run" 34, mkD "next_round" 37, mkD "by_age" 38, mkD "mean_ages" 39, mkD "rooms_by_name" 41, mkD "taken_share" 42, mkD "step_of" 43, mkD "steps_of" 44, mkD "_law_cell_at" 46, mkD "_law_mixed" 47] : List He.DefD) ++ ([mkD "_law_divisor" 48, mkD "_law_lowest" 49, mkD "_law_plus" 50, mkD "_law_minus" 51, mkD "_law_times" 52, mkD "_law_under" 53, mkD "_law_names" 54, mkD "_law_house" 55, mkD "_law_round" 56, mkD "_law_led" 57] : List He.DefD) ++ ([mkD "_law_left" 58, mkD "_law_bound_right" 59, mkD "_law_ages_right" 60, mkD "_law_means_right" 61, mkD "law" 62] : List He.DefD)
def fas : List He.Fa := ([.glo "divisor", .glo "lowest", .glo "plus", .glo "minus", .glo "times", .glo "over", .glo "under", .glo "sum_of", .glo "clear_column", .glo "solved"] : List He.Fa) ++ ([.glo "pass_on", .glo "table", .glo "brought", .glo "casks_of", .glo "whole_table", .glo "casks_table", .glo "closed_casks", .glo "brought_to", .glo "left_by", .glo "bound_of"] : List He.Fa) ++ ([.glo "long_run", .glo "next_round", .glo "by_age", .glo "mean_ages", .glo "rooms_by_name", .glo "taken_share", .glo "step_of", .glo "steps_of", .glo "_law_cell_at", .glo "_law_mixed"] : List He.Fa) ++ ([.glo "_law_divisor", .glo "_law_lowest", .glo "_law_plus", .glo "_law_minus", .glo "_law_times", .glo "_law_under", .glo "_law_names", .glo "_law_house", .glo "_law_round", .glo "_law_led"] : List He.Fa) ++ ([.glo "_law_left", .glo "_law_bound_right", .glo "_law_ages_right", .glo "_law_means_right", .glo "law", .glo "NOUGHT_solving", .glo "NOUGHT_tables", .glo "WHOLE_tables", .glo "NOUGHT_longrun", .glo "WHOLE_longrun"] : List He.Fa) ++ ([.glo "NOUGHT_ages", .free "abs", .free "len", .free "range", .free "zip", .free "list", .free "dict", .free "sorted", .free "enumerate", .free "isinstance"] : List He.Fa) ++ ([.free "tuple", .free "int"] : List He.Fa)
def exs (K : PySem.W.Frag) : Bool := He.tupB K "NOUGHT_solving" [.int 0, .int 1] && He.tupB K "NOUGHT_tables" [.int 0, .int 1] && He.tupB K "WHOLE_tables" [.int 1, .int 1] && He.tupB K "NOUGHT_longrun" [.int 0, .int 1] && He.tupB K "WHOLE_longrun" [.int 1, .int 1] && He.tupB K "NOUGHT_ages" [.int 0, .int 1]
abbrev R : PySem.W.OpenRow := PySem.W.OpenLaw.row PySem.Challenge.rw_tiercask_k64_whole_steady_in_the_long_ru
abbrev hk : PySem.W.Hook := He.hookX 4 fas fns [] [] exs
def ob (s : PySem.W.SharedT) : He.AlX := He.obsX 4 fas fns [] [] exs (HandSHeadRun.getT s)
theorem ob_eq (s : PySem.W.SharedT) : ob s = hk.obs s.abs := He.obsX_eq (HandSHeadRun.getT_eq s)
def loose1 : List PySem.Str := (["TierError", "NoNumber", "Lacking", "Full", "divisor", "lowest", "plus", "minus", "times", "over"] : List PySem.Str) ++ (["under", "sum_of", "clear_column", "solved", "pass_on", "table", "brought", "casks_of", "whole_table", "casks_table"] : List PySem.Str) ++ (["closed_casks", "brought_to", "left_by", "bound_of", "long_run", "next_round", "by_age", "mean_ages", "rooms_by_name", "taken_share"] : List PySem.Str) ++ (["step_of", "steps_of", "_law_cell_at", "_law_mixed", "_law_divisor", "_law_lowest", "_law_plus", "_law_minus", "_law_times", "_law_under"] : List PySem.Str) ++ (["_law_names", "_law_house", "_law_round", "_law_led", "_law_left", "_law_bound_right", "_law_ages_right", "_law_means_right", "NOUGHT_solving", "NOUGHT_tables"] : List PySem.Str) ++ (["WHOLE_tables", "NOUGHT_longrun", "WHOLE_longrun", "NOUGHT_ages"] : List PySem.Str)
theorem run (w : World) : HandSHeadRun.RunEq R (PySem.W.view R.prog [62]) hk ob 6000 loose1 w := by
  intro os
  kernel_rfl
end Tc
set_option Elab.async false
set_option linter.all false
set_option maxRecDepth 100000
set_option maxHeartbeats 4000000
namespace Tc
open PySem PySem.Spec PyProof.Rows L2 Evl
section
variable {P : Program} {w : World} {K : PySem.W.Frag} {mg : Str → Option Value} {base : Heap}
theorem sc_divisor : FnScope ["one", "other"] ["one", "other"] (defScope (topS 6)) := ⟨rfl, rfl, rfl, by decide +kernel, rfl, by decide +kernel, by decide +kernel⟩
theorem ok_divisor (T : Txt K mg) : Cal P w K mg base 1 "divisor" ["one", "other"] (sp_divisor K) := by
  refine cal_of T.d_divisor sc_divisor (len_divisor K) (fun cdv A outer s H vs Q E hr h => ⟨t_divisor K, PSs.nox ?_, rd_divisor T.c vs H Q E h⟩)
  have hu := hu_of hr
  have hu65 := hu65_of hr
  exact (pss_cons (ps_while PassesOwn.never (pt_cmpR op_ne (pv 1) pe_int (nomark _)) (pss_one (ps_par (i := 0) (j := 1) (by rfl) sc_divisor.nd rfl rfl (by decide) rfl rfl (pa_cons (pv 1) (pa_cons (pe_op op_mod (pv 0) (pv 1)) pa_nil)) (by rfl))))
      (pss_one (ps_ret (pe_callB call_absR (by rfl) T.b_abs (by decide +kernel) (pa_cons (pv 0) pa_nil)))))

theorem sc_lowest : FnScope ["top", "bottom", "by"] ["top", "bottom"] (defScope (topS 7)) := ⟨rfl, rfl, rfl, by decide +kernel, rfl, by decide +kernel, by decide +kernel⟩
theorem ok_lowest (T : Txt K mg) : Cal P w K mg base 2 "lowest" ["top", "bottom"] (sp_lowest K) := by
  refine cal_of T.d_lowest sc_lowest (len_lowest K) (fun cdv A outer s H vs Q E hr h => ⟨t_lowest K, PSs.nox ?_, rd_lowest T.c vs H Q E h⟩)
  have hu := hu_of hr
  have hu65 := hu65_of hr
  exact (pss_cons (ps_set (i := 2) sc_lowest.nd rfl (Or.inl rfl) (pe_callC (ok_divisor T) (hr.mono (by decide)) rfl (pa_cons (pv 0) (pa_cons (pv 1) pa_nil))))
      (pss_cons (ps_if (pt_cmpR op_lt (pv 1) pe_int (nomark _)) (pss_one (ps_set (i := 2) sc_lowest.nd rfl (Or.inl rfl) (pe_op op_sub pe_int (pv 2)))) pss_nil)
      (pss_one (ps_ret (pe_tup (pa_cons (pe_op op_fdivW (pv 0) (pv 2)) (pa_cons (pe_op op_fdivW (pv 1) (pv 2)) pa_nil)))))))

theorem sc_plus : FnScope ["one", "other"] ["one", "other"] (defScope (topS 8)) := ⟨rfl, rfl, rfl, by decide +kernel, rfl, by decide +kernel, by decide +kernel⟩
theorem ok_plus (T : Txt K mg) : Cal P w K mg base 3 "plus" ["one", "other"] (sp_plus K) := by
  refine cal_of T.d_plus sc_plus (len_plus K) (fun cdv A outer s H vs Q E hr h => ⟨t_plus K, PSs.nox ?_, rd_plus T.c vs H Q E h⟩)
  have hu := hu_of hr
  have hu65 := hu65_of hr
  exact (pss_one (ps_ret (pe_callC (ok_lowest T) (hr.mono (by decide)) rfl (pa_cons (pe_op op_add (pe_op op_mulW (pe_ix ix_tup (pv 0) pe_int (fun _ _ => rfl)) (pe_ix ix_tup (pv 1) pe_int (fun _ _ => rfl))) (pe_op op_mulW (pe_ix ix_tup (pv 1) pe_int (fun _ _ => rfl)) (pe_ix ix_tup (pv 0) pe_int (fun _ _ => rfl)))) (pa_cons (pe_op op_mulW (pe_ix ix_tup (pv 0) pe_int (fun _ _ => rfl)) (pe_ix ix_tup (pv 1) pe_int (fun _ _ => rfl))) pa_nil)))))

theorem sc_minus : FnScope ["one", "other"] ["one", "other"] (defScope (topS 9)) := ⟨rfl, rfl, rfl, by decide +kernel, rfl, by decide +kernel, by decide +kernel⟩
theorem ok_minus (T : Txt K mg) : Cal P w K mg base 3 "minus" ["one", "other"] (sp_minus K) := by
  refine cal_of T.d_minus sc_minus (len_minus K) (fun cdv A outer s H vs Q E hr h => ⟨t_minus K, PSs.nox ?_, rd_minus T.c vs H Q E h⟩)
  have hu := hu_of hr
  have hu65 := hu65_of hr
  exact (pss_one (ps_ret (pe_callC (ok_lowest T) (hr.mono (by decide)) rfl (pa_cons (pe_op op_sub (pe_op op_mulW (pe_ix ix_tup (pv 0) pe_int (fun _ _ => rfl)) (pe_ix ix_tup (pv 1) pe_int (fun _ _ => rfl))) (pe_op op_mulW (pe_ix ix_tup (pv 1) pe_int (fun _ _ => rfl)) (pe_ix ix_tup (pv 0) pe_int (fun _ _ => rfl)))) (pa_cons (pe_op op_mulW (pe_ix ix_tup (pv 0) pe_int (fun _ _ => rfl)) (pe_ix ix_tup (pv 1) pe_int (fun _ _ => rfl))) pa_nil)))))

theorem sc_times : FnScope ["one", "other"] ["one", "other"] (defScope (topS 10)) := ⟨rfl, rfl, rfl, by decide +kernel, rfl, by decide +kernel, by decide +kernel⟩
theorem ok_times (T : Txt K mg) : Cal P w K mg base 3 "times" ["one", "other"] (sp_times K) := by
  refine cal_of T.d_times sc_times (len_times K) (fun cdv A outer s H vs Q E hr h => ⟨t_times K, PSs.nox ?_, rd_times T.c vs H Q E h⟩)
  have hu := hu_of hr
  have hu65 := hu65_of hr
  exact (pss_one (ps_ret (pe_callC (ok_lowest T) (hr.mono (by decide)) rfl (pa_cons (pe_op op_mulW (pe_ix ix_tup (pv 0) pe_int (fun _ _ => rfl)) (pe_ix ix_tup (pv 1) pe_int (fun _ _ => rfl))) (pa_cons (pe_op op_mulW (pe_ix ix_tup (pv 0) pe_int (fun _ _ => rfl)) (pe_ix ix_tup (pv 1) pe_int (fun _ _ => rfl))) pa_nil)))))

theorem sc_over : FnScope ["one", "other"] ["one", "other"] (defScope (topS 11)) := ⟨rfl, rfl, rfl, by decide +kernel, rfl, by decide +kernel, by decide +kernel⟩
theorem ok_over (T : Txt K mg) : Cal P w K mg base 3 "over" ["one", "other"] (sp_over K) := by
  refine cal_of T.d_over sc_over (len_over K) (fun cdv A outer s H vs Q E hr h => ⟨t_over K, PSs.nox ?_, rd_over T.c vs H Q E h⟩)
  have hu := hu_of hr
  have hu65 := hu65_of hr
  exact (pss_cons (ps_if (pt_cmpR op_eq (pe_ix ix_tup (pv 1) pe_int (fun _ _ => rfl)) pe_int (nomark _)) (pss_one ps_never) pss_nil)
      (pss_one (ps_ret (pe_callC (ok_lowest T) (hr.mono (by decide)) rfl (pa_cons (pe_op op_mulW (pe_ix ix_tup (pv 0) pe_int (fun _ _ => rfl)) (pe_ix ix_tup (pv 1) pe_int (fun _ _ => rfl))) (pa_cons (pe_op op_mulW (pe_ix ix_tup (pv 0) pe_int (fun _ _ => rfl)) (pe_ix ix_tup (pv 1) pe_int (fun _ _ => rfl))) pa_nil))))))

theorem sc_under : FnScope ["one", "other"] ["one", "other"] (defScope (topS 12)) := ⟨rfl, rfl, rfl, by decide +kernel, rfl, by decide +kernel, by decide +kernel⟩
theorem ok_under (T : Txt K mg) : Cal P w K mg base 1 "under" ["one", "other"] (sp_under K) := by
  refine cal_of T.d_under sc_under (len_under K) (fun cdv A outer s H vs Q E hr h => ⟨t_under K, PSs.nox ?_, rd_under T.c vs H Q E h⟩)
  have hu := hu_of hr
  have hu65 := hu65_of hr
  exact (pss_one (ps_ret (pe_cmpR op_lt (pe_op op_mulW (pe_ix ix_tup (pv 0) pe_int (fun _ _ => rfl)) (pe_ix ix_tup (pv 1) pe_int (fun _ _ => rfl))) (pe_op op_mulW (pe_ix ix_tup (pv 1) pe_int (fun _ _ => rfl)) (pe_ix ix_tup (pv 0) pe_int (fun _ _ => rfl))) (nomark _))))

theorem sc_sum_of : FnScope ["some", "found", "one"] ["some"] (defScope (topS 13)) := ⟨rfl, rfl, rfl, by decide +kernel, rfl, by decide +kernel, by decide +kernel⟩
theorem ok_sum_of (T : Txt K mg) : Cal P w K mg base 4 "sum_of" ["some"] (sp_sum_of K) := by
  refine cal_of T.d_sum_of sc_sum_of (len_sum_of K) (fun cdv A outer s H vs Q E hr h => ⟨t_sum_of K, PSs.nox ?_, rd_sum_of T.c vs H Q E h⟩)
  have hu := hu_of hr
  have hu65 := hu65_of hr
  exact (pss_cons (ps_set (i := 1) sc_sum_of.nd rfl (Or.inl rfl) (pe_tup (pa_cons pe_int (pa_cons pe_int pa_nil))))
      (pss_cons (ps_for PassesOwn.never rfl (pi_list (pv 0)) (pg_name (i := 2) sc_sum_of.nd rfl (Or.inl rfl)) (pss_one (ps_set (i := 1) sc_sum_of.nd rfl (Or.inl rfl) (pe_callC (ok_plus T) (hr.mono (by decide)) rfl (pa_cons (pv 1) (pa_cons (pv 2) pa_nil))))))
      (pss_one (ps_ret (pv 1)))))

theorem sc_clear_column : FnScope ["rows", "at", "found", "chosen", "first", "k", "by", "cell", "mine", "theirs"] ["rows", "at"] (defScope (topS 16)) := ⟨rfl, rfl, rfl, by decide +kernel, rfl, by decide +kernel, by decide +kernel⟩
theorem ok_clear_column (T : Txt K mg) : Cal P w K mg base 4 "clear_column" ["rows", "at"] (sp_clear_column K) := by
  refine cal_of T.d_clear_column sc_clear_column (len_clear_column K) (fun cdv A outer s H vs Q E hr h => ⟨t_clear_column K, PSs.nox ?_, rd_clear_column T.c vs H Q E h⟩)
  have hu := hu_of hr
  have hu65 := hu65_of hr
  exact (pss_cons (ps_set (i := 2) sc_clear_column.nd rfl (Or.inl rfl) (pv 1))
      (pss_cons (ps_while PassesOwn.never (pt_cmpR (op_eqD hr.units) (pe_ix ix_list (pe_ix ix_list (pv 0) (pv 2) (fun _ _ => rfl)) (pv 1) (fun _ _ => rfl)) (pe_glob (v := .ref (He.ga K "NOUGHT_solving")) rfl T.g_NOUGHT_solving rfl) (nomark _)) (pss_one (ps_set (i := 2) sc_clear_column.nd rfl (Or.inl rfl) (pe_op op_add (pv 2) pe_int))))
      (pss_cons (ps_set (i := 3) sc_clear_column.nd rfl (Or.inl rfl) (pe_ix ix_list (pv 0) (pv 2) (fun _ _ => rfl)))
      (pss_cons (ps_asg (pe_ix ix_list (pv 0) (pv 1) (fun _ _ => rfl)) (pg_sub (pv 0) (pv 2) set_list))
      (pss_cons (ps_set (i := 4) sc_clear_column.nd rfl (Or.inr rfl) (pe_ix ix_list (pv 3) (pv 1) (fun _ _ => rfl)))
      (pss_cons (ps_setLc (i := 3) (own := [("cell", 7)]) rfl sc_clear_column.nd rfl rfl (sw_true rfl rfl rfl (by decide +kernel)) (pi_list (pv 3)) (blkOk_by (own := [("cell", 7)]) (N := ["rows", "at", "found", "chosen", "first", "k", "by", "cell", "mine", "theirs"]) (sc := defScope (topS 16)) (by decide +kernel)) (fun _ _ _ _ _ => (pg_name (i := 7) sc_clear_column.nd rfl (Or.inl rfl))) (fun _ _ _ _ _ => pts_nil) (fun _ _ _ _ _ => (pe_callC (ok_over T) (hr.mono (by decide)) rfl (pa_cons (pv 7) (pa_cons (pv 4) pa_nil)))))
      (pss_cons (ps_asg (pv 3) (pg_sub (pv 0) (pv 1) set_list))
      (pss_one (ps_for PassesOwn.never rfl (pi_range1 (by rfl) T.b_range (pa_cons (pe_callB call_lenR (by rfl) T.b_len (by decide +kernel) (pa_cons (pv 0) pa_nil)) pa_nil)) (pg_name (i := 5) sc_clear_column.nd rfl (Or.inl rfl)) (pss_one (ps_if (PW.pt (pw_and (pt_cmpR op_ne (pv 5) (pv 1) (nomark _)) (pw_and1 (pt_cmpR (op_neD hr.units) (pe_ix ix_list (pe_ix ix_list (pv 0) (pv 5) (fun _ _ => rfl)) (pv 1) (fun _ _ => rfl)) (pe_glob (v := .ref (He.ga K "NOUGHT_solving")) rfl T.g_NOUGHT_solving rfl) (nomark _))))) (pss_cons (ps_set (i := 6) sc_clear_column.nd rfl (Or.inr rfl) (pe_ix ix_list (pe_ix ix_list (pv 0) (pv 5) (fun _ _ => rfl)) (pv 1) (fun _ _ => rfl)))
      (pss_one (ps_asg (pe_lc (own := [("mine", 8), ("theirs", 9)]) rfl sc_clear_column.nd (pi_zip (by rfl) T.b_zip (pa_cons (pe_ix ix_list (pv 0) (pv 5) (fun _ _ => rfl)) (pa_cons (pv 3) pa_nil))) (blkOk_by (own := [("mine", 8), ("theirs", 9)]) (N := ["rows", "at", "found", "chosen", "first", "k", "by", "cell", "mine", "theirs"]) (sc := defScope (topS 16)) (by decide +kernel)) (fun _ _ _ _ _ => (pg_tup rfl (pgs_cons (pg_name (i := 8) sc_clear_column.nd rfl (Or.inl rfl)) (pgs_cons (pg_name (i := 9) sc_clear_column.nd rfl (Or.inl rfl)) pgs_nil)))) (fun _ _ _ _ _ => pts_nil) (fun _ _ _ _ _ => (pe_callC (ok_minus T) (hr.mono (by decide)) rfl (pa_cons (pv 8) (pa_cons (pe_callC (ok_times T) (hr.mono (by decide)) rfl (pa_cons (pv 6) (pa_cons (pv 9) pa_nil))) pa_nil))))) (pg_sub (pv 0) (pv 5) set_list)))) pss_nil)))))))))))

theorem sc_solved : FnScope ["square", "wanted", "rows", "at", "row", "last"] ["square", "wanted"] (defScope (topS 17)) := ⟨rfl, rfl, rfl, by decide +kernel, rfl, by decide +kernel, by decide +kernel⟩
theorem ok_solved (T : Txt K mg) : Cal P w K mg base 5 "solved" ["square", "wanted"] (sp_solved K) := by
  refine cal_of T.d_solved sc_solved (len_solved K) (fun cdv A outer s H vs Q E hr h => ⟨t_solved K, PSs.nox ?_, rd_solved T.c vs H Q E h⟩)
  have hu := hu_of hr
  have hu65 := hu65_of hr
  exact (pss_cons (ps_setLc (i := 2) (own := [("row", 4), ("last", 5)]) rfl sc_solved.nd rfl rfl (sw_true rfl rfl rfl (by decide +kernel)) (pi_zip (by rfl) T.b_zip (pa_cons (pv 0) (pa_cons (pv 1) pa_nil))) (blkOk_by (own := [("row", 4), ("last", 5)]) (N := ["square", "wanted", "rows", "at", "row", "last"]) (sc := defScope (topS 17)) (by decide +kernel)) (fun _ _ _ _ _ => (pg_tup rfl (pgs_cons (pg_name (i := 4) sc_solved.nd rfl (Or.inl rfl)) (pgs_cons (pg_name (i := 5) sc_solved.nd rfl (Or.inl rfl)) pgs_nil)))) (fun _ _ _ _ _ => pts_nil) (fun _ _ _ _ _ => (pe_op op_cat (pe_callTy call_listR (by rfl) T.b_list (by decide +kernel) (pa_cons (pv 4) pa_nil)) (pe_lst (pa_cons (pv 5) pa_nil)))))
      (pss_cons (ps_for PassesOwn.never rfl (pi_range1 (by rfl) T.b_range (pa_cons (pe_callB call_lenR (by rfl) T.b_len (by decide +kernel) (pa_cons (pv 2) pa_nil)) pa_nil)) (pg_name (i := 3) sc_solved.nd rfl (Or.inl rfl)) (pss_one (ps_expr (pe_callC (ok_clear_column T) (hr.mono (by decide)) rfl (pa_cons (pv 2) (pa_cons (pv 3) pa_nil))))))
      (pss_one (ps_ret (pe_lc (own := [("row", 4)]) rfl sc_solved.nd (pi_list (pv 2)) (blkOk_by (own := [("row", 4)]) (N := ["square", "wanted", "rows", "at", "row", "last"]) (sc := defScope (topS 17)) (by decide +kernel)) (fun _ _ _ _ _ => (pg_name (i := 4) sc_solved.nd rfl (Or.inl rfl))) (fun _ _ _ _ _ => pts_nil) (fun _ _ _ _ _ => (pe_ix ix_list (pv 4) (pe_un un_neg pe_int) (fun _ _ => rfl))))))))

theorem sc_pass_on : FnScope ["shares", "x", "y", "share", "gone", "left"] ["shares", "x", "y", "share"] (defScope (topS 21)) := ⟨rfl, rfl, rfl, by decide +kernel, rfl, by decide +kernel, by decide +kernel⟩
theorem ok_pass_on (T : Txt K mg) : Cal P w K mg base 4 "pass_on" ["shares", "x", "y", "share"] (sp_pass_on K) := by
  refine cal_of T.d_pass_on sc_pass_on (len_pass_on K) (fun cdv A outer s H vs Q E hr h => ⟨t_pass_on K, PSs.nox ?_, rd_pass_on T.c vs H Q E h⟩)
  have hu := hu_of hr
  have hu65 := hu65_of hr
  exact (pss_cons (ps_if (pt_cmp (pc_dnotin hu (pv 1) (pv 0))) (pss_one ps_retN) pss_nil)
      (pss_cons (ps_set (i := 4) sc_pass_on.nd rfl (Or.inl rfl) (pe_callC (ok_times T) (hr.mono (by decide)) rfl (pa_cons (pe_dget hu (pv 0) (pv 1) (fun _ _ => rfl)) (pa_cons (pv 3) pa_nil))))
      (pss_cons (ps_set (i := 5) sc_pass_on.nd rfl (Or.inl rfl) (pe_callC (ok_minus T) (hr.mono (by decide)) rfl (pa_cons (pe_dget hu (pv 0) (pv 1) (fun _ _ => rfl)) (pa_cons (pv 4) pa_nil))))
      (pss_cons (ps_if (pt_cmpR (op_eqD hr.units) (pv 5) (pe_glob (v := .ref (He.ga K "NOUGHT_tables")) rfl T.g_NOUGHT_tables rfl) (nomark _)) (pss_one (ps_expr (pe_dpop1 (pv 0) (pv 1) ⟨rfl, rfl, rfl, rfl⟩))) (pss_one (ps_dput hu (pv 0) (pv 1) (pv 5) rfl)))
      (pss_one (ps_if (pt_cmpR (op_neD hr.units) (pv 4) (pe_glob (v := .ref (He.ga K "NOUGHT_tables")) rfl T.g_NOUGHT_tables rfl) (nomark _)) (pss_one (ps_dput hu (pv 0) (pv 2) (pe_callC (ok_plus T) (hr.mono (by decide)) rfl (pa_cons (pe_dget2 hu (pv 0) (pv 2) (pe_glob (v := .ref (He.ga K "NOUGHT_tables")) rfl T.g_NOUGHT_tables rfl) ⟨rfl, rfl, rfl, rfl⟩) (pa_cons (pv 4) pa_nil))) rfl)) pss_nil))))))

theorem sc_table : FnScope ["names", "steps", "found", "name", "shares", "step"] ["names", "steps"] (defScope (topS 22)) := ⟨rfl, rfl, rfl, by decide +kernel, rfl, by decide +kernel, by decide +kernel⟩
theorem ok_table (T : Txt K mg) : Cal P w K mg base 5 "table" ["names", "steps"] (sp_table K) := by
  refine cal_of T.d_table sc_table (len_table K) (fun cdv A outer s H vs Q E hr h => ⟨t_table K, PSs.nox ?_, rd_table T.c vs H Q E h⟩)
  have hu := hu_of hr
  have hu65 := hu65_of hr
  exact (pss_cons (ps_set (i := 2) sc_table.nd rfl (Or.inl rfl) pe_dnewK)
      (pss_cons (ps_for PassesOwn.never rfl (pi_list (pv 0)) (pg_name (i := 3) sc_table.nd rfl (Or.inl rfl)) (pss_cons (ps_set (i := 4) sc_table.nd rfl (Or.inl rfl) (pe_disp (pps_cons (pv 3) (pe_glob (v := .ref (He.ga K "WHOLE_tables")) rfl T.g_WHOLE_tables rfl) pps_nil) (by rfl) (by rfl) (fun z => by cases z) (by decide)))
      (pss_cons (ps_for PassesOwn.never rfl (pi_list (pv 1)) (pg_name (i := 5) sc_table.nd rfl (Or.inl rfl)) (pss_one (ps_if (pt_cmpR op_eq (pe_ix ix_tup (pv 5) pe_int (fun _ _ => rfl)) pe_str (nomark _)) (pss_one (ps_expr (pe_callC (ok_pass_on T) (hr.mono (by decide)) rfl (pa_cons (pv 4) (pa_cons (pe_ix ix_tup (pv 5) pe_int (fun _ _ => rfl)) (pa_cons (pe_ix ix_tup (pv 5) pe_int (fun _ _ => rfl)) (pa_cons (pe_ix ix_tup (pv 5) pe_int (fun _ _ => rfl)) pa_nil))))))) pss_nil)))
      (pss_one (ps_dput hu (pv 2) (pv 3) (pv 4) rfl)))))
      (pss_one (ps_ret (pv 2)))))

theorem sc_brought : FnScope ["names", "steps", "found", "step", "lot", "amount", "ends"] ["names", "steps"] (defScope (topS 23)) := ⟨rfl, rfl, rfl, by decide +kernel, rfl, by decide +kernel, by decide +kernel⟩
theorem ok_brought (T : Txt K mg) : Cal P w K mg base 5 "brought" ["names", "steps"] (sp_brought K) := by
  refine cal_of T.d_brought sc_brought (len_brought K) (fun cdv A outer s H vs Q E hr h => ⟨t_brought K, PSs.nox ?_, rd_brought T.c vs H Q E h⟩)
  have hu := hu_of hr
  have hu65 := hu65_of hr
  exact (pss_cons (ps_set (i := 2) sc_brought.nd rfl (Or.inl rfl) (pe_lst pa_nil))
      (pss_cons (ps_for PassesOwn.never rfl (pi_list (pv 1)) (pg_name (i := 3) sc_brought.nd rfl (Or.inl rfl)) (pss_one (ps_if (pt_cmpR op_eq (pe_ix ix_tup (pv 3) pe_int (fun _ _ => rfl)) pe_str (nomark _)) (pss_one (ps_expr (pe_bm PySem.F.plainAttrs_list PySem.F.slot_list_append PySem.F.type_list_append mt_append (pv 2) (pa_cons (pe_tup (pa_cons (pe_ix ix_tup (pv 3) pe_int (fun _ _ => rfl)) (pa_cons (pe_ix ix_tup (pv 3) pe_int (fun _ _ => rfl)) (pa_cons (pe_disp (pps_cons (pe_ix ix_tup (pv 3) pe_int (fun _ _ => rfl)) (pe_glob (v := .ref (He.ga K "WHOLE_tables")) rfl T.g_WHOLE_tables rfl) pps_nil) (by rfl) (by rfl) (fun z => by cases z) (by decide)) pa_nil)))) pa_nil)))) (pss_one (ps_for PassesOwn.never rfl (pi_list (pv 2)) (pg_tup rfl (pgs_cons (pg_name (i := 4) sc_brought.nd rfl (Or.inl rfl)) (pgs_cons (pg_name (i := 5) sc_brought.nd rfl (Or.inl rfl)) (pgs_cons (pg_name (i := 6) sc_brought.nd rfl (Or.inl rfl)) pgs_nil)))) (pss_one (ps_expr (pe_callC (ok_pass_on T) (hr.mono (by decide)) rfl (pa_cons (pv 6) (pa_cons (pe_ix ix_tup (pv 3) pe_int (fun _ _ => rfl)) (pa_cons (pe_ix ix_tup (pv 3) pe_int (fun _ _ => rfl)) (pa_cons (pe_ix ix_tup (pv 3) pe_int (fun _ _ => rfl)) pa_nil))))))))))))
      (pss_one (ps_ret (pv 2)))))

theorem sc_casks_of : FnScope ["house", "place"] ["house"] (defScope (topS 27)) := ⟨rfl, rfl, rfl, by decide +kernel, rfl, by decide +kernel, by decide +kernel⟩
theorem ok_casks_of (T : Txt K mg) : Cal P w K mg base 1 "casks_of" ["house"] (sp_casks_of K) := by
  refine cal_of T.d_casks_of sc_casks_of (len_casks_of K) (fun cdv A outer s H vs Q E hr h => ⟨t_casks_of K, PSs.nox ?_, rd_casks_of T.c vs H Q E h⟩)
  have hu := hu_of hr
  have hu65 := hu65_of hr
  exact (pss_one (ps_ret (pe_lc (own := [("place", 1)]) rfl sc_casks_of.nd (pi_list (pv 0)) (blkOk_by (own := [("place", 1)]) (N := ["house", "place"]) (sc := defScope (topS 27)) (by decide +kernel)) (fun _ _ _ _ _ => (pg_name (i := 1) sc_casks_of.nd rfl (Or.inl rfl))) (fun _ _ _ _ _ => (pts_one (pt_cmpR op_eq (pe_ix ix_tup (pv 1) pe_int (fun _ _ => rfl)) pe_str (nomark _)))) (fun _ _ _ _ _ => (pe_ix ix_tup (pv 1) pe_int (fun _ _ => rfl))))))

theorem sc_whole_table : FnScope ["house", "steps", "place"] ["house", "steps"] (defScope (topS 28)) := ⟨rfl, rfl, rfl, by decide +kernel, rfl, by decide +kernel, by decide +kernel⟩
theorem ok_whole_table (T : Txt K mg) : Cal P w K mg base 6 "whole_table" ["house", "steps"] (sp_whole_table K) := by
  refine cal_of T.d_whole_table sc_whole_table (len_whole_table K) (fun cdv A outer s H vs Q E hr h => ⟨t_whole_table K, PSs.nox ?_, rd_whole_table T.c vs H Q E h⟩)
  have hu := hu_of hr
  have hu65 := hu65_of hr
  exact (pss_one (ps_ret (pe_callC (ok_table T) (hr.mono (by decide)) rfl (pa_cons (pe_lc (own := [("place", 2)]) rfl sc_whole_table.nd (pi_list (pv 0)) (blkOk_by (own := [("place", 2)]) (N := ["house", "steps", "place"]) (sc := defScope (topS 28)) (by decide +kernel)) (fun _ _ _ _ _ => (pg_name (i := 2) sc_whole_table.nd rfl (Or.inl rfl))) (fun _ _ _ _ _ => pts_nil) (fun _ _ _ _ _ => (pe_ix ix_tup (pv 2) pe_int (fun _ _ => rfl)))) (pa_cons (pv 1) pa_nil)))))

theorem sc_casks_table : FnScope ["house", "steps", "casks", "whole", "found", "name", "place", "share"] ["house", "steps"] (defScope (topS 29)) := ⟨rfl, rfl, rfl, by decide +kernel, rfl, by decide +kernel, by decide +kernel⟩
theorem ok_casks_table (T : Txt K mg) : Cal P w K mg base 7 "casks_table" ["house", "steps"] (sp_casks_table K) := by
  refine cal_of T.d_casks_table sc_casks_table (len_casks_table K) (fun cdv A outer s H vs Q E hr h => ⟨t_casks_table K, PSs.nox ?_, rd_casks_table T.c vs H Q E h⟩)
  have hu := hu_of hr
  have hu65 := hu65_of hr
  exact (pss_cons (ps_set (i := 2) sc_casks_table.nd rfl (Or.inl rfl) (pe_callC (ok_casks_of T) (hr.mono (by decide)) rfl (pa_cons (pv 0) pa_nil)))
      (pss_cons (ps_set (i := 3) sc_casks_table.nd rfl (Or.inl rfl) (pe_callC (ok_whole_table T) (hr.mono (by decide)) rfl (pa_cons (pv 0) (pa_cons (pv 1) pa_nil))))
      (pss_cons (ps_set (i := 4) sc_casks_table.nd rfl (Or.inl rfl) pe_dnewK)
      (pss_cons (ps_for PassesOwn.never rfl (pi_list (pv 2)) (pg_name (i := 5) sc_casks_table.nd rfl (Or.inl rfl)) (pss_cons (ps_dput hu (pv 4) (pv 5) pe_dnewK rfl)
      (pss_one (ps_lockR (ps_for PassesOwn.never rfl (pi_items (pe_dget hu (pv 3) (pv 5) (fun _ _ => rfl))) (pg_tup rfl (pgs_cons (pg_name (i := 6) sc_casks_table.nd rfl (Or.inl rfl)) (pgs_cons (pg_name (i := 7) sc_casks_table.nd rfl (Or.inl rfl)) pgs_nil))) (pss_one (ps_if (pt_cmpR op_in_seq (pv 6) (pv 2) (by rfl)) (pss_one (ps_dput hu (pe_dget hu (pv 4) (pv 5) (fun _ _ => rfl)) (pv 6) (pv 7) rfl)) pss_nil)))))))
      (pss_one (ps_ret (pv 4)))))))

theorem sc_closed_casks : FnScope ["house", "steps", "whole", "kept", "name", "grown", "place"] ["house", "steps"] (defScope (topS 30)) := ⟨rfl, rfl, rfl, by decide +kernel, rfl, by decide +kernel, by decide +kernel⟩
theorem ok_closed_casks (T : Txt K mg) : Cal P w K mg base 7 "closed_casks" ["house", "steps"] (sp_closed_casks K) := by
  refine cal_of T.d_closed_casks sc_closed_casks (len_closed_casks K) (fun cdv A outer s H vs Q E hr h => ⟨t_closed_casks K, PSs.nox ?_, rd_closed_casks T.c vs H Q E h⟩)
  have hu := hu_of hr
  have hu65 := hu65_of hr
  exact (pss_cons (ps_set (i := 2) sc_closed_casks.nd rfl (Or.inl rfl) (pe_callC (ok_whole_table T) (hr.mono (by decide)) rfl (pa_cons (pv 0) (pa_cons (pv 1) pa_nil))))
      (pss_cons (ps_set (i := 3) sc_closed_casks.nd rfl (Or.inr rfl) pe_dnewK)
      (pss_cons (ps_for PassesOwn.never rfl (pi_list (pe_callC (ok_casks_of T) (hr.mono (by decide)) rfl (pa_cons (pv 0) pa_nil))) (pg_name (i := 4) sc_closed_casks.nd rfl (Or.inl rfl)) (pss_one (ps_dput hu (pv 3) (pv 4) pe_bl rfl)))
      (pss_cons (ps_set (i := 5) sc_closed_casks.nd rfl (Or.inl rfl) pe_bl)
      (pss_cons (ps_while PassesOwn.never (pt_val (pv 5)) (pss_cons (ps_set (i := 5) sc_closed_casks.nd rfl (Or.inl rfl) pe_bl)
      (pss_one (ps_for PassesOwn.never rfl (pi_list (pe_callTy (call_listDR rfl) (by rfl) T.b_list (by decide +kernel) (pa_cons (pv 3) pa_nil))) (pg_name (i := 4) sc_closed_casks.nd rfl (Or.inl rfl)) (pss_one (ps_if (pt_cmpR (op_neE hr.units0) (pe_lockR (pe_lc (own := [("place", 6)]) rfl sc_closed_casks.nd (pi_keys (pe_dget hu (pv 2) (pv 4) (fun _ _ => rfl))) (blkOk_by (own := [("place", 6)]) (N := ["house", "steps", "whole", "kept", "name", "grown", "place"]) (sc := defScope (topS 30)) (by decide +kernel)) (fun _ _ _ _ _ => (pg_name (i := 6) sc_closed_casks.nd rfl (Or.inl rfl))) (fun _ _ _ _ _ => (pts_one (pt_cmp (pc_dnotin hu (pv 6) (pv 3))))) (fun _ _ _ _ _ => (pv 6)))) (pe_lst pa_nil) (nomark _)) (pss_cons (ps_expr (pe_dpop1 (pv 3) (pv 4) ⟨rfl, rfl, rfl, rfl⟩))
      (pss_one (ps_set (i := 5) sc_closed_casks.nd rfl (Or.inl rfl) pe_bl))) pss_nil))))))
      (pss_one (ps_ret (pe_callB (call_sortedDR rfl) (by rfl) T.b_sorted (by decide +kernel) (pa_cons (pv 3) pa_nil)))))))))

theorem sc_brought_to : FnScope ["house", "steps", "found", "name", "place", "lot", "amount", "ends", "share"] ["house", "steps"] (defScope (topS 31)) := ⟨rfl, rfl, rfl, by decide +kernel, rfl, by decide +kernel, by decide +kernel⟩
theorem ok_brought_to (T : Txt K mg) : Cal P w K mg base 6 "brought_to" ["house", "steps"] (sp_brought_to K) := by
  refine cal_of T.d_brought_to sc_brought_to (len_brought_to K) (fun cdv A outer s H vs Q E hr h => ⟨t_brought_to K, PSs.nox ?_, rd_brought_to T.c vs H Q E h⟩)
  have hu := hu_of hr
  have hu65 := hu65_of hr
  exact (pss_cons (ps_set (i := 2) sc_brought_to.nd rfl (Or.inl rfl) pe_dnewK)
      (pss_cons (ps_for PassesOwn.never rfl (pi_list (pe_callC (ok_casks_of T) (hr.mono (by decide)) rfl (pa_cons (pv 0) pa_nil))) (pg_name (i := 3) sc_brought_to.nd rfl (Or.inl rfl)) (pss_one (ps_dput hu (pv 2) (pv 3) (pe_glob (v := .ref (He.ga K "NOUGHT_longrun")) rfl T.g_NOUGHT_longrun rfl) rfl)))
      (pss_cons (ps_for PassesOwn.never rfl (pi_list (pe_callC (ok_brought T) (hr.mono (by decide)) rfl (pa_cons (pe_lc (own := [("place", 4)]) rfl sc_brought_to.nd (pi_list (pv 0)) (blkOk_by (own := [("place", 4)]) (N := ["house", "steps", "found", "name", "place", "lot", "amount", "ends", "share"]) (sc := defScope (topS 31)) (by decide +kernel)) (fun _ _ _ _ _ => (pg_name (i := 4) sc_brought_to.nd rfl (Or.inl rfl))) (fun _ _ _ _ _ => pts_nil) (fun _ _ _ _ _ => (pe_ix ix_tup (pv 4) pe_int (fun _ _ => rfl)))) (pa_cons (pv 1) pa_nil)))) (pg_tup rfl (pgs_cons (pg_name (i := 5) sc_brought_to.nd rfl (Or.inl rfl)) (pgs_cons (pg_name (i := 6) sc_brought_to.nd rfl (Or.inl rfl)) (pgs_cons (pg_name (i := 7) sc_brought_to.nd rfl (Or.inl rfl)) pgs_nil)))) (pss_one (ps_lockR (ps_for PassesOwn.never rfl (pi_items (pv 7)) (pg_tup rfl (pgs_cons (pg_name (i := 4) sc_brought_to.nd rfl (Or.inl rfl)) (pgs_cons (pg_name (i := 8) sc_brought_to.nd rfl (Or.inl rfl)) pgs_nil))) (pss_one (ps_if (pt_cmp (pc_din hu (pv 4) (pv 2))) (pss_one (ps_dput hu (pv 2) (pv 4) (pe_callC (ok_plus T) (hr.mono (by decide)) rfl (pa_cons (pe_dget hu (pv 2) (pv 4) (fun _ _ => rfl)) (pa_cons (pe_callC (ok_times T) (hr.mono (by decide)) rfl (pa_cons (pv 6) (pa_cons (pv 8) pa_nil))) pa_nil))) rfl)) pss_nil))))))
      (pss_one (ps_ret (pv 2))))))

theorem sc_left_by : FnScope ["shares", "wanted", "casks", "square", "place", "row", "name", "own", "found", "amount"] ["shares", "wanted"] (defScope (topS 32)) := ⟨rfl, rfl, rfl, by decide +kernel, rfl, by decide +kernel, by decide +kernel⟩
theorem ok_left_by (T : Txt K mg) : Cal P w K mg base 6 "left_by" ["shares", "wanted"] (sp_left_by K) := by
  refine cal_of T.d_left_by sc_left_by (len_left_by K) (fun cdv A outer s H vs Q E hr h => ⟨t_left_by K, PSs.nox ?_, rd_left_by T.c vs H Q E h⟩)
  have hu := hu_of hr
  have hu65 := hu65_of hr
  exact (pss_cons (ps_set (i := 2) sc_left_by.nd rfl (Or.inl rfl) (pe_callTy (call_listDR rfl) (by rfl) T.b_list (by decide +kernel) (pa_cons (pv 0) pa_nil)))
      (pss_cons (ps_set (i := 3) sc_left_by.nd rfl (Or.inl rfl) (pe_lst pa_nil))
      (pss_cons (ps_for PassesOwn.never rfl (pi_list (pv 2)) (pg_name (i := 4) sc_left_by.nd rfl (Or.inl rfl)) (pss_cons (ps_set (i := 5) sc_left_by.nd rfl (Or.inl rfl) (pe_lst pa_nil))
      (pss_cons (ps_for PassesOwn.never rfl (pi_list (pv 2)) (pg_name (i := 6) sc_left_by.nd rfl (Or.inl rfl)) (pss_cons (ps_set (i := 7) sc_left_by.nd rfl (Or.inl rfl) (pe_glob (v := .ref (He.ga K "NOUGHT_longrun")) rfl T.g_NOUGHT_longrun rfl))
      (pss_cons (ps_if (pt_cmpR op_eq (pv 6) (pv 4) (nomark _)) (pss_one (ps_set (i := 7) sc_left_by.nd rfl (Or.inl rfl) (pe_glob (v := .ref (He.ga K "WHOLE_longrun")) rfl T.g_WHOLE_longrun rfl))) pss_nil)
      (pss_one (ps_expr (pe_bm PySem.F.plainAttrs_list PySem.F.slot_list_append PySem.F.type_list_append mt_append (pv 5) (pa_cons (pe_callC (ok_minus T) (hr.mono (by decide)) rfl (pa_cons (pv 7) (pa_cons (pe_dget2 hu (pe_dget hu (pv 0) (pv 6) (fun _ _ => rfl)) (pv 4) (pe_glob (v := .ref (He.ga K "NOUGHT_longrun")) rfl T.g_NOUGHT_longrun rfl) ⟨rfl, rfl, rfl, rfl⟩) pa_nil))) pa_nil)))))))
      (pss_one (ps_expr (pe_bm PySem.F.plainAttrs_list PySem.F.slot_list_append PySem.F.type_list_append mt_append (pv 3) (pa_cons (pv 5) pa_nil)))))))
      (pss_cons (ps_set (i := 8) sc_left_by.nd rfl (Or.inl rfl) pe_dnewK)
      (pss_cons (ps_for PassesOwn.never rfl (pi_zip (by rfl) T.b_zip (pa_cons (pv 2) (pa_cons (pe_callC (ok_solved T) (hr.mono (by decide)) rfl (pa_cons (pv 3) (pa_cons (pe_lc (own := [("name", 6)]) rfl sc_left_by.nd (pi_list (pv 2)) (blkOk_by (own := [("name", 6)]) (N := ["shares", "wanted", "casks", "square", "place", "row", "name", "own", "found", "amount"]) (sc := defScope (topS 32)) (by decide +kernel)) (fun _ _ _ _ _ => (pg_name (i := 6) sc_left_by.nd rfl (Or.inl rfl))) (fun _ _ _ _ _ => pts_nil) (fun _ _ _ _ _ => (pe_dget hu (pv 1) (pv 6) (fun _ _ => rfl)))) pa_nil))) pa_nil))) (pg_tup rfl (pgs_cons (pg_name (i := 6) sc_left_by.nd rfl (Or.inl rfl)) (pgs_cons (pg_name (i := 9) sc_left_by.nd rfl (Or.inl rfl)) pgs_nil))) (pss_one (ps_dput hu (pv 8) (pv 6) (pv 9) rfl)))
      (pss_one (ps_ret (pv 8))))))))

theorem sc_bound_of : FnScope ["shares", "left", "name", "k", "news", "most", "place", "share"] ["shares"] (defScope (topS 33)) := ⟨rfl, rfl, rfl, by decide +kernel, rfl, by decide +kernel, by decide +kernel⟩
theorem ok_bound_of (T : Txt K mg) : Cal P w K mg base 5 "bound_of" ["shares"] (sp_bound_of K) := by
  refine cal_of T.d_bound_of sc_bound_of (len_bound_of K) (fun cdv A outer s H vs Q E hr h => ⟨t_bound_of K, PSs.nox ?_, rd_bound_of T.c vs H Q E h⟩)
  have hu := hu_of hr
  have hu65 := hu65_of hr
  exact (pss_cons (ps_set (i := 1) sc_bound_of.nd rfl (Or.inr rfl) pe_dnewK)
      (pss_cons (ps_lockR (ps_for PassesOwn.never rfl (pi_keys (pv 0)) (pg_name (i := 2) sc_bound_of.nd rfl (Or.inl rfl)) (pss_one (ps_dput hu (pv 1) (pv 2) (pe_glob (v := .ref (He.ga K "WHOLE_longrun")) rfl T.g_WHOLE_longrun rfl) rfl))))
      (pss_cons (ps_set (i := 3) sc_bound_of.nd rfl (Or.inl rfl) pe_int)
      (pss_one (ps_while PassesOwn.never (pt_val pe_bl) (pss_cons (ps_set (i := 3) sc_bound_of.nd rfl (Or.inl rfl) (pe_op op_add (pv 3) pe_int))
      (pss_cons (ps_set (i := 4) sc_bound_of.nd rfl (Or.inl rfl) pe_dnewK)
      (pss_cons (ps_lockR (ps_for PassesOwn.never rfl (pi_keys (pv 0)) (pg_name (i := 2) sc_bound_of.nd rfl (Or.inl rfl)) (pss_one (ps_dput hu (pv 4) (pv 2) (pe_callC (ok_sum_of T) (hr.mono (by decide)) rfl (pa_cons (pe_lockR (pe_lc (own := [("place", 6), ("share", 7)]) rfl sc_bound_of.nd (pi_items (pe_dget hu (pv 0) (pv 2) (fun _ _ => rfl))) (blkOk_by (own := [("place", 6), ("share", 7)]) (N := ["shares", "left", "name", "k", "news", "most", "place", "share"]) (sc := defScope (topS 33)) (by decide +kernel)) (fun _ _ _ _ _ => (pg_tup rfl (pgs_cons (pg_name (i := 6) sc_bound_of.nd rfl (Or.inl rfl)) (pgs_cons (pg_name (i := 7) sc_bound_of.nd rfl (Or.inl rfl)) pgs_nil)))) (fun _ _ _ _ _ => pts_nil) (fun _ _ _ _ _ => (pe_callC (ok_times T) (hr.mono (by decide)) rfl (pa_cons (pv 7) (pa_cons (pe_dget hu (pv 1) (pv 6) (fun _ _ => rfl)) pa_nil)))))) pa_nil)) rfl))))
      (pss_cons (ps_set (i := 1) sc_bound_of.nd rfl (Or.inr rfl) (pv 4))
      (pss_cons (ps_set (i := 5) sc_bound_of.nd rfl (Or.inl rfl) (pe_glob (v := .ref (He.ga K "NOUGHT_longrun")) rfl T.g_NOUGHT_longrun rfl))
      (pss_cons (ps_lockR (ps_for PassesOwn.never rfl (pi_keys (pv 1)) (pg_name (i := 2) sc_bound_of.nd rfl (Or.inl rfl)) (pss_one (ps_if (pt_val (pe_callC (ok_under T) (hr.mono (by decide)) rfl (pa_cons (pv 5) (pa_cons (pe_dget hu (pv 1) (pv 2) (fun _ _ => rfl)) pa_nil)))) (pss_one (ps_set (i := 5) sc_bound_of.nd rfl (Or.inl rfl) (pe_dget hu (pv 1) (pv 2) (fun _ _ => rfl)))) pss_nil))))
      (pss_one (ps_if (pt_val (pe_callC (ok_under T) (hr.mono (by decide)) rfl (pa_cons (pv 5) (pa_cons (pe_glob (v := .ref (He.ga K "WHOLE_longrun")) rfl T.g_WHOLE_longrun rfl) pa_nil)))) (pss_one (ps_ret (pe_tup (pa_cons (pv 3) (pa_cons (pv 5) pa_nil))))) pss_nil)))))))))))))

theorem sc_long_run : FnScope ["house", "steps", "closed", "shares"] ["house", "steps"] (defScope (topS 34)) := ⟨rfl, rfl, rfl, by decide +kernel, rfl, by decide +kernel, by decide +kernel⟩
theorem ok_long_run (T : Txt K mg) : Cal P w K mg base 8 "long_run" ["house", "steps"] (sp_long_run K) := by
  refine cal_of T.d_long_run sc_long_run (len_long_run K) (fun cdv A outer s H vs Q E hr h => ⟨t_long_run K, PSs.nox ?_, rd_long_run T.c vs H Q E h⟩)
  have hu := hu_of hr
  have hu65 := hu65_of hr
  exact (pss_cons (ps_set (i := 2) sc_long_run.nd rfl (Or.inl rfl) (pe_callC (ok_closed_casks T) (hr.mono (by decide)) rfl (pa_cons (pv 0) (pa_cons (pv 1) pa_nil))))
      (pss_cons (ps_if (pt_cmpR (op_neE hr.units0) (pv 2) (pe_lst pa_nil) (nomark _)) (pss_one (ps_ret (pe_tup (pa_cons pe_str (pa_cons (pv 2) pa_nil))))) pss_nil)
      (pss_cons (ps_set (i := 3) sc_long_run.nd rfl (Or.inl rfl) (pe_callC (ok_casks_table T) (hr.mono (by decide)) rfl (pa_cons (pv 0) (pa_cons (pv 1) pa_nil))))
      (pss_one (ps_ret (pe_tup (pa_cons pe_str (pa_cons (pe_callC (ok_left_by T) (hr.mono (by decide)) rfl (pa_cons (pv 3) (pa_cons (pe_callC (ok_brought_to T) (hr.mono (by decide)) rfl (pa_cons (pv 0) (pa_cons (pv 1) pa_nil))) pa_nil))) (pa_cons (pe_callC (ok_bound_of T) (hr.mono (by decide)) rfl (pa_cons (pv 3) pa_nil)) pa_nil)))))))))

theorem sc_next_round : FnScope ["shares", "totals", "found", "name", "amount", "place", "share"] ["shares", "totals"] (defScope (topS 37)) := ⟨rfl, rfl, rfl, by decide +kernel, rfl, by decide +kernel, by decide +kernel⟩
theorem ok_next_round (T : Txt K mg) : Cal P w K mg base 4 "next_round" ["shares", "totals"] (sp_next_round K) := by
  refine cal_of T.d_next_round sc_next_round (len_next_round K) (fun cdv A outer s H vs Q E hr h => ⟨t_next_round K, PSs.nox ?_, rd_next_round T.c vs H Q E h⟩)
  have hu := hu_of hr
  have hu65 := hu65_of hr
  exact (pss_cons (ps_set (i := 2) sc_next_round.nd rfl (Or.inl rfl) pe_dnewK)
      (pss_cons (ps_lockR (ps_for PassesOwn.never rfl (pi_keys (pv 1)) (pg_name (i := 3) sc_next_round.nd rfl (Or.inl rfl)) (pss_one (ps_dput hu (pv 2) (pv 3) (pe_glob (v := .ref (He.ga K "NOUGHT_ages")) rfl T.g_NOUGHT_ages rfl) rfl))))
      (pss_cons (ps_lockR (ps_for PassesOwn.never rfl (pi_items (pv 1)) (pg_tup rfl (pgs_cons (pg_name (i := 3) sc_next_round.nd rfl (Or.inl rfl)) (pgs_cons (pg_name (i := 4) sc_next_round.nd rfl (Or.inl rfl)) pgs_nil))) (pss_one (ps_lockR (ps_for PassesOwn.never rfl (pi_items (pe_dget hu (pv 0) (pv 3) (fun _ _ => rfl))) (pg_tup rfl (pgs_cons (pg_name (i := 5) sc_next_round.nd rfl (Or.inl rfl)) (pgs_cons (pg_name (i := 6) sc_next_round.nd rfl (Or.inl rfl)) pgs_nil))) (pss_one (ps_dput hu (pv 2) (pv 5) (pe_callC (ok_plus T) (hr.mono (by decide)) rfl (pa_cons (pe_dget hu (pv 2) (pv 5) (fun _ _ => rfl)) (pa_cons (pe_callC (ok_times T) (hr.mono (by decide)) rfl (pa_cons (pv 4) (pa_cons (pv 6) pa_nil))) pa_nil))) rfl)))))))
      (pss_one (ps_ret (pv 2))))))

theorem sc_by_age : FnScope ["house", "steps", "many", "shares", "amounts", "found", "age"] ["house", "steps", "many"] (defScope (topS 38)) := ⟨rfl, rfl, rfl, by decide +kernel, rfl, by decide +kernel, by decide +kernel⟩
theorem ok_by_age (T : Txt K mg) : Cal P w K mg base 8 "by_age" ["house", "steps", "many"] (sp_by_age K) := by
  refine cal_of T.d_by_age sc_by_age (len_by_age K) (fun cdv A outer s H vs Q E hr h => ⟨t_by_age K, PSs.nox ?_, rd_by_age T.c vs H Q E h⟩)
  have hu := hu_of hr
  have hu65 := hu65_of hr
  exact (pss_cons (ps_if (pt_cmpR (op_neE hr.units0) (pe_callC (ok_closed_casks T) (hr.mono (by decide)) rfl (pa_cons (pv 0) (pa_cons (pv 1) pa_nil))) (pe_lst pa_nil) (nomark _)) (pss_one (ps_ret pe_non)) pss_nil)
      (pss_cons (ps_set (i := 3) sc_by_age.nd rfl (Or.inl rfl) (pe_callC (ok_casks_table T) (hr.mono (by decide)) rfl (pa_cons (pv 0) (pa_cons (pv 1) pa_nil))))
      (pss_cons (ps_set (i := 4) sc_by_age.nd rfl (Or.inl rfl) (pe_callC (ok_brought_to T) (hr.mono (by decide)) rfl (pa_cons (pv 0) (pa_cons (pv 1) pa_nil))))
      (pss_cons (ps_set (i := 5) sc_by_age.nd rfl (Or.inl rfl) (pe_lst pa_nil))
      (pss_cons (ps_for PassesOwn.never rfl (pi_range1 (by rfl) T.b_range (pa_cons (pv 2) pa_nil)) (pg_name (i := 6) sc_by_age.nd rfl (Or.inl rfl)) (pss_cons (ps_expr (pe_bm PySem.F.plainAttrs_list PySem.F.slot_list_append PySem.F.type_list_append mt_append (pv 5) (pa_cons (pe_callTy call_dictDR (by rfl) T.b_dict (by decide +kernel) (pa_cons (pv 4) pa_nil)) pa_nil)))
      (pss_one (ps_set (i := 4) sc_by_age.nd rfl (Or.inl rfl) (pe_callC (ok_next_round T) (hr.mono (by decide)) rfl (pa_cons (pv 3) (pa_cons (pv 4) pa_nil)))))))
      (pss_one (ps_ret (pv 5))))))))

theorem sc_mean_ages : FnScope ["house", "steps", "shares", "totals", "rounds", "found", "name"] ["house", "steps"] (defScope (topS 39)) := ⟨rfl, rfl, rfl, by decide +kernel, rfl, by decide +kernel, by decide +kernel⟩
theorem ok_mean_ages (T : Txt K mg) : Cal P w K mg base 8 "mean_ages" ["house", "steps"] (sp_mean_ages K) := by
  refine cal_of T.d_mean_ages sc_mean_ages (len_mean_ages K) (fun cdv A outer s H vs Q E hr h => ⟨t_mean_ages K, PSs.nox ?_, rd_mean_ages T.c vs H Q E h⟩)
  have hu := hu_of hr
  have hu65 := hu65_of hr
  exact (pss_cons (ps_if (pt_cmpR (op_neE hr.units0) (pe_callC (ok_closed_casks T) (hr.mono (by decide)) rfl (pa_cons (pv 0) (pa_cons (pv 1) pa_nil))) (pe_lst pa_nil) (nomark _)) (pss_one (ps_ret pe_non)) pss_nil)
      (pss_cons (ps_set (i := 2) sc_mean_ages.nd rfl (Or.inl rfl) (pe_callC (ok_casks_table T) (hr.mono (by decide)) rfl (pa_cons (pv 0) (pa_cons (pv 1) pa_nil))))
      (pss_cons (ps_set (i := 3) sc_mean_ages.nd rfl (Or.inl rfl) (pe_callC (ok_left_by T) (hr.mono (by decide)) rfl (pa_cons (pv 2) (pa_cons (pe_callC (ok_brought_to T) (hr.mono (by decide)) rfl (pa_cons (pv 0) (pa_cons (pv 1) pa_nil))) pa_nil))))
      (pss_cons (ps_set (i := 4) sc_mean_ages.nd rfl (Or.inl rfl) (pe_callC (ok_left_by T) (hr.mono (by decide)) rfl (pa_cons (pv 2) (pa_cons (pe_callC (ok_next_round T) (hr.mono (by decide)) rfl (pa_cons (pv 2) (pa_cons (pv 3) pa_nil))) pa_nil))))
      (pss_cons (ps_set (i := 5) sc_mean_ages.nd rfl (Or.inl rfl) pe_dnewK)
      (pss_cons (ps_lockR (ps_for PassesOwn.never rfl (pi_keys (pv 3)) (pg_name (i := 6) sc_mean_ages.nd rfl (Or.inl rfl)) (pss_cons (ps_dput hu (pv 5) (pv 6) pe_non rfl)
      (pss_one (ps_if (pt_cmpR (op_neD hr.units) (pe_dget hu (pv 3) (pv 6) (fun _ _ => rfl)) (pe_glob (v := .ref (He.ga K "NOUGHT_ages")) rfl T.g_NOUGHT_ages rfl) (nomark _)) (pss_one (ps_dput hu (pv 5) (pv 6) (pe_callC (ok_over T) (hr.mono (by decide)) rfl (pa_cons (pe_dget hu (pv 4) (pv 6) (fun _ _ => rfl)) (pa_cons (pe_dget hu (pv 3) (pv 6) (fun _ _ => rfl)) pa_nil))) rfl)) pss_nil)))))
      (pss_one (ps_ret (pv 5)))))))))

theorem sc_rooms_by_name : FnScope ["house", "found", "place"] ["house"] (defScope (topS 41)) := ⟨rfl, rfl, rfl, by decide +kernel, rfl, by decide +kernel, by decide +kernel⟩
theorem ok_rooms_by_name (T : Txt K mg) : Cal P w K mg base 1 "rooms_by_name" ["house"] (sp_rooms_by_name K) := by
  refine cal_of T.d_rooms_by_name sc_rooms_by_name (len_rooms_by_name K) (fun cdv A outer s H vs Q E hr h => ⟨t_rooms_by_name K, PSs.nox ?_, rd_rooms_by_name T.c vs H Q E h⟩)
  have hu := hu_of hr
  have hu65 := hu65_of hr
  exact (pss_cons (ps_set (i := 1) sc_rooms_by_name.nd rfl (Or.inl rfl) pe_dnewK)
      (pss_cons (ps_for PassesOwn.never rfl (pi_list (pv 0)) (pg_name (i := 2) sc_rooms_by_name.nd rfl (Or.inl rfl)) (pss_one (ps_if (pt_cmpR op_eq (pe_ix ix_tup (pv 2) pe_int (fun _ _ => rfl)) pe_str (nomark _)) (pss_one (ps_dput hu (pv 1) (pe_ix ix_tup (pv 2) pe_int (fun _ _ => rfl)) (pe_ix ix_tup (pv 2) pe_int (fun _ _ => rfl)) rfl)) pss_nil)))
      (pss_one (ps_ret (pv 1)))))

theorem sc_taken_share : FnScope ["rooms", "totals", "deed", "at", "wanted"] ["rooms", "totals", "deed", "at"] (defScope (topS 42)) := ⟨rfl, rfl, rfl, by decide +kernel, rfl, by decide +kernel, by decide +kernel⟩
theorem ok_taken_share (T : Txt K mg) : Cal P w K mg base 4 "taken_share" ["rooms", "totals", "deed", "at"] (sp_taken_share K) := by
  refine cal_of T.d_taken_share sc_taken_share (len_taken_share K) (fun cdv A outer s H vs Q E hr h => ⟨t_taken_share K, PSs.nox ?_, rd_taken_share T.c vs H Q E h⟩)
  have hu := hu_of hr
  have hu65 := hu65_of hr
  exact (pss_cons (ps_if (pt_cmpR op_eq (pe_ix ix_tup (pv 2) pe_int (fun _ _ => rfl)) pe_str (nomark _)) (pss_one (ps_ret (pe_ix ix_tup (pv 2) pe_int (fun _ _ => rfl)))) pss_nil)
      (pss_cons (ps_if (pt_cmpR op_eq (pe_ix ix_tup (pv 2) pe_int (fun _ _ => rfl)) pe_str (nomark _)) (pss_one (ps_ret (pe_tup (pa_cons pe_int (pa_cons pe_int pa_nil))))) pss_nil)
      (pss_cons (ps_set (i := 4) sc_taken_share.nd rfl (Or.inl rfl) (pe_ix ix_tup (pv 2) (pe_un un_neg pe_int) (fun _ _ => rfl)))
      (pss_cons (ps_if (pt_cmpR op_eq (pe_ix ix_tup (pv 2) pe_int (fun _ _ => rfl)) pe_str (nomark _)) (pss_one (ps_set (i := 4) sc_taken_share.nd rfl (Or.inl rfl) (pe_callC (ok_minus T) (hr.mono (by decide)) rfl (pa_cons (pe_dget hu (pv 0) (pe_ix ix_tup (pv 2) pe_int (fun _ _ => rfl)) (fun _ _ => rfl)) (pa_cons (pe_dget hu (pv 1) (pe_ix ix_tup (pv 2) pe_int (fun _ _ => rfl)) (fun _ _ => rfl)) pa_nil))))) pss_nil)
      (pss_cons (ps_if (pt_val (pe_callC (ok_under T) (hr.mono (by decide)) rfl (pa_cons (pe_dget hu (pv 1) (pe_ix ix_tup (pv 2) pe_int (fun _ _ => rfl)) (fun _ _ => rfl)) (pa_cons (pv 4) pa_nil)))) (pss_one ps_never) pss_nil)
      (pss_cons (ps_if (pt_cmpR (op_eqD hr.units) (pv 4) (pe_tup (pa_cons pe_int (pa_cons pe_int pa_nil))) (nomark _)) (pss_one (ps_ret (pe_tup (pa_cons pe_int (pa_cons pe_int pa_nil))))) pss_nil)
      (pss_one (ps_ret (pe_callC (ok_over T) (hr.mono (by decide)) rfl (pa_cons (pv 4) (pa_cons (pe_dget hu (pv 1) (pe_ix ix_tup (pv 2) pe_int (fun _ _ => rfl)) (fun _ _ => rfl)) pa_nil)))))))))))

theorem sc_step_of : FnScope ["rooms", "totals", "year", "deed", "at", "step", "share", "goes"] ["rooms", "totals", "year", "deed", "at"] (defScope (topS 43)) := ⟨rfl, rfl, rfl, by decide +kernel, rfl, by decide +kernel, by decide +kernel⟩
theorem ok_step_of (T : Txt K mg) : Cal P w K mg base 5 "step_of" ["rooms", "totals", "year", "deed", "at"] (sp_step_of K) := by
  refine cal_of T.d_step_of sc_step_of (len_step_of K) (fun cdv A outer s H vs Q E hr h => ⟨t_step_of K, PSs.nox ?_, rd_step_of T.c vs H Q E h⟩)
  have hu := hu_of hr
  have hu65 := hu65_of hr
  exact (pss_cons (ps_if (pt_cmpR op_eq (pe_ix ix_tup (pv 3) pe_int (fun _ _ => rfl)) pe_str (nomark _)) (pss_cons (ps_set (i := 5) sc_step_of.nd rfl (Or.inl rfl) (pe_tup (pa_cons pe_str (pa_cons (pe_tup (pa_cons (pe_ix ix_tup (pv 3) pe_int (fun _ _ => rfl)) (pa_cons (pv 2) pa_nil))) (pa_cons (pe_ix ix_tup (pv 3) pe_int (fun _ _ => rfl)) (pa_cons (pe_ix ix_tup (pv 3) pe_int (fun _ _ => rfl)) pa_nil))))))
      (pss_one (ps_dput hu (pv 1) (pe_ix ix_tup (pv 3) pe_int (fun _ _ => rfl)) (pe_callC (ok_plus T) (hr.mono (by decide)) rfl (pa_cons (pe_dget hu (pv 1) (pe_ix ix_tup (pv 3) pe_int (fun _ _ => rfl)) (fun _ _ => rfl)) (pa_cons (pe_ix ix_tup (pv 3) pe_int (fun _ _ => rfl)) pa_nil))) rfl))) (pss_cons (ps_set (i := 6) sc_step_of.nd rfl (Or.inl rfl) (pe_callC (ok_taken_share T) (hr.mono (by decide)) rfl (pa_cons (pv 0) (pa_cons (pv 1) (pa_cons (pv 3) (pa_cons (pv 4) pa_nil))))))
      (pss_cons (ps_set (i := 5) sc_step_of.nd rfl (Or.inl rfl) (pe_tup (pa_cons pe_str (pa_cons (pe_ix ix_tup (pv 3) pe_int (fun _ _ => rfl)) (pa_cons (pe_ix ix_tup (pv 3) pe_int (fun _ _ => rfl)) (pa_cons (pv 6) pa_nil))))))
      (pss_cons (ps_set (i := 7) sc_step_of.nd rfl (Or.inl rfl) (pe_callC (ok_times T) (hr.mono (by decide)) rfl (pa_cons (pe_dget hu (pv 1) (pe_ix ix_tup (pv 3) pe_int (fun _ _ => rfl)) (fun _ _ => rfl)) (pa_cons (pv 6) pa_nil))))
      (pss_cons (ps_dput hu (pv 1) (pe_ix ix_tup (pv 3) pe_int (fun _ _ => rfl)) (pe_callC (ok_minus T) (hr.mono (by decide)) rfl (pa_cons (pe_dget hu (pv 1) (pe_ix ix_tup (pv 3) pe_int (fun _ _ => rfl)) (fun _ _ => rfl)) (pa_cons (pv 7) pa_nil))) rfl)
      (pss_one (ps_dput hu (pv 1) (pe_ix ix_tup (pv 3) pe_int (fun _ _ => rfl)) (pe_callC (ok_plus T) (hr.mono (by decide)) rfl (pa_cons (pe_dget hu (pv 1) (pe_ix ix_tup (pv 3) pe_int (fun _ _ => rfl)) (fun _ _ => rfl)) (pa_cons (pv 7) pa_nil))) rfl)))))))
      (pss_cons (ps_if (PW.pt (pw_and (pt_cmp (pc_din hu (pe_ix ix_tup (pv 5) pe_int (fun _ _ => rfl)) (pv 0))) (pw_and1 (pt_val (pe_callC (ok_under T) (hr.mono (by decide)) rfl (pa_cons (pe_dget hu (pv 0) (pe_ix ix_tup (pv 5) pe_int (fun _ _ => rfl)) (fun _ _ => rfl)) (pa_cons (pe_dget hu (pv 1) (pe_ix ix_tup (pv 5) pe_int (fun _ _ => rfl)) (fun _ _ => rfl)) pa_nil))))))) (pss_one ps_never) pss_nil)
      (pss_one (ps_ret (pv 5)))))

theorem sc_steps_of : FnScope ["house", "totals", "year", "deeds", "rooms", "now", "steps", "at", "deed"] ["house", "totals", "year", "deeds"] (defScope (topS 44)) := ⟨rfl, rfl, rfl, by decide +kernel, rfl, by decide +kernel, by decide +kernel⟩
theorem ok_steps_of (T : Txt K mg) : Cal P w K mg base 6 "steps_of" ["house", "totals", "year", "deeds"] (sp_steps_of K) := by
  refine cal_of T.d_steps_of sc_steps_of (len_steps_of K) (fun cdv A outer s H vs Q E hr h => ⟨t_steps_of K, PSs.nox ?_, rd_steps_of T.c vs H Q E h⟩)
  have hu := hu_of hr
  have hu65 := hu65_of hr
  exact (pss_cons (ps_set (i := 4) sc_steps_of.nd rfl (Or.inl rfl) (pe_callC (ok_rooms_by_name T) (hr.mono (by decide)) rfl (pa_cons (pv 0) pa_nil)))
      (pss_cons (ps_set (i := 5) sc_steps_of.nd rfl (Or.inl rfl) (pe_callTy call_dictDR (by rfl) T.b_dict (by decide +kernel) (pa_cons (pv 1) pa_nil)))
      (pss_cons (ps_set (i := 6) sc_steps_of.nd rfl (Or.inl rfl) (pe_lst pa_nil))
      (pss_cons (ps_for PassesOwn.never rfl (pi_enum (by rfl) T.b_enumerate (pa_cons (pv 3) pa_nil)) (pg_tup rfl (pgs_cons (pg_name (i := 7) sc_steps_of.nd rfl (Or.inl rfl)) (pgs_cons (pg_name (i := 8) sc_steps_of.nd rfl (Or.inl rfl)) pgs_nil))) (pss_one (ps_if (pt_cmpR op_eq (pe_ix ix_tup (pv 8) pe_int (fun _ _ => rfl)) pe_str (nomark _)) (pss_one (ps_set (i := 2) sc_steps_of.nd rfl (Or.inl rfl) (pe_op op_add (pv 2) pe_int))) (pss_one (ps_expr (pe_bm PySem.F.plainAttrs_list PySem.F.slot_list_append PySem.F.type_list_append mt_append (pv 6) (pa_cons (pe_callC (ok_step_of T) (hr.mono (by decide)) rfl (pa_cons (pv 4) (pa_cons (pv 5) (pa_cons (pv 2) (pa_cons (pv 8) (pa_cons (pv 7) pa_nil)))))) pa_nil)))))))
      (pss_one (ps_ret (pe_tup (pa_cons (pv 6) (pa_cons (pv 5) pa_nil)))))))))

theorem sc_law_cell_at : FnScope ["_law_script", "_law_k"] ["_law_script", "_law_k"] (defScope (topS 46)) := ⟨rfl, rfl, rfl, by decide +kernel, rfl, by decide +kernel, by decide +kernel⟩
theorem ok_law_cell_at (T : Txt K mg) : Cal P w K mg base 1 "_law_cell_at" ["_law_script", "_law_k"] (sp_law_cell_at K) := by
  refine cal_of T.d_law_cell_at sc_law_cell_at (len_law_cell_at K) (fun cdv A outer s H vs Q E hr h => ⟨t_law_cell_at K, PSs.nox ?_, rd_law_cell_at T.c vs H Q E h⟩)
  have hu := hu_of hr
  have hu65 := hu65_of hr
  exact (pss_cons (ps_if (pt_cmpR op_lt (pv 1) (pe_callB call_lenR (by rfl) T.b_len (by decide +kernel) (pa_cons (pv 0) pa_nil)) (nomark _)) (pss_one (ps_ret (pe_ix ix_list (pv 0) (pv 1) (fun _ _ => rfl)))) pss_nil)
      (pss_one (ps_ret pe_int)))

theorem sc_law_mixed : FnScope ["_law_cell", "_law_k"] ["_law_cell", "_law_k"] (defScope (topS 47)) := ⟨rfl, rfl, rfl, by decide +kernel, rfl, by decide +kernel, by decide +kernel⟩
theorem ok_law_mixed (T : Txt K mg) : Cal P w K mg base 1 "_law_mixed" ["_law_cell", "_law_k"] (sp_law_mixed K) := by
  refine cal_of T.d_law_mixed sc_law_mixed (len_law_mixed K) (fun cdv A outer s H vs Q E hr h => ⟨t_law_mixed K, PSs.nox ?_, rd_law_mixed T.c vs H Q E h⟩)
  have hu := hu_of hr
  have hu65 := hu65_of hr
  exact (pss_one (ps_ret (pe_op op_mod (pe_op op_mulW (pe_op op_mod (pv 0) pe_int) (pe_ix ix_list (pe_lst (pa_cons pe_int (pa_cons pe_int (pa_cons pe_int (pa_cons pe_int pa_nil))))) (pv 1) (fun _ _ => rfl))) (pe_ix ix_list (pe_lst (pa_cons pe_int (pa_cons pe_int (pa_cons pe_int (pa_cons pe_int pa_nil))))) (pv 1) (fun _ _ => rfl)))))

theorem sc_law_divisor : FnScope ["_law_one", "_law_other"] ["_law_one", "_law_other"] (defScope (topS 48)) := ⟨rfl, rfl, rfl, by decide +kernel, rfl, by decide +kernel, by decide +kernel⟩
theorem ok_law_divisor (T : Txt K mg) : Cal P w K mg base 1 "_law_divisor" ["_law_one", "_law_other"] (sp_law_divisor K) := by
  refine cal_of T.d_law_divisor sc_law_divisor (len_law_divisor K) (fun cdv A outer s H vs Q E hr h => ⟨t_law_divisor K, PSs.nox ?_, rd_law_divisor T.c vs H Q E h⟩)
  have hu := hu_of hr
  have hu65 := hu65_of hr
  exact (pss_cons (ps_while PassesOwn.never (pt_cmpR op_ne (pv 1) pe_int (nomark _)) (pss_one (ps_par (i := 0) (j := 1) (by rfl) sc_law_divisor.nd rfl rfl (by decide) rfl rfl (pa_cons (pv 1) (pa_cons (pe_op op_mod (pv 0) (pv 1)) pa_nil)) (by rfl))))
      (pss_one (ps_ret (pe_callB call_absR (by rfl) T.b_abs (by decide +kernel) (pa_cons (pv 0) pa_nil)))))

theorem sc_law_lowest : FnScope ["_law_top", "_law_bottom", "_law_share"] ["_law_top", "_law_bottom"] (defScope (topS 49)) := ⟨rfl, rfl, rfl, by decide +kernel, rfl, by decide +kernel, by decide +kernel⟩
theorem ok_law_lowest (T : Txt K mg) : Cal P w K mg base 2 "_law_lowest" ["_law_top", "_law_bottom"] (sp_law_lowest K) := by
  refine cal_of T.d_law_lowest sc_law_lowest (len_law_lowest K) (fun cdv A outer s H vs Q E hr h => ⟨t_law_lowest K, PSs.nox ?_, rd_law_lowest T.c vs H Q E h⟩)
  have hu := hu_of hr
  have hu65 := hu65_of hr
  exact (pss_cons (ps_set (i := 2) sc_law_lowest.nd rfl (Or.inl rfl) (pe_callC (ok_law_divisor T) (hr.mono (by decide)) rfl (pa_cons (pv 0) (pa_cons (pv 1) pa_nil))))
      (pss_one (ps_ret (pe_tup (pa_cons (pe_op op_fdivW (pv 0) (pv 2)) (pa_cons (pe_op op_fdivW (pv 1) (pv 2)) pa_nil))))))

theorem sc_law_plus : FnScope ["_law_one", "_law_other"] ["_law_one", "_law_other"] (defScope (topS 50)) := ⟨rfl, rfl, rfl, by decide +kernel, rfl, by decide +kernel, by decide +kernel⟩
theorem ok_law_plus (T : Txt K mg) : Cal P w K mg base 3 "_law_plus" ["_law_one", "_law_other"] (sp_law_plus K) := by
  refine cal_of T.d_law_plus sc_law_plus (len_law_plus K) (fun cdv A outer s H vs Q E hr h => ⟨t_law_plus K, PSs.nox ?_, rd_law_plus T.c vs H Q E h⟩)
  have hu := hu_of hr
  have hu65 := hu65_of hr
  exact (pss_one (ps_ret (pe_callC (ok_law_lowest T) (hr.mono (by decide)) rfl (pa_cons (pe_op op_add (pe_op op_mulW (pe_ix ix_tup (pv 0) pe_int (fun _ _ => rfl)) (pe_ix ix_tup (pv 1) pe_int (fun _ _ => rfl))) (pe_op op_mulW (pe_ix ix_tup (pv 1) pe_int (fun _ _ => rfl)) (pe_ix ix_tup (pv 0) pe_int (fun _ _ => rfl)))) (pa_cons (pe_op op_mulW (pe_ix ix_tup (pv 0) pe_int (fun _ _ => rfl)) (pe_ix ix_tup (pv 1) pe_int (fun _ _ => rfl))) pa_nil)))))

theorem sc_law_times : FnScope ["_law_one", "_law_other"] ["_law_one", "_law_other"] (defScope (topS 52)) := ⟨rfl, rfl, rfl, by decide +kernel, rfl, by decide +kernel, by decide +kernel⟩
theorem ok_law_times (T : Txt K mg) : Cal P w K mg base 3 "_law_times" ["_law_one", "_law_other"] (sp_law_times K) := by
  refine cal_of T.d_law_times sc_law_times (len_law_times K) (fun cdv A outer s H vs Q E hr h => ⟨t_law_times K, PSs.nox ?_, rd_law_times T.c vs H Q E h⟩)
  have hu := hu_of hr
  have hu65 := hu65_of hr
  exact (pss_one (ps_ret (pe_callC (ok_law_lowest T) (hr.mono (by decide)) rfl (pa_cons (pe_op op_mulW (pe_ix ix_tup (pv 0) pe_int (fun _ _ => rfl)) (pe_ix ix_tup (pv 1) pe_int (fun _ _ => rfl))) (pa_cons (pe_op op_mulW (pe_ix ix_tup (pv 0) pe_int (fun _ _ => rfl)) (pe_ix ix_tup (pv 1) pe_int (fun _ _ => rfl))) pa_nil)))))

theorem sc_law_under : FnScope ["_law_one", "_law_other"] ["_law_one", "_law_other"] (defScope (topS 53)) := ⟨rfl, rfl, rfl, by decide +kernel, rfl, by decide +kernel, by decide +kernel⟩
theorem ok_law_under (T : Txt K mg) : Cal P w K mg base 1 "_law_under" ["_law_one", "_law_other"] (sp_law_under K) := by
  refine cal_of T.d_law_under sc_law_under (len_law_under K) (fun cdv A outer s H vs Q E hr h => ⟨t_law_under K, PSs.nox ?_, rd_law_under T.c vs H Q E h⟩)
  have hu := hu_of hr
  have hu65 := hu65_of hr
  exact (pss_one (ps_ret (pe_cmpR op_lt (pe_op op_mulW (pe_ix ix_tup (pv 0) pe_int (fun _ _ => rfl)) (pe_ix ix_tup (pv 1) pe_int (fun _ _ => rfl))) (pe_op op_mulW (pe_ix ix_tup (pv 1) pe_int (fun _ _ => rfl)) (pe_ix ix_tup (pv 0) pe_int (fun _ _ => rfl))) (nomark _))))

theorem sc_law_names : FnScope ["_law_cell", "_law_letters", "_law_k", "_law_base", "_law_at", "_law_names_here", "_law_j"] ["_law_cell"] (defScope (topS 54)) := ⟨rfl, rfl, rfl, by decide +kernel, rfl, by decide +kernel, by decide +kernel⟩
theorem ok_law_names (T : Txt K mg) : Cal P w K mg base 1 "_law_names" ["_law_cell"] (sp_law_names K) := by
  refine cal_of T.d_law_names sc_law_names (len_law_names K) (fun cdv A outer s H vs Q E hr h => ⟨t_law_names K, PSs.nox ?_, rd_law_names T.c vs H Q E h⟩)
  have hu := hu_of hr
  have hu65 := hu65_of hr
  exact (pss_cons (ps_set (i := 1) sc_law_names.nd rfl (Or.inr rfl) pe_str)
      (pss_cons (ps_set (i := 3) sc_law_names.nd rfl (Or.inr rfl) (pe_lc (own := [("_law_k", 2)]) rfl sc_law_names.nd (pi_range1 (by rfl) T.b_range (pa_cons (pe_op op_add pe_int (pe_op op_mod (pv 0) pe_int)) pa_nil)) (blkOk_by (own := [("_law_k", 2)]) (N := ["_law_cell", "_law_letters", "_law_k", "_law_base", "_law_at", "_law_names_here", "_law_j"]) (sc := defScope (topS 54)) (by decide +kernel)) (fun _ _ _ _ _ => (pg_name (i := 2) sc_law_names.nd rfl (Or.inl rfl))) (fun _ _ _ _ _ => pts_nil) (fun _ _ _ _ _ => (pe_op op_mod (pe_op op_add (pe_op op_fdivW (pv 0) (pe_op op_add (pv 2) pe_int)) (pe_op op_mulW (pv 2) (pv 2))) pe_int))))
      (pss_cons (ps_set (i := 4) sc_law_names.nd rfl (Or.inr rfl) (pe_op op_mod (pe_op op_fdivW (pv 0) pe_int) (pe_callB call_lenR (by rfl) T.b_len (by decide +kernel) (pa_cons (pv 3) pa_nil))))
      (pss_cons (ps_set (i := 5) sc_law_names.nd rfl (Or.inl rfl) (pe_lst pa_nil))
      (pss_cons (ps_for PassesOwn.never rfl (pi_range1 (by rfl) T.b_range (pa_cons pe_int pa_nil)) (pg_name (i := 2) sc_law_names.nd rfl (Or.inr rfl)) (pss_one (ps_expr (pe_bm PySem.F.plainAttrs_list PySem.F.slot_list_append PySem.F.type_list_append mt_append (pv 5) (pa_cons (pe_join pe_str (pe_lc (own := [("_law_j", 6)]) rfl sc_law_names.nd (pi_range1 (by rfl) T.b_range (pa_cons (pe_callB call_lenR (by rfl) T.b_len (by decide +kernel) (pa_cons (pv 3) pa_nil)) pa_nil)) (blkOk_by (own := [("_law_j", 6)]) (N := ["_law_cell", "_law_letters", "_law_k", "_law_base", "_law_at", "_law_names_here", "_law_j"]) (sc := defScope (topS 54)) (by decide +kernel)) (fun _ _ _ _ _ => (pg_name (i := 6) sc_law_names.nd rfl (Or.inl rfl))) (fun _ _ _ _ _ => pts_nil) (fun _ _ _ _ _ => (pe_ix ix_str (pv 1) (pe_op op_mod (pe_op op_add (pe_ix ix_list (pv 3) (pv 6) (fun _ _ => rfl)) (pe_op op_mulW (pv 2) (pe_callTy call_intR (by rfl) T.b_int (by decide +kernel) (pa_cons (pe_cmpR op_eq (pv 6) (pv 4) (nomark _)) pa_nil)))) pe_int) (fun _ _ => rfl))))) pa_nil)))))
      (pss_one (ps_ret (pv 5))))))))

theorem sc_law_house : FnScope ["_law_cell", "_law_names_here", "_law_house_here", "_law_k", "_law_room"] ["_law_cell", "_law_names_here"] (defScope (topS 55)) := ⟨rfl, rfl, rfl, by decide +kernel, rfl, by decide +kernel, by decide +kernel⟩
theorem ok_law_house (T : Txt K mg) : Cal P w K mg base 3 "_law_house" ["_law_cell", "_law_names_here"] (sp_law_house K) := by
  refine cal_of T.d_law_house sc_law_house (len_law_house K) (fun cdv A outer s H vs Q E hr h => ⟨t_law_house K, PSs.nox ?_, rd_law_house T.c vs H Q E h⟩)
  have hu := hu_of hr
  have hu65 := hu65_of hr
  exact (pss_cons (ps_set (i := 2) sc_law_house.nd rfl (Or.inl rfl) (pe_lst pa_nil))
      (pss_cons (ps_for PassesOwn.never rfl (pi_range1 (by rfl) T.b_range (pa_cons (pe_op op_add pe_int (pe_op op_mod (pv 0) pe_int)) pa_nil)) (pg_name (i := 3) sc_law_house.nd rfl (Or.inl rfl)) (pss_cons (ps_set (i := 4) sc_law_house.nd rfl (Or.inl rfl) (pe_callC (ok_law_lowest T) (hr.mono (by decide)) rfl (pa_cons (pe_op op_add pe_int (pe_op op_mod (pe_callC (ok_law_mixed T) (hr.mono (by decide)) rfl (pa_cons (pv 0) (pa_cons (pv 3) pa_nil))) pe_int)) (pa_cons (pe_op op_add pe_int (pe_op op_mod (pe_op op_fdivW (pe_callC (ok_law_mixed T) (hr.mono (by decide)) rfl (pa_cons (pv 0) (pa_cons (pv 3) pa_nil))) pe_int) pe_int)) pa_nil))))
      (pss_one (ps_expr (pe_bm PySem.F.plainAttrs_list PySem.F.slot_list_append PySem.F.type_list_append mt_append (pv 2) (pa_cons (pe_tup (pa_cons pe_str (pa_cons (pe_ix ix_list (pv 1) (pv 3) (fun _ _ => rfl)) (pa_cons (pv 4) pa_nil)))) pa_nil))))))
      (pss_cons (ps_expr (pe_bm PySem.F.plainAttrs_list PySem.F.slot_list_insert PySem.F.type_list_insert mt_insertR (pv 2) (pa_cons (pe_op op_mod (pe_op op_fdivW (pv 0) pe_int) (pe_callB call_lenR (by rfl) T.b_len (by decide +kernel) (pa_cons (pv 2) pa_nil))) (pa_cons (pe_tup (pa_cons pe_str (pa_cons (pe_ix ix_list (pv 1) pe_int (fun _ _ => rfl)) pa_nil))) pa_nil))))
      (pss_cons (ps_expr (pe_bm PySem.F.plainAttrs_list PySem.F.slot_list_append PySem.F.type_list_append mt_append (pv 2) (pa_cons (pe_tup (pa_cons pe_str (pa_cons (pe_ix ix_list (pv 1) pe_int (fun _ _ => rfl)) pa_nil))) pa_nil)))
      (pss_one (ps_ret (pv 2)))))))

theorem sc_law_round : FnScope ["_law_house_here", "_law_names_here", "_law_cells", "_law_place", "_law_casks", "_law_least", "_law_amount", "_law_deeds", "_law_k", "_law_last", "_law_lost", "_law_at", "_law_more"] ["_law_house_here", "_law_names_here", "_law_cells"] (defScope (topS 56)) := ⟨rfl, rfl, rfl, by decide +kernel, rfl, by decide +kernel, by decide +kernel⟩
theorem ok_law_round (T : Txt K mg) : Cal P w K mg base 4 "_law_round" ["_law_house_here", "_law_names_here", "_law_cells"] (sp_law_round K) := by
  refine cal_of T.d_law_round sc_law_round (len_law_round K) (fun cdv A outer s H vs Q E hr h => ⟨t_law_round K, PSs.nox ?_, rd_law_round T.c vs H Q E h⟩)
  have hu := hu_of hr
  have hu65 := hu65_of hr
  exact (pss_cons (ps_setLc (i := 4) (own := [("_law_place", 3)]) rfl sc_law_round.nd rfl rfl (sw_true rfl rfl rfl (by decide +kernel)) (pi_list (pv 0)) (blkOk_by (own := [("_law_place", 3)]) (N := ["_law_house_here", "_law_names_here", "_law_cells", "_law_place", "_law_casks", "_law_least", "_law_amount", "_law_deeds", "_law_k", "_law_last", "_law_lost", "_law_at", "_law_more"]) (sc := defScope (topS 56)) (by decide +kernel)) (fun _ _ _ _ _ => (pg_name (i := 3) sc_law_round.nd rfl (Or.inl rfl))) (fun _ _ _ _ _ => (pts_one (pt_cmpR op_eq (pe_ix ix_tup (pv 3) pe_int (fun _ _ => rfl)) pe_str (nomark _)))) (fun _ _ _ _ _ => (pv 3)))
      (pss_cons (ps_set (i := 5) sc_law_round.nd rfl (Or.inl rfl) (pe_ix ix_tup (pe_ix ix_list (pv 4) pe_int (fun _ _ => rfl)) pe_int (fun _ _ => rfl)))
      (pss_cons (ps_for PassesOwn.never rfl (pi_list (pv 4)) (pg_name (i := 3) sc_law_round.nd rfl (Or.inl rfl)) (pss_one (ps_if (pt_val (pe_callC (ok_law_under T) (hr.mono (by decide)) rfl (pa_cons (pe_ix ix_tup (pv 3) pe_int (fun _ _ => rfl)) (pa_cons (pv 5) pa_nil)))) (pss_one (ps_set (i := 5) sc_law_round.nd rfl (Or.inl rfl) (pe_ix ix_tup (pv 3) pe_int (fun _ _ => rfl)))) pss_nil)))
      (pss_cons (ps_set (i := 6) sc_law_round.nd rfl (Or.inl rfl) (pe_callC (ok_law_times T) (hr.mono (by decide)) rfl (pa_cons (pv 5) (pa_cons (pe_tup (pa_cons (pe_op op_add pe_int (pe_op op_mod (pe_ix ix_list (pv 2) pe_int (fun _ _ => rfl)) pe_int)) (pa_cons pe_int pa_nil))) pa_nil))))
      (pss_cons (ps_set (i := 7) sc_law_round.nd rfl (Or.inl rfl) (pe_lst (pa_cons (pe_tup (pa_cons pe_str (pa_cons (pe_ix ix_tup (pe_ix ix_list (pv 4) (pe_un un_neg pe_int) (fun _ _ => rfl)) pe_int (fun _ _ => rfl)) (pa_cons (pe_ix ix_list (pv 1) (pe_op op_add pe_int (pe_op op_mod (pe_op op_fdivW (pe_ix ix_list (pv 2) pe_int (fun _ _ => rfl)) pe_int) pe_int)) (fun _ _ => rfl)) (pa_cons (pv 6) pa_nil))))) pa_nil)))
      (pss_cons (ps_for PassesOwn.never rfl (pi_range3 (by rfl) T.b_range (pa_cons (pe_op op_sub (pe_callB call_lenR (by rfl) T.b_len (by decide +kernel) (pa_cons (pv 4) pa_nil)) pe_int) (pa_cons pe_int (pa_cons (pe_un un_neg pe_int) pa_nil)))) (pg_name (i := 8) sc_law_round.nd rfl (Or.inl rfl)) (pss_one (ps_if (pt_cmpR op_eq (pe_op op_mod (pe_callC (ok_law_mixed T) (hr.mono (by decide)) rfl (pa_cons (pe_ix ix_list (pv 2) pe_int (fun _ _ => rfl)) (pa_cons (pe_op op_mod (pv 8) pe_int) pa_nil))) pe_int) pe_int (nomark _)) (pss_one (ps_expr (pe_bm PySem.F.plainAttrs_list PySem.F.slot_list_append PySem.F.type_list_append mt_append (pv 7) (pa_cons (pe_tup (pa_cons pe_str (pa_cons (pe_ix ix_tup (pe_ix ix_list (pv 4) (pe_op op_sub (pv 8) pe_int) (fun _ _ => rfl)) pe_int (fun _ _ => rfl)) (pa_cons (pe_ix ix_tup (pe_ix ix_list (pv 4) (pv 8) (fun _ _ => rfl)) pe_int (fun _ _ => rfl)) pa_nil)))) pa_nil)))) (pss_one (ps_expr (pe_bm PySem.F.plainAttrs_list PySem.F.slot_list_append PySem.F.type_list_append mt_append (pv 7) (pa_cons (pe_tup (pa_cons pe_str (pa_cons (pe_ix ix_tup (pe_ix ix_list (pv 4) (pe_op op_sub (pv 8) pe_int) (fun _ _ => rfl)) pe_int (fun _ _ => rfl)) (pa_cons (pe_ix ix_tup (pe_ix ix_list (pv 4) (pv 8) (fun _ _ => rfl)) pe_int (fun _ _ => rfl)) (pa_cons (pv 6) pa_nil))))) pa_nil)))))))
      (pss_cons (ps_expr (pe_bm PySem.F.plainAttrs_list PySem.F.slot_list_append PySem.F.type_list_append mt_append (pv 7) (pa_cons (pe_tup (pa_cons pe_str (pa_cons (pe_ix ix_list (pv 1) (pe_op op_add pe_int (pe_op op_mod (pe_ix ix_list (pv 2) pe_int (fun _ _ => rfl)) pe_int)) (fun _ _ => rfl)) (pa_cons (pe_ix ix_tup (pe_ix ix_list (pv 4) pe_int (fun _ _ => rfl)) pe_int (fun _ _ => rfl)) (pa_cons (pv 6) pa_nil))))) pa_nil)))
      (pss_cons (ps_set (i := 9) sc_law_round.nd rfl (Or.inl rfl) (pe_op op_sub (pe_callB call_lenR (by rfl) T.b_len (by decide +kernel) (pa_cons (pv 7) pa_nil)) pe_int))
      (pss_cons (ps_if (pt_cmpR op_eq (pe_op op_mod (pe_ix ix_list (pv 2) pe_int (fun _ _ => rfl)) pe_int) pe_int (nomark _)) (pss_cons (ps_set (i := 3) sc_law_round.nd rfl (Or.inl rfl) (pe_ix ix_list (pv 4) (pe_op op_mod (pe_op op_fdivW (pe_ix ix_list (pv 2) pe_int (fun _ _ => rfl)) pe_int) (pe_callB call_lenR (by rfl) T.b_len (by decide +kernel) (pa_cons (pv 4) pa_nil))) (fun _ _ => rfl)))
      (pss_cons (ps_set (i := 10) sc_law_round.nd rfl (Or.inl rfl) (pe_callC (ok_law_lowest T) (hr.mono (by decide)) rfl (pa_cons (pe_op op_add pe_int (pe_op op_mod (pe_op op_fdivW (pe_ix ix_list (pv 2) pe_int (fun _ _ => rfl)) pe_int) pe_int)) (pa_cons (pe_op op_add pe_int (pe_op op_mod (pe_op op_fdivW (pe_ix ix_list (pv 2) pe_int (fun _ _ => rfl)) pe_int) pe_int)) pa_nil))))
      (pss_cons (ps_set (i := 11) sc_law_round.nd rfl (Or.inl rfl) (pe_ix ix_list (pe_lst (pa_cons pe_int (pa_cons (pe_callB call_lenR (by rfl) T.b_len (by decide +kernel) (pa_cons (pv 7) pa_nil)) pa_nil))) (pe_op op_mod (pe_op op_fdivW (pe_ix ix_list (pv 2) pe_int (fun _ _ => rfl)) pe_int) pe_int) (fun _ _ => rfl)))
      (pss_cons (ps_set (i := 12) sc_law_round.nd rfl (Or.inl rfl) (pe_lst (pa_cons (pe_tup (pa_cons pe_str (pa_cons (pe_ix ix_tup (pv 3) pe_int (fun _ _ => rfl)) (pa_cons (pe_ix ix_list (pv 1) pe_int (fun _ _ => rfl)) (pa_cons (pv 10) pa_nil))))) (pa_cons (pe_tup (pa_cons pe_str (pa_cons (pe_ix ix_list (pv 1) pe_int (fun _ _ => rfl)) (pa_cons (pe_ix ix_tup (pv 3) pe_int (fun _ _ => rfl)) (pa_cons (pe_callC (ok_law_times T) (hr.mono (by decide)) rfl (pa_cons (pe_ix ix_tup (pv 3) pe_int (fun _ _ => rfl)) (pa_cons (pv 10) pa_nil))) pa_nil))))) pa_nil))))
      (pss_cons (ps_set (i := 7) sc_law_round.nd rfl (Or.inl rfl) (pe_op op_cat (pe_op op_cat (pe_slice sl_list (pv 7) po_none (po_some (pv 11))) (pv 12)) (pe_slice sl_list (pv 7) (po_some (pv 11)) po_none)))
      (pss_one (ps_set (i := 9) sc_law_round.nd rfl (Or.inl rfl) (pe_op op_add (pv 9) (pe_op op_mulW pe_int (pe_callTy call_intR (by rfl) T.b_int (by decide +kernel) (pa_cons (pe_cmpR op_eq (pv 11) pe_int (nomark _)) pa_nil))))))))))) pss_nil)
      (pss_cons (ps_set (i := 11) sc_law_round.nd rfl (Or.inl rfl) (pe_op op_mod (pe_op op_fdivW (pe_ix ix_list (pv 2) pe_int (fun _ _ => rfl)) pe_int) (pe_op op_add (pe_callB call_lenR (by rfl) T.b_len (by decide +kernel) (pa_cons (pv 7) pa_nil)) pe_int)))
      (pss_one (ps_ret (pe_tup (pa_cons (pe_op op_cat (pe_op op_cat (pe_slice sl_list (pv 7) po_none (po_some (pv 11))) (pe_lst (pa_cons (pe_tup (pa_cons pe_str pa_nil)) pa_nil))) (pe_slice sl_list (pv 7) (po_some (pv 11)) po_none)) (pa_cons (pe_op op_add (pv 9) (pe_callTy call_intR (by rfl) T.b_int (by decide +kernel) (pa_cons (pe_cmpR op_le (pv 11) (pv 9) (nomark _)) pa_nil))) pa_nil)))))))))))))))

theorem sc_law_led : FnScope ["_law_tab", "_law_totals", "_law_found", "_law_name", "_law_place", "_law_share"] ["_law_tab", "_law_totals"] (defScope (topS 57)) := ⟨rfl, rfl, rfl, by decide +kernel, rfl, by decide +kernel, by decide +kernel⟩
theorem ok_law_led (T : Txt K mg) : Cal P w K mg base 4 "_law_led" ["_law_tab", "_law_totals"] (sp_law_led K) := by
  refine cal_of T.d_law_led sc_law_led (len_law_led K) (fun cdv A outer s H vs Q E hr h => ⟨t_law_led K, PSs.nox ?_, rd_law_led T.c vs H Q E h⟩)
  have hu := hu_of hr
  have hu65 := hu65_of hr
  exact (pss_cons (ps_set (i := 2) sc_law_led.nd rfl (Or.inl rfl) pe_dnewK)
      (pss_cons (ps_lockR (ps_for PassesOwn.never rfl (pi_keys (pv 1)) (pg_name (i := 3) sc_law_led.nd rfl (Or.inl rfl)) (pss_one (ps_dput hu (pv 2) (pv 3) (pe_tup (pa_cons pe_int (pa_cons pe_int pa_nil))) rfl))))
      (pss_cons (ps_lockR (ps_for PassesOwn.never rfl (pi_keys (pv 1)) (pg_name (i := 3) sc_law_led.nd rfl (Or.inl rfl)) (pss_one (ps_lockR (ps_for PassesOwn.never rfl (pi_items (pe_dget hu (pv 0) (pv 3) (fun _ _ => rfl))) (pg_tup rfl (pgs_cons (pg_name (i := 4) sc_law_led.nd rfl (Or.inl rfl)) (pgs_cons (pg_name (i := 5) sc_law_led.nd rfl (Or.inl rfl)) pgs_nil))) (pss_one (ps_dput hu (pv 2) (pv 4) (pe_callC (ok_law_plus T) (hr.mono (by decide)) rfl (pa_cons (pe_dget hu (pv 2) (pv 4) (fun _ _ => rfl)) (pa_cons (pe_callC (ok_law_times T) (hr.mono (by decide)) rfl (pa_cons (pe_dget hu (pv 1) (pv 3) (fun _ _ => rfl)) (pa_cons (pv 5) pa_nil))) pa_nil))) rfl)))))))
      (pss_one (ps_ret (pv 2))))))

theorem sc_law_left : FnScope ["_law_tab", "_law_k", "_law_left_here", "_law_name", "_law_totals", "_law_other", "_law_turn", "_law_share"] ["_law_tab", "_law_k"] (defScope (topS 58)) := ⟨rfl, rfl, rfl, by decide +kernel, rfl, by decide +kernel, by decide +kernel⟩
theorem ok_law_left (T : Txt K mg) : Cal P w K mg base 5 "_law_left" ["_law_tab", "_law_k"] (sp_law_left K) := by
  refine cal_of T.d_law_left sc_law_left (len_law_left K) (fun cdv A outer s H vs Q E hr h => ⟨t_law_left K, PSs.nox ?_, rd_law_left T.c vs H Q E h⟩)
  have hu := hu_of hr
  have hu65 := hu65_of hr
  exact (pss_cons (ps_set (i := 2) sc_law_left.nd rfl (Or.inl rfl) (pe_lst pa_nil))
      (pss_cons (ps_lockR (ps_for PassesOwn.never rfl (pi_keys (pv 0)) (pg_name (i := 3) sc_law_left.nd rfl (Or.inl rfl)) (pss_cons (ps_set (i := 4) sc_law_left.nd rfl (Or.inl rfl) pe_dnewK)
      (pss_cons (ps_lockR (ps_for PassesOwn.never rfl (pi_keys (pv 0)) (pg_name (i := 5) sc_law_left.nd rfl (Or.inl rfl)) (pss_one (ps_dput hu (pv 4) (pv 5) (pe_tup (pa_cons (pe_callTy call_intR (by rfl) T.b_int (by decide +kernel) (pa_cons (pe_cmpR op_eq (pv 5) (pv 3) (nomark _)) pa_nil)) (pa_cons pe_int pa_nil))) rfl))))
      (pss_cons (ps_for PassesOwn.never rfl (pi_range1 (by rfl) T.b_range (pa_cons (pv 1) pa_nil)) (pg_name (i := 6) sc_law_left.nd rfl (Or.inl rfl)) (pss_one (ps_set (i := 4) sc_law_left.nd rfl (Or.inl rfl) (pe_callC (ok_law_led T) (hr.mono (by decide)) rfl (pa_cons (pv 0) (pa_cons (pv 4) pa_nil))))))
      (pss_cons (ps_set (i := 7) sc_law_left.nd rfl (Or.inl rfl) (pe_tup (pa_cons pe_int (pa_cons pe_int pa_nil))))
      (pss_cons (ps_lockR (ps_for PassesOwn.never rfl (pi_keys (pv 4)) (pg_name (i := 5) sc_law_left.nd rfl (Or.inl rfl)) (pss_one (ps_set (i := 7) sc_law_left.nd rfl (Or.inl rfl) (pe_callC (ok_law_plus T) (hr.mono (by decide)) rfl (pa_cons (pv 7) (pa_cons (pe_dget hu (pv 4) (pv 5) (fun _ _ => rfl)) pa_nil)))))))
      (pss_one (ps_expr (pe_bm PySem.F.plainAttrs_list PySem.F.slot_list_append PySem.F.type_list_append mt_append (pv 2) (pa_cons (pv 7) pa_nil)))))))))))
      (pss_one (ps_ret (pv 2)))))

theorem sc_law_bound_right : FnScope ["_law_tab", "_law_bound", "_law_k", "_law_share", "_law_found", "_law_one"] ["_law_tab", "_law_bound"] (defScope (topS 59)) := ⟨rfl, rfl, rfl, by decide +kernel, rfl, by decide +kernel, by decide +kernel⟩
theorem ok_law_bound_right (T : Txt K mg) : Cal P w K mg base 6 "_law_bound_right" ["_law_tab", "_law_bound"] (sp_law_bound_right K) := by
  refine cal_of T.d_law_bound_right sc_law_bound_right (len_law_bound_right K) (fun cdv A outer s H vs Q E hr h => ⟨t_law_bound_right K, PSs.nox ?_, rd_law_bound_right T.c vs H Q E h⟩)
  have hu := hu_of hr
  have hu65 := hu65_of hr
  exact (pss_cons (ps_asg (pv 1) (pg_tup rfl (pgs_cons (pg_name (i := 2) sc_law_bound_right.nd rfl (Or.inl rfl)) (pgs_cons (pg_name (i := 3) sc_law_bound_right.nd rfl (Or.inr rfl)) pgs_nil))))
      (pss_cons (ps_set (i := 4) sc_law_bound_right.nd rfl (Or.inl rfl) (pe_callC (ok_law_left T) (hr.mono (by decide)) rfl (pa_cons (pv 0) (pa_cons (pv 2) pa_nil))))
      (pss_cons (ps_if (PW.pt (pw_or (pt_cmpR (op_notInD hu65) (pv 3) (pv 4) (by rfl)) (pw_or1 (pt_not (pt_val (pe_callC (ok_law_under T) (hr.mono (by decide)) rfl (pa_cons (pv 3) (pa_cons (pe_tup (pa_cons pe_int (pa_cons pe_int pa_nil))) pa_nil)))))))) (pss_one (ps_ret pe_bl)) pss_nil)
      (pss_cons (ps_if (pt_cmpR (op_neE hr.units0) (pe_lc (own := [("_law_one", 5)]) rfl sc_law_bound_right.nd (pi_list (pv 4)) (blkOk_by (own := [("_law_one", 5)]) (N := ["_law_tab", "_law_bound", "_law_k", "_law_share", "_law_found", "_law_one"]) (sc := defScope (topS 59)) (by decide +kernel)) (fun _ _ _ _ _ => (pg_name (i := 5) sc_law_bound_right.nd rfl (Or.inl rfl))) (fun _ _ _ _ _ => (pts_one (pt_val (pe_callC (ok_law_under T) (hr.mono (by decide)) rfl (pa_cons (pv 3) (pa_cons (pv 5) pa_nil)))))) (fun _ _ _ _ _ => (pv 5))) (pe_lst pa_nil) (nomark _)) (pss_one (ps_ret pe_bl)) pss_nil)
      (pss_one (ps_ret (pe_cmpR (op_inD hu65) (pe_tup (pa_cons pe_int (pa_cons pe_int pa_nil))) (pe_callC (ok_law_left T) (hr.mono (by decide)) rfl (pa_cons (pv 0) (pa_cons (pe_op op_sub (pv 2) pe_int) pa_nil))) (by rfl))))))))

theorem sc_law_ages_right : FnScope ["_law_house_here", "_law_steps", "_law_tab", "_law_totals", "_law_many", "_law_found", "_law_left_here", "_law_turn", "_law_age", "_law_name"] ["_law_house_here", "_law_steps", "_law_tab", "_law_totals", "_law_many"] (defScope (topS 60)) := ⟨rfl, rfl, rfl, by decide +kernel, rfl, by decide +kernel, by decide +kernel⟩
theorem ok_law_ages_right (T : Txt K mg) : Cal P w K mg base 9 "_law_ages_right" ["_law_house_here", "_law_steps", "_law_tab", "_law_totals", "_law_many"] (sp_law_ages_right K) := by
  refine cal_of T.d_law_ages_right sc_law_ages_right (len_law_ages_right K) (fun cdv A outer s H vs Q E hr h => ⟨t_law_ages_right K, PSs.nox ?_, rd_law_ages_right T.c vs H Q E h⟩)
  have hu := hu_of hr
  have hu65 := hu65_of hr
  exact (pss_cons (ps_set (i := 5) sc_law_ages_right.nd rfl (Or.inl rfl) (pe_callC (ok_by_age T) (hr.mono (by decide)) rfl (pa_cons (pv 0) (pa_cons (pv 1) (pa_cons (pv 4) pa_nil)))))
      (pss_cons (ps_if (PW.pt (pw_or (pt_not (pt_val (pe_callB call_isi (by rfl) T.b_isinstance (by decide +kernel) (pa_cons (pv 5) (pa_cons (pe_bltn (v := .ty "list") (by rfl) T.b_list (by decide +kernel) rfl) pa_nil))))) (pw_or1 (pt_cmpR op_ne (pe_callB call_lenR (by rfl) T.b_len (by decide +kernel) (pa_cons (pv 5) pa_nil)) (pv 4) (nomark _))))) (pss_one (ps_ret pe_bl)) pss_nil)
      (pss_cons (ps_set (i := 6) sc_law_ages_right.nd rfl (Or.inl rfl) (pe_callTy call_dictDR (by rfl) T.b_dict (by decide +kernel) (pa_cons (pv 3) pa_nil)))
      (pss_cons (ps_for PassesOwn.never rfl (pi_range1 (by rfl) T.b_range (pa_cons (pv 4) pa_nil)) (pg_name (i := 7) sc_law_ages_right.nd rfl (Or.inl rfl)) (pss_one (ps_set (i := 6) sc_law_ages_right.nd rfl (Or.inl rfl) (pe_callC (ok_law_led T) (hr.mono (by decide)) rfl (pa_cons (pv 2) (pa_cons (pv 6) pa_nil))))))
      (pss_cons (ps_for PassesOwn.never rfl (pi_range1 (by rfl) T.b_range (pa_cons (pv 4) pa_nil)) (pg_name (i := 8) sc_law_ages_right.nd rfl (Or.inl rfl)) (pss_one (ps_lockR (ps_for PassesOwn.never rfl (pi_keys (pv 3)) (pg_name (i := 9) sc_law_ages_right.nd rfl (Or.inl rfl)) (pss_one (ps_dput hu (pv 6) (pv 9) (pe_callC (ok_law_plus T) (hr.mono (by decide)) rfl (pa_cons (pe_dget hu (pv 6) (pv 9) (fun _ _ => rfl)) (pa_cons (pe_dget hu (pe_ix ix_list (pv 5) (pv 8) (fun _ _ => rfl)) (pv 9) (fun _ _ => rfl)) pa_nil))) rfl))))))
      (pss_one (ps_ret (pe_cmpR (op_eqDF hr.units) (pv 6) (pv 3) (nomark _)))))))))

theorem sc_law_means_right : FnScope ["_law_house_here", "_law_steps", "_law_tab", "_law_totals", "_law_mids", "_law_older", "_law_name", "_law_led_here"] ["_law_house_here", "_law_steps", "_law_tab", "_law_totals"] (defScope (topS 61)) := ⟨rfl, rfl, rfl, by decide +kernel, rfl, by decide +kernel, by decide +kernel⟩
theorem ok_law_means_right (T : Txt K mg) : Cal P w K mg base 9 "_law_means_right" ["_law_house_here", "_law_steps", "_law_tab", "_law_totals"] (sp_law_means_right K) := by
  refine cal_of T.d_law_means_right sc_law_means_right (len_law_means_right K) (fun cdv A outer s H vs Q E hr h => ⟨t_law_means_right K, PSs.nox ?_, rd_law_means_right T.c vs H Q E h⟩)
  have hu := hu_of hr
  have hu65 := hu65_of hr
  exact (pss_cons (ps_set (i := 4) sc_law_means_right.nd rfl (Or.inl rfl) (pe_callC (ok_mean_ages T) (hr.mono (by decide)) rfl (pa_cons (pv 0) (pa_cons (pv 1) pa_nil))))
      (pss_cons (ps_set (i := 5) sc_law_means_right.nd rfl (Or.inl rfl) pe_dnewK)
      (pss_cons (ps_lockR (ps_for PassesOwn.never rfl (pi_keys (pv 3)) (pg_name (i := 6) sc_law_means_right.nd rfl (Or.inl rfl)) (pss_one (ps_dput hu (pv 5) (pv 6) (pe_callC (ok_law_plus T) (hr.mono (by decide)) rfl (pa_cons (pe_callC (ok_law_times T) (hr.mono (by decide)) rfl (pa_cons (pe_dget hu (pv 4) (pv 6) (fun _ _ => rfl)) (pa_cons (pe_dget hu (pv 3) (pv 6) (fun _ _ => rfl)) pa_nil))) (pa_cons (pe_dget hu (pv 3) (pv 6) (fun _ _ => rfl)) pa_nil))) rfl))))
      (pss_cons (ps_set (i := 7) sc_law_means_right.nd rfl (Or.inl rfl) (pe_callC (ok_law_led T) (hr.mono (by decide)) rfl (pa_cons (pv 2) (pa_cons (pv 5) pa_nil))))
      (pss_cons (ps_lockR (ps_for PassesOwn.never rfl (pi_keys (pv 3)) (pg_name (i := 6) sc_law_means_right.nd rfl (Or.inl rfl)) (pss_one (ps_if (pt_cmpR (op_neD hr.units) (pe_dget hu (pv 7) (pv 6) (fun _ _ => rfl)) (pe_callC (ok_law_times T) (hr.mono (by decide)) rfl (pa_cons (pe_dget hu (pv 4) (pv 6) (fun _ _ => rfl)) (pa_cons (pe_dget hu (pv 3) (pv 6) (fun _ _ => rfl)) pa_nil))) (nomark _)) (pss_one (ps_ret pe_bl)) pss_nil))))
      (pss_one (ps_ret pe_bl)))))))

theorem sc_law : FnScope ["_law_script", "_law_names_here", "_law_cells", "_law_house_here", "_law_year", "_law_deeds", "_law_last", "_law_standing", "_law_totals", "_law_place", "_law_steps", "_law_after", "_law_found", "_law_tab", "_law_k"] ["_law_script"] (defScope (topS 62)) := ⟨rfl, rfl, rfl, by decide +kernel, rfl, by decide +kernel, by decide +kernel⟩
theorem ok_law {f : Addr} {fd : FuncData} (T : Txt K mg) (F : FunD K "law" "law" (defArgs (topS 62)) (defBody (topS 62)) (defScope (topS 62)) [] [] f fd) : FnOk P w K mg base CX0 10 f fd ["_law_script"] (sp_law K) := by
  refine F.ok (CX := CX0) sc_law (len_law K) (fun cdv A outer s H vs Q E hr h => ⟨t_law K, PSs.nox ?_, rd_law T.c vs H Q E h⟩)
  have hu := hu_of hr
  have hu65 := hu65_of hr
  exact (pss_cons (ps_set (i := 1) sc_law.nd rfl (Or.inl rfl) (pe_callC (ok_law_names T) (hr.mono (by decide)) rfl (pa_cons (pe_callC (ok_law_cell_at T) (hr.mono (by decide)) rfl (pa_cons (pv 0) (pa_cons pe_int pa_nil))) pa_nil)))
      (pss_cons (ps_setLc (i := 2) (own := [("_law_k", 14)]) rfl sc_law.nd rfl rfl (sw_true rfl rfl rfl (by decide +kernel)) (pi_range1 (by rfl) T.b_range (pa_cons pe_int pa_nil)) (blkOk_by (own := [("_law_k", 14)]) (N := ["_law_script", "_law_names_here", "_law_cells", "_law_house_here", "_law_year", "_law_deeds", "_law_last", "_law_standing", "_law_totals", "_law_place", "_law_steps", "_law_after", "_law_found", "_law_tab", "_law_k"]) (sc := defScope (topS 62)) (by decide +kernel)) (fun _ _ _ _ _ => (pg_name (i := 14) sc_law.nd rfl (Or.inl rfl))) (fun _ _ _ _ _ => pts_nil) (fun _ _ _ _ _ => (pe_callC (ok_law_cell_at T) (hr.mono (by decide)) rfl (pa_cons (pv 0) (pa_cons (pe_op op_add pe_int (pv 14)) pa_nil)))))
      (pss_cons (ps_set (i := 3) sc_law.nd rfl (Or.inl rfl) (pe_callC (ok_law_house T) (hr.mono (by decide)) rfl (pa_cons (pe_callC (ok_law_cell_at T) (hr.mono (by decide)) rfl (pa_cons (pv 0) (pa_cons pe_int pa_nil))) (pa_cons (pv 1) pa_nil))))
      (pss_cons (ps_set (i := 4) sc_law.nd rfl (Or.inl rfl) (pe_op op_add pe_int (pe_op op_mod (pe_op op_fdivW (pe_callC (ok_law_cell_at T) (hr.mono (by decide)) rfl (pa_cons (pv 0) (pa_cons pe_int pa_nil))) pe_int) pe_int)))
      (pss_cons (ps_asg (pe_callC (ok_law_round T) (hr.mono (by decide)) rfl (pa_cons (pv 3) (pa_cons (pv 1) (pa_cons (pv 2) pa_nil)))) (pg_tup rfl (pgs_cons (pg_name (i := 5) sc_law.nd rfl (Or.inl rfl)) (pgs_cons (pg_name (i := 6) sc_law.nd rfl (Or.inl rfl)) pgs_nil))))
      (pss_cons (ps_set (i := 7) sc_law.nd rfl (Or.inl rfl) pe_dnewK)
      (pss_cons (ps_set (i := 8) sc_law.nd rfl (Or.inl rfl) pe_dnewK)
      (pss_cons (ps_for PassesOwn.never rfl (pi_list (pv 3)) (pg_name (i := 9) sc_law.nd rfl (Or.inl rfl)) (pss_cons (ps_dput hu (pv 7) (pe_ix ix_tup (pv 9) pe_int (fun _ _ => rfl)) (pe_tup (pa_cons pe_int (pa_cons pe_int pa_nil))) rfl)
      (pss_one (ps_if (pt_cmpR op_eq (pe_ix ix_tup (pv 9) pe_int (fun _ _ => rfl)) pe_str (nomark _)) (pss_cons (ps_dput hu (pv 7) (pe_ix ix_tup (pv 9) pe_int (fun _ _ => rfl)) (pe_ix ix_tup (pv 9) pe_int (fun _ _ => rfl)) rfl)
      (pss_one (ps_dput hu (pv 8) (pe_ix ix_tup (pv 9) pe_int (fun _ _ => rfl)) (pe_ix ix_tup (pv 9) pe_int (fun _ _ => rfl)) rfl))) pss_nil))))
      (pss_cons (ps_asg (pe_callC (ok_steps_of T) (hr.mono (by decide)) rfl (pa_cons (pv 3) (pa_cons (pe_callTy call_dictDR (by rfl) T.b_dict (by decide +kernel) (pa_cons (pv 7) pa_nil)) (pa_cons (pv 4) (pa_cons (pv 5) pa_nil))))) (pg_tup rfl (pgs_cons (pg_name (i := 10) sc_law.nd rfl (Or.inl rfl)) (pgs_cons (pg_name (i := 11) sc_law.nd rfl (Or.inl rfl)) pgs_nil))))
      (pss_cons (ps_set (i := 12) sc_law.nd rfl (Or.inl rfl) (pe_callC (ok_long_run T) (hr.mono (by decide)) rfl (pa_cons (pv 3) (pa_cons (pe_callTy call_listR (by rfl) T.b_list (by decide +kernel) (pa_cons (pv 10) pa_nil)) pa_nil))))
      (pss_cons (ps_if (PW.pt (pw_or (pt_not (pt_val (pe_callB call_isi (by rfl) T.b_isinstance (by decide +kernel) (pa_cons (pv 12) (pa_cons (pe_bltn (v := .ty "tuple") (by rfl) T.b_tuple (by decide +kernel) rfl) pa_nil))))) (pw_or (pt_cmpR op_ne (pe_callB call_lenR (by rfl) T.b_len (by decide +kernel) (pa_cons (pv 12) pa_nil)) pe_int (nomark _)) (pw_or1 (pt_cmpR (op_neV hr.units) (pe_slice sl_tup (pv 12) po_none (po_some pe_int)) (pe_tup (pa_cons pe_str (pa_cons (pv 8) pa_nil))) (nomark _)))))) (pss_one (ps_ret pe_bl)) pss_nil)
      (pss_cons (ps_set (i := 13) sc_law.nd rfl (Or.inl rfl) (pe_callC (ok_casks_table T) (hr.mono (by decide)) rfl (pa_cons (pv 3) (pa_cons (pv 10) pa_nil))))
      (pss_cons (ps_if (PW.pt (pw_or (pt_cmpR (op_neS hr.units0) (pe_callB (call_sortedDR rfl) (by rfl) T.b_sorted (by decide +kernel) (pa_cons (pv 13) pa_nil)) (pe_callB (call_sortedDR rfl) (by rfl) T.b_sorted (by decide +kernel) (pa_cons (pv 8) pa_nil)) (nomark _)) (pw_or1 (pt_not (pt_val (pe_callC (ok_law_bound_right T) (hr.mono (by decide)) rfl (pa_cons (pv 13) (pa_cons (pe_ix ix_tup (pv 12) pe_int (fun _ _ => rfl)) pa_nil)))))))) (pss_one (ps_ret pe_bl)) pss_nil)
      (pss_cons (ps_if (pt_not (pt_val (pe_callC (ok_law_ages_right T) (hr.mono (by decide)) rfl (pa_cons (pv 3) (pa_cons (pv 10) (pa_cons (pv 13) (pa_cons (pv 8) (pa_cons (pe_op op_mod (pe_callC (ok_law_cell_at T) (hr.mono (by decide)) rfl (pa_cons (pv 0) (pa_cons pe_int pa_nil))) pe_int) pa_nil)))))))) (pss_one (ps_ret pe_bl)) pss_nil)
      (pss_one (ps_ret (pe_callC (ok_law_means_right T) (hr.mono (by decide)) rfl (pa_cons (pv 3) (pa_cons (pv 10) (pa_cons (pv 13) (pa_cons (pv 8) pa_nil)))))))))))))))))))))

end
end Tc
set_option Elab.async false
set_option linter.all false
set_option maxRecDepth 100000
set_option maxHeartbeats 0
namespace Tc
open PySem PySem.Spec PyProof.Rows L2 Evl
theorem cst_of {K : PySem.W.Frag} (h : exs K = true) : Cst K := by
  unfold exs at h
  simp only [Bool.and_eq_true] at h
  obtain ⟨⟨⟨⟨⟨a1, a2⟩, a3⟩, a4⟩, a5⟩, a6⟩ := h
  exact ⟨fun H => He.tupB_ok a1 H, fun H => He.tupB_ok a2 H, fun H => He.tupB_ok a3 H, fun H => He.tupB_ok a4 H, fun H => He.tupB_ok a5 H, fun H => He.tupB_ok a6 H⟩
section
variable {P : Program} {w : World} {K : PySem.W.Frag} {h : Heap} {mg : Str → Option Value}
theorem da_divisor (X : K.In h) (G : h.Ns mainGlobals mg) (c : He.SaysX fas fns [] [] exs w h K) : DefAt K mg "divisor" 6 ["one", "other"] := by
  obtain ⟨fd, F⟩ := c.t.d.def_ 0 (d := mkD "divisor" 6) rfl
  exact ⟨_, fd, F, He.glo_ok X G (c.t.d.fact 0 (f := .glo "divisor") rfl), FunD.bindsN (ps := ["one", "other"]) F fun _ _ _ _ _ _ us hl => match us, hl with | [_, _], _ => rfl⟩
theorem da_lowest (X : K.In h) (G : h.Ns mainGlobals mg) (c : He.SaysX fas fns [] [] exs w h K) : DefAt K mg "lowest" 7 ["top", "bottom"] := by
  obtain ⟨fd, F⟩ := c.t.d.def_ 1 (d := mkD "lowest" 7) rfl
  exact ⟨_, fd, F, He.glo_ok X G (c.t.d.fact 1 (f := .glo "lowest") rfl), FunD.bindsN (ps := ["top", "bottom"]) F fun _ _ _ _ _ _ us hl => match us, hl with | [_, _], _ => rfl⟩
theorem da_plus (X : K.In h) (G : h.Ns mainGlobals mg) (c : He.SaysX fas fns [] [] exs w h K) : DefAt K mg "plus" 8 ["one", "other"] := by
  obtain ⟨fd, F⟩ := c.t.d.def_ 2 (d := mkD "plus" 8) rfl
  exact ⟨_, fd, F, He.glo_ok X G (c.t.d.fact 2 (f := .glo "plus") rfl), FunD.bindsN (ps := ["one", "other"]) F fun _ _ _ _ _ _ us hl => match us, hl with | [_, _], _ => rfl⟩
theorem da_minus (X : K.In h) (G : h.Ns mainGlobals mg) (c : He.SaysX fas fns [] [] exs w h K) : DefAt K mg "minus" 9 ["one", "other"] := by
  obtain ⟨fd, F⟩ := c.t.d.def_ 3 (d := mkD "minus" 9) rfl
  exact ⟨_, fd, F, He.glo_ok X G (c.t.d.fact 3 (f := .glo "minus") rfl), FunD.bindsN (ps := ["one", "other"]) F fun _ _ _ _ _ _ us hl => match us, hl with | [_, _], _ => rfl⟩
theorem da_times (X : K.In h) (G : h.Ns mainGlobals mg) (c : He.SaysX fas fns [] [] exs w h K) : DefAt K mg "times" 10 ["one", "other"] := by
  obtain ⟨fd, F⟩ := c.t.d.def_ 4 (d := mkD "times" 10) rfl
  exact ⟨_, fd, F, He.glo_ok X G (c.t.d.fact 4 (f := .glo "times") rfl), FunD.bindsN (ps := ["one", "other"]) F fun _ _ _ _ _ _ us hl => match us, hl with | [_, _], _ => rfl⟩
theorem da_over (X : K.In h) (G : h.Ns mainGlobals mg) (c : He.SaysX fas fns [] [] exs w h K) : DefAt K mg "over" 11 ["one", "other"] := by
  obtain ⟨fd, F⟩ := c.t.d.def_ 5 (d := mkD "over" 11) rfl
  exact ⟨_, fd, F, He.glo_ok X G (c.t.d.fact 5 (f := .glo "over") rfl), FunD.bindsN (ps := ["one", "other"]) F fun _ _ _ _ _ _ us hl => match us, hl with | [_, _], _ => rfl⟩
theorem da_under (X : K.In h) (G : h.Ns mainGlobals mg) (c : He.SaysX fas fns [] [] exs w h K) : DefAt K mg "under" 12 ["one", "other"] := by
  obtain ⟨fd, F⟩ := c.t.d.def_ 6 (d := mkD "under" 12) rfl
  exact ⟨_, fd, F, He.glo_ok X G (c.t.d.fact 6 (f := .glo "under") rfl), FunD.bindsN (ps := ["one", "other"]) F fun _ _ _ _ _ _ us hl => match us, hl with | [_, _], _ => rfl⟩
theorem da_sum_of (X : K.In h) (G : h.Ns mainGlobals mg) (c : He.SaysX fas fns [] [] exs w h K) : DefAt K mg "sum_of" 13 ["some"] := by
  obtain ⟨fd, F⟩ := c.t.d.def_ 7 (d := mkD "sum_of" 13) rfl
  exact ⟨_, fd, F, He.glo_ok X G (c.t.d.fact 7 (f := .glo "sum_of") rfl), FunD.bindsN (ps := ["some"]) F fun _ _ _ _ _ _ us hl => match us, hl with | [_], _ => rfl⟩
theorem da_clear_column (X : K.In h) (G : h.Ns mainGlobals mg) (c : He.SaysX fas fns [] [] exs w h K) : DefAt K mg "clear_column" 16 ["rows", "at"] := by
  obtain ⟨fd, F⟩ := c.t.d.def_ 8 (d := mkD "clear_column" 16) rfl
  exact ⟨_, fd, F, He.glo_ok X G (c.t.d.fact 8 (f := .glo "clear_column") rfl), FunD.bindsN (ps := ["rows", "at"]) F fun _ _ _ _ _ _ us hl => match us, hl with | [_, _], _ => rfl⟩
theorem da_solved (X : K.In h) (G : h.Ns mainGlobals mg) (c : He.SaysX fas fns [] [] exs w h K) : DefAt K mg "solved" 17 ["square", "wanted"] := by
  obtain ⟨fd, F⟩ := c.t.d.def_ 9 (d := mkD "solved" 17) rfl
  exact ⟨_, fd, F, He.glo_ok X G (c.t.d.fact 9 (f := .glo "solved") rfl), FunD.bindsN (ps := ["square", "wanted"]) F fun _ _ _ _ _ _ us hl => match us, hl with | [_, _], _ => rfl⟩
theorem da_pass_on (X : K.In h) (G : h.Ns mainGlobals mg) (c : He.SaysX fas fns [] [] exs w h K) : DefAt K mg "pass_on" 21 ["shares", "x", "y", "share"] := by
  obtain ⟨fd, F⟩ := c.t.d.def_ 10 (d := mkD "pass_on" 21) rfl
  exact ⟨_, fd, F, He.glo_ok X G (c.t.d.fact 10 (f := .glo "pass_on") rfl), FunD.bindsN (ps := ["shares", "x", "y", "share"]) F fun _ _ _ _ _ _ us hl => match us, hl with | [_, _, _, _], _ => rfl⟩
theorem da_table (X : K.In h) (G : h.Ns mainGlobals mg) (c : He.SaysX fas fns [] [] exs w h K) : DefAt K mg "table" 22 ["names", "steps"] := by
  obtain ⟨fd, F⟩ := c.t.d.def_ 11 (d := mkD "table" 22) rfl
  exact ⟨_, fd, F, He.glo_ok X G (c.t.d.fact 11 (f := .glo "table") rfl), FunD.bindsN (ps := ["names", "steps"]) F fun _ _ _ _ _ _ us hl => match us, hl with | [_, _], _ => rfl⟩
theorem da_brought (X : K.In h) (G : h.Ns mainGlobals mg) (c : He.SaysX fas fns [] [] exs w h K) : DefAt K mg "brought" 23 ["names", "steps"] := by
  obtain ⟨fd, F⟩ := c.t.d.def_ 12 (d := mkD "brought" 23) rfl
  exact ⟨_, fd, F, He.glo_ok X G (c.t.d.fact 12 (f := .glo "brought") rfl), FunD.bindsN (ps := ["names", "steps"]) F fun _ _ _ _ _ _ us hl => match us, hl with | [_, _], _ => rfl⟩
theorem da_casks_of (X : K.In h) (G : h.Ns mainGlobals mg) (c : He.SaysX fas fns [] [] exs w h K) : DefAt K mg "casks_of" 27 ["house"] := by
  obtain ⟨fd, F⟩ := c.t.d.def_ 13 (d := mkD "casks_of" 27) rfl
  exact ⟨_, fd, F, He.glo_ok X G (c.t.d.fact 13 (f := .glo "casks_of") rfl), FunD.bindsN (ps := ["house"]) F fun _ _ _ _ _ _ us hl => match us, hl with | [_], _ => rfl⟩
theorem da_whole_table (X : K.In h) (G : h.Ns mainGlobals mg) (c : He.SaysX fas fns [] [] exs w h K) : DefAt K mg "whole_table" 28 ["house", "steps"] := by
  obtain ⟨fd, F⟩ := c.t.d.def_ 14 (d := mkD "whole_table" 28) rfl
  exact ⟨_, fd, F, He.glo_ok X G (c.t.d.fact 14 (f := .glo "whole_table") rfl), FunD.bindsN (ps := ["house", "steps"]) F fun _ _ _ _ _ _ us hl => match us, hl with | [_, _], _ => rfl⟩
theorem da_casks_table (X : K.In h) (G : h.Ns mainGlobals mg) (c : He.SaysX fas fns [] [] exs w h K) : DefAt K mg "casks_table" 29 ["house", "steps"] := by
  obtain ⟨fd, F⟩ := c.t.d.def_ 15 (d := mkD "casks_table" 29) rfl
  exact ⟨_, fd, F, He.glo_ok X G (c.t.d.fact 15 (f := .glo "casks_table") rfl), FunD.bindsN (ps := ["house", "steps"]) F fun _ _ _ _ _ _ us hl => match us, hl with | [_, _], _ => rfl⟩
theorem da_closed_casks (X : K.In h) (G : h.Ns mainGlobals mg) (c : He.SaysX fas fns [] [] exs w h K) : DefAt K mg "closed_casks" 30 ["house", "steps"] := by
  obtain ⟨fd, F⟩ := c.t.d.def_ 16 (d := mkD "closed_casks" 30) rfl
  exact ⟨_, fd, F, He.glo_ok X G (c.t.d.fact 16 (f := .glo "closed_casks") rfl), FunD.bindsN (ps := ["house", "steps"]) F fun _ _ _ _ _ _ us hl => match us, hl with | [_, _], _ => rfl⟩
theorem da_brought_to (X : K.In h) (G : h.Ns mainGlobals mg) (c : He.SaysX fas fns [] [] exs w h K) : DefAt K mg "brought_to" 31 ["house", "steps"] := by
  obtain ⟨fd, F⟩ := c.t.d.def_ 17 (d := mkD "brought_to" 31) rfl
  exact ⟨_, fd, F, He.glo_ok X G (c.t.d.fact 17 (f := .glo "brought_to") rfl), FunD.bindsN (ps := ["house", "steps"]) F fun _ _ _ _ _ _ us hl => match us, hl with | [_, _], _ => rfl⟩
theorem da_left_by (X : K.In h) (G : h.Ns mainGlobals mg) (c : He.SaysX fas fns [] [] exs w h K) : DefAt K mg "left_by" 32 ["shares", "wanted"] := by
  obtain ⟨fd, F⟩ := c.t.d.def_ 18 (d := mkD "left_by" 32) rfl
  exact ⟨_, fd, F, He.glo_ok X G (c.t.d.fact 18 (f := .glo "left_by") rfl), FunD.bindsN (ps := ["shares", "wanted"]) F fun _ _ _ _ _ _ us hl => match us, hl with | [_, _], _ => rfl⟩
theorem da_bound_of (X : K.In h) (G : h.Ns mainGlobals mg) (c : He.SaysX fas fns [] [] exs w h K) : DefAt K mg "bound_of" 33 ["shares"] := by
  obtain ⟨fd, F⟩ := c.t.d.def_ 19 (d := mkD "bound_of" 33) rfl
  exact ⟨_, fd, F, He.glo_ok X G (c.t.d.fact 19 (f := .glo "bound_of") rfl), FunD.bindsN (ps := ["shares"]) F fun _ _ _ _ _ _ us hl => match us, hl with | [_], _ => rfl⟩
theorem da_long_run (X : K.In h) (G : h.Ns mainGlobals mg) (c : He.SaysX fas fns [] [] exs w h K) : DefAt K mg "long_run" 34 ["house", "steps"] := by
  obtain ⟨fd, F⟩ := c.t.d.def_ 20 (d := mkD "long_run" 34) rfl
  exact ⟨_, fd, F, He.glo_ok X G (c.t.d.fact 20 (f := .glo "long_run") rfl), FunD.bindsN (ps := ["house", "steps"]) F fun _ _ _ _ _ _ us hl => match us, hl with | [_, _], _ => rfl⟩
theorem da_next_round (X : K.In h) (G : h.Ns mainGlobals mg) (c : He.SaysX fas fns [] [] exs w h K) : DefAt K mg "next_round" 37 ["shares", "totals"] := by
  obtain ⟨fd, F⟩ := c.t.d.def_ 21 (d := mkD "next_round" 37) rfl
  exact ⟨_, fd, F, He.glo_ok X G (c.t.d.fact 21 (f := .glo "next_round") rfl), FunD.bindsN (ps := ["shares", "totals"]) F fun _ _ _ _ _ _ us hl => match us, hl with | [_, _], _ => rfl⟩
theorem da_by_age (X : K.In h) (G : h.Ns mainGlobals mg) (c : He.SaysX fas fns [] [] exs w h K) : DefAt K mg "by_age" 38 ["house", "steps", "many"] := by
  obtain ⟨fd, F⟩ := c.t.d.def_ 22 (d := mkD "by_age" 38) rfl
  exact ⟨_, fd, F, He.glo_ok X G (c.t.d.fact 22 (f := .glo "by_age") rfl), FunD.bindsN (ps := ["house", "steps", "many"]) F fun _ _ _ _ _ _ us hl => match us, hl with | [_, _, _], _ => rfl⟩
theorem da_mean_ages (X : K.In h) (G : h.Ns mainGlobals mg) (c : He.SaysX fas fns [] [] exs w h K) : DefAt K mg "mean_ages" 39 ["house", "steps"] := by
  obtain ⟨fd, F⟩ := c.t.d.def_ 23 (d := mkD "mean_ages" 39) rfl
  exact ⟨_, fd, F, He.glo_ok X G (c.t.d.fact 23 (f := .glo "mean_ages") rfl), FunD.bindsN (ps := ["house", "steps"]) F fun _ _ _ _ _ _ us hl => match us, hl with | [_, _], _ => rfl⟩
theorem da_rooms_by_name (X : K.In h) (G : h.Ns mainGlobals mg) (c : He.SaysX fas fns [] [] exs w h K) : DefAt K mg "rooms_by_name" 41 ["house"] := by
  obtain ⟨fd, F⟩ := c.t.d.def_ 24 (d := mkD "rooms_by_name" 41) rfl
  exact ⟨_, fd, F, He.glo_ok X G (c.t.d.fact 24 (f := .glo "rooms_by_name") rfl), FunD.bindsN (ps := ["house"]) F fun _ _ _ _ _ _ us hl => match us, hl with | [_], _ => rfl⟩
theorem da_taken_share (X : K.In h) (G : h.Ns mainGlobals mg) (c : He.SaysX fas fns [] [] exs w h K) : DefAt K mg "taken_share" 42 ["rooms", "totals", "deed", "at"] := by
  obtain ⟨fd, F⟩ := c.t.d.def_ 25 (d := mkD "taken_share" 42) rfl
  exact ⟨_, fd, F, He.glo_ok X G (c.t.d.fact 25 (f := .glo "taken_share") rfl), FunD.bindsN (ps := ["rooms", "totals", "deed", "at"]) F fun _ _ _ _ _ _ us hl => match us, hl with | [_, _, _, _], _ => rfl⟩
theorem da_step_of (X : K.In h) (G : h.Ns mainGlobals mg) (c : He.SaysX fas fns [] [] exs w h K) : DefAt K mg "step_of" 43 ["rooms", "totals", "year", "deed", "at"] := by
  obtain ⟨fd, F⟩ := c.t.d.def_ 26 (d := mkD "step_of" 43) rfl
  exact ⟨_, fd, F, He.glo_ok X G (c.t.d.fact 26 (f := .glo "step_of") rfl), FunD.bindsN (ps := ["rooms", "totals", "year", "deed", "at"]) F fun _ _ _ _ _ _ us hl => match us, hl with | [_, _, _, _, _], _ => rfl⟩
theorem da_steps_of (X : K.In h) (G : h.Ns mainGlobals mg) (c : He.SaysX fas fns [] [] exs w h K) : DefAt K mg "steps_of" 44 ["house", "totals", "year", "deeds"] := by
  obtain ⟨fd, F⟩ := c.t.d.def_ 27 (d := mkD "steps_of" 44) rfl
  exact ⟨_, fd, F, He.glo_ok X G (c.t.d.fact 27 (f := .glo "steps_of") rfl), FunD.bindsN (ps := ["house", "totals", "year", "deeds"]) F fun _ _ _ _ _ _ us hl => match us, hl with | [_, _, _, _], _ => rfl⟩
theorem da_law_cell_at (X : K.In h) (G : h.Ns mainGlobals mg) (c : He.SaysX fas fns [] [] exs w h K) : DefAt K mg "_law_cell_at" 46 ["_law_script", "_law_k"] := by
  obtain ⟨fd, F⟩ := c.t.d.def_ 28 (d := mkD "_law_cell_at" 46) rfl
  exact ⟨_, fd, F, He.glo_ok X G (c.t.d.fact 28 (f := .glo "_law_cell_at") rfl), FunD.bindsN (ps := ["_law_script", "_law_k"]) F fun _ _ _ _ _ _ us hl => match us, hl with | [_, _], _ => rfl⟩
theorem da_law_mixed (X : K.In h) (G : h.Ns mainGlobals mg) (c : He.SaysX fas fns [] [] exs w h K) : DefAt K mg "_law_mixed" 47 ["_law_cell", "_law_k"] := by
  obtain ⟨fd, F⟩ := c.t.d.def_ 29 (d := mkD "_law_mixed" 47) rfl
  exact ⟨_, fd, F, He.glo_ok X G (c.t.d.fact 29 (f := .glo "_law_mixed") rfl), FunD.bindsN (ps := ["_law_cell", "_law_k"]) F fun _ _ _ _ _ _ us hl => match us, hl with | [_, _], _ => rfl⟩
theorem da_law_divisor (X : K.In h) (G : h.Ns mainGlobals mg) (c : He.SaysX fas fns [] [] exs w h K) : DefAt K mg "_law_divisor" 48 ["_law_one", "_law_other"] := by
  obtain ⟨fd, F⟩ := c.t.d.def_ 30 (d := mkD "_law_divisor" 48) rfl
  exact ⟨_, fd, F, He.glo_ok X G (c.t.d.fact 30 (f := .glo "_law_divisor") rfl), FunD.bindsN (ps := ["_law_one", "_law_other"]) F fun _ _ _ _ _ _ us hl => match us, hl with | [_, _], _ => rfl⟩
theorem da_law_lowest (X : K.In h) (G : h.Ns mainGlobals mg) (c : He.SaysX fas fns [] [] exs w h K) : DefAt K mg "_law_lowest" 49 ["_law_top", "_law_bottom"] := by
  obtain ⟨fd, F⟩ := c.t.d.def_ 31 (d := mkD "_law_lowest" 49) rfl
  exact ⟨_, fd, F, He.glo_ok X G (c.t.d.fact 31 (f := .glo "_law_lowest") rfl), FunD.bindsN (ps := ["_law_top", "_law_bottom"]) F fun _ _ _ _ _ _ us hl => match us, hl with | [_, _], _ => rfl⟩
theorem da_law_plus (X : K.In h) (G : h.Ns mainGlobals mg) (c : He.SaysX fas fns [] [] exs w h K) : DefAt K mg "_law_plus" 50 ["_law_one", "_law_other"] := by
  obtain ⟨fd, F⟩ := c.t.d.def_ 32 (d := mkD "_law_plus" 50) rfl
  exact ⟨_, fd, F, He.glo_ok X G (c.t.d.fact 32 (f := .glo "_law_plus") rfl), FunD.bindsN (ps := ["_law_one", "_law_other"]) F fun _ _ _ _ _ _ us hl => match us, hl with | [_, _], _ => rfl⟩
theorem da_law_times (X : K.In h) (G : h.Ns mainGlobals mg) (c : He.SaysX fas fns [] [] exs w h K) : DefAt K mg "_law_times" 52 ["_law_one", "_law_other"] := by
  obtain ⟨fd, F⟩ := c.t.d.def_ 34 (d := mkD "_law_times" 52) rfl
  exact ⟨_, fd, F, He.glo_ok X G (c.t.d.fact 34 (f := .glo "_law_times") rfl), FunD.bindsN (ps := ["_law_one", "_law_other"]) F fun _ _ _ _ _ _ us hl => match us, hl with | [_, _], _ => rfl⟩
theorem da_law_under (X : K.In h) (G : h.Ns mainGlobals mg) (c : He.SaysX fas fns [] [] exs w h K) : DefAt K mg "_law_under" 53 ["_law_one", "_law_other"] := by
  obtain ⟨fd, F⟩ := c.t.d.def_ 35 (d := mkD "_law_under" 53) rfl
  exact ⟨_, fd, F, He.glo_ok X G (c.t.d.fact 35 (f := .glo "_law_under") rfl), FunD.bindsN (ps := ["_law_one", "_law_other"]) F fun _ _ _ _ _ _ us hl => match us, hl with | [_, _], _ => rfl⟩
theorem da_law_names (X : K.In h) (G : h.Ns mainGlobals mg) (c : He.SaysX fas fns [] [] exs w h K) : DefAt K mg "_law_names" 54 ["_law_cell"] := by
  obtain ⟨fd, F⟩ := c.t.d.def_ 36 (d := mkD "_law_names" 54) rfl
  exact ⟨_, fd, F, He.glo_ok X G (c.t.d.fact 36 (f := .glo "_law_names") rfl), FunD.bindsN (ps := ["_law_cell"]) F fun _ _ _ _ _ _ us hl => match us, hl with | [_], _ => rfl⟩
theorem da_law_house (X : K.In h) (G : h.Ns mainGlobals mg) (c : He.SaysX fas fns [] [] exs w h K) : DefAt K mg "_law_house" 55 ["_law_cell", "_law_names_here"] := by
  obtain ⟨fd, F⟩ := c.t.d.def_ 37 (d := mkD "_law_house" 55) rfl
  exact ⟨_, fd, F, He.glo_ok X G (c.t.d.fact 37 (f := .glo "_law_house") rfl), FunD.bindsN (ps := ["_law_cell", "_law_names_here"]) F fun _ _ _ _ _ _ us hl => match us, hl with | [_, _], _ => rfl⟩
theorem da_law_round (X : K.In h) (G : h.Ns mainGlobals mg) (c : He.SaysX fas fns [] [] exs w h K) : DefAt K mg "_law_round" 56 ["_law_house_here", "_law_names_here", "_law_cells"] := by
  obtain ⟨fd, F⟩ := c.t.d.def_ 38 (d := mkD "_law_round" 56) rfl
  exact ⟨_, fd, F, He.glo_ok X G (c.t.d.fact 38 (f := .glo "_law_round") rfl), FunD.bindsN (ps := ["_law_house_here", "_law_names_here", "_law_cells"]) F fun _ _ _ _ _ _ us hl => match us, hl with | [_, _, _], _ => rfl⟩
theorem da_law_led (X : K.In h) (G : h.Ns mainGlobals mg) (c : He.SaysX fas fns [] [] exs w h K) : DefAt K mg "_law_led" 57 ["_law_tab", "_law_totals"] := by
  obtain ⟨fd, F⟩ := c.t.d.def_ 39 (d := mkD "_law_led" 57) rfl
  exact ⟨_, fd, F, He.glo_ok X G (c.t.d.fact 39 (f := .glo "_law_led") rfl), FunD.bindsN (ps := ["_law_tab", "_law_totals"]) F fun _ _ _ _ _ _ us hl => match us, hl with | [_, _], _ => rfl⟩
theorem da_law_left (X : K.In h) (G : h.Ns mainGlobals mg) (c : He.SaysX fas fns [] [] exs w h K) : DefAt K mg "_law_left" 58 ["_law_tab", "_law_k"] := by
  obtain ⟨fd, F⟩ := c.t.d.def_ 40 (d := mkD "_law_left" 58) rfl
  exact ⟨_, fd, F, He.glo_ok X G (c.t.d.fact 40 (f := .glo "_law_left") rfl), FunD.bindsN (ps := ["_law_tab", "_law_k"]) F fun _ _ _ _ _ _ us hl => match us, hl with | [_, _], _ => rfl⟩
theorem da_law_bound_right (X : K.In h) (G : h.Ns mainGlobals mg) (c : He.SaysX fas fns [] [] exs w h K) : DefAt K mg "_law_bound_right" 59 ["_law_tab", "_law_bound"] := by
  obtain ⟨fd, F⟩ := c.t.d.def_ 41 (d := mkD "_law_bound_right" 59) rfl
  exact ⟨_, fd, F, He.glo_ok X G (c.t.d.fact 41 (f := .glo "_law_bound_right") rfl), FunD.bindsN (ps := ["_law_tab", "_law_bound"]) F fun _ _ _ _ _ _ us hl => match us, hl with | [_, _], _ => rfl⟩
theorem da_law_ages_right (X : K.In h) (G : h.Ns mainGlobals mg) (c : He.SaysX fas fns [] [] exs w h K) : DefAt K mg "_law_ages_right" 60 ["_law_house_here", "_law_steps", "_law_tab", "_law_totals", "_law_many"] := by
  obtain ⟨fd, F⟩ := c.t.d.def_ 42 (d := mkD "_law_ages_right" 60) rfl
  exact ⟨_, fd, F, He.glo_ok X G (c.t.d.fact 42 (f := .glo "_law_ages_right") rfl), FunD.bindsN (ps := ["_law_house_here", "_law_steps", "_law_tab", "_law_totals", "_law_many"]) F fun _ _ _ _ _ _ us hl => match us, hl with | [_, _, _, _, _], _ => rfl⟩
theorem da_law_means_right (X : K.In h) (G : h.Ns mainGlobals mg) (c : He.SaysX fas fns [] [] exs w h K) : DefAt K mg "_law_means_right" 61 ["_law_house_here", "_law_steps", "_law_tab", "_law_totals"] := by
  obtain ⟨fd, F⟩ := c.t.d.def_ 43 (d := mkD "_law_means_right" 61) rfl
  exact ⟨_, fd, F, He.glo_ok X G (c.t.d.fact 43 (f := .glo "_law_means_right") rfl), FunD.bindsN (ps := ["_law_house_here", "_law_steps", "_law_tab", "_law_totals"]) F fun _ _ _ _ _ _ us hl => match us, hl with | [_, _, _, _], _ => rfl⟩
theorem da_law (X : K.In h) (G : h.Ns mainGlobals mg) (c : He.SaysX fas fns [] [] exs w h K) : DefAt K mg "law" 62 ["_law_script"] := by
  obtain ⟨fd, F⟩ := c.t.d.def_ 44 (d := mkD "law" 62) rfl
  exact ⟨_, fd, F, He.glo_ok X G (c.t.d.fact 44 (f := .glo "law") rfl), FunD.bindsN (ps := ["_law_script"]) F fun _ _ _ _ _ _ us hl => match us, hl with | [_], _ => rfl⟩
theorem txt_of (X : K.In h) (G : h.Ns mainGlobals mg) (c : He.SaysX fas fns [] [] exs w h K) : Txt K mg where
  c := cst_of c.more
  g_NOUGHT_solving := He.glo_ok X G (c.t.d.fact 45 (f := .glo "NOUGHT_solving") rfl)
  g_NOUGHT_tables := He.glo_ok X G (c.t.d.fact 46 (f := .glo "NOUGHT_tables") rfl)
  g_WHOLE_tables := He.glo_ok X G (c.t.d.fact 47 (f := .glo "WHOLE_tables") rfl)
  g_NOUGHT_longrun := He.glo_ok X G (c.t.d.fact 48 (f := .glo "NOUGHT_longrun") rfl)
  g_WHOLE_longrun := He.glo_ok X G (c.t.d.fact 49 (f := .glo "WHOLE_longrun") rfl)
  g_NOUGHT_ages := He.glo_ok X G (c.t.d.fact 50 (f := .glo "NOUGHT_ages") rfl)
  b_abs := He.free_ok X G (c.t.d.fact 51 (f := .free "abs") rfl)
  b_len := He.free_ok X G (c.t.d.fact 52 (f := .free "len") rfl)
  b_range := He.free_ok X G (c.t.d.fact 53 (f := .free "range") rfl)
  b_zip := He.free_ok X G (c.t.d.fact 54 (f := .free "zip") rfl)
  b_list := He.free_ok X G (c.t.d.fact 55 (f := .free "list") rfl)
  b_dict := He.free_ok X G (c.t.d.fact 56 (f := .free "dict") rfl)
  b_sorted := He.free_ok X G (c.t.d.fact 57 (f := .free "sorted") rfl)
  b_enumerate := He.free_ok X G (c.t.d.fact 58 (f := .free "enumerate") rfl)
  b_isinstance := He.free_ok X G (c.t.d.fact 59 (f := .free "isinstance") rfl)
  b_tuple := He.free_ok X G (c.t.d.fact 60 (f := .free "tuple") rfl)
  b_int := He.free_ok X G (c.t.d.fact 61 (f := .free "int") rfl)
  d_divisor := da_divisor X G c
  d_lowest := da_lowest X G c
  d_plus := da_plus X G c
  d_minus := da_minus X G c
  d_times := da_times X G c
  d_over := da_over X G c
  d_under := da_under X G c
  d_sum_of := da_sum_of X G c
  d_clear_column := da_clear_column X G c
  d_solved := da_solved X G c
  d_pass_on := da_pass_on X G c
  d_table := da_table X G c
  d_brought := da_brought X G c
  d_casks_of := da_casks_of X G c
  d_whole_table := da_whole_table X G c
  d_casks_table := da_casks_table X G c
  d_closed_casks := da_closed_casks X G c
  d_brought_to := da_brought_to X G c
  d_left_by := da_left_by X G c
  d_bound_of := da_bound_of X G c
  d_long_run := da_long_run X G c
  d_next_round := da_next_round X G c
  d_by_age := da_by_age X G c
  d_mean_ages := da_mean_ages X G c
  d_rooms_by_name := da_rooms_by_name X G c
  d_taken_share := da_taken_share X G c
  d_step_of := da_step_of X G c
  d_steps_of := da_steps_of X G c
  d_law_cell_at := da_law_cell_at X G c
  d_law_mixed := da_law_mixed X G c
  d_law_divisor := da_law_divisor X G c
  d_law_lowest := da_law_lowest X G c
  d_law_plus := da_law_plus X G c
  d_law_times := da_law_times X G c
  d_law_under := da_law_under X G c
  d_law_names := da_law_names X G c
  d_law_house := da_law_house X G c
  d_law_round := da_law_round X G c
  d_law_led := da_law_led X G c
  d_law_left := da_law_left X G c
  d_law_bound_right := da_law_bound_right X G c
  d_law_ages_right := da_law_ages_right X G c
  d_law_means_right := da_law_means_right X G c
  d_law := da_law X G c
end
end Tc
set_option Elab.async false
set_option linter.all false
set_option maxRecDepth 100000
set_option maxHeartbeats 4000000
set_option exponentiation.threshold 10000
namespace Tc
/-! plain: sizes of fractions, sums -/
open PySem
/-- a whole number of D-ths -/
def InZ (D : Nat) (q : Rat) : Prop := ∃ z : Int, q * (D : Rat) = (z : Rat)
theorem InZ.add {D : Nat} {p q : Rat} (a : InZ D p) (b : InZ D q) : InZ D (p + q) := by
  obtain ⟨x, hx⟩ := a
  obtain ⟨y, hy⟩ := b
  exact ⟨x + y, by rw [Rat.add_mul, hx, hy, Rat.intCast_add]⟩
theorem InZ.neg {D : Nat} {p : Rat} (a : InZ D p) : InZ D (-p) := by
  obtain ⟨x, hx⟩ := a
  exact ⟨-x, by rw [Rat.neg_mul, hx, Rat.intCast_neg]⟩
theorem InZ.sub {D : Nat} {p q : Rat} (a : InZ D p) (b : InZ D q) : InZ D (p - q) := by
  rw [Rat.sub_eq_add_neg]
  exact a.add b.neg
theorem InZ.mul {D E : Nat} {p q : Rat} (a : InZ D p) (b : InZ E q) : InZ (D * E) (p * q) := by
  obtain ⟨x, hx⟩ := a
  obtain ⟨y, hy⟩ := b
  refine ⟨x * y, ?_⟩
  rw [Rat.intCast_mul, ← hx, ← hy, Rat.natCast_mul]
  grind
theorem InZ.mono {D E : Nat} {p : Rat} (a : InZ D p) (h : D ∣ E) : InZ E p := by
  obtain ⟨x, hx⟩ := a
  obtain ⟨k, rfl⟩ := h
  refine ⟨x * k, ?_⟩
  rw [Rat.intCast_mul, ← hx, Rat.natCast_mul, Rat.intCast_natCast]
  grind
theorem inz_int (D : Nat) (z : Int) : InZ D (z : Rat) := ⟨z * D, by rw [Rat.intCast_mul, Rat.intCast_natCast]⟩
theorem inz_zero (D : Nat) : InZ D 0 := inz_int D 0
theorem inz_one (D : Nat) : InZ D 1 := inz_int D 1
theorem inz_div {n d : Int} (h : 0 < d) : InZ d.toNat (Rat.divInt n d) := by
  refine ⟨n, ?_⟩
  have hd : ((d.toNat : Nat) : Rat) = (d : Rat) := by
    rw [← Rat.intCast_natCast, Int.toNat_of_nonneg (by omega)]
  have h2 : (0 : Rat) < (d : Rat) := Rat.intCast_pos.mpr h
  rw [hd, Rat.divInt_eq_div]
  grind
theorem ok_of {D B : Nat} {q : Rat} (hD : 0 < D) (hz : InZ D q) (lo : -(B : Rat) ≤ q) (hi : q ≤ (B : Rat)) (h1 : B * D < 2 ^ 2000) (h2 : D < 2 ^ 2000) : Ok q := by
  obtain ⟨z, hz⟩ := hz
  have hDp : (0 : Rat) < (D : Rat) := Rat.natCast_pos.mpr hD
  have e : q = Rat.divInt z (D : Int) := by
    rw [Rat.divInt_eq_div, Rat.intCast_natCast]
    grind
  have zb : z.natAbs ≤ B * D := by
    have a1 : (z : Rat) ≤ ((B * D : Nat) : Rat) := by
      rw [← hz, Rat.natCast_mul]
      exact Rat.mul_le_mul_of_nonneg_right hi (Rat.le_of_lt hDp)
    have a2 : -((B * D : Nat) : Rat) ≤ (z : Rat) := by
      rw [← hz, Rat.natCast_mul]
      have := Rat.mul_le_mul_of_nonneg_right lo (Rat.le_of_lt hDp)
      rw [Rat.neg_mul] at this
      exact this
    have b1 : z ≤ ((B * D : Nat) : Int) := by
      rw [← Rat.intCast_natCast] at a1
      exact Rat.intCast_le_intCast.mp a1
    have b2 : -((B * D : Nat) : Int) ≤ z := by
      rw [← Rat.intCast_natCast, ← Rat.intCast_neg] at a2
      exact Rat.intCast_le_intCast.mp a2
    omega
  refine ⟨?_, ?_⟩
  · rw [e, Rat.num_divInt, Int.sign_eq_one_of_pos (by omega), Int.one_mul]
    refine Nat.lt_of_le_of_lt ?_ (Nat.lt_of_le_of_lt zb h1)
    exact Int.natAbs_ediv_le_natAbs _ _
  · rw [e, Rat.den_divInt, if_neg (by omega)]
    refine Nat.lt_of_le_of_lt (Nat.div_le_self _ _) ?_
    rw [Int.natAbs_natCast]
    exact h2
/-! sums -/
def rs : Nat → (Nat → Rat) → Rat
  | 0, _ => 0
  | n + 1, g => rs n g + g n
theorem rs_congr {n : Nat} {f g : Nat → Rat} (h : ∀ i, i < n → f i = g i) : rs n f = rs n g := by
  induction n with
  | zero => rfl
  | succ n ih => show rs n f + f n = rs n g + g n; rw [ih fun i hi => h i (by omega), h n (by omega)]
theorem rs_zero {n : Nat} {f : Nat → Rat} (h : ∀ i, i < n → f i = 0) : rs n f = 0 := by
  induction n with
  | zero => rfl
  | succ n ih => show rs n f + f n = 0; rw [ih fun i hi => h i (by omega), h n (by omega)]; grind
theorem rs_add (n : Nat) (f g : Nat → Rat) : rs n (fun i => f i + g i) = rs n f + rs n g := by
  induction n with
  | zero => show (0 : Rat) = 0 + 0; grind
  | succ n ih => show rs n (fun i => f i + g i) + (f n + g n) = rs n f + f n + (rs n g + g n); rw [ih]; grind
theorem rs_mul (n : Nat) (c : Rat) (f : Nat → Rat) : rs n (fun i => c * f i) = c * rs n f := by
  induction n with
  | zero => show (0 : Rat) = c * 0; grind
  | succ n ih => show rs n (fun i => c * f i) + c * f n = c * (rs n f + f n); rw [ih]; grind
theorem rs_mul' (n : Nat) (c : Rat) (f : Nat → Rat) : rs n (fun i => f i * c) = rs n f * c := by
  induction n with
  | zero => show (0 : Rat) = 0 * c; grind
  | succ n ih => show rs n (fun i => f i * c) + f n * c = (rs n f + f n) * c; rw [ih]; grind
theorem rs_sub (n : Nat) (f g : Nat → Rat) : rs n (fun i => f i - g i) = rs n f - rs n g := by
  induction n with
  | zero => show (0 : Rat) = 0 - 0; grind
  | succ n ih => show rs n (fun i => f i - g i) + (f n - g n) = rs n f + f n - (rs n g + g n); rw [ih]; grind
theorem rs_one {n j : Nat} {x : Rat} (h : j < n) : rs n (fun i => if i = j then x else 0) = x := by
  induction n with
  | zero => omega
  | succ n ih =>
    show rs n (fun i => if i = j then x else 0) + (if n = j then x else 0) = x
    by_cases e : n = j
    · subst e
      rw [rs_zero (fun i hi => if_neg (by omega)), if_pos rfl]; grind
    · rw [ih (by omega), if_neg e]; grind
theorem rs_swap (n m : Nat) (f : Nat → Nat → Rat) : rs n (fun i => rs m fun j => f i j) = rs m fun j => rs n fun i => f i j := by
  induction n with
  | zero => show (0 : Rat) = rs m fun j => 0; rw [rs_zero fun _ _ => rfl]
  | succ n ih =>
    show rs n (fun i => rs m fun j => f i j) + rs m (fun j => f n j) = rs m fun j => rs n (fun i => f i j) + f n j
    rw [ih, rs_add]
theorem rs_nn {n : Nat} {f : Nat → Rat} (h : ∀ i, i < n → 0 ≤ f i) : 0 ≤ rs n f := by
  induction n with
  | zero => show (0 : Rat) ≤ 0; grind
  | succ n ih => show 0 ≤ rs n f + f n; have := ih fun i hi => h i (by omega); have := h n (by omega); grind
theorem rs_le {n : Nat} {f g : Nat → Rat} (h : ∀ i, i < n → f i ≤ g i) : rs n f ≤ rs n g := by
  induction n with
  | zero => show (0 : Rat) ≤ 0; grind
  | succ n ih => show rs n f + f n ≤ rs n g + g n; have := ih fun i hi => h i (by omega); have := h n (by omega); grind
theorem rs_const (n : Nat) (c : Rat) : rs n (fun _ => c) = (n : Rat) * c := by
  induction n with
  | zero => show (0 : Rat) = ((0 : Nat) : Rat) * c; grind
  | succ n ih => show rs n (fun _ => c) + c = ((n + 1 : Nat) : Rat) * c; rw [ih, Rat.natCast_add]; grind
theorem rs_inz {n D : Nat} {f : Nat → Rat} (h : ∀ i, i < n → InZ D (f i)) : InZ D (rs n f) := by
  induction n with
  | zero => exact inz_zero D
  | succ n ih => exact (ih fun i hi => h i (by omega)).add (h n (by omega))
end Tc
set_option Elab.async false
set_option linter.all false
set_option maxRecDepth 100000
set_option maxHeartbeats 4000000
set_option exponentiation.threshold 10000
namespace Tc
open PySem
/-! plain: dicts by places -/
def vec (n : Nat) (nm : Nat → Str) (v : Nat → Rat) : AL Rat := (List.range n).map fun j => (nm j, v j)
def Inj (n : Nat) (nm : Nat → Str) : Prop := ∀ i j, i < n → j < n → nm i = nm j → i = j
section
variable {n : Nat} {nm : Nat → Str} {v w : Nat → Rat}
theorem vec_keys : (vec n nm v).map (fun p => p.1) = (List.range n).map nm := by unfold vec; rw [List.map_map]; rfl
theorem vec_len : (vec n nm v).length = n := by unfold vec; rw [List.length_map, List.length_range]
theorem nm_nd (inj : Inj n nm) : ((List.range n).map nm).Nodup := by
  unfold List.Nodup
  rw [List.pairwise_map]
  refine List.Pairwise.imp_of_mem (fun {a b} ha hb hab h => ?_) List.nodup_range
  exact hab (inj a b (List.mem_range.mp ha) (List.mem_range.mp hb) h)
theorem vec_nd (inj : Inj n nm) : ((vec n nm v).map (fun p => p.1)).Nodup := by rw [vec_keys]; exact nm_nd inj
theorem vec_mem {j : Nat} (hj : j < n) : (nm j, v j) ∈ vec n nm v := List.mem_map.mpr ⟨j, List.mem_range.mpr hj, rfl⟩
theorem vec_get (inj : Inj n nm) {j : Nat} (hj : j < n) : aget (vec n nm v) (nm j) = some (v j) := aget_of_nd (vec_nd inj) (vec_mem hj)
theorem vec_none {k : Str} (h : ∀ j, j < n → nm j ≠ k) : aget (vec n nm v) k = none := by
  cases g : aget (vec n nm v) k with
  | none => rfl
  | some x =>
    have := aget_mem g
    rw [vec_keys] at this
    obtain ⟨j, hj, e⟩ := List.mem_map.mp this
    exact absurd e (h j (List.mem_range.mp hj))
theorem vec_ext (h : ∀ j, j < n → v j = w j) : vec n nm v = vec n nm w := by
  unfold vec
  exact List.map_congr_left fun j hj => by rw [h j (List.mem_range.mp hj)]
theorem vec_ix {i : Nat} (hi : i < n) : (vec n nm v)[i]? = some (nm i, v i) := by
  unfold vec
  rw [List.getElem?_map, List.getElem?_range hi]; rfl
theorem vec_put (inj : Inj n nm) {j : Nat} (hj : j < n) {x : Rat} : aput (vec n nm v) (nm j) x = vec n nm fun i => if i = j then x else v i := by
  unfold aput
  rw [if_pos]
  · unfold vec
    rw [List.map_map]
    refine List.map_congr_left fun i hi => ?_
    show (if nm i = nm j then (nm i, x) else (nm i, v i)) = (nm i, if i = j then x else v i)
    by_cases e : i = j
    · rw [e, if_pos rfl, if_pos rfl]
    · rw [if_neg fun z => e (inj i j (List.mem_range.mp hi) hj z), if_neg e]
  · exact List.any_eq_true.mpr ⟨_, vec_mem hj, decide_eq_true rfl⟩
theorem foldl_put_new {α : Type} {ns : List Str} {f : Str → α} : ∀ {acc : AL α}, ns.Nodup → (∀ n ∈ ns, ¬ n ∈ acc.map (fun p => p.1)) → ns.foldl (fun m n => aput m n (f n)) acc = acc ++ ns.map fun n => (n, f n) := by
  induction ns with
  | nil => intro acc _ _; simp
  | cons a r ih =>
    intro acc nd h
    rw [List.nodup_cons] at nd
    rw [List.foldl_cons, aput_new (h a List.mem_cons_self), ih nd.2, List.map_cons, List.append_assoc]
    · rfl
    · intro n hn z
      rw [List.map_append, List.mem_append] at z
      rcases z with z | z
      · exact h n (List.mem_cons_of_mem _ hn) z
      · have : n = a := by simpa using z
        exact nd.1 (this ▸ hn)
theorem zeros_vec (inj : Inj n nm) : zerosM ((List.range n).map nm) = vec n nm fun _ => 0 := by
  unfold zerosM
  rw [foldl_put_new (f := fun _ => (0 : Rat)) (nm_nd inj) (fun _ _ z => by cases z), List.nil_append]
  unfold vec
  rw [List.map_map]
  rfl
theorem aget_cons {α : Type} {p : Str × α} {m : AL α} {k : Str} : aget (p :: m) k = if p.1 = k then some p.2 else aget m k := by
  unfold aget
  rw [List.find?_cons]
  by_cases e : p.1 = k
  · rw [decide_eq_true e, if_pos e]; rfl
  · rw [decide_eq_false e, if_neg e]
theorem aget_no {α : Type} {m : AL α} {k : Str} (h : ¬ k ∈ m.map (fun p => p.1)) : aget m k = none := by
  cases g : aget m k with
  | none => rfl
  | some x => exact absurd (aget_mem g) h
/-- a row of any names is added -/
theorem addRow_vec (inj : Inj n nm) {q : Rat} : ∀ {row : AL Rat} {f : Nat → Rat}, (row.map fun p => p.1).Nodup → addRow (vec n nm f) q row = vec n nm fun j => f j + q * (aget row (nm j)).getD 0 := by
  intro row
  induction row with
  | nil => intro f _; exact vec_ext fun j _ => by show f j = f j + q * 0; grind
  | cons r row ih =>
    intro f nd
    rw [List.map_cons, List.nodup_cons] at nd
    show addRow (addOne (vec n nm f) q r) q row = _
    by_cases hx : ∃ j, j < n ∧ r.1 = nm j
    · obtain ⟨j, hj, e⟩ := hx
      have h1 : addOne (vec n nm f) q r = vec n nm fun i => if i = j then f j + q * r.2 else f i := by
        unfold addOne
        rw [e, vec_get inj hj]
        exact vec_put inj hj
      rw [h1, ih nd.2]
      refine vec_ext fun i hi => ?_
      rw [aget_cons]
      by_cases hij : i = j
      · subst hij
        have : aget row (nm i) = none := aget_no (by rw [← e]; exact nd.1)
        rw [if_pos rfl, this, if_pos e]
        show f i + q * r.2 + q * 0 = f i + q * r.2
        grind
      · rw [if_neg hij, if_neg fun z => hij (inj i j hi hj (z.symm.trans e))]
    · have h1 : addOne (vec n nm f) q r = vec n nm f := by
        unfold addOne
        rw [vec_none fun j hj z => hx ⟨j, hj, z.symm⟩]
      rw [h1, ih nd.2]
      refine vec_ext fun i hi => ?_
      rw [aget_cons, if_neg fun z => hx ⟨i, hi, z⟩]
end
theorem nd_takeA {α : Type} {m : AL α} {i : Nat} (nd : (m.map fun p => p.1).Nodup) : ((m.take i).map fun p => p.1).Nodup := by
  rw [List.map_take]
  exact List.Sublist.nodup (List.take_sublist _ _) nd
/-- the side conditions of adding a row -/
theorem okAdd_vec {n : Nat} {nm : Nat → Str} (inj : Inj n nm) {q : Rat} {row : AL Rat} {f : Nat → Rat} (nd : (row.map fun p => p.1).Nodup)
    (ok : ∀ r ∈ row, ∀ j, j < n → r.1 = nm j → Ok (q * r.2) ∧ Ok (f j + q * r.2)) : OkAdd (vec n nm f) q row := by
  intro i p hp z hz
  rw [addRow_vec inj (nd_takeA nd)] at hz
  by_cases hx : ∃ j, j < n ∧ p.1 = nm j
  · obtain ⟨j, hj, e⟩ := hx
    rw [e, vec_get inj hj] at hz
    have hn := nd_take nd hp
    rw [e] at hn
    rw [aget_no hn] at hz
    have hzz : z = f j := by
      have : f j + q * 0 = z := by simpa using hz
      grind
    rw [hzz]
    exact ok p (List.mem_of_getElem? hp) j hj e
  · rw [vec_none fun j hj z => hx ⟨j, hj, z.symm⟩] at hz
    cases hz
theorem fsum_foldl (xs : List Rat) (c : Rat) : xs.foldl (fun a b => a + b) c = c + fsum xs := by
  unfold fsum
  induction xs generalizing c with
  | nil => show c = c + 0; grind
  | cons x r ih =>
    rw [List.foldl_cons, List.foldl_cons, ih, ih (0 + x)]
    grind
theorem fsum_cons (x : Rat) (xs : List Rat) : fsum (x :: xs) = x + fsum xs := by
  show (x :: xs).foldl (fun a b => a + b) 0 = _
  rw [List.foldl_cons, fsum_foldl]
  grind
theorem fsum_nil : fsum [] = 0 := rfl
theorem fsum_append (xs ys : List Rat) : fsum (xs ++ ys) = fsum xs + fsum ys := by
  induction xs with
  | nil => rw [List.nil_append, fsum_nil]; grind
  | cons x r ih => rw [List.cons_append, fsum_cons, fsum_cons, ih]; grind
theorem fsum_range (n : Nat) (g : Nat → Rat) : fsum ((List.range n).map g) = rs n g := by
  induction n with
  | zero => rfl
  | succ n ih => rw [List.range_succ, List.map_append, fsum_append, ih, List.map_singleton, fsum_cons, fsum_nil]; show rs n g + (g n + 0) = rs n g + g n; grind
theorem fsum_inz {D : Nat} {xs : List Rat} (h : ∀ x ∈ xs, InZ D x) : InZ D (fsum xs) := by
  induction xs with
  | nil => exact inz_zero D
  | cons x r ih => rw [fsum_cons]; exact (h x List.mem_cons_self).add (ih fun y hy => h y (List.mem_cons_of_mem _ hy))
theorem fsum_nn {xs : List Rat} (h : ∀ x ∈ xs, 0 ≤ x) : 0 ≤ fsum xs := by
  induction xs with
  | nil => rw [fsum_nil]; grind
  | cons x r ih => rw [fsum_cons]; have := h x List.mem_cons_self; have := ih fun y hy => h y (List.mem_cons_of_mem _ hy); grind
theorem fsum_le {B : Rat} {xs : List Rat} (h : ∀ x ∈ xs, x ≤ B) : fsum xs ≤ (xs.length : Rat) * B := by
  induction xs with
  | nil => rw [fsum_nil]; show (0 : Rat) ≤ ((0 : Nat) : Rat) * B; grind
  | cons x r ih =>
    rw [fsum_cons, List.length_cons, Rat.natCast_add]
    have := h x List.mem_cons_self
    have := ih fun y hy => h y (List.mem_cons_of_mem _ hy)
    grind
/-- a row's sum, by places -/
theorem row_sum {n : Nat} {nm : Nat → Str} (inj : Inj n nm) {g : Str → Rat} : ∀ {row : AL Rat}, (row.map fun p => p.1).Nodup → (∀ r ∈ row, ∃ j, j < n ∧ r.1 = nm j) → fsum (row.map fun r => r.2 * g r.1) = rs n fun j => (aget row (nm j)).getD 0 * g (nm j) := by
  intro row
  induction row with
  | nil => intro _ _; rw [rs_zero]; · rfl
           intro i _; show 0 * _ = (0 : Rat); grind
  | cons r row ih =>
    intro nd hm
    rw [List.map_cons, List.nodup_cons] at nd
    obtain ⟨j, hj, e⟩ := hm r List.mem_cons_self
    rw [List.map_cons, fsum_cons, ih nd.2 fun r hr => hm r (List.mem_cons_of_mem _ hr)]
    have : (rs n fun i => (aget (r :: row) (nm i)).getD 0 * g (nm i)) = rs n fun i => (if i = j then r.2 * g r.1 else 0) + (aget row (nm i)).getD 0 * g (nm i) := by
      refine rs_congr fun i hi => ?_
      rw [aget_cons]
      by_cases hij : i = j
      · subst hij
        have h0 : aget row (nm i) = none := aget_no (by rw [← e]; exact nd.1)
        rw [if_pos e, if_pos rfl, h0, e]
        show r.2 * g (nm i) = r.2 * g (nm i) + 0 * g (nm i)
        grind
      · rw [if_neg fun z => hij (inj i j hi hj (z.symm.trans e)), if_neg hij]
        grind
    rw [this, rs_add, rs_one hj]
end Tc
set_option Elab.async false
set_option linter.all false
set_option maxRecDepth 100000
set_option maxHeartbeats 4000000
set_option exponentiation.threshold 10000
namespace Tc
open PySem
/-! plain: a table of casks -/
def tabOf (n : Nat) (nm : Nat → Str) (rowf : Nat → AL Rat) : AL (AL Rat) := (List.range n).map fun i => (nm i, rowf i)
/-- the table's numbers: α i j goes from i to j; all of them in D-ths, none above 1 -/
structure Tab (n D : Nat) (nm : Nat → Str) (rowf : Nat → AL Rat) (α : Nat → Nat → Rat) : Prop where
  inj : Inj n nm
  n4 : n ≤ 4
  nd : ∀ i, i < n → ((rowf i).map fun p => p.1).Nodup
  mem : ∀ i, i < n → ∀ r ∈ rowf i, ∃ j, j < n ∧ r.1 = nm j
  val : ∀ i j, i < n → j < n → (aget (rowf i) (nm j)).getD 0 = α i j
  nn : ∀ i j, i < n → j < n → 0 ≤ α i j
  le : ∀ i j, i < n → j < n → α i j ≤ 1
  inz : ∀ i j, i < n → j < n → InZ D (α i j)
  len : ∀ i, i < n → (rowf i).length ≤ 100
  Dp : 0 < D
  Db : D < 2 ^ 50
/-- small enough to be led on -/
structure Sml (n E B : Nat) (v : Nat → Rat) : Prop where
  nn : ∀ i, i < n → 0 ≤ v i
  le : ∀ i, i < n → v i ≤ (B : Rat)
  inz : ∀ i, i < n → InZ E (v i)
  Ep : 0 < E
def ledV (n : Nat) (α : Nat → Nat → Rat) (v : Nat → Rat) : Nat → Rat := fun j => rs n fun i => v i * α i j
def lefV (n : Nat) (α : Nat → Nat → Rat) (w : Nat → Rat) : Nat → Rat := fun i => rs n fun j => α i j * w j
section
variable {n D : Nat} {nm : Nat → Str} {rowf : Nat → AL Rat} {α : Nat → Nat → Rat}
theorem tab_keys : (tabOf n nm rowf).map (fun p => p.1) = (List.range n).map nm := by unfold tabOf; rw [List.map_map]; rfl
theorem tab_len : (tabOf n nm rowf).length = n := by unfold tabOf; rw [List.length_map, List.length_range]
theorem tab_nd (T : Tab n D nm rowf α) : ((tabOf n nm rowf).map fun p => p.1).Nodup := by rw [tab_keys]; exact nm_nd T.inj
theorem tab_get (T : Tab n D nm rowf α) {i : Nat} (hi : i < n) : aget (tabOf n nm rowf) (nm i) = some (rowf i) := aget_of_nd (tab_nd T) (List.mem_map.mpr ⟨i, List.mem_range.mpr hi, rfl⟩)
theorem tab_rowv (T : Tab n D nm rowf α) {i : Nat} (hi : i < n) {r : Str × Rat} (hr : r ∈ rowf i) : ∃ j, j < n ∧ r.1 = nm j ∧ r.2 = α i j := by
  obtain ⟨j, hj, e⟩ := T.mem i hi r hr
  refine ⟨j, hj, e, ?_⟩
  have h := T.val i j hi hj
  rw [← e, aget_of_nd (T.nd i hi) hr] at h
  exact h
theorem rs_addRow {k : Nat} {v : Nat → Rat} {j : Nat} : rs (k + 1) (fun i => v i * α i j) = rs k (fun i => v i * α i j) + v k * α k j := rfl
/-- led so far -/
theorem leadF_vec (T : Tab n D nm rowf α) {v : Nat → Rat} : ∀ k, k ≤ n → leadF (vec n nm fun _ => 0) (tabOf n nm rowf) ((vec n nm v).take k) = vec n nm fun j => rs k fun i => v i * α i j := by
  intro k
  induction k with
  | zero => intro _; rfl
  | succ k ih =>
    intro hk
    have hk' : k < n := by omega
    unfold leadF at ih ⊢
    rw [fold_snoc (vec_ix hk'), ih (by omega)]
    show addRow _ (v k) ((aget (tabOf n nm rowf) (nm k)).getD []) = _
    rw [tab_get T hk']
    show addRow _ (v k) (rowf k) = _
    rw [addRow_vec T.inj (T.nd k hk')]
    refine vec_ext fun j hj => ?_
    rw [T.val k j hk' hj]
    rfl
theorem led_vec (T : Tab n D nm rowf α) {v : Nat → Rat} : ledM (tabOf n nm rowf) (vec n nm v) = vec n nm (ledV n α v) := by
  unfold ledM
  have hz : zerosM ((vec n nm v).map fun p => p.1) = vec n nm fun _ => 0 := by rw [vec_keys, zeros_vec T.inj]
  rw [hz]
  have h := leadF_vec (v := v) T n (Nat.le_refl n)
  rw [List.take_of_length_le (by rw [vec_len]; exact Nat.le_refl n)] at h
  exact h
theorem natCast_le {a b : Nat} (h : a ≤ b) : (a : Rat) ≤ (b : Rat) := Rat.natCast_le_natCast.mpr h
theorem mul_le1 {x y B : Rat} (hx : 0 ≤ x) (hB : x ≤ B) (hy : 0 ≤ y) (h1 : y ≤ 1) : x * y ≤ B := by
  have := Rat.mul_le_mul_of_nonneg_left h1 hx
  grind
theorem part_le (T : Tab n D nm rowf α) {E B : Nat} {v : Nat → Rat} (S : Sml n E B v) {j k : Nat} (hj : j < n) (hk : k ≤ n) : 0 ≤ rs k (fun i => v i * α i j) ∧ rs k (fun i => v i * α i j) ≤ ((4 * B : Nat) : Rat) ∧ InZ (E * D) (rs k fun i => v i * α i j) := by
  refine ⟨rs_nn fun i hi => Rat.mul_nonneg (S.nn i (by omega)) (T.nn i j (by omega) hj), ?_, rs_inz fun i hi => (S.inz i (by omega)).mul (T.inz i j (by omega) hj)⟩
  have h1 : rs k (fun i => v i * α i j) ≤ rs k fun _ => (B : Rat) := rs_le fun i hi => mul_le1 (S.nn i (by omega)) (S.le i (by omega)) (T.nn i j (by omega) hj) (T.le i j (by omega) hj)
  rw [rs_const] at h1
  have h2 : (k : Rat) ≤ ((4 : Nat) : Rat) := natCast_le (by have := T.n4; omega)
  have h3 := Rat.mul_le_mul_of_nonneg_right h2 (Rat.natCast_nonneg (a := B))
  rw [Rat.natCast_mul]
  exact Rat.le_trans h1 h3
theorem neg_le_nn {B : Nat} {q : Rat} (h : 0 ≤ q) : -(B : Rat) ≤ q := by
  have := Rat.natCast_nonneg (a := B)
  grind
/-- what leading one vector on asks -/
theorem ledOk_vec (T : Tab n D nm rowf α) {E B : Nat} {v : Nat → Rat} (S : Sml n E B v) (h : 4 * B * (E * D) < 2 ^ 2000) (h2 : E * D < 2 ^ 2000) : LedOk (tabOf n nm rowf) (vec n nm v) where
  nd := vec_nd T.inj
  len := by rw [vec_len]; have := T.n4; omega
  row := fun k hk => by
    rw [show (vec n nm v).map (·.1) = (List.range n).map nm from vec_keys] at hk ⊢
    obtain ⟨i, hi, e⟩ := List.mem_map.mp hk
    have hi := List.mem_range.mp hi
    refine ⟨rowf i, by rw [← e]; exact tab_get T hi, fun r hr => ?_⟩
    obtain ⟨j, hj, e2⟩ := T.mem i hi r hr
    exact List.mem_map.mpr ⟨j, List.mem_range.mpr hj, e2.symm⟩
  ok := fun i p hp => by
    have hi : i < n := by
      have := (List.getElem?_eq_some_iff.mp hp).1
      rw [vec_len] at this
      exact this
    rw [vec_ix hi] at hp
    cases hp
    have hz : zerosM ((vec n nm v).map (·.1)) = vec n nm fun _ => 0 := by
      rw [show (vec n nm v).map (·.1) = (List.range n).map nm from vec_keys, zeros_vec T.inj]
    rw [hz, leadF_vec T i (by omega), tab_get T hi]
    show OkAdd _ (v i) (rowf i)
    refine okAdd_vec T.inj (T.nd i hi) fun r hr j hj e => ?_
    obtain ⟨j', hj', e', hv⟩ := tab_rowv T hi hr
    have : j' = j := T.inj j' j hj' hj (e'.symm.trans e)
    subst this
    rw [hv]
    have hDE : 0 < E * D := Nat.mul_pos S.Ep T.Dp
    have hB : B * (E * D) < 2 ^ 2000 := Nat.lt_of_le_of_lt (Nat.mul_le_mul_right _ (by omega)) h
    refine ⟨ok_of hDE ((S.inz i hi).mul (T.inz i j' hi hj')) (neg_le_nn (B := B) (Rat.mul_nonneg (S.nn i hi) (T.nn i j' hi hj'))) (mul_le1 (S.nn i hi) (S.le i hi) (T.nn i j' hi hj') (T.le i j' hi hj')) hB h2, ?_⟩
    have hp := part_le T S (j := j') (k := i + 1) hj' (by omega)
    exact ok_of hDE hp.2.2 (neg_le_nn hp.1) hp.2.1 h h2
theorem sml_led (T : Tab n D nm rowf α) {E B : Nat} {v : Nat → Rat} (S : Sml n E B v) : Sml n (E * D) (4 * B) (ledV n α v) where
  nn := fun j hj => (part_le T S hj (Nat.le_refl n)).1
  le := fun j hj => (part_le T S hj (Nat.le_refl n)).2.1
  inz := fun j hj => (part_le T S hj (Nat.le_refl n)).2.2
  Ep := Nat.mul_pos S.Ep T.Dp
def ledK (n : Nat) (α : Nat → Nat → Rat) (v : Nat → Rat) : Nat → Nat → Rat
  | 0 => v
  | k + 1 => ledV n α (ledK n α v k)
theorem ledN_vec (T : Tab n D nm rowf α) {v : Nat → Rat} : ∀ k, ledN (tabOf n nm rowf) (vec n nm v) k = vec n nm (ledK n α v k) := by
  intro k
  induction k with
  | zero => rfl
  | succ k ih => show ledM (tabOf n nm rowf) (ledN (tabOf n nm rowf) (vec n nm v) k) = _; rw [ih, led_vec T]; rfl
theorem sml_ledK (T : Tab n D nm rowf α) {E B : Nat} {v : Nat → Rat} (S : Sml n E B v) : ∀ k, Sml n (E * D ^ k) (4 ^ k * B) (ledK n α v k) := by
  intro k
  induction k with
  | zero => rw [Nat.pow_zero, Nat.pow_zero, Nat.mul_one, Nat.one_mul]; exact S
  | succ k ih =>
    have h := sml_led T ih
    rw [Nat.mul_assoc, ← Nat.pow_succ, ← Nat.mul_assoc, Nat.mul_comm 4, ← Nat.pow_succ] at h
    exact h
/-- all leadings up to the fourth -/
theorem ledOk_K (T : Tab n D nm rowf α) {E B : Nat} {v : Nat → Rat} (S : Sml n E B v) (hE : E < 2 ^ 300) (hB : B < 2 ^ 300) {k : Nat} (hk : k < 4) : LedOk (tabOf n nm rowf) (ledN (tabOf n nm rowf) (vec n nm v) k) := by
  rw [ledN_vec T]
  have hDk : D ^ k * D ≤ 2 ^ 200 := by
    rw [← Nat.pow_succ]
    refine Nat.le_trans (Nat.pow_le_pow_left (Nat.le_of_lt T.Db) _) ?_
    rw [← Nat.pow_mul]
    exact Nat.pow_le_pow_right (by decide) (by omega)
  have h4k : 4 ^ k ≤ 64 := by
    refine Nat.le_trans (Nat.pow_le_pow_right (by decide) (show k ≤ 3 by omega)) (by decide)
  have hDp := T.Dp
  have b1 : E * D ^ k * D ≤ 2 ^ 300 * 2 ^ 200 := by rw [Nat.mul_assoc]; exact Nat.mul_le_mul (Nat.le_of_lt hE) hDk
  have b2 : 4 * (4 ^ k * B) ≤ 256 * 2 ^ 300 := by
    have := Nat.mul_le_mul h4k (Nat.le_of_lt hB)
    omega
  refine ledOk_vec T (sml_ledK T S k) (Nat.lt_of_le_of_lt (Nat.mul_le_mul b2 b1) (by decide +kernel)) (Nat.lt_of_le_of_lt b1 (by decide +kernel))
end
end Tc
set_option Elab.async false
set_option linter.all false
set_option maxRecDepth 100000
set_option maxHeartbeats 4000000
set_option exponentiation.threshold 10000
namespace Tc
open PySem
/-! plain: the bound -/
theorem le_lt_r {a b c : Rat} (h : a ≤ b) (g : b < c) : a < c := by grind
theorem lt_le_r {a b c : Rat} (h : a < b) (g : b ≤ c) : a < c := by grind
def lefK (n : Nat) (α : Nat → Nat → Rat) : Nat → Nat → Rat
  | 0 => fun _ => 1
  | k + 1 => lefV n α (lefK n α k)
/-- what is led out: the chain -/
structure Out (n : Nat) (α : Nat → Nat → Rat) : Prop where
  n1 : 1 ≤ n
  sum : ∀ i, i < n → rs n (α i) ≤ 1
  last : rs n (α (n - 1)) < 1
  next : ∀ i, i + 1 < n → 0 < α i (i + 1)
theorem rs_lt {n : Nat} {f g : Nat → Rat} (h : ∀ i, i < n → f i ≤ g i) {j : Nat} (hj : j < n) (hs : f j < g j) : rs n f < rs n g := by
  induction n with
  | zero => omega
  | succ n ih =>
    show rs n f + f n < rs n g + g n
    by_cases e : j = n
    · subst e
      have := rs_le (n := j) fun i hi => h i (by omega)
      grind
    · have := ih (fun i hi => h i (by omega)) (by omega)
      have := h n (by omega)
      grind
theorem most_fold (l : AL Rat) (c : Rat) : (c ≤ l.foldl (fun m p => if m < p.2 then p.2 else m) c ∧ ∀ p ∈ l, p.2 ≤ l.foldl (fun m p => if m < p.2 then p.2 else m) c) ∧ (l.foldl (fun m p => if m < p.2 then p.2 else m) c = c ∨ ∃ p ∈ l, p.2 = l.foldl (fun m p => if m < p.2 then p.2 else m) c) := by
  induction l generalizing c with
  | nil => exact ⟨⟨Rat.le_refl, fun p hp => nomatch hp⟩, .inl rfl⟩
  | cons a r ih =>
    rw [List.foldl_cons]
    obtain ⟨⟨h1, h2⟩, h3⟩ := ih (if c < a.2 then a.2 else c)
    generalize r.foldl (fun m p => if m < p.2 then p.2 else m) (if c < a.2 then a.2 else c) = z at h1 h2 h3
    have hc : c ≤ z ∧ a.2 ≤ z := by
      split at h1 <;> (constructor <;> grind)
    refine ⟨⟨hc.1, fun p hp => ?_⟩, ?_⟩
    · rcases List.mem_cons.mp hp with hp | hp
      · rw [hp]; exact hc.2
      · exact h2 p hp
    · rcases h3 with h3 | ⟨p, hp, e⟩
      · split at h3
        · exact .inr ⟨a, List.mem_cons_self, h3.symm⟩
        · exact .inl h3
      · exact .inr ⟨p, List.mem_cons_of_mem _ hp, e⟩
theorem most_le {l : AL Rat} {p : Str × Rat} (h : p ∈ l) : p.2 ≤ mostM l := (most_fold l 0).1.2 p h
theorem most_mem (l : AL Rat) : mostM l = 0 ∨ ∃ p ∈ l, p.2 = mostM l := (most_fold l 0).2
section
variable {n D : Nat} {nm : Nat → Str} {rowf : Nat → AL Rat} {α : Nat → Nat → Rat}
theorem left_vec (T : Tab n D nm rowf α) : ∀ k, leftN (tabOf n nm rowf) k = vec n nm (lefK n α k) := by
  intro k
  induction k with
  | zero =>
    show (tabOf n nm rowf).map (fun p => (p.1, (1 : Rat))) = _
    unfold tabOf
    rw [List.map_map]
    rfl
  | succ k ih =>
    show (tabOf n nm rowf).map (fun p => (p.1, fsum (p.2.map fun r => r.2 * (aget (leftN (tabOf n nm rowf) k) r.1).getD 0))) = _
    rw [ih]
    unfold tabOf
    rw [List.map_map]
    refine List.map_congr_left fun i hi => ?_
    have hi := List.mem_range.mp hi
    show (nm i, fsum ((rowf i).map fun r => r.2 * (aget (vec n nm (lefK n α k)) r.1).getD 0)) = (nm i, lefV n α (lefK n α k) i)
    rw [row_sum T.inj (g := fun s => (aget (vec n nm (lefK n α k)) s).getD 0) (T.nd i hi) (T.mem i hi)]
    congr 1
    refine rs_congr fun j hj => ?_
    rw [T.val i j hi hj, vec_get T.inj hj]
    rfl
theorem lef_nn (T : Tab n D nm rowf α) (O : Out n α) : ∀ k i, i < n → 0 ≤ lefK n α k i ∧ lefK n α k i ≤ 1 ∧ InZ (D ^ k) (lefK n α k i) := by
  intro k
  induction k with
  | zero => intro i _; exact ⟨by show (0 : Rat) ≤ 1; grind, Rat.le_refl, inz_one _⟩
  | succ k ih =>
    intro i hi
    refine ⟨rs_nn fun j hj => Rat.mul_nonneg (T.nn i j hi hj) (ih j hj).1, ?_, ?_⟩
    · refine Rat.le_trans (rs_le (g := α i) fun j hj => ?_) (O.sum i hi)
      exact mul_le1 (T.nn i j hi hj) Rat.le_refl (ih j hj).1 (ih j hj).2.1
    · rw [Nat.pow_succ, Nat.mul_comm]
      exact rs_inz fun j hj => (T.inz i j hi hj).mul (ih j hj).2.2
theorem lef_lt (T : Tab n D nm rowf α) (O : Out n α) : ∀ m i, i < n → n - 1 - i = m → ∀ k, n - i ≤ k → lefK n α k i < 1 := by
  intro m
  induction m with
  | zero =>
    intro i hi hm k hk
    obtain ⟨k, rfl⟩ : ∃ k', k = k' + 1 := ⟨k - 1, by omega⟩
    have e : i = n - 1 := by omega
    subst e
    refine le_lt_r (rs_le (g := α (n - 1)) fun j hj => ?_) O.last
    have h := lef_nn T O k j hj
    exact mul_le1 (T.nn _ j hi hj) Rat.le_refl h.1 h.2.1
  | succ m ih =>
    intro i hi hm k hk
    obtain ⟨k, rfl⟩ : ∃ k', k = k' + 1 := ⟨k - 1, by omega⟩
    have h1 := ih (i + 1) (by omega) (by omega) k (by omega)
    refine lt_le_r (rs_lt (g := α i) (fun j hj => ?_) (j := i + 1) (by omega) ?_) (O.sum i hi)
    · have h := lef_nn T O k j hj
      exact mul_le1 (T.nn _ j hi hj) Rat.le_refl h.1 h.2.1
    · have := Rat.mul_lt_mul_of_pos_left h1 (O.next i (by omega))
      grind
theorem most_all {l : AL Rat} (h : ∀ p ∈ l, p.2 < 1) : mostM l < 1 := by
  rcases most_mem l with e | ⟨p, hp, e⟩
  · rw [e]; decide
  · rw [← e]; exact h p hp
theorem least_k {P : Nat → Prop} {m : Nat} (h : P m) : ∃ k, k ≤ m ∧ P k ∧ ∀ j, j < k → ¬ P j := by
  induction m using Nat.strongRecOn with
  | ind m ih =>
    by_cases g : ∃ j, j < m ∧ P j
    · obtain ⟨j, hj, hp⟩ := g
      obtain ⟨k, hk, a, b⟩ := ih j hj hp
      exact ⟨k, by omega, a, b⟩
    · exact ⟨m, Nat.le_refl m, h, fun j hj hp => g ⟨j, hj, hp⟩⟩
theorem Dpow (T : Tab n D nm rowf α) {k : Nat} (hk : k ≤ 5) : D ^ k ≤ 2 ^ 250 := by
  refine Nat.le_trans (Nat.pow_le_pow_left (Nat.le_of_lt T.Db) _) ?_
  rw [← Nat.pow_mul]
  exact Nat.pow_le_pow_right (by decide) (by omega)
theorem vec_vals {v : Nat → Rat} : (vec n nm v).map (fun p => p.2) = (List.range n).map v := by unfold vec; rw [List.map_map]; rfl
theorem unit_vec (T : Tab n D nm rowf α) {i : Nat} (hi : i < n) : unitM (tabOf n nm rowf) (nm i) = vec n nm fun m => if m = i then 1 else 0 := by
  unfold unitM
  rw [tab_keys, List.map_map]
  refine List.map_congr_left fun m hm => ?_
  show (nm m, if nm m = nm i then (1 : Rat) else 0) = (nm m, if m = i then 1 else 0)
  by_cases e : m = i
  · rw [if_pos e, if_pos (by rw [e])]
  · rw [if_neg e, if_neg fun z => e (T.inj m i (List.mem_range.mp hm) hi z)]
theorem sml_unit (i : Nat) : Sml n 1 1 fun m => if m = i then 1 else 0 where
  nn := fun m _ => by show (0 : Rat) ≤ if m = i then 1 else 0; split <;> decide
  le := fun m _ => by show (if m = i then (1 : Rat) else 0) ≤ ((1 : Nat) : Rat); split <;> decide
  inz := fun m _ => by show InZ 1 (if m = i then (1 : Rat) else 0); split; exact inz_one _; exact inz_zero _
  Ep := by decide
theorem ip_led (v w : Nat → Rat) : rs n (fun j => ledV n α v j * w j) = rs n fun i => v i * lefV n α w i := by
  have h1 : (rs n fun j => ledV n α v j * w j) = rs n fun j => rs n fun i => v i * α i j * w j := rs_congr fun j _ => (rs_mul' n (w j) _).symm
  have h2 : (rs n fun i => v i * lefV n α w i) = rs n fun i => rs n fun j => v i * α i j * w j := rs_congr fun i _ => by
    show v i * rs n (fun j => α i j * w j) = _
    rw [← rs_mul]
    exact rs_congr fun j _ => by grind
  rw [h1, h2, rs_swap]
def lefI (n : Nat) (α : Nat → Nat → Rat) (w : Nat → Rat) : Nat → Nat → Rat
  | 0 => w
  | k + 1 => lefV n α (lefI n α w k)
theorem lefI_in (w : Nat → Rat) : ∀ k, lefI n α (lefV n α w) k = lefI n α w (k + 1) := by
  intro k
  induction k with
  | zero => rfl
  | succ k ih => show lefV n α (lefI n α (lefV n α w) k) = lefV n α (lefI n α w (k + 1)); rw [ih]
theorem lefI_one : ∀ k, lefI n α (fun _ => 1) k = lefK n α k := by
  intro k
  induction k with
  | zero => rfl
  | succ k ih => show lefV n α (lefI n α _ k) = lefV n α (lefK n α k); rw [ih]
theorem ip_ledK (v : Nat → Rat) : ∀ k w, rs n (fun j => ledK n α v k j * w j) = rs n fun i => v i * lefI n α w k i := by
  intro k
  induction k with
  | zero => intro w; rfl
  | succ k ih =>
    intro w
    show rs n (fun j => ledV n α (ledK n α v k) j * w j) = _
    rw [ip_led, ih, lefI_in]
theorem leftOf_eq (T : Tab n D nm rowf α) {k i : Nat} (hi : i < n) : leftOf (tabOf n nm rowf) k (nm i) = lefK n α k i := by
  unfold leftOf
  rw [unit_vec T hi, ledN_vec T, vec_vals, fsum_range]
  have h := ip_ledK (n := n) (α := α) (fun m => if m = i then (1 : Rat) else 0) k fun _ => 1
  rw [lefI_one] at h
  have h1 : (rs n fun j => ledK n α (fun m => if m = i then (1 : Rat) else 0) k j * 1) = rs n (ledK n α (fun m => if m = i then (1 : Rat) else 0) k) := rs_congr fun j _ => by grind
  rw [h1] at h
  rw [h]
  have h2 : (rs n fun m => (if m = i then (1 : Rat) else 0) * lefK n α k m) = rs n fun m => if m = i then lefK n α k i else 0 := rs_congr fun m _ => by
    by_cases e : m = i
    · rw [if_pos e, if_pos e, e]; grind
    · rw [if_neg e, if_neg e]; grind
  rw [h2, rs_one hi]
theorem lefts_eq (T : Tab n D nm rowf α) (k : Nat) : leftsF (tabOf n nm rowf) k = (List.range n).map (lefK n α k) := by
  unfold leftsF
  rw [tab_keys, List.map_map]
  exact List.map_congr_left fun i hi => leftOf_eq T (List.mem_range.mp hi)
theorem lfOk (T : Tab n D nm rowf α) {k : Nat} (hk : k ≤ 4) : LfOk (tabOf n nm rowf) k where
  nd := tab_nd T
  len := by rw [tab_len]; have := T.n4; omega
  lek := by omega
  led := fun x hx i hi => by
    rw [tab_keys] at hx
    obtain ⟨j, hj, rfl⟩ := List.mem_map.mp hx
    rw [unit_vec T (List.mem_range.mp hj)]
    exact ledOk_K T (sml_unit j) (by decide +kernel) (by decide +kernel) (by omega)
  ndl := fun x hx => by
    rw [tab_keys] at hx
    obtain ⟨j, hj, rfl⟩ := List.mem_map.mp hx
    rw [unit_vec T (List.mem_range.mp hj), ledN_vec T]
    exact vec_nd T.inj
  ok := fun x hx i => by
    rw [tab_keys] at hx
    obtain ⟨j, hj, rfl⟩ := List.mem_map.mp hx
    have S := sml_ledK T (sml_unit (n := n) j) k
    rw [unit_vec T (List.mem_range.mp hj), ledN_vec T, vec_vals]
    have hm : ∀ q ∈ ((List.range n).map (ledK n α (fun m => if m = j then 1 else 0) k)).take i, 0 ≤ q ∧ q ≤ ((4 ^ k * 1 : Nat) : Rat) ∧ InZ (1 * D ^ k) q := fun q hq => by
      obtain ⟨m, hm, rfl⟩ := List.mem_map.mp (List.mem_of_mem_take hq)
      have hm := List.mem_range.mp hm
      exact ⟨S.nn m hm, S.le m hm, S.inz m hm⟩
    have hl : (((List.range n).map (ledK n α (fun m => if m = j then 1 else 0) k)).take i).length ≤ 4 := by
      rw [List.length_take, List.length_map, List.length_range]
      have := T.n4
      omega
    generalize ((List.range n).map (ledK n α (fun m => if m = j then 1 else 0) k)).take i = xs at hm hl
    have h4k : 4 ^ k * 1 ≤ 256 := by
      rw [Nat.mul_one]
      exact Nat.le_trans (Nat.pow_le_pow_right (by decide) (show k ≤ 4 by omega)) (by decide)
    have hle : fsum xs ≤ ((1024 : Nat) : Rat) := by
      refine Rat.le_trans (fsum_le fun q hq => (hm q hq).2.1) ?_
      rw [← Rat.natCast_mul]
      exact natCast_le (Nat.le_trans (Nat.mul_le_mul hl h4k) (by decide))
    have hD : 1 * D ^ k ≤ 2 ^ 250 := by rw [Nat.one_mul]; exact Dpow T (by omega)
    exact ok_of (Nat.mul_pos (by decide) (Nat.pow_pos T.Dp)) (fsum_inz fun q hq => (hm q hq).2.2) (neg_le_nn (fsum_nn fun q hq => (hm q hq).1)) hle (Nat.lt_of_le_of_lt (Nat.mul_le_mul_left _ hD) (by decide +kernel)) (Nat.lt_of_le_of_lt hD (by decide +kernel))
/-- the bound: some k, as the text finds it, and the law's own reckoning -/
theorem bound_ok (T : Tab n D nm rowf α) (O : Out n α) : ∃ k, BndOk (tabOf n nm rowf) k ∧ BrOk (tabOf n nm rowf) k (mostM (leftN (tabOf n nm rowf) k)) := by
  have n1 := O.n1
  have n4 := T.n4
  have hn : mostM (leftN (tabOf n nm rowf) n) < 1 := by
    rw [left_vec T]
    refine most_all fun p hp => ?_
    obtain ⟨i, hi, rfl⟩ := List.mem_map.mp hp
    have hi := List.mem_range.mp hi
    exact lef_lt T O _ i hi rfl n (by omega)
  have h0 : ¬ mostM (leftN (tabOf n nm rowf) 0) < 1 := by
    rw [left_vec T]
    have h := most_le (l := vec n nm (lefK n α 0)) (vec_mem (j := 0) (by omega))
    have h : (1 : Rat) ≤ mostM (vec n nm (lefK n α 0)) := h
    grind
  obtain ⟨k, hk, hyes, hno⟩ := least_k (P := fun k => mostM (leftN (tabOf n nm rowf) k) < 1) hn
  have k1 : 1 ≤ k := by
    rcases Nat.eq_zero_or_pos k with e | e
    · subst e; exact absurd hyes h0
    · exact e
  refine ⟨k, ?_, ?_⟩
  · refine ⟨tab_nd T, by rw [tab_len]; omega, fun p hp => ?_, k1, fun j _ hj => hno j hj, hyes, fun j hj p hp => ?_⟩
    · obtain ⟨i, hi, rfl⟩ := List.mem_map.mp hp
      have hi := List.mem_range.mp hi
      refine ⟨T.len i hi, fun r hr => ?_⟩
      obtain ⟨m, hm, e⟩ := T.mem i hi r hr
      rw [show (tabOf n nm rowf).map (·.1) = (List.range n).map nm from tab_keys, e]
      exact List.mem_map.mpr ⟨m, List.mem_range.mpr hm, rfl⟩
    · obtain ⟨i, hi, rfl⟩ := List.mem_map.mp hp
      have hi := List.mem_range.mp hi
      have hterm : ∀ r ∈ rowf i, 0 ≤ r.2 * (aget (leftN (tabOf n nm rowf) j) r.1).getD 0 ∧ r.2 * (aget (leftN (tabOf n nm rowf) j) r.1).getD 0 ≤ ((1 : Nat) : Rat) ∧ InZ (D * D ^ j) (r.2 * (aget (leftN (tabOf n nm rowf) j) r.1).getD 0) := fun r hr => by
        obtain ⟨m, hm, e, e2⟩ := tab_rowv T hi hr
        rw [left_vec T, e, vec_get T.inj hm, e2]
        have h := lef_nn T O j m hm
        exact ⟨Rat.mul_nonneg (T.nn i m hi hm) h.1, mul_le1 (T.nn i m hi hm) (T.le i m hi hm) h.1 h.2.1, (T.inz i m hi hm).mul h.2.2⟩
      have hD : D * D ^ j ≤ 2 ^ 250 := by rw [Nat.mul_comm, ← Nat.pow_succ]; exact Dpow T (by omega)
      have hDp : 0 < D * D ^ j := Nat.mul_pos T.Dp (Nat.pow_pos T.Dp)
      refine ⟨fun r hr => ?_, fun m => ?_⟩
      · have h := hterm r hr
        exact ok_of hDp h.2.2 (neg_le_nn h.1) h.2.1 (Nat.lt_of_le_of_lt (Nat.mul_le_mul_left _ hD) (by decide +kernel)) (Nat.lt_of_le_of_lt hD (by decide +kernel))
      · have hm : ∀ q ∈ ((rowf i).map fun r => r.2 * (aget (leftN (tabOf n nm rowf) j) r.1).getD 0).take m, 0 ≤ q ∧ q ≤ ((1 : Nat) : Rat) ∧ InZ (D * D ^ j) q := fun q hq => by
          obtain ⟨r, hr, rfl⟩ := List.mem_map.mp (List.mem_of_mem_take hq)
          exact hterm r hr
        have hl : (((rowf i).map fun r => r.2 * (aget (leftN (tabOf n nm rowf) j) r.1).getD 0).take m).length ≤ 100 := by
          rw [List.length_take, List.length_map]
          have := T.len i hi
          omega
        show Ok (fsum (((rowf i).map fun r => r.2 * (aget (leftN (tabOf n nm rowf) j) r.1).getD 0).take m))
        generalize ((rowf i).map fun r => r.2 * (aget (leftN (tabOf n nm rowf) j) r.1).getD 0).take m = xs at hm hl
        have hle : fsum xs ≤ ((100 : Nat) : Rat) := by
          refine Rat.le_trans (fsum_le fun q hq => (hm q hq).2.1) ?_
          rw [← Rat.natCast_mul]
          exact natCast_le (by omega)
        exact ok_of hDp (fsum_inz fun q hq => (hm q hq).2.2) (neg_le_nn (fsum_nn fun q hq => (hm q hq).1)) hle (Nat.lt_of_le_of_lt (Nat.mul_le_mul_left _ hD) (by decide +kernel)) (Nat.lt_of_le_of_lt hD (by decide +kernel))
  · refine ⟨k1, lfOk T (by omega), lfOk T (by omega), ?_, hyes, fun q hq => ?_, ?_⟩
    · rw [lefts_eq T, left_vec T]
      rcases most_mem (vec n nm (lefK n α k)) with e | ⟨p, hp, e⟩
      · have h := most_le (l := vec n nm (lefK n α k)) (vec_mem (j := 0) (by omega))
        have h : lefK n α k 0 ≤ mostM (vec n nm (lefK n α k)) := h
        have h2 := (lef_nn T O k 0 (by omega)).1
        rw [e] at h
        rw [e]
        exact List.mem_map.mpr ⟨0, List.mem_range.mpr (by omega), by grind⟩
      · obtain ⟨i, hi, rfl⟩ := List.mem_map.mp hp
        exact List.mem_map.mpr ⟨i, hi, e⟩
    · rw [lefts_eq T] at hq
      obtain ⟨i, hi, rfl⟩ := List.mem_map.mp hq
      rw [left_vec T]
      have h : lefK n α k i ≤ mostM (vec n nm (lefK n α k)) := most_le (l := vec n nm (lefK n α k)) (vec_mem (List.mem_range.mp hi))
      grind
    · rw [lefts_eq T]
      have hk1 := hno (k - 1) (by omega)
      rw [left_vec T] at hk1
      rcases most_mem (vec n nm (lefK n α (k - 1))) with e | ⟨p, hp, e⟩
      · rw [e] at hk1; exact absurd (by decide) hk1
      · obtain ⟨i, hi, rfl⟩ := List.mem_map.mp hp
        have e : lefK n α (k - 1) i = mostM (vec n nm (lefK n α (k - 1))) := e
        have h2 := (lef_nn T O (k - 1) i (List.mem_range.mp hi)).2.1
        rw [← e] at hk1
        exact List.mem_map.mpr ⟨i, hi, by grind⟩
end
end Tc
set_option Elab.async false
set_option linter.all false
set_option maxRecDepth 100000
set_option maxHeartbeats 4000000
set_option exponentiation.threshold 10000
namespace Tc
open PySem
/-! plain: the square is solved -/
/-- what the elimination asks -/
structure Tri (n : Nat) (M : Nat → Nat → Rat) (w x : Nat → Rat) : Prop where
  n4 : n ≤ 90
  tri : ∀ k c, k < n → c < n → k < c → M k c = 0
  pos : ∀ k, k < n → 0 < M k k
  sol : ∀ k, k < n → w k = rs n fun i => M k i * x i
  okM : ∀ k c, k < n → c < n → Ok (M k c)
  okx : ∀ k, k < n → Ok (x k)
  okp : ∀ k c, k < n → c < n → Ok (M k c * x c)
  okl : ∀ t k, t ≤ n → k < n → Ok (w k - rs t fun i => M k i * x i)
def stT (M : Nat → Nat → Rat) (t k c : Nat) : Rat := if k < t then (if c = k then 1 else 0) else (if c < t then 0 else M k c)
def stL (M : Nat → Nat → Rat) (w x : Nat → Rat) (t k : Nat) : Rat := if k < t then x k else w k - rs t fun i => M k i * x i
def stRow (n : Nat) (M : Nat → Nat → Rat) (w x : Nat → Rat) (t k : Nat) : List Rat := (List.range n).map (stT M t k) ++ [stL M w x t k]
def stage (n : Nat) (M : Nat → Nat → Rat) (w x : Nat → Rat) (t : Nat) : List (List Rat) := (List.range n).map (stRow n M w x t)
def chRow (n : Nat) (x : Nat → Rat) (t : Nat) : List Rat := (List.range n).map (fun c => if c = t then (1 : Rat) else 0) ++ [x t]
theorem rowget {n c : Nat} {f : Nat → Rat} {l : Rat} (h : c < n) : ((List.range n).map f ++ [l]).getD c 0 = f c := by
  rw [List.getD_eq_getElem?_getD, List.getElem?_append_left (by rw [List.length_map, List.length_range]; exact h), List.getElem?_map, List.getElem?_range h]
  rfl
theorem rs_cut {n m : Nat} {f : Nat → Rat} (h : m ≤ n) (z : ∀ i, m ≤ i → i < n → f i = 0) : rs n f = rs m f := by
  induction n with
  | zero => rw [Nat.le_zero.mp h]
  | succ n ih =>
    by_cases e : m = n + 1
    · rw [e]
    · show rs n f + f n = rs m f
      rw [ih (by omega) fun i h1 h2 => z i h1 (by omega), z n (by omega) (by omega)]
      grind
section
variable {n : Nat} {M : Nat → Nat → Rat} {w x : Nat → Rat}
theorem stage_get {t k : Nat} (h : k < n) : (stage n M w x t)[k]? = some (stRow n M w x t k) := by
  unfold stage
  rw [List.getElem?_map, List.getElem?_range h]; rfl
theorem stage_len {t : Nat} : (stage n M w x t).length = n := by unfold stage; rw [List.length_map, List.length_range]
theorem stRow_len {t k : Nat} : (stRow n M w x t k).length = n + 1 := by unfold stRow; rw [List.length_append, List.length_map, List.length_range]; rfl
theorem chosen_eq (T : Tri n M w x) {t : Nat} (h : t < n) : chosenM (stage n M w x t) t = chRow n x t := by
  unfold chosenM
  have e1 : (stage n M w x t).getD t [] = stRow n M w x t t := by rw [List.getD_eq_getElem?_getD, stage_get h]; rfl
  have e2 : (stRow n M w x t t).getD t 0 = M t t := by
    unfold stRow
    rw [rowget h]
    unfold stT
    rw [if_neg (Nat.lt_irrefl t), if_neg (Nat.lt_irrefl t)]
  have hp := T.pos t h
  rw [e1, e2]
  unfold stRow chRow
  rw [List.map_append, List.map_map, List.map_singleton]
  congr 1
  · refine List.map_congr_left fun c hc => ?_
    have hc := List.mem_range.mp hc
    show stT M t t c / M t t = if c = t then 1 else 0
    unfold stT
    rw [if_neg (Nat.lt_irrefl t)]
    by_cases e : c = t
    · subst e
      rw [if_neg (Nat.lt_irrefl c), if_pos rfl]
      grind
    · rw [if_neg e]
      by_cases l : c < t
      · rw [if_pos l]; grind
      · rw [if_neg l, T.tri t c h hc (by omega)]; grind
  · have hs := T.sol t h
    rw [rs_cut (m := t + 1) (by omega) fun i h1 h2 => by rw [T.tri t i h h2 (by omega)]; grind] at hs
    have hs : w t = rs t (fun i => M t i * x i) + M t t * x t := hs
    show [stL M w x t t / M t t] = [x t]
    unfold stL
    rw [if_neg (Nat.lt_irrefl t), hs]
    congr 1
    grind
theorem zip_rows {f g : Nat → Rat} {l m : Rat} : ((List.range n).map f ++ [l]).zip ((List.range n).map g ++ [m]) = (List.range n).map (fun c => (f c, g c)) ++ [(l, m)] := by
  rw [List.zip_append (by rw [List.length_map, List.length_map]), List.zip_map']
  rfl
theorem clr_row (T : Tri n M w x) {t k : Nat} (ht : t < n) (hk : k < n) (e : k ≠ t) : clr1 t (chRow n x t) k (stRow n M w x t k) = stRow n M w x (t + 1) k := by
  have hb : (stRow n M w x t k).getD t 0 = stT M t k t := by unfold stRow; exact rowget ht
  unfold clr1
  rw [hb]
  by_cases l : k < t
  · have h0 : stT M t k t = 0 := by unfold stT; rw [if_pos l, if_neg (by omega)]
    rw [if_neg fun z => z.2 h0]
    unfold stRow
    congr 1
    · refine List.map_congr_left fun c _ => ?_
      unfold stT
      rw [if_pos l, if_pos (show k < t + 1 by omega)]
    · unfold stL
      rw [if_pos l, if_pos (show k < t + 1 by omega)]
  · have lk : t < k := by omega
    have h0 : stT M t k t = M k t := by unfold stT; rw [if_neg l, if_neg (Nat.lt_irrefl t)]
    rw [h0]
    have hL : stL M w x (t + 1) k = stL M w x t k - M k t * x t := by
      unfold stL
      rw [if_neg l, if_neg (by omega)]
      show w k - (rs t (fun i => M k i * x i) + M k t * x t) = _
      grind
    have hT : ∀ c, stT M (t + 1) k c = stT M t k c - M k t * (if c = t then 1 else 0) := fun c => by
      unfold stT
      rw [if_neg l, if_neg (by omega)]
      by_cases e1 : c < t
      · rw [if_pos e1, if_pos (by omega), if_neg (by omega)]; grind
      · by_cases e2 : c = t
        · subst e2
          rw [if_pos (by omega), if_neg e1, if_pos rfl]; grind
        · rw [if_neg (by omega), if_neg e1, if_neg e2]; grind
    by_cases z : M k t = 0
    · rw [if_neg fun y => y.2 z]
      unfold stRow
      congr 1
      · refine List.map_congr_left fun c _ => ?_
        rw [hT, z]; grind
      · rw [hL, z]; congr 1; grind
    · rw [if_pos ⟨e, z⟩]
      unfold stRow chRow
      rw [zip_rows, List.map_append, List.map_map, List.map_singleton]
      congr 1
      · refine List.map_congr_left fun c _ => ?_
        rw [hT]; rfl
      · rw [hL]
theorem clear_stage (T : Tri n M w x) {t : Nat} (ht : t < n) : clearM (stage n M w x t) t = stage n M w x (t + 1) := by
  unfold clearM
  rw [chosen_eq T ht]
  apply List.ext_getElem?
  intro k
  rw [clrTo_get, List.getElem?_set, stage_len]
  by_cases hk : k < n
  · rw [stage_get hk, stage_get hk]
    by_cases e : t = k
    · subst e
      rw [if_pos rfl, if_pos ht, Option.map_some, if_pos ht]
      unfold clr1
      rw [if_neg fun z => z.1 rfl]
      congr 1
      unfold chRow stRow
      congr 1
      · refine List.map_congr_left fun c _ => ?_
        unfold stT
        rw [if_pos (show t < t + 1 by omega)]
      · unfold stL
        rw [if_pos (show t < t + 1 by omega)]
    · rw [if_neg e, Option.map_some, if_pos hk, clr_row T ht hk fun z => e z.symm]
  · have h1 : (stage n M w x (t + 1))[k]? = none := List.getElem?_eq_none (by rw [stage_len]; omega)
    have h2 : (stage n M w x t)[k]? = none := List.getElem?_eq_none (by rw [stage_len]; omega)
    rw [h1, if_neg (by omega), h2]
    rfl
theorem ok_stT (T : Tri n M w x) {t k c : Nat} (hk : k < n) (hc : c < n) : Ok (stT M t k c) := by
  unfold stT
  split
  · split
    · exact ok1
    · exact ok0
  · split
    · exact ok0
    · exact T.okM k c hk hc
theorem ok_stL (T : Tri n M w x) {t k : Nat} (ht : t ≤ n) (hk : k < n) : Ok (stL M w x t k) := by
  unfold stL
  split
  · exact T.okx k hk
  · exact T.okl t k ht hk
theorem clrOk_stage (T : Tri n M w x) {t : Nat} (ht : t < n) : ClrOk (stage n M w x t) t := by
  have n4 := T.n4
  refine ⟨by rw [stage_len]; exact ht, by rw [stage_len]; omega, fun row hr => ?_, ?_, fun q hq => ?_, fun k row hk hrow p hp => ?_⟩
  · obtain ⟨k, hk, rfl⟩ := List.mem_map.mp hr
    rw [stRow_len]
    omega
  · have e1 : (stage n M w x t).getD t [] = stRow n M w x t t := by rw [List.getD_eq_getElem?_getD, stage_get ht]; rfl
    rw [e1]
    unfold stRow
    rw [rowget ht]
    unfold stT
    rw [if_neg (Nat.lt_irrefl t), if_neg (Nat.lt_irrefl t)]
    exact T.pos t ht
  · rw [chosen_eq T ht] at hq
    unfold chRow at hq
    rcases List.mem_append.mp hq with hq | hq
    · obtain ⟨c, hc, rfl⟩ := List.mem_map.mp hq
      show Ok (if c = t then 1 else 0)
      split
      · exact ok1
      · exact ok0
    · rw [List.mem_singleton.mp hq]; exact T.okx t ht
  · have hkn : k < n := by
      have := (List.getElem?_eq_some_iff.mp hrow).1
      rw [stage_len] at this
      exact this
    rw [stage_get hkn] at hrow
    cases hrow
    have hb : (stRow n M w x t k).getD t 0 = stT M t k t := by unfold stRow; exact rowget ht
    rw [hb]
    rw [chosen_eq T ht] at hp
    have hclr := clr_row T ht hkn hk
    have mulz : ∀ y : Rat, stT M t k t = 0 → stT M t k t * y = 0 := fun y z => by rw [z]; grind
    have hkt : ¬ k < t → stT M t k t = M k t := fun l => by unfold stT; rw [if_neg l, if_neg (Nat.lt_irrefl t)]
    have hlt : k < t → stT M t k t = 0 := fun l => by unfold stT; rw [if_pos l, if_neg (by omega)]
    unfold stRow chRow at hp
    rw [zip_rows] at hp
    rcases List.mem_append.mp hp with hp | hp
    · obtain ⟨c, hc, rfl⟩ := List.mem_map.mp hp
      have hc := List.mem_range.mp hc
      show Ok (stT M t k t * (if c = t then 1 else 0)) ∧ Ok (stT M t k c - stT M t k t * (if c = t then 1 else 0))
      by_cases e : c = t
      · subst e
        rw [if_pos rfl]
        have h1 : stT M c k c * 1 = stT M c k c := by grind
        have h2 : stT M c k c - stT M c k c = 0 := by grind
        rw [h1, h2]
        exact ⟨ok_stT T hkn hc, ok0⟩
      · rw [if_neg e]
        have h1 : stT M t k t * 0 = 0 := by grind
        have h2 : stT M t k c - 0 = stT M t k c := by grind
        rw [h1, h2]
        exact ⟨ok0, ok_stT T hkn hc⟩
    · rw [List.mem_singleton.mp hp]
      show Ok (stT M t k t * x t) ∧ Ok (stL M w x t k - stT M t k t * x t)
      by_cases l : k < t
      · rw [mulz _ (hlt l)]
        have h2 : stL M w x t k - 0 = stL M w x t k := by grind
        rw [h2]
        exact ⟨ok0, ok_stL T (by omega) hkn⟩
      · rw [hkt l]
        refine ⟨T.okp k t hkn ht, ?_⟩
        have hL : stL M w x t k - M k t * x t = stL M w x (t + 1) k := by
          unfold stL
          rw [if_neg l, if_neg (by omega)]
          show _ = w k - (rs t (fun i => M k i * x i) + M k t * x t)
          grind
        rw [hL]
        exact ok_stL T (by omega) hkn
theorem rows_stage : rowsOf ((List.range n).map fun k => (List.range n).map (M k)) ((List.range n).map w) = stage n M w x 0 := by
  unfold rowsOf stage
  rw [List.zip_map', List.map_map]
  refine List.map_congr_left fun k _ => ?_
  show (List.range n).map (M k) ++ [w k] = stRow n M w x 0 k
  unfold stRow
  congr 1
  unfold stL
  rw [if_neg (Nat.not_lt_zero k)]
  congr 1
  show w k = w k - 0
  grind
theorem sol_stage (T : Tri n M w x) : ∀ t, t ≤ n → solTo (stage n M w x 0) t = stage n M w x t := by
  intro t
  induction t with
  | zero => intro _; rfl
  | succ t ih => intro h; show clearM (solTo (stage n M w x 0) t) t = _; rw [ih (by omega), clear_stage T (by omega)]
/-- the square, solved -/
theorem tri_solved (T : Tri n M w x) : SolOk ((List.range n).map fun k => (List.range n).map (M k)) ((List.range n).map w) ∧ solvedM ((List.range n).map fun k => (List.range n).map (M k)) ((List.range n).map w) = (List.range n).map x := by
  have n4 := T.n4
  have hl : ((List.range n).map fun k => (List.range n).map (M k)).length = n := by rw [List.length_map, List.length_range]
  refine ⟨⟨by rw [List.length_map, List.length_map], by omega, fun row hr => ?_, fun i hi => ?_, fun row hr => ?_⟩, ?_⟩
  · obtain ⟨k, _, rfl⟩ := List.mem_map.mp hr
    rw [List.length_map, List.length_range]; omega
  · rw [hl] at hi
    rw [rows_stage (x := x), sol_stage T i (by omega)]
    exact clrOk_stage T hi
  · rw [hl, rows_stage (x := x), sol_stage T n (Nat.le_refl n)] at hr
    obtain ⟨k, _, rfl⟩ := List.mem_map.mp hr
    intro z
    have := stRow_len (n := n) (M := M) (w := w) (x := x) (t := n) (k := k)
    rw [z] at this
    cases this
  · unfold solvedM
    rw [rows_stage (x := x), stage_len, sol_stage T n (Nat.le_refl n)]
    unfold stage
    rw [List.map_map]
    refine List.map_congr_left fun k hk => ?_
    show (stRow n M w x n k).getLastD 0 = x k
    unfold stRow stL
    rw [if_pos (List.mem_range.mp hk)]
    simp
end
end Tc
set_option Elab.async false
set_option linter.all false
set_option maxRecDepth 100000
set_option maxHeartbeats 4000000
set_option exponentiation.threshold 10000
namespace Tc
open PySem
/-! plain: long run, ages, means -/
def biA (d e : Nat → Rat) (i j : Nat) : Rat := if j = i then d i else if j = i + 1 then e i else 0
structure Bid (n D : Nat) (nm : Nat → Str) (rowf : Nat → AL Rat) (d e r b : Nat → Rat) : Prop where
  T : Tab n D nm rowf (biA d e)
  O : Out n (biA d e)
  dlt : ∀ i, i < n → d i < 1
  rS : Sml n D 512 r
  rp : ∀ i, i < n → 0 < r i
  bS : Sml n D 1024 b
  fix : ∀ j, j < n → r j = ledV n (biA d e) r j + b j
theorem bi_led {n : Nat} {d e v : Nat → Rat} {j : Nat} (hj : j < n) : ledV n (biA d e) v j = v j * d j + if 0 < j then v (j - 1) * e (j - 1) else 0 := by
  show rs n (fun i => v i * biA d e i j) = _
  have h1 : rs n (fun i => v i * biA d e i j) = rs n fun i => (if i = j then v j * d j else 0) + (if i + 1 = j then v (j - 1) * e (j - 1) else 0) := rs_congr fun i _ => by
    show v i * (if j = i then d i else if j = i + 1 then e i else 0) = _
    by_cases h : j = i
    · subst h
      rw [if_pos rfl, if_pos rfl, if_neg (by omega)]; grind
    · have h' : ¬ i = j := fun z => h z.symm
      rw [if_neg h, if_neg h']
      by_cases g : j = i + 1
      · subst g
        rw [if_pos rfl, if_pos rfl, Nat.add_sub_cancel]; grind
      · have g' : ¬ i + 1 = j := fun z => g z.symm
        rw [if_neg g, if_neg g']; grind
  rw [h1, rs_add, rs_one hj]
  congr 1
  by_cases h : 0 < j
  · rw [if_pos h]
    have h2 : (rs n fun i => if i + 1 = j then v (j - 1) * e (j - 1) else 0) = rs n fun i => if i = j - 1 then v (j - 1) * e (j - 1) else 0 := rs_congr fun i _ => by
      by_cases g : i + 1 = j
      · rw [if_pos g, if_pos (by omega)]
      · rw [if_neg g, if_neg (by omega)]
    rw [h2, rs_one (by omega)]
  · rw [if_neg h, rs_zero]
    intro i _
    rw [if_neg (by omega)]
section
variable {n D : Nat} {nm : Nat → Str} {rowf : Nat → AL Rat} {α : Nat → Nat → Rat}
theorem ledV_congr {v w : Nat → Rat} (h : ∀ i, i < n → v i = w i) (j : Nat) : ledV n α v j = ledV n α w j := rs_congr fun i hi => by rw [h i hi]
theorem ledV_add (v w : Nat → Rat) (j : Nat) : ledV n α (fun i => v i + w i) j = ledV n α v j + ledV n α w j := by
  show rs n (fun i => (v i + w i) * α i j) = rs n (fun i => v i * α i j) + rs n fun i => w i * α i j
  rw [← rs_add]
  exact rs_congr fun i _ => by grind
def sqM (α : Nat → Nat → Rat) (j i : Nat) : Rat := (if i = j then 1 else 0) - α i j
theorem square_eq (T : Tab n D nm rowf α) : squareM (tabOf n nm rowf) = (List.range n).map fun j => (List.range n).map (sqM α j) := by
  unfold squareM
  rw [tab_keys, List.map_map]
  refine List.map_congr_left fun j hj => ?_
  have hj := List.mem_range.mp hj
  show ((List.range n).map nm).map (fun name => (if name = nm j then (1 : Rat) else 0) - (aget ((aget (tabOf n nm rowf) name).getD []) (nm j)).getD 0) = _
  rw [List.map_map]
  refine List.map_congr_left fun i hi => ?_
  have hi := List.mem_range.mp hi
  show (if nm i = nm j then (1 : Rat) else 0) - (aget ((aget (tabOf n nm rowf) (nm i)).getD []) (nm j)).getD 0 = sqM α j i
  rw [tab_get T hi]
  show _ - (aget (rowf i) (nm j)).getD 0 = _
  rw [T.val i j hi hj]
  unfold sqM
  by_cases h : i = j
  · rw [if_pos h, if_pos (by rw [h])]
  · rw [if_neg h, if_neg fun z => h (T.inj i j hi hj z)]
theorem wanted_eq (T : Tab n D nm rowf α) {b : Nat → Rat} : wantedM (tabOf n nm rowf) (vec n nm b) = (List.range n).map b := by
  unfold wantedM
  rw [tab_keys, List.map_map]
  refine List.map_congr_left fun i hi => ?_
  show (aget (vec n nm b) (nm i)).getD 0 = b i
  rw [vec_get T.inj (List.mem_range.mp hi)]
  rfl
theorem mul_bd {m x : Rat} {B : Nat} (h1 : -1 ≤ m) (h2 : m ≤ 1) (h3 : 0 ≤ x) (h4 : x ≤ (B : Rat)) : -(B : Rat) ≤ m * x ∧ m * x ≤ (B : Rat) := by
  have a := Rat.mul_le_mul_of_nonneg_right h1 h3
  have b := Rat.mul_le_mul_of_nonneg_right h2 h3
  constructor <;> grind
theorem sq_bd (T : Tab n D nm rowf α) {j i : Nat} (hj : j < n) (hi : i < n) : -1 ≤ sqM α j i ∧ sqM α j i ≤ 1 ∧ InZ D (sqM α j i) := by
  have h1 := T.nn i j hi hj
  have h2 := T.le i j hi hj
  unfold sqM
  refine ⟨?_, ?_, (?_ : InZ D (if i = j then (1 : Rat) else 0)).sub (T.inz i j hi hj)⟩
  · split <;> grind
  · split <;> grind
  · split
    · exact inz_one D
    · exact inz_zero D
theorem rs_bd {n : Nat} {f : Nat → Rat} {B : Nat} (h : ∀ i, i < n → -(B : Rat) ≤ f i ∧ f i ≤ (B : Rat)) : -((n * B : Nat) : Rat) ≤ rs n f ∧ rs n f ≤ ((n * B : Nat) : Rat) := by
  induction n with
  | zero =>
    rw [Nat.zero_mul]
    show -((0 : Nat) : Rat) ≤ 0 ∧ (0 : Rat) ≤ ((0 : Nat) : Rat)
    exact ⟨by decide, by decide⟩
  | succ n ih =>
    have h1 := ih fun i hi => h i (by omega)
    have h2 := h n (by omega)
    rw [Nat.succ_mul, Rat.natCast_add]
    show -(((n * B : Nat) : Rat) + (B : Rat)) ≤ rs n f + f n ∧ rs n f + f n ≤ ((n * B : Nat) : Rat) + (B : Rat)
    constructor <;> grind
/-- left_by, when x solves it -/
theorem lb_vec (T : Tab n D nm rowf α) (up : ∀ i j, i < n → j < n → j < i → α i j = 0) (dl : ∀ i, i < n → α i i < 1) {b x : Nat → Rat} {E B : Nat} (S : Sml n E B x) (hE : E < 2 ^ 1000) (hB : B < 2 ^ 400) (sol : ∀ j, j < n → x j = ledV n α x j + b j) :
    LbOk (tabOf n nm rowf) (vec n nm b) ∧ leftBy (tabOf n nm rowf) (vec n nm b) = vec n nm x := by
  have n4 := T.n4
  have hDE : D * E < 2 ^ 1050 := Nat.lt_of_lt_of_le (Nat.mul_lt_mul_of_lt_of_le T.Db (Nat.le_of_lt hE) (by decide +kernel)) (by decide +kernel)
  have hDEp : 0 < D * E := Nat.mul_pos T.Dp S.Ep
  have big : ∀ {F C : Nat}, F < 2 ^ 1050 → C ≤ 2 ^ 404 → C * F < 2 ^ 2000 := fun {F C} h1 h2 => Nat.lt_of_le_of_lt (Nat.mul_le_mul h2 (Nat.le_of_lt h1)) (by decide +kernel)
  have sm : ∀ {F : Nat}, F < 2 ^ 1050 → F < 2 ^ 2000 := fun h => Nat.lt_of_lt_of_le h (by decide +kernel)
  have hterm : ∀ k i, k < n → i < n → (-(B : Rat) ≤ sqM α k i * x i ∧ sqM α k i * x i ≤ (B : Rat)) ∧ InZ (D * E) (sqM α k i * x i) := fun k i hk hi => by
    have h := sq_bd T hk hi
    exact ⟨mul_bd h.1 h.2.1 (S.nn i hi) (S.le i hi), h.2.2.mul (S.inz i hi)⟩
  have hsol : ∀ k, k < n → b k = rs n fun i => sqM α k i * x i := fun k hk => by
    have h1 : (rs n fun i => sqM α k i * x i) = rs n fun i => (if i = k then x k else 0) - x i * α i k := rs_congr fun i _ => by
      unfold sqM
      by_cases h : i = k
      · rw [if_pos h, if_pos h, h]; grind
      · rw [if_neg h, if_neg h]; grind
    rw [h1, rs_sub, rs_one hk]
    have h2 := sol k hk
    have h3 : ledV n α x k = rs n fun i => x i * α i k := rfl
    rw [h3] at h2
    grind
  have tri : Tri n (sqM α) b x := by
    refine ⟨by omega, fun k c hk hc hkc => ?_, fun k hk => ?_, hsol, fun k c hk hc => ?_, fun k hk => ?_, fun k c hk hc => ?_, fun t k ht hk => ?_⟩
    · unfold sqM
      rw [if_neg (by omega), up c k hc hk hkc]
      grind
    · unfold sqM
      rw [if_pos rfl]
      have := dl k hk
      grind
    · have h := sq_bd T hk hc
      exact ok_of (B := 1) T.Dp h.2.2 h.1 h.2.1 (Nat.lt_of_lt_of_le (by rw [Nat.one_mul]; exact T.Db) (by decide +kernel)) (Nat.lt_of_lt_of_le T.Db (by decide +kernel))
    · exact ok_of S.Ep (S.inz k hk) (neg_le_nn (S.nn k hk)) (S.le k hk) (big (Nat.lt_of_lt_of_le hE (by decide +kernel)) (Nat.le_of_lt (Nat.lt_of_lt_of_le hB (by decide +kernel)))) (sm (Nat.lt_of_lt_of_le hE (by decide +kernel)))
    · have h := hterm k c hk hc
      exact ok_of hDEp h.2 h.1.1 h.1.2 (big hDE (Nat.le_of_lt (Nat.lt_of_lt_of_le hB (by decide +kernel)))) (sm hDE)
    · rw [hsol k hk]
      have h1 := rs_bd (n := n) (f := fun i => sqM α k i * x i) fun i hi => (hterm k i hk hi).1
      have h2 := rs_bd (n := t) (f := fun i => sqM α k i * x i) fun i hi => (hterm k i hk (by omega)).1
      have b1 : ((n * B : Nat) : Rat) ≤ ((4 * B : Nat) : Rat) := natCast_le (Nat.mul_le_mul_right _ n4)
      have b2 : ((t * B : Nat) : Rat) ≤ ((4 * B : Nat) : Rat) := natCast_le (Nat.mul_le_mul_right _ (by omega))
      have e : ((8 * B : Nat) : Rat) = ((4 * B : Nat) : Rat) + ((4 * B : Nat) : Rat) := by rw [← Rat.natCast_add]; congr 1; omega
      refine ok_of (B := 8 * B) hDEp ((rs_inz fun i hi => (hterm k i hk hi).2).sub (rs_inz fun i hi => (hterm k i hk (by omega)).2)) ?_ ?_ (big hDE (Nat.le_trans (Nat.mul_le_mul_left 8 (Nat.le_of_lt hB)) (by decide +kernel))) (sm hDE)
      · rw [e]; grind
      · rw [e]; grind
  obtain ⟨s1, s2⟩ := tri_solved tri
  refine ⟨⟨tab_nd T, by rw [tab_len]; omega, fun k hk => ?_, fun row hr q hq => ?_, ?_⟩, ?_⟩
  · rw [tab_keys] at hk
    obtain ⟨i, hi, rfl⟩ := List.mem_map.mp hk
    rw [vec_get T.inj (List.mem_range.mp hi)]; rfl
  · rw [square_eq T] at hr
    obtain ⟨j, hj, rfl⟩ := List.mem_map.mp hr
    obtain ⟨i, hi, rfl⟩ := List.mem_map.mp hq
    exact tri.okM j i (List.mem_range.mp hj) (List.mem_range.mp hi)
  · rw [square_eq T, wanted_eq T]; exact s1
  · unfold leftBy
    rw [square_eq T, wanted_eq T, s2, tab_keys, List.zip_map']
    rfl
/-! ages -/
theorem addAll_vec (T : Tab n D nm rowf α) {f g : Nat → Rat} : ∀ j, j ≤ n → addAll (vec n nm f) (vec n nm g) (((List.range n).map nm).take j) = vec n nm fun i => if i < j then f i + g i else f i := by
  intro j
  induction j with
  | zero => intro _; exact vec_ext fun i _ => by rw [if_neg (Nat.not_lt_zero i)]
  | succ j ih =>
    intro hj
    have hj' : j < n := by omega
    have hix : ((List.range n).map nm)[j]? = some (nm j) := by rw [List.getElem?_map, List.getElem?_range hj']; rfl
    have ih := ih (by omega)
    unfold addAll at ih ⊢
    rw [fold_snoc hix, ih, vec_get T.inj hj', vec_get T.inj hj', vec_put T.inj hj']
    refine vec_ext fun i _ => ?_
    show (if i = j then (if j < j then f j + g j else f j) + g j else if i < j then f i + g i else f i) = _
    by_cases h : i = j
    · subst h
      rw [if_pos rfl, if_neg (Nat.lt_irrefl i), if_pos (Nat.lt_succ_self i)]
    · rw [if_neg h]
      by_cases l : i < j
      · rw [if_pos l, if_pos (by omega)]
      · rw [if_neg l, if_neg (by omega)]
def agV (n : Nat) (α : Nat → Nat → Rat) (r b : Nat → Rat) (many k : Nat) : Nat → Rat := fun j => ledK n α r many j + rs k fun i => ledK n α b i j
theorem ages_vec (T : Tab n D nm rowf α) {r b : Nat → Rat} {many : Nat} : ∀ k, agesTo (tabOf n nm rowf) (vec n nm b) (vec n nm r) many k = vec n nm (agV n α r b many k) := by
  intro k
  induction k with
  | zero =>
    show ledN _ _ many = _
    rw [ledN_vec T]
    exact vec_ext fun j _ => by show ledK n α r many j = ledK n α r many j + 0; grind
  | succ k ih =>
    show addAll (agesTo _ _ _ many k) (ledN _ _ k) ((vec n nm r).map fun p => p.1) = _
    rw [ih, ledN_vec T, vec_keys]
    have h := addAll_vec T (f := agV n α r b many k) (g := ledK n α b k) n (Nat.le_refl n)
    rw [List.take_of_length_le (by rw [List.length_map, List.length_range]; exact Nat.le_refl n)] at h
    rw [h]
    refine vec_ext fun j hj => ?_
    rw [if_pos hj]
    show ledK n α r many j + rs k (fun i => ledK n α b i j) + ledK n α b k j = ledK n α r many j + (rs k (fun i => ledK n α b i j) + ledK n α b k j)
    grind
theorem led_tele {r b : Nat → Rat} (fix : ∀ j, j < n → r j = ledV n α r j + b j) : ∀ m j, j < n → ledK n α r m j = ledK n α r (m + 1) j + ledK n α b m j := by
  intro m
  induction m with
  | zero => intro j hj; exact fix j hj
  | succ m ih =>
    intro j hj
    show ledV n α (ledK n α r m) j = ledV n α (ledK n α r (m + 1)) j + ledV n α (ledK n α b m) j
    rw [← ledV_add]
    exact ledV_congr ih j
theorem ages_sum {r b : Nat → Rat} (fix : ∀ j, j < n → r j = ledV n α r j + b j) : ∀ m j, j < n → ledK n α r m j + rs m (fun i => ledK n α b i j) = r j := by
  intro m
  induction m with
  | zero => intro j hj; show r j + 0 = r j; grind
  | succ m ih =>
    intro j hj
    have h1 := ih j hj
    have h2 := led_tele fix m j hj
    show ledK n α r (m + 1) j + (rs m (fun i => ledK n α b i j) + ledK n α b m j) = r j
    grind
end
end Tc
set_option Elab.async false
set_option linter.all false
set_option maxRecDepth 100000
set_option maxHeartbeats 4000000
set_option exponentiation.threshold 10000
namespace Tc
open PySem
/-! plain: what a bidiagonal table with its fixed point gives -/
/-- what the text's reckonings ask of house and steps -/
structure Hs (house : List Pl) (steps : List Stp) : Prop where
  tab : OkTab house steps
  nd : (casksM house).Nodup
  len : (casksM house).length < 60
  no : NoClosed house steps
  bto : OkBto house steps
section
variable {n D : Nat} {nm : Nat → Str} {rowf : Nat → AL Rat} {d e r b : Nat → Rat}
theorem bi_up {i j : Nat} (h : j < i) : biA d e i j = 0 := by unfold biA; rw [if_neg (by omega), if_neg (by omega)]
theorem bi_dd (i : Nat) : biA d e i i = d i := by unfold biA; rw [if_pos rfl]
theorem bi_ee (i : Nat) : biA d e i (i + 1) = e i := by unfold biA; rw [if_neg (by omega), if_pos rfl]
theorem bid_lb (B : Bid n D nm rowf d e r b) : LbOk (tabOf n nm rowf) (vec n nm b) ∧ leftBy (tabOf n nm rowf) (vec n nm b) = vec n nm r :=
  lb_vec B.T (fun i j _ _ h => bi_up h) (fun i hi => by rw [bi_dd]; exact B.dlt i hi) B.rS (Nat.lt_trans B.T.Db (by decide +kernel)) (by decide +kernel) B.fix
theorem dvd_pow {D a c : Nat} (h : a ≤ c) : D ^ a ∣ D ^ c := Nat.pow_dvd_pow D h
theorem bid_ar (B : Bid n D nm rowf d e r b) {house : List Pl} {steps : List Stp} (hs : Hs house steps) (hA : ctabM house steps = tabOf n nm rowf) (hb : btoM house steps = vec n nm b) {many : Nat} (hm : many ≤ 4) : ArOk house steps (vec n nm r) many := by
  have T := B.T
  have n4 := T.n4
  have hD3 : D < 2 ^ 300 := Nat.lt_trans T.Db (by decide +kernel)
  refine ⟨⟨hs.tab, hs.nd, hs.len, hs.no, hs.bto, by omega, fun i hi => ?_⟩, fun i hi => ?_, vec_nd T.inj, by rw [vec_len]; omega, fun i hi j k hk => ?_, ?_, fun p hp => ?_⟩
  · rw [hA, hb]
    exact ledOk_K T B.bS hD3 (by decide +kernel) (by omega)
  · rw [hA]
    exact ledOk_K T B.rS hD3 (by decide +kernel) (by omega)
  · rw [hA, hb, ages_vec T, ledN_vec T]
    rw [vec_keys] at hk ⊢
    have hj : j < n := by
      have := (List.getElem?_eq_some_iff.mp hk).1
      rw [List.length_map, List.length_range] at this
      exact this
    rw [List.getElem?_map, List.getElem?_range hj] at hk
    cases hk
    rw [addAll_vec T j (by omega)]
    refine ⟨agV n (biA d e) r b many i j, ledK n (biA d e) b i j, ?_, vec_get T.inj hj, ?_⟩
    · show aget _ (nm j) = _
      rw [vec_get T.inj hj, if_neg (Nat.lt_irrefl j)]
    · have Sr := sml_ledK T B.rS many
      have Sb := fun m => sml_ledK T B.bS m
      have D5 : D * D ^ 4 ≤ 2 ^ 250 := by rw [Nat.mul_comm, ← Nat.pow_succ]; exact Dpow T (by decide)
      have D5p : 0 < D * D ^ 4 := Nat.mul_pos T.Dp (Nat.pow_pos T.Dp)
      have dv : ∀ m, m ≤ 4 → D * D ^ m ∣ D * D ^ 4 := fun m h => Nat.mul_dvd_mul_left D (dvd_pow h)
      have p4 : ∀ m, m ≤ 4 → 4 ^ m ≤ 256 := fun m h => Nat.le_trans (Nat.pow_le_pow_right (by decide) h) (by decide)
      have eag : agV n (biA d e) r b many i j + ledK n (biA d e) b i j = ledK n (biA d e) r many j + rs (i + 1) fun m => ledK n (biA d e) b m j := by
        show ledK n (biA d e) r many j + rs i (fun m => ledK n (biA d e) b m j) + ledK n (biA d e) b i j = ledK n (biA d e) r many j + (rs i (fun m => ledK n (biA d e) b m j) + ledK n (biA d e) b i j)
        grind
      rw [eag]
      have nnb : 0 ≤ rs (i + 1) fun m => ledK n (biA d e) b m j := rs_nn fun m hm' => (Sb m).nn j hj
      have leb : rs (i + 1) (fun m => ledK n (biA d e) b m j) ≤ ((4 * 262144 : Nat) : Rat) := by
        refine Rat.le_trans (rs_le (g := fun _ => ((262144 : Nat) : Rat)) fun m hm' => Rat.le_trans ((Sb m).le j hj) (natCast_le ?_)) ?_
        · have := p4 m (by omega)
          omega
        · rw [rs_const, ← Rat.natCast_mul]
          exact natCast_le (Nat.mul_le_mul_right _ (by omega))
      have nnr := Sr.nn j hj
      have ler : ledK n (biA d e) r many j ≤ ((131072 : Nat) : Rat) := Rat.le_trans (Sr.le j hj) (natCast_le (by have := p4 many hm; omega))
      refine ok_of (B := 131072 + 4 * 262144) D5p (((Sr.inz j hj).mono (dv many hm)).add (rs_inz fun m hm' => ((Sb m).inz j hj).mono (dv m (by omega)))) (neg_le_nn (by grind)) ?_ (Nat.lt_of_le_of_lt (Nat.mul_le_mul_left _ D5) (by decide +kernel)) (Nat.lt_of_le_of_lt D5 (by decide +kernel))
      rw [Rat.natCast_add]
      grind
  · rw [hA, hb, ages_vec T, vec_len, vec_len]
  · rw [hA, hb, ages_vec T] at hp
    have e : vec n nm (agV n (biA d e) r b many many) = vec n nm r := vec_ext fun j hj => ages_sum B.fix many j hj
    rw [e] at hp
    exact aget_of_nd (vec_nd T.inj) hp
/-! the middle -/
def yv (d e w : Nat → Rat) : Nat → Rat
  | 0 => w 0 / (1 - d 0)
  | j + 1 => (w (j + 1) + yv d e w j * e j) / (1 - d (j + 1))
theorem yv_eq (w : Nat → Rat) (k : Nat) : yv d e w k = (w k + if 0 < k then yv d e w (k - 1) * e (k - 1) else 0) / (1 - d k) := by
  cases k with
  | zero =>
    rw [if_neg (by decide)]
    show w 0 / (1 - d 0) = _
    congr 1
    grind
  | succ k => rw [if_pos (Nat.succ_pos k)]; rfl
theorem frac_z {D : Nat} {q : Rat} (hz : InZ D q) (hp : 0 < q) (hD : 0 < D) : ∃ z : Nat, 0 < z ∧ q * (D : Rat) = (z : Rat) := by
  obtain ⟨z, hz⟩ := hz
  have h1 : (0 : Rat) < (z : Rat) := by rw [← hz]; exact Rat.mul_pos hp (Rat.natCast_pos.mpr hD)
  have h2 : 0 < z := Rat.intCast_pos.mp h1
  refine ⟨z.toNat, by omega, ?_⟩
  rw [hz, ← Rat.intCast_natCast, Int.toNat_of_nonneg (by omega)]
theorem y_upto (B : Bid n D nm rowf d e r b) : ∀ k, k ≤ n → ∃ E, 0 < E ∧ E ≤ D ^ (3 * k) ∧ ∀ j, j < k → InZ E (yv d e (ledV n (biA d e) r) j) ∧ 0 ≤ yv d e (ledV n (biA d e) r) j ∧ yv d e (ledV n (biA d e) r) j ≤ ((4096 * (2 * D) ^ k : Nat) : Rat) := by
  have T := B.T
  have Sw := sml_led T B.rS
  have Dp := T.Dp
  intro k
  induction k with
  | zero => intro _; exact ⟨1, by decide, Nat.le_refl 1, fun j hj => absurd hj (Nat.not_lt_zero j)⟩
  | succ k ih =>
    intro hk
    have hk' : k < n := by omega
    obtain ⟨E, Ep, Eb, hE⟩ := ih (by omega)
    obtain ⟨w, hw⟩ : ∃ w, ledV n (biA d e) r = w := ⟨_, rfl⟩
    rw [hw] at Sw hE ⊢
    obtain ⟨q, hq⟩ : ∃ q, (w k + if 0 < k then yv d e w (k - 1) * e (k - 1) else 0) = q := ⟨_, rfl⟩
    have hy : yv d e w k = q / (1 - d k) := by rw [yv_eq, hq]
    have hd1 := B.dlt k hk'
    have dz : InZ D (1 - d k) := by
      have := T.inz k k hk' hk'
      rw [bi_dd] at this
      exact (inz_one D).sub this
    obtain ⟨z, zp, hz⟩ := frac_z dz (by grind) Dp
    have hd0 : 0 ≤ d k := by have := T.nn k k hk' hk'; rw [bi_dd] at this; exact this
    have zle : z ≤ D := by
      have h1 : (z : Rat) ≤ (D : Rat) := by
        rw [← hz]
        have h2 := Rat.mul_le_mul_of_nonneg_right (show 1 - d k ≤ 1 by grind) (Rat.natCast_nonneg (a := D))
        grind
      exact Rat.natCast_le_natCast.mp h1
    -- the sum
    have hBk : (2048 : Nat) ≤ 4096 * (2 * D) ^ k := by
      have : 0 < (2 * D) ^ k := Nat.pow_pos (by omega)
      omega
    have hq3 : InZ (D * D * E) q ∧ 0 ≤ q ∧ q ≤ ((2048 : Nat) : Rat) + ((4096 * (2 * D) ^ k : Nat) : Rat) := by
      have w1 := Sw.nn k hk'
      have w2 : w k ≤ ((2048 : Nat) : Rat) := Sw.le k hk'
      have w3 : InZ (D * D * E) (w k) := (Sw.inz k hk').mono ⟨E, rfl⟩
      rw [← hq]
      by_cases h0 : 0 < k
      · rw [if_pos h0]
        have hkk : k - 1 + 1 = k := by omega
        have ee : biA d e (k - 1) k = e (k - 1) := by
          have := bi_ee (d := d) (e := e) (k - 1)
          rw [hkk] at this
          exact this
        have e1 := T.nn (k - 1) k (by omega) hk'
        have e2 := T.le (k - 1) k (by omega) hk'
        have e3 := T.inz (k - 1) k (by omega) hk'
        rw [ee] at e1 e2 e3
        obtain ⟨y1, y2, y3⟩ := hE (k - 1) (by omega)
        have m1 := Rat.mul_nonneg y2 e1
        have m2 := mul_le1 y2 y3 e1 e2
        refine ⟨w3.add ((y1.mul e3).mono ⟨D, by grind⟩), by grind, by grind⟩
      · rw [if_neg h0]
        have := Rat.natCast_nonneg (a := 4096 * (2 * D) ^ k)
        refine ⟨w3.add (inz_zero _), by grind, by grind⟩
    obtain ⟨q1, q2, q3⟩ := hq3
    have dne : 0 < 1 - d k := by grind
    have yd : yv d e w k * (1 - d k) = q := by rw [hy]; grind
    have ynn : 0 ≤ yv d e w k := by
      rw [hy, Rat.div_def]
      exact Rat.mul_nonneg q2 (Rat.le_of_lt (Rat.inv_pos.mpr dne))
    have yle : yv d e w k ≤ ((4096 * (2 * D) ^ (k + 1) : Nat) : Rat) := by
      have h1 : (1 : Rat) ≤ (1 - d k) * (D : Rat) := by
        rw [hz]
        exact natCast_le (a := 1) zp
      have h2 := Rat.mul_le_mul_of_nonneg_left h1 ynn
      have h3 : yv d e w k * ((1 - d k) * (D : Rat)) = q * (D : Rat) := by rw [← yd]; grind
      have h4 := Rat.mul_le_mul_of_nonneg_right q3 (Rat.natCast_nonneg (a := D))
      have h5 : (((2048 : Nat) : Rat) + ((4096 * (2 * D) ^ k : Nat) : Rat)) * (D : Rat) ≤ ((4096 * (2 * D) ^ (k + 1) : Nat) : Rat) := by
        rw [← Rat.natCast_add, ← Rat.natCast_mul]
        refine natCast_le ?_
        rw [Nat.pow_succ, ← Nat.mul_assoc, ← Nat.mul_assoc]
        generalize 4096 * (2 * D) ^ k = m at hBk ⊢
        exact Nat.mul_le_mul_right D (by omega)
      grind
    have mono : ((4096 * (2 * D) ^ k : Nat) : Rat) ≤ ((4096 * (2 * D) ^ (k + 1) : Nat) : Rat) := natCast_le (Nat.mul_le_mul_left _ (Nat.pow_le_pow_right (by omega) (by omega)))
    refine ⟨D * D * E * z, Nat.mul_pos (Nat.mul_pos (Nat.mul_pos Dp Dp) Ep) zp, ?_, fun j hj => ?_⟩
    · have h1 : D * D * E * z ≤ D * D * D ^ (3 * k) * D := Nat.mul_le_mul (Nat.mul_le_mul_left _ Eb) zle
      have h2 : D * D * D ^ (3 * k) * D = D ^ (3 * (k + 1)) := by
        rw [show 3 * (k + 1) = 3 * k + 1 + 1 + 1 by omega, Nat.pow_succ, Nat.pow_succ, Nat.pow_succ]
        grind
      rw [← h2]; exact h1
    · by_cases hjk : j = k
      · subst hjk
        refine ⟨?_, ynn, yle⟩
        obtain ⟨m, hm⟩ := q1
        refine ⟨m * D, ?_⟩
        rw [Rat.intCast_mul, Rat.intCast_natCast, ← hm, Rat.natCast_mul, ← yd, ← hz]
        grind
      · obtain ⟨a1, a2, a3⟩ := hE j (by omega)
        exact ⟨a1.mono ⟨D * D * z, by grind⟩, a2, Rat.le_trans a3 mono⟩
theorem y_ok (B : Bid n D nm rowf d e r b) : ∃ E, E < 2 ^ 700 ∧ Sml n E (2 ^ 220) (yv d e (ledV n (biA d e) r)) ∧ ∀ j, j < n → yv d e (ledV n (biA d e) r) j = ledV n (biA d e) (yv d e (ledV n (biA d e) r)) j + ledV n (biA d e) r j := by
  have T := B.T
  have n4 := T.n4
  obtain ⟨E, Ep, Eb, hE⟩ := y_upto B n (Nat.le_refl n)
  have hb : 4096 * (2 * D) ^ n ≤ 2 ^ 220 := by
    have h1 : (2 * D) ^ n ≤ (2 * D) ^ 4 := Nat.pow_le_pow_right (by have := T.Dp; omega) n4
    have h2 : (2 * D) ^ 4 ≤ (2 * 2 ^ 50) ^ 4 := Nat.pow_le_pow_left (Nat.mul_le_mul_left 2 (Nat.le_of_lt T.Db)) 4
    exact Nat.le_trans (Nat.mul_le_mul_left _ (Nat.le_trans h1 h2)) (by decide +kernel)
  refine ⟨E, ?_, ⟨fun i hi => (hE i hi).2.1, fun i hi => Rat.le_trans (hE i hi).2.2 (natCast_le hb), fun i hi => (hE i hi).1, Ep⟩, fun j hj => ?_⟩
  · have h1 : D ^ (3 * n) ≤ (2 ^ 50) ^ 12 := Nat.le_trans (Nat.pow_le_pow_right T.Dp (by omega)) (Nat.pow_le_pow_left (Nat.le_of_lt T.Db) 12)
    exact Nat.lt_of_le_of_lt (Nat.le_trans Eb h1) (by decide +kernel)
  · rw [bi_led hj]
    have h := yv_eq (d := d) (e := e) (ledV n (biA d e) r) j
    have hd1 := B.dlt j hj
    generalize (if 0 < j then yv d e (ledV n (biA d e) r) (j - 1) * e (j - 1) else 0) = s at h ⊢
    generalize yv d e (ledV n (biA d e) r) j = y at h ⊢
    generalize ledV n (biA d e) r j = w at h ⊢
    have : y * (1 - d j) = w + s := by rw [h]; grind
    grind
theorem bid_ma (B : Bid n D nm rowf d e r b) {house : List Pl} {steps : List Stp} (hs : Hs house steps) (hA : ctabM house steps = tabOf n nm rowf) (hb : btoM house steps = vec n nm b) : MrOk house steps (vec n nm r) := by
  have T := B.T
  have n4 := T.n4
  obtain ⟨lb1, el1⟩ := bid_lb B
  obtain ⟨E, hE, S, hy⟩ := y_ok B
  generalize yv d e (ledV n (biA d e) r) = y at S hy
  obtain ⟨lb2, el2⟩ := lb_vec T (fun i j _ _ h => bi_up h) (fun i hi => by rw [bi_dd]; exact B.dlt i hi) S (Nat.lt_trans hE (by decide +kernel)) (by decide +kernel) hy
  have hD3 : D < 2 ^ 300 := Nat.lt_trans T.Db (by decide +kernel)
  have led1 : LedOk (tabOf n nm rowf) (vec n nm r) := ledOk_K T B.rS hD3 (by decide +kernel) (k := 0) (by decide)
  -- the quotient
  have okq : ∀ j, j < n → Ok (y j / r j) := fun j hj => by
    obtain ⟨z, zp, hz⟩ := frac_z (B.rS.inz j hj) (B.rp j hj) T.Dp
    have rp := B.rp j hj
    have zle : z ≤ 512 * D := by
      have h1 : (z : Rat) ≤ ((512 * D : Nat) : Rat) := by
        rw [← hz, Rat.natCast_mul]
        exact Rat.mul_le_mul_of_nonneg_right (B.rS.le j hj) (Rat.natCast_nonneg (a := D))
      exact Rat.natCast_le_natCast.mp h1
    obtain ⟨q, hq⟩ : ∃ q, y j / r j = q := ⟨_, rfl⟩
    have qr : q * r j = y j := by rw [← hq]; grind
    have qnn : 0 ≤ q := by rw [← hq, Rat.div_def]; exact Rat.mul_nonneg (S.nn j hj) (Rat.le_of_lt (Rat.inv_pos.mpr rp))
    have qin : InZ (E * z) q := by
      obtain ⟨m, hm⟩ := S.inz j hj
      refine ⟨m * D, ?_⟩
      rw [Rat.intCast_mul, Rat.intCast_natCast, ← hm, Rat.natCast_mul, ← qr, ← hz]
      grind
    have qle : q ≤ ((2 ^ 220 * D : Nat) : Rat) := by
      have h1 : (1 : Rat) ≤ r j * (D : Rat) := by rw [hz]; exact natCast_le (a := 1) zp
      have h2 := Rat.mul_le_mul_of_nonneg_left h1 qnn
      have h3 : q * (r j * (D : Rat)) = y j * (D : Rat) := by rw [← qr]; grind
      have h4 := Rat.mul_le_mul_of_nonneg_right (S.le j hj) (Rat.natCast_nonneg (a := D))
      rw [Rat.natCast_mul]
      grind
    rw [hq]
    have hEz : E * z ≤ 2 ^ 700 * (512 * 2 ^ 50) := Nat.mul_le_mul (Nat.le_of_lt hE) (Nat.le_trans zle (Nat.mul_le_mul_left _ (Nat.le_of_lt T.Db)))
    have hBD : 2 ^ 220 * D ≤ 2 ^ 220 * 2 ^ 50 := Nat.mul_le_mul_left _ (Nat.le_of_lt T.Db)
    exact ok_of (Nat.mul_pos S.Ep zp) qin (neg_le_nn qnn) qle (Nat.lt_of_le_of_lt (Nat.mul_le_mul hBD hEz) (by decide +kernel)) (Nat.lt_of_le_of_lt hEz (by decide +kernel))
  have ma : MaOk house steps := by
    refine ⟨hs.tab, hs.nd, hs.len, hs.no, hs.bto, ?_, ?_, ?_, fun p hp => ?_, ?_, ?_⟩
    · rw [hA, hb]; exact lb1
    · rw [hA, hb, el1]; exact led1
    · rw [hA, hb, el1, led_vec T]; exact lb2
    · rw [hA, hb, el1] at hp
      rw [hA, hb, el1, led_vec T, el2]
      obtain ⟨j, hj, rfl⟩ := List.mem_map.mp hp
      have hj := List.mem_range.mp hj
      exact ⟨B.rp j hj, y j, vec_get T.inj hj, okq j hj⟩
    · rw [hA, hb, el1]; exact vec_nd T.inj
    · rw [hA, hb, el1, vec_len]; omega
  have hmids : midsM (ctabM house steps) (btoM house steps) = vec n nm fun j => y j / r j := by
    unfold midsM
    rw [hA, hb, el1, led_vec T, el2]
    show ((List.range n).map fun j => (nm j, r j)).map _ = _
    rw [List.map_map]
    refine List.map_congr_left fun j hj => ?_
    show (nm j, (aget (vec n nm y) (nm j)).getD 0 / r j) = (nm j, y j / r j)
    rw [vec_get T.inj (List.mem_range.mp hj)]
    rfl
  have hq : ∀ j, j < n → y j / r j * r j = y j := fun j hj => by have := B.rp j hj; grind
  have holder : olderM (vec n nm fun j => y j / r j) (vec n nm r) = vec n nm fun j => y j + r j := by
    unfold olderM
    show ((List.range n).map fun j => (nm j, r j)).map _ = _
    rw [List.map_map]
    refine List.map_congr_left fun j hj => ?_
    have hj := List.mem_range.mp hj
    show (nm j, (aget (vec n nm fun j => y j / r j) (nm j)).getD 0 * r j + r j) = (nm j, y j + r j)
    rw [vec_get T.inj hj]
    show (nm j, y j / r j * r j + r j) = _
    rw [hq j hj]
  have hDE : E * D ≤ 2 ^ 750 := Nat.le_trans (Nat.mul_le_mul (Nat.le_of_lt hE) (Nat.le_of_lt T.Db)) (by decide +kernel)
  have Sy : Sml n (E * D) (2 ^ 220 + 512) fun j => y j + r j := by
    refine ⟨fun i hi => ?_, fun i hi => ?_, fun i hi => ((S.inz i hi).mono ⟨D, rfl⟩).add ((B.rS.inz i hi).mono ⟨E, Nat.mul_comm _ _⟩), Nat.mul_pos S.Ep T.Dp⟩
    · have := S.nn i hi
      have := B.rS.nn i hi
      grind
    · have h1 := S.le i hi
      have h2 := B.rS.le i hi
      rw [Rat.natCast_add]
      grind
  have oky : ∀ j, j < n → Ok (y j) := fun j hj => ok_of S.Ep (S.inz j hj) (neg_le_nn (S.nn j hj)) (S.le j hj) (Nat.lt_of_le_of_lt (Nat.mul_le_mul_left _ (Nat.le_of_lt hE)) (by decide +kernel)) (Nat.lt_trans hE (by decide +kernel))
  have okyr : ∀ j, j < n → Ok (y j + r j) := fun j hj => ok_of Sy.Ep (Sy.inz j hj) (neg_le_nn (Sy.nn j hj)) (Sy.le j hj) (Nat.lt_of_le_of_lt (Nat.mul_le_mul_left _ hDE) (by decide +kernel)) (Nat.lt_of_le_of_lt hDE (by decide +kernel))
  refine ⟨ma, vec_nd T.inj, by rw [vec_len]; omega, fun p hp => ?_, ?_, fun p hp => ?_⟩
  · rw [hmids]
    obtain ⟨j, hj, rfl⟩ := List.mem_map.mp hp
    have hj := List.mem_range.mp hj
    refine ⟨y j / r j, vec_get T.inj hj, ?_, ?_⟩
    · show Ok (y j / r j * r j)
      rw [hq j hj]; exact oky j hj
    · show Ok (y j / r j * r j + r j)
      rw [hq j hj]; exact okyr j hj
  · rw [hmids, holder, hA]
    have h4 : E * D * D ≤ 2 ^ 800 := Nat.le_trans (Nat.mul_le_mul hDE (Nat.le_of_lt T.Db)) (by decide +kernel)
    exact ledOk_vec T Sy (Nat.lt_of_le_of_lt (Nat.mul_le_mul_left _ h4) (by decide +kernel)) (Nat.lt_of_le_of_lt h4 (by decide +kernel))
  · rw [hmids, holder, hA, led_vec T]
    obtain ⟨j, hj, rfl⟩ := List.mem_map.mp hp
    have hj := List.mem_range.mp hj
    refine ⟨y j / r j, vec_get T.inj hj, ?_⟩
    show aget (vec n nm _) (nm j) = some (y j / r j * r j)
    rw [vec_get T.inj hj, hq j hj, ledV_add]
    congr 1
    exact (hy j hj).symm
end
end Tc
set_option Elab.async false
set_option linter.all false
set_option maxRecDepth 100000
set_option maxHeartbeats 4000000
set_option exponentiation.threshold 10000
namespace Tc
open PySem
/-! plain: steps by places -/
structure Rep (N : Nat) (nm : Nat → Str) (F B : Nat) (m : AL Rat) (f : Nat → Rat) : Prop where
  nd : (m.map fun p => p.1).Nodup
  mem : ∀ r ∈ m, ∃ j, j < N ∧ r.1 = nm j
  get : ∀ j, j < N → aget m (nm j) = if f j = 0 then none else some (f j)
  nn : ∀ j, j < N → 0 ≤ f j
  le : ∀ j, j < N → f j ≤ (B : Rat)
  inz : ∀ j, j < N → InZ F (f j)
def stI (f : Nat → Rat) (x y : Nat) (s : Rat) : Nat → Rat := fun z => f z - (if z = x then f x * s else 0) + (if z = y then f x * s else 0)
theorem aput_nd {α : Type} {m : AL α} {k : Str} {x : α} (nd : (m.map fun p => p.1).Nodup) : ((aput m k x).map fun p => p.1).Nodup := by
  by_cases h : k ∈ m.map (fun p => p.1)
  · have e : (aput m k x).map (fun p => p.1) = m.map fun p => p.1 := by
      unfold aput
      rw [if_pos (by
        obtain ⟨p, hp, e⟩ := List.mem_map.mp h
        exact List.any_eq_true.mpr ⟨p, hp, decide_eq_true e⟩), List.map_map]
      refine List.map_congr_left fun p _ => ?_
      show (if p.1 = k then (p.1, x) else p).1 = p.1
      split <;> rfl
    rw [e]; exact nd
  · rw [aput_new h, List.map_append, List.map_singleton]
    exact List.nodup_append.mpr ⟨nd, by simp, fun a ha b hb => by
      have : b = k := by simpa using hb
      rw [this]
      exact fun z => h (z ▸ ha)⟩
theorem aput_mem {α : Type} {m : AL α} {k : Str} {x : α} {r : Str × α} (h : r ∈ aput m k x) : r.1 = k ∨ r ∈ m := by
  unfold aput at h
  split at h
  · obtain ⟨p, hp, e⟩ := List.mem_map.mp h
    by_cases z : p.1 = k
    · rw [if_pos z] at e
      exact .inl (by rw [← e]; exact z)
    · rw [if_neg z] at e
      exact .inr (e ▸ hp)
  · rcases List.mem_append.mp h with h | h
    · exact .inr h
    · exact .inl (by rw [List.mem_singleton.mp h])
theorem adel_get {α : Type} {m : AL α} {k j : Str} : aget (adel m k) j = if j = k then none else aget m j := by
  induction m with
  | nil => unfold adel aget; simp
  | cons p m ih =>
    unfold adel
    rw [List.filter_cons]
    by_cases h : p.1 = k
    · rw [if_neg (by simpa using h)]
      show aget (adel m k) j = _
      rw [ih, aget_cons]
      by_cases g : j = k
      · rw [if_pos g, if_pos g]
      · rw [if_neg g, if_neg g, if_neg fun z => g (z.symm.trans h)]
    · rw [if_pos (by simpa using h), aget_cons]
      show (if p.1 = j then some p.2 else aget (adel m k) j) = _
      rw [ih, aget_cons]
      by_cases g : p.1 = j
      · rw [if_pos g, if_pos g, if_neg fun z => h (g.trans z)]
      · rw [if_neg g, if_neg g]
section
variable {N F B G : Nat} {nm : Nat → Str} {m : AL Rat} {f g : Nat → Rat}
theorem Rep.ext (h : Rep N nm F B m f) (e : ∀ j, j < N → f j = g j) : Rep N nm F B m g :=
  ⟨h.nd, h.mem, fun j hj => by rw [← e j hj]; exact h.get j hj, fun j hj => by rw [← e j hj]; exact h.nn j hj, fun j hj => by rw [← e j hj]; exact h.le j hj, fun j hj => by rw [← e j hj]; exact h.inz j hj⟩
theorem rep_put (inj : Inj N nm) (h : Rep N nm F B m f) {j : Nat} (hj : j < N) {v : Rat} (hv : v ≠ 0) (h0 : 0 ≤ v) (h1 : v ≤ (B : Rat)) (h2 : InZ F v) : Rep N nm F B (aput m (nm j) v) fun z => if z = j then v else f z := by
  refine ⟨aput_nd h.nd, fun r hr => ?_, fun i hi => ?_, fun i hi => ?_, fun i hi => ?_, fun i hi => ?_⟩
  · rcases aput_mem hr with hr | hr
    · exact ⟨j, hj, hr⟩
    · exact h.mem r hr
  · rw [aget_put]
    show _ = if (if i = j then v else f i) = 0 then none else some (if i = j then v else f i)
    by_cases e : i = j
    · rw [if_pos (by rw [e]), if_pos e, if_neg hv]
    · rw [if_neg fun z => e (inj i j hi hj z), if_neg e]
      exact h.get i hi
  · show 0 ≤ if i = j then v else f i
    split
    · exact h0
    · exact h.nn i hi
  · show (if i = j then v else f i) ≤ (B : Rat)
    split
    · exact h1
    · exact h.le i hi
  · show InZ F (if i = j then v else f i)
    split
    · exact h2
    · exact h.inz i hi
theorem rep_del (inj : Inj N nm) (h : Rep N nm F B m f) {j : Nat} (hj : j < N) : Rep N nm F B (adel m (nm j)) fun z => if z = j then 0 else f z := by
  refine ⟨?_, fun r hr => h.mem r (List.mem_filter.mp hr).1, fun i hi => ?_, fun i hi => ?_, fun i hi => ?_, fun i hi => ?_⟩
  · rw [show (adel m (nm j)).map (fun p => p.1) = (m.map (·.1)).filter fun n => decide (n ≠ nm j) from adel_keys]
    exact List.Pairwise.filter _ h.nd
  · rw [adel_get]
    show _ = if (if i = j then 0 else f i) = 0 then none else some (if i = j then 0 else f i)
    by_cases e : i = j
    · rw [if_pos (by rw [e]), if_pos e, if_pos rfl]
    · rw [if_neg fun z => e (inj i j hi hj z), if_neg e]
      exact h.get i hi
  · show 0 ≤ if i = j then (0 : Rat) else f i
    split
    · exact Rat.le_refl
    · exact h.nn i hi
  · show (if i = j then (0 : Rat) else f i) ≤ (B : Rat)
    split
    · exact Rat.natCast_nonneg
    · exact h.le i hi
  · show InZ F (if i = j then (0 : Rat) else f i)
    split
    · exact inz_zero F
    · exact h.inz i hi
theorem Rep.big (h : Rep N nm F B m f) (hG : 0 < G) : Rep N nm (F * G) (2 * B) m f :=
  ⟨h.nd, h.mem, h.get, h.nn, fun j hj => Rat.le_trans (h.le j hj) (natCast_le (by omega)), fun j hj => (h.inz j hj).mono ⟨G, rfl⟩⟩
/-- one pass -/
theorem rep_pass (inj : Inj N nm) (h : Rep N nm F B m f) {x y : Nat} (hx : x < N) (hy : y < N) (hxy : x ≠ y) {s : Rat} (s0 : 0 ≤ s) (s1 : s ≤ 1) (sz : InZ G s) (hG : 0 < G) (hF : 0 < F) (sm : 2 * B * (F * G) < 2 ^ 2000) (sm2 : F * G < 2 ^ 2000) :
    OkPass m (nm x) (nm y) s ∧ Rep N nm (F * G) (2 * B) (passOn m (nm x) (nm y) s) (stI f x y s) := by
  have hb := h.big hG
  have hgx := h.get x hx
  have fx0 := h.nn x hx
  have fxB := h.le x hx
  have hyx : ¬ y = x := fun z => hxy z.symm
  have qs0 := Rat.mul_nonneg fx0 s0
  have qs1 : f x * s ≤ (B : Rat) := mul_le1 fx0 fxB s0 s1
  have qsz : InZ (F * G) (f x * s) := (h.inz x hx).mul sz
  have left0 : 0 ≤ f x - f x * s := by have := Rat.mul_le_mul_of_nonneg_left s1 fx0; grind
  have leftB : f x - f x * s ≤ ((2 * B : Nat) : Rat) := by rw [Rat.natCast_mul]; have := Rat.natCast_nonneg (a := B); grind
  have leftz : InZ (F * G) (f x - f x * s) := (hb.inz x hx).sub qsz
  have sumB : f y + f x * s ≤ ((2 * B : Nat) : Rat) := by rw [Rat.natCast_mul]; have := h.le y hy; grind
  have sum0 : 0 ≤ f y + f x * s := by have := h.nn y hy; grind
  have sumz : InZ (F * G) (f y + f x * s) := (hb.inz y hy).add qsz
  have hFG : 0 < F * G := Nat.mul_pos hF hG
  have one : ∀ q, 0 ≤ q → q ≤ ((2 * B : Nat) : Rat) → InZ (F * G) q → Ok q := fun q a b c => ok_of hFG c (neg_le_nn a) b sm sm2
  have qsB : f x * s ≤ ((2 * B : Nat) : Rat) := by rw [Rat.natCast_mul]; have := Rat.natCast_nonneg (a := B); grind
  -- behind the first half
  have p1 : f x ≠ 0 → Rep N nm (F * G) (2 * B) (pass1 m (nm x) (f x) s) fun z => if z = x then f x - f x * s else f z := fun hne => by
    unfold pass1
    by_cases h0 : f x - f x * s = 0
    · rw [if_pos h0]
      exact (rep_del inj hb hx).ext fun j _ => by rw [h0]
    · rw [if_neg h0]
      exact rep_put inj hb hx h0 left0 leftB leftz
  have gy : f x ≠ 0 → (aget (pass1 m (nm x) (f x) s) (nm y)).getD 0 = f y := fun hne => by
    rw [(p1 hne).get y hy]
    show (if (if y = x then f x - f x * s else f y) = 0 then none else some (if y = x then f x - f x * s else f y)).getD 0 = f y
    rw [if_neg hyx]
    by_cases z : f y = 0
    · rw [if_pos z, z]; rfl
    · rw [if_neg z]; rfl
  refine ⟨fun q hq => ?_, ?_⟩
  · rw [hgx] at hq
    by_cases h0 : f x = 0
    · rw [if_pos h0] at hq; cases hq
    · rw [if_neg h0] at hq
      cases hq
      rw [gy h0]
      exact ⟨one _ qs0 qsB qsz, one _ left0 leftB leftz, one _ sum0 sumB sumz⟩
  · unfold passOn
    rw [hgx]
    by_cases h0 : f x = 0
    · rw [if_pos h0]
      refine hb.ext fun j _ => ?_
      show f j = f j - (if j = x then f x * s else 0) + (if j = y then f x * s else 0)
      rw [h0]
      split <;> split <;> grind
    · rw [if_neg h0]
      show Rep N nm (F * G) (2 * B) (if f x * s = 0 then pass1 m (nm x) (f x) s else aput (pass1 m (nm x) (f x) s) (nm y) ((aget (pass1 m (nm x) (f x) s) (nm y)).getD 0 + f x * s)) _
      by_cases hz : f x * s = 0
      · rw [if_pos hz]
        refine (p1 h0).ext fun j _ => ?_
        show (if j = x then f x - f x * s else f j) = f j - (if j = x then f x * s else 0) + (if j = y then f x * s else 0)
        rw [hz]
        by_cases e : j = x
        · subst e; rw [if_pos rfl, if_pos rfl]; split <;> grind
        · rw [if_neg e, if_neg e]; split <;> grind
      · rw [if_neg hz, gy h0]
        have hne : f y + f x * s ≠ 0 := by have := h.nn y hy; grind
        refine (rep_put inj (p1 h0) hy hne sum0 sumB sumz).ext fun j _ => ?_
        show (if j = y then f y + f x * s else if j = x then f x - f x * s else f j) = f j - (if j = x then f x * s else 0) + (if j = y then f x * s else 0)
        by_cases e : j = y
        · subst e; rw [if_pos rfl, if_neg hyx, if_pos rfl]; grind
        · rw [if_neg e, if_neg e]
          by_cases e2 : j = x
          · subst e2; rw [if_pos rfl, if_pos rfl]; grind
          · rw [if_neg e2, if_neg e2]; grind
end
inductive IS where
  | pass (x y : Nat) (s : Rat)
  | bring (x : Nat) (q : Rat)
def er : Stp → Stp
  | .bring _ _ x q => .bring "" 0 x q
  | .pass x y s => .pass x y s
def isSt (nm : Nat → Str) : IS → Stp
  | .pass x y s => .pass (nm x) (nm y) s
  | .bring x q => .bring "" 0 (nm x) q
def isF (f : Nat → Rat) : IS → Nat → Rat
  | .pass x y s => stI f x y s
  | .bring _ _ => f
def isFold (f : Nat → Rat) (is : List IS) : Nat → Rat := is.foldl isF f
def delta (x : Nat) : Nat → Rat := fun z => if z = x then 1 else 0
/-- good steps: share in G-ths -/
def GoodI (N G : Nat) : IS → Prop
  | .pass x y s => x < N ∧ y < N ∧ x ≠ y ∧ 0 ≤ s ∧ s ≤ 1 ∧ InZ G s
  | .bring x q => x < N ∧ 0 ≤ q ∧ q ≤ 512 ∧ InZ G q
def AllRow (m : AL Rat) : List Stp → Prop
  | [] => True
  | s :: r => OkStep m s ∧ AllRow (stepRow m s) r
theorem allRow_ok : ∀ {steps : List Stp} {m : AL Rat}, AllRow m steps → OkRow m steps := by
  intro steps
  induction steps with
  | nil => intro m _ i st h; cases h
  | cons s r ih =>
    intro m h i st hi
    cases i with
    | zero =>
      cases hi
      exact h.1
    | succ i => exact ih h.2 i st hi
theorem stepRow_er (m : AL Rat) (s : Stp) : stepRow m (er s) = stepRow m s := by cases s <;> rfl
theorem okStep_er (m : AL Rat) (s : Stp) : OkStep m (er s) = OkStep m s := by cases s <;> rfl
theorem rowFrom_er (steps : List Stp) : ∀ m : AL Rat, rowFrom m (steps.map er) = rowFrom m steps := by
  induction steps with
  | nil => intro m; rfl
  | cons s r ih => intro m; show rowFrom (stepRow m (er s)) (r.map er) = rowFrom (stepRow m s) r; rw [stepRow_er, ih]
theorem allRow_er (steps : List Stp) : ∀ m : AL Rat, AllRow m (steps.map er) ↔ AllRow m steps := by
  induction steps with
  | nil => intro m; exact Iff.rfl
  | cons s r ih => intro m; show OkStep m (er s) ∧ AllRow (stepRow m (er s)) (r.map er) ↔ OkStep m s ∧ AllRow (stepRow m s) r; rw [okStep_er, stepRow_er, ih]
section
variable {N G : Nat} {nm : Nat → Str}
theorem rows_ok (inj : Inj N nm) (hG : 0 < G) : ∀ (is : List IS) {m : AL Rat} {f : Nat → Rat} {F B : Nat}, (∀ s ∈ is, GoodI N G s) → 0 < F → Rep N nm F B m f → 2 ^ is.length * B * (F * G ^ is.length) < 2 ^ 2000 → F * G ^ is.length < 2 ^ 2000 →
    AllRow m (is.map (isSt nm)) ∧ Rep N nm (F * G ^ is.length) (2 ^ is.length * B) (rowFrom m (is.map (isSt nm))) (isFold f is) := by
  intro is
  induction is with
  | nil =>
    intro m f F B _ _ h _ _
    refine ⟨True.intro, ?_⟩
    rw [List.length_nil, Nat.pow_zero, Nat.pow_zero, Nat.mul_one, Nat.one_mul]
    exact h
  | cons s r ih =>
    intro m f F B hg hF h sm sm2
    have hgs := hg s List.mem_cons_self
    have hgr : ∀ s ∈ r, GoodI N G s := fun s hs => hg s (List.mem_cons_of_mem _ hs)
    have e1 : 2 ^ (s :: r).length * B = 2 ^ r.length * (2 * B) := by rw [List.length_cons, Nat.pow_succ]; grind
    have e2 : F * G ^ (s :: r).length = F * G * G ^ r.length := by rw [List.length_cons, Nat.pow_succ]; grind
    rw [e1, e2] at sm
    rw [e2] at sm2
    rw [e1, e2]
    have g1 : 1 ≤ G ^ r.length := Nat.pow_pos hG
    have p1 : 1 ≤ 2 ^ r.length := Nat.pow_pos (by decide)
    have a1 : F * G ≤ F * G * G ^ r.length := Nat.le_mul_of_pos_right _ g1
    have a2 : 2 * B ≤ 2 ^ r.length * (2 * B) := Nat.le_mul_of_pos_left _ p1
    cases s with
    | pass x y s =>
      obtain ⟨hx, hy, hxy, s0, s1, sz⟩ := hgs
      obtain ⟨o, h'⟩ := rep_pass inj h hx hy hxy s0 s1 sz hG hF (Nat.lt_of_le_of_lt (Nat.mul_le_mul a2 a1) sm) (Nat.lt_of_le_of_lt a1 sm2)
      obtain ⟨c1, c2⟩ := ih hgr (Nat.mul_pos hF hG) h' sm sm2
      exact ⟨⟨o, c1⟩, c2⟩
    | bring x q =>
      obtain ⟨c1, c2⟩ := ih hgr (Nat.mul_pos hF hG) (h.big hG) sm sm2
      exact ⟨⟨True.intro, c1⟩, c2⟩
theorem rep_unit (inj : Inj N nm) {x : Nat} (hx : x < N) : Rep N nm 1 1 [(nm x, 1)] (delta x) := by
  refine ⟨by simp, fun r hr => ⟨x, hx, by rw [List.mem_singleton.mp hr]⟩, fun j hj => ?_, fun j _ => ?_, fun j _ => ?_, fun j _ => ?_⟩
  · rw [aget_cons]
    show _ = if delta x j = 0 then none else some (delta x j)
    unfold delta
    by_cases e : j = x
    · rw [if_pos (by rw [e]), if_pos e, if_neg (by decide)]
    · rw [if_neg fun z => e (inj j x hj hx z.symm), if_neg e, if_pos rfl]; rfl
  · unfold delta; split <;> decide
  · unfold delta; split <;> decide
  · unfold delta
    split
    · exact inz_one 1
    · exact inz_zero 1
end
/-! what is brought, told from the front -/
def brR : List Stp → List Br
  | [] => []
  | .bring l y x q :: r => ⟨l, y, q, rowFrom [(x, 1)] r⟩ :: brR r
  | .pass _ _ _ :: r => brR r
def evB (steps : List Stp) (b : Br) : Br := { b with m := rowFrom b.m steps }
theorem br_fold : ∀ (steps : List Stp) (acc : List Br), steps.foldl brStep acc = acc.map (evB steps) ++ brR steps := by
  intro steps
  induction steps with
  | nil =>
    intro acc
    show acc = acc.map (evB []) ++ []
    rw [List.append_nil]
    have : evB [] = id := funext fun b => rfl
    rw [this, List.map_id]
  | cons s r ih =>
    intro acc
    rw [List.foldl_cons, ih]
    cases s with
    | bring l y x q =>
      show (acc ++ [Br.mk l y q [(x, 1)]]).map (evB r) ++ brR r = acc.map (evB (.bring l y x q :: r)) ++ (Br.mk l y q (rowFrom [(x, 1)] r) :: brR r)
      rw [List.map_append, List.append_assoc]
      rfl
    | pass x y s =>
      show (acc.map fun b => { b with m := passOn b.m x y s }).map (evB r) ++ brR r = acc.map (evB (.pass x y s :: r)) ++ brR r
      rw [List.map_map]
      rfl
theorem brFrom_eq (steps : List Stp) : brFrom steps = brR steps := by
  unfold brFrom
  rw [br_fold]
  rfl
def AllBring : List Stp → Prop
  | [] => True
  | .bring _ _ x _ :: r => AllRow [(x, 1)] r ∧ AllBring r
  | .pass _ _ _ :: r => AllBring r
theorem allBring_ok : ∀ {steps : List Stp}, AllBring steps → OkBr steps := by
  intro steps
  induction steps with
  | nil => intro _ i x y s h; cases h
  | cons st r ih =>
    intro h i x y s hi b hb
    rw [brFrom_eq] at hb
    cases i with
    | zero => cases hb
    | succ i =>
      have hi : r[i]? = some (.pass x y s) := hi
      cases st with
      | bring l y' x' q =>
        have hb : b ∈ Br.mk l y' q (rowFrom [(x', 1)] (r.take i)) :: brR (r.take i) := hb
        rcases List.mem_cons.mp hb with hb | hb
        · rw [hb]
          exact allRow_ok (steps := r) (m := [(x', 1)]) h.1 i (.pass x y s) hi
        · exact ih h.2 i x y s hi b (by rw [brFrom_eq]; exact hb)
      | pass x' y' s' =>
        have hb : b ∈ brR (r.take i) := hb
        exact ih h i x y s hi b (by rw [brFrom_eq]; exact hb)
theorem allBring_er (steps : List Stp) : AllBring (steps.map er) ↔ AllBring steps := by
  induction steps with
  | nil => exact Iff.rfl
  | cons s r ih =>
    cases s with
    | bring l y x q => show AllRow [(x, 1)] (r.map er) ∧ AllBring (r.map er) ↔ AllRow [(x, 1)] r ∧ AllBring r; rw [allRow_er, ih]
    | pass x y s => exact ih
def erB (b : Br) : Rat × AL Rat := (b.q, b.m)
theorem brR_er (steps : List Stp) : (brR (steps.map er)).map erB = (brR steps).map erB := by
  induction steps with
  | nil => rfl
  | cons s r ih =>
    cases s with
    | bring l y x q => show (q, rowFrom [(x, 1)] (r.map er)) :: (brR (r.map er)).map erB = (q, rowFrom [(x, 1)] r) :: (brR r).map erB; rw [rowFrom_er, ih]
    | pass x y s => exact ih
end Tc
set_option Elab.async false
set_option linter.all false
set_option maxRecDepth 100000
set_option maxHeartbeats 4000000
set_option exponentiation.threshold 10000
namespace Tc
open PySem
/-! plain: what the text makes of such steps -/
structure Wk (N n G : Nat) (nm : Nat → Str) (is : List IS) (house : List Pl) (steps : List Stp) : Prop where
  inj : Inj N nm
  nN : n ≤ N
  n1 : 1 ≤ n
  n4 : n ≤ 4
  er : steps.map er = is.map (isSt nm)
  good : ∀ s ∈ is, GoodI N G s
  len : is.length ≤ 8
  Gp : 0 < G
  Gb : G < 2 ^ 40
  names : ∀ p ∈ house, ∃ j, j < N ∧ p.name = nm j
  casks : casksM house = (List.range n).map nm
  hl : house.length ≤ 100
theorem restr_eq {cs : List Str} {row : AL Rat} (nd : (row.map fun p => p.1).Nodup) : restr cs row = row.filter fun p => decide (p.1 ∈ cs) := by
  unfold restr
  suffices h : ∀ (acc : AL Rat), (∀ r ∈ row, ¬ r.1 ∈ acc.map fun p => p.1) → row.foldl (fun m p => if p.1 ∈ cs then aput m p.1 p.2 else m) acc = acc ++ row.filter fun p => decide (p.1 ∈ cs) by
    have := h [] (fun _ _ z => by cases z)
    rw [List.nil_append] at this
    exact this
  induction row with
  | nil => intro acc _; simp
  | cons r row ih =>
    intro acc h
    rw [List.map_cons, List.nodup_cons] at nd
    rw [List.foldl_cons]
    by_cases hc : r.1 ∈ cs
    · rw [if_pos hc, aput_new (h r List.mem_cons_self), ih nd.2, List.filter_cons, if_pos (decide_eq_true hc), List.append_assoc]
      · rfl
      · intro r' hr' z
        rw [List.map_append, List.mem_append] at z
        rcases z with z | z
        · exact h r' (List.mem_cons_of_mem _ hr') z
        · have e : r'.1 = r.1 := by simpa using z
          exact nd.1 (List.mem_map.mpr ⟨r', hr', e⟩)
    · rw [if_neg hc, ih nd.2 _ fun r' hr' => h r' (List.mem_cons_of_mem _ hr'), List.filter_cons, if_neg (by simpa using hc)]
theorem aget_filter {cs : List Str} {k : Str} (hk : k ∈ cs) (row : AL Rat) : aget (row.filter fun p => decide (p.1 ∈ cs)) k = aget row k := by
  induction row with
  | nil => rfl
  | cons r row ih =>
    rw [List.filter_cons, aget_cons]
    by_cases hc : r.1 ∈ cs
    · rw [if_pos (decide_eq_true hc), aget_cons, ih]
    · have hne : ¬ r.1 = k := fun z => hc (by rw [z]; exact hk)
      rw [if_neg (by simpa using hc), ih, if_neg hne]
def bsum : List IS → Nat → Rat
  | [], _ => 0
  | .bring x q :: r, j => q * isFold (delta x) r j + bsum r j
  | .pass _ _ _ :: r, j => bsum r j
section
variable {N n G : Nat} {nm : Nat → Str} {is : List IS} {house : List Pl} {steps : List Stp}
theorem wk_pow (W : Wk N n G nm is house steps) {k : Nat} (h : k ≤ 10) : G ^ k ≤ 2 ^ 400 := by
  refine Nat.le_trans (Nat.pow_le_pow_left (Nat.le_of_lt W.Gb) _) ?_
  rw [← Nat.pow_mul]
  exact Nat.pow_le_pow_right (by decide) (by omega)
theorem rows_of (inj : Inj N nm) (Gp : 0 < G) (Gb : G < 2 ^ 40) {r : List IS} (hl : r.length ≤ 8) (good : ∀ s ∈ r, GoodI N G s) {x : Nat} (hx : x < N) :
    AllRow [(nm x, 1)] (r.map (isSt nm)) ∧ Rep N nm (G ^ r.length) (2 ^ r.length) (rowFrom [(nm x, 1)] (r.map (isSt nm))) (isFold (delta x) r) := by
  have h1 : G ^ r.length ≤ 2 ^ 400 := by
    refine Nat.le_trans (Nat.pow_le_pow_left (Nat.le_of_lt Gb) _) ?_
    rw [← Nat.pow_mul]
    exact Nat.pow_le_pow_right (by decide) (by omega)
  have h2 : 2 ^ r.length ≤ 256 := Nat.le_trans (Nat.pow_le_pow_right (by decide) hl) (by decide)
  have h := rows_ok inj Gp r (m := [(nm x, 1)]) (f := delta x) (F := 1) (B := 1) good (by decide) (rep_unit inj hx) (by
    rw [Nat.mul_one, Nat.one_mul]
    exact Nat.lt_of_le_of_lt (Nat.mul_le_mul h2 h1) (by decide +kernel)) (by rw [Nat.one_mul]; exact Nat.lt_of_le_of_lt h1 (by decide +kernel))
  rw [Nat.mul_one, Nat.one_mul] at h
  exact h
theorem wk_row (W : Wk N n G nm is house steps) {x : Nat} (hx : x < N) : AllRow [(nm x, 1)] steps ∧ Rep N nm (G ^ is.length) (2 ^ is.length) (rowFrom [(nm x, 1)] steps) (isFold (delta x) is) := by
  have h := rows_of W.inj W.Gp W.Gb W.len W.good hx
  rw [← W.er, allRow_er, rowFrom_er] at h
  exact h
theorem wk_len (W : Wk N n G nm is house steps) : steps.length = is.length := by
  have := congrArg List.length W.er
  rw [List.length_map, List.length_map] at this
  exact this
theorem wk_tab (W : Wk N n G nm is house steps) : OkTab house steps := by
  refine ⟨fun x hx => ?_, W.hl, by rw [wk_len W]; have := W.len; omega⟩
  obtain ⟨p, hp, rfl⟩ := List.mem_map.mp hx
  obtain ⟨j, hj, e⟩ := W.names p hp
  rw [e]
  exact allRow_ok (wk_row W hj).1
def wkRow (n : Nat) (nm : Nat → Str) (steps : List Stp) (i : Nat) : AL Rat := restr ((List.range n).map nm) (rowFrom [(nm i, 1)] steps)
theorem inj_le {a b : Nat} {nm : Nat → Str} (h : Inj b nm) (l : a ≤ b) : Inj a nm := fun i j hi hj e => h i j (by omega) (by omega) e
theorem wk_ctab (W : Wk N n G nm is house steps) : ctabM house steps = tabOf n nm (wkRow n nm steps) := by
  have injn := inj_le W.inj W.nN
  unfold ctabM ctabF
  rw [foldl_put_new (f := fun x => restr (casksM house) ((aget (wholeM house steps) x).getD [])) (by rw [W.casks]; exact nm_nd injn) (fun _ _ z => by cases z), List.nil_append]
  have h : (casksM house).map (fun x => (x, restr (casksM house) ((aget (wholeM house steps) x).getD []))) = (casksM house).map fun x => (x, restr (casksM house) (rowFrom [(x, 1)] steps)) := List.map_congr_left fun x hx => by
    rw [whole_get hx]; rfl
  rw [h, W.casks, List.map_map]
  rfl
theorem wk_rowf (W : Wk N n G nm is house steps) {i : Nat} (hi : i < n) : wkRow n nm steps i = (rowFrom [(nm i, 1)] steps).filter fun p => decide (p.1 ∈ (List.range n).map nm) := by
  have h := wk_row W (x := i) (by have := W.nN; omega)
  exact restr_eq h.2.nd
theorem mem_names {k : Str} : k ∈ (List.range n).map nm ↔ ∃ j, j < n ∧ k = nm j := by
  rw [List.mem_map]
  exact ⟨fun ⟨j, hj, e⟩ => ⟨j, List.mem_range.mp hj, e.symm⟩, fun ⟨j, hj, e⟩ => ⟨j, List.mem_range.mpr hj, e.symm⟩⟩
theorem wk_val (W : Wk N n G nm is house steps) {i j : Nat} (hi : i < n) (hj : j < n) : (aget (wkRow n nm steps i) (nm j)).getD 0 = isFold (delta i) is j := by
  have nN := W.nN
  have h := (wk_row W (x := i) (by omega)).2
  rw [wk_rowf W hi, aget_filter (mem_names.mpr ⟨j, hj, rfl⟩), h.get j (by omega)]
  by_cases z : isFold (delta i) is j = 0
  · rw [if_pos z, z]; rfl
  · rw [if_neg z]; rfl
/-- the table, its numbers known -/
theorem wk_T (W : Wk N n G nm is house steps) {D : Nat} {α : Nat → Nat → Rat} (hα : ∀ i j, i < n → j < n → isFold (delta i) is j = α i j) (nn : ∀ i j, i < n → j < n → 0 ≤ α i j) (le : ∀ i j, i < n → j < n → α i j ≤ 1) (inz : ∀ i j, i < n → j < n → InZ D (α i j)) (Dp : 0 < D) (Db : D < 2 ^ 50) :
    Tab n D nm (wkRow n nm steps) α := by
  have nN := W.nN
  refine ⟨inj_le W.inj nN, W.n4, fun i hi => ?_, fun i hi r hr => ?_, fun i j hi hj => by rw [wk_val W hi hj, hα i j hi hj], nn, le, inz, fun i hi => ?_, Dp, Db⟩
  · have h := (wk_row W (x := i) (by omega)).2
    rw [wk_rowf W hi]
    exact List.Sublist.nodup (List.Sublist.map _ List.filter_sublist) h.nd
  · rw [wk_rowf W hi] at hr
    exact mem_names.mp (of_decide_eq_true (List.mem_filter.mp hr).2)
  · have h1 := restr_len ((List.range n).map nm) (rowFrom [(nm i, 1)] steps)
    have h2 := rowFrom_len [(nm i, 1)] steps
    rw [wk_len W] at h2
    have := W.len
    simp only [List.length_cons, List.length_nil] at h2
    show (restr _ _).length ≤ 100
    omega
theorem wk_noc (W : Wk N n G nm is house steps) (next : ∀ i, i + 1 < n → isFold (delta i) is (i + 1) ≠ 0) {t : Nat} (ht : n ≤ t) (htN : t < N) (out : isFold (delta (n - 1)) is t ≠ 0) : NoClosed house steps := by
  intro ks nd h
  have nN := W.nN
  have n1 := W.n1
  rcases ks with _ | ⟨k, ks⟩
  · rfl
  exfalso
  have step : ∀ i j, i < n → j < N → isFold (delta i) is j ≠ 0 → nm i ∈ k :: ks → nm j ∈ k :: ks := fun i j hi hj hne hm => by
    obtain ⟨hc, hrow⟩ := h (nm i) hm
    have hg := whole_get (steps := steps) hc
    have hr := (wk_row W (x := i) (by omega)).2.get j hj
    rw [if_neg hne] at hr
    have hk := aget_mem hr
    obtain ⟨p, hp, e⟩ := List.mem_map.mp hk
    have := hrow _ hg p hp
    rw [e] at this
    exact this
  obtain ⟨hc, _⟩ := h k List.mem_cons_self
  rw [W.casks] at hc
  obtain ⟨i0, hi0, e0⟩ := mem_names.mp hc
  have up : ∀ m, i0 + m < n → nm (i0 + m) ∈ k :: ks := by
    intro m
    induction m with
    | zero => intro _; rw [Nat.add_zero, ← e0]; exact List.mem_cons_self
    | succ m ih => intro hm; exact step (i0 + m) (i0 + m + 1) (by omega) (by omega) (next (i0 + m) (by omega)) (ih (by omega))
  have hl := up (n - 1 - i0) (by omega)
  rw [show i0 + (n - 1 - i0) = n - 1 by omega] at hl
  have ht' := step (n - 1) t (by omega) htN out hl
  obtain ⟨hc2, _⟩ := h _ ht'
  rw [W.casks] at hc2
  obtain ⟨j, hj, e⟩ := mem_names.mp hc2
  have := W.inj t j htN (by omega) e
  omega
/-! what is brought to the casks -/
theorem bto_pairs (f : AL Rat) (bs : List Br) : btoF f bs = (bs.map erB).foldl (fun f p => addRow f p.1 p.2) f := by
  unfold btoF
  rw [List.foldl_map]
  rfl
def AllAdd (f : AL Rat) : List (Rat × AL Rat) → Prop
  | [] => True
  | p :: r => OkAdd f p.1 p.2 ∧ AllAdd (addRow f p.1 p.2) r
theorem allAdd_ok : ∀ {bs : List Br} {f : AL Rat}, AllAdd f (bs.map erB) → ∀ i b, bs[i]? = some b → OkAdd (btoF f (bs.take i)) b.q b.m := by
  intro bs
  induction bs with
  | nil => intro f _ i b h; cases h
  | cons a r ih =>
    intro f h i b hi
    cases i with
    | zero => cases hi; exact h.1
    | succ i => exact ih (f := addRow f a.q a.m) h.2 i b hi
theorem bto_vec (inj : Inj N nm) (nN : n ≤ N) (n4 : n ≤ 4) (Gp : 0 < G) (Gb : G < 2 ^ 40) : ∀ (r : List IS) {f : Nat → Rat} {k : Nat}, r.length + k ≤ 8 → (∀ s ∈ r, GoodI N G s) → (∀ j, j < n → 0 ≤ f j ∧ f j ≤ ((k * 131072 : Nat) : Rat) ∧ InZ (G ^ 9) (f j)) →
    AllAdd (vec n nm f) ((brR (r.map (isSt nm))).map erB) ∧ ((brR (r.map (isSt nm))).map erB).foldl (fun f p => addRow f p.1 p.2) (vec n nm f) = vec n nm fun j => f j + bsum r j := by
  intro r
  have injn := inj_le inj nN
  induction r with
  | nil => intro f k _ _ _; exact ⟨True.intro, vec_ext fun j _ => by show f j = f j + 0; grind⟩
  | cons s r ih =>
    intro f k hl hg hf
    rw [List.length_cons] at hl
    have hgr : ∀ s ∈ r, GoodI N G s := fun s hs => hg s (List.mem_cons_of_mem _ hs)
    cases s with
    | pass x y s => exact ih (k := k) (by omega) hgr hf
    | bring x q =>
      obtain ⟨hx, q0, q5, qz⟩ := hg _ List.mem_cons_self
      obtain ⟨_, R⟩ := rows_of inj Gp Gb (by omega) hgr hx
      have h2 : 2 ^ r.length ≤ 256 := Nat.le_trans (Nat.pow_le_pow_right (by decide) (show r.length ≤ 8 by omega)) (by decide)
      have G9 : G ^ 9 ≤ 2 ^ 360 := by
        refine Nat.le_trans (Nat.pow_le_pow_left (Nat.le_of_lt Gb) _) ?_
        rw [← Nat.pow_mul]
        exact Nat.le_refl _
      have G9p : 0 < G ^ 9 := Nat.pow_pos Gp
      have term : ∀ j, j < N → 0 ≤ q * isFold (delta x) r j ∧ q * isFold (delta x) r j ≤ ((131072 : Nat) : Rat) ∧ InZ (G ^ 9) (q * isFold (delta x) r j) := fun j hj => by
        have m0 := R.nn j hj
        have m1 : isFold (delta x) r j ≤ ((256 : Nat) : Rat) := Rat.le_trans (R.le j hj) (natCast_le h2)
        have mz : InZ (G ^ 8) (isFold (delta x) r j) := (R.inz j hj).mono (Nat.pow_dvd_pow G (by omega))
        refine ⟨Rat.mul_nonneg q0 m0, ?_, ?_⟩
        · have a1 := Rat.mul_le_mul_of_nonneg_right q5 m0
          have a2 := Rat.mul_le_mul_of_nonneg_left m1 (show (0 : Rat) ≤ 512 by decide)
          have a3 : (512 : Rat) * ((256 : Nat) : Rat) = ((131072 : Nat) : Rat) := by decide +kernel
          rw [a3] at a2
          exact Rat.le_trans a1 a2
        · have := qz.mul mz
          rw [Nat.mul_comm, ← Nat.pow_succ] at this
          exact this
      have hval : ∀ j, j < n → (aget (rowFrom [(nm x, 1)] (r.map (isSt nm))) (nm j)).getD 0 = isFold (delta x) r j := fun j hj => by
        rw [R.get j (by omega)]
        by_cases z : isFold (delta x) r j = 0
        · rw [if_pos z, z]; rfl
        · rw [if_neg z]; rfl
      have hadd : addRow (vec n nm f) q (rowFrom [(nm x, 1)] (r.map (isSt nm))) = vec n nm fun j => f j + q * isFold (delta x) r j := by
        rw [addRow_vec injn R.nd]
        exact vec_ext fun j hj => by rw [hval j hj]
      have hf' : ∀ j, j < n → 0 ≤ f j + q * isFold (delta x) r j ∧ f j + q * isFold (delta x) r j ≤ (((k + 1) * 131072 : Nat) : Rat) ∧ InZ (G ^ 9) (f j + q * isFold (delta x) r j) := fun j hj => by
        obtain ⟨a1, a2, a3⟩ := hf j hj
        obtain ⟨b1, b2, b3⟩ := term j (by omega)
        refine ⟨by grind, ?_, a3.add b3⟩
        rw [Nat.add_mul, Rat.natCast_add]
        grind
      obtain ⟨c1, c2⟩ := ih (f := fun j => f j + q * isFold (delta x) r j) (k := k + 1) (by omega) hgr hf'
      have sz : (k + 1) * 131072 * G ^ 9 < 2 ^ 2000 := Nat.lt_of_le_of_lt (Nat.mul_le_mul (Nat.mul_le_mul_right _ (show k + 1 ≤ 9 by omega)) G9) (by decide +kernel)
      have sz1 : 131072 * G ^ 9 < 2 ^ 2000 := Nat.lt_of_le_of_lt (Nat.mul_le_mul_left _ G9) (by decide +kernel)
      have sz2 : G ^ 9 < 2 ^ 2000 := Nat.lt_of_le_of_lt G9 (by decide +kernel)
      refine ⟨⟨okAdd_vec injn R.nd fun p hp j hj e => ?_, ?_⟩, ?_⟩
      · have hv : p.2 = isFold (delta x) r j := by
          have h1 := aget_of_nd R.nd hp
          rw [e] at h1
          have h2 := hval j hj
          rw [h1] at h2
          exact h2
        show Ok (q * p.2) ∧ Ok (f j + q * p.2)
        rw [hv]
        obtain ⟨b1, b2, b3⟩ := term j (by omega)
        obtain ⟨d1, d2, d3⟩ := hf' j hj
        exact ⟨ok_of G9p b3 (neg_le_nn b1) b2 sz1 sz2, ok_of G9p d3 (neg_le_nn d1) d2 sz sz2⟩
      · show AllAdd (addRow (vec n nm f) q (rowFrom [(nm x, 1)] (r.map (isSt nm)))) _
        rw [hadd]
        exact c1
      · show List.foldl _ (addRow (vec n nm f) q (rowFrom [(nm x, 1)] (r.map (isSt nm)))) ((brR (r.map (isSt nm))).map erB) = _
        rw [hadd, c2]
        refine vec_ext fun j _ => ?_
        show f j + q * isFold (delta x) r j + bsum r j = f j + (q * isFold (delta x) r j + bsum r j)
        grind
theorem allBring_of (inj : Inj N nm) (Gp : 0 < G) (Gb : G < 2 ^ 40) : ∀ (r : List IS), r.length ≤ 8 → (∀ s ∈ r, GoodI N G s) → AllBring (r.map (isSt nm)) := by
  intro r
  induction r with
  | nil => intro _ _; exact True.intro
  | cons s r ih =>
    intro hl hg
    rw [List.length_cons] at hl
    have hgr : ∀ s ∈ r, GoodI N G s := fun s hs => hg s (List.mem_cons_of_mem _ hs)
    cases s with
    | pass x y s => exact ih (by omega) hgr
    | bring x q => exact ⟨(rows_of inj Gp Gb (by omega) hgr (hg _ List.mem_cons_self).1).1, ih (by omega) hgr⟩
theorem wk_bto (W : Wk N n G nm is house steps) : OkBto house steps ∧ btoM house steps = vec n nm (bsum is) := by
  have injn := inj_le W.inj W.nN
  have hz : zerosM (casksM house) = vec n nm fun _ => 0 := by rw [W.casks, zeros_vec injn]
  have he : (brFrom steps).map erB = (brR (is.map (isSt nm))).map erB := by rw [brFrom_eq, ← brR_er, W.er]
  obtain ⟨h1, h2⟩ := bto_vec (n := n) W.inj W.nN W.n4 W.Gp W.Gb is (f := fun _ => 0) (k := 0) (by have := W.len; omega) W.good fun j _ => ⟨Rat.le_refl, by decide, inz_zero _⟩
  refine ⟨⟨allBring_ok ((allBring_er steps).mp (by rw [W.er]; exact allBring_of W.inj W.Gp W.Gb is W.len W.good)), by rw [wk_len W]; have := W.len; omega, W.hl, fun i b hb => ?_⟩, ?_⟩
  · rw [hz]
    exact allAdd_ok (by rw [he]; exact h1) i b hb
  · unfold btoM
    rw [bto_pairs, hz, he, h2]
    exact vec_ext fun j _ => by grind
end
end Tc
set_option Elab.async false
set_option linter.all false
set_option maxRecDepth 100000
set_option maxHeartbeats 4000000
set_option exponentiation.threshold 10000
namespace Tc
open PySem
/-! plain: the round of the law, by places -/
def tgI (n t k : Nat) : Nat := if k = n - 1 then t else k + 1
def chainP (n t : Nat) (sh : Nat → Rat) (m : Nat) : List IS := (List.range m).map fun i => IS.pass (n - 1 - i) (tgI n t (n - 1 - i)) (sh (n - 1 - i))
def moreI (n p : Nat) (l rl : Rat) : List IS := [IS.pass p n l, IS.bring p rl]
def isI (n t p opt : Nat) (sh : Nat → Rat) (a l rl : Rat) : List IS := (if opt = 1 then moreI n p l rl else []) ++ (chainP n t sh n ++ [IS.bring 0 a]) ++ (if opt = 2 then moreI n p l rl else [])
def uF (opt p : Nat) (l : Rat) (z : Nat) : Rat := if opt = 1 ∧ z = p then 1 - l else 1
def vF (opt p : Nat) (l : Rat) (z : Nat) : Rat := if opt = 2 ∧ z = p then 1 - l else 1
structure Par (n G : Nat) (r : Nat → Rat) (a l : Rat) (opt p t : Nat) : Prop where
  n1 : 1 ≤ n
  n4 : n ≤ 4
  rp : ∀ k, k < n → 0 < r k
  r5 : ∀ k, k < n → r k ≤ 500
  ar : ∀ k, k < n → a ≤ r k
  a0 : 0 < a
  l0 : 0 < l
  l1 : l < 1
  hp : p < n
  ht : n ≤ t
  ht2 : t < n + 2
  Gp : 0 < G
  Gb : G < 2 ^ 34
  rz : ∀ k, k < n → InZ G (r k)
  az : InZ G a
  sz : ∀ k, k < n → InZ G (a / r k)
  lz : InZ 60 l
section
variable {n t p opt : Nat} {sh : Nat → Rat} {a l rl : Rat}
theorem fold_app (f : Nat → Rat) (xs ys : List IS) : isFold f (xs ++ ys) = isFold (isFold f xs) ys := by unfold isFold; rw [List.foldl_append]
theorem chainP_succ (m : Nat) : chainP n t sh (m + 1) = chainP n t sh m ++ [IS.pass (n - 1 - m) (tgI n t (n - 1 - m)) (sh (n - 1 - m))] := by unfold chainP; rw [List.range_succ, List.map_append]; rfl
theorem chain_val (n1 : 1 ≤ n) (ht : n ≤ t) (f : Nat → Rat) : ∀ m, m ≤ n → ∀ z, isFold f (chainP n t sh m) z =
    if z < n then (if n - m ≤ z then f z * (1 - sh z) else f z) + (if n - m < z then f (z - 1) * sh (z - 1) else 0) else f z + if 0 < m ∧ z = t then f (n - 1) * sh (n - 1) else 0 := by
  intro m
  induction m with
  | zero =>
    intro _ z
    show f z = _
    by_cases h : z < n
    · rw [if_pos h, if_neg (by omega), if_neg (by omega)]; grind
    · rw [if_neg h, if_neg (by omega)]; grind
  | succ m ih =>
    intro hm z
    have ih := ih (by omega)
    obtain ⟨k, hk⟩ : ∃ k, n - 1 - m = k := ⟨_, rfl⟩
    rw [chainP_succ, fold_app, hk]
    show isFold f (chainP n t sh m) z - (if z = k then isFold f (chainP n t sh m) k * sh k else 0) + (if z = tgI n t k then isFold f (chainP n t sh m) k * sh k else 0) = _
    have hfk : isFold f (chainP n t sh m) k = f k := by rw [ih, if_pos (by omega), if_neg (by omega), if_neg (by omega)]; grind
    rw [hfk, ih]
    by_cases h : z < n
    · rw [if_pos h, if_pos h]
      by_cases e1 : z = k
      · subst e1
        have htg : ¬ z = tgI n t z := by unfold tgI; split <;> omega
        rw [if_neg htg, if_pos rfl, if_neg (by omega), if_neg (by omega), if_pos (by omega), if_neg (by omega)]; grind
      · rw [if_neg e1]
        by_cases e2 : z = k + 1
        · subst e2
          have hk1 : ¬ k = n - 1 := by omega
          have htg : k + 1 = tgI n t k := by unfold tgI; rw [if_neg hk1]
          rw [if_pos htg, if_pos (by omega), if_neg (by omega), if_pos (by omega), if_pos (by omega), Nat.add_sub_cancel]; grind
        · have htg : ¬ z = tgI n t k := by unfold tgI; split <;> omega
          rw [if_neg htg]
          by_cases e3 : z < k
          · rw [if_neg (by omega), if_neg (by omega), if_neg (by omega), if_neg (by omega)]; grind
          · rw [if_pos (by omega), if_pos (by omega), if_pos (by omega), if_pos (by omega)]; grind
    · rw [if_neg h, if_neg h, if_neg (show ¬ z = k by omega)]
      by_cases e0 : m = 0
      · subst e0
        have hk1 : k = n - 1 := by omega
        have htg : tgI n t k = t := by unfold tgI; rw [if_pos hk1]
        rw [htg]
        by_cases e1 : z = t
        · rw [if_pos e1, if_neg (by omega), if_pos ⟨by omega, e1⟩, hk1]; grind
        · rw [if_neg e1, if_neg (fun y => e1 y.2), if_neg (fun y => e1 y.2)]; grind
      · have htg : ¬ z = tgI n t k := by unfold tgI; rw [if_neg (by omega)]; omega
        rw [if_neg htg]
        by_cases e1 : z = t
        · rw [if_pos ⟨by omega, e1⟩, if_pos ⟨by omega, e1⟩]; grind
        · rw [if_neg (fun y => e1 y.2), if_neg (fun y => e1 y.2)]; grind
theorem chain_z (n1 : 1 ≤ n) (ht : n ≤ t) (f : Nat → Rat) {z : Nat} (h : z < n) : isFold f (chainP n t sh n) z = f z * (1 - sh z) + if 0 < z then f (z - 1) * sh (z - 1) else 0 := by
  rw [chain_val n1 ht f n (Nat.le_refl n), if_pos h, if_pos (by omega), Nat.sub_self]
theorem chain_s (n1 : 1 ≤ n) (ht : n ≤ t) (f : Nat → Rat) {z : Nat} (h : n ≤ z) : isFold f (chainP n t sh n) z = f z + if z = t then f (n - 1) * sh (n - 1) else 0 := by
  rw [chain_val n1 ht f n (Nat.le_refl n), if_neg (by omega)]
  congr 1
  by_cases e : z = t
  · rw [if_pos e, if_pos ⟨by omega, e⟩]
  · rw [if_neg e, if_neg fun y => e y.2]
theorem more_fold (f : Nat → Rat) : isFold f (moreI n p l rl) = stI f p n l := rfl
theorem more_z (f : Nat → Rat) {z : Nat} (h : z < n) : stI f p n l z = f z * if z = p then 1 - l else 1 := by
  show f z - (if z = p then f p * l else 0) + (if z = n then f p * l else 0) = _
  rw [if_neg (show ¬ z = n by omega)]
  by_cases e : z = p
  · rw [if_pos e, if_pos e, e]; grind
  · rw [if_neg e, if_neg e]; grind
theorem pre_z (f : Nat → Rat) {z : Nat} (h : z < n) : isFold f (if opt = 1 then moreI n p l rl else []) z = f z * uF opt p l z := by
  unfold uF
  by_cases o : opt = 1
  · rw [if_pos o, more_fold, more_z f h]
    by_cases e : z = p
    · rw [if_pos e, if_pos ⟨o, e⟩]
    · rw [if_neg e, if_neg fun y => e y.2]
  · rw [if_neg o, if_neg fun y => o y.1]
    show f z = f z * 1
    grind
theorem post_z (f : Nat → Rat) {z : Nat} (h : z < n) : isFold f (if opt = 2 then moreI n p l rl else []) z = f z * vF opt p l z := by
  unfold vF
  by_cases o : opt = 2
  · rw [if_pos o, more_fold, more_z f h]
    by_cases e : z = p
    · rw [if_pos e, if_pos ⟨o, e⟩]
    · rw [if_neg e, if_neg fun y => e y.2]
  · rw [if_neg o, if_neg fun y => o y.1]
    show f z = f z * 1
    grind
/-- the whole round, at a cask -/
theorem isI_z (n1 : 1 ≤ n) (ht : n ≤ t) (f : Nat → Rat) {z : Nat} (h : z < n) : isFold f (isI n t p opt sh a l rl) z = (f z * uF opt p l z * (1 - sh z) + if 0 < z then f (z - 1) * uF opt p l (z - 1) * sh (z - 1) else 0) * vF opt p l z := by
  unfold isI
  rw [fold_app, fold_app, post_z _ h]
  congr 1
  rw [fold_app]
  show isFold _ (chainP n t sh n) z = _
  rw [chain_z n1 ht _ h, pre_z f h]
  congr 1
  by_cases z0 : 0 < z
  · rw [if_pos z0, if_pos z0, pre_z f (by omega)]
  · rw [if_neg z0, if_neg z0]
def dF (opt p : Nat) (l : Rat) (sh : Nat → Rat) (z : Nat) : Rat := uF opt p l z * (1 - sh z) * vF opt p l z
def eF (opt p : Nat) (l : Rat) (sh : Nat → Rat) (z : Nat) : Rat := uF opt p l z * sh z * vF opt p l (z + 1)
theorem alpha_eq (n1 : 1 ≤ n) (ht : n ≤ t) {i j : Nat} (hi : i < n) (hj : j < n) : isFold (delta i) (isI n t p opt sh a l rl) j = biA (dF opt p l sh) (eF opt p l sh) i j := by
  rw [isI_z n1 ht _ hj]
  unfold biA delta dF eF
  by_cases e1 : j = i
  · subst e1
    rw [if_pos rfl, if_pos rfl]
    by_cases z0 : 0 < j
    · rw [if_pos z0, if_neg (show ¬ j - 1 = j by omega)]; grind
    · rw [if_neg z0]; grind
  · rw [if_neg e1, if_neg e1]
    by_cases e2 : j = i + 1
    · subst e2
      rw [if_pos rfl, if_pos (Nat.succ_pos i), Nat.add_sub_cancel, if_pos rfl]; grind
    · rw [if_neg e2]
      by_cases z0 : 0 < j
      · rw [if_pos z0, if_neg (show ¬ j - 1 = i by omega)]; grind
      · rw [if_neg z0]; grind
theorem bsum_chain (m : Nat) (rest : List IS) (j : Nat) : bsum (chainP n t sh m ++ rest) j = bsum rest j := by
  unfold chainP
  generalize List.range m = xs
  induction xs with
  | nil => rfl
  | cons x xs ih => rw [List.map_cons, List.cons_append]; exact ih
def bF (opt p : Nat) (a l : Rat) (r : Nat → Rat) (j : Nat) : Rat :=
  a * (if j = 0 then 1 else 0) * vF opt p l j + (if opt = 1 then (if j = p then l * (r p - a) else 0) + (if j = p + 1 then l * a else 0) else 0) + (if opt = 2 then (if j = p then r p * l else 0) else 0)
theorem beta_eq {r : Nat → Rat} (n1 : 1 ≤ n) (ht : n ≤ t) (hr : 0 < r p) (hsh : sh p * r p = a) (hrl : rl = r p * l) (ho : opt = 0 ∨ opt = 1 ∨ opt = 2) {j : Nat} (hj : j < n) : bsum (isI n t p opt sh a l rl) j = bF opt p a l r j := by
  have tail0 : bsum [IS.bring 0 a] j = a * if j = 0 then 1 else 0 := by
    show a * (if j = 0 then 1 else 0) + 0 = _
    grind
  unfold isI bF
  rcases ho with rfl | rfl | rfl
  · rw [if_neg (by decide), if_neg (by decide), List.nil_append, List.append_nil, bsum_chain, tail0]
    have hv : vF 0 p l j = 1 := by unfold vF; rw [if_neg (fun y => absurd y.1 (by decide))]
    rw [hv, if_neg (show ¬ (0 : Nat) = 1 by decide), if_neg (show ¬ (0 : Nat) = 2 by decide)]
    grind
  · rw [if_pos rfl, if_neg (by decide), List.append_nil]
    show rl * isFold (delta p) (chainP n t sh n ++ [IS.bring 0 a]) j + bsum (chainP n t sh n ++ [IS.bring 0 a]) j = _
    rw [bsum_chain, tail0, fold_app]
    show rl * isFold (delta p) (chainP n t sh n) j + _ = _
    rw [chain_z n1 ht _ hj]
    have hv : vF 1 p l j = 1 := by unfold vF; rw [if_neg (fun y => absurd y.1 (by decide))]
    unfold delta
    rw [hv, if_pos rfl, if_neg (show ¬ (1 : Nat) = 2 by decide)]
    have h1 : r p * (1 - sh p) = r p - a := by grind
    by_cases e1 : j = p
    · subst e1
      have e2 : ¬ j = j + 1 := by omega
      rw [if_pos rfl, if_pos rfl, if_neg e2, hrl]
      by_cases z0 : 0 < j
      · rw [if_pos z0, if_neg (show ¬ j - 1 = j by omega)]; grind
      · rw [if_neg z0]; grind
    · rw [if_neg e1, if_neg e1]
      by_cases e2 : j = p + 1
      · subst e2
        rw [if_pos (Nat.succ_pos p), Nat.add_sub_cancel, if_pos rfl, if_pos rfl, hrl]
        grind
      · rw [if_neg e2]
        by_cases z0 : 0 < j
        · rw [if_pos z0, if_neg (show ¬ j - 1 = p by omega)]; grind
        · rw [if_neg z0]; grind
  · rw [if_neg (by decide), if_pos rfl, List.nil_append, List.append_assoc, bsum_chain]
    show a * isFold (delta 0) (moreI n p l rl) j + (rl * delta p j + 0) = _
    rw [more_fold, more_z _ hj]
    have hv : vF 2 p l j = if j = p then 1 - l else 1 := by
      unfold vF
      by_cases e : j = p
      · rw [if_pos ⟨rfl, e⟩, if_pos e]
      · rw [if_neg (fun y => e y.2), if_neg e]
    unfold delta
    rw [hv, if_neg (show ¬ (2 : Nat) = 1 by decide), if_pos rfl, hrl]
    by_cases e1 : j = p
    · simp only [if_pos e1]; grind
    · simp only [if_neg e1]; grind
end
end Tc
set_option Elab.async false
set_option linter.all false
set_option maxRecDepth 100000
set_option maxHeartbeats 4000000
set_option exponentiation.threshold 10000
namespace Tc
open PySem
/-! plain: the law's round is a bidiagonal table with its rooms as fixed point -/
section
variable {n G t p opt : Nat} {r : Nat → Rat} {a l : Rat}
theorem sh_facts (P : Par n G r a l opt p t) {k : Nat} (hk : k < n) : 0 < a / r k ∧ a / r k ≤ 1 ∧ a / r k * r k = a := by
  have h1 := P.rp k hk
  have h2 := P.ar k hk
  have h3 := P.a0
  have e : a / r k * r k = a := by grind
  have pos : 0 < a / r k := by rw [Rat.div_def]; exact Rat.mul_pos h3 (Rat.inv_pos.mpr h1)
  refine ⟨pos, ?_, e⟩
  refine Rat.le_of_mul_le_mul_right (c := r k) ?_ h1
  rw [e]
  grind
theorem u_facts (P : Par n G r a l opt p t) (z : Nat) : 0 < uF opt p l z ∧ uF opt p l z ≤ 1 ∧ InZ 60 (uF opt p l z) := by
  have h1 := P.l0
  have h2 := P.l1
  unfold uF
  split
  · exact ⟨by grind, by grind, (inz_one 60).sub P.lz⟩
  · exact ⟨by decide, Rat.le_refl, inz_one 60⟩
theorem v_facts (P : Par n G r a l opt p t) (z : Nat) : 0 < vF opt p l z ∧ vF opt p l z ≤ 1 ∧ InZ 60 (vF opt p l z) := by
  have h1 := P.l0
  have h2 := P.l1
  unfold vF
  split
  · exact ⟨by grind, by grind, (inz_one 60).sub P.lz⟩
  · exact ⟨by decide, Rat.le_refl, inz_one 60⟩
theorem uxv {u x v : Rat} (u0 : 0 < u) (u1 : u ≤ 1) (x0 : 0 ≤ x) (v0 : 0 < v) (v1 : v ≤ 1) : 0 ≤ u * x * v ∧ u * x * v ≤ x := by
  have a1 := Rat.mul_nonneg (Rat.le_of_lt u0) x0
  have a2 := Rat.mul_nonneg a1 (Rat.le_of_lt v0)
  have a3 := Rat.mul_le_mul_of_nonneg_left v1 a1
  have a4 := Rat.mul_le_mul_of_nonneg_right u1 x0
  exact ⟨a2, by grind⟩
theorem par_good (P : Par n G r a l opt p t) : ∀ s ∈ isI n t p opt (fun k => a / r k) a l (r p * l), GoodI (n + 2) (60 * G) s := by
  have n1 := P.n1
  have hp := P.hp
  have ht := P.ht
  have ht2 := P.ht2
  have l0 := P.l0
  have l1 := P.l1
  have rp := P.rp p hp
  have r5 := P.r5 p hp
  have more : ∀ s ∈ moreI n p l (r p * l), GoodI (n + 2) (60 * G) s := fun s hs => by
    rcases List.mem_cons.mp hs with hs | hs
    · subst hs
      exact ⟨by omega, by omega, by omega, Rat.le_of_lt l0, Rat.le_of_lt l1, P.lz.mono ⟨G, rfl⟩⟩
    · rw [List.mem_singleton.mp hs]
      refine ⟨by omega, Rat.mul_nonneg (Rat.le_of_lt rp) (Rat.le_of_lt l0), ?_, ?_⟩
      · have := Rat.mul_le_mul_of_nonneg_left (Rat.le_of_lt l1) (Rat.le_of_lt rp)
        grind
      · have := (P.rz p hp).mul P.lz
        rw [Nat.mul_comm] at this
        exact this
  intro s hs
  unfold isI at hs
  rcases List.mem_append.mp hs with hs | hs
  · rcases List.mem_append.mp hs with hs | hs
    · by_cases o : opt = 1
      · rw [if_pos o] at hs; exact more s hs
      · rw [if_neg o] at hs; cases hs
    · rcases List.mem_append.mp hs with hs | hs
      · unfold chainP at hs
        obtain ⟨i, hi, rfl⟩ := List.mem_map.mp hs
        have hi := List.mem_range.mp hi
        obtain ⟨s0, s1, _⟩ := sh_facts P (k := n - 1 - i) (by omega)
        refine ⟨by omega, ?_, ?_, Rat.le_of_lt s0, s1, (P.sz (n - 1 - i) (by omega)).mono ⟨60, Nat.mul_comm _ _⟩⟩
        · unfold tgI; split <;> omega
        · unfold tgI; split <;> omega
      · rw [List.mem_singleton.mp hs]
        have ar := P.ar p hp
        exact ⟨by omega, Rat.le_of_lt P.a0, by grind, P.az.mono ⟨60, Nat.mul_comm _ _⟩⟩
  · by_cases o : opt = 2
    · rw [if_pos o] at hs; exact more s hs
    · rw [if_neg o] at hs; cases hs
theorem par_len (P : Par n G r a l opt p t) : (isI n t p opt (fun k => a / r k) a l (r p * l)).length ≤ 8 := by
  have n4 := P.n4
  unfold isI chainP moreI
  simp only [List.length_append, List.length_map, List.length_range, List.length_cons, List.length_nil]
  by_cases o1 : opt = 1
  · rw [if_pos o1, if_neg (by omega)]
    simp only [List.length_cons, List.length_nil]
    omega
  · rw [if_neg o1]
    by_cases o2 : opt = 2
    · rw [if_pos o2]
      simp only [List.length_cons, List.length_nil]
      omega
    · rw [if_neg o2]
      simp only [List.length_nil]
      omega
theorem bi_rs {d e : Nat → Rat} {i : Nat} (hi : i < n) : rs n (biA d e i) = d i + if i + 1 < n then e i else 0 := by
  have h1 : rs n (biA d e i) = rs n fun j => (if j = i then d i else 0) + (if j = i + 1 then e i else 0) := rs_congr fun j _ => by
    unfold biA
    by_cases h : j = i
    · rw [if_pos h, if_pos h, if_neg (by omega)]; grind
    · rw [if_neg h, if_neg h]; grind
  rw [h1, rs_add, rs_one hi]
  congr 1
  by_cases h : i + 1 < n
  · rw [if_pos h, rs_one h]
  · rw [if_neg h, rs_zero]
    intro j hj
    rw [if_neg (by omega)]
theorem b_facts (P : Par n G r a l opt p t) {j : Nat} (hj : j < n) : 0 ≤ bF opt p a l r j ∧ bF opt p a l r j ≤ 1024 ∧ InZ (3600 * G) (bF opt p a l r j) := by
  obtain ⟨v0, v1, vz⟩ := v_facts P j
  have hp := P.hp
  have a0 := P.a0
  have ar := P.ar p hp
  have r5 := P.r5 p hp
  have rp := P.rp p hp
  have l0 := P.l0
  have l1 := P.l1
  have x1 : 0 ≤ a * vF opt p l j ∧ a * vF opt p l j ≤ 500 := ⟨Rat.mul_nonneg (Rat.le_of_lt a0) (Rat.le_of_lt v0), by have := Rat.mul_le_mul_of_nonneg_left v1 (Rat.le_of_lt a0); grind⟩
  have x2 : 0 ≤ l * (r p - a) ∧ l * (r p - a) ≤ 500 := ⟨Rat.mul_nonneg (Rat.le_of_lt l0) (by grind), by have := Rat.mul_le_mul_of_nonneg_right (Rat.le_of_lt l1) (show 0 ≤ r p - a by grind); grind⟩
  have x3 : 0 ≤ l * a ∧ l * a ≤ 500 := ⟨Rat.mul_nonneg (Rat.le_of_lt l0) (Rat.le_of_lt a0), by have := Rat.mul_le_mul_of_nonneg_right (Rat.le_of_lt l1) (Rat.le_of_lt a0); grind⟩
  have x4 : 0 ≤ r p * l ∧ r p * l ≤ 500 := ⟨Rat.mul_nonneg (Rat.le_of_lt rp) (Rat.le_of_lt l0), by have := Rat.mul_le_mul_of_nonneg_left (Rat.le_of_lt l1) (Rat.le_of_lt rp); grind⟩
  have d1 : G * 60 ∣ 3600 * G := ⟨60, by omega⟩
  have d2 : 60 * G ∣ 3600 * G := ⟨60, by omega⟩
  have z1 : InZ (3600 * G) (a * vF opt p l j) := (P.az.mul vz).mono d1
  have z2 : InZ (3600 * G) (l * (r p - a)) := (P.lz.mul ((P.rz p hp).sub P.az)).mono d2
  have z3 : InZ (3600 * G) (l * a) := (P.lz.mul P.az).mono d2
  have z4 : InZ (3600 * G) (r p * l) := ((P.rz p hp).mul P.lz).mono d1
  have z0 := inz_zero (3600 * G)
  have head : (0 ≤ a * (if j = 0 then 1 else 0) * vF opt p l j ∧ a * (if j = 0 then 1 else 0) * vF opt p l j ≤ 500) ∧ InZ (3600 * G) (a * (if j = 0 then 1 else 0) * vF opt p l j) := by
    by_cases e : j = 0
    · rw [if_pos e]
      have h : a * 1 * vF opt p l j = a * vF opt p l j := by grind
      rw [h]
      exact ⟨x1, z1⟩
    · rw [if_neg e]
      have h : a * 0 * vF opt p l j = 0 := by grind
      rw [h]
      exact ⟨⟨Rat.le_refl, by decide⟩, z0⟩
  have mid : (0 ≤ (if opt = 1 then (if j = p then l * (r p - a) else 0) + (if j = p + 1 then l * a else 0) else 0) ∧ (if opt = 1 then (if j = p then l * (r p - a) else 0) + (if j = p + 1 then l * a else 0) else 0) ≤ 500) ∧ InZ (3600 * G) (if opt = 1 then (if j = p then l * (r p - a) else 0) + (if j = p + 1 then l * a else 0) else 0) := by
    by_cases o : opt = 1
    · rw [if_pos o]
      by_cases e : j = p
      · rw [if_pos e, if_neg (by omega)]
        exact ⟨⟨by grind, by grind⟩, z2.add z0⟩
      · rw [if_neg e]
        by_cases e2 : j = p + 1
        · rw [if_pos e2]
          exact ⟨⟨by grind, by grind⟩, z0.add z3⟩
        · rw [if_neg e2]
          exact ⟨⟨by grind, by grind⟩, z0.add z0⟩
    · rw [if_neg o]
      exact ⟨⟨Rat.le_refl, by decide⟩, z0⟩
  have last : (0 ≤ (if opt = 2 then (if j = p then r p * l else 0) else 0) ∧ (if opt = 2 then (if j = p then r p * l else 0) else 0) ≤ 500) ∧ InZ (3600 * G) (if opt = 2 then (if j = p then r p * l else 0) else 0) := by
    by_cases o : opt = 2
    · rw [if_pos o]
      by_cases e : j = p
      · rw [if_pos e]; exact ⟨x4, z4⟩
      · rw [if_neg e]; exact ⟨⟨Rat.le_refl, by decide⟩, z0⟩
    · rw [if_neg o]
      exact ⟨⟨Rat.le_refl, by decide⟩, z0⟩
  have only : opt = 1 → (if opt = 2 then (if j = p then r p * l else 0) else 0) = 0 := fun o => by rw [if_neg (by omega)]
  have only2 : opt ≠ 1 → (if opt = 1 then (if j = p then l * (r p - a) else 0) + (if j = p + 1 then l * a else 0) else 0) = 0 := fun o => if_neg o
  unfold bF
  refine ⟨?_, ?_, (head.2.add mid.2).add last.2⟩
  · generalize a * (if j = 0 then 1 else 0) * vF opt p l j = A at head ⊢
    generalize (if opt = 1 then (if j = p then l * (r p - a) else 0) + (if j = p + 1 then l * a else 0) else 0) = B at mid ⊢
    generalize (if opt = 2 then (if j = p then r p * l else 0) else 0) = C at last ⊢
    grind
  · generalize a * (if j = 0 then 1 else 0) * vF opt p l j = A at head ⊢
    generalize (if opt = 1 then (if j = p then l * (r p - a) else 0) + (if j = p + 1 then l * a else 0) else 0) = B at mid only2 ⊢
    generalize (if opt = 2 then (if j = p then r p * l else 0) else 0) = C at last only ⊢
    by_cases o : opt = 1
    · have := only o
      grind
    · have := only2 o
      grind
theorem par_fix (P : Par n G r a l opt p t) (ho : opt = 0 ∨ opt = 1 ∨ opt = 2) {j : Nat} (hj : j < n) : r j = ledV n (biA (dF opt p l fun k => a / r k) (eF opt p l fun k => a / r k)) r j + bF opt p a l r j := by
  rw [bi_led hj]
  obtain ⟨_, _, ej⟩ := sh_facts P hj
  have h1 : r j * dF opt p l (fun k => a / r k) j = uF opt p l j * (r j - a) * vF opt p l j := by
    show r j * (uF opt p l j * (1 - a / r j) * vF opt p l j) = _
    grind
  have h2 : 0 < j → r (j - 1) * eF opt p l (fun k => a / r k) (j - 1) = uF opt p l (j - 1) * a * vF opt p l j := fun h => by
    obtain ⟨_, _, e'⟩ := sh_facts P (k := j - 1) (by omega)
    show r (j - 1) * (uF opt p l (j - 1) * (a / r (j - 1)) * vF opt p l (j - 1 + 1)) = _
    rw [show j - 1 + 1 = j by omega]
    grind
  rw [h1]
  unfold bF
  rcases ho with rfl | rfl | rfl
  · have u1 : ∀ z, uF 0 p l z = 1 := fun z => by unfold uF; rw [if_neg (fun y => absurd y.1 (by decide))]
    have v1 : vF 0 p l j = 1 := by unfold vF; rw [if_neg (fun y => absurd y.1 (by decide))]
    rw [if_neg (show ¬ (0 : Nat) = 1 by decide), if_neg (show ¬ (0 : Nat) = 2 by decide), u1, v1]
    by_cases z : 0 < j
    · rw [if_pos z, h2 z, u1, v1, if_neg (show ¬ j = 0 by omega)]; grind
    · rw [if_neg z, if_pos (show j = 0 by omega)]; grind
  · have v1 : vF 1 p l j = 1 := by unfold vF; rw [if_neg (fun y => absurd y.1 (by decide))]
    have u1 : ∀ z, uF 1 p l z = if z = p then 1 - l else 1 := fun z => by
      unfold uF
      by_cases e : z = p
      · rw [if_pos ⟨rfl, e⟩, if_pos e]
      · rw [if_neg (fun y => e y.2), if_neg e]
    rw [if_pos rfl, if_neg (show ¬ (1 : Nat) = 2 by decide), u1, v1]
    by_cases z : 0 < j
    · rw [if_pos z, h2 z, u1, v1, if_neg (show ¬ j = 0 by omega)]
      by_cases e1 : j = p
      · rw [if_pos e1, if_pos e1, if_neg (show ¬ j - 1 = p by omega), if_neg (show ¬ j = p + 1 by omega), ← e1]; grind
      · rw [if_neg e1, if_neg e1]
        by_cases e2 : j = p + 1
        · rw [if_pos e2, if_pos (show j - 1 = p by omega)]; grind
        · rw [if_neg e2, if_neg (show ¬ j - 1 = p by omega)]; grind
    · have j0 : j = 0 := by omega
      rw [if_neg z, if_pos j0, if_neg (show ¬ j = p + 1 by omega)]
      by_cases e1 : j = p
      · rw [if_pos e1, if_pos e1, ← e1]; grind
      · rw [if_neg e1, if_neg e1]; grind
  · have u1 : ∀ z, uF 2 p l z = 1 := fun z => by unfold uF; rw [if_neg (fun y => absurd y.1 (by decide))]
    have v1 : vF 2 p l j = if j = p then 1 - l else 1 := by
      unfold vF
      by_cases e : j = p
      · rw [if_pos ⟨rfl, e⟩, if_pos e]
      · rw [if_neg (fun y => e y.2), if_neg e]
    rw [if_neg (show ¬ (2 : Nat) = 1 by decide), if_pos rfl, u1, v1]
    by_cases z : 0 < j
    · rw [if_pos z, h2 z, u1, v1, if_neg (show ¬ j = 0 by omega)]
      by_cases e1 : j = p
      · rw [if_pos e1, if_pos e1, ← e1]; grind
      · rw [if_neg e1, if_neg e1]; grind
    · rw [if_neg z, if_pos (show j = 0 by omega)]
      by_cases e1 : j = p
      · rw [if_pos e1, if_pos e1, ← e1]; grind
      · rw [if_neg e1, if_neg e1]; grind
/-- all together -/
theorem par_bid (P : Par n G r a l opt p t) (ho : opt = 0 ∨ opt = 1 ∨ opt = 2) {nm : Nat → Str} {house : List Pl} {steps : List Stp} (W : Wk (n + 2) n (60 * G) nm (isI n t p opt (fun k => a / r k) a l (r p * l)) house steps) :
    Bid n (3600 * G) nm (wkRow n nm steps) (dF opt p l fun k => a / r k) (eF opt p l fun k => a / r k) r (bF opt p a l r) := by
  have n1 := P.n1
  have ht := P.ht
  have Gp := P.Gp
  have Gb := P.Gb
  have dfac : ∀ i, i < n → 0 ≤ dF opt p l (fun k => a / r k) i ∧ dF opt p l (fun k => a / r k) i ≤ 1 - a / r i ∧ InZ (3600 * G) (dF opt p l (fun k => a / r k) i) := fun i hi => by
    obtain ⟨s0, s1, _⟩ := sh_facts P hi
    obtain ⟨u0, u1, uz⟩ := u_facts P i
    obtain ⟨v0, v1, vz⟩ := v_facts P i
    have h := uxv u0 u1 (show 0 ≤ 1 - a / r i by grind) v0 v1
    exact ⟨h.1, h.2, ((uz.mul ((inz_one G).sub (P.sz i hi))).mul vz).mono ⟨1, by omega⟩⟩
  have efac : ∀ i, i < n → 0 ≤ eF opt p l (fun k => a / r k) i ∧ eF opt p l (fun k => a / r k) i ≤ a / r i ∧ InZ (3600 * G) (eF opt p l (fun k => a / r k) i) ∧ 0 < eF opt p l (fun k => a / r k) i := fun i hi => by
    obtain ⟨s0, s1, _⟩ := sh_facts P hi
    obtain ⟨u0, u1, uz⟩ := u_facts P i
    obtain ⟨v0, v1, vz⟩ := v_facts P (i + 1)
    have h := uxv u0 u1 (Rat.le_of_lt s0) v0 v1
    exact ⟨h.1, h.2, ((uz.mul (P.sz i hi)).mul vz).mono ⟨1, by omega⟩, Rat.mul_pos (Rat.mul_pos u0 s0) v0⟩
  have afac : ∀ i j, i < n → j < n → 0 ≤ biA (dF opt p l fun k => a / r k) (eF opt p l fun k => a / r k) i j ∧ biA (dF opt p l fun k => a / r k) (eF opt p l fun k => a / r k) i j ≤ 1 ∧ InZ (3600 * G) (biA (dF opt p l fun k => a / r k) (eF opt p l fun k => a / r k) i j) := fun i j hi hj => by
    obtain ⟨s0, s1, _⟩ := sh_facts P hi
    obtain ⟨d0, d1, dz⟩ := dfac i hi
    obtain ⟨e0, e1, ez, _⟩ := efac i hi
    unfold biA
    split
    · exact ⟨d0, by grind, dz⟩
    · split
      · exact ⟨e0, by grind, ez⟩
      · exact ⟨Rat.le_refl, by decide, inz_zero _⟩
  refine ⟨wk_T W (fun i j hi hj => alpha_eq n1 ht hi hj) (fun i j hi hj => (afac i j hi hj).1) (fun i j hi hj => (afac i j hi hj).2.1) (fun i j hi hj => (afac i j hi hj).2.2) (by omega) (Nat.lt_of_le_of_lt (Nat.mul_le_mul_left _ (Nat.le_of_lt Gb)) (by decide)),
    ⟨n1, fun i hi => ?_, ?_, fun i hi => ?_⟩, fun i hi => ?_, ⟨fun i hi => Rat.le_of_lt (P.rp i hi), fun i hi => ?_, fun i hi => (P.rz i hi).mono ⟨3600, Nat.mul_comm _ _⟩, by omega⟩, P.rp, ⟨fun i hi => (b_facts P hi).1, fun i hi => (b_facts P hi).2.1, fun i hi => (b_facts P hi).2.2, by omega⟩, fun j hj => par_fix P ho hj⟩
  · rw [bi_rs hi]
    have h1 := (dfac i hi).2.1
    have h2 := (efac i hi).2.1
    obtain ⟨s0, s1, _⟩ := sh_facts P hi
    split <;> grind
  · rw [bi_rs (by omega), if_neg (by omega)]
    have h1 := (dfac (n - 1) (by omega)).2.1
    obtain ⟨s0, s1, _⟩ := sh_facts P (k := n - 1) (by omega)
    grind
  · rw [bi_ee]; exact (efac i (by omega)).2.2.2
  · have h1 := (dfac i hi).2.1
    obtain ⟨s0, s1, _⟩ := sh_facts P hi
    grind
  · have := P.r5 i hi
    have h : (500 : Rat) ≤ ((512 : Nat) : Rat) := by decide +kernel
    grind
theorem par_out (P : Par n G r a l opt p t) : isFold (delta (n - 1)) (isI n t p opt (fun k => a / r k) a l (r p * l)) t ≠ 0 := by
  have n1 := P.n1
  have ht := P.ht
  have hp := P.hp
  have l0 := P.l0
  unfold isI
  rw [fold_app, fold_app, fold_app]
  obtain ⟨g, hg⟩ : ∃ g, isFold (delta (n - 1)) (if opt = 1 then moreI n p l (r p * l) else []) = g := ⟨_, rfl⟩
  have dn : ∀ z, 0 ≤ delta (n - 1) z := fun z => by unfold delta; split <;> decide
  have gz : ∀ z, z < n → 0 ≤ g z := fun z hz => by
    rw [← hg, pre_z _ hz]
    exact Rat.mul_nonneg (dn z) (Rat.le_of_lt (u_facts P z).1)
  have gn : 0 < g (n - 1) := by
    rw [← hg, pre_z _ (by omega)]
    unfold delta
    rw [if_pos rfl]
    have := (u_facts P (n - 1)).1
    grind
  have gt : 0 ≤ g t := by
    rw [← hg]
    by_cases o : opt = 1
    · rw [if_pos o, more_fold]
      show 0 ≤ delta (n - 1) t - (if t = p then delta (n - 1) p * l else 0) + (if t = n then delta (n - 1) p * l else 0)
      rw [if_neg (show ¬ t = p by omega)]
      have h1 := dn t
      have h2 := Rat.mul_nonneg (dn p) (Rat.le_of_lt l0)
      split <;> grind
    · rw [if_neg o]; exact dn t
  rw [hg]
  obtain ⟨F, hF⟩ : ∃ F, isFold (isFold g (chainP n t (fun k => a / r k) n)) [IS.bring 0 a] = F := ⟨_, rfl⟩
  have hF' : isFold g (chainP n t (fun k => a / r k) n) = F := hF
  have Ft : 0 < F t := by
    rw [← hF', chain_s n1 ht _ ht, if_pos rfl]
    have := Rat.mul_pos gn (sh_facts P (k := n - 1) (by omega)).1
    grind
  have Fp : 0 ≤ F p := by
    rw [← hF', chain_z n1 ht _ hp]
    obtain ⟨s0, s1, _⟩ := sh_facts P hp
    have h1 := Rat.mul_nonneg (gz p hp) (show 0 ≤ 1 - a / r p by grind)
    by_cases z : 0 < p
    · rw [if_pos z]
      have h2 := Rat.mul_nonneg (gz (p - 1) (by omega)) (Rat.le_of_lt (sh_facts P (k := p - 1) (by omega)).1)
      grind
    · rw [if_neg z]; grind
  rw [hF]
  by_cases o : opt = 2
  · rw [if_pos o, more_fold]
    show F t - (if t = p then F p * l else 0) + (if t = n then F p * l else 0) ≠ 0
    rw [if_neg (show ¬ t = p by omega)]
    have h2 := Rat.mul_nonneg Fp (Rat.le_of_lt l0)
    split <;> grind
  · rw [if_neg o]
    show F t ≠ 0
    grind
theorem par_hs (P : Par n G r a l opt p t) (ho : opt = 0 ∨ opt = 1 ∨ opt = 2) {nm : Nat → Str} {house : List Pl} {steps : List Stp} (W : Wk (n + 2) n (60 * G) nm (isI n t p opt (fun k => a / r k) a l (r p * l)) house steps) :
    Hs house steps ∧ ctabM house steps = tabOf n nm (wkRow n nm steps) ∧ btoM house steps = vec n nm (bF opt p a l r) := by
  have n1 := P.n1
  have n4 := P.n4
  have ht := P.ht
  obtain ⟨b1, b2⟩ := wk_bto W
  refine ⟨⟨wk_tab W, by rw [W.casks]; exact nm_nd (inj_le W.inj W.nN), by rw [W.casks, List.length_map, List.length_range]; omega, wk_noc W (fun i hi => ?_) ht P.ht2 (par_out P), b1⟩, wk_ctab W, ?_⟩
  · rw [alpha_eq n1 ht (by omega) hi, bi_ee]
    have u0 := (u_facts P i).1
    have v0 := (v_facts P (i + 1)).1
    have s0 := (sh_facts P (k := i) (by omega)).1
    have : 0 < eF opt p l (fun k => a / r k) i := Rat.mul_pos (Rat.mul_pos u0 s0) v0
    grind
  · rw [b2]
    exact vec_ext fun j hj => beta_eq n1 ht (P.rp p P.hp) (sh_facts P P.hp).2.2 rfl ho hj
end
end Tc
set_option Elab.async false
set_option linter.all false
set_option maxRecDepth 100000
set_option maxHeartbeats 4000000
set_option exponentiation.threshold 10000
namespace Tc
open PySem
/-! plain: what the deeds come to -/
def totY (rooms tot : AL Rat) : Dd → AL Rat
  | .year => tot
  | d => totD rooms tot d
def totAll (rooms tot : AL Rat) (ds : List Dd) : AL Rat := ds.foldl (totY rooms) tot
def AllOk (rooms : AL Rat) : AL Rat → List Dd → Prop
  | _, [] => True
  | tot, d :: ds => StOk rooms tot d ∧ AllOk rooms (totY rooms tot d) ds
def stpY (rooms tot : AL Rat) : Dd → List Stp
  | .year => []
  | d => [er (stepD rooms tot 0 d)]
def accY (rooms : AL Rat) : AL Rat → List Dd → List Stp
  | _, [] => []
  | tot, d :: ds => stpY rooms tot d ++ accY rooms (totY rooms tot d) ds
section
variable {rooms : AL Rat}
theorem totY_do {tot : AL Rat} {d : Dd} (h : d ≠ .year) : totY rooms tot d = totD rooms tot d := by cases d <;> first | rfl | exact absurd rfl h
theorem stpY_do {tot : AL Rat} {d : Dd} (h : d ≠ .year) : stpY rooms tot d = [er (stepD rooms tot 0 d)] := by cases d <;> first | rfl | exact absurd rfl h
theorem er_step (tot : AL Rat) (y : Int) (d : Dd) : er (stepD rooms tot y d) = er (stepD rooms tot 0 d) := by cases d <;> rfl
theorem ss_tot : ∀ (ds : List Dd) (s : SS), (ssAll rooms s ds).tot = totAll rooms s.tot ds ∧ (ssAll rooms s ds).acc.map er = s.acc.map er ++ accY rooms s.tot ds := by
  intro ds
  induction ds with
  | nil => intro s; exact ⟨rfl, by show s.acc.map er = s.acc.map er ++ []; rw [List.append_nil]⟩
  | cons d ds ih =>
    intro s
    have h := ih (ssOne rooms s d)
    show (ssAll rooms (ssOne rooms s d) ds).tot = totAll rooms (totY rooms s.tot d) ds ∧ (ssAll rooms (ssOne rooms s d) ds).acc.map er = s.acc.map er ++ (stpY rooms s.tot d ++ accY rooms (totY rooms s.tot d) ds)
    rw [h.1, h.2]
    by_cases ny : d = .year
    · subst ny
      exact ⟨rfl, rfl⟩
    · rw [ssOne_do ny, totY_do ny, stpY_do ny]
      refine ⟨rfl, ?_⟩
      rw [List.map_append, List.append_assoc]
      show s.acc.map er ++ ([er (stepD rooms s.tot s.year d)] ++ _) = _
      rw [er_step]
theorem tot_app (tot : AL Rat) (a b : List Dd) : totAll rooms tot (a ++ b) = totAll rooms (totAll rooms tot a) b := by unfold totAll; rw [List.foldl_append]
theorem ok_app : ∀ (a : List Dd) (b : List Dd) (tot : AL Rat), AllOk rooms tot (a ++ b) ↔ AllOk rooms tot a ∧ AllOk rooms (totAll rooms tot a) b := by
  intro a
  induction a with
  | nil => intro b tot; exact ⟨fun h => ⟨True.intro, h⟩, fun h => h.2⟩
  | cons d a ih =>
    intro b tot
    show StOk rooms tot d ∧ AllOk rooms (totY rooms tot d) (a ++ b) ↔ (StOk rooms tot d ∧ AllOk rooms (totY rooms tot d) a) ∧ AllOk rooms (totAll rooms (totY rooms tot d) a) b
    rw [ih]
    exact and_assoc.symm
theorem acc_app : ∀ (a : List Dd) (b : List Dd) (tot : AL Rat), accY rooms tot (a ++ b) = accY rooms tot a ++ accY rooms (totAll rooms tot a) b := by
  intro a
  induction a with
  | nil => intro b tot; rfl
  | cons d a ih =>
    intro b tot
    show stpY rooms tot d ++ accY rooms (totY rooms tot d) (a ++ b) = (stpY rooms tot d ++ accY rooms (totY rooms tot d) a) ++ accY rooms (totAll rooms (totY rooms tot d) a) b
    rw [ih, List.append_assoc]
theorem year_in {a b : List Dd} {tot : AL Rat} (h : AllOk rooms tot (a ++ b)) : AllOk rooms tot (a ++ [.year] ++ b) ∧ accY rooms tot (a ++ [.year] ++ b) = accY rooms tot (a ++ b) := by
  rw [ok_app] at h
  refine ⟨?_, ?_⟩
  · rw [List.append_assoc, ok_app]
    exact ⟨h.1, True.intro, h.2⟩
  · rw [List.append_assoc, acc_app (rooms := rooms) a ([Dd.year] ++ b), acc_app (rooms := rooms) [Dd.year] b, acc_app (rooms := rooms) a b]
    rfl
theorem allOk_at : ∀ {ds : List Dd} {tot : AL Rat}, AllOk rooms tot ds → ∀ i d, ds[i]? = some d → StOk rooms (totAll rooms tot (ds.take i)) d := by
  intro ds
  induction ds with
  | nil => intro tot _ i d h; cases h
  | cons a ds ih =>
    intro tot h i d hi
    cases i with
    | zero => cases hi; exact h.1
    | succ i => exact ih h.2 i d hi
theorem tot_len : ∀ (ds : List Dd) (tot : AL Rat), (totAll rooms tot ds).length ≤ tot.length + 2 * ds.length := by
  intro ds
  induction ds with
  | nil => intro tot; exact Nat.le_add_right _ _
  | cons d ds ih =>
    intro tot
    have h := ih (totY rooms tot d)
    have h1 : (totY rooms tot d).length ≤ tot.length + 2 := by
      cases d with
      | year => exact Nat.le_add_right _ _
      | bring l x q => exact Nat.le_trans (aput_len _ _ _) (by omega)
      | move x y q => exact Nat.le_trans (aput_len _ _ _) (Nat.succ_le_succ (aput_len _ _ _))
      | fill x y => exact Nat.le_trans (aput_len _ _ _) (Nat.succ_le_succ (aput_len _ _ _))
      | part x y q => exact Nat.le_trans (aput_len _ _ _) (Nat.succ_le_succ (aput_len _ _ _))
    rw [List.length_cons]
    show (totAll rooms (totY rooms tot d) ds).length ≤ _
    omega
end
/-! one deed -/
def TR (N : Nat) (nm : Nat → Str) (tot : AL Rat) (f : Nat → Rat) : Prop := ∀ i, i < N → aget tot (nm i) = some (f i)
/-- rooms by places -/
structure RmR (n : Nat) (nm : Nat → Str) (rooms : AL Rat) (r : Nat → Rat) : Prop where
  cask : ∀ i, i < n → aget rooms (nm i) = some (r i)
  sink : ∀ i, n ≤ i → i < n + 2 → aget rooms (nm i) = none
section
variable {n : Nat} {nm : Nat → Str} {rooms tot : AL Rat} {r f : Nat → Rat}
theorem pass_run (inj : Inj (n + 2) nm) (R : RmR n nm rooms r) (T : TR (n + 2) nm tot f) {d : Dd} {x y : Nat} {s q : Rat} (nb : ∀ l x q, d ≠ .bring l x q) (ny : d ≠ .year) (h1 : d.n1 = nm x) (h2 : d.n2 = nm y) (hx : x < n + 2) (hy : y < n + 2) (hxy : x ≠ y)
    (tk : TkOk rooms tot d) (hs : tkOf rooms tot d = s) (hq : f x * s = q) (o1 : Ok q) (o2 : Ok (f x - q)) (o3 : Ok (f y + q)) (full : y < n → ¬ r y < f y + q) :
    StOk rooms tot d ∧ TR (n + 2) nm (totD rooms tot d) (fun z => if z = y then f y + q else if z = x then f x - q else f z) ∧ er (stepD rooms tot 0 d) = isSt nm (.pass x y s) := by
  have hyx : ¬ y = x := fun z => hxy z.symm
  have hout : outD rooms tot d = aput tot (nm x) (f x - q) := by unfold outD; rw [h1, T x hx, hs]; show aput tot (nm x) (f x - f x * s) = _; rw [hq]
  have hne : ¬ nm y = nm x := fun z => hyx (inj y x hy hx z)
  have hoy : aget (outD rooms tot d) (nm y) = some (f y) := by rw [hout, aget_put, if_neg hne]; exact T y hy
  refine ⟨?_, ?_, ?_⟩
  · have key : TkOk rooms tot d ∧ ∃ tx ty, aget tot d.n1 = some tx ∧ aget (outD rooms tot d) d.n2 = some ty ∧ Ok (tx * tkOf rooms tot d) ∧ Ok (tx - tx * tkOf rooms tot d) ∧ Ok (ty + tx * tkOf rooms tot d) ∧ ∀ r, aget rooms d.n2 = some r → ¬ r < ty + tx * tkOf rooms tot d := by
      refine ⟨tk, f x, f y, by rw [h1]; exact T x hx, by rw [h2]; exact hoy, ?_⟩
      rw [hs, hq]
      refine ⟨o1, o2, o3, fun r' hr' => ?_⟩
      rw [h2] at hr'
      by_cases hyn : y < n
      · rw [R.cask y hyn] at hr'
        cases hr'
        exact full hyn
      · rw [R.sink y (by omega) hy] at hr'
        cases hr'
    cases d with
    | bring l x q => exact absurd rfl (nb l x q)
    | year => exact absurd rfl ny
    | move x y q => exact key
    | fill x y => exact key
    | part x y s => exact key
  · intro i hi
    rw [totD_pass nb, h2, hoy, h1, T x hx, hs, hout]
    show aget (aput (aput tot (nm x) (f x - q)) (nm y) (f y + f x * s)) (nm i) = some (if i = y then f y + q else if i = x then f x - q else f i)
    rw [hq, aget_put, aget_put]
    by_cases e : i = y
    · subst e; rw [if_pos rfl, if_pos rfl]
    · rw [if_neg fun z => e (inj i y hi hy z), if_neg e]
      by_cases e2 : i = x
      · subst e2; rw [if_pos rfl, if_pos rfl]
      · rw [if_neg fun z => e2 (inj i x hi hx z), if_neg e2]; exact T i hi
  · rw [stepD_pass nb, h1, h2, hs]
    rfl
theorem bring_run (inj : Inj (n + 2) nm) (R : RmR n nm rooms r) (T : TR (n + 2) nm tot f) {l : Str} {x : Nat} {q : Rat} (hx : x < n) (o : Ok (f x + q)) (full : ¬ r x < f x + q) :
    StOk rooms tot (.bring l (nm x) q) ∧ TR (n + 2) nm (totD rooms tot (.bring l (nm x) q)) (fun z => if z = x then f x + q else f z) ∧ er (stepD rooms tot 0 (.bring l (nm x) q)) = isSt nm (.bring x q) := by
  refine ⟨⟨f x, T x (by omega), o, fun r' hr' => ?_⟩, fun i hi => ?_, rfl⟩
  · rw [R.cask x hx] at hr'
    cases hr'
    exact full
  · show aget (aput tot (nm x) ((aget tot (nm x)).getD 0 + q)) (nm i) = some (if i = x then f x + q else f i)
    rw [T x (by omega), aget_put]
    by_cases e : i = x
    · subst e; rw [if_pos rfl, if_pos rfl]; rfl
    · rw [if_neg fun z => e (inj i x hi (by omega) z), if_neg e]; exact T i hi
end
/-- a deed that goes on well, told with its step -/
def Run (rooms : AL Rat) (N : Nat) (nm : Nat → Str) (tot : AL Rat) (ds : List Dd) (is : List IS) (f' : Nat → Rat) : Prop :=
  AllOk rooms tot ds ∧ TR N nm (totAll rooms tot ds) f' ∧ accY rooms tot ds = is.map (isSt nm)
section
variable {rooms tot : AL Rat} {N : Nat} {nm : Nat → Str} {f' f'' : Nat → Rat}
theorem run_app {a b : List Dd} {is js : List IS} (h : Run rooms N nm tot a is f') (g : Run rooms N nm (totAll rooms tot a) b js f'') : Run rooms N nm tot (a ++ b) (is ++ js) f'' := by
  obtain ⟨h1, h2, h3⟩ := h
  obtain ⟨g1, g2, g3⟩ := g
  refine ⟨(ok_app a b tot).mpr ⟨h1, g1⟩, by rw [tot_app]; exact g2, ?_⟩
  rw [acc_app, h3, g3, List.map_append]
theorem run_one {d : Dd} {i : IS} (h : StOk rooms tot d ∧ TR N nm (totD rooms tot d) f' ∧ er (stepD rooms tot 0 d) = isSt nm i) (ny : d ≠ .year) : Run rooms N nm tot [d] [i] f' := by
  refine ⟨⟨h.1, True.intro⟩, ?_, ?_⟩
  · show TR N nm (totY rooms tot d) f'
    rw [totY_do ny]; exact h.2.1
  · show stpY rooms tot d ++ [] = _
    rw [stpY_do ny, h.2.2]; rfl
theorem run_ext {ds : List Dd} {is : List IS} (h : Run rooms N nm tot ds is f') (e : ∀ i, i < N → f' i = f'' i) : Run rooms N nm tot ds is f'' := ⟨h.1, fun i hi => by rw [← e i hi]; exact h.2.1 i hi, h.2.2⟩
theorem run_nil {f : Nat → Rat} (T : TR N nm tot f) : Run rooms N nm tot [] [] f := ⟨True.intro, T, rfl⟩
end
/-! the round's deeds -/
structure Deeds (n t p : Nat) (nm : Nat → Str) (r : Nat → Rat) (cs : List (Str × Rat)) (ns : List Str) (cells : List Int) : Prop where
  len : cs.length = n
  get : ∀ i, i < n → cs.getD i ("", 0) = (nm i, r i)
  s4 : ns.getD 4 "" = nm n
  st : ns.getD (4 + cells.getD 2 0 / 4 % 2).toNat "" = nm t
  pp : partP cs cells = p
section
variable {n t p G opt : Nat} {nm : Nat → Str} {r : Nat → Rat} {a l : Rat} {cs : List (Str × Rat)} {ns : List Str} {cells : List Int} {rooms tot : AL Rat} {f : Nat → Rat}
theorem ok_sm {q : Rat} (hG : 0 < G) (Gb : G < 2 ^ 50) (hz : InZ G q) (lo : -100000 ≤ q) (hi : q ≤ 100000) : Ok q := by
  have h : ((100000 : Nat) : Rat) = 100000 := by decide +kernel
  exact ok_of (B := 100000) hG hz (by rw [h]; exact lo) (by rw [h]; exact hi) (Nat.lt_of_le_of_lt (Nat.mul_le_mul_left _ (Nat.le_of_lt Gb)) (by decide +kernel)) (Nat.lt_trans Gb (by decide +kernel))
/-- the totals behind m passes -/
def gm (n t : Nat) (r f : Nat → Rat) (a : Rat) (m : Nat) : Nat → Rat := fun z => if z < n then (if 0 < m ∧ z + m = n then r z - a else r z) else if z = t ∧ 0 < m then f t + a else f z
theorem passes_run (inj : Inj (n + 2) nm) (R : RmR n nm rooms r) (P : Par n G r a l opt p t) (Dg : Deeds n t p nm r cs ns cells) (ha : amountF cs cells = a) (T : TR (n + 2) nm tot f) (full : ∀ i, i < n → f i = r i) (ft0 : 0 ≤ f t) (ft1 : f t ≤ 1000) (ftz : InZ (60 * G) (f t)) :
    ∀ j, j + 1 ≤ n → Run rooms (n + 2) nm tot ([Dd.move (cs.getD (cs.length - 1) ("", 0)).1 (ns.getD (4 + cells.getD 2 0 / 4 % 2).toNat "") (amountF cs cells)] ++ (List.range j).map fun i => turnD cs cells (cs.length - 1 - i)) (chainP n t (fun k => a / r k) (j + 1)) (gm n t r f a (j + 1)) := by
  have n1 := P.n1
  have ht := P.ht
  have ht2 := P.ht2
  have a0 := P.a0
  have Gp : 0 < 60 * G := by have := P.Gp; omega
  have Gb : 60 * G < 2 ^ 50 := Nat.lt_of_le_of_lt (Nat.mul_le_mul_left _ (Nat.le_of_lt P.Gb)) (by decide)
  have gd : G ∣ 60 * G := ⟨60, Nat.mul_comm _ _⟩
  have az := P.az.mono gd
  have rz := fun k hk => (P.rz k hk).mono gd
  have ab : a ≤ 500 := by have := P.ar 0 (by omega); have := P.r5 0 (by omega); grind
  have oka : Ok a := ok_sm Gp Gb az (by grind) (by grind)
  intro j
  induction j with
  | zero =>
    intro _
    rw [Dg.len, Dg.get (n - 1) (by omega), Dg.st, ha]
    obtain ⟨s0, s1, se⟩ := sh_facts P (k := n - 1) (by omega)
    have rp := P.rp (n - 1) (by omega)
    have ar := P.ar (n - 1) (by omega)
    have r5 := P.r5 (n - 1) (by omega)
    have hfx := full (n - 1) (by omega)
    have hq : f (n - 1) * (a / r (n - 1)) = a := by rw [hfx]; grind
    have hTx : aget tot (nm (n - 1)) = some (r (n - 1)) := by rw [T (n - 1) (by omega), hfx]
    have h := pass_run inj R T (d := .move (nm (n - 1)) (nm t) a) (x := n - 1) (y := t) (s := a / r (n - 1)) (q := a) (fun _ _ _ z => nomatch z) (fun z => nomatch z) rfl rfl (by omega) ht2 (by omega)
      ⟨r (n - 1), hTx, a0, by grind, rp, ok_sm P.Gp (Nat.lt_of_lt_of_le P.Gb (by decide)) (P.sz (n - 1) (by omega)) (by grind) (by grind)⟩ (by show a / (aget tot (nm (n - 1))).getD 0 = _; rw [hTx]; rfl) hq oka
      (by rw [hfx]; exact ok_sm Gp Gb ((rz (n - 1) (by omega)).sub az) (by grind) (by grind)) (ok_sm Gp Gb (ftz.add az) (by grind) (by grind)) (fun z => by omega)
    have hr := run_ext (f'' := gm n t r f a 1) (run_one h (fun z => nomatch z)) fun i hi => by
      unfold gm
      by_cases e1 : i = t
      · subst e1
        rw [if_pos rfl, if_neg (by omega), if_pos ⟨rfl, by decide⟩]
      · rw [if_neg e1]
        by_cases e2 : i = n - 1
        · subst e2
          rw [if_pos rfl, if_pos (by omega), if_pos (by omega), hfx]
        · rw [if_neg e2]
          by_cases e3 : i < n
          · rw [if_pos e3, if_neg (by omega)]; exact full i e3
          · rw [if_neg e3, if_neg (fun y => e1 y.1)]
    have ec : chainP n t (fun k => a / r k) 1 = [IS.pass (n - 1) t (a / r (n - 1))] := by
      show [IS.pass (n - 1 - 0) (tgI n t (n - 1 - 0)) (a / r (n - 1 - 0))] = _
      have e : tgI n t (n - 1) = t := by unfold tgI; rw [if_pos rfl]
      rw [Nat.sub_zero, e]
    rw [ec]
    exact hr
  | succ j ih =>
    intro hj
    have ih := ih (by omega)
    rw [List.range_succ, List.map_append, ← List.append_assoc, chainP_succ]
    refine run_app ih ?_
    have T' := ih.2.1
    generalize totAll rooms tot _ = tot' at T'
    rw [Dg.len]
    obtain ⟨k, hk⟩ : ∃ k, n - 1 - j = k := ⟨_, rfl⟩
    have hk1 : n - 1 - (j + 1) = k - 1 := by omega
    have kp : 0 < k := by omega
    rw [hk1]
    have tg : tgI n t (k - 1) = k := by unfold tgI; rw [if_neg (by omega)]; omega
    rw [tg]
    have gx : gm n t r f a (j + 1) (k - 1) = r (k - 1) := by unfold gm; rw [if_pos (by omega), if_neg (by omega)]
    have gy : gm n t r f a (j + 1) k = r k - a := by unfold gm; rw [if_pos (by omega), if_pos (by omega)]
    obtain ⟨s0, s1, se⟩ := sh_facts P (k := k - 1) (by omega)
    have rp := P.rp (k - 1) (by omega)
    have ar := P.ar (k - 1) (by omega)
    have r5 := P.r5 (k - 1) (by omega)
    have rpk := P.rp k (by omega)
    have ark := P.ar k (by omega)
    have r5k := P.r5 k (by omega)
    have hTx : aget tot' (nm (k - 1)) = some (r (k - 1)) := by rw [T' (k - 1) (by omega), gx]
    have hTy : aget tot' (nm k) = some (r k - a) := by rw [T' k (by omega), gy]
    have hRy := R.cask k (by omega)
    have hq : gm n t r f a (j + 1) (k - 1) * (a / r (k - 1)) = a := by rw [gx]; grind
    have okq : Ok (a / r (k - 1)) := ok_sm P.Gp (Nat.lt_of_lt_of_le P.Gb (by decide)) (P.sz (k - 1) (by omega)) (by grind) (by grind)
    have hra : r k - (r k - a) = a := by grind
    have hraa : r k - a + a = r k := by grind
    have one : ∀ d : Dd, turnD cs cells k = d → (∀ l x q, d ≠ .bring l x q) → d ≠ .year → d.n1 = nm (k - 1) → d.n2 = nm k → TkOk rooms tot' d → tkOf rooms tot' d = a / r (k - 1) → Run rooms (n + 2) nm tot' [turnD cs cells k] [IS.pass (k - 1) k (a / r (k - 1))] (gm n t r f a (j + 1 + 1)) := fun d hd nb ny e1 e2 tk hs => by
      rw [hd]
      have h := pass_run inj R T' nb ny e1 e2 (by omega) (by omega) (by omega) tk hs hq oka (by rw [gx]; exact ok_sm Gp Gb ((rz (k - 1) (by omega)).sub az) (by grind) (by grind)) (by rw [gy, hraa]; exact ok_sm Gp Gb (rz k (by omega)) (by grind) (by grind)) (fun _ => by rw [gy, hraa]; grind)
      refine run_ext (run_one h ny) fun i hi => ?_
      show (if i = k then gm n t r f a (j + 1) k + a else if i = k - 1 then gm n t r f a (j + 1) (k - 1) - a else gm n t r f a (j + 1) i) = gm n t r f a (j + 1 + 1) i
      rw [gx, gy]
      unfold gm
      by_cases e1 : i = k
      · subst e1
        rw [if_pos rfl, if_pos (by omega), if_neg (by omega)]; exact hraa
      · rw [if_neg e1]
        by_cases e2 : i = k - 1
        · subst e2
          rw [if_pos rfl, if_pos (by omega), if_pos (by omega)]
        · rw [if_neg e2]
          by_cases e3 : i < n
          · rw [if_pos e3, if_pos e3, if_neg (by omega), if_neg (by omega)]
          · rw [if_neg e3, if_neg e3]
            by_cases e4 : i = t
            · rw [if_pos ⟨e4, by omega⟩, if_pos ⟨e4, by omega⟩]
            · rw [if_neg (fun y => e4 y.1), if_neg (fun y => e4 y.1)]
    show Run rooms (n + 2) nm tot' [turnD cs cells (n - 1 - j)] _ _
    rw [hk]
    by_cases hc : mixedF (cells.getD 3 0) (k % 4) % 2 = 0
    · refine one (.fill (nm (k - 1)) (nm k)) (by unfold turnD; rw [if_pos hc, Dg.get (k - 1) (by omega), Dg.get k (by omega)]) (fun _ _ _ z => nomatch z) (fun z => nomatch z) rfl rfl ⟨r (k - 1), r k - a, r k, hTx, hTy, hRy, by rw [hra]; exact oka, by rw [hra]; exact a0, by rw [hra]; grind, rp, by rw [hra]; exact okq⟩ ?_
      show ((aget rooms (nm k)).getD 0 - (aget tot' (nm k)).getD 0) / (aget tot' (nm (k - 1))).getD 0 = _
      rw [hRy, hTy, hTx]
      show (r k - (r k - a)) / r (k - 1) = _
      rw [hra]
    · refine one (.move (nm (k - 1)) (nm k) a) (by unfold turnD; rw [if_neg hc, Dg.get (k - 1) (by omega), Dg.get k (by omega), ha]) (fun _ _ _ z => nomatch z) (fun z => nomatch z) rfl rfl ⟨r (k - 1), hTx, a0, by grind, rp, okq⟩ ?_
      show a / (aget tot' (nm (k - 1))).getD 0 = _
      rw [hTx]; rfl
theorem main_run (inj : Inj (n + 2) nm) (R : RmR n nm rooms r) (P : Par n G r a l opt p t) (Dg : Deeds n t p nm r cs ns cells) (ha : amountF cs cells = a) (T : TR (n + 2) nm tot f) (full : ∀ i, i < n → f i = r i) (ft0 : 0 ≤ f t) (ft1 : f t ≤ 1000) (ftz : InZ (60 * G) (f t)) :
    Run rooms (n + 2) nm tot (mainD cs ns cells) (chainP n t (fun k => a / r k) n ++ [IS.bring 0 a]) (fun z => if z = t then f t + a else f z) := by
  have n1 := P.n1
  have ht := P.ht
  have h1 := passes_run inj R P Dg ha T full ft0 ft1 ftz (n - 1) (by omega)
  rw [show n - 1 + 1 = n by omega] at h1
  unfold mainD
  rw [Dg.get 0 (by omega)]
  rw [show (List.range (cs.length - 1)) = List.range (n - 1) by rw [Dg.len]]
  refine run_app h1 ?_
  have T' := h1.2.1
  generalize totAll rooms tot _ = tot' at T'
  have g0 : gm n t r f a n 0 = r 0 - a := by unfold gm; rw [if_pos (by omega), if_pos (by omega)]
  have hraa : r 0 - a + a = r 0 := by grind
  have rp := P.rp 0 (by omega)
  have r5 := P.r5 0 (by omega)
  rw [ha]
  have h := bring_run inj R T' (l := ns.getD (6 + cells.getD 3 0 % 3).toNat "") (x := 0) (q := a) (by omega) (by rw [g0, hraa]; exact ok_sm P.Gp (Nat.lt_of_lt_of_le P.Gb (by decide)) (P.rz 0 (by omega)) (by grind) (by grind)) (by rw [g0, hraa]; grind)
  refine run_ext (run_one h (fun z => nomatch z)) fun i hi => ?_
  show (if i = 0 then gm n t r f a n 0 + a else gm n t r f a n i) = _
  rw [g0, hraa]
  by_cases e0 : i = 0
  · subst e0
    rw [if_pos rfl, if_neg (show ¬ 0 = t by omega)]
    exact (full 0 (by omega)).symm
  · rw [if_neg e0]
    unfold gm
    by_cases e1 : i < n
    · rw [if_pos e1, if_neg (by omega), if_neg (by omega)]; exact (full i e1).symm
    · rw [if_neg e1]
      by_cases e2 : i = t
      · rw [if_pos ⟨e2, by omega⟩, if_pos e2]
      · rw [if_neg (fun y => e2 y.1), if_neg e2]
theorem more_run (inj : Inj (n + 2) nm) (R : RmR n nm rooms r) (P : Par n G r a l opt p t) (Dg : Deeds n t p nm r cs ns cells) (hl : lostF cells = l) (T : TR (n + 2) nm tot f) (full : ∀ i, i < n → f i = r i) (fn0 : 0 ≤ f n) (fn1 : f n ≤ 1000) (fnz : InZ (60 * G) (f n)) :
    Run rooms (n + 2) nm tot (moreD cs ns cells) (moreI n p l (r p * l)) (fun z => if z = n then f n + r p * l else f z) := by
  have hp := P.hp
  have l0 := P.l0
  have l1 := P.l1
  have rp := P.rp p hp
  have r5 := P.r5 p hp
  have Gp : 0 < 60 * G := by have := P.Gp; omega
  have Gb : 60 * G < 2 ^ 50 := Nat.lt_of_le_of_lt (Nat.mul_le_mul_left _ (Nat.le_of_lt P.Gb)) (by decide)
  have rlz : InZ (60 * G) (r p * l) := by
    have := (P.rz p hp).mul P.lz
    rw [Nat.mul_comm] at this
    exact this
  have rl0 := Rat.mul_nonneg (Rat.le_of_lt rp) (Rat.le_of_lt l0)
  have rl1 : r p * l ≤ r p := by
    have := Rat.mul_le_mul_of_nonneg_left (Rat.le_of_lt l1) (Rat.le_of_lt rp)
    grind
  have rz := (P.rz p hp).mono (⟨60, Nat.mul_comm _ _⟩ : G ∣ 60 * G)
  have hfp := full p hp
  have hm : moreD cs ns cells = [Dd.part (nm p) (nm n) l] ++ [Dd.bring (ns.getD 7 "") (nm p) (r p * l)] := by
    unfold moreD
    rw [Dg.pp, Dg.get p hp, Dg.s4, hl]
    rfl
  rw [hm]
  have h1 := pass_run inj R T (d := .part (nm p) (nm n) l) (x := p) (y := n) (s := l) (q := r p * l) (fun _ _ _ z => nomatch z) (fun z => nomatch z) rfl rfl (by omega) (by omega) (by omega) True.intro rfl (by rw [hfp])
    (ok_sm Gp Gb rlz (by grind) (by grind)) (by rw [hfp]; exact ok_sm Gp Gb (rz.sub rlz) (by grind) (by grind)) (ok_sm Gp Gb (fnz.add rlz) (by grind) (by grind)) (fun z => by omega)
  have hr1 := run_one h1 (fun z => nomatch z)
  refine run_app (is := [IS.pass p n l]) (js := [IS.bring p (r p * l)]) hr1 ?_
  have T' := hr1.2.1
  generalize totAll rooms tot _ = tot' at T'
  have gp : (if p = n then f n + r p * l else if p = p then f p - r p * l else f p) = r p - r p * l := by
    rw [if_neg (by omega), if_pos rfl, hfp]
  have hraa : r p - r p * l + r p * l = r p := by grind
  have h := bring_run inj R T' (l := ns.getD 7 "") (x := p) (q := r p * l) hp (by rw [gp, hraa]; exact ok_sm Gp Gb rz (by grind) (by grind)) (by rw [gp, hraa]; grind)
  refine run_ext (run_one h (fun z => nomatch z)) fun i hi => ?_
  show (if i = p then (if p = n then f n + r p * l else if p = p then f p - r p * l else f p) + r p * l else (if i = n then f n + r p * l else if i = p then f p - r p * l else f i)) = _
  by_cases e : i = p
  · subst e
    rw [if_pos rfl, if_neg (by omega), if_pos rfl, if_neg (by omega), hfp]; exact hraa
  · rw [if_neg e, if_neg e]
/-- which of the three rounds it is -/
def optF (cells : List Int) : Nat := if cells.getD 4 0 % 2 = 1 then (if cells.getD 4 0 / 72 % 2 = 0 then 1 else 2) else 0
theorem work_run (inj : Inj (n + 2) nm) (R : RmR n nm rooms r) (P : Par n G r a l (optF cells) p t) (Dg : Deeds n t p nm r cs ns cells) (ha : amountF cs cells = a) (hl : lostF cells = l) (T : TR (n + 2) nm tot f) (full : ∀ i, i < n → f i = r i) (sinks : ∀ i, n ≤ i → i < n + 2 → f i = 0) :
    ∃ f', Run rooms (n + 2) nm tot (workD cs ns cells) (isI n t p (optF cells) (fun k => a / r k) a l (r p * l)) f' := by
  have n1 := P.n1
  have ht := P.ht
  have ht2 := P.ht2
  have hp := P.hp
  have a0 := P.a0
  have l0 := P.l0
  have l1 := P.l1
  have rp := P.rp p hp
  have r5 := P.r5 p hp
  have ar := P.ar p hp
  have rl0 := Rat.mul_nonneg (Rat.le_of_lt rp) (Rat.le_of_lt l0)
  have rl1 : r p * l ≤ r p := by
    have := Rat.mul_le_mul_of_nonneg_left (Rat.le_of_lt l1) (Rat.le_of_lt rp)
    grind
  have rlz : InZ (60 * G) (r p * l) := by
    have := (P.rz p hp).mul P.lz
    rw [Nat.mul_comm] at this
    exact this
  have az : InZ (60 * G) a := P.az.mono ⟨60, Nat.mul_comm _ _⟩
  have ft := sinks t ht ht2
  have fn := sinks n (Nat.le_refl n) (by omega)
  by_cases c1 : cells.getD 4 0 % 2 = 1
  · by_cases c2 : cells.getD 4 0 / 72 % 2 = 0
    · have ho : optF cells = 1 := by unfold optF; rw [if_pos c1, if_pos c2]
      have hw : workD cs ns cells = moreD cs ns cells ++ mainD cs ns cells := by
        unfold workD partAt
        rw [if_pos c1, if_pos c2, List.take_zero, List.drop_zero, List.nil_append]
      have hi : isI n t p (optF cells) (fun k => a / r k) a l (r p * l) = moreI n p l (r p * l) ++ (chainP n t (fun k => a / r k) n ++ [IS.bring 0 a]) := by
        unfold isI
        rw [ho, if_pos rfl, if_neg (by decide), List.append_nil]
      rw [hw, hi]
      have h1 := more_run inj R P Dg hl T full (by rw [fn]; decide) (by rw [fn]; decide) (by rw [fn]; exact inz_zero _)
      refine ⟨_, run_app h1 (main_run inj R P Dg ha h1.2.1 (fun i hi => ?_) ?_ ?_ ?_)⟩
      · show (if i = n then f n + r p * l else f i) = r i
        rw [if_neg (by omega)]; exact full i hi
      · show 0 ≤ (if t = n then f n + r p * l else f t)
        rw [fn, ft]; split <;> grind
      · show (if t = n then f n + r p * l else f t) ≤ 1000
        rw [fn, ft]; split <;> grind
      · show InZ (60 * G) (if t = n then f n + r p * l else f t)
        rw [fn, ft]
        split
        · exact (inz_zero _).add rlz
        · exact inz_zero _
    · have ho : optF cells = 2 := by unfold optF; rw [if_pos c1, if_neg c2]
      have hw : workD cs ns cells = mainD cs ns cells ++ moreD cs ns cells := by
        unfold workD partAt
        rw [if_pos c1, if_neg c2, List.take_length, List.drop_length, List.append_nil]
      have hi : isI n t p (optF cells) (fun k => a / r k) a l (r p * l) = (chainP n t (fun k => a / r k) n ++ [IS.bring 0 a]) ++ moreI n p l (r p * l) := by
        unfold isI
        rw [ho, if_neg (by decide), if_pos rfl, List.nil_append]
      rw [hw, hi]
      have h1 := main_run inj R P Dg ha T full (by rw [ft]; decide) (by rw [ft]; decide) (by rw [ft]; exact inz_zero _)
      refine ⟨_, run_app h1 (more_run inj R P Dg hl h1.2.1 (fun i hi => ?_) ?_ ?_ ?_)⟩
      · show (if i = t then f t + a else f i) = r i
        rw [if_neg (by omega)]; exact full i hi
      · show 0 ≤ (if n = t then f t + a else f n)
        rw [fn, ft]; split <;> grind
      · show (if n = t then f t + a else f n) ≤ 1000
        rw [fn, ft]; split <;> grind
      · show InZ (60 * G) (if n = t then f t + a else f n)
        rw [fn, ft]
        split
        · exact (inz_zero _).add az
        · exact inz_zero _
  · have ho : optF cells = 0 := by unfold optF; rw [if_neg c1]
    have hw : workD cs ns cells = mainD cs ns cells := by unfold workD; rw [if_neg c1]
    have hi : isI n t p (optF cells) (fun k => a / r k) a l (r p * l) = chainP n t (fun k => a / r k) n ++ [IS.bring 0 a] := by
      unfold isI
      rw [ho, if_neg (by decide), if_neg (by decide), List.nil_append, List.append_nil]
    rw [hw, hi]
    exact ⟨_, main_run inj R P Dg ha T full (by rw [ft]; decide) (by rw [ft]; decide) (by rw [ft]; exact inz_zero _)⟩
end
end Tc
set_option Elab.async false
set_option linter.all false
set_option maxRecDepth 100000
set_option maxHeartbeats 4000000
set_option exponentiation.threshold 10000
namespace Tc
open PySem
/-! plain: names -/
theorem letter_at : ∀ i, i < 26 → letters.getD i 0 = 97 + i := by decide +kernel
theorem name_ne {c : Int} {k k' : Nat} (hk : k < 9) (hk' : k' < 9) (h : nameF c k = nameF c k') : k = k' := by
  have c8 := Int.emod_nonneg c (show (8 : Int) ≠ 0 by decide)
  have hb : 0 < baseLen c := by unfold baseLen; omega
  have a0 := Int.emod_nonneg (c / 8) (show ((baseLen c : Nat) : Int) ≠ 0 by omega)
  have a1 := Int.emod_lt_of_pos (c / 8) (show (0 : Int) < ((baseLen c : Nat) : Int) by omega)
  have ha : atF c = (((atF c).toNat : Nat) : Int) := by unfold atF; omega
  have hj : (atF c).toNat < baseLen c := by unfold atF; omega
  generalize (atF c).toNat = j at ha hj
  unfold nameF at h
  have h1 := congrArg (fun s : Str => s.cps.toList[j]?) h
  simp only [List.getElem?_map, List.getElem?_range hj, Option.map_some] at h1
  have h2 := Option.some.inj h1
  rw [decide_eq_true ha.symm, if_pos rfl] at h2
  generalize (baseF c).getD j 0 = b at h2
  have m0 := Int.emod_nonneg (b + (k : Int) * 1) (show (26 : Int) ≠ 0 by decide)
  have m1 := Int.emod_lt_of_pos (b + (k : Int) * 1) (show (0 : Int) < 26 by decide)
  have m0' := Int.emod_nonneg (b + (k' : Int) * 1) (show (26 : Int) ≠ 0 by decide)
  have m1' := Int.emod_lt_of_pos (b + (k' : Int) * 1) (show (0 : Int) < 26 by decide)
  rw [letter_at _ (by omega), letter_at _ (by omega)] at h2
  omega
theorem names_len (c : Int) : (namesF c).length = 9 := by unfold namesF; rw [List.length_map, List.length_range]
theorem names_at {c : Int} {k : Nat} (hk : k < 9) : (namesF c).getD k "" = nameF c k := by
  unfold namesF
  rw [List.getD_eq_getElem?_getD, List.getElem?_map, List.getElem?_range hk]; rfl
def idxF (n i : Nat) : Nat := if i < n then i else if i = n then 4 else 5
def nmF (c : Int) (n i : Nat) : Str := (namesF c).getD (idxF n i) ""
theorem idx_lt {n i : Nat} (hn : n ≤ 4) : idxF n i < 9 := by unfold idxF; split; omega; split <;> omega
theorem nmF_inj {c : Int} {n : Nat} (hn : n ≤ 4) : Inj (n + 2) (nmF c n) := by
  intro i j hi hj h
  unfold nmF at h
  rw [names_at (idx_lt hn), names_at (idx_lt hn)] at h
  have e := name_ne (idx_lt hn) (idx_lt hn) h
  unfold idxF at e
  split at e <;> split at e <;> (try split at e) <;> (try split at e) <;> omega
/-! numbers -/
def roN (c : Int) (k : Nat) : Nat := (20 + mixedF c k % 100).toNat
theorem room_facts {c : Int} {k : Nat} (hk : k < 4) : 20 ≤ roN c k ∧ roN c k ≤ 119 ∧ 0 < roomF c k ∧ roomF c k ≤ 119 ∧ InZ 2 (roomF c k) ∧ ∃ h : Nat, roomF c k * (h : Rat) = (roN c k : Rat) ∧ 0 < h := by
  have mx := mixed_nn (c := c) hk
  have x0 := Int.emod_nonneg (mixedF c k) (show (100 : Int) ≠ 0 by decide)
  have x1 := Int.emod_lt_of_pos (mixedF c k) (show (0 : Int) < 100 by decide)
  have y0 := Int.emod_nonneg (mixedF c k / 100) (show (2 : Int) ≠ 0 by decide)
  have y1 := Int.emod_lt_of_pos (mixedF c k / 100) (show (0 : Int) < 2 by decide)
  have hr : ((roN c k : Nat) : Int) = 20 + mixedF c k % 100 := by unfold roN; omega
  have r1 : 20 ≤ roN c k := by omega
  have r2 : roN c k ≤ 119 := by omega
  have b1 : (20 : Rat) ≤ (roN c k : Rat) := by
    have h := natCast_le r1
    have e : ((20 : Nat) : Rat) = 20 := by decide +kernel
    rw [e] at h; exact h
  have b2 : (roN c k : Rat) ≤ 119 := by
    have h := natCast_le r2
    have e : ((119 : Nat) : Rat) = 119 := by decide +kernel
    rw [e] at h; exact h
  have key : ∀ d : Int, (d = 1 ∨ d = 2) → 1 + mixedF c k / 100 % 2 = d → 0 < roomF c k ∧ roomF c k ≤ 119 ∧ InZ 2 (roomF c k) ∧ ∃ h : Nat, roomF c k * (h : Rat) = (roN c k : Rat) ∧ 0 < h := fun d hd e => by
    have er : roomF c k = Rat.divInt ((roN c k : Nat) : Int) d := by unfold roomF; rw [e, hr]
    have hz := inz_div (n := ((roN c k : Nat) : Int)) (d := d) (by omega)
    rw [← er] at hz
    rw [Rat.divInt_eq_div, Rat.intCast_natCast] at er
    rcases hd with rfl | rfl
    · have e1 : roomF c k * ((1 : Nat) : Rat) = (roN c k : Rat) := by
        have z1 : ((1 : Int) : Rat) = 1 := by decide +kernel
        have z2 : ((1 : Nat) : Rat) = 1 := by decide +kernel
        rw [er, z1, z2]; grind
      have z2 : ((1 : Nat) : Rat) = 1 := by decide +kernel
      have e2 := e1
      rw [z2] at e2
      exact ⟨by grind, by grind, hz.mono ⟨2, rfl⟩, 1, e1, by decide⟩
    · have e1 : roomF c k * ((2 : Nat) : Rat) = (roN c k : Rat) := by
        have z1 : ((2 : Int) : Rat) = 2 := by decide +kernel
        have z2 : ((2 : Nat) : Rat) = 2 := by decide +kernel
        rw [er, z1, z2]; grind
      have z2 : ((2 : Nat) : Rat) = 2 := by decide +kernel
      have e2 := e1
      rw [z2] at e2
      exact ⟨by grind, by grind, hz.mono ⟨1, rfl⟩, 2, e1, by decide⟩
  obtain ⟨k1, k2, k3, k4⟩ := key (1 + mixedF c k / 100 % 2) (by omega) rfl
  exact ⟨r1, r2, k1, k2, k3, k4⟩
theorem least_fold (cs : List (Str × Rat)) (c : Rat) : (cs.foldl (fun m p => if p.2 < m then p.2 else m) c ≤ c ∧ ∀ p ∈ cs, cs.foldl (fun m p => if p.2 < m then p.2 else m) c ≤ p.2) ∧ (cs.foldl (fun m p => if p.2 < m then p.2 else m) c = c ∨ ∃ p ∈ cs, cs.foldl (fun m p => if p.2 < m then p.2 else m) c = p.2) := by
  induction cs generalizing c with
  | nil => exact ⟨⟨Rat.le_refl, fun p hp => nomatch hp⟩, .inl rfl⟩
  | cons a r ih =>
    rw [List.foldl_cons]
    obtain ⟨⟨h1, h2⟩, h3⟩ := ih (if a.2 < c then a.2 else c)
    generalize r.foldl (fun m p => if p.2 < m then p.2 else m) (if a.2 < c then a.2 else c) = z at h1 h2 h3
    have hc : z ≤ c ∧ z ≤ a.2 := by
      split at h1 <;> (constructor <;> grind)
    refine ⟨⟨hc.1, fun p hp => ?_⟩, ?_⟩
    · rcases List.mem_cons.mp hp with hp | hp
      · rw [hp]; exact hc.2
      · exact h2 p hp
    · rcases h3 with h3 | ⟨p, hp, e⟩
      · split at h3
        · exact .inr ⟨a, List.mem_cons_self, h3⟩
        · exact .inl h3
      · exact .inr ⟨p, List.mem_cons_of_mem _ hp, e⟩
theorem quart_facts (c : Int) : 0 < Rat.divInt (1 + c % 4) 4 ∧ Rat.divInt (1 + c % 4) 4 ≤ 1 ∧ InZ 4 (Rat.divInt (1 + c % 4) 4) := by
  have x0 := Int.emod_nonneg c (show (4 : Int) ≠ 0 by decide)
  have x1 := Int.emod_lt_of_pos c (show (0 : Int) < 4 by decide)
  refine ⟨?_, ?_, inz_div (by decide)⟩
  · generalize c % 4 = x at x0 x1
    have : x = 0 ∨ x = 1 ∨ x = 2 ∨ x = 3 := by omega
    rcases this with rfl | rfl | rfl | rfl <;> decide +kernel
  · generalize c % 4 = x at x0 x1
    have : x = 0 ∨ x = 1 ∨ x = 2 ∨ x = 3 := by omega
    rcases this with rfl | rfl | rfl | rfl <;> decide +kernel
theorem lost_facts (cells : List Int) : 0 < lostF cells ∧ lostF cells < 1 ∧ InZ 60 (lostF cells) := by
  have x0 := Int.emod_nonneg (cells.getD 4 0 / 8) (show (3 : Int) ≠ 0 by decide)
  have x1 := Int.emod_lt_of_pos (cells.getD 4 0 / 8) (show (0 : Int) < 3 by decide)
  have y0 := Int.emod_nonneg (cells.getD 4 0 / 24) (show (3 : Int) ≠ 0 by decide)
  have y1 := Int.emod_lt_of_pos (cells.getD 4 0 / 24) (show (0 : Int) < 3 by decide)
  unfold lostF
  generalize cells.getD 4 0 / 8 % 3 = x at x0 x1
  generalize cells.getD 4 0 / 24 % 3 = y at y0 y1
  have hx : x = 0 ∨ x = 1 ∨ x = 2 := by omega
  have hy : y = 0 ∨ y = 1 ∨ y = 2 := by omega
  refine ⟨?_, ?_, (inz_div (show (0 : Int) < 4 + y by omega)).mono ?_⟩
  · rcases hx with rfl | rfl | rfl <;> rcases hy with rfl | rfl | rfl <;> decide +kernel
  · rcases hx with rfl | rfl | rfl <;> rcases hy with rfl | rfl | rfl <;> decide +kernel
  · rcases hy with rfl | rfl | rfl
    · exact ⟨15, rfl⟩
    · exact ⟨12, rfl⟩
    · exact ⟨10, rfl⟩
/-! house -/
theorem many_facts (c : Int) : 2 ≤ manyF c ∧ manyF c ≤ 4 := by
  have c3 := Int.emod_nonneg c (show (3 : Int) ≠ 0 by decide)
  have c3' := Int.emod_lt_of_pos c (show (0 : Int) < 3 by decide)
  unfold manyF
  omega
theorem rooms_filter (house : List Pl) : ∀ acc : AL Rat, house.foldl rmOne acc = (house.filter Pl.isC).foldl rmOne acc := by
  induction house with
  | nil => intro acc; rfl
  | cons p r ih =>
    intro acc
    cases p with
    | cask n q => exact ih (aput acc n q)
    | sink n => exact ih acc
theorem st_keep (house : List Pl) : ∀ (acc : AL Rat) (k : Str), (∀ p ∈ house, p.name ≠ k) → aget (house.foldl stOne acc) k = aget acc k := by
  induction house with
  | nil => intro acc k _; rfl
  | cons p r ih =>
    intro acc k h
    rw [List.foldl_cons, ih _ _ fun q hq => h q (List.mem_cons_of_mem _ hq)]
    have hp := h p List.mem_cons_self
    cases p with
    | cask n q =>
      show aget (aput (aput acc n 0) n q) k = _
      rw [aget_put, if_neg fun z => hp z.symm, aget_put, if_neg fun z => hp z.symm]
    | sink n =>
      show aget (aput acc n 0) k = _
      rw [aget_put, if_neg fun z => hp z.symm]
def pval : Pl → Rat
  | .cask _ r => r
  | .sink _ => 0
theorem st_get (house : List Pl) : ∀ (acc : AL Rat), (house.map Pl.name).Nodup → ∀ p ∈ house, aget (house.foldl stOne acc) p.name = some (pval p) := by
  induction house with
  | nil => intro acc _ p hp; cases hp
  | cons a r ih =>
    intro acc nd p hp
    rw [List.map_cons, List.nodup_cons] at nd
    rw [List.foldl_cons]
    rcases List.mem_cons.mp hp with hp | hp
    · subst hp
      rw [st_keep r _ _ fun q hq e => nd.1 (List.mem_map.mpr ⟨q, hq, e⟩)]
      cases p with
      | cask n q =>
        show aget (aput (aput acc n 0) n q) n = _
        rw [aget_put, if_pos rfl]; rfl
      | sink n =>
        show aget (aput acc n 0) n = _
        rw [aget_put, if_pos rfl]; rfl
    · exact ih _ nd.2 p hp
end Tc
set_option Elab.async false
set_option linter.all false
set_option maxRecDepth 100000
set_option maxHeartbeats 4000000
set_option exponentiation.threshold 10000
namespace Tc
open PySem
/-! plain: the law -/
section
variable (ns : List Int)
abbrev lC1 : Int := cellAt ns 1
abbrev lN : Nat := manyF (cellAt ns 1)
abbrev lNm : Nat → Str := nmF (cellAt ns 0) (manyF (cellAt ns 1))
abbrev lR : Nat → Rat := roomF (cellAt ns 1)
def lT : Nat := if (lawCells ns).getD 2 0 / 4 % 2 = 0 then lN ns else lN ns + 1
def lG : Nat := 8 * (roN (cellAt ns 1) 0 * roN (cellAt ns 1) 1 * roN (cellAt ns 1) 2 * roN (cellAt ns 1) 3)
end
section
variable {ns : List Int}
theorem nm_cask {i : Nat} (hi : i < lN ns) : lNm ns i = (lawNames ns).getD i "" := by
  show (namesF (cellAt ns 0)).getD (idxF (lN ns) i) "" = _
  unfold idxF
  rw [if_pos hi]
  rfl
theorem nm_s4 : lNm ns (lN ns) = (lawNames ns).getD 4 "" := by
  show (namesF (cellAt ns 0)).getD (idxF (lN ns) (lN ns)) "" = _
  unfold idxF
  rw [if_neg (Nat.lt_irrefl _), if_pos rfl]
  rfl
theorem nm_s5 : lNm ns (lN ns + 1) = (lawNames ns).getD 5 "" := by
  show (namesF (cellAt ns 0)).getD (idxF (lN ns) (lN ns + 1)) "" = _
  unfold idxF
  rw [if_neg (by omega), if_neg (by omega)]
  rfl
theorem cs_eq : lawCs ns = (List.range (lN ns)).map fun k => (lNm ns k, lR ns k) := by
  show (List.range (manyF (cellAt ns 1))).map (fun k => ((lawNames ns).getD k "", roomF (cellAt ns 1) k)) = _
  exact List.map_congr_left fun k hk => by rw [nm_cask (List.mem_range.mp hk)]
theorem cs_len : (lawCs ns).length = lN ns := by rw [cs_eq, List.length_map, List.length_range]
theorem cs_get {i : Nat} (hi : i < lN ns) : (lawCs ns).getD i ("", 0) = (lNm ns i, lR ns i) := by
  rw [List.getD_eq_getElem?_getD, cs_eq, List.getElem?_map, List.getElem?_range hi]; rfl
def lPl (ns : List Int) (k : Nat) : Pl := .cask (lNm ns k) (lR ns k)
def lIx (ns : List Int) : Nat := (cellAt ns 1 / 3 % ((manyF (cellAt ns 1) : Nat) : Int)).toNat
theorem house_eq : lawHouse ns = (((List.range (lN ns)).map (lPl ns)).take (lIx ns) ++ [Pl.sink (lNm ns (lN ns))] ++ ((List.range (lN ns)).map (lPl ns)).drop (lIx ns)) ++ [Pl.sink (lNm ns (lN ns + 1))] := by
  rw [nm_s4, nm_s5]
  have h : (lawCs ns).map (fun p => Pl.cask p.1 p.2) = (List.range (lN ns)).map (lPl ns) := by rw [cs_eq, List.map_map]; rfl
  rw [← h]
  rfl
theorem house_isC : (lawHouse ns).filter Pl.isC = (List.range (lN ns)).map (lPl ns) := by
  have hc : ∀ xs : List Nat, (xs.map (lPl ns)).filter Pl.isC = xs.map (lPl ns) := fun xs => List.filter_eq_self.mpr fun p hp => by
    obtain ⟨k, _, rfl⟩ := List.mem_map.mp hp
    rfl
  rw [house_eq, List.filter_append, List.filter_append, List.filter_append, ← List.map_take, ← List.map_drop, hc, hc]
  show ((List.map (lPl ns) ((List.range (lN ns)).take (lIx ns)) ++ []) ++ List.map (lPl ns) ((List.range (lN ns)).drop (lIx ns))) ++ [] = _
  rw [List.append_nil, List.append_nil, ← List.map_append, List.take_append_drop]
theorem house_mem {p : Pl} : p ∈ lawHouse ns ↔ (∃ k, k < lN ns ∧ p = lPl ns k) ∨ p = .sink (lNm ns (lN ns)) ∨ p = .sink (lNm ns (lN ns + 1)) := by
  rw [house_eq]
  constructor
  · intro h
    rcases List.mem_append.mp h with h | h
    · rcases List.mem_append.mp h with h | h
      · rcases List.mem_append.mp h with h | h
        · obtain ⟨k, hk, e⟩ := List.mem_map.mp (List.mem_of_mem_take h)
          exact .inl ⟨k, List.mem_range.mp hk, e.symm⟩
        · exact .inr (.inl (List.mem_singleton.mp h))
      · obtain ⟨k, hk, e⟩ := List.mem_map.mp (List.mem_of_mem_drop h)
        exact .inl ⟨k, List.mem_range.mp hk, e.symm⟩
    · exact .inr (.inr (List.mem_singleton.mp h))
  · intro h
    rcases h with ⟨k, hk, rfl⟩ | rfl | rfl
    · have h : lPl ns k ∈ (List.range (lN ns)).map (lPl ns) := List.mem_map.mpr ⟨k, List.mem_range.mpr hk, rfl⟩
      rw [← List.take_append_drop (lIx ns) ((List.range (lN ns)).map (lPl ns))] at h
      rcases List.mem_append.mp h with h | h
      · exact List.mem_append_left _ (List.mem_append_left _ (List.mem_append_left _ h))
      · exact List.mem_append_left _ (List.mem_append_right _ h)
    · exact List.mem_append_left _ (List.mem_append_left _ (List.mem_append_right _ (List.mem_singleton.mpr rfl)))
    · exact List.mem_append_right _ (List.mem_singleton.mpr rfl)
theorem house_nd : ((lawHouse ns).map Pl.name).Nodup := by
  obtain ⟨n2, n4⟩ := many_facts (cellAt ns 1)
  have inj : Inj (lN ns + 2) (lNm ns) := nmF_inj n4
  have e : (lawHouse ns).map Pl.name = ((List.range (lN ns)).take (lIx ns) ++ [lN ns] ++ (List.range (lN ns)).drop (lIx ns) ++ [lN ns + 1]).map (lNm ns) := by
    rw [house_eq]
    simp only [List.map_append, ← List.map_take, ← List.map_drop, List.map_map, List.map_cons, List.map_nil]
    rfl
  rw [e]
  have nd : ((List.range (lN ns)).take (lIx ns) ++ [lN ns] ++ (List.range (lN ns)).drop (lIx ns) ++ [lN ns + 1]).Nodup := by
    have h0 := @List.nodup_range (lN ns)
    rw [← List.take_append_drop (lIx ns) (List.range (lN ns))] at h0
    have lt : ∀ x, x ∈ (List.range (lN ns)).take (lIx ns) ∨ x ∈ (List.range (lN ns)).drop (lIx ns) → x < lN ns := fun x hx => by
      rcases hx with hx | hx
      · exact List.mem_range.mp (List.mem_of_mem_take hx)
      · exact List.mem_range.mp (List.mem_of_mem_drop hx)
    rw [List.nodup_append] at h0
    obtain ⟨a1, a2, a3⟩ := h0
    rw [List.nodup_append, List.nodup_append, List.nodup_append]
    refine ⟨⟨⟨a1, by simp, fun x hx y hy => ?_⟩, a2, fun x hx y hy => ?_⟩, by simp, fun x hx y hy => ?_⟩
    · rw [List.mem_singleton.mp hy]
      have := lt x (.inl hx)
      omega
    · rcases List.mem_append.mp hx with hx | hx
      · exact a3 x hx y hy
      · rw [List.mem_singleton.mp hx]
        have := lt y (.inr hy)
        omega
    · rw [List.mem_singleton.mp hy]
      rcases List.mem_append.mp hx with hx | hx
      · rcases List.mem_append.mp hx with hx | hx
        · have := lt x (.inl hx)
          omega
        · rw [List.mem_singleton.mp hx]; omega
      · have := lt x (.inr hx)
        omega
  have lt2 : ∀ x ∈ ((List.range (lN ns)).take (lIx ns) ++ [lN ns] ++ (List.range (lN ns)).drop (lIx ns) ++ [lN ns + 1]), x < lN ns + 2 := fun x hx => by
    rcases List.mem_append.mp hx with hx | hx
    · rcases List.mem_append.mp hx with hx | hx
      · rcases List.mem_append.mp hx with hx | hx
        · have := List.mem_range.mp (List.mem_of_mem_take hx)
          omega
        · rw [List.mem_singleton.mp hx]; omega
      · have := List.mem_range.mp (List.mem_of_mem_drop hx)
        omega
    · rw [List.mem_singleton.mp hx]; omega
  unfold List.Nodup at nd ⊢
  rw [List.pairwise_map]
  exact List.Pairwise.imp_of_mem (fun {a b} ha hb hab h => hab (inj a b (lt2 a ha) (lt2 b hb) h)) nd
theorem house_len : (lawHouse ns).length ≤ 6 := by
  obtain ⟨n2, n4⟩ := many_facts (cellAt ns 1)
  rw [house_eq]
  simp only [List.length_append, List.length_take, List.length_drop, List.length_map, List.length_range, List.length_cons, List.length_nil]
  have : lN ns = manyF (cellAt ns 1) := rfl
  omega
theorem rooms_vec : roomsM (lawHouse ns) = vec (lN ns) (lNm ns) (lR ns) := by
  obtain ⟨n2, n4⟩ := many_facts (cellAt ns 1)
  have inj : Inj (lN ns + 2) (lNm ns) := nmF_inj n4
  rw [roomsM_eq, rooms_filter, house_isC, List.foldl_map]
  have nd : ((List.range (lN ns)).map (lNm ns)).Nodup := nm_nd (inj_le inj (by omega))
  suffices h : ∀ m, m ≤ lN ns → (List.range m).foldl (fun x k => rmOne x (lPl ns k)) [] = vec m (lNm ns) (lR ns) from h _ (Nat.le_refl _)
  intro m
  induction m with
  | zero => intro _; rfl
  | succ m ih =>
    intro hm
    rw [List.range_succ, List.foldl_append, ih (by omega)]
    show aput (vec m (lNm ns) (lR ns)) (lNm ns m) (lR ns m) = _
    rw [aput_new]
    · show vec m (lNm ns) (lR ns) ++ [(lNm ns m, lR ns m)] = _
      unfold vec
      rw [List.range_succ, List.map_append]
      rfl
    · rw [vec_keys]
      intro z
      obtain ⟨j, hj, e⟩ := List.mem_map.mp z
      have hj := List.mem_range.mp hj
      have := inj j m (by omega) (by omega) e
      omega
theorem G_pos : 0 < lG ns := by
  have h : ∀ k, k < 4 → 0 < roN (cellAt ns 1) k := fun k hk => by have := (room_facts (c := cellAt ns 1) hk).1; omega
  unfold lG
  exact Nat.mul_pos (by decide) (Nat.mul_pos (Nat.mul_pos (Nat.mul_pos (h 0 (by decide)) (h 1 (by decide))) (h 2 (by decide))) (h 3 (by decide)))
theorem G_lt : lG ns < 2 ^ 34 := by
  have h : ∀ k, k < 4 → roN (cellAt ns 1) k ≤ 119 := fun k hk => (room_facts (c := cellAt ns 1) hk).2.1
  unfold lG
  exact Nat.lt_of_le_of_lt (Nat.mul_le_mul_left 8 (Nat.mul_le_mul (Nat.mul_le_mul (Nat.mul_le_mul (h 0 (by decide)) (h 1 (by decide))) (h 2 (by decide))) (h 3 (by decide)))) (by decide)
theorem G_dvd {k : Nat} (hk : k < 4) : 8 * roN (cellAt ns 1) k ∣ lG ns := by
  unfold lG
  refine Nat.mul_dvd_mul_left 8 ?_
  match k, hk with
  | 0, _ => exact ⟨roN (cellAt ns 1) 1 * roN (cellAt ns 1) 2 * roN (cellAt ns 1) 3, by grind⟩
  | 1, _ => exact ⟨roN (cellAt ns 1) 0 * roN (cellAt ns 1) 2 * roN (cellAt ns 1) 3, by grind⟩
  | 2, _ => exact ⟨roN (cellAt ns 1) 0 * roN (cellAt ns 1) 1 * roN (cellAt ns 1) 3, by grind⟩
  | 3, _ => exact ⟨roN (cellAt ns 1) 0 * roN (cellAt ns 1) 1 * roN (cellAt ns 1) 2, by grind⟩
theorem G_8 : 8 ∣ lG ns := ⟨_, rfl⟩
theorem least_facts : (∃ j, j < lN ns ∧ leastF (lawCs ns) = lR ns j) ∧ ∀ k, k < lN ns → leastF (lawCs ns) ≤ lR ns k := by
  obtain ⟨n2, n4⟩ := many_facts (cellAt ns 1)
  have n0 : 0 < lN ns := by show 0 < manyF _; omega
  have hf := least_fold (lawCs ns) ((lawCs ns).getD 0 ("", 0)).2
  obtain ⟨⟨h1, h2⟩, h3⟩ := hf
  have e0 : ((lawCs ns).getD 0 ("", 0)).2 = lR ns 0 := by rw [cs_get n0]
  have el : leastF (lawCs ns) = (lawCs ns).foldl (fun m p => if p.2 < m then p.2 else m) ((lawCs ns).getD 0 ("", 0)).2 := rfl
  rw [← el] at h1 h2 h3
  refine ⟨?_, fun k hk => ?_⟩
  · rcases h3 with h3 | ⟨p, hp, e⟩
    · exact ⟨0, n0, by rw [h3, e0]⟩
    · rw [cs_eq] at hp
      obtain ⟨j, hj, rfl⟩ := List.mem_map.mp hp
      exact ⟨j, List.mem_range.mp hj, e⟩
  · exact h2 (lNm ns k, lR ns k) (by rw [cs_eq]; exact List.mem_map.mpr ⟨k, List.mem_range.mpr hk, rfl⟩)
theorem law_par : Par (lN ns) (lG ns) (lR ns) (amountF (lawCs ns) (lawCells ns)) (lostF (lawCells ns)) (optF (lawCells ns)) (partP (lawCs ns) (lawCells ns)) (lT ns) := by
  obtain ⟨n2, n4⟩ := many_facts (cellAt ns 1)
  have n2' : 2 ≤ lN ns := n2
  have n4' : lN ns ≤ 4 := n4
  obtain ⟨⟨j, hj, ej⟩, hle⟩ := least_facts (ns := ns)
  obtain ⟨q0, q1, qz⟩ := quart_facts ((lawCells ns).getD 2 0)
  obtain ⟨l0, l1, lz⟩ := lost_facts (lawCells ns)
  have fac := fun k (hk : k < lN ns) => room_facts (c := cellAt ns 1) (k := k) (by omega)
  obtain ⟨_, _, rj0, rj1, rjz, _⟩ := fac j hj
  have ea : amountF (lawCs ns) (lawCells ns) = lR ns j * Rat.divInt (1 + (lawCells ns).getD 2 0 % 4) 4 := by unfold amountF; rw [ej]
  have a0 : 0 < amountF (lawCs ns) (lawCells ns) := by rw [ea]; exact Rat.mul_pos rj0 q0
  have az8 : InZ 8 (amountF (lawCs ns) (lawCells ns)) := by rw [ea]; exact rjz.mul qz
  have ale : amountF (lawCs ns) (lawCells ns) ≤ leastF (lawCs ns) := by
    rw [ea, ej]
    have := Rat.mul_le_mul_of_nonneg_left q1 (Rat.le_of_lt rj0)
    have h : lR ns j * 1 = lR ns j := by grind
    rw [h] at this
    exact this
  have hN : ((lawCs ns).length : Int) = ((lN ns : Nat) : Int) := by rw [cs_len]
  have p0 := Int.emod_nonneg ((lawCells ns).getD 4 0 / 2) (show ((lawCs ns).length : Int) ≠ 0 by omega)
  have p1 := Int.emod_lt_of_pos ((lawCells ns).getD 4 0 / 2) (show (0 : Int) < ((lawCs ns).length : Int) by omega)
  refine ⟨by omega, n4', fun k hk => (fac k hk).2.2.1, fun k hk => ?_, fun k hk => Rat.le_trans ale (hle k hk), a0, l0, l1, ?_, ?_, ?_, G_pos, G_lt, fun k hk => (fac k hk).2.2.2.2.1.mono (Nat.dvd_trans ⟨4, rfl⟩ G_8), az8.mono G_8, fun k hk => ?_, lz⟩
  · have := (fac k hk).2.2.2.1
    show roomF (cellAt ns 1) k ≤ 500
    grind
  · unfold partP; omega
  · unfold lT; split <;> omega
  · unfold lT; split <;> omega
  · obtain ⟨r20, _, r0, _, _, h, eh, hp⟩ := fac k hk
    refine InZ.mono ?_ (G_dvd (ns := ns) (k := k) (by omega))
    obtain ⟨z, hz⟩ := az8
    refine ⟨z * h, ?_⟩
    generalize amountF (lawCs ns) (lawCells ns) = a at hz a0
    rw [Rat.intCast_mul, Rat.intCast_natCast, ← hz, Rat.natCast_mul, ← eh]
    show a / roomF (cellAt ns 1) k * (((8 : Nat) : Rat) * (roomF (cellAt ns 1) k * (h : Rat))) = a * ((8 : Nat) : Rat) * (h : Rat)
    generalize roomF (cellAt ns 1) k = r at r0
    generalize ((8 : Nat) : Rat) = e8
    generalize (h : Rat) = hh
    grind
theorem law_ok (ns : List Int) : ∃ k, LawOk ns k := by
  obtain ⟨n2, n4⟩ := many_facts (cellAt ns 1)
  have n2' : 2 ≤ lN ns := n2
  have n4' : lN ns ≤ 4 := n4
  have inj : Inj (lN ns + 2) (lNm ns) := nmF_inj n4
  have P := law_par (ns := ns)
  have injn : Inj (lN ns) (lNm ns) := inj_le inj (by omega)
  obtain ⟨r, hr⟩ : ∃ r, lR ns = r := ⟨_, rfl⟩
  obtain ⟨a, ha⟩ : ∃ a, amountF (lawCs ns) (lawCells ns) = a := ⟨_, rfl⟩
  obtain ⟨l, hl⟩ : ∃ l, lostF (lawCells ns) = l := ⟨_, rfl⟩
  obtain ⟨p, hp⟩ : ∃ p, partP (lawCs ns) (lawCells ns) = p := ⟨_, rfl⟩
  rw [hr, ha, hl, hp] at P
  have hlen := house_len (ns := ns)
  have hrooms : roomsM (lawHouse ns) = vec (lN ns) (lNm ns) r := by rw [rooms_vec, hr]
  have R : RmR (lN ns) (lNm ns) (roomsM (lawHouse ns)) r := by
    refine ⟨fun i hi => by rw [hrooms]; exact vec_get injn hi, fun i h1 h2 => ?_⟩
    rw [hrooms]
    refine vec_none fun j hj e => ?_
    have := inj j i (by omega) h2 e
    omega
  have Dg : Deeds (lN ns) (lT ns) p (lNm ns) r (lawCs ns) (lawNames ns) (lawCells ns) := by
    refine ⟨cs_len, fun i hi => by rw [← hr]; exact cs_get hi, nm_s4.symm, ?_, hp⟩
    have x0 := Int.emod_nonneg ((lawCells ns).getD 2 0 / 4) (show (2 : Int) ≠ 0 by decide)
    have x1 := Int.emod_lt_of_pos ((lawCells ns).getD 2 0 / 4) (show (0 : Int) < 2 by decide)
    unfold lT
    by_cases h : (lawCells ns).getD 2 0 / 4 % 2 = 0
    · rw [if_pos h, h]; exact nm_s4.symm
    · have h1 : (lawCells ns).getD 2 0 / 4 % 2 = 1 := by omega
      rw [if_neg h, h1]; exact nm_s5.symm
  have T : TR (lN ns + 2) (lNm ns) (standM (lawHouse ns)) fun i => if i < lN ns then r i else 0 := fun i hi => by
    rw [standM_eq]
    show aget ((lawHouse ns).foldl stOne []) (lNm ns i) = some (if i < lN ns then r i else 0)
    have hg := fun p hp => st_get (lawHouse ns) [] house_nd p hp
    by_cases h : i < lN ns
    · have := hg (lPl ns i) (house_mem.mpr (.inl ⟨i, h, rfl⟩))
      rw [if_pos h, ← hr]
      exact this
    · rw [if_neg h]
      by_cases h1 : i = lN ns
      · subst h1
        exact hg _ (house_mem.mpr (.inr (.inl rfl)))
      · have h2 : i = lN ns + 1 := by omega
        subst h2
        exact hg _ (house_mem.mpr (.inr (.inr rfl)))
  obtain ⟨f', run⟩ := work_run inj R P Dg ha hl T (fun i hi => if_pos hi) (fun i h1 h2 => if_neg (by omega))
  obtain ⟨ok1', _, acc1⟩ := run
  -- with the year
  have hw : workD (lawCs ns) (lawNames ns) (lawCells ns) = (workD (lawCs ns) (lawNames ns) (lawCells ns)).take (yearAt (lawCs ns) (lawNames ns) (lawCells ns)) ++ (workD (lawCs ns) (lawNames ns) (lawCells ns)).drop (yearAt (lawCs ns) (lawNames ns) (lawCells ns)) := (List.take_append_drop _ _).symm
  rw [hw] at ok1' acc1
  obtain ⟨y1, y2⟩ := year_in ok1'
  have y1 : AllOk (roomsM (lawHouse ns)) (standM (lawHouse ns)) (lawDeeds ns) := y1
  have y2 : accY (roomsM (lawHouse ns)) (standM (lawHouse ns)) (lawDeeds ns) = (isI (lN ns) (lT ns) p (optF (lawCells ns)) (fun k => a / r k) a l (r p * l)).map (isSt (lNm ns)) := y2.trans acc1
  have dl : (lawDeeds ns).length ≤ 20 := by
    have h := work_len (lawCs ns) (lawNames ns) (lawCells ns)
    rw [cs_len] at h
    unfold lawDeeds roundF
    simp only [List.length_append, List.length_take, List.length_drop, List.length_cons, List.length_nil]
    omega
  have hss := ss_tot (rooms := roomsM (lawHouse ns)) (lawDeeds ns) ⟨standM (lawHouse ns), lawYear ns, []⟩
  have her : (lawSteps ns).map er = (isI (lN ns) (lT ns) p (optF (lawCells ns)) (fun k => a / r k) a l (r p * l)).map (isSt (lNm ns)) := hss.2.trans y2
  have hcasks : casksM (lawHouse ns) = (List.range (lN ns)).map (lNm ns) := by
    unfold casksM
    rw [house_isC, List.map_map]
    rfl
  have W : Wk (lN ns + 2) (lN ns) (60 * lG ns) (lNm ns) (isI (lN ns) (lT ns) p (optF (lawCells ns)) (fun k => a / r k) a l (r p * l)) (lawHouse ns) (lawSteps ns) := by
    refine ⟨inj, by omega, by omega, n4', her, par_good P, par_len P, Nat.mul_pos (by decide) G_pos, Nat.lt_of_le_of_lt (Nat.mul_le_mul_left 60 (Nat.le_of_lt G_lt)) (by decide), fun q hq => ?_, hcasks, by omega⟩
    rcases house_mem.mp hq with ⟨k, hk, rfl⟩ | rfl | rfl
    · exact ⟨k, by omega, rfl⟩
    · exact ⟨lN ns, by omega, rfl⟩
    · exact ⟨lN ns + 1, by omega, rfl⟩
  have ho : optF (lawCells ns) = 0 ∨ optF (lawCells ns) = 1 ∨ optF (lawCells ns) = 2 := by
    unfold optF
    split
    · split
      · exact .inr (.inl rfl)
      · exact .inr (.inr rfl)
    · exact .inl rfl
  have B := par_bid P ho W
  obtain ⟨hs, hA, hb⟩ := par_hs P ho W
  obtain ⟨lb1, lb2⟩ := bid_lb B
  obtain ⟨k, bnd, br⟩ := bound_ok B.T B.O
  have m0 := Int.emod_nonneg (cellAt ns 7) (show (5 : Int) ≠ 0 by decide)
  have m1 := Int.emod_lt_of_pos (cellAt ns 7) (show (0 : Int) < 5 by decide)
  have G50 : 60 * lG ns < 2 ^ 50 := Nat.lt_of_le_of_lt (Nat.mul_le_mul_left 60 (Nat.le_of_lt G_lt)) (by decide)
  have Gp : 0 < 60 * lG ns := Nat.mul_pos (by decide) G_pos
  have gd : lG ns ∣ 60 * lG ns := ⟨60, Nat.mul_comm _ _⟩
  refine ⟨k, ?_⟩
  refine ⟨fun j hj => ?_, ?_, ⟨by rw [cs_len]; exact n2', by rw [cs_len]; exact n4', ?_, ?_, ?_, ?_⟩, ⟨by omega, by omega, fun i => ?_, fun i d hd => ?_⟩, ⟨hs.tab, hs.nd, hs.len, hs.no, hs.bto, ?_, ?_⟩, ?_, ?_, ?_, ?_, ?_, ?_, ?_⟩
  · obtain ⟨_, _, r0, r1, rz, _⟩ := room_facts (c := cellAt ns 1) hj
    exact ok_sm (G := 2) (by decide) (by decide) rz (by grind) (by grind)
  · rw [house_isC, cs_eq, List.map_map]; rfl
  · obtain ⟨q0, q1, qz⟩ := quart_facts ((lawCells ns).getD 2 0)
    exact ok_sm (G := 4) (by decide) (by decide) qz (by grind) (by grind)
  · rw [ha]
    have := P.a0
    have := P.ar 0 (by omega)
    have := P.r5 0 (by omega)
    exact ok_sm Gp G50 (P.az.mono gd) (by grind) (by grind)
  · rw [hl]
    have := P.l0
    have := P.l1
    exact ok_sm (G := 60) (by decide) (by decide) P.lz (by grind) (by grind)
  · rw [hp, hl, cs_get P.hp]
    show Ok (lR ns p * l)
    rw [hr]
    have rp := P.rp p P.hp
    have r5 := P.r5 p P.hp
    have l0 := P.l0
    have h1 := Rat.mul_le_mul_of_nonneg_left (Rat.le_of_lt P.l1) (Rat.le_of_lt rp)
    have h2 := Rat.mul_nonneg (Rat.le_of_lt rp) (Rat.le_of_lt l0)
    have hz := (P.rz p P.hp).mul P.lz
    rw [Nat.mul_comm] at hz
    exact ok_sm Gp G50 hz (by grind) (by grind)
  · have h1 := ss_tot (rooms := roomsM (lawHouse ns)) ((lawDeeds ns).take i) ⟨standM (lawHouse ns), lawYear ns, []⟩
    rw [h1.1]
    have h2 := tot_len (rooms := roomsM (lawHouse ns)) ((lawDeeds ns).take i) (standM (lawHouse ns))
    have h3 := stAll_len [] (lawHouse ns)
    rw [← standM_eq] at h3
    rw [List.length_take] at h2
    simp only [List.length_nil] at h3
    show (totAll (roomsM (lawHouse ns)) (standM (lawHouse ns)) ((lawDeeds ns).take i)).length ≤ 1000
    omega
  · have h1 := ss_tot (rooms := roomsM (lawHouse ns)) ((lawDeeds ns).take i) ⟨standM (lawHouse ns), lawYear ns, []⟩
    rw [h1.1]
    exact allOk_at y1 i d hd
  · rw [hA, hb]; exact lb1
  · rw [hA]; exact bnd
  · rw [hA, hb, lb2, hrooms]
  · rw [hA, hb, lb2, hrooms]
    exact fun q hq => aget_of_nd (vec_nd injn) hq
  · rw [hA, tab_keys, hrooms, vec_keys]
  · rw [hrooms, vec_len]; omega
  · rw [hA]; exact br
  · rw [hrooms]
    exact bid_ar B hs hA hb (by unfold lawMany; omega)
  · rw [hrooms]
    exact bid_ma B hs hA hb
end
end Tc
set_option Elab.async false
set_option linter.all false
set_option maxRecDepth 100000
set_option maxHeartbeats 0
namespace Tc
open PySem PySem.Spec PyProof.Rows L2 Evl
theorem facts {P : Program} {w : World} {K : PySem.W.Frag} {h : Heap} {mg : Str → Option Value} {f : Addr} (X : K.In h) (G : h.Ns mainGlobals mg) (hfa : mg ("law" : Str) = some (.ref f)) (c : He.SaysX fas fns [] [] exs w h K) :
    ∃ fd : FuncData, (∀ (s : Shared) (v : Value), BindsTo s fd ⟨[v], []⟩ [("_law_script", v)]) ∧ ∀ base : Heap, K.In base → base.Ns mainGlobals mg → FnOk P w K mg base CX0 10 f fd ["_law_script"] (sp_law K) := by
  obtain ⟨fd, F⟩ := c.t.d.def_ 44 (d := mkD "law" 62) rfl
  have e := hfa.symm.trans (He.glo_ok X G (c.t.d.fact 44 (f := .glo "law") rfl))
  cases e
  have b := FunD.bindsA (ps := ["_law_script"]) F fun _ _ _ _ _ _ us hl => match us, hl with | [_], _ => rfl
  exact ⟨fd, fun s v => b s [v] rfl, fun base _ _ => ok_law (txt_of X G c) F⟩
theorem ints_ls {K : PySem.W.Frag} {H : Hp} {a : Addr} {ns : List Int} (h : SqL K H a (ns.map V.int)) : Ls K IntR ns H (.ref a) := by
  refine ⟨a, _, rfl, h, ?_⟩
  clear h
  induction ns with
  | nil => exact .nil
  | cons i r ih => exact .cons rfl ih
end Tc
open PySem PySem.W PySem.Calls PyProof.Rows
theorem PySem.Challenge.cw_tiercask_k64_whole_steady_in_the_long_ru_holds : PySem.Challenge.rw_tiercask_k64_whole_steady_in_the_long_ru.Holds := by
  w_on; o_law
  refine HandSHeadRun.head_any (r := OpenLaw.row PySem.Challenge.rw_tiercask_k64_whole_steady_in_the_long_ru) (q := view (OpenLaw.row PySem.Challenge.rw_tiercask_k64_whole_steady_in_the_long_ru).prog [62]) (H := Tc.hk) (ob := Tc.ob) (M := 6000) (loose := Tc.loose1) (d := HandSHeadRun.topDef (OpenLaw.row PySem.Challenge.rw_tiercask_k64_whole_steady_in_the_long_ru).prog 62) (kwd := []) Tc.ob_eq
    (by kernel_rfl) (fun s => by kernel_rfl) Tc.run (by kernel_rfl) (by kernel_rfl) (by kernel_rfl) (by rfl) (by first | assumption | decide +kernel) (by decide +kernel) ⟨rfl, rfl, rfl, rfl, rfl, by decide +kernel⟩ ?hw ?hc
  case hw => w_witness2
  case hc =>
    refine L2.walk_ofE (l := PySem.Challenge.rw_tiercask_k64_whole_steady_in_the_long_ru) (n := 63) (k := 10) (x := "_law_script") (CX := L2.CX0) rfl (by decide) (by kernel_rfl) ⟨rfl, by decide, by decide⟩ ?F (fun _ _ _ _ z => z)
    intro w mg fa h Y G hmg0
    obtain ⟨K, KX, c⟩ := Y
    have hmg : mg ("law" : PySem.Str) = some (.ref fa) := by
      have e : (HandSHeadRun.topDef (OpenLaw.row PySem.Challenge.rw_tiercask_k64_whole_steady_in_the_long_ru).prog 62).name = ("law" : PySem.Str) := by kernel_rfl
      rw [← e]
      exact hmg0
    obtain ⟨fd, hb, hF⟩ := Tc.facts (P := (PySem.Challenge.rw_tiercask_k64_whole_steady_in_the_long_ru).prog) (w := w) KX G hmg c
    refine ⟨K, fd, Tc.sp_law K, KX, hb, fun H a ns hl _ hS => ?_, hF⟩
    obtain ⟨k, ok⟩ := Tc.law_ok ns
    exact ⟨.ref a, ns, k, rfl, Tc.ints_ls hS, ok, fun v H' _ hv => hv⟩
