import PyProof.Rows.All
import Wide.All
import OpenK.AllK
import Wide.FinOn
import HandS.ForMost
import HandS.Exc
import HandS.TryOnly
import HandS.ExcOwn
import HandS.WordsExc
import HandS.Flow
import HandS.IsInst
import HandS.Deep
import HandS.DictComp
import HandS.Strs
import HandS.Conv
import HandS.TupLe
import HandS.TupAny
import HandS.TupMul
import HandS.Wide
import HandS.Star
import HandS.More
import HandS.Style
import HandS.SetBool
import KE.SortData
import HandS.TupSets
import HandS.Zip
import KE.GoesNew
import KE.KeyNested
import KE.KDictKeyed
import KE.KDictList
import KE.KDictDisplayH
import KE.GoesMore
import HandS.WordsDict
import KE.KDictZip
import HandS.DictTup
import HandS.Lambda
import HandS.ExcIs
import HandS.Defaults
import HandS.EndTab
import PySem.Challenge.RW_pairpicks_k41_whole_rising_sizes_are_eno
set_option Elab.async false
set_option linter.all false
set_option maxRecDepth 100000
/-! The mathematics of rising sizes: plain Lean, no program in sight. -/
namespace Pk

/-! ### lists without doubles -/
theorem nodup_sub_len {α : Type} [DecidableEq α] : ∀ (l m : List α), l.Nodup → (∀ x, x ∈ l → x ∈ m) → l.length ≤ m.length
  | [], m, _, _ => Nat.zero_le _
  | a :: l, m, hn, hs => by
    obtain ⟨h1, h2⟩ := List.nodup_cons.mp hn
    have ha : a ∈ m := hs a List.mem_cons_self
    have ih := nodup_sub_len l (m.erase a) h2 fun x hx => by
      have ne : x ≠ a := fun e => h1 (e ▸ hx)
      exact (List.mem_erase_of_ne ne).mpr (hs x (List.mem_cons_of_mem _ hx))
    have e := List.length_erase_of_mem ha
    have pos : 0 < m.length := List.length_pos_of_mem ha
    rw [List.length_cons]
    omega
theorem nodup_lt_len (l : List Nat) (z : Nat) (hn : l.Nodup) (h : ∀ x, x ∈ l → 1 ≤ x ∧ x < z) : l.length ≤ z - 1 := by
  have q := nodup_sub_len l (List.range' 1 (z - 1)) hn fun x hx => by
    obtain ⟨h1, h2⟩ := h x hx
    exact List.mem_range'_1.mpr ⟨h1, by omega⟩
  rwa [List.length_range'] at q
theorem nodup_map_of {α β : Type} (f : α → β) : ∀ (l : List α), l.Nodup → (∀ x, x ∈ l → ∀ y, y ∈ l → f x = f y → x = y) → (l.map f).Nodup
  | [], _, _ => List.nodup_nil
  | a :: l, hn, hi => by
    obtain ⟨h1, h2⟩ := List.nodup_cons.mp hn
    rw [List.map_cons]
    refine List.nodup_cons.mpr ⟨fun hm => ?_, nodup_map_of f l h2 fun x hx y hy e => hi x (List.mem_cons_of_mem _ hx) y (List.mem_cons_of_mem _ hy) e⟩
    obtain ⟨b, hb, e⟩ := List.mem_map.mp hm
    have q := hi b (List.mem_cons_of_mem _ hb) a List.mem_cons_self e
    exact h1 (q ▸ hb)
theorem map_inj_of_nodup {α β : Type} (f : α → β) : ∀ (l : List α), (l.map f).Nodup → ∀ x, x ∈ l → ∀ y, y ∈ l → f x = f y → x = y
  | [], _, x, hx, _, _, _ => absurd hx List.not_mem_nil
  | a :: l, hn, x, hx, y, hy, e => by
    rw [List.map_cons] at hn
    obtain ⟨h1, h2⟩ := List.nodup_cons.mp hn
    rcases List.mem_cons.mp hx with rfl | hx'
    · rcases List.mem_cons.mp hy with rfl | hy'
      · rfl
      · exact absurd (List.mem_map.mpr ⟨y, hy', e.symm⟩) h1
    · rcases List.mem_cons.mp hy with rfl | hy'
      · exact absurd (List.mem_map.mpr ⟨x, hx', e⟩) h1
      · exact map_inj_of_nodup f l h2 x hx' y hy' e
theorem nodup_of_map {α β : Type} (f : α → β) : ∀ (l : List α), (l.map f).Nodup → l.Nodup
  | [], _ => List.nodup_nil
  | a :: l, hn => by
    rw [List.map_cons] at hn
    obtain ⟨h1, h2⟩ := List.nodup_cons.mp hn
    exact List.nodup_cons.mpr ⟨fun hm => h1 (List.mem_map.mpr ⟨a, hm, rfl⟩), nodup_of_map f l h2⟩
theorem nodup_filter {α : Type} (p : α → Bool) : ∀ (l : List α), l.Nodup → (l.filter p).Nodup
  | l, h => List.Pairwise.filter p h
/-- filter and its contrary together -/
theorem filter_len {α : Type} (p : α → Bool) : ∀ (l : List α), (l.filter p).length + (l.filter fun x => !p x).length = l.length
  | [] => rfl
  | a :: l => by
    have ih := filter_len p l
    rw [List.filter_cons, List.filter_cons]
    cases h : p a with
    | true =>
      rw [if_pos rfl, if_neg (by simp), List.length_cons, List.length_cons]
      omega
    | false =>
      rw [if_neg (by simp), if_pos (by simp), List.length_cons, List.length_cons]
      omega

/-! ### triples: the plan's number, the person, the desk -/
abbrev Pair := Int × Int
abbrev Trip := Nat × Pair
abbrev Trip.per (t : Trip) : Int := t.2.1
abbrev Trip.dsk (t : Trip) : Int := t.2.2
def IsPlan (m : List Pair) : Prop := (m.map (·.1)).Nodup ∧ (m.map (·.2)).Nodup
/-- pairs of unlike plans, persons, desks -/
structure Rain (M : Nat → List Pair) (S : Nat → Prop) (R : List Trip) : Prop where
  num : (R.map (·.1)).Nodup
  per : (R.map Trip.per).Nodup
  dsk : (R.map Trip.dsk).Nodup
  mem : ∀ t, t ∈ R → S t.1 ∧ t.2 ∈ M t.1

/-- the pairs of a plan that some persons and some desks cover are few -/
theorem cover_len {m : List Pair} (hm : IsPlan m) (A B : List Int) (h : ∀ x, x ∈ m → x.1 ∈ A ∨ x.2 ∈ B) : m.length ≤ A.length + B.length := by
  have e := filter_len (fun x : Pair => decide (x.1 ∈ A)) m
  have h1 : (m.filter fun x => decide (x.1 ∈ A)).length ≤ A.length := by
    have n1 : ((m.filter fun x => decide (x.1 ∈ A)).map (·.1)).Nodup := (List.Pairwise.sublist (List.Sublist.map _ List.filter_sublist) hm.1)
    have q := nodup_sub_len _ A n1 fun y hy => by
      obtain ⟨x, hx, rfl⟩ := List.mem_map.mp hy
      exact of_decide_eq_true (List.mem_filter.mp hx).2
    rwa [List.length_map] at q
  have h2 : (m.filter fun x => !decide (x.1 ∈ A)).length ≤ B.length := by
    have n1 : ((m.filter fun x => !decide (x.1 ∈ A)).map (·.2)).Nodup := (List.Pairwise.sublist (List.Sublist.map _ List.filter_sublist) hm.2)
    have q := nodup_sub_len _ B n1 fun y hy => by
      obtain ⟨x, hx, rfl⟩ := List.mem_map.mp hy
      obtain ⟨hx1, hx2⟩ := List.mem_filter.mp hx
      have nx : ¬ x.1 ∈ A := by simpa using hx2
      exact (h x hx1).resolve_left nx
    rwa [List.length_map] at q
  omega

/-! ### the state: Q, the pairs of the pick that are not reached; T, the reached desks, each with its pair of the pick and one more -/
def Tl (T : List (Trip × Trip)) : List Trip := T.map (·.1)
def Tr (T : List (Trip × Trip)) : List Trip := T.map (·.2)
/-- the pick -/
def Pick (Q : List Trip) (T : List (Trip × Trip)) : List Trip := Q ++ Tl T
def Used (Q : List Trip) (T : List (Trip × Trip)) : List Nat := Q.map (·.1) ++ ((Tl T).map (·.1) ++ (Tr T).map (·.1))
inductive Reach (Q : List Trip) (T : List (Trip × Trip)) : Int → Prop
  | free {p : Int} : p ∉ (Pick Q T).map Trip.per → Reach Q T p
  | step {a b : Trip} : (a, b) ∈ T → Reach Q T b.per → Reach Q T a.per
structure Stt (M : Nat → List Pair) (N : Nat) (Q : List Trip) (T : List (Trip × Trip)) : Prop where
  num : (Used Q T).Nodup
  per : ((Pick Q T).map Trip.per).Nodup
  dsk : ((Pick Q T).map Trip.dsk).Nodup
  one : ∀ t, t ∈ Q → (1 ≤ t.1 ∧ t.1 ≤ N) ∧ t.2 ∈ M t.1
  two : ∀ a b, (a, b) ∈ T → ((1 ≤ a.1 ∧ a.1 ≤ N) ∧ a.2 ∈ M a.1) ∧ ((1 ≤ b.1 ∧ b.1 ≤ N) ∧ b.2 ∈ M b.1) ∧ a.dsk = b.dsk
  rch : ∀ a b, (a, b) ∈ T → Reach Q T a.per


theorem mem_perm {α : Type} [DecidableEq α] {x : α} {l : List α} (h : x ∈ l) : ∃ m, l.Perm (x :: m) := ⟨l.erase x, List.perm_cons_erase h⟩
theorem nodup_perm {α : Type} {l m : List α} (h : l.Perm m) (n : l.Nodup) : m.Nodup := (h.nodup_iff).mp n
theorem pick_perm {Q : List Trip} {T T' : List (Trip × Trip)} (h : T.Perm T') : (Pick Q T).Perm (Pick Q T') := (List.Perm.refl Q).append (h.map _)
theorem used_perm {Q : List Trip} {T T' : List (Trip × Trip)} (h : T.Perm T') : (Used Q T).Perm (Used Q T') :=
  (List.Perm.refl _).append (((h.map _).map _).append ((h.map _).map _))
theorem Reach.perm {Q : List Trip} {T T' : List (Trip × Trip)} (h : T.Perm T') {p : Int} (r : Reach Q T p) : Reach Q T' p := by
  induction r with
  | free hp => exact .free fun m => hp (((pick_perm h).map Trip.per).mem_iff.mpr m)
  | step hm _ ih => exact .step (h.mem_iff.mp hm) ih
variable {M : Nat → List Pair} {N : Nat} {Q : List Trip} {T T' : List (Trip × Trip)}
theorem Stt.perm (S : Stt M N Q T) (h : T.Perm T') : Stt M N Q T' where
  num := nodup_perm (used_perm h) S.num
  per := nodup_perm ((pick_perm h).map _) S.per
  dsk := nodup_perm ((pick_perm h).map _) S.dsk
  one := S.one
  two := fun a b m => S.two a b (h.mem_iff.mpr m)
  rch := fun a b m => (S.rch a b (h.mem_iff.mpr m)).perm h
/-- who is not in Q is reached -/
theorem Stt.reach (S : Stt M N Q T) {p : Int} (h : p ∉ Q.map Trip.per) : Reach Q T p := by
  by_cases hp : p ∈ (Pick Q T).map Trip.per
  · unfold Pick at hp
    rw [List.map_append] at hp
    rcases List.mem_append.mp hp with q | q
    · exact absurd q h
    · obtain ⟨a, ha, rfl⟩ := List.mem_map.mp q
      obtain ⟨⟨a', b⟩, hab, rfl⟩ := List.mem_map.mp ha
      exact S.rch _ _ hab
  · exact .free hp
/-- the roles at a desk are changed -/
theorem Stt.flip {a b : Trip} (S : Stt M N Q ((a, b) :: T)) (h : b.per ∉ (Pick Q ((a, b) :: T)).map Trip.per) :
    Stt M N Q ((b, a) :: T) ∧ a.per ∉ (Pick Q ((b, a) :: T)).map Trip.per := by
  have ed : a.dsk = b.dsk := (S.two a b List.mem_cons_self).2.2
  have pa : (Pick Q ((a, b) :: T)).Perm (a :: Pick Q T) := by
    show (Q ++ a :: Tl T).Perm (a :: (Q ++ Tl T))
    exact List.perm_middle
  have pb : (Pick Q ((b, a) :: T)).Perm (b :: Pick Q T) := by
    show (Q ++ b :: Tl T).Perm (b :: (Q ++ Tl T))
    exact List.perm_middle
  have nper : ((a :: Pick Q T).map Trip.per).Nodup := nodup_perm (pa.map _) S.per
  have ndsk : ((a :: Pick Q T).map Trip.dsk).Nodup := nodup_perm (pa.map _) S.dsk
  rw [List.map_cons] at nper ndsk
  obtain ⟨n1, n2⟩ := List.nodup_cons.mp nper
  obtain ⟨d1, d2⟩ := List.nodup_cons.mp ndsk
  have hb : b.per ∉ (a :: Pick Q T).map Trip.per := fun m => h ((pa.map Trip.per).mem_iff.mpr m)
  rw [List.map_cons] at hb
  have hba : b.per ≠ a.per := fun e => hb (e ▸ List.mem_cons_self)
  have hbr : b.per ∉ (Pick Q T).map Trip.per := fun m => hb (List.mem_cons_of_mem _ m)
  have fra : a.per ∉ (Pick Q ((b, a) :: T)).map Trip.per := fun m => by
    have m' := (pb.map Trip.per).mem_iff.mp m
    rw [List.map_cons] at m'
    rcases List.mem_cons.mp m' with e | m'
    · exact hba e.symm
    · exact n1 m'
  have rr : ∀ p, Reach Q ((a, b) :: T) p → Reach Q ((b, a) :: T) p := fun p r => by
    induction r with
    | @free p hp =>
      by_cases e : p = b.per
      · subst e
        exact .step List.mem_cons_self (.free fra)
      · refine .free fun m => ?_
        have m' := (pb.map Trip.per).mem_iff.mp m
        rw [List.map_cons] at m'
        rcases List.mem_cons.mp m' with e' | m'
        · exact e e'
        · exact hp ((pa.map Trip.per).mem_iff.mpr (by rw [List.map_cons]; exact List.mem_cons_of_mem _ m'))
    | @step x y hm _ ih =>
      rcases List.mem_cons.mp hm with e | hm
      · cases e
        exact .free fra
      · exact .step (List.mem_cons_of_mem _ hm) ih
  refine ⟨⟨?_, ?_, ?_, S.one, fun x y m => ?_, fun x y m => ?_⟩, fra⟩
  · have q : (Used Q ((a, b) :: T)).Perm (Used Q ((b, a) :: T)) := by
      refine (List.Perm.refl _).append ?_
      show (a.1 :: (Tl T).map (·.1) ++ b.1 :: (Tr T).map (·.1)).Perm (b.1 :: (Tl T).map (·.1) ++ a.1 :: (Tr T).map (·.1))
      have q1 : (a.1 :: (Tl T).map (·.1) ++ b.1 :: (Tr T).map (·.1)).Perm (b.1 :: (a.1 :: (Tl T).map (·.1) ++ (Tr T).map (·.1))) := List.perm_middle
      have q2 : (b.1 :: (Tl T).map (·.1) ++ a.1 :: (Tr T).map (·.1)).Perm (a.1 :: (b.1 :: (Tl T).map (·.1) ++ (Tr T).map (·.1))) := List.perm_middle
      exact (q1.trans (List.Perm.swap _ _ _)).trans q2.symm
    exact nodup_perm q S.num
  · refine nodup_perm (pb.map Trip.per).symm ?_
    rw [List.map_cons]
    exact List.nodup_cons.mpr ⟨hbr, n2⟩
  · refine nodup_perm (pb.map Trip.dsk).symm ?_
    rw [List.map_cons]
    exact List.nodup_cons.mpr ⟨ed ▸ d1, d2⟩
  · rcases List.mem_cons.mp m with e | m
    · cases e
      obtain ⟨u, v, _⟩ := S.two a b List.mem_cons_self
      exact ⟨v, u, ed.symm⟩
    · exact S.two x y (List.mem_cons_of_mem _ m)
  · rcases List.mem_cons.mp m with e | m
    · cases e
      exact .step List.mem_cons_self (.free fra)
    · exact rr _ (S.rch x y (List.mem_cons_of_mem _ m))
/-- who is reached can be made free -/
theorem Stt.reroot (S : Stt M N Q T) {p : Int} (r : Reach Q T p) : ∃ T', Stt M N Q T' ∧ p ∉ (Pick Q T').map Trip.per ∧ T'.length = T.length ∧ (Used Q T').Perm (Used Q T) ∧
    (∀ x y, (x, y) ∈ T' → (x, y) ∈ T ∨ (y, x) ∈ T) ∧ (∀ x y, (x, y) ∈ T → (x, y) ∈ T' ∨ (y, x) ∈ T') := by
  induction r with
  | free hp => exact ⟨T, S, hp, rfl, .refl _, fun _ _ m => .inl m, fun _ _ m => .inl m⟩
  | @step a b hm _ ih =>
    obtain ⟨T1, S1, f1, l1, u1, s1, t1⟩ := ih
    have hab : (a, b) ∈ T1 := by
      rcases t1 a b hm with h | h
      · exact h
      · refine absurd ?_ f1
        refine List.mem_map.mpr ⟨b, List.mem_append_right _ (List.mem_map.mpr ⟨(b, a), h, rfl⟩), rfl⟩
    obtain ⟨T2, hp⟩ := mem_perm hab
    have S2 := S1.perm hp
    obtain ⟨S3, f3⟩ := S2.flip fun m => f1 (((pick_perm hp).map Trip.per).mem_iff.mpr m)
    have q : (Used Q ((b, a) :: T2)).Perm (Used Q ((a, b) :: T2)) := by
      refine (List.Perm.refl _).append ?_
      show (b.1 :: (Tl T2).map (·.1) ++ a.1 :: (Tr T2).map (·.1)).Perm (a.1 :: (Tl T2).map (·.1) ++ b.1 :: (Tr T2).map (·.1))
      have q1 : (a.1 :: (Tl T2).map (·.1) ++ b.1 :: (Tr T2).map (·.1)).Perm (b.1 :: (a.1 :: (Tl T2).map (·.1) ++ (Tr T2).map (·.1))) := List.perm_middle
      have q2 : (b.1 :: (Tl T2).map (·.1) ++ a.1 :: (Tr T2).map (·.1)).Perm (a.1 :: (b.1 :: (Tl T2).map (·.1) ++ (Tr T2).map (·.1))) := List.perm_middle
      exact (q2.trans (List.Perm.swap _ _ _)).trans q1.symm
    refine ⟨(b, a) :: T2, S3, f3, ?_, (q.trans (used_perm hp).symm).trans u1, fun x y m => ?_, fun x y m => ?_⟩
    · rw [← l1, hp.length_eq]
      rfl
    · rcases List.mem_cons.mp m with e | m
      · cases e
        exact (s1 a b hab).symm
      · exact s1 x y (hp.mem_iff.mpr (List.mem_cons_of_mem _ m))
    · have go : ∀ x y, (x, y) ∈ T1 → (x, y) ∈ (b, a) :: T2 ∨ (y, x) ∈ (b, a) :: T2 := fun x y m => by
        rcases List.mem_cons.mp (hp.mem_iff.mp m) with e | m
        · cases e
          exact .inr List.mem_cons_self
        · exact .inl (List.mem_cons_of_mem _ m)
      rcases t1 x y m with h | h
      · exact go x y h
      · exact (go y x h).symm

theorem used_cons (a b : Trip) : (Used Q ((a, b) :: T)).Perm (b.1 :: a.1 :: Used Q T) := by
  show (Q.map (·.1) ++ (a.1 :: (Tl T).map (·.1) ++ b.1 :: (Tr T).map (·.1))).Perm (b.1 :: a.1 :: (Q.map (·.1) ++ ((Tl T).map (·.1) ++ (Tr T).map (·.1))))
  have q1 : (a.1 :: (Tl T).map (·.1) ++ b.1 :: (Tr T).map (·.1)).Perm (b.1 :: a.1 :: ((Tl T).map (·.1) ++ (Tr T).map (·.1))) := List.perm_middle
  have q2 : (Q.map (·.1) ++ (b.1 :: a.1 :: ((Tl T).map (·.1) ++ (Tr T).map (·.1)))).Perm (b.1 :: (Q.map (·.1) ++ (a.1 :: ((Tl T).map (·.1) ++ (Tr T).map (·.1))))) := List.perm_middle
  have q3 : (Q.map (·.1) ++ (a.1 :: ((Tl T).map (·.1) ++ (Tr T).map (·.1)))).Perm (a.1 :: (Q.map (·.1) ++ ((Tl T).map (·.1) ++ (Tr T).map (·.1)))) := List.perm_middle
  exact ((List.Perm.append_left _ q1).trans q2).trans (q3.cons _)
/-- the one more pair at a desk is exchanged -/
theorem Stt.change {a b c : Trip} (S : Stt M N Q ((a, b) :: T)) (hf : c.per ∉ (Pick Q ((a, b) :: T)).map Trip.per) (hz : c.1 ∉ Used Q ((a, b) :: T)) (hn : 1 ≤ c.1 ∧ c.1 ≤ N) (hm : c.2 ∈ M c.1) (hd : a.dsk = c.dsk) :
    Stt M N Q ((a, c) :: T) := by
  have ep : Pick Q ((a, c) :: T) = Pick Q ((a, b) :: T) := rfl
  have rr : ∀ p, Reach Q ((a, b) :: T) p → Reach Q ((a, c) :: T) p := fun p r => by
    induction r with
    | free hp => exact .free hp
    | @step x y hm _ ih =>
      rcases List.mem_cons.mp hm with e | hm
      · cases e
        exact .step List.mem_cons_self (.free hf)
      · exact .step (List.mem_cons_of_mem _ hm) ih
  refine ⟨?_, S.per, S.dsk, S.one, fun x y m => ?_, fun x y m => ?_⟩
  · have n1 := nodup_perm (used_cons (Q := Q) (T := T) a b) S.num
    have nz : c.1 ∉ b.1 :: a.1 :: Used Q T := fun m => hz ((used_cons a b).mem_iff.mpr m)
    obtain ⟨_, n2⟩ := List.nodup_cons.mp n1
    exact nodup_perm (used_cons a c).symm (List.nodup_cons.mpr ⟨fun m => nz (List.mem_cons_of_mem _ m), n2⟩)
  · rcases List.mem_cons.mp m with e | m
    · cases e
      exact ⟨(S.two a b List.mem_cons_self).1, ⟨hn, hm⟩, hd⟩
    · exact S.two x y (List.mem_cons_of_mem _ m)
  · rcases List.mem_cons.mp m with e | m
    · cases e
      exact .step List.mem_cons_self (.free hf)
    · exact rr _ (S.rch x y (List.mem_cons_of_mem _ m))
theorem used_move (e c : Trip) : (Used Q ((e, c) :: T)).Perm (c.1 :: Used (e :: Q) T) := (used_cons e c).trans (.refl _)
theorem pick_move (e c : Trip) : (Pick Q ((e, c) :: T)).Perm (Pick (e :: Q) T) := List.perm_middle
/-- one desk more is reached -/
theorem Stt.grow {e c : Trip} (S : Stt M N (e :: Q) T) (hp : c.per ∉ (e :: Q).map Trip.per) (hz : c.1 ∉ Used (e :: Q) T) (hn : 1 ≤ c.1 ∧ c.1 ≤ N) (hm : c.2 ∈ M c.1) (hd : e.dsk = c.dsk) : Stt M N Q ((e, c) :: T) := by
  have rr : ∀ p, Reach (e :: Q) T p → Reach Q ((e, c) :: T) p := fun p r => by
    induction r with
    | free hp => exact .free fun m => hp (((pick_move e c).map Trip.per).mem_iff.mp m)
    | step hm _ ih => exact .step (List.mem_cons_of_mem _ hm) ih
  have rc : Reach Q ((e, c) :: T) c.per := rr _ (S.reach hp)
  refine ⟨nodup_perm (used_move e c).symm (List.nodup_cons.mpr ⟨hz, S.num⟩), nodup_perm ((pick_move e c).map _).symm S.per, nodup_perm ((pick_move e c).map _).symm S.dsk, fun t m => S.one t (List.mem_cons_of_mem _ m), fun x y m => ?_, fun x y m => ?_⟩
  · rcases List.mem_cons.mp m with q | m
    · cases q
      exact ⟨S.one e List.mem_cons_self, ⟨hn, hm⟩, hd⟩
    · exact S.two x y m
  · rcases List.mem_cons.mp m with q | m
    · cases q
      exact .step List.mem_cons_self rc
    · exact rr _ (S.rch x y m)
theorem Stt.perQ {Q' : List Trip} (S : Stt M N Q T) (h : Q.Perm Q') : Stt M N Q' T where
  num := nodup_perm ((h.map _).append_right _) S.num
  per := nodup_perm ((h.append_right _).map _) S.per
  dsk := nodup_perm ((h.append_right _).map _) S.dsk
  one := fun t m => S.one t (h.mem_iff.mpr m)
  two := S.two
  rch := fun a b m => by
    have go : ∀ p, Reach Q T p → Reach Q' T p := fun p r => by
      induction r with
      | free hp => exact .free fun m => hp (((h.append_right (Tl T)).map Trip.per).mem_iff.mpr m)
      | step hm _ ih => exact .step hm ih
    exact go _ (S.rch a b m)
abbrev In1 (N : Nat) : Nat → Prop := fun i => 1 ≤ i ∧ i ≤ N
/-- one pair more -/
theorem Stt.augment {c : Trip} (S : Stt M N Q T) (hp : c.per ∉ Q.map Trip.per) (hd : c.dsk ∉ (Pick Q T).map Trip.dsk) (hz : c.1 ∉ Used Q T) (hn : 1 ≤ c.1 ∧ c.1 ≤ N) (hm : c.2 ∈ M c.1) :
    ∃ R, Rain M (In1 N) R ∧ R.length = Q.length + T.length + 1 := by
  obtain ⟨T', S', f', l', u', s', t'⟩ := S.reroot (S.reach hp)
  have hd' : c.dsk ∉ (Pick Q T').map Trip.dsk := fun m => by
    obtain ⟨x, hx, ex⟩ := List.mem_map.mp m
    rcases List.mem_append.mp hx with q | q
    · exact hd (List.mem_map.mpr ⟨x, List.mem_append_left _ q, ex⟩)
    · obtain ⟨⟨x', y⟩, hxy, e⟩ := List.mem_map.mp q
      have e : x' = x := e
      subst e
      rcases s' _ _ hxy with q | q
      · exact hd (List.mem_map.mpr ⟨x', List.mem_append_right _ (List.mem_map.mpr ⟨_, q, rfl⟩), ex⟩)
      · exact hd (List.mem_map.mpr ⟨y, List.mem_append_right _ (List.mem_map.mpr ⟨_, q, rfl⟩), ((S.two y x' q).2.2).trans ex⟩)
  have hz' : c.1 ∉ Used Q T' := fun m => hz (u'.mem_iff.mp m)
  have nn : ((Pick Q T').map (·.1)).Nodup ∧ c.1 ∉ (Pick Q T').map (·.1) := by
    have e : Used Q T' = (Pick Q T').map (·.1) ++ (Tr T').map (·.1) := by
      unfold Used Pick
      rw [List.map_append, List.append_assoc]
    have n1 := S'.num
    rw [e] at n1 hz'
    exact ⟨(List.nodup_append.mp n1).1, fun m => hz' (List.mem_append_left _ m)⟩
  refine ⟨c :: Pick Q T', ⟨?_, ?_, ?_, fun t m => ?_⟩, ?_⟩
  · rw [List.map_cons]
    exact List.nodup_cons.mpr ⟨nn.2, nn.1⟩
  · rw [List.map_cons]
    exact List.nodup_cons.mpr ⟨f', S'.per⟩
  · rw [List.map_cons]
    exact List.nodup_cons.mpr ⟨hd', S'.dsk⟩
  · rcases List.mem_cons.mp m with rfl | m
    · exact ⟨hn, hm⟩
    · rcases List.mem_append.mp m with q | q
      · exact S'.one t q
      · obtain ⟨⟨x, y⟩, hxy, e⟩ := List.mem_map.mp q
        have e : x = t := e
        subst e
        exact (S'.two x y hxy).1
  · show (Q ++ T'.map (·.1)).length + 1 = _
    rw [List.length_append, List.length_map, l']
/-- the greatest of some numbers -/
theorem most_of : ∀ (l : List Nat), l ≠ [] → ∃ z, z ∈ l ∧ ∀ x, x ∈ l → x ≤ z
  | [], h => absurd rfl h
  | [a], _ => ⟨a, List.mem_singleton.mpr rfl, fun x m => by rw [List.mem_singleton.mp m]; exact Nat.le_refl _⟩
  | a :: b :: l, _ => by
    obtain ⟨z, hz, h⟩ := most_of (b :: l) (by simp)
    by_cases e : a ≤ z
    · refine ⟨z, List.mem_cons_of_mem _ hz, fun x m => ?_⟩
      rcases List.mem_cons.mp m with rfl | m
      · exact e
      · exact h x m
    · refine ⟨a, List.mem_cons_self, fun x m => ?_⟩
      rcases List.mem_cons.mp m with rfl | m
      · exact Nat.le_refl _
      · have := h x m
        omega
theorem used_len : (Used Q T).length = Q.length + 2 * T.length := by
  unfold Used Tl Tr
  rw [List.length_append, List.length_append, List.length_map, List.length_map, List.length_map, List.length_map, List.length_map]
  omega
theorem pick_len : (Pick Q T).length = Q.length + T.length := by
  unfold Pick Tl
  rw [List.length_append, List.length_map]
/-- A STEP: a pick with one pair more, or a state that is further -/
theorem Stt.next {k : Nat} (hM : ∀ i, IsPlan (M i)) (hs : ∀ i, 1 ≤ i → i ≤ 2 * k - 1 → min i k ≤ (M i).length) (S : Stt M (2 * k - 1) Q T) (hj : Q.length + T.length < k) :
    (∃ R, Rain M (In1 (2 * k - 1)) R ∧ R.length = Q.length + T.length + 1) ∨
      ∃ Q' T', Stt M (2 * k - 1) Q' T' ∧ Q'.length + T'.length = Q.length + T.length ∧ (T'.length = T.length + 1 ∨ (T'.length = T.length ∧ (Used Q' T').sum < (Used Q T).sum)) := by
  -- the spare plans
  let sp := (List.range' 1 (2 * k - 1)).filter fun i => !decide (i ∈ Used Q T)
  have spm : ∀ i, i ∈ sp ↔ (1 ≤ i ∧ i ≤ 2 * k - 1) ∧ i ∉ Used Q T := fun i => by
    show i ∈ (List.range' 1 (2 * k - 1)).filter _ ↔ _
    rw [List.mem_filter, List.mem_range'_1]
    simp
    omega
  have spn : sp.Nodup := nodup_filter _ _ List.nodup_range'
  have spl : Q.length + 1 ≤ sp.length := by
    have e := filter_len (fun i => decide (i ∈ Used Q T)) (List.range' 1 (2 * k - 1))
    rw [List.length_range'] at e
    have q := nodup_sub_len ((List.range' 1 (2 * k - 1)).filter fun i => decide (i ∈ Used Q T)) (Used Q T) (nodup_filter _ _ List.nodup_range') fun x hx => of_decide_eq_true (List.mem_filter.mp hx).2
    rw [used_len] at q
    have e2 : sp.length = ((List.range' 1 (2 * k - 1)).filter fun i => !decide (i ∈ Used Q T)).length := rfl
    omega
  -- a pair of a spare plan that is not covered
  by_cases hun : ∃ z, z ∈ sp ∧ ∃ g, g ∈ M z ∧ g.1 ∉ Q.map Trip.per ∧ g.2 ∉ (Tl T).map Trip.dsk
  · obtain ⟨z, hz, g, hg, hp, hd⟩ := hun
    obtain ⟨hzn, hzu⟩ := (spm z).mp hz
    by_cases hq : g.2 ∈ Q.map Trip.dsk
    · obtain ⟨e, he, ed⟩ := List.mem_map.mp hq
      obtain ⟨Q2, hQ⟩ := mem_perm he
      have S2 := S.perQ hQ
      have u2 : (Used Q T).Perm (Used (e :: Q2) T) := (hQ.map _).append_right _
      have S3 : Stt M (2 * k - 1) Q2 ((e, (z, g)) :: T) := S2.grow (c := (z, g)) (fun m => hp ((hQ.map Trip.per).mem_iff.mpr m)) (fun m => hzu (u2.mem_iff.mpr m)) hzn hg ed
      refine .inr ⟨Q2, (e, (z, g)) :: T, S3, ?_, .inl rfl⟩
      rw [hQ.length_eq, List.length_cons, List.length_cons]
      omega
    · refine .inl (S.augment (c := (z, g)) hp (fun m => ?_) hzu hzn hg)
      unfold Pick at m
      rw [List.map_append] at m
      exact (List.mem_append.mp m).elim hq hd
  · have cov : ∀ z, z ∈ sp → ∀ g, g ∈ M z → g.1 ∈ Q.map Trip.per ∨ g.2 ∈ (Tl T).map Trip.dsk := fun z hz g hg => by
      by_cases h1 : g.1 ∈ Q.map Trip.per
      · exact .inl h1
      · by_cases h2 : g.2 ∈ (Tl T).map Trip.dsk
        · exact .inr h2
        · exact absurd ⟨z, hz, g, hg, h1, h2⟩ hun
    obtain ⟨z, hz, zmax⟩ := most_of sp (fun e => by rw [e] at spl; simp at spl)
    obtain ⟨hzn, hzu⟩ := (spm z).mp hz
    have hsz := hs z hzn.1 hzn.2
    have hcl := cover_len (hM z) _ _ (cov z hz)
    rw [List.length_map, List.length_map, show (Tl T).length = T.length from List.length_map ..] at hcl
    have hzk : z ≤ Q.length + T.length := by
      rcases Nat.lt_or_ge z k with h | h
      · rw [Nat.min_eq_left (Nat.le_of_lt h)] at hsz
        omega
      · rw [Nat.min_eq_right h] at hsz
        omega
    have hMz : z ≤ (M z).length := by
      rw [Nat.min_eq_left (by omega)] at hsz
      exact hsz
    -- the pairs of z whose person is reached
    let ea := (M z).filter fun g => !decide (g.1 ∈ Q.map Trip.per)
    have eal : z - Q.length ≤ ea.length := by
      have e := filter_len (fun g : Pair => decide (g.1 ∈ Q.map Trip.per)) (M z)
      have q : ((M z).filter fun g => decide (g.1 ∈ Q.map Trip.per)).length ≤ (Q.map Trip.per).length := by
        have n1 : (((M z).filter fun g => decide (g.1 ∈ Q.map Trip.per)).map (·.1)).Nodup := (List.Pairwise.sublist (List.Sublist.map _ List.filter_sublist) (hM z).1)
        have q := nodup_sub_len _ (Q.map Trip.per) n1 fun y hy => by
          obtain ⟨x, hx, rfl⟩ := List.mem_map.mp hy
          exact of_decide_eq_true (List.mem_filter.mp hx).2
        rwa [List.length_map] at q
      rw [List.length_map] at q
      have e2 : ea.length = ((M z).filter fun g => !decide (g.1 ∈ Q.map Trip.per)).length := rfl
      omega
    have ean : (ea.map (·.2)).Nodup := List.Pairwise.sublist (List.Sublist.map _ List.filter_sublist) (hM z).2
    -- each of them can be exchanged
    have ex : ∀ g, g ∈ ea → ∃ y, y ∈ Used Q T ∧ (∃ a b, (a, b) ∈ T ∧ a.dsk = g.2 ∧ (y = a.1 ∨ y = b.1)) ∧ ∃ T', Stt M (2 * k - 1) Q T' ∧ T'.length = T.length ∧ (Used Q T').sum + y = (Used Q T).sum + z := fun g hg => by
      obtain ⟨hgM, hg2⟩ := List.mem_filter.mp hg
      have hp : g.1 ∉ Q.map Trip.per := by simpa using hg2
      have hd := (cov z hz g hgM).resolve_left hp
      obtain ⟨a0, ha0, ed⟩ := List.mem_map.mp hd
      obtain ⟨⟨a, b⟩, hab, e⟩ := List.mem_map.mp ha0
      have e : a = a0 := e
      subst e
      obtain ⟨T1, S1, f1, l1, u1, s1, t1⟩ := S.reroot (S.reach hp)
      have eb := (S.two a b hab).2.2
      have go : ∀ x y, (x, y) ∈ T1 → x.dsk = g.2 → (y = a ∨ y = b) → ∃ y, y ∈ Used Q T ∧ (∃ a b, (a, b) ∈ T ∧ a.dsk = g.2 ∧ (y = a.1 ∨ y = b.1)) ∧ ∃ T', Stt M (2 * k - 1) Q T' ∧ T'.length = T.length ∧ (Used Q T').sum + y = (Used Q T).sum + z := fun x y hxy dx hy => by
        obtain ⟨T2, hT⟩ := mem_perm hxy
        have S2 := S1.perm hT
        have u2 : (Used Q T).Perm (Used Q ((x, y) :: T2)) := u1.symm.trans (used_perm hT)
        have S3 := S2.change (c := (z, g)) (fun m => f1 (((pick_perm hT).map Trip.per).mem_iff.mpr m)) (fun m => hzu (u2.mem_iff.mpr m)) hzn hgM dx
        refine ⟨y.1, ?_, ⟨a, b, hab, ed, hy.imp (fun h => by rw [h]) fun h => by rw [h]⟩, (x, (z, g)) :: T2, S3, ?_, ?_⟩
        · exact u2.mem_iff.mpr ((used_cons x y).mem_iff.mpr List.mem_cons_self)
        · rw [← l1, hT.length_eq]
          rfl
        · have q1 := (used_cons (Q := Q) (T := T2) x (z, g)).sum_nat
          have q2 := (used_cons (Q := Q) (T := T2) x y).sum_nat
          have q3 := u2.sum_nat
          rw [List.sum_cons] at q1 q2
          show (Used Q ((x, (z, g)) :: T2)).sum + y.1 = (Used Q T).sum + z
          omega
      rcases t1 a b hab with h | h
      · exact go a b h ed (.inr rfl)
      · exact go b a h (eb ▸ ed) (.inl rfl)
    by_cases hbig : ∃ g, g ∈ ea ∧ ∃ y, z < y ∧ ∃ T', Stt M (2 * k - 1) Q T' ∧ T'.length = T.length ∧ (Used Q T').sum + y = (Used Q T).sum + z
    · obtain ⟨g, hg, y, hy, T', S', l', e'⟩ := hbig
      exact .inr ⟨Q, T', S', by rw [l'], .inr ⟨l', by omega⟩⟩
    · exfalso
      -- all that come out are less than z
      have ex2 : ∀ g : {g // g ∈ ea}, ∃ y, (1 ≤ y ∧ y < z) ∧ y ∈ Used Q T ∧ ∃ a b, (a, b) ∈ T ∧ a.dsk = g.1.2 ∧ (y = a.1 ∨ y = b.1) := fun ⟨g, hg⟩ => by
        obtain ⟨y, hyu, hyab, T', S', l', e'⟩ := ex g hg
        refine ⟨y, ⟨?_, ?_⟩, hyu, hyab⟩
        · obtain ⟨a, b, hab, _, h⟩ := hyab
          obtain ⟨h1, h2, _⟩ := S.two a b hab
          rcases h with h | h
          · rw [h]; exact h1.1.1
          · rw [h]; exact h2.1.1
        · rcases Nat.lt_trichotomy y z with h | h | h
          · exact h
          · exact absurd (h ▸ hyu) hzu
          · exact absurd ⟨g, hg, y, h, T', S', l', e'⟩ hbig
      let f : {g // g ∈ ea} → Nat := fun g => Classical.choose (ex2 g)
      have hf : ∀ g, (1 ≤ f g ∧ f g < z) ∧ f g ∈ Used Q T ∧ ∃ a b, (a, b) ∈ T ∧ a.dsk = g.1.2 ∧ (f g = a.1 ∨ f g = b.1) := fun g => Classical.choose_spec (ex2 g)
      -- the number tells the desk
      have tell : ∀ a b, (a, b) ∈ T → ∀ a' b', (a', b') ∈ T → ∀ y, (y = a.1 ∨ y = b.1) → (y = a'.1 ∨ y = b'.1) → a.dsk = a'.dsk := fun a b hab a' b' hab' y h1 h2 => by
        obtain ⟨T2, hT⟩ := mem_perm hab
        have n1 := nodup_perm (used_cons (Q := Q) (T := T2) a b) (nodup_perm (used_perm hT) S.num)
        rcases List.mem_cons.mp (hT.mem_iff.mp hab') with e | h
        · cases e
          rfl
        · exfalso
          have my : y ∈ Used Q T2 := by
            refine List.mem_append_right _ ?_
            rcases h2 with h2 | h2
            · exact List.mem_append_left _ (List.mem_map.mpr ⟨a', List.mem_map.mpr ⟨_, h, rfl⟩, h2.symm⟩)
            · exact List.mem_append_right _ (List.mem_map.mpr ⟨b', List.mem_map.mpr ⟨_, h, rfl⟩, h2.symm⟩)
          obtain ⟨n2, n3⟩ := List.nodup_cons.mp n1
          obtain ⟨n4, _⟩ := List.nodup_cons.mp n3
          rcases h1 with h1 | h1
          · exact n4 (h1 ▸ my)
          · exact n2 (List.mem_cons_of_mem _ (h1 ▸ my))
      have ln : (ea.attach.map f).Nodup := by
        refine nodup_map_of f _ ?_ fun g _ g' _ e => ?_
        · have q : (ea.attach.map Subtype.val).Nodup := by
            rw [List.attach_map_subtype_val]
            exact nodup_of_map _ _ ean
          exact nodup_of_map _ _ q
        · obtain ⟨_, _, a, b, hab, ed, h⟩ := hf g
          obtain ⟨_, _, a', b', hab', ed', h'⟩ := hf g'
          have q := tell a b hab a' b' hab' (f g) h (by rw [e]; exact h')
          have q2 : g.1.2 = g'.1.2 := ed.symm.trans (q.trans ed')
          exact Subtype.ext (map_inj_of_nodup (·.2) ea ean g.1 g.2 g'.1 g'.2 q2)
      have all : ((ea.attach.map f) ++ sp.erase z).Nodup := by
        refine List.nodup_append.mpr ⟨ln, spn.erase z, fun x hx y hy e => ?_⟩
        obtain ⟨g, _, rfl⟩ := List.mem_map.mp hx
        subst e
        exact ((spm _).mp (List.mem_of_mem_erase hy)).2 (hf g).2.1
      have q := nodup_lt_len _ z all fun x hx => by
        rcases List.mem_append.mp hx with h | h
        · obtain ⟨g, _, rfl⟩ := List.mem_map.mp h
          exact (hf g).1
        · have hx1 := List.mem_of_mem_erase h
          have h1 := (spm x).mp hx1
          have h2 := zmax x hx1
          have h3 : x ≠ z := fun e => (List.Nodup.not_mem_erase spn) (e ▸ h)
          exact ⟨h1.1.1, by omega⟩
      rw [List.length_append, List.length_map, List.length_attach, List.length_erase_of_mem hz] at q
      omega
theorem Stt.more {k : Nat} (hM : ∀ i, IsPlan (M i)) (hs : ∀ i, 1 ≤ i → i ≤ 2 * k - 1 → min i k ≤ (M i).length) : ∀ (n m : Nat) (Q : List Trip) (T : List (Trip × Trip)), Stt M (2 * k - 1) Q T → Q.length + T.length < k → Q.length ≤ n → (Used Q T).sum ≤ m →
    ∃ R, Rain M (In1 (2 * k - 1)) R ∧ R.length = Q.length + T.length + 1 := by
  intro n
  induction n with
  | zero =>
    intro m
    induction m with
    | zero =>
      intro Q T S hj hq hm
      rcases S.next hM hs hj with h | ⟨Q', T', S', l', h | ⟨h1, h2⟩⟩
      · exact h
      · omega
      · omega
    | succ m ih =>
      intro Q T S hj hq hm
      rcases S.next hM hs hj with h | ⟨Q', T', S', l', h | ⟨h1, h2⟩⟩
      · exact h
      · omega
      · rw [← l']
        exact ih Q' T' S' (by omega) (by omega) (by omega)
  | succ n ihn =>
    intro m
    induction m with
    | zero =>
      intro Q T S hj hq hm
      rcases S.next hM hs hj with h | ⟨Q', T', S', l', h | ⟨h1, h2⟩⟩
      · exact h
      · rw [← l']
        exact ihn _ Q' T' S' (by omega) (by omega) (Nat.le_refl _)
      · omega
    | succ m ih =>
      intro Q T S hj hq hm
      rcases S.next hM hs hj with h | ⟨Q', T', S', l', h | ⟨h1, h2⟩⟩
      · exact h
      · rw [← l']
        exact ihn _ Q' T' S' (by omega) (by omega) (Nat.le_refl _)
      · rw [← l']
        exact ih Q' T' S' (by omega) (by omega) (by omega)
/-- THE THEOREM (Aharoni, Berger): 2 k - 1 plans, the i-th with min(i, k) pairs or more, have a pick of k -/
theorem rising_core {k : Nat} (hM : ∀ i, IsPlan (M i)) (hs : ∀ i, 1 ≤ i → i ≤ 2 * k - 1 → min i k ≤ (M i).length) : ∀ j, j ≤ k → ∃ R, Rain M (In1 (2 * k - 1)) R ∧ R.length = j
  | 0, _ => ⟨[], ⟨List.nodup_nil, List.nodup_nil, List.nodup_nil, fun _ m => absurd m List.not_mem_nil⟩, rfl⟩
  | j + 1, h => by
    obtain ⟨R, hR, l⟩ := rising_core hM hs j (by omega)
    have S : Stt M (2 * k - 1) R [] := by
      refine ⟨?_, ?_, ?_, hR.mem, fun a b m => absurd m List.not_mem_nil, fun a b m => absurd m List.not_mem_nil⟩
      · show (R.map (fun t : Trip => t.1) ++ (([] : List Nat) ++ [])).Nodup
        rw [List.append_nil, List.append_nil]
        exact hR.num
      · show ((R ++ ([] : List Trip)).map _).Nodup
        rw [List.append_nil]
        exact hR.per
      · show ((R ++ ([] : List Trip)).map _).Nodup
        rw [List.append_nil]
        exact hR.dsk
    obtain ⟨R', h1, h2⟩ := Stt.more hM hs _ _ R [] S (by rw [l]; exact h) (Nat.le_refl _) (Nat.le_refl _)
    exact ⟨R', h1, by rw [h2, l]; rfl⟩
end Pk
/-! What the walk leans on: data that is tracked, values of any kind, calls. -/
namespace Pk
open PySem PySem.Spec PyProof.Rows L2

/-! ### heaps: what is kept -/
/-- tuples are kept, lists stay lists, dicts stay dicts -/
structure Wk (H H' : Hp) : Prop where
  tup : ∀ a xs, H a = some (.tup xs) → H' a = some (.tup xs)
  lst : ∀ a xs, H a = some (.lst xs) → ∃ ys, H' a = some (.lst ys)
  dct : ∀ a xs, H a = some (.dK xs) → ∃ ys, H' a = some (.dK ys)
theorem Wk.refl (H : Hp) : Wk H H := ⟨fun _ _ h => h, fun _ xs h => ⟨xs, h⟩, fun _ xs h => ⟨xs, h⟩⟩
theorem Wk.trans {H H1 H2 : Hp} (a : Wk H H1) (b : Wk H1 H2) : Wk H H2 :=
  ⟨fun x xs h => b.tup _ _ (a.tup x xs h), fun x xs h => let ⟨_, h1⟩ := a.lst x xs h; b.lst _ _ h1, fun x xs h => let ⟨_, h1⟩ := a.dct x xs h; b.dct _ _ h1⟩
theorem Wk.of {H H' : Hp} (s : Same H H') : Wk H H' := ⟨fun _ _ h => s _ _ h, fun _ xs h => ⟨xs, s _ _ h⟩, fun _ xs h => ⟨xs, s _ _ h⟩⟩
theorem same_new {H : Hp} {p : Addr} {o : HO} (h : H p = none) : Same H (upd H p o) := fun b x e => by
  rw [upd_ne (ne_of_none e h)]
  exact e
/-- an object that H does not know may change -/
theorem same_mut {H H' : Hp} {p : Addr} {o : HO} (e : Same H H') (h : H p = none) : Same H (upd H' p o) := fun a u ha => by
  rw [upd_ne (ne_of_none ha h)]
  exact e a u ha

/-! ### data whose tuples are tracked -/
mutual
inductive Dt (H : Hp) : V → PyData → Prop
  | non : Dt H .non .none
  | bl (b : Bool) : Dt H (.bl b) (.bool b)
  | int (i : Int) : Dt H (.int i) (.int i)
  | str (x : Str) : Dt H (.str x) (.str x)
  | tup {a : Addr} {xs : List V} {ds : List PyData} : H a = some (.tup xs) → DtAll H xs ds → Dt H (.ref a) (.tuple ds)
inductive DtAll (H : Hp) : List V → List PyData → Prop
  | nil : DtAll H [] []
  | cons {v : V} {vs : List V} {d : PyData} {ds : List PyData} : Dt H v d → DtAll H vs ds → DtAll H (v :: vs) (d :: ds)
end
mutual
theorem Dt.mono {H H' : Hp} (k : Wk H H') : ∀ {v : V} {d : PyData}, Dt H v d → Dt H' v d
  | _, _, .non => .non
  | _, _, .bl b => .bl b
  | _, _, .int i => .int i
  | _, _, .str x => .str x
  | _, _, .tup h hs => .tup (k.tup _ _ h) (DtAll.mono k hs)
theorem DtAll.mono {H H' : Hp} (k : Wk H H') : ∀ {vs : List V} {ds : List PyData}, DtAll H vs ds → DtAll H' vs ds
  | _, _, .nil => .nil
  | _, _, .cons h hs => .cons (Dt.mono k h) (DtAll.mono k hs)
end
mutual
theorem Dt.dp {K : PySem.W.Frag} {H : Hp} : ∀ {v : V} {d : PyData}, Dt H v d → Dp K H v d
  | _, _, .non => .non
  | _, _, .bl b => .bl b
  | _, _, .int i => .int i
  | _, _, .str x => .str x
  | _, _, .tup h hs => .tup (SqT.of h) (DtAll.dp hs)
theorem DtAll.dp {K : PySem.W.Frag} {H : Hp} : ∀ {vs : List V} {ds : List PyData}, DtAll H vs ds → DpAll K H vs ds
  | _, _, .nil => .nil
  | _, _, .cons h hs => .cons (Dt.dp h) (DtAll.dp hs)
end
theorem DtAll.len {H : Hp} : ∀ {vs : List V} {ds : List PyData}, DtAll H vs ds → vs.length = ds.length
  | _, _, .nil => rfl
  | _, _, .cons _ hs => by rw [List.length_cons, List.length_cons, DtAll.len hs]
theorem DtAll.get {H : Hp} : ∀ {vs : List V} {ds : List PyData} {i : Nat} {d : PyData}, DtAll H vs ds → ds[i]? = some d → ∃ v, vs[i]? = some v ∧ Dt H v d
  | _, _, _, _, .nil, h => by simp at h
  | _, _, 0, _, .cons h _, e => by
    simp at e
    exact ⟨_, rfl, e ▸ h⟩
  | _, _, i + 1, _, .cons _ hs, e => by
    obtain ⟨v, h1, h2⟩ := DtAll.get (i := i) hs (by simpa using e)
    exact ⟨v, by simpa using h1, h2⟩
theorem DtAll.getV {H : Hp} : ∀ {vs : List V} {ds : List PyData} {i : Nat} {v : V}, DtAll H vs ds → vs[i]? = some v → ∃ d, ds[i]? = some d ∧ Dt H v d
  | _, _, _, _, .nil, h => by simp at h
  | _, _, 0, _, .cons h _, e => by
    simp at e
    exact ⟨_, rfl, e ▸ h⟩
  | _, _, i + 1, _, .cons _ hs, e => by
    obtain ⟨d, h1, h2⟩ := DtAll.getV (i := i) hs (by simpa using e)
    exact ⟨d, by simpa using h1, h2⟩
theorem DtAll.app {H : Hp} : ∀ {vs ws : List V} {ds es : List PyData}, DtAll H vs ds → DtAll H ws es → DtAll H (vs ++ ws) (ds ++ es)
  | _, _, _, _, .nil, k => k
  | _, _, _, _, .cons h hs, k => .cons h (DtAll.app hs k)
theorem DtAll.one {H : Hp} {v : V} {d : PyData} (h : Dt H v d) : DtAll H [v] [d] := .cons h .nil
theorem DtAll.ints {H : Hp} : ∀ {vs : List V} {ns : List Int}, DtAll H vs (ns.map PyData.int) → vs = ns.map V.int
  | _, [], .nil => rfl
  | _, n :: ns, .cons (.int _) hs => by rw [List.map_cons, DtAll.ints hs]
theorem DtAll.of_ints {H : Hp} : ∀ (ns : List Int), DtAll H (ns.map V.int) (ns.map PyData.int)
  | [] => .nil
  | n :: ns => .cons (.int n) (DtAll.of_ints ns)
theorem DtAll.split {H : Hp} : ∀ {vs : List V} (ds es : List PyData), DtAll H vs (ds ++ es) → ∃ a b, vs = a ++ b ∧ DtAll H a ds ∧ DtAll H b es
  | _, [], _, h => ⟨[], _, rfl, .nil, h⟩
  | _, d :: ds, es, .cons h hs => by
    obtain ⟨a, b, e, h1, h2⟩ := DtAll.split ds es hs
    exact ⟨_ :: a, b, by rw [e]; rfl, .cons h h1, h2⟩

/-! ### values of any kind -/
/-- what the judges see of a value: an int, a tuple, something else -/
inductive A where
  | int (i : Int)
  | oth
  | tup (as : List A)
mutual
inductive Av (H : Hp) : V → A → Prop
  | int (i : Int) : Av H (.int i) (.int i)
  | non : Av H .non .oth
  | bl (b : Bool) : Av H (.bl b) .oth
  | str (x : Str) : Av H (.str x) .oth
  | lst {a : Addr} {xs : List V} : H a = some (.lst xs) → Av H (.ref a) .oth
  | dct {a : Addr} {kvs : List (Key × V)} : H a = some (.dK kvs) → Av H (.ref a) .oth
  | tup {a : Addr} {xs : List V} {as : List A} : H a = some (.tup xs) → AvAll H xs as → Av H (.ref a) (.tup as)
inductive AvAll (H : Hp) : List V → List A → Prop
  | nil : AvAll H [] []
  | cons {v : V} {vs : List V} {d : A} {ds : List A} : Av H v d → AvAll H vs ds → AvAll H (v :: vs) (d :: ds)
end
mutual
theorem Av.mono {H H' : Hp} (k : Wk H H') : ∀ {v : V} {d : A}, Av H v d → Av H' v d
  | _, _, .int i => .int i
  | _, _, .non => .non
  | _, _, .bl b => .bl b
  | _, _, .str x => .str x
  | _, _, .lst h => let ⟨_, h1⟩ := k.lst _ _ h; .lst h1
  | _, _, .dct h => let ⟨_, h1⟩ := k.dct _ _ h; .dct h1
  | _, _, .tup h hs => .tup (k.tup _ _ h) (AvAll.mono k hs)
theorem AvAll.mono {H H' : Hp} (k : Wk H H') : ∀ {vs : List V} {ds : List A}, AvAll H vs ds → AvAll H' vs ds
  | _, _, .nil => .nil
  | _, _, .cons h hs => .cons (Av.mono k h) (AvAll.mono k hs)
end
theorem AvAll.len {H : Hp} : ∀ {vs : List V} {ds : List A}, AvAll H vs ds → vs.length = ds.length
  | _, _, .nil => rfl
  | _, _, .cons _ hs => by rw [List.length_cons, List.length_cons, AvAll.len hs]
theorem AvAll.getV {H : Hp} : ∀ {vs : List V} {ds : List A} {i : Nat} {v : V}, AvAll H vs ds → vs[i]? = some v → ∃ d, ds[i]? = some d ∧ Av H v d
  | _, _, _, _, .nil, h => by simp at h
  | _, _, 0, _, .cons h _, e => by
    simp at e
    exact ⟨_, rfl, e ▸ h⟩
  | _, _, i + 1, _, .cons _ hs, e => by
    obtain ⟨d, h1, h2⟩ := AvAll.getV (i := i) hs (by simpa using e)
    exact ⟨d, by simpa using h1, h2⟩
theorem AvAll.app {H : Hp} : ∀ {vs ws : List V} {ds es : List A}, AvAll H vs ds → AvAll H ws es → AvAll H (vs ++ ws) (ds ++ es)
  | _, _, _, _, .nil, k => k
  | _, _, _, _, .cons h hs, k => .cons h (AvAll.app hs k)
mutual
def toA : PyData → A
  | .int i => .int i
  | .tuple ds => .tup (toAs ds)
  | _ => .oth
def toAs : List PyData → List A
  | [] => []
  | d :: ds => toA d :: toAs ds
end
theorem toAs_map : ∀ ds : List PyData, toAs ds = ds.map toA
  | [] => by simp [toAs]
  | d :: ds => by simp [toAs, toAs_map ds]
mutual
theorem Dt.av {H : Hp} : ∀ {v : V} {d : PyData}, Dt H v d → Av H v (toA d)
  | _, _, .non => by simpa [toA] using Av.non
  | _, _, .bl b => by simpa [toA] using Av.bl b
  | _, _, .int i => by simpa [toA] using Av.int i
  | _, _, .str x => by simpa [toA] using Av.str x
  | _, _, .tup h hs => by simpa [toA] using Av.tup h (DtAll.av hs)
theorem DtAll.av {H : Hp} : ∀ {vs : List V} {ds : List PyData}, DtAll H vs ds → AvAll H vs (toAs ds)
  | _, _, .nil => by simpa [toAs] using AvAll.nil
  | _, _, .cons h hs => by simpa [toAs] using AvAll.cons (Dt.av h) (DtAll.av hs)
end
/-- whether isinstance(v, int), isinstance(v, bool), isinstance(v, tuple), isinstance(v, dict) -/
def tyN : V → Option HO → String
  | .non, _ => "NoneType"
  | .bl _, _ => "bool"
  | .int _, _ => "int"
  | .str _, _ => "str"
  | .ref _, some (.lst _) => "list"
  | .ref _, some (.dK _) => "dict"
  | _, _ => "tuple"
theorem Av.ty {K : PySem.W.Frag} {H : Hp} {v : V} {a : A} (h : Av H v a) : ∃ n, TyX K H v (.type n) ∧
    ((n = "int" ∧ ∃ i, v = .int i ∧ a = .int i) ∨ (n = "tuple" ∧ ∃ t xs as, v = .ref t ∧ a = .tup as ∧ H t = some (.tup xs) ∧ AvAll H xs as) ∨ (n = "bool" ∧ a = .oth) ∨ (n = "dict" ∧ a = .oth) ∨ ((n = "NoneType" ∨ n = "str" ∨ n = "list") ∧ a = .oth)) := by
  cases h with
  | int i => exact ⟨_, .base (.int i), .inl ⟨rfl, i, rfl, rfl⟩⟩
  | non => exact ⟨_, .base .non, .inr (.inr (.inr (.inr ⟨.inl rfl, rfl⟩)))⟩
  | bl b => exact ⟨_, .base (.bl b), .inr (.inr (.inl ⟨rfl, rfl⟩))⟩
  | str x => exact ⟨_, .base (.str x), .inr (.inr (.inr (.inr ⟨.inr (.inl rfl), rfl⟩)))⟩
  | lst e => exact ⟨_, .base (.lst e), .inr (.inr (.inr (.inr ⟨.inr (.inr rfl), rfl⟩)))⟩
  | dct e => exact ⟨_, .base (.dK e), .inr (.inr (.inr (.inl ⟨rfl, rfl⟩)))⟩
  | tup e hs => exact ⟨_, .base (.tup e), .inr (.inl ⟨rfl, _, _, _, rfl, rfl, e, hs⟩)⟩
def A.isI : A → Bool
  | .int _ => true
  | _ => false
def A.isT : A → Bool
  | .tup _ => true
  | _ => false
section
variable {K : PySem.W.Frag} {H : Hp} {v : V} {a : A} {Q : VK}
/-- isinstance(v, tuple) -/
theorem Av.isiT (h : Av H v a) : ∃ t, TyX K H v t ∧ PySem.W.kitOne K t (.type "tuple") = some a.isT := by
  obtain ⟨n, t, ⟨rfl, i, _, rfl⟩ | ⟨rfl, _, _, _, _, rfl, _⟩ | ⟨rfl, rfl⟩ | ⟨rfl, rfl⟩ | ⟨rfl | rfl | rfl, rfl⟩⟩ := h.ty (K := K)
  · exact ⟨_, t, kit_ty (show kitB "int" "tuple" = some false by decide +kernel)⟩
  · exact ⟨_, t, kit_ty (show kitB "tuple" "tuple" = some true by decide +kernel)⟩
  · exact ⟨_, t, kit_ty (show kitB "bool" "tuple" = some false by decide +kernel)⟩
  · exact ⟨_, t, kit_ty (show kitB "dict" "tuple" = some false by decide +kernel)⟩
  · exact ⟨_, t, kit_ty (show kitB "NoneType" "tuple" = some false by decide +kernel)⟩
  · exact ⟨_, t, kit_ty (show kitB "str" "tuple" = some false by decide +kernel)⟩
  · exact ⟨_, t, kit_ty (show kitB "list" "tuple" = some false by decide +kernel)⟩
/-- isinstance(v, int): where it is False, v is no int; where it is True, isinstance(v, bool) tells the rest -/
theorem Av.isiI (h : Av H v a) : ∃ t b, TyX K H v t ∧ PySem.W.kitOne K t (.type "int") = some b ∧ (b = false → a.isI = false) ∧ (b = true → PySem.W.kitOne K t (.type "bool") = some (!a.isI)) := by
  obtain ⟨n, t, ⟨rfl, i, _, rfl⟩ | ⟨rfl, _, _, _, _, rfl, _⟩ | ⟨rfl, rfl⟩ | ⟨rfl, rfl⟩ | ⟨rfl | rfl | rfl, rfl⟩⟩ := h.ty (K := K)
  · exact ⟨_, true, t, kit_ty (by decide +kernel), (fun z => nomatch z), fun _ => kit_ty (show kitB "int" "bool" = some false by decide +kernel)⟩
  · exact ⟨_, false, t, kit_ty (by decide +kernel), (fun _ => rfl), fun z => nomatch z⟩
  · exact ⟨_, true, t, kit_ty (by decide +kernel), (fun z => nomatch z), fun _ => kit_ty (show kitB "bool" "bool" = some true by decide +kernel)⟩
  · exact ⟨_, false, t, kit_ty (by decide +kernel), (fun _ => rfl), fun z => nomatch z⟩
  · exact ⟨_, false, t, kit_ty (by decide +kernel), (fun _ => rfl), fun z => nomatch z⟩
  · exact ⟨_, false, t, kit_ty (by decide +kernel), (fun _ => rfl), fun z => nomatch z⟩
  · exact ⟨_, false, t, kit_ty (by decide +kernel), (fun _ => rfl), fun z => nomatch z⟩
theorem A.isI_int (h : Av H v a) (hi : a.isI = true) : ∃ i, v = .int i ∧ a = .int i := by
  cases h with
  | int i => exact ⟨i, rfl, rfl⟩
  | _ => exact absurd hi (by simp [A.isI])
end

/-! ### what the module's names hold -/
structure Glob (mg : Str → Option Value) : Prop where
  len : mg "len" = none
  isinstance : mg "isinstance" = none
  int : mg "int" = none
  bool : mg "bool" = none
  tuple : mg "tuple" = none
  dict : mg "dict" = none
  list : mg "list" = none
  sorted : mg "sorted" = none
  all : mg "all" = none
  range : mg "range" = none
  zip : mg "zip" = none
  enumerate : mg "enumerate" = none
  max : mg "max" = none
  min : mg "min" = none
  abs : mg "abs" = none
  set : mg "set" = none
  mn : ∃ t, mg "MOST_NUMBER" = some (.int 7 t)
  mp : ∃ t, mg "MOST_PLANS" = some (.int 16 t)
/-- a def that keeps a promise, as its callers see it -/
structure Cal (P : Program) (w : World) (K : PySem.W.Frag) (mg : Str → Option Value) (base : Heap) (CX : CXT) (k : Nat) (x : Str) (ps : List Str) (sp : Sp) : Prop where
  ex : ∃ (f : Addr) (fd : FuncData), FnOk P w K mg base CX k f fd ps sp ∧ mg x = some (.ref f) ∧ PySem.W.keepIn K (.ref f) = true ∧ Binds K fd ps []
section
variable {X : Cx}
theorem pe_mn {pos : Pos} (G : Glob X.mg) (hg : Gl X "MOST_NUMBER" := by rfl) : PE X (.Name "MOST_NUMBER" pos) (tC (.int 7)) := by
  obtain ⟨t, h⟩ := G.mn
  exact pe_glob hg h ⟨t, rfl⟩
theorem pe_mp {pos : Pos} (G : Glob X.mg) (hg : Gl X "MOST_PLANS" := by rfl) : PE X (.Name "MOST_PLANS" pos) (tC (.int 16)) := by
  obtain ⟨t, h⟩ := G.mp
  exact pe_glob hg h ⟨t, rfl⟩
/-- a built-in class as a value -/
theorem pe_ty {x : Str} {pos : Pos} (n : String) (hm : X.mg x = none) (hg : Gl X x := by rfl) (hv : bootBuiltins x = some (.type n) := by decide +kernel) (hn : x ≠ "__name__" := by decide) (hd : (x == ("__debug__" : Str)) = false := by decide) : PE X (.Name x pos) (tC (.ty n)) :=
  pe_bltn hg hm hv rfl hn hd
theorem pe_cal {CX : CXT} {k n : Nat} {x : Str} {ps : List Str} {sp : Sp} {p pos : Pos} {e : Expr} {es : List Expr} {t : TA} {E : XK} (C : Cal X.prog X.w X.K X.mg X.base CX k x ps sp) (hr : Room n X.A) (hx : Passes CX X E) (ha : PA X (e :: es) t) (hk : k ≤ n := by decide) (hg : Gl X x := by rfl)
    (hdb : (x == ("__debug__" : Str)) = false := by decide) (he : starEach (e :: es) X.env = (false, eval e X.env) :: starEach es X.env := by rfl) (hpl : (backTo pos (starEach es X.env)).any (·.1) = false := by rfl) :
    PE X (.Call (.Name x p) (e :: es) [] pos) (tCall sp [] E t) := by
  obtain ⟨f, fd, F, hm, hkp, hb⟩ := C.ex
  exact pe_call F (hr.mono hk) hg hm hkp hb .nil hx ha hdb he hpl
end
end Pk
/-! The defs of the text by their places, and their names by slots. -/
namespace Pk
open PySem PySem.Spec PyProof.Rows L2
def topS (i : Nat) : Stmt := PySem.Challenge.pw_pairpicks_k41_whole_rising_sizes_are_eno.main.body.getD i (.Pass ⟨0, 0, 0, 0⟩)

abbrev s_is_between : Stmt := topS 10
abbrev n_is_between : List Str := ["thing", "low", "high"]
theorem c_is_between : FnScope n_is_between ["thing", "low", "high"] (defScope s_is_between) := ⟨rfl, rfl, rfl, by decide +kernel, rfl, by decide +kernel, by decide +kernel⟩
abbrev s_is_pair : Stmt := topS 11
abbrev n_is_pair : List Str := ["thing"]
theorem c_is_pair : FnScope n_is_pair ["thing"] (defScope s_is_pair) := ⟨rfl, rfl, rfl, by decide +kernel, rfl, by decide +kernel, by decide +kernel⟩
abbrev s_are_apart : Stmt := topS 12
abbrev n_are_apart : List Str := ["pairs", "pair", "persons", "desks"]
theorem c_are_apart : FnScope n_are_apart ["pairs"] (defScope s_are_apart) := ⟨rfl, rfl, rfl, by decide +kernel, rfl, by decide +kernel, by decide +kernel⟩
abbrev s_plans_right : Stmt := topS 13
abbrev n_plans_right : List Str := ["thing", "pair"]
theorem c_plans_right : FnScope n_plans_right ["thing"] (defScope s_plans_right) := ⟨rfl, rfl, rfl, by decide +kernel, rfl, by decide +kernel, by decide +kernel⟩
abbrev s_books_right : Stmt := topS 14
abbrev n_books_right : List Str := ["thing", "plan"]
theorem c_books_right : FnScope n_books_right ["thing"] (defScope s_books_right) := ⟨rfl, rfl, rfl, by decide +kernel, rfl, by decide +kernel, by decide +kernel⟩
abbrev s_need_book : Stmt := topS 15
abbrev n_need_book : List Str := ["book"]
theorem c_need_book : FnScope n_need_book ["book"] (defScope s_need_book) := ⟨rfl, rfl, rfl, by decide +kernel, rfl, by decide +kernel, by decide +kernel⟩
abbrev s_sizes : Stmt := topS 17
abbrev n_sizes : List Str := ["book", "plan"]
theorem c_sizes : FnScope n_sizes ["book"] (defScope s_sizes) := ⟨rfl, rfl, rfl, by decide +kernel, rfl, by decide +kernel, by decide +kernel⟩
abbrev s_are_rising : Stmt := topS 18
abbrev n_are_rising : List Str := ["thing", "many", "item", "one", "other"]
theorem c_are_rising : FnScope n_are_rising ["thing", "many"] (defScope s_are_rising) := ⟨rfl, rfl, rfl, by decide +kernel, rfl, by decide +kernel, by decide +kernel⟩
abbrev s_kept : Stmt := topS 19
abbrev n_kept : List Str := ["book", "numbers", "number"]
theorem c_kept : FnScope n_kept ["book", "numbers"] (defScope s_kept) := ⟨rfl, rfl, rfl, by decide +kernel, rfl, by decide +kernel, by decide +kernel⟩
abbrev s_sure_of : Stmt := topS 20
abbrev n_sure_of : List Str := ["book", "found", "number", "plan"]
theorem c_sure_of : FnScope n_sure_of ["book"] (defScope s_sure_of) := ⟨rfl, rfl, rfl, by decide +kernel, rfl, by decide +kernel, by decide +kernel⟩
abbrev s_sure : Stmt := topS 21
abbrev n_sure : List Str := ["book"]
theorem c_sure : FnScope n_sure ["book"] (defScope s_sure) := ⟨rfl, rfl, rfl, by decide +kernel, rfl, by decide +kernel, by decide +kernel⟩
abbrev s_picks_right : Stmt := topS 23
abbrev n_picks_right : List Str := ["book", "thing", "number"]
theorem c_picks_right : FnScope n_picks_right ["book", "thing"] (defScope s_picks_right) := ⟨rfl, rfl, rfl, by decide +kernel, rfl, by decide +kernel, by decide +kernel⟩
abbrev s_is_pick : Stmt := topS 24
abbrev n_is_pick : List Str := ["book", "thing"]
theorem c_is_pick : FnScope n_is_pick ["book", "thing"] (defScope s_is_pick) := ⟨rfl, rfl, rfl, by decide +kernel, rfl, by decide +kernel, by decide +kernel⟩
abbrev s_sorted_pick : Stmt := topS 25
abbrev n_sorted_pick : List Str := ["pick", "number"]
theorem c_sorted_pick : FnScope n_sorted_pick ["pick"] (defScope s_sorted_pick) := ⟨rfl, rfl, rfl, by decide +kernel, rfl, by decide +kernel, by decide +kernel⟩
abbrev s_unused_of : Stmt := topS 26
abbrev n_unused_of : List Str := ["book", "pick", "number"]
theorem c_unused_of : FnScope n_unused_of ["book", "pick"] (defScope s_unused_of) := ⟨rfl, rfl, rfl, by decide +kernel, rfl, by decide +kernel, by decide +kernel⟩
abbrev s_are_sizes : Stmt := topS 28
abbrev n_are_sizes : List Str := ["thing", "item"]
theorem c_are_sizes : FnScope n_are_sizes ["thing"] (defScope s_are_sizes) := ⟨rfl, rfl, rfl, by decide +kernel, rfl, by decide +kernel, by decide +kernel⟩
abbrev s_need_sizes : Stmt := topS 29
abbrev n_need_sizes : List Str := ["thing"]
theorem c_need_sizes : FnScope n_need_sizes ["thing"] (defScope s_need_sizes) := ⟨rfl, rfl, rfl, by decide +kernel, rfl, by decide +kernel, by decide +kernel⟩
abbrev s_links_of : Stmt := topS 31
abbrev n_links_of : List Str := ["book", "pick", "order", "number", "holders", "standing", "person", "reached", "seen", "found", "pair", "told", "last"]
theorem c_links_of : FnScope n_links_of ["book", "pick", "order"] (defScope s_links_of) := ⟨rfl, rfl, rfl, by decide +kernel, rfl, by decide +kernel, by decide +kernel⟩
abbrev s_path_of : Stmt := topS 32
abbrev n_path_of : List Str := ["book", "pick", "order", "links", "is_ended", "number", "desks", "link", "told", "found"]
theorem c_path_of : FnScope n_path_of ["book", "pick", "order"] (defScope s_path_of) := ⟨rfl, rfl, rfl, by decide +kernel, rfl, by decide +kernel, by decide +kernel⟩
abbrev s_grown_of : Stmt := topS 33
abbrev n_grown_of : List Str := ["book", "pick", "order", "found", "link", "persons", "number", "kept", "person", "desk"]
theorem c_grown_of : FnScope n_grown_of ["book", "pick", "order"] (defScope s_grown_of) := ⟨rfl, rfl, rfl, by decide +kernel, rfl, by decide +kernel, by decide +kernel⟩
abbrev s_grow_of : Stmt := topS 35
abbrev n_grow_of : List Str := ["book", "pick", "found", "more"]
theorem c_grow_of : FnScope n_grow_of ["book", "pick"] (defScope s_grow_of) := ⟨rfl, rfl, rfl, by decide +kernel, rfl, by decide +kernel, by decide +kernel⟩
abbrev s_need_pairs : Stmt := topS 37
abbrev n_need_pairs : List Str := ["number"]
theorem c_need_pairs : FnScope n_need_pairs ["number"] (defScope s_need_pairs) := ⟨rfl, rfl, rfl, by decide +kernel, rfl, by decide +kernel, by decide +kernel⟩
abbrev s_lack_at : Stmt := topS 38
abbrev n_lack_at : List Str := ["sizes", "number", "least", "size"]
theorem c_lack_at : FnScope n_lack_at ["sizes", "number", "least"] (defScope s_lack_at) := ⟨rfl, rfl, rfl, by decide +kernel, rfl, by decide +kernel, by decide +kernel⟩
abbrev s_first_short : Stmt := topS 39
abbrev n_first_short : List Str := ["sizes", "number", "least"]
theorem c_first_short : FnScope n_first_short ["sizes", "number"] (defScope s_first_short) := ⟨rfl, rfl, rfl, by decide +kernel, rfl, by decide +kernel, by decide +kernel⟩
abbrev s_picks_by_spans : Stmt := topS 40
abbrev n_picks_by_spans : List Str := ["book", "wanted", "known", "number", "plan", "span", "person", "desk", "more"]
theorem c_picks_by_spans : FnScope n_picks_by_spans ["book", "wanted"] (defScope s_picks_by_spans) := ⟨rfl, rfl, rfl, by decide +kernel, rfl, by decide +kernel, by decide +kernel⟩
abbrev s_rises : Stmt := topS 41
abbrev n_rises : List Str := ["sizes", "number"]
theorem c_rises : FnScope n_rises ["sizes", "number"] (defScope s_rises) := ⟨rfl, rfl, rfl, by decide +kernel, rfl, by decide +kernel, by decide +kernel⟩
abbrev s_rises_to : Stmt := topS 42
abbrev n_rises_to : List Str := ["sizes", "found"]
theorem c_rises_to : FnScope n_rises_to ["sizes"] (defScope s_rises_to) := ⟨rfl, rfl, rfl, by decide +kernel, rfl, by decide +kernel, by decide +kernel⟩
abbrev s_rising_pick : Stmt := topS 43
abbrev n_rising_pick : List Str := ["book", "number", "plan", "last", "item"]
theorem c_rising_pick : FnScope n_rising_pick ["book", "number"] (defScope s_rising_pick) := ⟨rfl, rfl, rfl, by decide +kernel, rfl, by decide +kernel, by decide +kernel⟩
abbrev s__law_begun : Stmt := topS 45
abbrev n__law_begun : List Str := ["_law_script", "_law_cell", "_law_cells_here", "_law_large"]
theorem c__law_begun : FnScope n__law_begun ["_law_script"] (defScope s__law_begun) := ⟨rfl, rfl, rfl, by decide +kernel, rfl, by decide +kernel, by decide +kernel⟩
abbrev s__law_draw : Stmt := topS 46
abbrev n__law_draw : List Str := ["_law_state", "_law_size_here", "_law_found", "_law_turn", "_law_cell", "_law_mixed_here"]
theorem c__law_draw : FnScope n__law_draw ["_law_state", "_law_size_here"] (defScope s__law_draw) := ⟨rfl, rfl, rfl, by decide +kernel, rfl, by decide +kernel, by decide +kernel⟩
abbrev s__law_pick : Stmt := topS 47
abbrev n__law_pick : List Str := ["_law_state", "_law_several"]
theorem c__law_pick : FnScope n__law_pick ["_law_state", "_law_several"] (defScope s__law_pick) := ⟨rfl, rfl, rfl, by decide +kernel, rfl, by decide +kernel, by decide +kernel⟩
abbrev s__law_mixed : Stmt := topS 48
abbrev n__law_mixed : List Str := ["_law_state", "_law_several", "_law_left", "_law_found"]
theorem c__law_mixed : FnScope n__law_mixed ["_law_state", "_law_several"] (defScope s__law_mixed) := ⟨rfl, rfl, rfl, by decide +kernel, rfl, by decide +kernel, by decide +kernel⟩
abbrev s__law_caught : Stmt := topS 49
abbrev n__law_caught : List Str := ["_law_work", "_law_caught_here", "error"]
theorem c__law_caught : FnScope n__law_caught ["_law_work"] (defScope s__law_caught) := ⟨rfl, rfl, rfl, by decide +kernel, rfl, by decide +kernel, by decide +kernel⟩
abbrev s__law_is_whole : Stmt := topS 50
abbrev n__law_is_whole : List Str := ["_law_item"]
theorem c__law_is_whole : FnScope n__law_is_whole ["_law_item"] (defScope s__law_is_whole) := ⟨rfl, rfl, rfl, by decide +kernel, rfl, by decide +kernel, by decide +kernel⟩
abbrev s__law_is_below : Stmt := topS 51
abbrev n__law_is_below : List Str := ["_law_item", "_law_many"]
theorem c__law_is_below : FnScope n__law_is_below ["_law_item", "_law_many"] (defScope s__law_is_below) := ⟨rfl, rfl, rfl, by decide +kernel, rfl, by decide +kernel, by decide +kernel⟩
abbrev s__law_is_pair : Stmt := topS 52
abbrev n__law_is_pair : List Str := ["_law_item"]
theorem c__law_is_pair : FnScope n__law_is_pair ["_law_item"] (defScope s__law_is_pair) := ⟨rfl, rfl, rfl, by decide +kernel, rfl, by decide +kernel, by decide +kernel⟩
abbrev s__law_are_apart : Stmt := topS 53
abbrev n__law_are_apart : List Str := ["_law_several", "_law_pair"]
theorem c__law_are_apart : FnScope n__law_are_apart ["_law_several"] (defScope s__law_are_apart) := ⟨rfl, rfl, rfl, by decide +kernel, rfl, by decide +kernel, by decide +kernel⟩
abbrev s__law_is_plan : Stmt := topS 54
abbrev n__law_is_plan : List Str := ["_law_item", "_law_pair"]
theorem c__law_is_plan : FnScope n__law_is_plan ["_law_item"] (defScope s__law_is_plan) := ⟨rfl, rfl, rfl, by decide +kernel, rfl, by decide +kernel, by decide +kernel⟩
abbrev s__law_is_book : Stmt := topS 55
abbrev n__law_is_book : List Str := ["_law_item", "_law_told"]
theorem c__law_is_book : FnScope n__law_is_book ["_law_item"] (defScope s__law_is_book) := ⟨rfl, rfl, rfl, by decide +kernel, rfl, by decide +kernel, by decide +kernel⟩
abbrev s__law_plan : Stmt := topS 56
abbrev n__law_plan : List Str := ["_law_state", "_law_many", "_law_most", "_law_persons", "_law_desks"]
theorem c__law_plan : FnScope n__law_plan ["_law_state", "_law_many", "_law_most"] (defScope s__law_plan) := ⟨rfl, rfl, rfl, by decide +kernel, rfl, by decide +kernel, by decide +kernel⟩
abbrev s__law_any_plan : Stmt := topS 57
abbrev n__law_any_plan : List Str := ["_law_state", "_law_most"]
theorem c__law_any_plan : FnScope n__law_any_plan ["_law_state", "_law_most"] (defScope s__law_any_plan) := ⟨rfl, rfl, rfl, by decide +kernel, rfl, by decide +kernel, by decide +kernel⟩
abbrev s__law_near_plan : Stmt := topS 58
abbrev n__law_near_plan : List Str := ["_law_state", "_law_told", "_law_left", "_law_item", "_law_pair", "_law_persons", "_law_desks"]
theorem c__law_near_plan : FnScope n__law_near_plan ["_law_state", "_law_told"] (defScope s__law_near_plan) := ⟨rfl, rfl, rfl, by decide +kernel, rfl, by decide +kernel, by decide +kernel⟩
abbrev s__law_book : Stmt := topS 59
abbrev n__law_book : List Str := ["_law_state", "_law_most", "_law_many", "_law_wide", "_law_way", "_law_lap", "_law_size_here", "_law_two", "_law_found", "_law_told"]
theorem c__law_book : FnScope n__law_book ["_law_state", "_law_most"] (defScope s__law_book) := ⟨rfl, rfl, rfl, by decide +kernel, rfl, by decide +kernel, by decide +kernel⟩
abbrev s__law_is_pick : Stmt := topS 60
abbrev n__law_is_pick : List Str := ["_law_book_here", "_law_item", "_law_number"]
theorem c__law_is_pick : FnScope n__law_is_pick ["_law_book_here", "_law_item"] (defScope s__law_is_pick) := ⟨rfl, rfl, rfl, by decide +kernel, rfl, by decide +kernel, by decide +kernel⟩
abbrev s__law_bool_pair : Stmt := topS 61
abbrev n__law_bool_pair : List Str := ["_law_state", "_law_pair", "_law_spot", "_law_item", "_law_spots_here"]
theorem c__law_bool_pair : FnScope n__law_bool_pair ["_law_state", "_law_pair"] (defScope s__law_bool_pair) := ⟨rfl, rfl, rfl, by decide +kernel, rfl, by decide +kernel, by decide +kernel⟩
abbrev s__law_bad_plan : Stmt := topS 62
abbrev n__law_bad_plan : List Str := ["_law_state", "_law_told", "_law_spot", "_law_pair", "_law_other", "_law_item", "_law_some"]
theorem c__law_bad_plan : FnScope n__law_bad_plan ["_law_state"] (defScope s__law_bad_plan) := ⟨rfl, rfl, rfl, by decide +kernel, rfl, by decide +kernel, by decide +kernel⟩
abbrev s__law_bad_book : Stmt := topS 63
abbrev n__law_bad_book : List Str := ["_law_state", "_law_told", "_law_spot", "_law_bad", "_law_some", "_law_item"]
theorem c__law_bad_book : FnScope n__law_bad_book ["_law_state"] (defScope s__law_bad_book) := ⟨rfl, rfl, rfl, by decide +kernel, rfl, by decide +kernel, by decide +kernel⟩
abbrev s__law_sub : Stmt := topS 64
abbrev n__law_sub : List Str := ["_law_state", "_law_told", "_law_many"]
theorem c__law_sub : FnScope n__law_sub ["_law_state", "_law_told", "_law_many"] (defScope s__law_sub) := ⟨rfl, rfl, rfl, by decide +kernel, rfl, by decide +kernel, by decide +kernel⟩
abbrev s__law_ring_in : Stmt := topS 65
abbrev n__law_ring_in : List Str := ["_law_state", "_law_many", "_law_wide", "_law_persons", "_law_desks"]
theorem c__law_ring_in : FnScope n__law_ring_in ["_law_state", "_law_many", "_law_wide"] (defScope s__law_ring_in) := ⟨rfl, rfl, rfl, by decide +kernel, rfl, by decide +kernel, by decide +kernel⟩
abbrev s__law_sized_book : Stmt := topS 66
abbrev n__law_sized_book : List Str := ["_law_state", "_law_sizes_here", "_law_wide", "_law_way", "_law_greatest", "_law_size_here", "_law_lap", "_law_two", "_law_found", "_law_told"]
theorem c__law_sized_book : FnScope n__law_sized_book ["_law_state", "_law_sizes_here", "_law_wide"] (defScope s__law_sized_book) := ⟨rfl, rfl, rfl, by decide +kernel, rfl, by decide +kernel, by decide +kernel⟩
abbrev s__law_rising : Stmt := topS 67
abbrev n__law_rising : List Str := ["_law_state", "_law_number", "_law_found", "_law_size_here", "_law_extra", "_law_lap"]
theorem c__law_rising : FnScope n__law_rising ["_law_state", "_law_number"] (defScope s__law_rising) := ⟨rfl, rfl, rfl, by decide +kernel, rfl, by decide +kernel, by decide +kernel⟩
abbrev s__law_wrong_number : Stmt := topS 68
abbrev n__law_wrong_number : List Str := ["_law_state"]
theorem c__law_wrong_number : FnScope n__law_wrong_number ["_law_state"] (defScope s__law_wrong_number) := ⟨rfl, rfl, rfl, by decide +kernel, rfl, by decide +kernel, by decide +kernel⟩
abbrev s_law : Stmt := topS 69
abbrev n_law : List Str := ["_law_script", "_law_state", "_law_turn", "_law_number", "_law_sizes_here", "_law_told", "_law_numbers_here", "_law_greatest", "_law_book_here_here", "_law_item", "_law_less", "_law_odd", "_law_wrong"]
theorem c_law : FnScope n_law ["_law_script"] (defScope s_law) := ⟨rfl, rfl, rfl, by decide +kernel, rfl, by decide +kernel, by decide +kernel⟩
end Pk
set_option maxHeartbeats 2000000
/-! Rules that the layer lacks: set comprehensions of ints; comprehensions of sets and dicts stored at a local. -/
namespace Pk
open PySem PySem.Spec PyProof.Rows L2

section
variable {X : Cx}
/-- one int more in a tracked set -/
theorem addI_ok {pins : List (Addr × Obj)} {σ : L2.St} {H : Hp} {s : Shared} {E : Value → Shared → Prop} {D : Addr} {S : Int → Bool} {n : Nat} {y : Int} {tk : Tok} {Q : Value → Shared → Prop} (I : Inv X pins σ H s)
    (hD : H D = some (SetO X.w D S n)) (room : n + 1 < scanBound) (h : ∀ s', Inv X pins σ (upd H D (SetO X.w D (fun j => S j || decide (j = y)) (if S y = true then n else n + 1))) s' → Q .none s') :
    wpAny (model X.prog X.w) X.A (call (.builtin "set.add") [.ref D, .int y tk]) Q E s := by
  refine setR_add (setO_get I hD) room fun h2 same made => ?_
  have there : ∃ u, h2.get? D = some u := let ⟨o, _, _, _, e, _⟩ := made; ⟨o, e⟩
  refine h _ (I.write (e := D) (t' := s.toks + 1) ?_ (.inl rfl) (fun b u hb hu => (same.2 b hb).trans hu) there (setO_new made))
  rw [hD]
  exact True.intro
/-- {elt for target in iter if ..}, elt an int; D: where the new set stands -/
def tScI (w : World) (wi : TI) (g : TG) (tt : TT) (te : TE) (vs : List Nat) : TE := fun σ H Q => wi σ H fun J H1 => ∀ D, H1 D = none →
  ∃ W : Nat → Nat → Hp → Prop, (∃ m, W 0 m (upd H1 D (SetO w D (fun _ => false) 0))) ∧ ∀ i m H, W i m H →
    (J.stop i H ∧ Q (.ref D) H) ∨ (J.go i H ∧ ∃ Nx : Hp → Prop, (∀ H', Nx H' → ∃ m', m' < m ∧ W (i + 1) m' H') ∧
      ∀ x H', J.yld i H x H' → g x (wipe σ vs) H' fun σ2 H2 => wipe σ2 vs = wipe σ vs ∧ tt σ2 H2 fun b H3 =>
        if b = true then te σ2 H3 fun y H4 => ∃ (c : Int) (S : Int → Bool) (n : Nat), y = .int c ∧ H4 D = some (SetO w D S n) ∧ n + 1 < scanBound ∧
          Nx (upd H4 D (SetO w D (fun j => S j || decide (j = c)) (if S c = true then n else n + 1)))
        else Nx H3)
abbrev Blk5 (X : Cx) (scope : Scope) (p : Cx → Prop) : Prop := ∀ (s : Shared) (H : Hp) (C : Addr) (cl : List (PySem.Str × Addr)) (fp : List Addr), p (X.blk s H scope (compEnvC scope cl C X.env) fp)
theorem scI_core {pins : List (Addr × Obj)} {s : Shared} {σ : L2.St} {H : Hp} {Q : VK} {elt tg iter : Expr} {ifs : List Expr} {scope : Scope} {own : List (PySem.Str × Nat)} {pos pos' : Pos} {wi : TI} {g : TG} {tt : TT} {te : TE}
    {use : Option (Value → Sem Unit)} {Qf : Value → Shared → Prop} (hc : X.calm = true) (hN : X.N.Nodup) (I : Inv X pins σ H s) (hi : PI X tg iter wi) (ok : BlkOk X.N X.env.scope scope own)
    (hg : Blk5 X scope fun Z => PG Z tg g) (ht : Blk5 X scope fun Z => PTs Z ifs tt) (he : Blk5 X scope fun Z => PE Z elt te) (hs : ∀ x, foldedSetIterable iter X.env x = pure x)
    (h : tScI X.w wi g tt te (own.map (·.2)) σ H Q)
    (back : ∀ D C s' m H', Inv X pins σ H' s' → Q (.ref D) H' → s'.heap.Ns C m → FpOk X pins H' C → compPost (model X.prog X.w) X.A X.xe use Qf (.ref D) C (.ok .next) s') :
    wpAny (model X.prog X.w) X.A (comprehension (.SetComp elt [⟨tg, iter, ifs, 0⟩] scope pos) scope X.env pos' (newSet (.type "set")) false (eval iter X.env) use) Qf X.xe s := by
  have fr : ∀ y ∈ scope.names, y.2 = .free → ∃ c, X.env.cells.lookup y.1 = some c := fun y hy e => I.ok.has _ (ok.free y hy e)
  refine wpAny_comprehension_free (use := use) rfl hs (closure_ok fr) ok.kind (fun y hy e => (ok.uniq y hy).trans (congrArg some e)) (thn (hi.run pins s σ H _ I h) fun xv s1 hx => thn hx fun itv s2 got => ?_)
  obtain ⟨it, fp, tn, J, H2, rfl, I2, T, st2, f2, q⟩ := got
  refine PpSet.newSet_ok (newEnv_comp ?_)
  generalize hD : s2.heap.objs.size = D
  have nD : H2 D = none := I2.hok.fresh (Nat.le_of_eq hD)
  obtain ⟨W, ⟨m0, w0⟩, turn⟩ := q D nD
  generalize hob : ({ cls := .type "set", dict := none, data := .set #[] 0 (.fresh 0 0 (!X.w.params.followText "set-order")) } : Obj) = ob
  have new : SetR X.w (s2.heap.push ob) D (fun _ => false) 0 := by
    rw [← hob, ← hD]
    exact setR_fresh X.w
  generalize hs3 : ({ s2 with heap := s2.heap.push ob } : Shared) = s3
  have h3 : s3.heap = s2.heap.push ob := by rw [← hs3]
  generalize hH3 : upd H2 D (SetO X.w D (fun _ => false) 0) = H3 at w0
  have I3 : Inv X pins σ H3 s3 := by
    rw [← hs3, ← hH3]
    exact I2.laid (t' := s2.toks) (fun b o e => Heap.get?_push_of_some _ e) (Nat.le_of_eq hD) (setO_new new)
  have small : ∀ b ∈ fp, b < s2.heap.objs.size := fun b hb => let ⟨_, e, _⟩ := T.obj _ _ st2 b hb; Heap.lt_size e
  have f3 : ∀ b ∈ fp, FpOk X pins H3 b ∧ b < s3.heap.objs.size := fun b hb => by
    have lt := small b hb
    constructor
    · refine ⟨?_, (f2 b hb).2⟩
      rw [← hH3, upd_ne (Nat.ne_of_lt (hD ▸ lt))]
      exact (f2 b hb).1
    · rw [h3, Heap.size_push]
      exact Nat.lt_succ_of_lt lt
  have st3 : tn 0 s3.heap := T.keep _ _ _ st2 fun b _ o e => h3 ▸ Heap.get?_push_of_some _ e
  have I4 := block_start I3 ok hN f3
  show codeAny _ _ (.compStart (.SetComp elt [⟨tg, iter, ifs, 0⟩] scope pos) 0 (.ref it) (.ref D)
      (compEnvC scope (cellsFrom (s3.heap.objs.size + 1) scope.names (cloFrom X.env.cells scope.names [])) s3.heap.objs.size X.env))
    (compPost (model X.prog X.w) X.A X.xe use Qf (.ref D) s3.heap.objs.size) { s3 with heap := pushCells (s3.heap.push { cls := .type "dict", data := .dict #[] }) scope.names }
  generalize hcl : cellsFrom (s3.heap.objs.size + 1) scope.names (cloFrom X.env.cells scope.names []) = cl at I4 ⊢
  have pg := hg s3 H3 s3.heap.objs.size cl fp
  have pt := ht s3 H3 s3.heap.objs.size cl fp
  have pe := he s3 H3 s3.heap.objs.size cl fp
  have none3 : ∀ b ∈ fp, H3 b = none := fun b hb => (f3 b hb).1.1
  generalize hce : compEnvC scope cl s3.heap.objs.size X.env = ce at I4 pg pt pe ⊢
  have cL : ce.locals = s3.heap.objs.size := by
    rw [← hce]
    rfl
  generalize hs4 : ({ s3 with heap := pushCells (s3.heap.push { cls := .type "dict", data := .dict #[] }) scope.names } : Shared) = s4 at I4 ⊢
  have st4 : tn 0 s4.heap := T.keep _ _ _ st3 fun b _ o e => hs4 ▸ pushCells_keeps _ _ _ _ (Heap.get?_push_of_some _ e)
  -- the iterator's objects, seen from the block
  have stat : ∀ {σ' : L2.St} {H' : Hp} {s' : Shared}, Inv (X.blk s3 H3 scope ce fp) [] σ' H' s' → (∀ b ∈ fp, H' b = none) → ∀ b ∈ fp, FpOk (X.blk s3 H3 scope ce fp) [] H' b := fun {σ' H' s'} J' hn b hb => by
    refine ⟨hn b hb, (J'.ok.exf b hb).1, J'.ok.exfs b hb, .inl hb, fun x c e => (J'.ok.exf b hb).2 x c e, fun p hp => ?_⟩
    exact absurd (show p ∈ ([] : List (Addr × Obj)) ++ [] from hp) (by simp)
  have loop : codeAny (model X.prog X.w) X.A (.compLoop (.SetComp elt [⟨tg, iter, ifs, 0⟩] scope pos) 0 (.ref it) (.ref D) ce) (compPost (model X.prog X.w) X.A X.xe use Qf (.ref D) s3.heap.objs.size) s4 := by
    refine PpSet.compLoopS_any (fun n s' => ∃ i H', Inv (X.blk s3 H3 scope ce fp) [] (wipe σ (own.map (·.2))) H' s' ∧ tn i s'.heap ∧ (∀ b ∈ fp, H' b = none) ∧ W i n H') (fun n s5 inv => ?_) m0 ⟨0, H3, I4, st4, none3, w0⟩
    obtain ⟨i, H5, I5, st5, n5, w5⟩ := inv
    rcases turn i n H5 w5 with ⟨stop, qq⟩ | ⟨go, Nx, hNx, step⟩
    · refine thnF (T.done (X.blk s3 H3 scope ce fp) rfl rfl rfl hc i [] s5 _ H5 (fun _ _ => False) I5 (stat I5 n5) st5 stop) fun r s6 ⟨hr, I6⟩ => ?_
      subst hr
      have I7 : Inv X pins σ H5 s6 := I3.call' (ch := fp) I6.os I6.base I6.hok I6.bare fun b hb => let k := (f3 b hb).1.2; ⟨k.2.2.1, k.1, k.2.2.2.1, k.2.2.2.2⟩
      have nC : H5 s3.heap.objs.size = none := cL ▸ I6.free
      obtain ⟨m, hn, _⟩ := I6.loc
      have hn : s6.heap.Ns ce.locals m := hn
      exact back D s3.heap.objs.size s6 m H5 I7 qq (cL ▸ hn) (I3.fpOk (Nat.le_refl _) nC)
    · refine thnF (T.item (X.blk s3 H3 scope ce fp) rfl rfl rfl hc i [] s5 _ H5 (fun _ _ => False) I5 (stat I5 n5) st5 go) fun r s6 ⟨u, hr, h6⟩ => ?_
      subst hr
      refine thnF h6 fun _ s7 ⟨x, H7, I7, r7, y7, st7, n7⟩ => ?_
      refine thnF (pg.run _ s7 _ H7 x u _ (I7.pinned (stat I7 n7) (T.obj _ _ st7)) r7 (step x H7 y7)) fun _ s8 ⟨σ8, H8, I8, hw8, q8⟩ => ?_
      refine thnF (pt.run _ s8 σ8 H8 _ I8 q8) fun b s9 ⟨H9, I9, q9⟩ => ?_
      have fin : ∀ {s' : Shared} {H' : Hp}, Inv (X.blk s3 H3 scope ce fp) ([] ++ pinsAt fp s7.heap) σ8 H' s' → Nx H' →
          ∃ m, m < n ∧ ∃ i H', Inv (X.blk s3 H3 scope ce fp) [] (wipe σ (own.map (·.2))) H' s' ∧ tn i s'.heap ∧ (∀ b ∈ fp, H' b = none) ∧ W i m H' := fun {s' H'} J' nx => by
        obtain ⟨m', hm, w'⟩ := hNx H' nx
        have pin' : ∀ b ∈ fp, ∀ o, s7.heap.get? b = some o → s'.heap.get? b = some o ∧ H' b = none := fun b hb o e =>
          let z := J'.pin (b, o) (List.mem_append_right _ (List.mem_append_right _ (mem_pinsAt hb e)))
          ⟨z.1, z.2.1⟩
        refine ⟨m', hm, i + 1, H', (J'.unpinned (pins := [])).weak (by rw [← hw8, wipe_length]) (fun j v e => (wipe_some (hw8.symm ▸ e)).1), T.keep _ _ _ st7 fun b hb o e => (pin' b hb o e).1, fun b hb => ?_, w'⟩
        obtain ⟨o, e, _⟩ := T.obj _ _ st7 b hb
        exact (pin' b hb o e).2
      cases b with
      | false => exact fin I9 q9
      | true =>
        refine thnF (pe.run _ s9 σ8 H9 _ I9 q9) fun z s10 ⟨yv, H10, I10, r10, c, S0, n0, ey, hD10, hz10, nx⟩ => ?_
        subst ey
        obtain ⟨tk, rfl⟩ := (show ∃ t, z = Value.int c t from r10)
        exact addI_ok (X := X.blk s3 H3 scope ce fp) I10 hD10 hz10 fun s11 I11 => fin I11 nx
  exact PpSet.codeAny_compStart_set loop (T.self X.A 0 _ _ _ st4 loop)
/-- as a value -/
theorem pe_scI {elt tg iter : Expr} {ifs : List Expr} {scope : Scope} {own : List (PySem.Str × Nat)} {pos : Pos} {wi : TI} {g : TG} {tt : TT} {te : TE} (hc : X.calm = true) (hN : X.N.Nodup) (hi : PI X tg iter wi) (ok : BlkOk X.N X.env.scope scope own)
    (hg : Blk5 X scope fun Z => PG Z tg g) (ht : Blk5 X scope fun Z => PTs Z ifs tt) (he : Blk5 X scope fun Z => PE Z elt te) (hs : ∀ x, foldedSetIterable iter X.env x = pure x := by intro _; rfl) :
    PE X (.SetComp elt [⟨tg, iter, ifs, 0⟩] scope pos) (tScI X.w wi g tt te (own.map (·.2))) := ⟨fun pins s σ H Q I h => by
  rw [PpSet.eval_SetComp]
  refine scI_core hc hN I hi ok hg ht he hs h fun D C s' m H' I' q hn ⟨f0, f1, f2, f3, f4, f5⟩ => ⟨m, hn, fun h2 sb => ?_⟩
  exact ⟨.ref D, H', I'.turned (t' := s'.toks) (fun b o hb e => (sb.2 b hb).trans e) f0 f1 f3 f4 f5, rfl, q⟩⟩
/-- what a comprehension's end asks where its value goes to a local -/
theorem comp_local {pins : List (Addr × Obj)} {σ : L2.St} {i : Nat} {y : PySem.Str} {py : Pos} {D : Ends} {Dn C : Addr} {s' : Shared} {m : PySem.Str → Option Value} {H' : Hp} (hN : X.N.Nodup) (hy : X.N[i]? = some y) (hyl : X.env.scope.names.lookup y = some .local)
    (I' : Inv X pins σ H' s') (q : gName i (.ref Dn) σ H' D.nx) (hn : s'.heap.Ns C m) (f : FpOk X pins H' C) :
    compPost (model X.prog X.w) X.A X.xe (some (assign (.Name y py) X.env)) (fun _ s' => SP X pins D .next s') (.ref Dn) C (.ok .next) s' := by
  show wpAny _ _ (assign (.Name y py) X.env (.ref Dn)) _ _ _
  refine wpAny_assign_Name (store_ok2 (v := V.ref Dn) I' hN hy (.inl hyl) rfl (fun s2 I2 ⟨a, sb, ha⟩ => ?_) (.inr hyl))
  obtain ⟨f0, f1, f2, f3, f4, f5⟩ := f
  have ne : C ≠ a := ha.elim (fun z => z ▸ f1) fun z e => f4 y a z e.symm
  exact ⟨m, hn.sameBut sb ne, fun h3 sb3 => ⟨_, H', I2.turned (t' := s2.toks) (fun b o hb e => (sb3.2 b hb).trans e) f0 f1 f3 f4 f5, q⟩⟩
/-- y = {..} on one line, y a local: a set's -/
theorem ps_setScI {i : Nat} {y : PySem.Str} {py : Pos} {elt tg iter : Expr} {ifs : List Expr} {scope : Scope} {own : List (PySem.Str × Nat)} {pos spos : Pos} {wi : TI} {g : TG} {tt : TT} {te : TE} (hc : X.calm = true) (hN : X.N.Nodup) (hy : X.N[i]? = some y)
    (hyl : X.env.scope.names.lookup y = some .local) (hsw : swapsWith (.SetComp elt [⟨tg, iter, ifs, 0⟩] scope pos) (some (.Name y py)) spos.line X.env = pure true) (hi : PI X tg iter wi) (ok : BlkOk X.N X.env.scope scope own)
    (hg : Blk5 X scope fun Z => PG Z tg g) (ht : Blk5 X scope fun Z => PTs Z ifs tt) (he : Blk5 X scope fun Z => PE Z elt te) (hs : ∀ x, foldedSetIterable iter X.env x = pure x := by intro _; rfl) :
    PS X (.Assign [.Name y py] (.SetComp elt [⟨tg, iter, ifs, 0⟩] scope pos) spos) (tAsg (tScI X.w wi g tt te (own.map (·.2))) (gName i)) := ⟨fun pins s σ H D I h => by
  rw [exec_Assign_Name_used _ _ _ _ hsw]
  refine wpAny_bind (wpAny_standAt (wpAny_bind ?_))
  show wpAny _ X.A (do let _ ← comprehension (.SetComp elt [⟨tg, iter, ifs, 0⟩] scope pos) scope X.env (firstIterPos [⟨tg, iter, ifs, 0⟩] pos) (newSet (.type "set")) false (eval iter X.env) (some (assign (.Name y py) X.env))) _ _ s
  have h : tScI X.w wi g tt te (own.map (·.2)) σ H (fun x H1 => gName i x σ H1 D.nx) := h
  exact wpAny_bind (thn (scI_core hc hN I hi ok hg ht he hs h fun Dn C s' m H' I' q hn f => comp_local hN hy hyl I' q hn f) fun _ s' hq => wpAny_pure (wpAny_pure hq))⟩
/-- a dict's -/
theorem ps_setDc {i : Nat} {y : PySem.Str} {py : Pos} {kx vx tg iter : Expr} {ifs : List Expr} {scope : Scope} {own : List (PySem.Str × Nat)} {pos spos : Pos} {wi : TI} {g : TG} {tt : TT} {tk tv : TE} (hc : X.calm = true) (hN : X.N.Nodup) (hy : X.N[i]? = some y)
    (hyl : X.env.scope.names.lookup y = some .local) (hsw : swapsWith (.DictComp kx vx [⟨tg, iter, ifs, 0⟩] scope pos) (some (.Name y py)) spos.line X.env = pure true) (hi : PI X tg iter wi) (ok : BlkOk X.N X.env.scope scope own)
    (hg : Blk5 X scope fun Z => PG Z tg g) (ht : Blk5 X scope fun Z => PTs Z ifs tt) (hk : Blk5 X scope fun Z => PE Z kx tk) (he : Blk5 X scope fun Z => PE Z vx tv) (hs : ∀ x, foldedSetIterable iter X.env x = pure x := by intro _; rfl) :
    PS X (.Assign [.Name y py] (.DictComp kx vx [⟨tg, iter, ifs, 0⟩] scope pos) spos) (tAsg (tDc wi g tt tk tv (own.map (·.2))) (gName i)) := ⟨fun pins s σ H D I h => by
  rw [exec_Assign_Name_used _ _ _ _ hsw]
  refine wpAny_bind (wpAny_standAt (wpAny_bind ?_))
  show wpAny _ X.A (do let _ ← comprehension (.DictComp kx vx [⟨tg, iter, ifs, 0⟩] scope pos) scope X.env (firstIterPos [⟨tg, iter, ifs, 0⟩] pos) newDict false (eval iter X.env) (some (assign (.Name y py) X.env))) _ _ s
  have h : tDc wi g tt tk tv (own.map (·.2)) σ H (fun x H1 => gName i x σ H1 D.nx) := h
  exact wpAny_bind (thn (dc_core hc hN I hi ok hg ht hk he hs h fun Dn C s' m H' I' q hn f => comp_local hN hy hyl I' q hn f) fun _ s' hq => wpAny_pure (wpAny_pure hq))⟩
theorem sw_trueS {elt : Expr} {gs : List Comprehension} {scope : Scope} {pos py : Pos} {y : PySem.Str} {l : Nat} {env : Env} (hk : env.scope.kind = .function) (hy : env.scope.names.lookup y = some .local) (hl : (py.line == pos.line) = true)
    (ha : (scope.names.any fun (n, k) => n == y && (k == .local || k == .cell)) = false) : swapsWith (.SetComp elt gs scope pos) (some (.Name y py)) l env = pure true := by
  have k1 : env.kindOf y = some .local := hy
  have k2 : env.blockKind = .function := by
    unfold Env.blockKind
    rw [hk]
    rfl
  unfold swapsWith
  simp only [k2, k1, ha, Expr.pos, hl]
  rfl
theorem sw_trueD {kx vx : Expr} {gs : List Comprehension} {scope : Scope} {pos py : Pos} {y : PySem.Str} {l : Nat} {env : Env} (hk : env.scope.kind = .function) (hy : env.scope.names.lookup y = some .local) (hl : (py.line == pos.line) = true)
    (ha : (scope.names.any fun (n, k) => n == y && (k == .local || k == .cell)) = false) : swapsWith (.DictComp kx vx gs scope pos) (some (.Name y py)) l env = pure true := by
  have k1 : env.kindOf y = some .local := hy
  have k2 : env.blockKind = .function := by
    unfold Env.blockKind
    rw [hk]
    rfl
  unfold swapsWith
  simp only [k2, k1, ha, Expr.pos, hl]
  rfl
end
end Pk
set_option maxHeartbeats 2000000
/-! sorted(x) of a list or a tuple of data. -/
namespace Pk
open PySem PySem.Spec PySem.Calls PyProof.Rows L2
section
variable {prog : Program} {w : World} {A : Around} {E : Value → Shared → Prop} {s : Shared}
/-- the items of a tuple, taken together -/
theorem collect_tupl {l : Addr} {vs : List Value} {Q : List Value → Shared → Prop} (hl : IsTup s.heap l vs.toArray)
    (h : Q vs { s with heap := (s.heap.push (seqObj "list" #[] 0)).update s.heap.objs.size (Obj.mapSeq (· ++ vs.toArray)) }) (hz : vs.length ≤ sizeLine) : wpAny (model prog w) A (collect (.ref l)) Q E s := by
  obtain ⟨o, ho, hc, n, hd⟩ := hl
  unfold collect
  refine wpAny_bind (wpAny_runValue (codeAny_builtin entry_proto_collect' ?_))
  show wpAny _ _ (do again (.builtin "list.__iadd__" ⟨[← newList [], .ref l], []⟩)) _ _ s
  refine wpAny_bind (wpAny_newList (wpAny_pure ⟨Code.quiet_builtin _ (by decide +kernel), codeAny_builtin entry_list_iadd' ?_⟩))
  show wpAny _ _ (Builtin.List.listExtendWith (.ref s.heap.objs.size) (.ref l) (.ref s.heap.objs.size)) _ _ { s with heap := s.heap.push (seqObj "list" #[] 0) }
  have ho2 : (s.heap.push (seqObj "list" #[] 0)).get? l = some o := Heap.get?_push_of_some _ ho
  unfold Builtin.List.listExtendWith
  refine wpAny_bind (wpAny_typeOf (T := "tuple") ⟨o, ho2, hc⟩ ?_)
  rw [if_pos (by rw [show (Value.type "tuple" == Value.type "tuple") = true from rfl]; simp)]
  refine wpAny_bind (listItems_at ho2 hd (wpAny_bind (listItems_at (xs := #[]) (n := 0) (Heap.get?_push_size _ rfl) rfl ?_)))
  rw [if_neg (by simp)]
  refine wpAny_bind (listUpdate_at (xs := #[]) (n := 0) (Heap.get?_push_size _ rfl) rfl (wpAny_pure ?_) (Nat.zero_le _) ?_)
  · show wpAny (model prog w) A (do
        let o ← load s.heap.objs.size
        match o.data with
        | .seq xs _ => pure xs.toList
        | _ => unsupported "internal:collect") Q E { s with heap := (s.heap.push (seqObj "list" #[] 0)).update s.heap.objs.size (Obj.mapSeq (· ++ vs.toArray)) }
    refine wpAny_bind (wpAny_load (get?_update_seq (Heap.get?_push_size _ rfl) _) ?_)
    have e : ((#[] : Array Value) ++ vs.toArray).toList = vs := by simp
    show wpAny _ _ (pure ((#[] : Array Value) ++ vs.toArray).toList) Q E _
    rw [e]
    exact wpAny_pure h
  · show (#[] ++ vs.toArray).size ≤ sizeLine + 1
    simp only [Array.size_append, List.size_toArray, List.length_nil]
    omega
/-- sorted(t), t a tuple: list.sort on a new list of its items -/
theorem sorted_of_tup {l : Addr} {vs : List Value} {Q : Value → Shared → Prop} (hl : IsTup s.heap l vs.toArray) (hz : vs.length ≤ sizeLine)
    (body : ∀ E' : Value → Shared → Prop, wpAny (model prog w) A.in1.in1 (Builtin.«list.sort» ⟨[.ref (s.heap.objs.size + 1)], []⟩) (fun f s' => f = .done (.ret .none) ∧ Q (.ref (s.heap.objs.size + 1)) s') E' { s with heap := PySem.W.copyHeap s.heap vs }) :
    wpAny (model prog w) A (call (.builtin "sorted") [.ref l]) Q E s := by
  refine call_function_entry_kw kind_sorted plain_sorted entry_sorted (args_sorted1 _) ?_
  unfold Builtin.«sorted»
  refine wpAny_bind (m := checkCount "sorted" 1 1 _) (wpAny_pure (wpAny_bind (collect_tupl hl (wpAny_bind (wpAny_newList ?_ hz)) hz)))
  have hsz : ((s.heap.push (seqObj "list" #[] 0)).update s.heap.objs.size (Obj.mapSeq (· ++ vs.toArray))).objs.size = s.heap.objs.size + 1 := by
    rw [Heap.size_update, size_push']
  show wpAny _ _ _ _ _ { s with heap := PySem.W.copyHeap s.heap vs }
  rw [hsz]
  refine wpAny_bind (wpAny_holding (wpAny_call_entry_kw slot_list_sort ⟨_, PySem.W.copyHeap_at s.heap vs, rfl⟩ entry_list_sort ?b (args_list_sort _)))
  case b => exact wpAny_mono (body _) (fun f s' ⟨e, q⟩ => e ▸ ⟨_, rfl, wpAny_pure ⟨_, rfl, q⟩⟩) fun _ _ e => e
theorem sorted_dataT {β : Type} {vs : List Value} {bs : List β} {enc : β → PyData} {R : Value → β → Prop} {l : Addr} {Q : Value → Shared → Prop} (hl : IsTup s.heap l vs.toArray) (e : PySem.W.EachIs R vs bs)
    (er : PySem.W.EachIs (fun v b => ∃ as, Reads s.heap v (enc b) as) vs bs) (hal : PySem.W.AllAlike (bs.map enc)) (hk : PySem.W.Sortable (bs.map enc)) (hL : bs.length ≤ sizeLine) (hu : ∀ b, b ∈ bs → A.units + 2 + (enc b).depth < cLine)
    (h : ∀ out, out.length = bs.length → PySem.W.EachIs R out (bs.mergeSort (PySem.W.dataLe false enc)) → Q (.ref (s.heap.objs.size + 1)) { s with heap := sortedAll s.heap vs (List.toArray out) }) :
    wpAny (model prog w) A (call (.builtin "sorted") [.ref l]) Q E s := by
  have hz : vs.length ≤ sizeLine := e.length ▸ hL
  have er2 : PySem.W.EachIs (fun v b => ∃ as, Reads (PySem.W.sortingHeap (PySem.W.copyHeap s.heap vs) (s.heap.objs.size + 1) vs) v (enc b) as) vs bs :=
    er.mono fun _ _ ⟨as, r⟩ => ⟨as, PyProof.Rows.Reads.keeps (fun _ _ => PySem.W.sorting_copy_old) r⟩
  have S := PySem.W.SortsAt.data (prog := prog) (w := w) (A := A.in1.in1) (s := { s with heap := PySem.W.sortingHeap (PySem.W.copyHeap s.heap vs) (s.heap.objs.size + 1) vs })
    (PySem.W.each_map (R := fun v d => ∃ as, Reads (PySem.W.sortingHeap (PySem.W.copyHeap s.heap vs) (s.heap.objs.size + 1) vs) v d as) enc er2) hal hk (PySem.W.bound_map hu)
  refine sorted_of_tup hl hz fun E' => PySem.W.list_sort_vals (s := { s with heap := PySem.W.copyHeap s.heap vs }) (PySem.W.copyHeap_at s.heap vs) S hz ⟨rfl, ?_⟩
  exact h _ (by rw [PySem.W.sortVals_length false rfl]; exact e.length) (PySem.W.sortVals_data false e er2 hal)
end
section
variable {X : Cx}
theorem each_of {β : Type} {enc : β → PyData} {H : Hp} : ∀ {vs : List V} {us : List Value} {bs : List β}, Vals vs us → DtAll H vs (bs.map enc) → PySem.W.EachIs (fun u b => ∃ v, RelV v u ∧ Dt H v (enc b)) us bs
  | [], _, [], .nil, _ => .nil
  | _ :: _, _, [], _, h => by cases h
  | [], _, _ :: _, _, h => by cases h
  | v :: vs, _, b :: bs, .cons r t, .cons h hs => .cons ⟨v, r, h⟩ (each_of t hs)
theorem each_back {β : Type} {enc : β → PyData} {H : Hp} : ∀ {us : List Value} {bs : List β}, PySem.W.EachIs (fun u b => ∃ v, RelV v u ∧ Dt H v (enc b)) us bs → ∃ vs, Vals vs us ∧ DtAll H vs (bs.map enc)
  | [], [], .nil => ⟨[], .nil, .nil⟩
  | _ :: _, _ :: _, .cons ⟨v, r, h⟩ t => let ⟨vs, h1, h2⟩ := each_back t; ⟨v :: vs, .cons r h1, .cons h h2⟩
/-- sorted(x), x a list or a tuple that reads as bs: a new list -/
def rSortDt (K : PySem.W.Frag) : List V → Hp → VK → Prop := fun xs H Q => ∃ (β : Type) (enc : β → PyData) (a : Addr) (vs : List V) (bs : List β), xs = [.ref a] ∧ (SqL K H a vs ∨ SqT K H a vs) ∧ DtAll H vs (bs.map enc) ∧
  PySem.W.AllAlike (bs.map enc) ∧ PySem.W.Sortable (bs.map enc) ∧ (∀ b, b ∈ bs → (enc b).depth ≤ 8) ∧ bs.length ≤ 1000 ∧
  ∀ (p : Addr) (ys : List V), H p = none → DtAll H ys ((bs.mergeSort (PySem.W.dataLe false enc)).map enc) → Q (.ref p) (upd H p (.lst ys))
theorem cr_sortDt (hu : X.A.units + 64 < cLine) : CallR X (.builtin "sorted") (rSortDt X.K) := by
  intro pins s σ H xs us Q I r h
  obtain ⟨β, enc, a, vs, bs, rfl, hq, hd, hal, hk, hdp, hb, q⟩ := h
  rw [Vals.ref1 r]
  have hlen : vs.length = bs.length := hd.len.trans (List.length_map ..)
  have hL : bs.length ≤ sizeLine := Nat.le_trans hb (by decide)
  have hu2 : ∀ b, b ∈ bs → X.A.units + 2 + (enc b).depth < cLine := fun b hm => by
    have := hdp b hm
    omega
  have reads : ∀ {its : List Value}, Vals vs its → PySem.W.EachIs (fun v b => ∃ as, Reads s.heap v (enc b) as) its bs := fun rv =>
    (each_of rv hd).mono fun u b ⟨v, rv, hv⟩ => Dp.reads I (enc b) v u hv.dp rv
  have fin : ∀ (its : List Value), Vals vs its → ∀ out : List Value, out.length = bs.length → PySem.W.EachIs (fun u b => ∃ v, RelV v u ∧ Dt H v (enc b)) out (bs.mergeSort (PySem.W.dataLe false enc)) →
      EP X pins σ Q (.ref (s.heap.objs.size + 1)) { s with heap := sortedAll s.heap its (List.toArray out) } := fun its rv out ho he => by
    obtain ⟨ys, h1, h2⟩ := each_back he
    obtain ⟨ep, hat⟩ := PyProof.Rows.sortedAll_at s.heap its out.toArray
    have hyl : ys.length ≤ sizeLine := by
      rw [h1.length, ho]
      exact hL
    have new : ObjOk X.prog X.w (upd H (s.heap.objs.size + 1) (.lst ys)) (sortedAll s.heap its out.toArray) (s.heap.objs.size + 1) (.lst ys) := ⟨hyl, out, ep, h1, hat⟩
    exact ⟨.ref (s.heap.objs.size + 1), _, I.laid (t' := s.toks) (fun _ _ => PyProof.Rows.sortedAll_old) (Nat.le_succ _) new, rfl, q _ ys (I.hok.fresh (Nat.le_succ _)) h2⟩
  rcases hq with hq | hq
  · obtain ⟨its, rv, pl, hz⟩ := I.list hq
    exact PySem.W.sorted_data (R := fun u b => ∃ v, RelV v u ∧ Dt H v (enc b)) pl.isList (each_of rv hd) (reads rv) hal hk hL hu2 (fin its rv)
  · obtain ⟨its, rv, pl, hz⟩ := I.tuple hq
    exact sorted_dataT (R := fun u b => ∃ v, RelV v u ∧ Dt H v (enc b)) pl (each_of rv hd) (reads rv) hal hk hL hu2 (fin its rv)
end
end Pk
set_option maxHeartbeats 2000000
/-! Small rules: len of a set, of set(xs); in a tuple of data; enumerate of a tuple. -/
namespace Pk
open PySem PySem.Spec PyProof.Rows L2

theorem rev_ind {α : Type} {P : List α → Prop} (h0 : P []) (hs : ∀ l x, P l → P (l ++ [x])) (l : List α) : P l := by
  have go : ∀ m : List α, P m.reverse := fun m => by
    induction m with
    | nil => exact h0
    | cons x m ih =>
      rw [List.reverse_cons]
      exact hs _ _ ih
  have := go l.reverse
  rwa [List.reverse_reverse] at this
/-! ### the different ones of some ints, in their order -/
def ded (l : List Int) : List Int := l.foldl (fun acc x => if x ∈ acc then acc else acc ++ [x]) []
theorem ded_snoc (l : List Int) (x : Int) : ded (l ++ [x]) = if x ∈ ded l then ded l else ded l ++ [x] := by
  unfold ded
  rw [List.foldl_append]
  rfl
theorem ded_take {l : List Int} {i : Nat} {x : Int} (h : l[i]? = some x) : ded (l.take (i + 1)) = if x ∈ ded (l.take i) then ded (l.take i) else ded (l.take i) ++ [x] := by
  rw [List.take_add_one, h]
  exact ded_snoc _ _
theorem ded_len (l : List Int) : (ded l).length ≤ l.length := by
  refine rev_ind (P := fun l => (ded l).length ≤ l.length) (Nat.le_refl _) (fun l x ih => ?_) l
  · rw [ded_snoc, List.length_append]
    split
    · show _ ≤ l.length + 1
      omega
    · rw [List.length_append]
      show _ + 1 ≤ l.length + 1
      omega
theorem mem_ded (l : List Int) : ∀ j, j ∈ ded l ↔ j ∈ l := by
  refine rev_ind (P := fun l => ∀ j, j ∈ ded l ↔ j ∈ l) (fun j => Iff.rfl) (fun l x ih j => ?_) l
  · skip
    rw [ded_snoc, List.mem_append]
    split
    · rename_i h
      rw [ih]
      refine ⟨.inl, fun q => q.elim id fun q => ?_⟩
      rw [List.mem_singleton.mp q]
      exact (ih x).mp h
    · rw [List.mem_append, ih]
theorem ded_full (l : List Int) : (ded l).length = l.length ↔ l.Nodup := by
  refine rev_ind (P := fun l => (ded l).length = l.length ↔ l.Nodup) ⟨fun _ => List.nodup_nil, fun _ => rfl⟩ (fun l x ih => ?_) l
  · skip
    rw [ded_snoc, List.length_append]
    have hl := ded_len l
    by_cases h : x ∈ ded l
    · rw [if_pos h]
      constructor
      · intro e
        have e : (ded l).length = l.length + 1 := e
        omega
      · intro n
        exact absurd ((mem_ded l x).mp h) fun m => (List.nodup_append.mp n).2.2 x m x (List.mem_singleton.mpr rfl) rfl
    · rw [if_neg h, List.length_append]
      constructor
      · intro e
        have e : (ded l).length + 1 = l.length + 1 := e
        refine List.nodup_append.mpr ⟨ih.mp (by omega), (by simp), fun a ha b hb e => ?_⟩
        rw [List.mem_singleton.mp hb] at e
        exact h ((mem_ded l x).mpr (e ▸ ha))
      · intro n
        have := ih.mpr (List.nodup_append.mp n).1
        show (ded l).length + 1 = l.length + 1
        omega
theorem firstMet_ded (l : List Int) : ∀ i, i ≤ l.length → PyProof.Rows.firstMet (fun i => l.getD i 0) i = ded (l.take i)
  | 0, _ => rfl
  | i + 1, hi => by
    have hlt : i < l.length := hi
    have e : l[i]? = some l[i] := List.getElem?_eq_getElem hlt
    rw [PyProof.Rows.firstMet_succ, firstMet_ded l i (Nat.le_of_lt hlt), ded_take e]
    have e2 : l.getD i 0 = l[i] := by
      rw [List.getD_eq_getElem?_getD, e]
      rfl
    rw [e2]
    unfold PyProof.Rows.step_dedup
    by_cases h : l[i] ∈ ded (l.take i)
    · have q : ((ded (l.take i)).any fun x => x == l[i]) = true := List.any_eq_true.mpr ⟨_, h, beq_self_eq_true _⟩
      rw [if_pos h, if_pos q]
    · have q : ¬ ((ded (l.take i)).any fun x => x == l[i]) = true := fun q => by
        obtain ⟨y, hy, e3⟩ := List.any_eq_true.mp q
        exact h (beq_iff_eq.mp e3 ▸ hy)
      rw [if_neg h, if_neg q]
section
variable {X : Cx}
/-- len(s), s a tracked set of ints -/
def rLenSet (w : World) : List V → Hp → VK → Prop := fun xs H Q => ∃ (a : Addr) (S : Int → Bool) (n : Nat), xs = [.ref a] ∧ H a = some (SetO w a S n) ∧ n ≤ 1000 ∧ Q (.int n) H
theorem call_lenSet : CallR X (.builtin "len") (rLenSet X.w) := by
  intro pins s σ H xs us Q I r h
  obtain ⟨a, S, n, rfl, ha, hn, q⟩ := h
  rw [Vals.ref1 r]
  obtain ⟨o, es, ep, t, ho, hex, hd, _, _, _, _, hf, hsz, _⟩ := setO_get I ha
  exact call_len_set ho hex hd hf (by rw [hsz]; omega) ⟨.int n, H, I.tok _, ⟨_, by rw [hsz]⟩, q⟩
/-- len(set(xs)), xs a list of ints: how many different ones there are -/
def tLenSetD (K : PySem.W.Frag) (ta : TE) : TE := fun σ H Q => ta σ H fun x H1 => ∃ (l : Addr) (ns : List Int), x = V.ref l ∧ SqL K H1 l (ns.map V.int) ∧ ns.length ≤ 1000 ∧ Q (.int (ded ns).length) H1
theorem pe_lenSetD {a : Expr} {ta : TE} {p p2 q pos : Pos} (G : Glob X.mg) (ha : PE X a ta) (hc : X.calm = true := by rfl) (hg : Gl X "len" := by rfl) (hg2 : Gl X "set" := by rfl)
    (na : starEach [a] X.env = (false, eval a X.env) :: starEach [] X.env := by rfl) : PE X (.Call (.Name "len" p) [.Call (.Name "set" p2) [a] [] q] [] pos) (tLenSetD X.K ta) := by
  constructor
  intro pins s σ H Q I h
  refine Call_ (ld_blt I hg G.len PySem.boot_len (PyProof.Rows.callWith_builtin1 (PyProof.Rows.args_cons ?_ rfl) rfl rfl))
  refine Call_ (ld_blt I hg2 G.set PyProof.Rows.boot_set ?_)
  refine PyProof.Rows.callWith_type1 (PyProof.Rows.args_cons (thn (ha.run pins s σ H _ I h) fun v s1 got => PyProof.Rows.args_nil ?_) na) na rfl
  obtain ⟨x, H1, I1, r1, l, ns, rfl, hq, hn, q1⟩ := got
  cases r1
  obtain ⟨its, r, pl, hz⟩ := I1.list hq
  have e : its.toArray.size = ns.length := by rw [List.size_toArray, ← r.length, List.length_map]
  refine call_set_list (I1.ok.hd hc) pl.isList (ns := ns) (by simpa using r.ints) (by unfold scanBound; omega) fun h2 tk hS hk => PyProof.Rows.args_nil ?_
  rw [e, firstMet_ded ns _ (Nat.le_refl _), List.take_length] at hS
  obtain ⟨o, es, ep, t, ho, hex, hd, _, _, _, hf, hsz⟩ := hS
  have I2 : Inv X pins σ H1 { s1 with heap := h2, toks := tk } := I1.kept fun b o e => hk b o (Heap.lt_size e) e
  have hl := ded_len ns
  refine call_len_set ho hex hd hf (by rw [hsz]; omega) ⟨.int (ded ns).length, H1, I2.tok _, ⟨_, by rw [hsz]⟩, q1⟩
/-- x in t, x not in t: t a tuple that reads as data -/
def rInT (K : PySem.W.Frag) (neg : Bool) : R2 := fun x y H Q => ∃ d ds, Dp K H x d ∧ Dp K H y (.tuple ds) ∧ SeqAt.shaped d = true ∧ SeqAt.shaped (.tuple ds) = true ∧ Q (.bl (if neg = true then !ds.any fun z => PyData.eqv z d else ds.any fun z => PyData.eqv z d)) H
theorem op_inT (hu : X.A.units + 65 < cLine) : OpR X (compareOp .In) (rInT X.K false) := by
  intro pins s σ H x y v u Q I rx ry h
  obtain ⟨d, ds, hd, he, sd, se, q⟩ := h
  obtain ⟨as, r1⟩ := Dp.reads I d x v hd rx
  obtain ⟨bs, r2⟩ := Dp.reads I (.tuple ds) y u he ry
  exact SeqAt.in_tuple_reads r2 r1 (SeqAt.canLay_of_shaped se) (SeqAt.canLay_of_shaped sd) (room_in_shaped sd hu) ⟨.bl _, H, I, rfl, q⟩
theorem op_notInT (hu : X.A.units + 65 < cLine) : OpR X (compareOp .NotIn) (rInT X.K true) := by
  intro pins s σ H x y v u Q I rx ry h
  obtain ⟨d, ds, hd, he, sd, se, q⟩ := h
  obtain ⟨as, r1⟩ := Dp.reads I d x v hd rx
  obtain ⟨bs, r2⟩ := Dp.reads I (.tuple ds) y u he ry
  exact SeqAt.notIn_tuple_reads r2 r1 (SeqAt.canLay_of_shaped se) (SeqAt.canLay_of_shaped sd) (room_in_shaped sd hu) ⟨.bl _, H, I, rfl, q⟩
end
/-! ### rules whose written part is told: they stand in comprehensions' blocks, too -/
section
variable {X : Cx} (K : PySem.W.Frag)
theorem ixT (h : X.K = K := by rfl) : IxR X (rIxT K) := h ▸ ix_tup
theorem ixL (h : X.K = K := by rfl) : IxR X (rIxL K) := h ▸ ix_list
theorem inS (h : X.K = K := by rfl) : OpR X (compareOp .In) (rIn K false) := h ▸ op_in_seq
theorem ninS (h : X.K = K := by rfl) : OpR X (compareOp .NotIn) (rIn K true) := h ▸ op_notIn_seq
theorem inT (hu : X.A.units + 65 < cLine) (h : X.K = K := by rfl) : OpR X (compareOp .In) (rInT K false) := h ▸ op_inT hu
theorem ninT (hu : X.A.units + 65 < cLine) (h : X.K = K := by rfl) : OpR X (compareOp .NotIn) (rInT K true) := h ▸ op_notInT hu
theorem eqD (hu : X.A.units + 64 < cLine) (h : X.K = K := by rfl) : OpR X (compareOp .Eq) (rEqD K) := h ▸ op_eqD hu
theorem neD (hu : X.A.units + 64 < cLine) (h : X.K = K := by rfl) : OpR X (compareOp .NotEq) (rNeD K) := h ▸ op_neD hu
theorem sin (w : World) (h : X.w = w := by rfl) : OpR X (compareOp .In) (rSIn w) := h ▸ or_sin
theorem snin (w : World) (h : X.w = w := by rfl) : OpR X (compareOp .NotIn) (rSNotIn w) := h ▸ or_snotin
theorem slT (h : X.K = K := by rfl) : SlR X (rSlA K) := h ▸ sl_tupA
theorem slL (h : X.K = K := by rfl) : SlR X (rSlL K) := h ▸ sl_list
def rLenK (K : PySem.W.Frag) : List V → Hp → VK → Prop := fun xs H Q => ∃ p ys, xs = [.ref p] ∧ (SqL K H p ys ∨ SqT K H p ys) ∧ Q (.int ys.length) H
theorem lenS (h : X.K = K := by rfl) : CallR X (.builtin "len") (rLenK K) := h ▸ call_len_seq
theorem isiK (h : X.K = K := by rfl) : CallR X (.builtin "isinstance") (rIsi K) := h ▸ call_isi
/-- a tuple's targets -/
theorem pgT {es : List Expr} {k : Nat} {t : TGs} {n : Nat} {pos : Pos} (hc : X.calm = true) (h : PGs X es t) (hK : X.K = K := by rfl) (hn : (assignEach es X.env).length = n := by rfl) (hst : (assignEach es X.env).findIdx? (·.1) = none := by rfl) :
    PG X (.Tuple es k pos) (gTup K n t) := hK ▸ pg_tup hc h hn hst
end
end Pk
/-! What is walked, as data; comprehensions over it. -/
namespace Pk
open PySem PySem.Spec PyProof.Rows L2

/-- the walk J takes n turns, whatever is made meanwhile; turn i yields x with Pi i x -/
structure Wlk (J : It) (n : Nat) (Pi : Nat → V → Hp → Prop) (H1 : Hp) : Prop where
  go : ∀ i H', Same H1 H' → i < n → J.go i H'
  yld : ∀ i H' x H2, Same H1 H' → i < n → J.yld i H' x H2 → Same H' H2 ∧ Pi i x H2
  stop : ∀ H', Same H1 H' → J.stop n H'
theorem same_t {K : PySem.W.Frag} {H H' : Hp} {a : Addr} {xs : List V} (e : Same H H') (h : SqT K H a xs) : SqT K H' a xs := by
  rcases h with (h | ⟨o, h⟩) | h
  · exact .inl (.inl (e _ _ h))
  · exact .inl (.inr ⟨o, e _ _ h⟩)
  · exact .inr h
section
variable {K : PySem.W.Frag} {H1 : Hp} {a : Addr} {xs : List V}
theorem Wlk.tup (h : SqT K H1 a xs) : Wlk (Itt K a) xs.length (fun i x _ => xs[i]? = some x) H1 where
  go := fun i H' s hi => ⟨xs, xs[i], same_t s h, by simp [hi]⟩
  yld := fun i H' x H2 s hi y => ⟨by rw [y.1]; exact Same.refl _, y.2 xs (same_t s h)⟩
  stop := fun H' s => ⟨xs, same_t s h, Nat.le_refl _⟩
theorem Wlk.list (h : SqL K H1 a xs) : Wlk (Itl K a) xs.length (fun i x _ => xs[i]? = some x) H1 where
  go := fun i H' s hi => ⟨xs, xs[i], s.seq h, by simp [hi]⟩
  yld := fun i H' x H2 s hi y => ⟨by rw [y.1]; exact Same.refl _, y.2 xs (s.seq h)⟩
  stop := fun H' s => ⟨xs, s.seq h, Nat.le_refl _⟩
theorem Wlk.range (lo : Int) (n : Nat) : Wlk (Itr lo n) n (fun i x _ => x = .int (lo + i)) H1 where
  go := fun i H' s hi => hi
  yld := fun i H' x H2 s hi y => ⟨by rw [y.1]; exact Same.refl _, y.2⟩
  stop := fun H' s => Nat.le_refl _
theorem Wlk.keys {d : Addr} {o : Obj} {kvs : List (Key × V)} (h : H1 d = some (.frz o (.dK kvs))) : Wlk (Itk d o kvs) kvs.length (fun i x _ => ∃ k v, kvs[i]? = some (k, v) ∧ x = kV k) H1 where
  go := fun i H' s hi => ⟨s _ _ h, hi⟩
  yld := fun i H' x H2 s hi y => ⟨by rw [y.1]; exact Same.refl _, y.2⟩
  stop := fun H' s => ⟨s _ _ h, Nat.le_refl _⟩
theorem Wlk.enum (h : SqL K H1 a xs) : Wlk (Ite K a) xs.length (fun i x H => ∃ T y, x = .ref T ∧ H T = some (.tup [.int i, y]) ∧ xs[i]? = some y) H1 where
  go := fun i H' s hi => ⟨xs, xs[i], s.seq h, by simp [hi]⟩
  yld := fun i H' x H2 s hi y => by
    obtain ⟨T, z, e, nT, eH, f⟩ := y
    subst eH
    exact ⟨same_new nT, T, z, e, upd_same, f xs (s.seq h)⟩
  stop := fun H' s => ⟨xs, s.seq h, Nat.le_refl _⟩
theorem Wlk.zipL {b : Addr} {ys : List V} (h : SqL K H1 a xs) (h2 : SqL K H1 b ys) : Wlk (Itz K a b) (min xs.length ys.length) (fun i x H => ∃ T y z, x = .ref T ∧ H T = some (.tup [y, z]) ∧ xs[i]? = some y ∧ ys[i]? = some z) H1 where
  go := fun i H' s hi => ⟨xs, ys, xs[i]'(by omega), ys[i]'(by omega), s.seq h, s.seq h2, List.getElem?_eq_getElem _, List.getElem?_eq_getElem _⟩
  yld := fun i H' x H2 s hi y => by
    obtain ⟨T, z, u, e, nT, eH, f, f2⟩ := y
    subst eH
    exact ⟨same_new nT, T, z, u, e, upd_same, f xs (s.seq h), f2 ys (s.seq h2)⟩
  stop := fun H' s => ⟨xs, ys, s.seq h, s.seq h2, by omega⟩
theorem Wlk.zipT {b : Addr} {ys : List V} (h : SqT K H1 a xs) (h2 : SqT K H1 b ys) : Wlk (RZ.ItzT K a b) (min xs.length ys.length) (fun i x H => ∃ T y z, x = .ref T ∧ H T = some (.tup [y, z]) ∧ xs[i]? = some y ∧ ys[i]? = some z) H1 where
  go := fun i H' s hi => ⟨xs, ys, xs[i]'(by omega), ys[i]'(by omega), same_t s h, same_t s h2, List.getElem?_eq_getElem _, List.getElem?_eq_getElem _⟩
  yld := fun i H' x H2 s hi y => by
    obtain ⟨T, z, u, e, nT, eH, f, f2⟩ := y
    subst eH
    exact ⟨same_new nT, T, z, u, e, upd_same, f xs (same_t s h), f2 ys (same_t s h2)⟩
  stop := fun H' s => ⟨xs, ys, same_t s h, same_t s h2, by omega⟩
end
theorem wk_lst {H : Hp} {p : Addr} {xs ys : List V} (h : H p = some (.lst xs)) : Wk H (upd H p (.lst ys)) := by
  refine ⟨fun a zs e => ?_, fun a zs e => ?_, fun a zs e => ?_⟩
  · rw [upd_ne (ne_of e h (by intro z; cases z))]
    exact e
  · by_cases q : a = p
    · rw [q]
      exact ⟨_, upd_same⟩
    · rw [upd_ne q]
      exact ⟨_, e⟩
  · rw [upd_ne (ne_of e h (by intro z; cases z))]
    exact ⟨_, e⟩
theorem wk_dct {H : Hp} {p : Addr} {xs ys : List (Key × V)} (h : H p = some (.dK xs)) : Wk H (upd H p (.dK ys)) := by
  refine ⟨fun a zs e => ?_, fun a zs e => ?_, fun a zs e => ?_⟩
  · rw [upd_ne (ne_of e h (by intro z; cases z))]
    exact e
  · rw [upd_ne (ne_of e h (by intro z; cases z))]
    exact ⟨_, e⟩
  · by_cases q : a = p
    · rw [q]
      exact ⟨_, upd_same⟩
    · rw [upd_ne q]
      exact ⟨_, e⟩
/-- an untracked-at-the-start list, changed -/
theorem same_put {H1 H' : Hp} {p : Addr} {o : HO} (s : Same H1 H') (n : H1 p = none) : Same H1 (upd H' p o) := same_mut s n
section
variable {J : It} {n : Nat} {Pi : Nat → V → Hp → Prop} {H1 : Hp} {g : TG} {tt : TT} {te tk tv : TE} {vs : List Nat} {σ : L2.St} {D : Addr} {Qd : Hp → Prop}
/-- a list comprehension: Y i H ys says what is made behind i turns -/
theorem lcW (nD : H1 D = none) (W : Wlk J n Pi H1) (Y : Nat → Hp → List V → Prop) (mono : ∀ i H H' ys, Wk H H' → Y i H ys → Y i H' ys) (hn : n ≤ 10000) (h0 : Y 0 H1 [])
    (turn : ∀ i x H' ys, i < n → Same H1 H' → Pi i x H' → Y i H' ys → ∀ (Q1 : VK) (Q2 : Hp → Prop), (∀ y H4, Same H' H4 → Y (i + 1) H4 (ys ++ [y]) → Q1 y H4) → (∀ H3, Same H' H3 → Y (i + 1) H3 ys → Q2 H3) →
      g x (wipe σ vs) H' fun σ2 H2 => wipe σ2 vs = wipe σ vs ∧ tt σ2 H2 fun b H3 => if b = true then te σ2 H3 Q1 else Q2 H3)
    (done : ∀ H' ys, Same H1 H' → H' D = some (.lst ys) → Y n H' ys → Qd H') :
    ∃ W : Nat → Nat → Hp → Prop, (∃ m, W 0 m (upd H1 D (.lst []))) ∧ ∀ i m H, W i m H →
      (J.stop i H ∧ Qd H) ∨ (J.go i H ∧ ∃ Nx : Hp → Prop, (∀ H', Nx H' → ∃ m', m' < m ∧ W (i + 1) m' H') ∧ ∀ x H', J.yld i H x H' → g x (wipe σ vs) H' fun σ2 H2 => wipe σ2 vs = wipe σ vs ∧ tt σ2 H2 fun b H3 =>
        if b = true then te σ2 H3 fun y H4 => ∃ acc, H4 D = some (.lst acc) ∧ acc.length < sizeLine ∧ Nx (upd H4 D (.lst (acc ++ [y]))) else Nx H3) := by
  refine ⟨fun i m H => m = n - i ∧ i ≤ n ∧ Same H1 H ∧ ∃ ys, H D = some (.lst ys) ∧ ys.length ≤ i ∧ Y i H ys, ⟨n, rfl, Nat.zero_le _, same_new nD, [], upd_same, Nat.le_refl _, ?_⟩, fun i m H w => ?_⟩
  · exact mono _ _ _ _ (Wk.of (same_new nD)) h0
  · obtain ⟨rfl, hi, s, ys, hD, hl, hY⟩ := w
    by_cases lt : i < n
    · refine .inr ⟨W.go i H s lt, fun H' => i + 1 ≤ n ∧ Same H1 H' ∧ ∃ ys, H' D = some (.lst ys) ∧ ys.length ≤ i + 1 ∧ Y (i + 1) H' ys, fun H' ⟨h1, h2, h3⟩ => ⟨n - (i + 1), by omega, rfl, h1, h2, h3⟩, fun x H' y => ?_⟩
      obtain ⟨s2, px⟩ := W.yld i H x H' s lt y
      have hD2 := s2 _ _ hD
      refine turn i x H' ys lt (s.trans s2) px (mono _ _ _ _ (Wk.of s2) hY) _ _ (fun y H4 s4 y4 => ?_) fun H3 s3 y3 => ?_
      · have hD4 := s4 _ _ hD2
        refine ⟨ys, hD4, Nat.lt_of_le_of_lt (Nat.le_trans hl (Nat.le_of_lt lt)) (Nat.lt_of_le_of_lt hn (by decide)), lt, same_put ((s.trans s2).trans s4) nD, ys ++ [y], upd_same, ?_, mono _ _ _ _ (wk_lst hD4) y4⟩
        rw [List.length_append]
        exact Nat.succ_le_succ hl
      · exact ⟨lt, (s.trans s2).trans s3, ys, s3 _ _ hD2, Nat.le_succ_of_le hl, y3⟩
    · have e : i = n := by omega
      subst e
      exact .inl ⟨W.stop H s, done H ys s hD hY⟩
/-- a dict comprehension -/
theorem dcW (nD : H1 D = none) (W : Wlk J n Pi H1) (Y : Nat → Hp → List (Key × V) → Prop) (mono : ∀ i H H' ys, Wk H H' → Y i H ys → Y i H' ys) (hn : n ≤ 10000) (h0 : Y 0 H1 [])
    (turn : ∀ i x H' ys, i < n → Same H1 H' → Pi i x H' → Y i H' ys → ∀ (Q1 : V → V → Hp → Prop) (Q2 : Hp → Prop), (∀ k z H5, Same H' H5 → Y (i + 1) H5 (putK ys k z) → Q1 (kV k) z H5) → (∀ H3, Same H' H3 → Y (i + 1) H3 ys → Q2 H3) →
      g x (wipe σ vs) H' fun σ2 H2 => wipe σ2 vs = wipe σ vs ∧ tt σ2 H2 fun b H3 => if b = true then tk σ2 H3 fun y H4 => tv σ2 H4 fun z H5 => Q1 y z H5 else Q2 H3)
    (done : ∀ H' ys, Same H1 H' → H' D = some (.dK ys) → Y n H' ys → Qd H') :
    ∃ W : Nat → Nat → Hp → Prop, (∃ m, W 0 m (upd H1 D (.dK []))) ∧ ∀ i m H, W i m H →
      (J.stop i H ∧ Qd H) ∨ (J.go i H ∧ ∃ Nx : Hp → Prop, (∀ H', Nx H' → ∃ m', m' < m ∧ W (i + 1) m' H') ∧ ∀ x H', J.yld i H x H' → g x (wipe σ vs) H' fun σ2 H2 => wipe σ2 vs = wipe σ vs ∧ tt σ2 H2 fun b H3 =>
        if b = true then tk σ2 H3 fun y H4 => tv σ2 H4 fun z H5 => ∃ kvs k, y = kV k ∧ H5 D = some (.dK kvs) ∧ kvs.length < sizeLine ∧ Nx (upd H5 D (.dK (putK kvs k z))) else Nx H3) := by
  refine ⟨fun i m H => m = n - i ∧ i ≤ n ∧ Same H1 H ∧ ∃ ys, H D = some (.dK ys) ∧ ys.length ≤ i ∧ Y i H ys, ⟨n, rfl, Nat.zero_le _, same_new nD, [], upd_same, Nat.le_refl _, ?_⟩, fun i m H w => ?_⟩
  · exact mono _ _ _ _ (Wk.of (same_new nD)) h0
  · obtain ⟨rfl, hi, s, ys, hD, hl, hY⟩ := w
    by_cases lt : i < n
    · refine .inr ⟨W.go i H s lt, fun H' => i + 1 ≤ n ∧ Same H1 H' ∧ ∃ ys, H' D = some (.dK ys) ∧ ys.length ≤ i + 1 ∧ Y (i + 1) H' ys, fun H' ⟨h1, h2, h3⟩ => ⟨n - (i + 1), by omega, rfl, h1, h2, h3⟩, fun x H' y => ?_⟩
      obtain ⟨s2, px⟩ := W.yld i H x H' s lt y
      have hD2 := s2 _ _ hD
      refine turn i x H' ys lt (s.trans s2) px (mono _ _ _ _ (Wk.of s2) hY) _ _ (fun k z H4 s4 y4 => ?_) fun H3 s3 y3 => ?_
      · have hD4 := s4 _ _ hD2
        refine ⟨ys, k, rfl, hD4, Nat.lt_of_le_of_lt (Nat.le_trans hl (Nat.le_of_lt lt)) (Nat.lt_of_le_of_lt hn (by decide)), lt, same_put ((s.trans s2).trans s4) nD, putK ys k z, upd_same, ?_, mono _ _ _ _ (wk_dct hD4) y4⟩
        exact Nat.le_trans (length_putK ys k z) (Nat.succ_le_succ hl)
      · exact ⟨lt, (s.trans s2).trans s3, ys, s3 _ _ hD2, Nat.le_succ_of_le hl, y3⟩
    · have e : i = n := by omega
      subst e
      exact .inl ⟨W.stop H s, done H ys s hD hY⟩
theorem wk_new {H1 H H' : Hp} {D : Addr} {o u : HO} (h : H D = some o) (n : ∀ xs, o ≠ .tup xs) (n2 : ∀ xs, o ≠ .lst xs) (n3 : ∀ xs, o ≠ .dK xs) : Wk H (upd H D u) :=
  ⟨fun a xs e => by rw [upd_ne (ne_of e h fun z => n xs z.symm)]; exact e, fun a xs e => by rw [upd_ne (ne_of e h fun z => n2 xs z.symm)]; exact ⟨_, e⟩, fun a xs e => by rw [upd_ne (ne_of e h fun z => n3 xs z.symm)]; exact ⟨_, e⟩⟩
theorem setO_tup {w : World} {a : Addr} {S : Int → Bool} {n : Nat} (xs : List V) : SetO w a S n ≠ .tup xs := by
  unfold SetO
  intro z
  cases z
theorem setO_lst {w : World} {a : Addr} {S : Int → Bool} {n : Nat} (xs : List V) : SetO w a S n ≠ .lst xs := by
  unfold SetO
  intro z
  cases z
theorem setO_dct {w : World} {a : Addr} {S : Int → Bool} {n : Nat} (xs : List (Key × V)) : SetO w a S n ≠ .dK xs := by
  unfold SetO
  intro z
  cases z
/-- a set comprehension of ints: the ints made, ns, in their sequence -/
theorem scW {w : World} (nD : H1 D = none) (W : Wlk J n Pi H1) (Y : Nat → Hp → List Int → Prop) (mono : ∀ i H H' ys, Wk H H' → Y i H ys → Y i H' ys) (hn : n ≤ 1000) (h0 : Y 0 H1 [])
    (turn : ∀ i x H' ys, i < n → Same H1 H' → Pi i x H' → Y i H' ys → ∀ (Q1 : VK) (Q2 : Hp → Prop), (∀ z H4, Same H' H4 → Y (i + 1) H4 (ys ++ [z]) → Q1 (.int z) H4) → (∀ H3, Same H' H3 → Y (i + 1) H3 ys → Q2 H3) →
      g x (wipe σ vs) H' fun σ2 H2 => wipe σ2 vs = wipe σ vs ∧ tt σ2 H2 fun b H3 => if b = true then te σ2 H3 Q1 else Q2 H3)
    (done : ∀ H' ys, Same H1 H' → ys.length ≤ n → H' D = some (SetO w D (fun j => decide (j ∈ ded ys)) (ded ys).length) → Y n H' ys → Qd H') :
    ∃ W : Nat → Nat → Hp → Prop, (∃ m, W 0 m (upd H1 D (SetO w D (fun _ => false) 0))) ∧ ∀ i m H, W i m H →
      (J.stop i H ∧ Qd H) ∨ (J.go i H ∧ ∃ Nx : Hp → Prop, (∀ H', Nx H' → ∃ m', m' < m ∧ W (i + 1) m' H') ∧
        ∀ x H', J.yld i H x H' → g x (wipe σ vs) H' fun σ2 H2 => wipe σ2 vs = wipe σ vs ∧ tt σ2 H2 fun b H3 =>
          if b = true then te σ2 H3 fun y H4 => ∃ (c : Int) (S : Int → Bool) (n : Nat), y = .int c ∧ H4 D = some (SetO w D S n) ∧ n + 1 < scanBound ∧
            Nx (upd H4 D (SetO w D (fun j => S j || decide (j = c)) (if S c = true then n else n + 1)))
          else Nx H3) := by
  have e0 : SetO w D (fun _ => false) 0 = SetO w D (fun j => decide (j ∈ ded [])) (ded []).length := by
    have : (fun j : Int => decide (j ∈ ded [])) = fun _ => false := by
      funext j
      exact decide_eq_false (by unfold ded; simp)
    rw [this]
    rfl
  refine ⟨fun i m H => m = n - i ∧ i ≤ n ∧ Same H1 H ∧ ∃ ys, H D = some (SetO w D (fun j => decide (j ∈ ded ys)) (ded ys).length) ∧ ys.length ≤ i ∧ Y i H ys, ⟨n, rfl, Nat.zero_le _, same_new nD, [], ?_, Nat.le_refl _, ?_⟩, fun i m H w => ?_⟩
  · rw [upd_same, e0]
  · exact mono _ _ _ _ (Wk.of (same_new nD)) h0
  · obtain ⟨rfl, hi, s, ys, hD, hl, hY⟩ := w
    have hdl := ded_len ys
    by_cases lt : i < n
    · refine .inr ⟨W.go i H s lt, fun H' => i + 1 ≤ n ∧ Same H1 H' ∧ ∃ ys, H' D = some (SetO _ D (fun j => decide (j ∈ ded ys)) (ded ys).length) ∧ ys.length ≤ i + 1 ∧ Y (i + 1) H' ys, fun H' ⟨h1, h2, h3⟩ => ⟨n - (i + 1), by omega, rfl, h1, h2, h3⟩, fun x H' y => ?_⟩
      obtain ⟨s2, px⟩ := W.yld i H x H' s lt y
      have hD2 := s2 _ _ hD
      refine turn i x H' ys lt (s.trans s2) px (mono _ _ _ _ (Wk.of s2) hY) _ _ (fun z H4 s4 y4 => ?_) fun H3 s3 y3 => ?_
      · have hD4 := s4 _ _ hD2
        refine ⟨z, _, _, rfl, hD4, by unfold scanBound; omega, lt, same_put ((s.trans s2).trans s4) nD, ys ++ [z], ?_, by rw [List.length_append]; exact Nat.succ_le_succ hl, mono _ _ _ _ (wk_new (H1 := H1) (H' := H') hD4 setO_tup setO_lst setO_dct) y4⟩
        have e1 : (fun j => decide (j ∈ ded ys) || decide (j = z)) = fun j => decide (j ∈ ded (ys ++ [z])) := by
          funext j
          rw [Bool.eq_iff_iff, Bool.or_eq_true, decide_eq_true_iff, decide_eq_true_iff, decide_eq_true_iff, mem_ded, mem_ded, List.mem_append, List.mem_singleton]
        have e2 : (if decide (z ∈ ded ys) = true then (ded ys).length else (ded ys).length + 1) = (ded (ys ++ [z])).length := by
          rw [ded_snoc]
          by_cases hz : z ∈ ded ys
          · rw [if_pos (decide_eq_true hz), if_pos hz]
          · rw [if_neg (by simpa using hz), if_neg hz, List.length_append]
            rfl
        rw [upd_same, e1, e2]
      · exact ⟨lt, (s.trans s2).trans s3, ys, s3 _ _ hD2, Nat.le_succ_of_le hl, y3⟩
    · have e : i = n := by omega
      subst e
      exact .inl ⟨W.stop H s, done H ys s (by omega) hD hY⟩
end
theorem dt_pair {H : Hp} {v : V} {p : Pair} (h : Dt H v (.tuple [.int p.1, .int p.2])) : ∃ t, v = .ref t ∧ H t = some (.tup [.int p.1, .int p.2]) := by
  cases h with
  | @tup t xs _ ht hs =>
    cases hs with
    | cons h1 h2 =>
      cases h1
      cases h2 with
      | cons h3 h4 =>
        cases h3
        cases h4
        exact ⟨t, rfl, ht⟩
theorem dt_mk {H : Hp} {t : Addr} {x y : Int} (h : H t = some (.tup [.int x, .int y])) : Dt H (.ref t) (.tuple [.int x, .int y]) := .tup h (.cons (.int x) (.cons (.int y) .nil))
theorem dt_tup {H : Hp} {v : V} {ds : List PyData} (h : Dt H v (.tuple ds)) : ∃ t xs, v = .ref t ∧ H t = some (.tup xs) ∧ DtAll H xs ds := by
  cases h with
  | tup ht hs => exact ⟨_, _, rfl, ht, hs⟩
section
variable {X : Cx} {tg : Expr}
/-- a list or a tuple is walked -/
def iSeq (K : PySem.W.Frag) (tl : TE) : TI := fun σ H R => tl σ H fun x H1 => ∃ a xs, x = .ref a ∧ (SqL K H1 a xs ∨ SqT K H1 a xs) ∧ ∀ J, Wlk J xs.length (fun i y _ => xs[i]? = some y) H1 → R J H1
theorem pi_seq {l : Expr} {tl : TE} (hl : PE X l tl) : PI X tg l (iSeq X.K tl) := by
  constructor
  intro pins s σ H R I h
  refine thn (hl.run pins s σ H _ I h) fun v s1 got => ?_
  obtain ⟨x, H1, I1, r1, a, xs, rfl, hh, q⟩ := got
  cases r1
  have new : ∀ b ∈ [s1.heap.objs.size], FpOk X pins H1 b := fun b hb => by
    rw [List.mem_singleton.mp hb]
    exact I1.fpOk (Nat.le_refl _) (I1.hok.fresh (Nat.le_refl _))
  rcases hh with hq | hq
  · obtain ⟨its, rv, p, hz⟩ := I1.list hq
    refine wpAny_pyIter_list p.isList ⟨s1.heap.objs.size, [s1.heap.objs.size], _, _, H1, rfl, I1.kept (t' := s1.toks) fun b o e => Heap.get?_push_of_some _ e, turn_list a _, ⟨_, Heap.get?_push_size _ rfl, rfl, rfl⟩, new, q _ (Wlk.list hq)⟩
  · obtain ⟨its, rv, p, hz⟩ := I1.tuple hq
    refine wpAny_pyIter_tuple (show s1.heap.IsTuple a its.toArray from p) ⟨s1.heap.objs.size, [s1.heap.objs.size], _, _, H1, rfl, I1.kept (t' := s1.toks) fun b o e => Heap.get?_push_of_some _ e, turn_tuple a _, ⟨_, Heap.get?_push_size _ rfl, rfl, rfl⟩, new, q _ (Wlk.tup hq)⟩
end
end Pk
/-! Plans, books as data; what the judges say of any value. -/
namespace Pk
open PySem L2
abbrev prD (p : Pair) : PyData := .tuple [.int p.1, .int p.2]
abbrev plD (m : List Pair) : PyData := .tuple (m.map prD)
abbrev bkD (b : List (List Pair)) : PyData := .tuple (b.map plD)
/-! ### a pair -/
def A.pair : A → Option Pair
  | .tup [.int p, .int d] => if (0 ≤ p ∧ p ≤ 7) ∧ 0 ≤ d ∧ d ≤ 7 then some (p, d) else none
  | _ => none
def A.bet : A → Int → Int → Bool
  | .int i, lo, hi => decide (lo ≤ i) && decide (i ≤ hi)
  | _, _, _ => false
theorem A.bet_no {a : A} (h : a.isI = false) (lo hi : Int) : a.bet lo hi = false := by
  cases a with
  | int i => exact absurd h (by simp [A.isI])
  | _ => rfl
theorem A.pair_two (x y : A) : (A.pair (.tup [x, y])).isSome = (x.bet 0 7 && y.bet 0 7) := by
  cases x with
  | int p =>
    cases y with
    | int d =>
      show (if (0 ≤ p ∧ p ≤ 7) ∧ 0 ≤ d ∧ d ≤ 7 then some (p, d) else none).isSome = ((decide (0 ≤ p) && decide (p ≤ 7)) && (decide (0 ≤ d) && decide (d ≤ 7)))
      by_cases h : (0 ≤ p ∧ p ≤ 7) ∧ 0 ≤ d ∧ d ≤ 7
      · rw [if_pos h, decide_eq_true h.1.1, decide_eq_true h.1.2, decide_eq_true h.2.1, decide_eq_true h.2.2]
        rfl
      · rw [if_neg h]
        refine (Bool.eq_false_iff.mpr fun q => h ?_).symm
        simp only [Bool.and_eq_true, decide_eq_true_eq] at q
        exact q
    | oth => simp [A.pair, A.bet]
    | tup _ => simp [A.pair, A.bet]
  | oth => simp [A.pair, A.bet]
  | tup _ => simp [A.pair, A.bet]
theorem A.pair_len : ∀ {as : List A}, as.length ≠ 2 → A.pair (.tup as) = none
  | [], _ => rfl
  | [_], _ => by simp [A.pair]
  | [_, _], h => absurd rfl h
  | _ :: _ :: _ :: _, _ => by simp [A.pair]
theorem A.pair_toA {a : A} {p : Pair} (h : a.pair = some p) : a = toA (prD p) ∧ (0 ≤ p.1 ∧ p.1 ≤ 7) ∧ 0 ≤ p.2 ∧ p.2 ≤ 7 := by
  match a, h with
  | .tup [.int x, .int y], h =>
    have h : (if (0 ≤ x ∧ x ≤ 7) ∧ 0 ≤ y ∧ y ≤ 7 then some (x, y) else none) = some p := h
    by_cases q : (0 ≤ x ∧ x ≤ 7) ∧ 0 ≤ y ∧ y ≤ 7
    · rw [if_pos q] at h
      cases h
      exact ⟨by simp [toA, toAs], q⟩
    · rw [if_neg q] at h
      cases h
/-! ### a plan -/
/-- ascending, as Python orders tuples -/
def PLe (p q : Pair) : Prop := p.1 < q.1 ∨ (p.1 = q.1 ∧ p.2 ≤ q.2)
instance (p q : Pair) : Decidable (PLe p q) := by
  unfold PLe
  infer_instance
def Apart (m : List Pair) : Prop := (m.map (·.1)).Nodup ∧ (m.map (·.2)).Nodup
instance (m : List Pair) : Decidable (Apart m) := by
  unfold Apart
  infer_instance
/-- what a plan is -/
structure Plan (m : List Pair) : Prop where
  rng : ∀ p, p ∈ m → (0 ≤ p.1 ∧ p.1 ≤ 7) ∧ 0 ≤ p.2 ∧ p.2 ≤ 7
  asc : m.Pairwise PLe
  ap : Apart m
def pairsOf : List A → Option (List Pair)
  | [] => some []
  | a :: as => match a.pair, pairsOf as with
    | some p, some ps => some (p :: ps)
    | _, _ => none
def okPlan : Option (List Pair) → Option (List Pair)
  | some m => if m.Pairwise PLe ∧ Apart m then some m else none
  | none => none
def A.plan : A → Option (List Pair)
  | .tup as => okPlan (pairsOf as)
  | _ => none
theorem pairsOf_all : ∀ as : List A, (pairsOf as).isSome = as.all fun a => a.pair.isSome
  | [] => rfl
  | a :: as => by
    have ih := pairsOf_all as
    unfold pairsOf
    rw [List.all_cons, ← ih]
    cases a.pair <;> cases pairsOf as <;> rfl
theorem pairsOf_toA : ∀ {as : List A} {m : List Pair}, pairsOf as = some m → as = toAs (m.map prD) ∧ ∀ p, p ∈ m → (0 ≤ p.1 ∧ p.1 ≤ 7) ∧ 0 ≤ p.2 ∧ p.2 ≤ 7
  | [], m, h => by
    cases h
    exact ⟨by simp [toAs], fun p hp => absurd hp List.not_mem_nil⟩
  | a :: as, m, h => by
    unfold pairsOf at h
    cases ha : a.pair with
    | none => rw [ha] at h; cases h
    | some p =>
      cases hs : pairsOf as with
      | none => rw [ha, hs] at h; cases h
      | some ps =>
        rw [ha, hs] at h
        cases h
        obtain ⟨e, r⟩ := A.pair_toA ha
        obtain ⟨e2, r2⟩ := pairsOf_toA hs
        refine ⟨?_, fun q hq => ?_⟩
        · rw [List.map_cons, toAs, ← e, ← e2]
        · rcases List.mem_cons.mp hq with rfl | hq
          · exact r
          · exact r2 q hq
theorem plan_of {a : A} {m : List Pair} (h : a.plan = some m) : a = toA (plD m) ∧ Plan m := by
  match a, h with
  | .tup as, h =>
    have h : okPlan (pairsOf as) = some m := h
    cases hp : pairsOf as with
    | none => rw [hp] at h; cases h
    | some m2 =>
      rw [hp] at h
      have h : (if m2.Pairwise PLe ∧ Apart m2 then some m2 else none) = some m := h
      by_cases q : m2.Pairwise PLe ∧ Apart m2
      · rw [if_pos q] at h
        cases h
        obtain ⟨e, r⟩ := pairsOf_toA hp
        exact ⟨by rw [toA, e], r, q.1, q.2⟩
      · rw [if_neg q] at h
        cases h
theorem pair_back {p : Pair} (h : (0 ≤ p.1 ∧ p.1 ≤ 7) ∧ 0 ≤ p.2 ∧ p.2 ≤ 7) : A.pair (toA (prD p)) = some p := by
  have e : toA (prD p) = .tup [.int p.1, .int p.2] := by simp [toA, toAs]
  rw [e]
  exact if_pos h
theorem pairs_back : ∀ {m : List Pair}, (∀ p, p ∈ m → (0 ≤ p.1 ∧ p.1 ≤ 7) ∧ 0 ≤ p.2 ∧ p.2 ≤ 7) → pairsOf (toAs (m.map prD)) = some m
  | [], _ => by simp [toAs, pairsOf]
  | p :: m, h => by
    have h1 := pair_back (h p List.mem_cons_self)
    have h2 := pairs_back (m := m) fun q hq => h q (List.mem_cons_of_mem _ hq)
    rw [List.map_cons, toAs, pairsOf, h1, h2]
theorem plan_back {m : List Pair} (h : Plan m) : A.plan (toA (plD m)) = some m := by
  have e : toA (plD m) = .tup (toAs (m.map prD)) := by simp [toA]
  rw [e]
  show okPlan (pairsOf _) = some m
  rw [pairs_back h.rng]
  exact if_pos ⟨h.asc, h.ap⟩
/-! ### a book -/
def plansOf : List (Option (List Pair)) → Option (List (List Pair))
  | [] => some []
  | some m :: r => (plansOf r).map (m :: ·)
  | none :: _ => none
def A.book : A → Option (List (List Pair))
  | .tup as => if 1 ≤ as.length ∧ as.length ≤ 16 then plansOf (as.map A.plan) else none
  | _ => none
structure Book (b : List (List Pair)) : Prop where
  len : 1 ≤ b.length ∧ b.length ≤ 16
  plan : ∀ m, m ∈ b → Plan m
theorem plansOf_all : ∀ os : List (Option (List Pair)), (plansOf os).isSome = os.all Option.isSome
  | [] => rfl
  | some m :: r => by
    rw [plansOf, List.all_cons, Option.isSome_map, plansOf_all r]
    rfl
  | none :: r => rfl
theorem book_back {b : List (List Pair)} (h : Book b) : A.book (toA (bkD b)) = some b := by
  have e : toA (bkD b) = .tup (toAs (b.map plD)) := by simp [toA]
  rw [e, toAs_map]
  show (if 1 ≤ ((b.map plD).map toA).length ∧ ((b.map plD).map toA).length ≤ 16 then plansOf (((b.map plD).map toA).map A.plan) else none) = some b
  rw [if_pos (by rw [List.length_map, List.length_map]; exact h.len)]
  have go : ∀ l : List (List Pair), (∀ m, m ∈ l → Plan m) → plansOf (((l.map plD).map toA).map A.plan) = some l := fun l => by
    induction l with
    | nil => exact fun _ => rfl
    | cons m l ih =>
      intro hl
      rw [List.map_cons, List.map_cons, List.map_cons, plan_back (hl m List.mem_cons_self), plansOf, ih fun q hq => hl q (List.mem_cons_of_mem _ hq)]
      rfl
  exact go b h.plan
end Pk
/-! Pairs as data: equal, sorted, shaped. -/
namespace Pk
open PySem L2
theorem eqv_pr (p q : Pair) : PyData.eqv (prD p) (prD q) = decide (p = q) := by
  obtain ⟨a, b⟩ := p
  obtain ⟨c, d⟩ := q
  have e : PyData.eqv (prD (a, b)) (prD (c, d)) = ((a == c) && ((b == d) && true)) := by simp only [prD, PyData.eqv, PyData.eqvAll]
  rw [e, Bool.eq_iff_iff]
  simp
theorem eqvAll_pr : ∀ l m : List Pair, PyData.eqvAll (l.map prD) (m.map prD) = decide (l = m)
  | [], [] => by simp [PyData.eqvAll]
  | [], _ :: _ => by simp [PyData.eqvAll]
  | _ :: _, [] => by simp [PyData.eqvAll]
  | p :: l, q :: m => by
    rw [List.map_cons, List.map_cons, PyData.eqvAll, eqvAll_pr l m, eqv_pr, Bool.eq_iff_iff]
    simp
theorem lay_pr (p : Pair) : (prD p).canLay0 = true := by simp [prD, PyData.canLay0, PyData.canLayAll0]
theorem dep_pr (p : Pair) : (prD p).depth = 1 := by simp [prD, PyData.depth, PyData.depthAll]
theorem lay_prs : ∀ l : List Pair, PyData.canLayAll0 (l.map prD) = true
  | [] => by simp [PyData.canLayAll0]
  | p :: l => by simp [PyData.canLayAll0, lay_pr p, lay_prs l]
theorem dep_prs : ∀ l : List Pair, PyData.depthAll (l.map prD) ≤ 1
  | [] => by simp [PyData.depthAll]
  | p :: l => by
    have h1 := dep_prs l
    have h2 := dep_pr p
    simp only [List.map_cons, PyData.depthAll]
    omega
theorem shaped_mk {d : PyData} (h : d.canLay0 = true) (h2 : d.depth ≤ 64) : SeqAt.shaped d = true := by
  unfold SeqAt.shaped
  rw [h, decide_eq_true h2]
  rfl
theorem shaped_pr (p : Pair) : SeqAt.shaped (prD p) = true := shaped_mk (lay_pr p) (by rw [dep_pr]; omega)
theorem shaped_prs (l : List Pair) : SeqAt.shaped (.list (l.map prD)) = true := by
  refine shaped_mk (by simpa [PyData.canLay0] using lay_prs l) ?_
  have := dep_prs l
  simp only [PyData.depth]
  omega
theorem shaped_pl (l : List Pair) : SeqAt.shaped (plD l) = true := by
  refine shaped_mk (by simpa [PyData.canLay0] using lay_prs l) ?_
  have := dep_prs l
  simp only [PyData.depth]
  omega
/-! ### sorted pairs -/
def leP (p q : Pair) : Bool := decide (PLe p q)
theorem leP_data : PySem.W.dataLe false (fun p : Pair => prD p) = leP := by
  have e := PySem.W.dataLe_ii (β := Pair) (fun p => p.1) (fun p => p.2)
  rw [e]
  funext p q
  unfold leP
  rw [Bool.eq_iff_iff, decide_eq_true_iff, decide_eq_true_iff]
  exact Iff.rfl
theorem leP_trans (a b c : Pair) : leP a b = true → leP b c = true → leP a c = true := by
  unfold leP
  rw [decide_eq_true_iff, decide_eq_true_iff, decide_eq_true_iff]
  unfold PLe
  omega
theorem leP_total (a b : Pair) : (leP a b || leP b a) = true := by
  unfold leP
  rw [Bool.or_eq_true, decide_eq_true_iff, decide_eq_true_iff]
  unfold PLe
  omega
def sortP (l : List Pair) : List Pair := l.mergeSort leP
theorem sortP_perm (l : List Pair) : (sortP l).Perm l := List.mergeSort_perm l leP
theorem sortP_asc (l : List Pair) : (sortP l).Pairwise PLe := by
  have h := List.pairwise_mergeSort (le := leP) leP_trans leP_total l
  exact h.imp fun q => of_decide_eq_true q
theorem sortP_id {l : List Pair} (h : l.Pairwise PLe) : sortP l = l := List.mergeSort_of_pairwise (h.imp fun q => decide_eq_true q)
theorem sortP_iff (l : List Pair) : l = sortP l ↔ l.Pairwise PLe := ⟨fun e => by rw [e]; exact sortP_asc l, fun h => (sortP_id h).symm⟩
theorem alike_pr (p q : Pair) : PySem.W.alike (prD p) (prD q) = true := by simp [prD, PySem.W.alike, PySem.W.alikeAll]
theorem alike_prs (l : List Pair) : PySem.W.AllAlike (l.map prD) := PySem.W.AllAlike.of alike_pr
theorem sortable_prs (l : List Pair) : PySem.W.Sortable (l.map prD) := PySem.W.Sortable.tuples fun p => ⟨_, _, rfl⟩
/-! ### sorted ints -/
def leI (a b : Int) : Bool := decide (a ≤ b)
theorem leI_data : PySem.W.dataLe false (fun i : Int => PyData.int i) = leI := by
  have e := PySem.W.dataLe_int (β := Int) (fun i => i)
  rw [e]
  rfl
def sortI (l : List Int) : List Int := l.mergeSort leI
theorem sortI_perm (l : List Int) : (sortI l).Perm l := List.mergeSort_perm l leI
theorem sortI_asc (l : List Int) : (sortI l).Pairwise (· ≤ ·) := by
  have h := List.pairwise_mergeSort (le := leI) (fun a b c => by unfold leI; rw [decide_eq_true_iff, decide_eq_true_iff, decide_eq_true_iff]; omega) (fun a b => by unfold leI; rw [Bool.or_eq_true, decide_eq_true_iff, decide_eq_true_iff]; omega) l
  exact h.imp fun q => of_decide_eq_true q
theorem alike_ints (l : List Int) : PySem.W.AllAlike (l.map PyData.int) := PySem.W.AllAlike.of fun a b => by simp [PySem.W.alike]
theorem sortable_ints (l : List Int) : PySem.W.Sortable (l.map PyData.int) := PySem.W.Sortable.others fun a => ⟨by simp, by simp⟩
end Pk
set_option maxHeartbeats 1000000
namespace Pk
open PySem PySem.Spec PyProof.Rows L2
/-! ### the judges of the program -/
def sp_is_between : Sp := fun vs H Q _ => ∃ (v : V) (a : A) (lo hi : Int), vs = [v, .int lo, .int hi] ∧ Av H v a ∧ Q (.bl (a.bet lo hi)) H
def sp_is_pair : Sp := fun vs H Q _ => ∃ (v : V) (a : A), vs = [v] ∧ Av H v a ∧ Q (.bl a.pair.isSome) H
section
variable {P : Program} {w : World} {K : PySem.W.Frag} {mg : Str → Option Value} {base : Heap}
theorem ok_is_between {f : Addr} {fd : FuncData} (F : Fun K "is_between" "is_between" s_is_between f fd) (G : Glob mg) : FnOk P w K mg base CX0 1 f fd ["thing", "low", "high"] sp_is_between := by
  refine F.ok c_is_between (fun vs H Q E h => ?_) (fun cdv A0 outer s H vs Q E hr h => ?_)
  · obtain ⟨v, a, lo, hi, rfl, _⟩ := h
    rfl
  · obtain ⟨v, a, lo, hi, rfl, ha, q⟩ := h
    refine ⟨_, 
      (pss_one (ps_ret (pe_and (pe_callB (isiK K) (by rfl) G.isinstance boot_isinstance (pa_cons (pv 0) (pa_cons (pe_ty "int" G.int) pa_nil))) (pe_and (pe_not (pe_callB (isiK K) (by rfl) G.isinstance boot_isinstance (pa_cons (pv 0) (pa_cons (pe_ty "bool" G.bool) pa_nil)))) (pe_one (pe_chain op_le op_le (pv 1) (pv 0) (pv 2))))))), ?_⟩
    obtain ⟨t, b, hT, hb, hb0, hb1⟩ := ha.isiI (K := K)
    refine ⟨v, rfl, v, .ty "int", t, .type "int", b, rfl, .ty _, hT, hb, b, rfl, ?_⟩
    cases b with
    | false =>
      rw [A.bet_no (hb0 rfl)] at q
      exact q
    | true =>
      refine ⟨v, rfl, v, .ty "bool", t, .type "bool", _, rfl, .ty _, hT, hb1 rfl, _, rfl, _, rfl, ?_⟩
      cases hi' : a.isI with
      | false =>
        rw [A.bet_no hi'] at q
        exact q
      | true =>
        obtain ⟨i, rfl, rfl⟩ := A.isI_int ha hi'
        refine ⟨.int lo, rfl, .int i, rfl, lo, i, rfl, rfl, _, rfl, ?_⟩
        have q : Q (.bl (decide (lo ≤ i) && decide (i ≤ hi))) H := q
        cases h1 : decide (lo ≤ i) with
        | false =>
          rw [h1] at q
          exact q
        | true =>
          rw [h1] at q
          exact ⟨.int hi, rfl, i, hi, rfl, rfl, q⟩
theorem ok_is_pair {f : Addr} {fd : FuncData} (F : Fun K "is_pair" "is_pair" s_is_pair f fd) (G : Glob mg) (C_is_between : Cal P w K mg base CX0 1 "is_between" ["thing", "low", "high"] sp_is_between) :
    FnOk P w K mg base CX0 2 f fd ["thing"] sp_is_pair := by
  refine F.ok c_is_pair (fun vs H Q E h => ?_) (fun cdv A0 outer s H vs Q E hr h => ?_)
  · obtain ⟨v, a, rfl, _⟩ := h
    rfl
  · obtain ⟨v, a, rfl, ha, q⟩ := h
    refine ⟨_, 
      (pss_cons (ps_if (PW.pt (pw_or (pt_not (pt_val (pe_callB (isiK K) (by rfl) G.isinstance boot_isinstance (pa_cons (pv 0) (pa_cons (pe_ty "tuple" G.tuple) pa_nil))))) (pw_or1 (pt_cmpR op_ne (pe_callB (lenS K) (by rfl) G.len PySem.boot_len (pa_cons (pv 0) pa_nil)) pe_int (nomark _))))) 
          (pss_one (ps_ret pe_bl)) pss_nil)
      (pss_one (ps_ret (pe_and (pe_cal C_is_between hr pass0 (pa_cons (pe_ix (ixT K) (pv 0) pe_int (fun _ _ => rfl)) (pa_cons pe_int (pa_cons (pe_mn G) pa_nil)))) (pe_one (pe_cal C_is_between hr pass0 (pa_cons (pe_ix (ixT K) (pv 0) pe_int (fun _ _ => rfl)) (pa_cons pe_int (pa_cons (pe_mn G) pa_nil))))))))), ?_⟩
    obtain ⟨t, hT, hb⟩ := ha.isiT (K := K)
    refine ⟨v, rfl, v, .ty "tuple", t, .type "tuple", _, rfl, .ty _, hT, hb, _, rfl, ?_⟩
    cases ha with
    | @tup p xs as hp hs =>
      have hl := hs.len
      refine ⟨.ref p, rfl, p, xs, rfl, .inr (SqT.of hp), rfl, _, rfl, ite2 (fun e => ?_) (fun e => ?_)⟩
      · have ne : as.length ≠ 2 := fun z => by
          rw [hl, z] at e
          exact absurd e (by decide)
        rw [A.pair_len ne] at q
        exact q
      · have e2 : xs.length = 2 := by
          by_cases z : xs.length = 2
          · exact z
          · refine absurd ?_ e
            rw [decide_eq_false (fun k => z (by have := V.int.inj k; omega))]
            rfl
        match xs, as, hs, e2 with
        | [x, y], [a1, a2], .cons h1 (.cons h2 .nil), _ =>
          rw [A.pair_two] at q
          refine ⟨.ref p, rfl, p, _, 0, x, rfl, rfl, SqT.of hp, atI_nat (j := 0) rfl, x, a1, 0, 7, rfl, h1, _, rfl, ?_⟩
          cases hb1 : a1.bet 0 7 with
          | false =>
            rw [hb1] at q
            exact q
          | true =>
            rw [hb1] at q
            exact ⟨.ref p, rfl, p, _, 1, y, rfl, rfl, SqT.of hp, atI_nat (j := 1) rfl, y, a2, 0, 7, rfl, h2, q⟩
    | int i => exact q
    | non => exact q
    | bl b => exact q
    | str x => exact q
    | lst h => exact q
    | dct h => exact q
end
end Pk
set_option maxHeartbeats 1000000
namespace Pk
open PySem PySem.Spec PyProof.Rows L2
def sp_are_apart (K : PySem.W.Frag) : Sp := fun vs H Q _ => ∃ (a : Addr) (xs : List V) (m : List Pair), vs = [.ref a] ∧ (SqL K H a xs ∨ SqT K H a xs) ∧ DtAll H xs (m.map prD) ∧ m.length ≤ 100 ∧ ∀ H', Same H H' → Q (.bl (decide (Apart m))) H'
theorem apart_ded (m : List Pair) : (decide (V.int (ded (m.map (·.1))).length = V.int m.length) && decide (V.int (ded (m.map (·.2))).length = V.int m.length)) = decide (Apart m) := by
  have go : ∀ l : List Int, l.length = m.length → (V.int (ded l).length = V.int m.length ↔ l.Nodup) := fun l e => by
    rw [← ded_full l, e]
    exact ⟨fun q => Int.ofNat.inj (V.int.inj q), fun q => by rw [q]⟩
  rw [Bool.eq_iff_iff, Bool.and_eq_true, decide_eq_true_iff, decide_eq_true_iff, decide_eq_true_iff, go _ (List.length_map ..), go _ (List.length_map ..)]
  exact Iff.rfl
theorem map_take_next {α β : Type} (f : α → β) {l : List α} {i : Nat} {x : α} (h : l[i]? = some x) : (l.take (i + 1)).map f = (l.take i).map f ++ [f x] := by
  rw [List.take_add_one, h, List.map_append]
  rfl
section
variable {P : Program} {w : World} {K : PySem.W.Frag} {mg : Str → Option Value} {base : Heap}
theorem ok_are_apart {f : Addr} {fd : FuncData} (F : Fun K "are_apart" "are_apart" s_are_apart f fd) (G : Glob mg) : FnOk P w K mg base CX0 1 f fd ["pairs"] (sp_are_apart K) := by
  refine F.ok c_are_apart (fun vs H Q E h => ?_) (fun cdv A0 outer s H vs Q E hr h => ?_)
  · obtain ⟨v, a, m, rfl, _⟩ := h
    rfl
  · obtain ⟨a, xs, m, rfl, hs, hd, hm, q⟩ := h
    refine ⟨_, 
      (pss_cons (ps_setScI (i := 2) (own := [("pair", 1)]) rfl c_are_apart.nd rfl rfl (sw_trueS rfl rfl rfl (by decide +kernel)) (pi_seq (pv 0)) (blkOk_by (own := [("pair", 1)]) (N := n_are_apart) (sc := defScope s_are_apart) (by decide +kernel)) (fun _ _ _ _ _ => (pg_name (i := 1) c_are_apart.nd rfl (.inl rfl))) (fun _ _ _ _ _ => pts_nil) (fun _ _ _ _ _ => (pe_ix (ixT K) (pv 1) pe_int (fun _ _ => rfl))))
      (pss_cons (ps_setScI (i := 3) (own := [("pair", 1)]) rfl c_are_apart.nd rfl rfl (sw_trueS rfl rfl rfl (by decide +kernel)) (pi_seq (pv 0)) (blkOk_by (own := [("pair", 1)]) (N := n_are_apart) (sc := defScope s_are_apart) (by decide +kernel)) (fun _ _ _ _ _ => (pg_name (i := 1) c_are_apart.nd rfl (.inl rfl))) (fun _ _ _ _ _ => pts_nil) (fun _ _ _ _ _ => (pe_ix (ixT K) (pv 1) pe_int (fun _ _ => rfl))))
      (pss_one (ps_ret (pe_and (pe_cmpR op_eq (pe_callB call_lenSet (by rfl) G.len PySem.boot_len (pa_cons (pv 2) pa_nil)) (pe_callB (lenS K) (by rfl) G.len PySem.boot_len (pa_cons (pv 0) pa_nil)) (nomark _)) (pe_one (pe_cmpR op_eq (pe_callB call_lenSet (by rfl) G.len PySem.boot_len (pa_cons (pv 3) pa_nil)) (pe_callB (lenS K) (by rfl) G.len PySem.boot_len (pa_cons (pv 0) pa_nil)) (nomark _)))))))), ?_⟩
    have hlen : xs.length = m.length := hd.len.trans (List.length_map ..)
    have item : ∀ {i : Nat} {x : V} {H' : Hp}, xs[i]? = some x → Same H H' → ∃ t p, m[i]? = some p ∧ x = .ref t ∧ H' t = some (.tup [.int p.1, .int p.2]) := fun {i x H'} hx s => by
      obtain ⟨d, h1, h2⟩ := (hd.mono (Wk.of s)).getV hx
      rw [List.getElem?_map] at h1
      cases hp : m[i]? with
      | none => rw [hp] at h1; cases h1
      | some p =>
        rw [hp] at h1
        cases h1
        obtain ⟨t, e, ht⟩ := dt_pair h2
        exact ⟨t, p, rfl, e, ht⟩
    refine ⟨.ref a, rfl, a, xs, rfl, hs, fun J W p np => ?_⟩
    refine scW np W (fun i H ys => ys = (m.take i).map (·.1)) (fun i H H' ys _ e => e) (by omega) rfl (fun i x H' ys hi s hx hY Q1 Q2 k1 k2 => ?_) fun H1 ys s1 hl hp hY => ?_
    · obtain ⟨t, pr, hpr, rfl, ht⟩ := item hx s
      refine ⟨rfl, .ref t, rfl, t, _, 0, .int pr.1, rfl, rfl, SqT.of ht, atI_nat (j := 0) rfl, k1 _ _ (Same.refl _) ?_⟩
      rw [hY, ← map_take_next _ hpr]
    · rw [hlen, List.take_length] at hY
      subst hY
      refine ⟨.ref a, rfl, a, xs, rfl, hs.imp s1.seq (same_t s1), fun J2 W2 p2 np2 => ?_⟩
      refine scW np2 W2 (fun i H ys => ys = (m.take i).map (·.2)) (fun i H H' ys _ e => e) (by omega) rfl (fun i x H' ys hi s hx hY Q1 Q2 k1 k2 => ?_) fun H2 ys2 s2 hl2 hp2 hY => ?_
      · obtain ⟨t, pr, hpr, rfl, ht⟩ := item hx (s1.trans s)
        refine ⟨rfl, .ref t, rfl, t, _, 1, .int pr.2, rfl, rfl, SqT.of ht, atI_nat (j := 1) rfl, k1 _ _ (Same.refl _) ?_⟩
        rw [hY, ← map_take_next _ hpr]
      · rw [hlen, List.take_length] at hY
        subst hY
        have s12 := s1.trans s2
        have seq : SqL K H2 a xs ∨ SqT K H2 a xs := hs.imp s12.seq (same_t s12)
        have d1 := ded_len (m.map (·.1))
        have d2 := ded_len (m.map (·.2))
        rw [List.length_map] at d1 d2
        have q := q H2 s12
        rw [← apart_ded] at q
        refine ⟨.ref p, rfl, p, _, _, rfl, s2 _ _ hp, by omega, .ref a, rfl, a, xs, rfl, seq, rfl, _, rfl, ?_⟩
        rw [hlen]
        cases hb : decide (V.int (ded (m.map (·.1))).length = V.int m.length) with
        | false =>
          rw [hb] at q
          exact q
        | true =>
          rw [hb] at q
          refine ⟨.ref p2, rfl, p2, _, _, rfl, hp2, by omega, .ref a, rfl, a, xs, rfl, seq, rfl, ?_⟩
          rw [hlen]
          exact q
end
end Pk
set_option maxHeartbeats 1000000
namespace Pk
open PySem PySem.Spec PyProof.Rows L2
theorem AvAll.pairs {H : Hp} {vs : List V} {as : List A} {m : List Pair} (h : AvAll H vs as) (e : pairsOf as = some m) : DtAll H vs (m.map prD) := by
  induction as generalizing vs m with
  | nil =>
    cases e
    cases h
    exact .nil
  | cons a as ih =>
    cases h with
    | @cons v vs _ _ h1 h2 =>
      unfold pairsOf at e
      cases ha : a.pair with
      | none => rw [ha] at e; cases e
      | some p =>
        cases hs : pairsOf as with
        | none => rw [ha, hs] at e; cases e
        | some ps =>
          rw [ha, hs] at e
          cases e
          refine .cons ?_ (ih h2 hs)
          match a, ha with
          | .tup [.int x, .int y], ha =>
            have ha : (if (0 ≤ x ∧ x ≤ 7) ∧ 0 ≤ y ∧ y ≤ 7 then some (x, y) else none) = some p := ha
            by_cases q : (0 ≤ x ∧ x ≤ 7) ∧ 0 ≤ y ∧ y ≤ 7
            · rw [if_pos q] at ha
              cases ha
              cases h1 with
              | tup ht hh =>
                cases hh with
                | cons k1 k2 =>
                  cases k1
                  cases k2 with
                  | cons k3 k4 =>
                    cases k3
                    cases k4
                    exact dt_mk ht
            · rw [if_neg q] at ha
              cases ha
theorem pairsOf_len : ∀ {as : List A} {m : List Pair}, pairsOf as = some m → m.length = as.length
  | [], m, h => by
    cases h
    rfl
  | a :: as, m, h => by
    unfold pairsOf at h
    cases ha : a.pair with
    | none => rw [ha] at h; cases h
    | some p =>
      cases hs : pairsOf as with
      | none => rw [ha, hs] at h; cases h
      | some ps =>
        rw [ha, hs] at h
        cases h
        rw [List.length_cons, List.length_cons, pairsOf_len hs]
/-- not too wide -/
def A.wid : A → Prop
  | .tup as => as.length ≤ 100
  | _ => True
def A.wid2 : A → Prop
  | .tup as => as.length ≤ 100 ∧ ∀ a, a ∈ as → a.wid
  | _ => True
def sp_plans_right : Sp := fun vs H Q _ => ∃ (v : V) (a : A), vs = [v] ∧ Av H v a ∧ a.wid ∧ ∀ H', Same H H' → Q (.bl a.plan.isSome) H'
theorem all_take {α : Type} (f : α → Bool) (l : List α) : ((l.map f).map V.bl) = l.map fun a => V.bl (f a) := by
  rw [List.map_map]
  rfl
theorem AvAll.at {H : Hp} {vs : List V} {as : List A} {i : Nat} {v : V} (h : AvAll H vs as) (hv : vs[i]? = some v) : ∃ a, as[i]? = some a ∧ a ∈ as ∧ Av H v a := by
  obtain ⟨a, h1, h2⟩ := h.getV hv
  exact ⟨a, h1, List.mem_of_getElem? h1, h2⟩
section
variable {P : Program} {w : World} {K : PySem.W.Frag} {mg : Str → Option Value} {base : Heap}
theorem ok_plans_right {f : Addr} {fd : FuncData} (F : Fun K "plans_right" "plans_right" s_plans_right f fd) (G : Glob mg) (C_is_pair : Cal P w K mg base CX0 2 "is_pair" ["thing"] sp_is_pair)
    (C_are_apart : Cal P w K mg base CX0 1 "are_apart" ["pairs"] (sp_are_apart K)) : FnOk P w K mg base CX0 3 f fd ["thing"] sp_plans_right := by
  refine F.ok c_plans_right (fun vs H Q E h => ?_) (fun cdv A0 outer s H vs Q E hr h => ?_)
  · obtain ⟨v, a, rfl, _⟩ := h
    rfl
  · obtain ⟨v, a, rfl, ha, hw, q⟩ := h
    refine ⟨_, 
      (pss_cons (ps_if (PW.pt (pw_or (pt_not (pt_val (pe_callB (isiK K) (by rfl) G.isinstance boot_isinstance (pa_cons (pv 0) (pa_cons (pe_ty "tuple" G.tuple) pa_nil))))) (pw_or1 (pt_not (pt_val (pe_callB (cr_all rfl) (by rfl) G.all PyProof.Rows.boot_all (pa_cons (pe_lc (own := [("pair", 1)]) rfl c_plans_right.nd (pi_tup (pv 0)) (blkOk_by (own := [("pair", 1)]) (N := n_plans_right) (sc := defScope s_plans_right) (by decide +kernel)) (fun _ _ _ _ _ => (pg_name (i := 1) c_plans_right.nd rfl (.inl rfl))) (fun _ _ _ _ _ => pts_nil) (fun _ _ _ _ _ => (pe_cal C_is_pair hr pass0 (pa_cons (pv 1) pa_nil)))) pa_nil))))))) 
          (pss_one (ps_ret pe_bl)) pss_nil)
      (pss_one (ps_ret (pe_and (pe_cmpR (eqD K hr.units) (pe_callTy call_list_of (by rfl) G.list (by decide +kernel) (pa_cons (pv 0) pa_nil)) (pe_callB (cr_sortDt hr.units) (by rfl) G.sorted boot_sorted (pa_cons (pv 0) pa_nil)) (nomark _)) (pe_one (pe_cal C_are_apart hr pass0 (pa_cons (pv 0) pa_nil))))))), ?_⟩
    obtain ⟨t, hT, hb⟩ := ha.isiT (K := K)
    refine ⟨v, rfl, v, .ty "tuple", t, .type "tuple", _, rfl, .ty _, hT, hb, _, rfl, ?_⟩
    cases ha with
    | @tup p xs as hp hs =>
      have hl := hs.len
      have hw : as.length ≤ 100 := hw
      refine ⟨.ref p, rfl, p, rfl, ⟨xs, SqT.of hp⟩, fun D nD => ?_⟩
      refine lcW nD (Wlk.tup (SqT.of hp)) (fun i H ys => ys = (as.take i).map fun a => V.bl a.pair.isSome) (fun i H H' ys _ e => e) (by omega) rfl (fun i x H' ys hi s hx hY Q1 Q2 k1 k2 => ?_) fun H1 ys s1 hD hY => ?_
      · obtain ⟨a, h1, _, h2⟩ := (hs.mono (Wk.of s)).at hx
        refine ⟨rfl, x, rfl, x, a, rfl, h2, k1 _ _ (Same.refl _) ?_⟩
        rw [hY, ← map_take_next _ h1]
      · rw [hl, List.take_length] at hY
        subst hY
        have hD2 : H1 D = some (.lst ((as.map fun a => a.pair.isSome).map V.bl)) := by
          rw [hD, all_take]
        refine ⟨D, _, rfl, SqL.of hD2, _, rfl, ?_⟩
        have e : (as.map fun a => a.pair.isSome).all id = (pairsOf as).isSome := by
          rw [pairsOf_all, List.all_map]
          rfl
        rw [e]
        have q : ∀ H', Same H H' → Q (.bl (okPlan (pairsOf as)).isSome) H' := q
        cases hm : pairsOf as with
        | none =>
          rw [hm] at q
          exact q _ s1
        | some m =>
          rw [hm] at q
          have hd := hs.pairs hm
          have hml := pairsOf_len hm
          -- list(thing) == sorted(thing)
          refine ⟨.ref p, rfl, p, xs, rfl, .inr (SqT.of (s1 _ _ hp)), fun l nl => ?_⟩
          have s2 : Same H (upd H1 l (.lst xs)) := s1.trans (same_new nl)
          refine ⟨.ref p, rfl, Pair, prD, p, xs, m, rfl, .inr (SqT.of (s2 _ _ hp)), hd.mono (Wk.of s2), alike_prs m, sortable_prs m, (fun b _ => by rw [dep_pr]; decide), by omega, fun l2 ys n2 hys => ?_⟩
          have s3 : Same H (upd (upd H1 l (.lst xs)) l2 (.lst ys)) := s2.trans (same_new n2)
          have w3 : Wk (upd H1 l (.lst xs)) (upd (upd H1 l (.lst xs)) l2 (.lst ys)) := Wk.of (same_new n2)
          have n12 : l ≠ l2 := fun z => by
            rw [← z, upd_same] at n2
            cases n2
          rw [leP_data] at hys
          have d1 : Dp K (upd (upd H1 l (.lst xs)) l2 (.lst ys)) (.ref l) (.list (m.map prD)) := .lst (SqL.of (by rw [upd_ne n12, upd_same])) (hd.mono (Wk.of s3)).dp
          have d2 : Dp K (upd (upd H1 l (.lst xs)) l2 (.lst ys)) (.ref l2) (.list ((sortP m).map prD)) := .lst (SqL.of upd_same) (hys.mono w3).dp
          refine ⟨_, _, d1, d2, shaped_prs m, shaped_prs (sortP m), _, rfl, ?_⟩
          have e2 : PyData.eqv (.list (m.map prD)) (.list ((sortP m).map prD)) = decide (m.Pairwise PLe) := by
            rw [show PyData.eqv (.list (m.map prD)) (.list ((sortP m).map prD)) = PyData.eqvAll (m.map prD) ((sortP m).map prD) by simp only [PyData.eqv], eqvAll_pr, Bool.eq_iff_iff, decide_eq_true_iff, decide_eq_true_iff]
            exact sortP_iff m
          rw [e2]
          by_cases hp2 : m.Pairwise PLe
          · rw [decide_eq_true hp2]
            refine ⟨.ref p, rfl, p, xs, m, rfl, .inr (SqT.of (s3 _ _ hp)), hd.mono (Wk.of s3), by omega, fun H4 s4 => ?_⟩
            have q := q H4 (s3.trans s4)
            have e3 : (okPlan (some m)).isSome = decide (Apart m) := by
              show (if m.Pairwise PLe ∧ Apart m then some m else none).isSome = _
              by_cases ha : Apart m
              · rw [if_pos ⟨hp2, ha⟩, decide_eq_true ha]
                rfl
              · rw [if_neg fun z => ha z.2, decide_eq_false ha]
                rfl
            rw [e3] at q
            exact q
          · rw [decide_eq_false hp2]
            have q := q _ s3
            have e3 : (okPlan (some m)).isSome = false := by
              show (if m.Pairwise PLe ∧ Apart m then some m else none).isSome = _
              rw [if_neg fun z => hp2 z.1]
              rfl
            rw [e3] at q
            exact q
    | int i => exact q _ (Same.refl _)
    | non => exact q _ (Same.refl _)
    | bl b => exact q _ (Same.refl _)
    | str x => exact q _ (Same.refl _)
    | lst h => exact q _ (Same.refl _)
    | dct h => exact q _ (Same.refl _)
def sp_books_right : Sp := fun vs H Q _ => ∃ (v : V) (a : A), vs = [v] ∧ Av H v a ∧ a.wid2 ∧ ∀ H', Same H H' → Q (.bl a.book.isSome) H'
theorem ok_books_right {f : Addr} {fd : FuncData} (F : Fun K "books_right" "books_right" s_books_right f fd) (G : Glob mg) (C_plans_right : Cal P w K mg base CX0 3 "plans_right" ["thing"] sp_plans_right) : FnOk P w K mg base CX0 4 f fd ["thing"] sp_books_right := by
  refine F.ok c_books_right (fun vs H Q E h => ?_) (fun cdv A0 outer s H vs Q E hr h => ?_)
  · obtain ⟨v, a, rfl, _⟩ := h
    rfl
  · obtain ⟨v, a, rfl, ha, hw, q⟩ := h
    refine ⟨_, 
      (pss_cons (ps_if (PW.pt (pw_or (pt_not (pt_val (pe_callB (isiK K) (by rfl) G.isinstance boot_isinstance (pa_cons (pv 0) (pa_cons (pe_ty "tuple" G.tuple) pa_nil))))) (pw_or1 (pt_not (pt_chain op_le op_le pe_int (pe_callB (lenS K) (by rfl) G.len PySem.boot_len (pa_cons (pv 0) pa_nil)) (pe_mp G)))))) 
          (pss_one (ps_ret pe_bl)) pss_nil)
      (pss_one (ps_ret (pe_callB (cr_all rfl) (by rfl) G.all PyProof.Rows.boot_all (pa_cons (pe_lc (own := [("plan", 1)]) rfl c_books_right.nd (pi_tup (pv 0)) (blkOk_by (own := [("plan", 1)]) (N := n_books_right) (sc := defScope s_books_right) (by decide +kernel)) (fun _ _ _ _ _ => (pg_name (i := 1) c_books_right.nd rfl (.inl rfl))) (fun _ _ _ _ _ => pts_nil) (fun _ _ _ _ _ => (pe_cal C_plans_right hr pass0 (pa_cons (pv 1) pa_nil)))) pa_nil))))), ?_⟩
    obtain ⟨t, hT, hb⟩ := ha.isiT (K := K)
    refine ⟨v, rfl, v, .ty "tuple", t, .type "tuple", _, rfl, .ty _, hT, hb, _, rfl, ?_⟩
    cases ha with
    | @tup p xs as hp hs =>
      have hl := hs.len
      obtain ⟨hw1, hw2⟩ : as.length ≤ 100 ∧ ∀ a, a ∈ as → a.wid := hw
      have q : ∀ H', Same H H' → Q (.bl (if 1 ≤ as.length ∧ as.length ≤ 16 then plansOf (as.map A.plan) else none).isSome) H' := q
      have no : ¬ (1 ≤ as.length ∧ as.length ≤ 16) → Q (.bl false) H := fun z => by
        have q := q _ (Same.refl _)
        rw [if_neg z] at q
        exact q
      have lene : ∀ n : Int, decide ((xs.length : Int) ≤ 16) = decide (as.length ≤ 16) := fun _ => by
        rw [hl, Bool.eq_iff_iff, decide_eq_true_iff, decide_eq_true_iff]
        omega
      refine ⟨.ref p, rfl, p, xs, rfl, .inr (SqT.of hp), 1, _, rfl, rfl, _, rfl, ?_⟩
      cases h1 : decide ((1 : Int) ≤ (xs.length : Int)) with
      | false =>
        exact ⟨_, rfl, no fun z => of_decide_eq_false h1 (by rw [hl]; omega)⟩
      | true =>
        refine ⟨_, _, rfl, rfl, _, rfl, ?_⟩
        cases h2 : decide ((xs.length : Int) ≤ 16) with
        | false => exact no fun z => of_decide_eq_false h2 (by rw [hl]; omega)
        | true =>
          have z1 := of_decide_eq_true h1
          have z2 := of_decide_eq_true h2
          have yes : 1 ≤ as.length ∧ as.length ≤ 16 := by omega
          rw [if_pos yes] at q
          refine ⟨.ref p, rfl, p, rfl, ⟨xs, SqT.of hp⟩, fun D nD => ?_⟩
          refine lcW nD (Wlk.tup (SqT.of hp)) (fun i H ys => ys = (as.take i).map fun a => V.bl a.plan.isSome) (fun i H H' ys _ e => e) (by omega) rfl (fun i x H' ys hi s hx hY Q1 Q2 k1 k2 => ?_) fun H1 ys s1 hD hY => ?_
          · obtain ⟨a, h1, hm, h2⟩ := (hs.mono (Wk.of s)).at hx
            refine ⟨rfl, x, rfl, x, a, rfl, h2, hw2 a hm, fun H4 s4 => k1 _ _ s4 ?_⟩
            rw [hY, ← map_take_next _ h1]
          · rw [hl, List.take_length] at hY
            subst hY
            have hD2 : H1 D = some (.lst ((as.map fun a => a.plan.isSome).map V.bl)) := by
              rw [hD, all_take]
            refine ⟨D, _, rfl, SqL.of hD2, ?_⟩
            have e : (as.map fun a => a.plan.isSome).all id = (plansOf (as.map A.plan)).isSome := by
              rw [plansOf_all, List.all_map, List.all_map]
              rfl
            rw [e]
            exact q _ s1
    | int i => exact q _ (Same.refl _)
    | non => exact q _ (Same.refl _)
    | bl b => exact q _ (Same.refl _)
    | str x => exact q _ (Same.refl _)
    | lst h => exact q _ (Same.refl _)
    | dct h => exact q _ (Same.refl _)
end
end Pk
set_option maxHeartbeats 1000000
namespace Pk
open PySem PySem.Spec PyProof.Rows L2
/-! ### the classes of exceptions -/
structure XcF (K : PySem.W.Frag) (mg : Str → Option Value) (x : Str) (C : Addr) : Prop where
  ex : PySem.W.excIn K C [.type "ValueError", .type "Exception", .type "BaseException", .type "object"] "ValueError.__new__" = true
  g : mg x = some (.ref C)
  kp : PySem.W.keepIn K (.ref C) = true
  b : PySem.W.subIn K (.ref C) (.type "BaseException") = some true
  t : PySem.W.typeIn K (.ref C) = some (.type "type")
def sp_need_book (CB : Addr) : Sp := fun vs H Q E => ∃ (v : V) (a : A), vs = [v] ∧ Av H v a ∧ a.wid2 ∧ (a.book.isSome = true → ∀ H', Same H H' → Q .non H') ∧ (a.book.isSome = false → ∀ H', Same H H' → E (.ref CB) none H')
section
variable {P : Program} {w : World} {K : PySem.W.Frag} {mg : Str → Option Value} {base : Heap}
theorem ok_need_book {f CB : Addr} {fd : FuncData} (F : Fun K "need_book" "need_book" s_need_book f fd) (G : Glob mg) (X_BadBook : XcF K mg "BadBook" CB) (C_books_right : Cal P w K mg base CX0 4 "books_right" ["thing"] sp_books_right) :
    FnOk P w K mg base (L2.CX P w) 5 f fd ["book"] (sp_need_book CB) := by
  refine F.okX c_need_book (fun vs H Q E h => ?_) (fun cdv A0 outer s H vs Q E hr h => ?_)
  · obtain ⟨v, a, rfl, _⟩ := h
    rfl
  · obtain ⟨v, a, rfl, ha, hw, q, e⟩ := h
    refine ⟨_, 
      (pss_one (ps_if (pt_not (pt_val (pe_cal C_books_right hr pass0 (pa_cons (pv 0) pa_nil)))) 
          (pss_one (ps_raise rfl (takes_of rfl rfl rfl rfl) (pmk_own PySem.F.excBase_ValueError X_BadBook.ex X_BadBook.g X_BadBook.kp (raises_own X_BadBook.b X_BadBook.t) rfl))) pss_nil)), ?_⟩
    refine ⟨v, rfl, v, a, rfl, ha, hw, fun H1 s1 => ⟨_, rfl, ?_⟩⟩
    cases hb : a.book.isSome with
    | true => exact q hb H1 s1
    | false => exact e hb H1 s1
end
end Pk
set_option maxHeartbeats 1000000
namespace Pk
open PySem PySem.Spec PyProof.Rows L2
/-! ### books as data -/
theorem nodup_len8 {l : List Int} (hn : l.Nodup) (hr : ∀ x, x ∈ l → 0 ≤ x ∧ x ≤ 7) : l.length ≤ 8 := by
  have h := nodup_sub_len (l := l) (m := [0, 1, 2, 3, 4, 5, 6, 7]) hn fun x hx => by
    have := hr x hx
    simp only [List.mem_cons, List.not_mem_nil, or_false]
    omega
  exact h
theorem Plan.len8 {m : List Pair} (h : Plan m) : m.length ≤ 8 := by
  have := nodup_len8 h.ap.1 fun x hx => by
    obtain ⟨p, hp, e⟩ := List.mem_map.mp hx
    have := h.rng p hp
    omega
  rwa [List.length_map] at this
theorem Book.wid2 {b : List (List Pair)} (h : Book b) : A.wid2 (toA (bkD b)) := by
  have e : toA (bkD b) = .tup ((b.map plD).map toA) := by simp [toA, toAs_map]
  rw [e]
  refine ⟨by rw [List.length_map, List.length_map]; have := h.len; omega, fun a ha => ?_⟩
  obtain ⟨d, hd, rfl⟩ := List.mem_map.mp ha
  obtain ⟨m, hm, rfl⟩ := List.mem_map.mp hd
  have e2 : toA (plD m) = .tup ((m.map prD).map toA) := by simp [toA, toAs_map]
  rw [e2]
  show ((m.map prD).map toA).length ≤ 100
  rw [List.length_map, List.length_map]
  have := (h.plan m hm).len8
  omega
theorem no_book {b : List (List Pair)} (hb : Book b) {p : Prop} (e : (A.book (toA (bkD b))).isSome = false) : p := by
  rw [book_back hb] at e
  cases e
abbrev szs (b : List (List Pair)) : List Int := b.map fun m => (m.length : Int)
theorem dt_book {H : Hp} {v : V} {b : List (List Pair)} (h : Dt H v (bkD b)) : ∃ t xs, v = .ref t ∧ H t = some (.tup xs) ∧ DtAll H xs (b.map plD) ∧ xs.length = b.length := by
  obtain ⟨t, xs, e, ht, hs⟩ := dt_tup h
  exact ⟨t, xs, e, ht, hs, hs.len.trans (List.length_map ..)⟩
theorem dt_plan {H : Hp} {v : V} {m : List Pair} (h : Dt H v (plD m)) : ∃ t xs, v = .ref t ∧ H t = some (.tup xs) ∧ DtAll H xs (m.map prD) ∧ xs.length = m.length := by
  obtain ⟨t, xs, e, ht, hs⟩ := dt_tup h
  exact ⟨t, xs, e, ht, hs, hs.len.trans (List.length_map ..)⟩
theorem DtAll.plan {H : Hp} {xs : List V} {b : List (List Pair)} {i : Nat} {x : V} (h : DtAll H xs (b.map plD)) (hx : xs[i]? = some x) : ∃ m, b[i]? = some m ∧ Dt H x (plD m) := by
  obtain ⟨d, h1, h2⟩ := h.getV hx
  rw [List.getElem?_map] at h1
  cases hm : b[i]? with
  | none => rw [hm] at h1; cases h1
  | some m =>
    rw [hm] at h1
    cases h1
    exact ⟨m, rfl, h2⟩
theorem DtAll.pr {H : Hp} {xs : List V} {m : List Pair} {i : Nat} {x : V} (h : DtAll H xs (m.map prD)) (hx : xs[i]? = some x) : ∃ p t, m[i]? = some p ∧ x = .ref t ∧ H t = some (.tup [.int p.1, .int p.2]) := by
  obtain ⟨d, h1, h2⟩ := h.getV hx
  rw [List.getElem?_map] at h1
  cases hm : m[i]? with
  | none => rw [hm] at h1; cases h1
  | some p =>
    rw [hm] at h1
    cases h1
    obtain ⟨t, e, ht⟩ := dt_pair h2
    exact ⟨p, t, rfl, e, ht⟩
/-- t[lo:hi]: the tuple itself or a new one -/
def rSlM : V → Option Int → Option Int → Hp → VK → Prop := fun x lo hi H Q => ∃ a xs, x = .ref a ∧ H a = some (.tup xs) ∧ ∀ p H', Same H H' → H' p = some (.tup (cutV xs lo hi)) → Q (.ref p) H'
theorem slM {X : Cx} (K : PySem.W.Frag) (h : X.K = K := by rfl) : SlR X rSlM := by
  intro pins s σ H x v vl vu lo hi sl Q I rx hs pl pu h
  obtain ⟨a, xs, rfl, ha, q⟩ := h
  refine sl_tupA pins s σ H _ v vl vu lo hi sl Q I rx hs pl pu ⟨a, xs, rfl, SqT.of ha, fun e => q a H (Same.refl _) ?_, fun _ p np => q p _ (same_new np) upd_same⟩
  unfold cutV
  rw [e.1, e.2, Nat.sub_zero, List.drop_zero, List.take_length]
  exact ha
theorem cutV_from (xs : List V) (k : Nat) : cutV xs (some (k : Int)) none = xs.drop k := by
  unfold cutV
  rw [HT.sIx_nat, HT.sIx_none]
  by_cases h : k ≤ xs.length
  · rw [Nat.min_eq_left h, List.take_of_length_le (by rw [List.length_drop]; omega)]
  · rw [Nat.min_eq_right (by omega), List.drop_length, List.drop_of_length_le (by omega), List.take_nil]
theorem shaped_ints (l : List Int) : SeqAt.shaped (.tuple (l.map PyData.int)) = true := by
  have h1 : PyData.canLayAll0 (l.map PyData.int) = true := by
    induction l with
    | nil => simp [PyData.canLayAll0]
    | cons z l ih => simp [PyData.canLayAll0, PyData.canLay0, ih]
  have h2 : PyData.depthAll (l.map PyData.int) = 0 := by
    clear h1
    induction l with
    | nil => simp [PyData.depthAll]
    | cons z l ih => simp [PyData.depthAll, PyData.depth, ih]
  refine shaped_mk (by simpa [PyData.canLay0] using h1) ?_
  simp only [PyData.depth, h2]
  omega
/-- a statement that is not reached -/
theorem ps_dead {X : Cx} {st : Stmt} : PS X st (fun _ _ _ => False) := ⟨fun _ _ _ _ _ _ h => h.elim⟩
def sp_sizes : Sp := fun vs H Q _ => ∃ (v : V) (b : List (List Pair)), vs = [v] ∧ Dt H v (bkD b) ∧ Book b ∧ ∀ t H', Same H H' → H' t = some (.tup ((szs b).map V.int)) → Q (.ref t) H'
section
variable {P : Program} {w : World} {K : PySem.W.Frag} {mg : Str → Option Value} {base : Heap}
theorem ok_sizes {f CB : Addr} {fd : FuncData} (F : Fun K "sizes" "sizes" s_sizes f fd) (G : Glob mg) (C_need_book : Cal P w K mg base (L2.CX P w) 5 "need_book" ["book"] (sp_need_book CB)) : FnOk P w K mg base CX0 6 f fd ["book"] sp_sizes := by
  refine F.ok c_sizes (fun vs H Q E h => ?_) (fun cdv A0 outer s H vs Q E hr h => ?_)
  · obtain ⟨v, b, rfl, _⟩ := h
    rfl
  · obtain ⟨v, b, rfl, hd, hb, q⟩ := h
    refine ⟨_, 
      (pss_cons (ps_expr (pe_cal C_need_book hr passL (pa_cons (pv 0) pa_nil)))
      (pss_one (ps_ret (pe_tupleOf rfl G.tuple (pe_lc (own := [("plan", 1)]) rfl c_sizes.nd (pi_tup (pv 0)) (blkOk_by (own := [("plan", 1)]) (N := n_sizes) (sc := defScope s_sizes) (by decide +kernel)) (fun _ _ _ _ _ => (pg_name (i := 1) c_sizes.nd rfl (.inl rfl))) (fun _ _ _ _ _ => pts_nil) (fun _ _ _ _ _ => (pe_callB (lenS K) (by rfl) G.len PySem.boot_len (pa_cons (pv 1) pa_nil)))))))), ?_⟩
    refine ⟨v, rfl, v, _, rfl, hd.av, hb.wid2, fun _ H1 s1 => ?_, no_book hb⟩
    obtain ⟨t, xs, rfl, ht, hs, hl⟩ := dt_book (hd.mono (Wk.of s1))
    have hbl := hb.len
    refine ⟨.ref t, rfl, t, rfl, ⟨xs, SqT.of ht⟩, fun D nD => ?_⟩
    refine lcW nD (Wlk.tup (SqT.of ht)) (fun i H ys => ys = ((szs b).take i).map V.int) (fun i H H' ys _ e => e) (by omega) rfl (fun i x H' ys hi s hx hY Q1 Q2 k1 k2 => ?_) fun H2 ys s2 hD hY => ?_
    · obtain ⟨m, hm, hdm⟩ := (hs.mono (Wk.of s)).plan hx
      obtain ⟨t2, zs, rfl, ht2, _, hz⟩ := dt_plan hdm
      refine ⟨rfl, .ref t2, rfl, t2, zs, rfl, .inr (SqT.of ht2), k1 _ _ (Same.refl _) ?_⟩
      rw [hY, hz, ← map_take_next (f := V.int) (l := szs b) (x := (m.length : Int)) (by rw [List.getElem?_map, hm]; rfl)]
    · rw [hl, show b.length = (szs b).length from (List.length_map ..).symm, List.take_length] at hY
      subst hY
      exact .inl ⟨D, _, rfl, SqL.of hD, fun q' nq => q q' _ ((s1.trans s2).trans (same_new nq)) upd_same⟩
/-- ascending numbers of plans -/
def Asc (n : Nat) (l : List Int) : Prop := l.Pairwise (· < ·) ∧ ∀ x, x ∈ l → 0 ≤ x ∧ x < n
def sp_are_rising (K : PySem.W.Frag) : Sp := fun vs H Q _ => ∃ (t : Addr) (ns : List Int) (n : Nat), vs = [.ref t, .int n] ∧ H t = some (.tup (ns.map V.int)) ∧ Asc n ns ∧ ns.length ≤ 100 ∧ ∀ H', Same H H' → Q (.bl true) H'
theorem ok_are_rising {f : Addr} {fd : FuncData} (F : Fun K "are_rising" "are_rising" s_are_rising f fd) (G : Glob mg) (C_is_between : Cal P w K mg base CX0 1 "is_between" ["thing", "low", "high"] sp_is_between) :
    FnOk P w K mg base CX0 2 f fd ["thing", "many"] (sp_are_rising K) := by
  refine F.ok c_are_rising (fun vs H Q E h => ?_) (fun cdv A0 outer s H vs Q E hr h => ?_)
  · obtain ⟨t, ns, n, rfl, _⟩ := h
    rfl
  · obtain ⟨t, ns, n, rfl, ht, ha, hl, q⟩ := h
    refine ⟨_, 
      (pss_cons (ps_if (PW.pt (pw_or (pt_not (pt_val (pe_callB (isiK K) (by rfl) G.isinstance boot_isinstance (pa_cons (pv 0) (pa_cons (pe_ty "tuple" G.tuple) pa_nil))))) (pw_or1 (pt_not (pt_val (pe_callB (cr_all rfl) (by rfl) G.all PyProof.Rows.boot_all (pa_cons (pe_lc (own := [("item", 2)]) rfl c_are_rising.nd (pi_tup (pv 0)) (blkOk_by (own := [("item", 2)]) (N := n_are_rising) (sc := defScope s_are_rising) (by decide +kernel)) (fun _ _ _ _ _ => (pg_name (i := 2) c_are_rising.nd rfl (.inl rfl))) (fun _ _ _ _ _ => pts_nil) (fun _ _ _ _ _ => (pe_cal C_is_between hr pass0 (pa_cons (pv 2) (pa_cons pe_int (pa_cons (pe_op op_sub (pv 1) pe_int) pa_nil)))))) pa_nil))))))) 
          (pss_one (ps_ret pe_bl)) pss_nil)
      (pss_one (ps_ret (pe_callB (cr_all rfl) (by rfl) G.all PyProof.Rows.boot_all (pa_cons (pe_lc (own := [("one", 3), ("other", 4)]) rfl c_are_rising.nd (RZ.pi_zipA rfl G.zip (pa_cons (pv 0) (pa_cons (pe_slice (slM K) (pv 0) (po_some pe_int) po_none) pa_nil))) (blkOk_by (own := [("one", 3), ("other", 4)]) (N := n_are_rising) (sc := defScope s_are_rising) (by decide +kernel)) (fun _ _ _ _ _ => (pgT K (n := 2) rfl (pgs_cons (pg_name (i := 3) c_are_rising.nd rfl (.inl rfl)) (pgs_cons (pg_name (i := 4) c_are_rising.nd rfl (.inl rfl)) pgs_nil)))) (fun _ _ _ _ _ => pts_nil) (fun _ _ _ _ _ => (pe_cmpR op_lt (pv 3) (pv 4) (nomark _)))) pa_nil))))), ?_⟩
    obtain ⟨T, hT, hb⟩ := (Av.tup ht (DtAll.of_ints ns).av).isiT (K := K)
    refine ⟨.ref t, rfl, .ref t, .ty "tuple", T, .type "tuple", _, rfl, .ty _, hT, hb, _, rfl, ?_⟩
    have hxl : (ns.map V.int).length = ns.length := List.length_map ..
    refine ⟨.ref t, rfl, t, rfl, ⟨_, SqT.of ht⟩, fun D nD => ?_⟩
    refine lcW nD (Wlk.tup (SqT.of ht)) (fun i H ys => ∃ n, ys = (List.replicate n true).map V.bl) (fun i H H' ys _ e => e) (by omega) ⟨0, rfl⟩ (fun i x H' ys hi s hx hY Q1 Q2 k1 k2 => ?_) fun H1 ys s1 hD hY => ?_
    · obtain ⟨k, rfl⟩ := hY
      rw [List.getElem?_map] at hx
      cases hz : ns[i]? with
      | none => rw [hz] at hx; cases hx
      | some z =>
        rw [hz] at hx
        cases hx
        have hb2 := ha.2 z (List.mem_of_getElem? hz)
        refine ⟨rfl, .int z, rfl, .int n, rfl, n, 1, rfl, rfl, .int z, .int z, 0, (n : Int) - 1, rfl, .int z, k1 _ _ (Same.refl _) ⟨k + 1, ?_⟩⟩
        have e : (A.int z).bet 0 ((n : Int) - 1) = true := by
          show (decide (0 ≤ z) && decide (z ≤ (n : Int) - 1)) = true
          rw [decide_eq_true hb2.1, decide_eq_true (by omega)]
          rfl
        rw [e, List.replicate_succ', List.map_append]
        rfl
    · obtain ⟨k, rfl⟩ := hY
      refine ⟨D, _, rfl, SqL.of hD, _, rfl, ?_⟩
      have e : (List.replicate k true).all id = true := by simp
      rw [e]
      have ht1 := s1 _ _ ht
      refine ⟨.ref t, rfl, .ref t, rfl, 1, rfl, t, _, rfl, ht1, fun t2 H2 s2 h2 => ?_⟩
      have h2 : H2 t2 = some (.tup ((ns.map V.int).drop 1)) := (cutV_from (ns.map V.int) 1) ▸ h2
      refine ⟨t, t2, _, _, rfl, .inr ⟨SqT.of (s2 _ _ ht1), SqT.of h2, fun D2 nD2 => ?_⟩⟩
      refine lcW nD2 (Wlk.zipT (SqT.of (s2 _ _ ht1)) (SqT.of h2)) (fun i H ys => ∃ n, ys = (List.replicate n true).map V.bl) (fun i H H' ys _ e => e) (by omega) ⟨0, rfl⟩ (fun i x H' ys hi s hx hY Q1 Q2 k1 k2 => ?_) fun H3 ys s3 hD hY => ?_
      · obtain ⟨k, rfl⟩ := hY
        obtain ⟨T, y, z, rfl, hT, hy, hz⟩ := hx
        rw [List.getElem?_map] at hy
        rw [List.getElem?_drop, List.getElem?_map] at hz
        cases hy' : ns[i]? with
        | none => rw [hy'] at hy; cases hy
        | some u =>
          cases hz' : ns[1 + i]? with
          | none => rw [hz'] at hz; cases hz
          | some u' =>
            rw [hy'] at hy
            rw [hz'] at hz
            cases hy
            cases hz
            have lt : u < u' := by
              obtain ⟨h1, e1⟩ := List.getElem?_eq_some_iff.mp hy'
              obtain ⟨h3, e3⟩ := List.getElem?_eq_some_iff.mp hz'
              rw [← e1, ← e3]
              exact List.pairwise_iff_getElem.mp ha.1 i (1 + i) h1 h3 (by omega)
            refine ⟨T, _, rfl, SqT.of hT, rfl, _, _, rfl, _, _, rfl, rfl, rfl, .int u, rfl, .int u', rfl, u, u', rfl, rfl, k1 _ _ (Same.refl _) ⟨k + 1, ?_⟩⟩
            show _ ++ [V.bl (decide (u < u'))] = _
            rw [decide_eq_true lt, List.replicate_succ', List.map_append]
            rfl
      · obtain ⟨k, rfl⟩ := hY
        refine ⟨D2, _, rfl, SqL.of hD, ?_⟩
        have e : (List.replicate k true).all id = true := by simp
        rw [e]
        exact q _ ((s1.trans s2).trans s3)
/-- the plans of these numbers -/
def ofNums (b : List (List Pair)) (ns : List Int) : List (List Pair) := ns.map fun n => b.getD n.toNat []
def sp_kept : Sp := fun vs H Q _ => ∃ (v : V) (t : Addr) (b : List (List Pair)) (ns : List Int), vs = [v, .ref t] ∧ Dt H v (bkD b) ∧ Book b ∧ H t = some (.tup (ns.map V.int)) ∧ Asc b.length ns ∧ ns.length ≤ 16 ∧ ns ≠ [] ∧
  ∀ r H', Same H H' → Dt H' r (bkD (ofNums b ns)) → Q r H'
theorem ok_kept {f CB : Addr} {fd : FuncData} (F : Fun K "kept" "kept" s_kept f fd) (G : Glob mg) (C_need_book : Cal P w K mg base (L2.CX P w) 5 "need_book" ["book"] (sp_need_book CB))
    (C_are_rising : Cal P w K mg base CX0 2 "are_rising" ["thing", "many"] (sp_are_rising K)) : FnOk P w K mg base CX0 6 f fd ["book", "numbers"] sp_kept := by
  refine F.ok c_kept (fun vs H Q E h => ?_) (fun cdv A0 outer s H vs Q E hr h => ?_)
  · obtain ⟨v, t, b, ns, rfl, _⟩ := h
    rfl
  · obtain ⟨v, t, b, ns, rfl, hd, hb, ht, ha, hl, hn, q⟩ := h
    refine ⟨_, 
      (pss_cons (ps_expr (pe_cal C_need_book hr passL (pa_cons (pv 0) pa_nil)))
      (pss_cons (ps_if (PW.pt (pw_or (pt_not (pt_val (pe_cal C_are_rising hr pass0 (pa_cons (pv 1) (pa_cons (pe_callB (lenS K) (by rfl) G.len PySem.boot_len (pa_cons (pv 0) pa_nil)) pa_nil))))) (pw_or1 (pt_cmpR (eqD K hr.units) (pv 1) (pe_tup pa_nil) (nomark _))))) 
          (pss_one ps_dead) pss_nil)
      (pss_one (ps_ret (pe_tupleOf rfl G.tuple (pe_lc (own := [("number", 2)]) rfl c_kept.nd (pi_tup (pv 1)) (blkOk_by (own := [("number", 2)]) (N := n_kept) (sc := defScope s_kept) (by decide +kernel)) (fun _ _ _ _ _ => (pg_name (i := 2) c_kept.nd rfl (.inl rfl))) (fun _ _ _ _ _ => pts_nil) (fun _ _ _ _ _ => (pe_ix (ixT K) (pv 0) (pv 2) (fun _ _ => rfl))))))))), ?_⟩
    refine ⟨v, rfl, v, _, rfl, hd.av, hb.wid2, fun _ H1 s1 => ?_, no_book hb⟩
    obtain ⟨B, xs, rfl, hB, hs, hxl⟩ := dt_book (hd.mono (Wk.of s1))
    have hbl := hb.len
    refine ⟨.ref t, rfl, .ref B, rfl, B, xs, rfl, .inr (SqT.of hB), t, ns, b.length, by rw [hxl]; rfl, s1 _ _ ht, ha, by omega, fun H2 s2 => ?_⟩
    have s12 := s1.trans s2
    refine ⟨_, rfl, .ref t, rfl, by decide, fun e ne => ?_⟩
    have s3 : Same H (upd H2 e (.tup [])) := s12.trans (same_new ne)
    have d1 : Dp K (upd H2 e (.tup [])) (.ref t) (.tuple (ns.map PyData.int)) := .tup (SqT.of (s3 _ _ ht)) (DtAll.of_ints ns).dp
    have d2 : Dp K (upd H2 e (.tup [])) (.ref e) (.tuple []) := .tup (SqT.of upd_same) .nil
    refine ⟨_, _, d1, d2, shaped_ints ns, shaped_ints [], _, rfl, ?_⟩
    have e2 : PyData.eqv (.tuple (ns.map PyData.int)) (.tuple []) = false := by
      match ns, hn with
      | n :: ns, _ => simp [PyData.eqv, PyData.eqvAll]
    rw [e2]
    have hB3 := same_new (o := HO.tup []) ne _ _ (s2 _ _ hB)
    refine ⟨.ref t, rfl, t, rfl, ⟨_, SqT.of (s3 _ _ ht)⟩, fun D nD => ?_⟩
    refine lcW nD (Wlk.tup (SqT.of (s3 _ _ ht))) (fun i H ys => DtAll H ys ((ofNums b (ns.take i)).map plD)) (fun i H H' ys k e => e.mono k) (by rw [List.length_map]; omega) .nil (fun i x H' ys hi s hx hY Q1 Q2 k1 k2 => ?_) fun H4 ys s4 hD hY => ?_
    · rw [List.getElem?_map] at hx
      cases hz : ns[i]? with
      | none => rw [hz] at hx; cases hx
      | some z =>
        rw [hz] at hx
        cases hx
        have hb2 := ha.2 z (List.mem_of_getElem? hz)
        have hm : b[z.toNat]? = some (b.getD z.toNat []) := by
          rw [List.getD_eq_getElem?_getD, List.getElem?_eq_getElem (by omega)]
          rfl
        obtain ⟨x, hx, hdx⟩ := (hs.mono (Wk.of ((s2.trans (same_new ne)).trans s))).get (i := z.toNat) (d := plD (b.getD z.toNat [])) (by rw [List.getElem?_map, hm]; rfl)
        refine ⟨rfl, .ref B, rfl, .int z, rfl, B, xs, z, x, rfl, rfl, SqT.of (s _ _ hB3), ?_, k1 _ _ (Same.refl _) ?_⟩
        · have := atI_nat (xs := xs) (j := z.toNat) hx
          rwa [Int.toNat_of_nonneg hb2.1] at this
        · rw [ofNums, map_take_next _ hz, List.map_append]
          exact hY.app (.one hdx)
    · rw [List.length_map, List.take_length] at hY
      exact .inl ⟨D, _, rfl, SqL.of hD, fun q' nq => q _ _ ((s3.trans s4).trans (same_new nq)) (.tup upd_same (hY.mono (Wk.of (same_new nq))))⟩
/-- how many of these are at least c -/
def cntGe (l : List Int) (c : Int) : Nat := (l.filter fun z => decide (c ≤ z)).length
theorem cntGe_le (l : List Int) (c : Int) : cntGe l c ≤ l.length := List.length_filter_le _ _
theorem cnt_take {l : List Int} {c : Int} {i : Nat} {z : Int} (h : l[i]? = some z) : cntGe (l.take (i + 1)) c = if c ≤ z then cntGe (l.take i) c + 1 else cntGe (l.take i) c := by
  unfold cntGe
  rw [List.take_add_one, h, List.filter_append, List.length_append]
  by_cases e : c ≤ z
  · rw [if_pos e]
    show _ + (List.filter _ [z]).length = _
    rw [List.filter_cons_of_pos (by simpa using e)]
    rfl
  · rw [if_neg e]
    show _ + (List.filter _ [z]).length = _
    rw [List.filter_cons_of_neg (by simpa using e)]
    rfl
def sp_sure_of : Sp := fun vs H Q _ => ∃ (v : V) (b : List (List Pair)), vs = [v] ∧ Dt H v (bkD b) ∧ Book b ∧ ∀ (r : Int) H', Same H H' → (r = 0 ∨ (1 ≤ r ∧ r ≤ 8 ∧ 2 * r - 1 ≤ cntGe (szs b) r)) → Q (.int r) H'
theorem ok_sure_of {f : Addr} {fd : FuncData} (F : Fun K "sure_of" "sure_of" s_sure_of f fd) (G : Glob mg) : FnOk P w K mg base CX0 6 f fd ["book"] sp_sure_of := by
  refine F.ok c_sure_of (fun vs H Q E h => ?_) (fun cdv A0 outer s H vs Q E hr h => ?_)
  · obtain ⟨v, b, rfl, _⟩ := h
    rfl
  · obtain ⟨v, b, rfl, hd, hb, q⟩ := h
    refine ⟨_, 
      (pss_cons (ps_set (i := 1) c_sure_of.nd rfl (.inl rfl) pe_int)
      (pss_cons (ps_for PassesOwn.never rfl (pi_range2 rfl G.range (pa_cons pe_int (pa_cons (pe_op op_add (pe_mn G) pe_int) pa_nil))) (pg_name (i := 2) c_sure_of.nd rfl (.inr rfl)) 
          (pss_one (ps_if (pt_cmpR op_ge (pe_callB (lenS K) (by rfl) G.len PySem.boot_len (pa_cons (pe_lc (own := [("plan", 3)]) rfl c_sure_of.nd (pi_tup (pv 0)) (blkOk_by (own := [("plan", 3)]) (N := n_sure_of) (sc := defScope s_sure_of) (by decide +kernel)) (fun _ _ _ _ _ => (pg_name (i := 3) c_sure_of.nd rfl (.inl rfl))) (fun _ _ _ _ _ => (pts_one (pt_cmpR op_ge (pe_callB (lenS K) (by rfl) G.len PySem.boot_len (pa_cons (pv 3) pa_nil)) (pv 2) (nomark _)))) (fun _ _ _ _ _ => (pv 3))) pa_nil)) (pe_op op_sub (pe_op op_mul pe_int (pv 2)) pe_int) (nomark _)) 
              (pss_one (ps_set (i := 1) c_sure_of.nd rfl (.inl rfl) (pv 2))) pss_nil)))
      (pss_one (ps_ret (pv 1))))), ?_⟩
    obtain ⟨B, xs, rfl, hB, hs, hxl⟩ := dt_book hd
    have hbl := hb.len
    refine ⟨7, 2, rfl, rfl, 1, 9, rfl, by decide, ?_⟩
    refine for_range (fun i σ H' => ∃ (r : Int) (x y : Option V), σ = [some (.ref B), some (.int r), x, y] ∧ Same H H' ∧ (r = 0 ∨ (1 ≤ r ∧ r ≤ 8 ∧ 2 * r - 1 ≤ cntGe (szs b) r))) ⟨0, _, _, rfl, Same.refl _, .inl rfl⟩ (fun i σ H1 hi hP => ?_) fun σ H1 hP => ?_
    · obtain ⟨r, x, y, rfl, s1, hr1⟩ := hP
      have hi : i < 8 := hi
      have hB1 := s1 _ _ hB
      refine ⟨.ref B, rfl, B, rfl, ⟨xs, SqT.of hB1⟩, fun D nD => ?_⟩
      refine lcW nD (Wlk.tup (SqT.of hB1)) (fun j H ys => ys.length = cntGe ((szs b).take j) (1 + i)) (fun _ H H' ys _ e => e) (by omega) rfl (fun j x H' ys hj s hx hY Q1 Q2 k1 k2 => ?_) fun H2 ys s2 hD hY => ?_
      · obtain ⟨m, hm, hdm⟩ := ((hs.mono (Wk.of s1)).mono (Wk.of s)).plan hx
        obtain ⟨t2, zs, rfl, ht2, _, hz⟩ := dt_plan hdm
        have hc := cnt_take (c := 1 + (i : Int)) (show (szs b)[j]? = some (m.length : Int) by rw [List.getElem?_map, hm]; rfl)
        refine ⟨rfl, .ref t2, rfl, t2, zs, rfl, .inr (SqT.of ht2), .int (1 + (i : Int)), rfl, zs.length, 1 + i, rfl, rfl, _, rfl, ite2 (fun e => ?_) (fun e => ?_)⟩
        · have e : 1 + (i : Int) ≤ (zs.length : Int) := of_decide_eq_true e
          refine ⟨.ref t2, rfl, k1 _ _ (Same.refl _) ?_⟩
          rw [hc, if_pos (by omega), List.length_append, hY]
          rfl
        · have e : ¬ 1 + (i : Int) ≤ (zs.length : Int) := fun z => e (decide_eq_true z)
          refine k2 _ (Same.refl _) ?_
          rw [hc, if_neg (by omega), hY]
      · rw [hxl, show b.length = (szs b).length from (List.length_map ..).symm, List.take_length] at hY
        refine ⟨D, ys, rfl, .inl (SqL.of hD), .int (1 + (i : Int)), rfl, 2, 1 + i, rfl, rfl, by unfold CMul; omega, _, 1, rfl, rfl, ys.length, _, rfl, rfl, _, rfl, ite2 (fun e => ?_) (fun e => ?_)⟩
        · have e : 2 * (1 + (i : Int)) - 1 ≤ (ys.length : Int) := of_decide_eq_true e
          refine ⟨.int (1 + (i : Int)), rfl, 1 + i, _, _, rfl, s1.trans s2, .inr ?_⟩
          rw [← hY]
          omega
        · exact ⟨r, _, _, rfl, s1.trans s2, hr1⟩
    · obtain ⟨r, x, y, rfl, s1, hr1⟩ := hP
      exact ⟨.int r, rfl, q r H1 s1 hr1⟩
theorem ok_sure {f CB : Addr} {fd : FuncData} (F : Fun K "sure" "sure" s_sure f fd) (G : Glob mg) (C_need_book : Cal P w K mg base (L2.CX P w) 5 "need_book" ["book"] (sp_need_book CB)) (C_sure_of : Cal P w K mg base CX0 6 "sure_of" ["book"] sp_sure_of) : FnOk P w K mg base CX0 7 f fd ["book"] sp_sure_of := by
  refine F.ok c_sure (fun vs H Q E h => ?_) (fun cdv A0 outer s H vs Q E hr h => ?_)
  · obtain ⟨v, b, rfl, _⟩ := h
    rfl
  · obtain ⟨v, b, rfl, hd, hb, q⟩ := h
    refine ⟨_, 
      (pss_cons (ps_expr (pe_cal C_need_book hr passL (pa_cons (pv 0) pa_nil)))
      (pss_one (ps_ret (pe_cal C_sure_of hr pass0 (pa_cons (pv 0) pa_nil))))), ?_⟩
    refine ⟨v, rfl, v, _, rfl, hd.av, hb.wid2, fun _ H1 s1 => ?_, no_book hb⟩
    exact ⟨v, rfl, v, b, rfl, hd.mono (Wk.of s1), hb, fun r H2 s2 hr2 => q r H2 (s1.trans s2) hr2⟩
end
end Pk
set_option maxHeartbeats 1000000
namespace Pk
open PySem PySem.Spec PyProof.Rows L2
/-- the sizes ns rise to n -/
def Rises (ns : List Int) (n : Int) : Prop := ∀ c, 1 ≤ c → c ≤ n → 2 * n - c ≤ cntGe ns c
theorem cntGe_mono (ns : List Int) {c d : Int} (h : c ≤ d) : cntGe ns d ≤ cntGe ns c := by
  unfold cntGe
  induction ns with
  | nil => exact Nat.le_refl _
  | cons z ns ih =>
    by_cases hd : d ≤ z
    · rw [List.filter_cons_of_pos (by simpa using hd), List.filter_cons_of_pos (by simp; omega)]
      exact Nat.succ_le_succ ih
    · rw [List.filter_cons_of_neg (by simpa using hd)]
      by_cases hc : c ≤ z
      · rw [List.filter_cons_of_pos (by simpa using hc)]
        exact Nat.le_succ_of_le ih
      · rw [List.filter_cons_of_neg (by simpa using hc)]
        exact ih
theorem Rises.mono {ns : List Int} {m n : Int} (h : Rises ns n) (l : m ≤ n) : Rises ns m := fun c h1 h2 => by
  have := h c h1 (by omega)
  omega
theorem Rises.of_sure {ns : List Int} {r : Int} (h : 2 * r - 1 ≤ cntGe ns r) : Rises ns r := fun c h1 h2 => by
  have := cntGe_mono ns h2
  omega
def okSizes (ns : List Int) : Prop := (1 ≤ ns.length ∧ ns.length ≤ 16) ∧ ∀ z, z ∈ ns → 0 ≤ z ∧ z ≤ 8
def sp_need_sizes : Sp := fun vs H Q _ => ∃ (t : Addr) (ns : List Int), vs = [.ref t] ∧ H t = some (.tup (ns.map V.int)) ∧ okSizes ns ∧ ∀ H', Same H H' → Q .non H'
def sp_are_sizes : Sp := fun vs H Q _ => ∃ (t : Addr) (ns : List Int), vs = [.ref t] ∧ H t = some (.tup (ns.map V.int)) ∧ okSizes ns ∧ ∀ H', Same H H' → Q (.bl true) H'
def sp_need_pairs (CN : Addr) : Sp := fun vs H Q E => ∃ (v : V) (a : A), vs = [v] ∧ Av H v a ∧ (a.bet 1 8 = true → Q .non H) ∧ (a.bet 1 8 = false → E (.ref CN) none H)
def sp_lack_at (K : PySem.W.Frag) : Sp := fun vs H Q _ => ∃ (a : Addr) (ns : List Int) (n c : Int), vs = [.ref a, .int n, .int c] ∧ (SqL K H a (ns.map V.int) ∨ SqT K H a (ns.map V.int)) ∧ ns.length ≤ 100 ∧ (0 ≤ n ∧ n ≤ 100) ∧
  ∀ H', Same H H' → Q (.int (2 * n - c - cntGe ns c)) H'
def sp_first_short (K : PySem.W.Frag) : Sp := fun vs H Q _ => ∃ (a : Addr) (ns : List Int) (n : Int), vs = [.ref a, .int n] ∧ (SqL K H a (ns.map V.int) ∨ SqT K H a (ns.map V.int)) ∧ ns.length ≤ 100 ∧ (0 ≤ n ∧ n ≤ 100) ∧
  (∀ H', Same H H' → Rises ns n → Q .non H') ∧ (∀ H' c, Same H H' → ¬ Rises ns n → Q (.int c) H')
def sp_rises : Sp := fun vs H Q _ => ∃ (t : Addr) (ns : List Int) (n : Int), vs = [.ref t, .int n] ∧ H t = some (.tup (ns.map V.int)) ∧ okSizes ns ∧ (1 ≤ n ∧ n ≤ 8) ∧ ∀ H' b, Same H H' → (b = true ↔ Rises ns n) → Q (.bl b) H'
def sp_rises_to : Sp := fun vs H Q _ => ∃ (t : Addr) (ns : List Int), vs = [.ref t] ∧ H t = some (.tup (ns.map V.int)) ∧ okSizes ns ∧ ∀ H' (n : Int), Same H H' → (0 ≤ n ∧ n ≤ 8) → Rises ns n → (n = 8 ∨ ¬ Rises ns (n + 1)) → Q (.int n) H'
theorem Rises.zero (ns : List Int) : Rises ns 0 := fun c h1 h2 => by omega
theorem seq_ints {K : PySem.W.Frag} {H H' : Hp} {a : Addr} {xs : List V} (h : SqL K H a xs ∨ SqT K H a xs) (s : Same H H') : SqL K H' a xs ∨ SqT K H' a xs := h.imp s.seq (same_t s)
section
variable {P : Program} {w : World} {K : PySem.W.Frag} {mg : Str → Option Value} {base : Heap}
theorem ok_are_sizes {f : Addr} {fd : FuncData} (F : Fun K "are_sizes" "are_sizes" s_are_sizes f fd) (G : Glob mg) (C_is_between : Cal P w K mg base CX0 1 "is_between" ["thing", "low", "high"] sp_is_between) :
    FnOk P w K mg base CX0 2 f fd ["thing"] sp_are_sizes := by
  refine F.ok c_are_sizes (fun vs H Q E h => ?_) (fun cdv A0 outer s H vs Q E hr h => ?_)
  · obtain ⟨t, ns, rfl, _⟩ := h
    rfl
  · obtain ⟨t, ns, rfl, ht, ha, q⟩ := h
    refine ⟨_, 
      (pss_cons (ps_if (PW.pt (pw_or (pt_not (pt_val (pe_callB (isiK K) (by rfl) G.isinstance boot_isinstance (pa_cons (pv 0) (pa_cons (pe_ty "tuple" G.tuple) pa_nil))))) (pw_or1 (pt_not (pt_chain op_le op_le pe_int (pe_callB (lenS K) (by rfl) G.len PySem.boot_len (pa_cons (pv 0) pa_nil)) (pe_mp G)))))) 
          (pss_one (ps_ret pe_bl)) pss_nil)
      (pss_one (ps_ret (pe_callB (cr_all rfl) (by rfl) G.all PyProof.Rows.boot_all (pa_cons (pe_lc (own := [("item", 1)]) rfl c_are_sizes.nd (pi_tup (pv 0)) (blkOk_by (own := [("item", 1)]) (N := n_are_sizes) (sc := defScope s_are_sizes) (by decide +kernel)) (fun _ _ _ _ _ => (pg_name (i := 1) c_are_sizes.nd rfl (.inl rfl))) (fun _ _ _ _ _ => pts_nil) (fun _ _ _ _ _ => (pe_cal C_is_between hr pass0 (pa_cons (pv 1) (pa_cons pe_int (pa_cons (pe_op op_add (pe_mn G) pe_int) pa_nil)))))) pa_nil))))), ?_⟩
    obtain ⟨T, hT, hb⟩ := (Av.tup ht (DtAll.of_ints ns).av).isiT (K := K)
    have hl := ha.1
    have hxl : (ns.map V.int).length = ns.length := List.length_map ..
    refine ⟨.ref t, rfl, .ref t, .ty "tuple", T, .type "tuple", _, rfl, .ty _, hT, hb, _, rfl, ?_⟩
    refine ⟨.ref t, rfl, t, _, rfl, .inr (SqT.of ht), 1, _, rfl, rfl, _, rfl, ?_⟩
    rw [show decide ((1 : Int) ≤ ((ns.map V.int).length : Int)) = true from decide_eq_true (by omega)]
    refine ⟨_, _, rfl, rfl, _, rfl, ?_⟩
    rw [show decide (((ns.map V.int).length : Int) ≤ 16) = true from decide_eq_true (by omega)]
    refine ⟨.ref t, rfl, t, rfl, ⟨_, SqT.of ht⟩, fun D nD => ?_⟩
    refine lcW nD (Wlk.tup (SqT.of ht)) (fun i H ys => ∃ n, ys = (List.replicate n true).map V.bl) (fun i H H' ys _ e => e) (by omega) ⟨0, rfl⟩ (fun i x H' ys hi s hx hY Q1 Q2 k1 k2 => ?_) fun H1 ys s1 hD hY => ?_
    · obtain ⟨k, rfl⟩ := hY
      rw [List.getElem?_map] at hx
      cases hz : ns[i]? with
      | none => rw [hz] at hx; cases hx
      | some z =>
        rw [hz] at hx
        cases hx
        have hb2 := ha.2 z (List.mem_of_getElem? hz)
        refine ⟨rfl, .int z, rfl, 7, 1, rfl, rfl, .int z, .int z, 0, 8, rfl, .int z, k1 _ _ (Same.refl _) ⟨k + 1, ?_⟩⟩
        have e : (A.int z).bet 0 8 = true := by
          show (decide (0 ≤ z) && decide (z ≤ 8)) = true
          rw [decide_eq_true hb2.1, decide_eq_true hb2.2]
          rfl
        rw [e, List.replicate_succ', List.map_append]
        rfl
    · obtain ⟨k, rfl⟩ := hY
      refine ⟨D, _, rfl, SqL.of hD, ?_⟩
      have e : (List.replicate k true).all id = true := by simp
      rw [e]
      exact q _ s1
theorem ok_need_sizes {f : Addr} {fd : FuncData} (F : Fun K "need_sizes" "need_sizes" s_need_sizes f fd) (G : Glob mg) (C_are_sizes : Cal P w K mg base CX0 2 "are_sizes" ["thing"] sp_are_sizes) : FnOk P w K mg base CX0 3 f fd ["thing"] sp_need_sizes := by
  refine F.ok c_need_sizes (fun vs H Q E h => ?_) (fun cdv A0 outer s H vs Q E hr h => ?_)
  · obtain ⟨t, ns, rfl, _⟩ := h
    rfl
  · obtain ⟨t, ns, rfl, ht, ha, q⟩ := h
    refine ⟨_, 
      (pss_one (ps_if (pt_not (pt_val (pe_cal C_are_sizes hr pass0 (pa_cons (pv 0) pa_nil)))) 
          (pss_one ps_dead) pss_nil)), ?_⟩
    exact ⟨.ref t, rfl, t, ns, rfl, ht, ha, fun H1 s1 => ⟨_, rfl, q H1 s1⟩⟩
theorem ok_need_pairs {f CN : Addr} {fd : FuncData} (F : Fun K "need_pairs" "need_pairs" s_need_pairs f fd) (G : Glob mg) (X_BadNumber : XcF K mg "BadNumber" CN) (C_is_between : Cal P w K mg base CX0 1 "is_between" ["thing", "low", "high"] sp_is_between) :
    FnOk P w K mg base (L2.CX P w) 2 f fd ["number"] (sp_need_pairs CN) := by
  refine F.okX c_need_pairs (fun vs H Q E h => ?_) (fun cdv A0 outer s H vs Q E hr h => ?_)
  · obtain ⟨v, a, rfl, _⟩ := h
    rfl
  · obtain ⟨v, a, rfl, ha, q, e⟩ := h
    refine ⟨_, 
      (pss_one (ps_if (pt_not (pt_val (pe_cal C_is_between hr pass0 (pa_cons (pv 0) (pa_cons pe_int (pa_cons (pe_op op_add (pe_mn G) pe_int) pa_nil)))))) 
          (pss_one (ps_raise rfl (takes_of rfl rfl rfl rfl) (pmk_own PySem.F.excBase_ValueError X_BadNumber.ex X_BadNumber.g X_BadNumber.kp (raises_own X_BadNumber.b X_BadNumber.t) rfl))) pss_nil)), ?_⟩
    refine ⟨v, rfl, 7, 1, rfl, rfl, v, a, 1, 8, rfl, ha, _, rfl, ?_⟩
    cases hb : a.bet 1 8 with
    | true => exact q hb
    | false => exact e hb
theorem ok_lack_at {f : Addr} {fd : FuncData} (F : Fun K "lack_at" "lack_at" s_lack_at f fd) (G : Glob mg) : FnOk P w K mg base CX0 1 f fd ["sizes", "number", "least"] (sp_lack_at K) := by
  refine F.ok c_lack_at (fun vs H Q E h => ?_) (fun cdv A0 outer s H vs Q E hr h => ?_)
  · obtain ⟨a, ns, n, c, rfl, _⟩ := h
    rfl
  · obtain ⟨a, ns, n, c, rfl, hs, hl, hn, q⟩ := h
    refine ⟨_, 
      (pss_one (ps_ret (pe_op op_sub (pe_op op_sub (pe_op op_mul pe_int (pv 1)) (pv 2)) (pe_callB (lenS K) (by rfl) G.len PySem.boot_len (pa_cons (pe_lc (own := [("size", 3)]) rfl c_lack_at.nd (pi_seq (pv 0)) (blkOk_by (own := [("size", 3)]) (N := n_lack_at) (sc := defScope s_lack_at) (by decide +kernel)) (fun _ _ _ _ _ => (pg_name (i := 3) c_lack_at.nd rfl (.inl rfl))) (fun _ _ _ _ _ => (pts_one (pt_cmpR op_ge (pv 3) (pv 2) (nomark _)))) (fun _ _ _ _ _ => (pv 3))) pa_nil))))), ?_⟩
    have hxl : (ns.map V.int).length = ns.length := List.length_map ..
    refine ⟨.int n, rfl, 2, n, rfl, rfl, by unfold CMul; omega, .int c, rfl, _, c, rfl, rfl, .ref a, rfl, a, _, rfl, hs, fun J W D nD => ?_⟩
    refine lcW nD W (fun j H ys => ys.length = cntGe (ns.take j) c) (fun _ H H' ys _ e => e) (by omega) rfl (fun j x H' ys hj s hx hY Q1 Q2 k1 k2 => ?_) fun H2 ys s2 hD hY => ?_
    · rw [List.getElem?_map] at hx
      cases hz : ns[j]? with
      | none => rw [hz] at hx; cases hx
      | some z =>
        rw [hz] at hx
        cases hx
        have hc := cnt_take (c := c) hz
        refine ⟨rfl, .int z, rfl, .int c, rfl, z, c, rfl, rfl, _, rfl, ite2 (fun e => ?_) (fun e => ?_)⟩
        · have e : c ≤ z := of_decide_eq_true e
          refine ⟨.int z, rfl, k1 _ _ (Same.refl _) ?_⟩
          rw [hc, if_pos e, List.length_append, hY]
          rfl
        · have e : ¬ c ≤ z := fun z => e (decide_eq_true z)
          refine k2 _ (Same.refl _) ?_
          rw [hc, if_neg e, hY]
    · rw [hxl, List.take_length] at hY
      refine ⟨D, ys, rfl, .inl (SqL.of hD), _, _, rfl, rfl, ?_⟩
      rw [hY]
      exact q _ s2
theorem ok_first_short {f : Addr} {fd : FuncData} (F : Fun K "first_short" "first_short" s_first_short f fd) (G : Glob mg) (C_lack_at : Cal P w K mg base CX0 1 "lack_at" ["sizes", "number", "least"] (sp_lack_at K)) : FnOk P w K mg base CX0 2 f fd ["sizes", "number"] (sp_first_short K) := by
  refine F.ok c_first_short (fun vs H Q E h => ?_) (fun cdv A0 outer s H vs Q E hr h => ?_)
  · obtain ⟨a, ns, n, rfl, _⟩ := h
    rfl
  · obtain ⟨a, ns, n, rfl, hs, hl, hn, q1, q2⟩ := h
    refine ⟨_, 
      (pss_cons (ps_for PassesOwn.never rfl (pi_range2 rfl G.range (pa_cons pe_int (pa_cons (pe_op op_add (pv 1) pe_int) pa_nil))) (pg_name (i := 2) c_first_short.nd rfl (.inl rfl)) 
          (pss_one (ps_if (pt_cmpR op_gt (pe_cal C_lack_at hr pass0 (pa_cons (pv 0) (pa_cons (pv 1) (pa_cons (pv 2) pa_nil)))) pe_int (nomark _)) 
              (pss_one (ps_ret (pv 2))) pss_nil)))
      (pss_one (ps_ret pe_non))), ?_⟩
    refine ⟨.int n, rfl, n, 1, rfl, rfl, 1, n + 1, rfl, by omega, ?_⟩
    refine for_range (fun i σ H' => ∃ (x : Option V), σ = [some (.ref a), some (.int n), x] ∧ Same H H' ∧ ∀ c, 1 ≤ c → c ≤ (i : Int) → 2 * n - c ≤ cntGe ns c) ⟨_, rfl, Same.refl _, fun c h1 h2 => absurd h2 (by omega)⟩ (fun i σ H1 hi hP => ?_) fun σ H1 hP => ?_
    · obtain ⟨x, rfl, s1, hc⟩ := hP
      refine ⟨.ref a, rfl, .int n, rfl, .int (1 + (i : Int)), rfl, a, ns, n, 1 + i, rfl, seq_ints hs s1, hl, hn, fun H2 s2 => ?_⟩
      refine ⟨_, 0, rfl, rfl, _, rfl, ite2 (fun e => ?_) (fun e => ?_)⟩
      · have e : 0 < 2 * n - (1 + (i : Int)) - cntGe ns (1 + i) := of_decide_eq_true e
        refine ⟨.int (1 + (i : Int)), rfl, q2 _ _ (s1.trans s2) fun r => ?_⟩
        have := r (1 + i) (by omega) (by omega)
        omega
      · have e : ¬ 0 < 2 * n - (1 + (i : Int)) - cntGe ns (1 + i) := fun z => e (decide_eq_true z)
        refine ⟨_, rfl, s1.trans s2, fun c h1 h2 => ?_⟩
        by_cases hci : c ≤ (i : Int)
        · exact hc c h1 hci
        · have : c = 1 + (i : Int) := by omega
          subst this
          omega
    · obtain ⟨x, rfl, s1, hc⟩ := hP
      exact q1 _ s1 fun c h1 h2 => hc c h1 (by omega)
theorem ok_rises {f CN : Addr} {fd : FuncData} (F : Fun K "rises" "rises" s_rises f fd) (G : Glob mg) (C_need_sizes : Cal P w K mg base CX0 3 "need_sizes" ["thing"] sp_need_sizes) (C_need_pairs : Cal P w K mg base (L2.CX P w) 2 "need_pairs" ["number"] (sp_need_pairs CN))
    (C_first_short : Cal P w K mg base CX0 2 "first_short" ["sizes", "number"] (sp_first_short K)) : FnOk P w K mg base CX0 4 f fd ["sizes", "number"] sp_rises := by
  refine F.ok c_rises (fun vs H Q E h => ?_) (fun cdv A0 outer s H vs Q E hr h => ?_)
  · obtain ⟨t, ns, n, rfl, _⟩ := h
    rfl
  · obtain ⟨t, ns, n, rfl, ht, ha, hn, q⟩ := h
    refine ⟨_, 
      (pss_cons (ps_expr (pe_cal C_need_sizes hr pass0 (pa_cons (pv 0) pa_nil)))
      (pss_cons (ps_expr (pe_cal C_need_pairs hr passL (pa_cons (pv 1) pa_nil)))
      (pss_one (ps_ret (pe_cmpR op_isN (pe_cal C_first_short hr pass0 (pa_cons (pv 0) (pa_cons (pv 1) pa_nil))) pe_non (nomark _)))))), ?_⟩
    have e : (A.int n).bet 1 8 = true := by
      show (decide (1 ≤ n) && decide (n ≤ 8)) = true
      rw [decide_eq_true hn.1, decide_eq_true hn.2]
      rfl
    have hl := ha.1
    refine ⟨.ref t, rfl, t, ns, rfl, ht, ha, fun H1 s1 => ?_⟩
    refine ⟨.int n, rfl, .int n, .int n, rfl, .int n, fun _ => ?_, fun z => absurd z (by rw [e]; decide)⟩
    refine ⟨.ref t, rfl, .int n, rfl, t, ns, n, rfl, .inr (SqT.of (s1 _ _ ht)), by omega, by omega, fun H2 s2 r => ?_, fun H2 c s2 r => ?_⟩
    · exact ⟨rfl, q _ _ (s1.trans s2) ⟨fun _ => r, fun _ => rfl⟩⟩
    · exact ⟨rfl, q _ _ (s1.trans s2) ⟨fun z => V.noConfusion (of_decide_eq_true z), fun z => absurd z r⟩⟩
theorem ok_rises_to {f : Addr} {fd : FuncData} (F : Fun K "rises_to" "rises_to" s_rises_to f fd) (G : Glob mg) (C_need_sizes : Cal P w K mg base CX0 3 "need_sizes" ["thing"] sp_need_sizes)
    (C_first_short : Cal P w K mg base CX0 2 "first_short" ["sizes", "number"] (sp_first_short K)) : FnOk P w K mg base CX0 4 f fd ["sizes"] sp_rises_to := by
  refine F.ok c_rises_to (fun vs H Q E h => ?_) (fun cdv A0 outer s H vs Q E hr h => ?_)
  · obtain ⟨t, ns, rfl, _⟩ := h
    rfl
  · obtain ⟨t, ns, rfl, ht, ha, q⟩ := h
    refine ⟨_, 
      (pss_cons (ps_expr (pe_cal C_need_sizes hr pass0 (pa_cons (pv 0) pa_nil)))
      (pss_cons (ps_set (i := 1) c_rises_to.nd rfl (.inl rfl) pe_int)
      (pss_cons (ps_while PassesOwn.never (PW.pt (pw_and (pt_cmpR op_le (pv 1) (pe_mn G) (nomark _)) (pw_and1 (pt_cmpR op_isN (pe_cal C_first_short hr pass0 (pa_cons (pv 0) (pa_cons (pe_op op_add (pv 1) pe_int) pa_nil))) pe_non (nomark _))))) 
          (pss_one (ps_set (i := 1) c_rises_to.nd rfl (.inl rfl) (pe_op op_add (pv 1) pe_int))))
      (pss_one (ps_ret (pv 1)))))), ?_⟩
    have hl := ha.1
    refine ⟨.ref t, rfl, t, ns, rfl, ht, ha, fun H1 s1 => ?_⟩
    refine ⟨fun m σ H' => ∃ r : Int, m = (8 - r).toNat ∧ σ = [some (.ref t), some (.int r)] ∧ Same H H' ∧ (0 ≤ r ∧ r ≤ 8) ∧ Rises ns r, ⟨_, 0, rfl, rfl, s1, by omega, Rises.zero ns⟩, fun m σ H2 hw => ?_⟩
    obtain ⟨r, rfl, rfl, s2, hr8, hrise⟩ := hw
    refine ⟨.int r, rfl, r, 7, rfl, rfl, _, rfl, ?_⟩
    by_cases h7 : r ≤ 7
    · rw [decide_eq_true h7]
      refine ⟨.ref t, rfl, .int r, rfl, r, 1, rfl, rfl, t, ns, r + 1, rfl, .inr (SqT.of (s2 _ _ ht)), by omega, by omega, fun H3 s3 rs => ?_, fun H3 c s3 rs => ?_⟩
      · refine ⟨rfl, _, rfl, ?_⟩
        refine ⟨fun σ' H' => σ' = [some (.ref t), some (.int (r + 1))] ∧ Same H H', fun σ' H' hn => ⟨_, ?_, r + 1, rfl, hn.1, hn.2, by omega, rs⟩, .int r, rfl, r, 1, rfl, rfl, rfl, s2.trans s3⟩
        omega
      · exact ⟨rfl, _, rfl, .int r, rfl, q _ _ (s2.trans s3) hr8 hrise (.inr rs)⟩
    · rw [decide_eq_false h7]
      exact ⟨.int r, rfl, q _ _ s2 hr8 hrise (.inl (by omega))⟩
end
end Pk
set_option maxHeartbeats 1000000
/-! Picks as dicts. -/
namespace Pk
open PySem PySem.Spec PyProof.Rows L2
/-! ### tuples alone are kept -/
abbrev Tk (H H' : Hp) : Prop := ∀ a xs, H a = some (HO.tup xs) → H' a = some (HO.tup xs)
theorem Wk.tk {H H' : Hp} (w : Wk H H') : Tk H H' := w.tup
theorem tk_same {H H' : Hp} (s : Same H H') : Tk H H' := fun _ _ h => s _ _ h
mutual
theorem Dt.tmono {H H' : Hp} (k : Tk H H') : ∀ {v : V} {d : PyData}, Dt H v d → Dt H' v d
  | _, _, .non => .non
  | _, _, .bl b => .bl b
  | _, _, .int i => .int i
  | _, _, .str x => .str x
  | _, _, .tup h hs => .tup (k _ _ h) (DtAll.tmono k hs)
theorem DtAll.tmono {H H' : Hp} (k : Tk H H') : ∀ {vs : List V} {ds : List PyData}, DtAll H vs ds → DtAll H' vs ds
  | _, _, .nil => .nil
  | _, _, .cons h hs => .cons (Dt.tmono k h) (DtAll.tmono k hs)
end
/-! ### a thing is locked for a while -/
theorem tk_lock {H : Hp} {d : Addr} {u f : HO} (h : H d = some u) (n : ∀ xs, u ≠ .tup xs) : Tk H (upd H d f) := fun a xs e => by
  rw [upd_ne (ne_of e h fun z => n xs z.symm)]
  exact e
theorem same_unlock {H H' : Hp} {d : Addr} {u f : HO} (h : H d = some u) (s : Same (upd H d f) H') : Same H (upd H' d u) := fun a o e => by
  by_cases q : a = d
  · rw [q, upd_same, ← h, ← q, e]
  · rw [upd_ne q]
    exact s a o (by rw [upd_ne q]; exact e)
theorem new_lock {H : Hp} {d D : Addr} {f : HO} (n : upd H d f D = none) : D ≠ d ∧ H D = none := by
  by_cases q : D = d
  · rw [q, upd_same] at n
    cases n
  · rw [upd_ne q] at n
    exact ⟨q, n⟩
/-! ### picks -/
abbrev ikey (n : Nat) : Key := .inl (n : Int)
inductive Dk (H : Hp) : List (Key × V) → List Trip → Prop
  | nil : Dk H [] []
  | cons {t : Trip} {v : V} {kvs : List (Key × V)} {R : List Trip} : Dt H v (prD t.2) → Dk H kvs R → Dk H ((ikey t.1, v) :: kvs) (t :: R)
theorem ikey_inj {m n : Nat} (h : ikey m = ikey n) : m = n := by
  have e : (m : Int) = n := Sum.inl.inj h
  omega
theorem Dk.tmono {H H' : Hp} {kvs : List (Key × V)} {R : List Trip} (k : Tk H H') (h : Dk H kvs R) : Dk H' kvs R := by
  induction h with
  | nil => exact .nil
  | cons h1 _ ih => exact .cons (h1.tmono k) ih
theorem Dk.len {H : Hp} {kvs : List (Key × V)} {R : List Trip} (h : Dk H kvs R) : kvs.length = R.length := by
  induction h with
  | nil => rfl
  | cons _ _ ih => rw [List.length_cons, List.length_cons, ih]
theorem Dk.keys {H : Hp} {kvs : List (Key × V)} {R : List Trip} (h : Dk H kvs R) : kvs.map (·.1) = (R.map fun t => (t.1 : Int)).map Sum.inl := by
  induction h with
  | nil => rfl
  | cons _ _ ih => rw [List.map_cons, List.map_cons, List.map_cons, ih]
theorem Dk.at {H : Hp} {kvs : List (Key × V)} {R : List Trip} (h : Dk H kvs R) {i : Nat} {k : Key} {v : V} (e : kvs[i]? = some (k, v)) : ∃ t, R[i]? = some t ∧ k = ikey t.1 ∧ Dt H v (prD t.2) := by
  induction h generalizing i with
  | nil => simp at e
  | @cons t v' kvs R h1 _ ih =>
    cases i with
    | zero =>
      simp at e
      obtain ⟨e1, e2⟩ := e
      exact ⟨t, rfl, e1.symm, e2 ▸ h1⟩
    | succ i =>
      obtain ⟨t', h3, h4⟩ := ih (i := i) (by simpa using e)
      exact ⟨t', by simpa using h3, h4⟩
theorem Dk.miss {H : Hp} {kvs : List (Key × V)} {R : List Trip} (h : Dk H kvs R) {n : Nat} (hn : n ∉ R.map (·.1)) : valV kvs (ikey n) = none := by
  induction h with
  | nil => rfl
  | @cons t v kvs R h1 _ ih =>
    rw [List.map_cons, List.mem_cons] at hn
    rw [valV_neg (p := (ikey t.1, v)) (k := ikey n) fun e => hn (.inl (ikey_inj e).symm)]
    exact ih fun m => hn (.inr m)
theorem Dk.get {H : Hp} {kvs : List (Key × V)} {R : List Trip} (h : Dk H kvs R) (hn : (R.map (·.1)).Nodup) {t : Trip} (ht : t ∈ R) : ∃ v, valV kvs (ikey t.1) = some v ∧ Dt H v (prD t.2) := by
  induction h with
  | nil => exact absurd ht List.not_mem_nil
  | @cons t' v kvs R h1 _ ih =>
    rw [List.map_cons, List.nodup_cons] at hn
    rcases List.mem_cons.mp ht with rfl | ht
    · exact ⟨v, valV_pos rfl, h1⟩
    · rw [valV_neg (p := (ikey t'.1, v)) (k := ikey t.1) fun e => hn.1 ((ikey_inj e) ▸ List.mem_map.mpr ⟨t, ht, rfl⟩)]
      exact ih hn.2 ht
theorem Dk.has {H : Hp} {kvs : List (Key × V)} {R : List Trip} (h : Dk H kvs R) (n : Nat) : (valV kvs (ikey n)).isSome = decide (n ∈ R.map (·.1)) := by
  induction h with
  | nil => rfl
  | @cons t v kvs R h1 _ ih =>
    by_cases e : t.1 = n
    · rw [valV_pos (by show ikey t.1 = ikey n; rw [e])]
      exact (decide_eq_true (by rw [List.map_cons, e]; exact List.mem_cons_self)).symm
    · rw [valV_neg (p := (ikey t.1, v)) (k := ikey n) fun z => e (ikey_inj z), ih, Bool.eq_iff_iff, decide_eq_true_iff, decide_eq_true_iff, List.map_cons, List.mem_cons]
      exact ⟨.inr, fun q => q.elim (fun z => absurd z.symm e) id⟩
theorem Dk.snoc {H : Hp} {kvs : List (Key × V)} {R : List Trip} (h : Dk H kvs R) {t : Trip} {v : V} (hv : Dt H v (prD t.2)) (hn : t.1 ∉ R.map (·.1)) : Dk H (putK kvs (ikey t.1) v) (R ++ [t]) := by
  rw [putK_new v (h.miss hn)]
  clear hn
  induction h with
  | nil => exact .cons hv .nil
  | cons h1 _ ih => exact .cons h1 ih
/-- a pick of the book -/
abbrev MB (b : List (List Pair)) (i : Nat) : List Pair := b.getD i []
abbrev PickOk (b : List (List Pair)) (R : List Trip) : Prop := Rain (MB b) (fun i => i < b.length) R
theorem PickOk.nil (b : List (List Pair)) : PickOk b [] := ⟨List.nodup_nil, List.nodup_nil, List.nodup_nil, fun _ m => absurd m List.not_mem_nil⟩
theorem Rain.sub {M : Nat → List Pair} {S : Nat → Prop} {R R' : List Trip} (h : Rain M S R) (s : R'.Sublist R) : Rain M S R' :=
  ⟨h.num.sublist (s.map _), h.per.sublist (s.map _), h.dsk.sublist (s.map _), fun t m => h.mem t (s.subset m)⟩
theorem Rain.perm {M : Nat → List Pair} {S : Nat → Prop} {R R' : List Trip} (h : Rain M S R) (p : R'.Perm R) : Rain M S R' :=
  ⟨(p.map _).nodup_iff.mpr h.num, (p.map _).nodup_iff.mpr h.per, (p.map _).nodup_iff.mpr h.dsk, fun t m => h.mem t (p.subset m)⟩
theorem PickOk.rng {b : List (List Pair)} (hb : Book b) {R : List Trip} (h : PickOk b R) {t : Trip} (ht : t ∈ R) : (0 ≤ t.2.1 ∧ t.2.1 ≤ 7) ∧ 0 ≤ t.2.2 ∧ t.2.2 ≤ 7 := by
  obtain ⟨h1, h2⟩ := h.mem t ht
  have e : MB b t.1 = b[t.1] := by
    rw [MB, List.getD_eq_getElem?_getD, List.getElem?_eq_getElem h1]
    rfl
  rw [e] at h2
  exact (hb.plan _ (List.getElem_mem h1)).rng _ h2
theorem PickOk.len8 {b : List (List Pair)} (hb : Book b) {R : List Trip} (h : PickOk b R) : R.length ≤ 8 := by
  have := nodup_len8 h.per fun x hx => by
    obtain ⟨t, ht, e⟩ := List.mem_map.mp hx
    have := h.rng hb ht
    rw [← e]
    exact this.1
  rwa [List.length_map] at this
theorem PickOk.apart {b : List (List Pair)} {R : List Trip} (h : PickOk b R) : Apart (R.map (·.2)) := by
  refine ⟨?_, ?_⟩
  · rw [List.map_map]
    exact h.per
  · rw [List.map_map]
    exact h.dsk
theorem perm_map {α β : Type} (f : α → β) : ∀ (ys : List β) (l : List α), ys.Perm (l.map f) → ∃ l' : List α, l'.Perm l ∧ l'.map f = ys
  | [], l, h => by
    have e : l.map f = [] := h.symm.eq_nil
    exact ⟨[], by rw [List.map_eq_nil_iff.mp e], rfl⟩
  | y :: ys, l, h => by
    obtain ⟨t, ht, e⟩ := List.mem_map.mp (h.subset List.mem_cons_self)
    obtain ⟨a, c, rfl⟩ := List.append_of_mem ht
    have p1 : (a ++ t :: c).Perm (t :: (a ++ c)) := List.perm_middle
    have p2 : (y :: ys).Perm (f t :: (a ++ c).map f) := h.trans (p1.map f)
    rw [e] at p2
    obtain ⟨l', h1, h2⟩ := perm_map f ys (a ++ c) (List.Perm.cons_inv p2)
    exact ⟨t :: l', (h1.cons t).trans p1.symm, by rw [List.map_cons, h2, e]⟩
/-- the dict at d holds the pick R -/
def DkAt (H : Hp) (d : Addr) (R : List Trip) : Prop := ∃ kvs, H d = some (.dK kvs) ∧ Dk H kvs R
theorem DkAt.same {H H' : Hp} {d : Addr} {R : List Trip} (h : DkAt H d R) (s : Same H H') : DkAt H' d R := let ⟨kvs, h1, h2⟩ := h; ⟨kvs, s _ _ h1, h2.tmono (tk_same s)⟩
end Pk
set_option maxHeartbeats 1000000
namespace Pk
open PySem PySem.Spec PyProof.Rows L2
theorem any_pr (m : List Pair) (p : Pair) : ((m.map prD).any fun z => PyData.eqv z (prD p)) = decide (p ∈ m) := by
  rw [List.any_map, Bool.eq_iff_iff, List.any_eq_true, decide_eq_true_iff]
  constructor
  · rintro ⟨x, hx, e⟩
    have e : PyData.eqv (prD x) (prD p) = true := e
    rw [eqv_pr, decide_eq_true_iff] at e
    exact e ▸ hx
  · exact fun h => ⟨p, h, by show PyData.eqv (prD p) (prD p) = true; rw [eqv_pr]; exact decide_eq_true rfl⟩
abbrev nums (R : List Trip) : List Nat := R.map (·.1)
theorem u65 {k : Nat} {A : Around} (r : Room k A) : A.units + 65 < cLine := by have := r.un; omega
def sp_sorted_pick : Sp := fun vs H Q _ => ∃ (d : Addr) (b : List (List Pair)) (R : List Trip), vs = [.ref d] ∧ DkAt H d R ∧ Book b ∧ PickOk b R ∧ ∀ p R' H', Same H H' → R'.Perm R → DkAt H' p R' → Q (.ref p) H'
def sp_unused_of : Sp := fun vs H Q _ => ∃ (v : V) (d : Addr) (b : List (List Pair)) (R : List Trip), vs = [v, .ref d] ∧ Dt H v (bkD b) ∧ Book b ∧ DkAt H d R ∧
  ∀ p (ns : List Nat) H', Same H H' → ns.Nodup → (∀ n, n ∈ ns → n < b.length ∧ n ∉ R.map (·.1)) → H' p = some (.tup (ns.map fun n : Nat => V.int (n : Int))) → Q (.ref p) H'
def sp_picks_right : Sp := fun vs H Q _ => ∃ (v : V) (d : Addr) (b : List (List Pair)) (R : List Trip), vs = [v, .ref d] ∧ Dt H v (bkD b) ∧ Book b ∧ DkAt H d R ∧ PickOk b R ∧ ∀ H', Same H H' → Q (.bl true) H'
section
variable {P : Program} {w : World} {K : PySem.W.Frag} {mg : Str → Option Value} {base : Heap}
theorem ok_sorted_pick {f : Addr} {fd : FuncData} (F : Fun K "sorted_pick" "sorted_pick" s_sorted_pick f fd) (G : Glob mg) : FnOk P w K mg base CX0 1 f fd ["pick"] sp_sorted_pick := by
  refine F.ok c_sorted_pick (fun vs H Q E h => ?_) (fun cdv A0 outer s H vs Q E hr h => ?_)
  · obtain ⟨d, b, R, rfl, _⟩ := h
    rfl
  · obtain ⟨d, b, R, rfl, ⟨kvs, hd, hk⟩, hb, hp, q⟩ := h
    refine ⟨_, 
      (pss_one (ps_ret (pe_dc (own := [("number", 1)]) rfl c_sorted_pick.nd (pi_list (pe_callB (call_sortedDI rfl) (by rfl) G.sorted boot_sorted (pa_cons (pv 0) pa_nil))) (blkOk_by (own := [("number", 1)]) (N := n_sorted_pick) (sc := defScope s_sorted_pick) (by decide +kernel)) (fun _ _ _ _ _ => (pg_name (i := 1) c_sorted_pick.nd rfl (.inl rfl))) (fun _ _ _ _ _ => pts_nil) (fun _ _ _ _ _ => (pv 1)) (fun _ _ _ _ _ => (pe_dget (hu_of hr) (pv 0) (pv 1) (fun _ _ => rfl)))))), ?_⟩
    have h8 := hp.len8 hb
    refine ⟨.ref d, rfl, d, kvs, _, rfl, .inl hd, hk.keys, by rw [List.length_map]; omega, fun ys l hy ha nl => ?_⟩
    have hyl : ys.length = R.length := by rw [hy.length_eq, List.length_map]
    refine ⟨l, rfl, ⟨_, SqL.of upd_same⟩, fun D nD => ?_⟩
    have s0 : Same H (upd H l (.lst (ys.map V.int))) := same_new nl
    -- the numbers, as they are sorted, are those of a list of the pick's pairs
    obtain ⟨R', hR', eR⟩ := perm_map _ ys R hy
    have hRl := hR'.length_eq
    refine dcW nD (Wlk.list (SqL.of upd_same)) (fun i H kv => Dk H kv (R'.take i)) (fun i H H' kv k e => e.tmono k.tk) (by rw [List.length_map]; omega) .nil (fun i x H' kv hi s hx hY Q1 Q2 k1 k2 => ?_) fun H1 kv s1 hD hY => ?_
    · rw [List.getElem?_map, ← eR, List.getElem?_map] at hx
      cases ht : R'[i]? with
      | none => rw [ht] at hx; cases hx
      | some t =>
        rw [ht] at hx
        cases hx
        obtain ⟨v, hv, hdv⟩ := hk.get hp.num (hR'.subset (List.mem_of_getElem? ht))
        refine ⟨rfl, .int t.1, rfl, .ref d, rfl, .int t.1, rfl, d, v, rfl, .inl ⟨kvs, ikey t.1, .inl (s _ _ (s0 _ _ hd)), rfl, hv.symm⟩, ?_⟩
        refine k1 (ikey t.1) v _ (Same.refl _) ?_
        rw [List.take_add_one, ht]
        have hn : (R'.map (·.1)).Nodup := (hR'.map _).nodup_iff.mpr hp.num
        refine hY.snoc (hdv.tmono (tk_same (s0.trans s))) fun m => ?_
        obtain ⟨h1, e1⟩ := List.getElem?_eq_some_iff.mp ht
        obtain ⟨u, hu, e2⟩ := List.mem_map.mp m
        obtain ⟨j, hj, e3⟩ := List.getElem_of_mem hu
        rw [List.length_take] at hj
        rw [List.getElem_take] at e3
        have := (List.getElem?_inj (i := j) (j := i) (by rw [List.length_map]; omega) hn).mp (by rw [List.getElem?_map, List.getElem?_map, List.getElem?_eq_getElem (by omega), ht, e3]; show some u.1 = some t.1; rw [e2])
        omega
    · rw [List.length_map, hyl, ← hRl, List.take_length] at hY
      exact q D R' H1 (s0.trans s1) hR' ⟨kv, hD, hY⟩
theorem ok_unused_of {f : Addr} {fd : FuncData} (F : Fun K "unused_of" "unused_of" s_unused_of f fd) (G : Glob mg) : FnOk P w K mg base CX0 1 f fd ["book", "pick"] sp_unused_of := by
  refine F.ok c_unused_of (fun vs H Q E h => ?_) (fun cdv A0 outer s H vs Q E hr h => ?_)
  · obtain ⟨v, d, b, R, rfl, _⟩ := h
    rfl
  · obtain ⟨v, d, b, R, rfl, hv, hb, ⟨kvs, hd, hk⟩, q⟩ := h
    refine ⟨_, 
      (pss_one (ps_ret (pe_tupleOf rfl G.tuple (pe_lc (own := [("number", 2)]) rfl c_unused_of.nd (pi_range1 rfl G.range (pa_cons (pe_callB (lenS K) (by rfl) G.len PySem.boot_len (pa_cons (pv 0) pa_nil)) pa_nil)) (blkOk_by (own := [("number", 2)]) (N := n_unused_of) (sc := defScope s_unused_of) (by decide +kernel)) (fun _ _ _ _ _ => (pg_name (i := 2) c_unused_of.nd rfl (.inl rfl))) (fun _ _ _ _ _ => (pts_one (pt_cmp (pc_dnotin (hu_of hr) (pv 2) (pv 1)) (by rfl)))) (fun _ _ _ _ _ => (pv 2)))))), ?_⟩
    obtain ⟨B, xs, rfl, hB, hs, hxl⟩ := dt_book hv
    have hbl := hb.len
    refine ⟨.ref B, rfl, B, xs, rfl, .inr (SqT.of hB), xs.length, rfl, by omega, by omega, fun D nD => ?_⟩
    refine lcW nD (Wlk.range 0 xs.length) (fun i H ys => ∃ ns : List Nat, ys = (ns.map fun n : Nat => V.int (n : Int)) ∧ ns.Nodup ∧ ∀ n, n ∈ ns → n < i ∧ n ∉ nums R) (fun i H H' ys _ e => e) (by omega) ⟨[], rfl, List.nodup_nil, fun _ m => absurd m List.not_mem_nil⟩ (fun i x H' ys hi s hx hY Q1 Q2 k1 k2 => ?_) fun H1 ys s1 hD hY => ?_
    · rw [Int.zero_add] at hx
      subst hx
      obtain ⟨ns, rfl, hn, hm⟩ := hY
      refine ⟨rfl, .int i, rfl, .ref d, rfl, d, valV kvs (ikey i), rfl, .inl ⟨kvs, ikey i, .inl (s _ _ hd), rfl, rfl⟩, _, rfl, ?_⟩
      rw [hk.has]
      by_cases hi2 : i ∈ nums R
      · rw [decide_eq_true hi2]
        exact k2 _ (Same.refl _) ⟨ns, rfl, hn, fun n hn2 => ⟨Nat.lt_succ_of_lt (hm n hn2).1, (hm n hn2).2⟩⟩
      · rw [decide_eq_false hi2]
        refine ⟨.int i, rfl, k1 _ _ (Same.refl _) ⟨ns ++ [i], by rw [List.map_append]; rfl, ?_, fun n hn2 => ?_⟩⟩
        · refine List.nodup_append.mpr ⟨hn, by simp, fun a ha c hc e => ?_⟩
          rw [List.mem_singleton.mp hc] at e
          have := (hm a ha).1
          omega
        · rcases List.mem_append.mp hn2 with h | h
          · exact ⟨Nat.lt_succ_of_lt (hm n h).1, (hm n h).2⟩
          · rw [List.mem_singleton.mp h]
            exact ⟨Nat.lt_succ_self _, hi2⟩
    · obtain ⟨ns, rfl, hn, hm⟩ := hY
      exact .inl ⟨D, _, rfl, SqL.of hD, fun p np => q p ns _ (s1.trans (same_new np)) hn (fun n m => ⟨hxl ▸ (hm n m).1, (hm n m).2⟩) upd_same⟩
theorem ok_picks_right {f : Addr} {fd : FuncData} (F : Fun K "picks_right" "picks_right" s_picks_right f fd) (G : Glob mg) (C_is_between : Cal P w K mg base CX0 1 "is_between" ["thing", "low", "high"] sp_is_between)
    (C_is_pair : Cal P w K mg base CX0 2 "is_pair" ["thing"] sp_is_pair) (C_are_apart : Cal P w K mg base CX0 1 "are_apart" ["pairs"] (sp_are_apart K)) : FnOk P w K mg base CX0 3 f fd ["book", "thing"] sp_picks_right := by
  refine F.ok c_picks_right (fun vs H Q E h => ?_) (fun cdv A0 outer s H vs Q E hr h => ?_)
  · obtain ⟨v, d, b, R, rfl, _⟩ := h
    rfl
  · obtain ⟨v, d, b, R, rfl, hv, hb, ⟨kvs, hd, hk⟩, hp, q⟩ := h
    refine ⟨_, 
      (pss_cons (ps_if (PW.pt (pw_or (pt_not (pt_val (pe_callB (isiK K) (by rfl) G.isinstance boot_isinstance (pa_cons (pv 1) (pa_cons (pe_ty "dict" G.dict) pa_nil))))) (pw_or1 (pt_not (pt_val (pe_callB (cr_all rfl) (by rfl) G.all PyProof.Rows.boot_all (pa_cons (pe_lock (pe_lc (own := [("number", 2)]) rfl c_picks_right.nd (pi_keys (pv 1)) (blkOk_by (own := [("number", 2)]) (N := n_picks_right) (sc := defScope s_picks_right) (by decide +kernel)) (fun _ _ _ _ _ => (pg_name (i := 2) c_picks_right.nd rfl (.inl rfl))) (fun _ _ _ _ _ => pts_nil) (fun _ _ _ _ _ => (pe_cal C_is_between hr pass0 (pa_cons (pv 2) (pa_cons pe_int (pa_cons (pe_op op_sub (pe_callB (lenS K) (by rfl) G.len PySem.boot_len (pa_cons (pv 0) pa_nil)) pe_int) pa_nil))))))) pa_nil))))))) 
          (pss_one (ps_ret pe_bl)) pss_nil)
      (pss_cons (ps_if (pt_not (pt_val (pe_callB (cr_all rfl) (by rfl) G.all PyProof.Rows.boot_all (pa_cons (pe_lock (pe_lc (own := [("number", 2)]) rfl c_picks_right.nd (pi_keys (pv 1)) (blkOk_by (own := [("number", 2)]) (N := n_picks_right) (sc := defScope s_picks_right) (by decide +kernel)) (fun _ _ _ _ _ => (pg_name (i := 2) c_picks_right.nd rfl (.inl rfl))) (fun _ _ _ _ _ => pts_nil) (fun _ _ _ _ _ => (pe_and (pe_cal C_is_pair hr pass0 (pa_cons (pe_dget (hu_of hr) (pv 1) (pv 2) (fun _ _ => rfl)) pa_nil)) (pe_one (pe_cmpR (inT K (u65 hr)) (pe_dget (hu_of hr) (pv 1) (pv 2) (fun _ _ => rfl)) (pe_ix (ixT K) (pv 0) (pv 2) (fun _ _ => rfl)) (by rfl))))))) pa_nil)))) 
          (pss_one (ps_ret pe_bl)) pss_nil)
      (pss_one (ps_ret (pe_cal C_are_apart hr pass0 (pa_cons (pe_lock (pe_lc (own := [("number", 2)]) rfl c_picks_right.nd (pi_keys (pv 1)) (blkOk_by (own := [("number", 2)]) (N := n_picks_right) (sc := defScope s_picks_right) (by decide +kernel)) (fun _ _ _ _ _ => (pg_name (i := 2) c_picks_right.nd rfl (.inl rfl))) (fun _ _ _ _ _ => pts_nil) (fun _ _ _ _ _ => (pe_dget (hu_of hr) (pv 1) (pv 2) (fun _ _ => rfl))))) pa_nil)))))), ?_⟩
    obtain ⟨B, xs, rfl, hB, hs, hxl⟩ := dt_book hv
    have hbl := hb.len
    have h8 := hp.len8 hb
    have hkl := hk.len
    refine ⟨.ref d, rfl, .ref d, .ty "dict", _, .type "dict", _, rfl, .ty _, .base (.dK hd), kit_ty (show kitB "dict" "dict" = some true by decide +kernel), _, rfl, ?_⟩
    refine ⟨d, _, hd, trivial, fun od => ⟨.ref d, rfl, d, od, rfl, .inl ⟨kvs, upd_same, fun D nD => ?_⟩⟩⟩
    have tl : ∀ od, Tk H (upd H d (.frz od (.dK kvs))) := fun od => tk_lock hd (fun _ z => by cases z)
    refine lcW nD (Wlk.keys upd_same) (fun i H ys => ∃ n, ys = (List.replicate n true).map V.bl) (fun i H H' ys _ e => e) (by omega) ⟨0, rfl⟩ (fun i x H' ys hi s hx hY Q1 Q2 k1 k2 => ?_) fun H1 ys s1 hD hY => ?_
    · obtain ⟨n, rfl⟩ := hY
      obtain ⟨k, u, hku, rfl⟩ := hx
      obtain ⟨t, ht, rfl, hdu⟩ := hk.at hku
      have hB2 := s _ _ (tl od _ _ hB)
      obtain ⟨hm1, _⟩ := hp.mem t (List.mem_of_getElem? ht)
      refine ⟨rfl, .int t.1, rfl, .ref B, rfl, B, xs, rfl, .inr (SqT.of hB2), _, 1, rfl, rfl, .int t.1, .int t.1, 0, (xs.length : Int) - 1, rfl, .int _, k1 _ _ (Same.refl _) ⟨n + 1, ?_⟩⟩
      have e : (A.int t.1).bet 0 ((xs.length : Int) - 1) = true := by
        show (decide ((0 : Int) ≤ t.1) && decide ((t.1 : Int) ≤ (xs.length : Int) - 1)) = true
        rw [decide_eq_true (by omega), decide_eq_true (by omega)]
        rfl
      rw [e, List.replicate_succ', List.map_append]
      rfl
    obtain ⟨n, rfl⟩ := hY
    have hdf := s1 _ _ upd_same
    refine ⟨hdf, D, _, rfl, SqL.of (by rw [upd_ne (new_lock nD).1]; exact hD), _, rfl, ?_⟩
    have e : (List.replicate n true).all id = true := by simp
    rw [e]
    have sH1 : Same H (upd H1 d (.dK kvs)) := same_unlock hd s1
    clear s1 hD hdf nD e n
    generalize upd H1 d (.dK kvs) = H1 at sH1
    -- the second test
    have hd1 := sH1 _ _ hd
    refine ⟨d, _, hd1, trivial, fun od2 => ⟨.ref d, rfl, d, od2, rfl, .inl ⟨kvs, upd_same, fun D2 nD2 => ?_⟩⟩⟩
    have tl2 : ∀ od, Tk H (upd H1 d (.frz od (.dK kvs))) := fun od a zs e => tk_lock hd1 (fun _ z => by cases z) _ _ (sH1 _ _ e)
    refine lcW nD2 (Wlk.keys upd_same) (fun i H ys => ∃ n, ys = (List.replicate n true).map V.bl) (fun i H H' ys _ e => e) (by omega) ⟨0, rfl⟩ (fun i x H' ys hi s hx hY Q1 Q2 k1 k2 => ?_) fun H2 ys s2 hD hY => ?_
    · obtain ⟨n, rfl⟩ := hY
      obtain ⟨k, u, hku, rfl⟩ := hx
      obtain ⟨t, ht, rfl, hdu⟩ := hk.at hku
      have htm := List.mem_of_getElem? ht
      have tk : Tk H H' := fun a zs e => s _ _ (tl2 od2 _ _ e)
      have hB2 := tk _ _ hB
      have hf := s _ _ (upd_same (H := H1) (o := HO.frz od2 (.dK kvs)))
      obtain ⟨hm1, hm2⟩ := hp.mem t htm
      obtain ⟨v, hv1, hv2⟩ := hk.get hp.num htm
      have hv2 := hv2.tmono tk
      have dg : DGet H' d (.int t.1) (some v) := .inl ⟨kvs, ikey t.1, .inr ⟨od2, hf⟩, rfl, hv1.symm⟩
      have hm : b[t.1]? = some (MB b t.1) := by
        rw [MB, List.getD_eq_getElem?_getD, List.getElem?_eq_getElem hm1]
        rfl
      obtain ⟨x, hx, hdx⟩ := (hs.tmono tk).get (i := t.1) (d := plD (MB b t.1)) (by rw [List.getElem?_map, hm]; rfl)
      refine ⟨rfl, .ref d, rfl, .int t.1, rfl, d, v, rfl, dg, v, _, rfl, hv2.av, _, rfl, ?_⟩
      have e1 : (A.pair (toA (prD t.2))).isSome = true := by
        rw [pair_back (hp.rng hb htm)]
        rfl
      rw [e1]
      refine ⟨.ref d, rfl, .int t.1, rfl, d, v, rfl, dg, .ref B, rfl, .int t.1, rfl, B, xs, t.1, x, rfl, rfl, SqT.of hB2, atI_nat hx, ?_⟩
      refine ⟨_, _, hv2.dp, hdx.dp, shaped_pr _, shaped_pl _, k1 _ _ (Same.refl _) ⟨n + 1, ?_⟩⟩
      rw [List.replicate_succ', List.map_append]
      show _ ++ [V.bl (if false = true then _ else ((MB b t.1).map prD).any fun z => PyData.eqv z (prD t.2))] = _
      rw [if_neg (by decide), any_pr, decide_eq_true hm2]
      rfl
    obtain ⟨n, rfl⟩ := hY
    have hdf := s2 _ _ upd_same
    refine ⟨hdf, D2, _, rfl, SqL.of (by rw [upd_ne (new_lock nD2).1]; exact hD), _, rfl, ?_⟩
    have e : (List.replicate n true).all id = true := by simp
    rw [e]
    have sH2 : Same H (upd H2 d (.dK kvs)) := sH1.trans (same_unlock hd1 s2)
    clear s2 hD hdf nD2 e n
    generalize upd H2 d (.dK kvs) = H2 at sH2
    have hd2 := sH2 _ _ hd
    refine ⟨d, _, hd2, trivial, fun od3 => ⟨.ref d, rfl, d, od3, rfl, .inl ⟨kvs, upd_same, fun D3 nD3 => ?_⟩⟩⟩
    have tl3 : Tk H (upd H2 d (.frz od3 (.dK kvs))) := fun a zs e => tk_lock hd2 (fun _ z => by cases z) _ _ (sH2 _ _ e)
    refine lcW nD3 (Wlk.keys upd_same) (fun i H ys => DtAll H ys ((R.take i).map fun t => prD t.2)) (fun i H H' ys k e => e.mono k) (by omega) .nil (fun i x H' ys hi s hx hY Q1 Q2 k1 k2 => ?_) fun H3 ys s3 hD hY => ?_
    · obtain ⟨k, u, hku, rfl⟩ := hx
      obtain ⟨t, ht, rfl, hdu⟩ := hk.at hku
      have tk : Tk H H' := fun a zs e => s _ _ (tl3 _ _ e)
      have hf := s _ _ (upd_same (H := H2) (o := HO.frz od3 (.dK kvs)))
      obtain ⟨v, hv1, hv2⟩ := hk.get hp.num (List.mem_of_getElem? ht)
      refine ⟨rfl, .ref d, rfl, .int t.1, rfl, d, v, rfl, .inl ⟨kvs, ikey t.1, .inr ⟨od3, hf⟩, rfl, hv1.symm⟩, k1 _ _ (Same.refl _) ?_⟩
      rw [map_take_next _ ht]
      exact hY.app (.one (hv2.tmono tk))
    have hdf := s3 _ _ upd_same
    have sH3 : Same H (upd H3 d (.dK kvs)) := sH2.trans (same_unlock hd2 s3)
    rw [hkl, List.take_length] at hY
    have hY : DtAll H3 ys ((R.map (·.2)).map prD) := by
      rw [List.map_map]
      exact hY
    refine ⟨hdf, D3, ys, R.map (·.2), rfl, .inl (SqL.of (by rw [upd_ne (new_lock nD3).1]; exact hD)), hY.tmono (tk_lock hdf fun _ z => by cases z), by rw [List.length_map]; omega, fun H4 s4 => ?_⟩
    rw [decide_eq_true hp.apart]
    exact q H4 (sH3.trans s4)
theorem ok_is_pick {f CB : Addr} {fd : FuncData} (F : Fun K "is_pick" "is_pick" s_is_pick f fd) (G : Glob mg) (C_need_book : Cal P w K mg base (L2.CX P w) 5 "need_book" ["book"] (sp_need_book CB))
    (C_picks_right : Cal P w K mg base CX0 3 "picks_right" ["book", "thing"] sp_picks_right) : FnOk P w K mg base CX0 6 f fd ["book", "thing"] sp_picks_right := by
  refine F.ok c_is_pick (fun vs H Q E h => ?_) (fun cdv A0 outer s H vs Q E hr h => ?_)
  · obtain ⟨v, d, b, R, rfl, _⟩ := h
    rfl
  · obtain ⟨v, d, b, R, rfl, hv, hb, hd, hp, q⟩ := h
    refine ⟨_, 
      (pss_cons (ps_expr (pe_cal C_need_book hr passL (pa_cons (pv 0) pa_nil)))
      (pss_one (ps_ret (pe_cal C_picks_right hr pass0 (pa_cons (pv 0) (pa_cons (pv 1) pa_nil)))))), ?_⟩
    refine ⟨v, rfl, v, _, rfl, hv.av, hb.wid2, fun _ H1 s1 => ?_, no_book hb⟩
    exact ⟨v, rfl, .ref d, rfl, v, d, b, R, rfl, hv.mono (Wk.of s1), hb, hd.same s1, hp, fun H2 s2 => q H2 (s1.trans s2)⟩
end
end Pk
set_option maxHeartbeats 1000000
/-! Links, paths, the pick that is grown by a path. -/
namespace Pk
open PySem PySem.Spec PyProof.Rows L2
variable {b : List (List Pair)} {R L S : List Trip}
/-- links told one behind another: a person of a link is free or holds a desk told before -/
structure Links (b : List (List Pair)) (R L : List Trip) : Prop where
  num : (nums L).Nodup
  fresh : ∀ t, t ∈ L → t.1 ∉ nums R
  mem : ∀ t, t ∈ L → t.1 < b.length ∧ t.2 ∈ MB b t.1
  dsk : (L.map Trip.dsk).Nodup
  per : ∀ (i : Nat) (t : Trip), L[i]? = some t → t.per ∉ R.map Trip.per ∨ ∃ (j : Nat) (t' u : Trip), j < i ∧ L[j]? = some t' ∧ u ∈ R ∧ u.dsk = t'.dsk ∧ u.per = t.per
theorem Links.nil : Links b R [] := ⟨List.nodup_nil, fun _ m => absurd m List.not_mem_nil, fun _ m => absurd m List.not_mem_nil, List.nodup_nil, fun i t e => by simp at e⟩
theorem nodup_snoc {α : Type} {l : List α} {x : α} (h : l.Nodup) (n : x ∉ l) : (l ++ [x]).Nodup :=
  List.nodup_append.mpr ⟨h, by simp, fun a ha c hc e => n (by rw [List.mem_singleton.mp hc] at e; exact e ▸ ha)⟩
theorem Links.snoc (h : Links b R L) {t : Trip} (h1 : t.1 ∉ nums L) (h2 : t.1 ∉ nums R) (h3 : t.1 < b.length ∧ t.2 ∈ MB b t.1) (h4 : t.dsk ∉ L.map Trip.dsk)
    (h5 : t.per ∉ R.map Trip.per ∨ ∃ t' : Trip, t' ∈ L ∧ ∃ u : Trip, u ∈ R ∧ u.dsk = t'.dsk ∧ u.per = t.per) : Links b R (L ++ [t]) where
  num := by
    rw [nums, List.map_append]
    exact nodup_snoc h.num h1
  fresh := fun x hx => by
    rcases List.mem_append.mp hx with m | m
    · exact h.fresh x m
    · rw [List.mem_singleton.mp m]
      exact h2
  mem := fun x hx => by
    rcases List.mem_append.mp hx with m | m
    · exact h.mem x m
    · rw [List.mem_singleton.mp m]
      exact h3
  dsk := by
    rw [List.map_append]
    exact nodup_snoc h.dsk h4
  per := fun i x e => by
    by_cases lt : i < L.length
    · rw [List.getElem?_append_left lt] at e
      rcases h.per i x e with q | ⟨j, t', u, q1, q2, q3⟩
      · exact .inl q
      · exact .inr ⟨j, t', u, q1, by rw [List.getElem?_append_left (by omega)]; exact q2, q3⟩
    · rw [List.getElem?_append_right (by omega)] at e
      obtain ⟨l1, e1⟩ := List.getElem?_eq_some_iff.mp e
      have hl : i - L.length < 1 := l1
      have e0 : i = L.length := by omega
      subst e0
      have e1 : x = t := by
        rw [Nat.sub_self] at e
        exact (Option.some.inj e).symm
      rw [e1]
      rcases h5 with q | ⟨t', ht, u, q⟩
      · exact .inl q
      · obtain ⟨j, hj, e2⟩ := List.getElem_of_mem ht
        exact .inr ⟨j, t', u, hj, by rw [List.getElem?_append_left hj, List.getElem?_eq_getElem hj, e2], q⟩
/-- each link behind holds the desk of the one ahead -/
def Chained (R : List Trip) : List Trip → Prop
  | t :: t' :: r => (∃ u, u ∈ R ∧ u.dsk = t.dsk ∧ u.per = t'.per) ∧ Chained R (t' :: r)
  | _ => True
/-- links that make a pick greater -/
structure PathOk (b : List (List Pair)) (R S : List Trip) : Prop where
  num : (nums S).Nodup
  fresh : ∀ t, t ∈ S → t.1 ∉ nums R
  mem : ∀ t, t ∈ S → t.1 < b.length ∧ t.2 ∈ MB b t.1
  dsk : (S.map Trip.dsk).Nodup
  chn : Chained R S
  head : ∃ t r, S = t :: r ∧ t.per ∉ R.map Trip.per
  last : ∃ r t, S = r ++ [t] ∧ t.dsk ∉ R.map Trip.dsk
theorem Rain.inj_per {M : Nat → List Pair} {P : Nat → Prop} (h : Rain M P R) {x y : Trip} (hx : x ∈ R) (hy : y ∈ R) (e : x.per = y.per) : x = y := map_inj_of_nodup Trip.per R h.per x hx y hy e
theorem Rain.inj_dsk {M : Nat → List Pair} {P : Nat → Prop} (h : Rain M P R) {x y : Trip} (hx : x ∈ R) (hy : y ∈ R) (e : x.dsk = y.dsk) : x = y := map_inj_of_nodup Trip.dsk R h.dsk x hx y hy e
/-- the pairs of the pick that a path of links takes away, in its sequence -/
theorem Chained.taken : ∀ {t : Trip} {r : List Trip}, Chained R (t :: r) → ∃ us : List Trip, us.length = r.length ∧ (∀ u, u ∈ us → u ∈ R) ∧ us.map Trip.per = r.map Trip.per ∧ us.map Trip.dsk = ((t :: r).map Trip.dsk).take r.length
  | t, [], _ => ⟨[], rfl, fun _ m => absurd m List.not_mem_nil, rfl, rfl⟩
  | t, t' :: r, h => by
    obtain ⟨⟨u, hu, e1, e2⟩, h2⟩ := h
    obtain ⟨us, l, m, p, d⟩ := Chained.taken h2
    refine ⟨u :: us, by rw [List.length_cons, List.length_cons, l], fun x hx => ?_, by rw [List.map_cons, List.map_cons, e2, p], ?_⟩
    · rcases List.mem_cons.mp hx with rfl | hx
      · exact hu
      · exact m x hx
    · rw [List.map_cons, e1, d]
      rfl
/-- the pick with the path's links, without those whose persons they take -/
def grown (R S : List Trip) : List Trip := (R.filter fun t => decide (t.per ∉ S.map Trip.per)) ++ S
theorem mem_kept {t : Trip} : t ∈ (R.filter fun t => decide (t.per ∉ S.map Trip.per)) ↔ t ∈ R ∧ t.per ∉ S.map Trip.per := by
  rw [List.mem_filter, decide_eq_true_iff]
theorem nodup_app {α : Type} {l m : List α} (hl : l.Nodup) (hm : m.Nodup) (h : ∀ x, x ∈ l → x ∉ m) : (l ++ m).Nodup := List.nodup_append.mpr ⟨hl, hm, fun a ha c hc e => h a ha (e ▸ hc)⟩
theorem grown_ok (h : PickOk b R) (p : PathOk b R S) : PickOk b (grown R S) ∧ (grown R S).length = R.length + 1 := by
  obtain ⟨t, r, eS, ht⟩ := p.head
  obtain ⟨us, ul, um, up, ud⟩ := Chained.taken (eS ▸ p.chn)
  have sub : (R.filter fun t => decide (t.per ∉ S.map Trip.per)).Sublist R := List.filter_sublist
  -- desks of the taken ones: those of all links but the last
  have dn : (us.map Trip.dsk).Nodup := by
    rw [ud, ← eS]
    exact p.dsk.sublist (List.take_sublist _ _)
  have usn : us.Nodup := by
    have : (us.map Trip.dsk).Pairwise (· ≠ ·) := dn
    rw [List.pairwise_map] at this
    exact this.imp fun h e => h (by rw [e])
  have upn : (us.map Trip.per).Nodup := by
    have : us.Pairwise (fun x y => x.per ≠ y.per) := by
      refine List.Pairwise.imp_of_mem ?_ usn
      intro x y hx hy ne e
      exact ne (h.inj_per (um x hx) (um y hy) e)
    exact List.pairwise_map.mpr this
  have perS : (S.map Trip.per).Nodup := by
    rw [eS, List.map_cons, List.nodup_cons, ← up]
    refine ⟨fun m => ht ?_, upn⟩
    obtain ⟨u, hu, e⟩ := List.mem_map.mp m
    exact List.mem_map.mpr ⟨u, um u hu, e⟩
  obtain ⟨r2, t2, eS2, ht2⟩ := p.last
  have hr2 : r2.length = r.length := by
    have e := congrArg List.length (eS.symm.trans eS2)
    rw [List.length_append, List.length_cons] at e
    have : r.length + 1 = r2.length + 1 := e
    omega
  have deskS : ∀ x, x ∈ S → x.dsk ∈ R.map Trip.dsk → ∃ u, u ∈ us ∧ u.dsk = x.dsk := fun x hx hd => by
    have : x.dsk ∈ (S.map Trip.dsk).take r.length := by
      rw [eS2] at hx ⊢
      rcases List.mem_append.mp hx with m | m
      · rw [List.map_append, List.take_append_of_le_length (by rw [List.length_map]; omega), List.take_of_length_le (by rw [List.length_map]; omega)]
        exact List.mem_map.mpr ⟨x, m, rfl⟩
      · rw [List.mem_singleton.mp m] at hd
        exact absurd hd ht2
    rw [eS, ← ud] at this
    obtain ⟨u, hu, e⟩ := List.mem_map.mp this
    exact ⟨u, hu, e⟩
  refine ⟨⟨?_, ?_, ?_, fun x hx => ?_⟩, ?_⟩
  · rw [grown, List.map_append]
    refine nodup_app (h.num.sublist (sub.map _)) p.num fun n hn hs => ?_
    obtain ⟨x, hx, rfl⟩ := List.mem_map.mp hs
    obtain ⟨y, hy, e⟩ := List.mem_map.mp hn
    exact p.fresh x hx (List.mem_map.mpr ⟨y, (mem_kept.mp hy).1, e⟩)
  · rw [grown, List.map_append]
    refine nodup_app (h.per.sublist (sub.map _)) perS fun q hq hs => ?_
    obtain ⟨y, hy, rfl⟩ := List.mem_map.mp hq
    exact (mem_kept.mp hy).2 hs
  · rw [grown, List.map_append]
    refine nodup_app (h.dsk.sublist (sub.map _)) p.dsk fun q hq hs => ?_
    obtain ⟨y, hy, rfl⟩ := List.mem_map.mp hq
    obtain ⟨x, hx, e⟩ := List.mem_map.mp hs
    obtain ⟨hy1, hy2⟩ := mem_kept.mp hy
    obtain ⟨u, hu, eu⟩ := deskS x hx (e ▸ List.mem_map.mpr ⟨y, hy1, rfl⟩)
    have : u = y := h.inj_dsk (um u hu) hy1 (eu.trans e)
    subst this
    refine hy2 ?_
    rw [eS, List.map_cons, ← up]
    exact List.mem_cons_of_mem _ (List.mem_map.mpr ⟨u, hu, rfl⟩)
  · rcases List.mem_append.mp hx with m | m
    · exact h.mem x (mem_kept.mp m).1
    · exact p.mem x m
  · -- how many
    have e1 : (R.filter fun t => decide (t.per ∉ S.map Trip.per)).length + (R.filter fun t => !decide (t.per ∉ S.map Trip.per)).length = R.length := filter_len _ R
    have e2 : (R.filter fun t => !decide (t.per ∉ S.map Trip.per)).Perm us := by
      have n1 : (R.filter fun t => !decide (t.per ∉ S.map Trip.per)).Nodup := by
        have rn : R.Nodup := by
          have : (R.map Trip.per).Pairwise (· ≠ ·) := h.per
          rw [List.pairwise_map] at this
          exact this.imp fun h e => h (by rw [e])
        exact rn.sublist List.filter_sublist
      refine (List.perm_ext_iff_of_nodup n1 usn).mpr fun x => ?_
      rw [List.mem_filter]
      constructor
      · rintro ⟨h1, h2⟩
        have h2 : x.per ∈ S.map Trip.per := by simpa using h2
        rw [eS, List.map_cons, List.mem_cons] at h2
        rcases h2 with e | m
        · exact absurd (e ▸ List.mem_map.mpr ⟨x, h1, rfl⟩) ht
        · rw [← up] at m
          obtain ⟨u, hu, e⟩ := List.mem_map.mp m
          have : u = x := h.inj_per (um u hu) h1 e
          exact this ▸ hu
      · intro hx
        refine ⟨um x hx, ?_⟩
        have : x.per ∈ S.map Trip.per := by
          rw [eS, List.map_cons, ← up]
          exact List.mem_cons_of_mem _ (List.mem_map.mpr ⟨x, hx, rfl⟩)
        simpa using this
    have e3 := e2.length_eq
    have e4 : S.length = r.length + 1 := by rw [eS]; rfl
    rw [grown, List.length_append]
    omega
end Pk
set_option maxHeartbeats 2000000
/-! {**d, **e} and {**d, k: v}. -/
namespace Pk
open PySem PySem.Spec PyProof.Rows L2
section
variable {prog : Program} {w : World} {K : Type} [DecidableEq K] {knd : KeyKind prog w K} {A : Around} {E : Value → Shared → Prop} {s : Shared}
theorem dictPut_pairs {d : Addr} {kvs : List (K × Value)} {k : K} {key v : Value} {Q : Unit → Shared → Prop} (hkey : knd.is k key = true) (hm : s.heap.DictOf knd d kvs)
    (hQ : ∀ h', h'.DictOf knd d (stored kvs k v) → Heap.SameBut d s.heap h' → Q () { s with heap := h' }) (hsz : kvs.length ≤ sizeLine) :
    wpAny (model prog w) A (dictPut d (knd.hash k) key v) Q E s := by
  obtain ⟨o, es, ep, ho, hc, hd, hk, hp, hn⟩ := hm
  have hes : es.size ≤ sizeLine := by
    have e1 := hp.length
    have e2 : es.toList.length = es.size := by simp
    omega
  unfold dictPut
  refine wpAny_bind (wpAny_dictFind_of hkey ho hd hk ?_)
  have hidx : (es.findIdx? fun e => knd.is k e.key) = kvs.findIdx? fun kv => decide (kv.1 = k) := by
    rw [← hp.findIdx k]
    obtain ⟨l⟩ := es
    simp
  cases hi : es.findIdx? fun e => knd.is k e.key with
  | some i =>
    refine wpAny_updateDict ho hd (hQ _ ⟨_, _, ep, Heap.get?_update_self _ ho (Obj.isFreed_of_dict (Obj.data_mapDict hd _)), hc.mapDict _, Obj.data_mapDict hd _, hk.modify _ _, ?_, ?_⟩ (Heap.SameBut.update ..))
    · rw [stored, if_pos (any_of_findIdx_some (hidx ▸ hi))]
      have hl : (es.toList.findIdx? fun e => knd.is k e.key) = some i := by
        rw [← hi]
        obtain ⟨l⟩ := es
        simp
      have := hp.modify hn hl v
      obtain ⟨l⟩ := es
      simpa using this
    · rw [stored, if_pos (any_of_findIdx_some (hidx ▸ hi)), keys_map_store]
      exact hn
  | none =>
    have hnot : k ∉ kvs.map (·.1) := not_mem_of_findIdx_none (hidx ▸ hi)
    have hany : ¬ (kvs.any fun kv => decide (kv.1 = k)) = true := by
      rw [List.any_eq_true]
      rintro ⟨kv, hkv, he⟩
      exact hnot (List.mem_map.mpr ⟨kv, hkv, of_decide_eq_true he⟩)
    refine wpAny_updateDictKeys (hz := hes) ho hd (hQ _ ⟨_, _, ep + 1, Heap.get?_update_self _ ho (Obj.isFreed_of_dict (Obj.data_mapDictKeys hd _)), hc.mapDictKeys _, Obj.data_mapDictKeys hd _, hk.push hkey _, ?_, ?_⟩ (Heap.SameBut.update ..))
    · rw [stored, if_neg hany]
      have := hp.append hkey (knd.hash k) v
      obtain ⟨l⟩ := es
      simpa using this
    · rw [stored, if_neg hany, List.map_append, List.nodup_append]
      refine ⟨hn, by simp, ?_⟩
      intro a ha b hb
      simp only [List.map_cons, List.map_nil, List.mem_singleton] at hb
      subst hb
      exact fun e => hnot (e ▸ ha)
theorem merge_plain {d a : Addr} {kvs more : List (K × Value)} {Q : Unit → Shared → Prop} (hda : d ≠ a) (haS : (a == sysModules) = false) (hd : s.heap.DictOf knd d kvs) (ha : s.heap.DictOf knd a more)
    (hQ : ∀ h', h'.DictOf knd d (merged kvs more) → h'.DictOf knd a more → Heap.SameBut d s.heap h' → Q () { s with heap := h' }) (hsz : kvs.length + more.length ≤ sizeLine) :
    wpAny (model prog w) A (mergeMapping d (.ref a) false) Q E s := by
  obtain ⟨od, esd, epd, hod, hcd, hdd, hkd, hpd, hnd⟩ := id hd
  obtain ⟨oo, eso, epo, hoo, hco, hdo', hko, hpo, hno⟩ := id ha
  have hlen : more.length = eso.size := by rw [← hpo.length]; simp
  unfold mergeMapping
  refine wpAny_bind (wpAny_isInstance (b := true) ha.typeIs rfl ?_)
  dsimp only
  rw [if_pos rfl]
  refine wpAny_bind (wpAny_specialOf ha.typeIs PySem.F.slot_dict_iter.lookup (wpAny_bind (wpAny_pure ?_)))
  have hb : ((some (Value.builtin "dict.__iter__") : Option Value) == some (Value.builtin "dict.__iter__")) = true := rfl
  rw [hb]
  dsimp only
  rw [if_neg (by rw [haS]; exact Bool.false_ne_true)]
  refine wpAny_bind (wpAny_dictEntries hod hdd ?_)
  have loop : wpAny (model prog w) A (do
      let es ← dictEntries a
      let epoch ← dictEpoch a
      forIn (List.range es.size) PUnit.unit fun i (_ : PUnit) => (do
        let l' ← dictEntries a
        match l'[i]? with
          | some e => do
            holding [e.key, e.val] (dictPut d e.hash e.key e.val)
            let ep' ← dictEpoch a
            if (ep' != epoch) = true then do
                (unsupported "dict.changed-during-merge" : Sem PUnit)
                pure (ForInStep.yield PUnit.unit)
              else pure (ForInStep.yield PUnit.unit)
          | _ => do
            (unsupported "dict.changed-during-merge" : Sem PUnit)
            pure (ForInStep.yield PUnit.unit) : Sem (ForInStep PUnit))
      pure ()) Q E s := by
    refine wpAny_bind (wpAny_dictEntries hoo hdo' ?_)
    refine wpAny_bind (wpAny_dictEpoch hoo hdo' ?_)
    refine wpAny_bind ?_
    rw [List.range_eq_range']
    refine wpAny_forIn_list _
      (fun rest _ s' => ∃ h' i, s' = { s with heap := h' } ∧ rest = List.range' i (eso.size - i) ∧ i ≤ eso.size ∧ h'.DictOf knd d (merged kvs (more.take i)) ∧ h'.get? a = some oo ∧ Heap.SameBut d s.heap h')
      _ ?_ ?_ _ _ ⟨s.heap, 0, rfl, by simp, Nat.zero_le _, by simpa [merged] using hd, hoo, Heap.SameBut.refl _ _⟩
    · rintro x rest b s' ⟨h', i, rfl, hr, hi, hd', hoo', hs'⟩
      have hlt : i < eso.size := by
        rcases Nat.lt_or_ge i eso.size with h | h
        · exact h
        · rw [Nat.sub_eq_zero_of_le h] at hr
          simp at hr
      obtain ⟨rfl, hrest⟩ : x = i ∧ rest = List.range' (i + 1) (eso.size - (i + 1)) := by
        have e : eso.size - i = (eso.size - (i + 1)) + 1 := by omega
        rw [e, List.range'_succ] at hr
        injection hr with h1 h2
        exact ⟨h1, h2⟩
      refine wpAny_bind (wpAny_dictEntries hoo' hdo' ?_)
      rw [Array.getElem?_eq_getElem hlt]
      obtain ⟨kv, hkv⟩ : ∃ kv, more[x]? = some kv := ⟨more[x]'(by rw [hlen]; exact hlt), List.getElem?_eq_getElem _⟩
      obtain ⟨k, v⟩ := kv
      obtain ⟨hkey, hval⟩ := hpo.get? (e := eso[x]) (by simp [hlt]) hkv
      obtain ⟨k', hkey', hhash⟩ := hko eso[x] (Array.getElem_mem hlt)
      obtain rfl : k' = k := knd.inj _ _ _ hkey' hkey
      show wpAny _ _ (holding [eso[x].key, eso[x].val] (dictPut d eso[x].hash eso[x].key eso[x].val) >>= _) _ _ _
      rw [hhash, hval]
      have hmx : (merged kvs (more.take x)).length ≤ sizeLine := by
        have e1 := merged_length_le kvs (more.take x)
        have e2 : (more.take x).length ≤ more.length := by rw [List.length_take]; omega
        omega
      refine wpAny_bind (wpAny_holding (dictPut_pairs (hsz := hmx) hkey hd' fun h'' hd'' hs'' => ?_))
      have hoo'' : h''.get? a = some oo := (hs''.2 a (Ne.symm hda)).trans hoo'
      refine wpAny_bind (wpAny_dictEpoch hoo'' hdo' ?_)
      rw [if_neg (by simp)]
      exact wpAny_pure ⟨h'', x + 1, rfl, hrest, hlt, by rw [merged_take_succ kvs more x (k', v) hkv]; exact hd'', hoo'', hs'.trans hs''⟩
    · rintro b s' ⟨h', i, rfl, hr, hi, hd', hoo', hs'⟩
      have hin : i = eso.size := by
        rcases Nat.lt_or_ge i eso.size with h | h
        · have e : eso.size - i = (eso.size - (i + 1)) + 1 := by omega
          rw [e, List.range'_succ] at hr
          exact nomatch hr
        · exact Nat.le_antisymm hi h
      refine wpAny_pure (hQ h' ?_ ⟨oo, eso, epo, hoo', hco, hdo', hko, hpo, hno⟩ hs')
      rw [hin, ← hlen, List.take_length] at hd'
      exact hd'
  split
  · refine wpAny_bind (wpAny_dictEntries hoo hdo' ?_)
    refine wpAny_bind (wpAny_of_eq (a := PUnit.unit) ?_ loop)
    rw [← Array.forIn_toList]
    refine forIn_yield_id _ fun e he c => ?_
    obtain ⟨k, hkey, _⟩ := hko e (Array.mem_toList_iff.mp he)
    have hv := knd.byValue k _ hkey
    revert hv
    cases e.key with
    | ref b => exact fun h => absurd h Bool.false_ne_true
    | _ => exact fun _ => rfl
  · exact loop
end
end Pk
set_option maxHeartbeats 2000000
namespace Pk
open PySem PySem.Spec PyProof.Rows L2
def tDisp2 (ta tb : TE) : TE := fun σ H Q => ∀ p, H p = none → ta σ (upd H p (.dK [])) fun x H1 => ∃ d kvs, x = .ref d ∧ d ≠ p ∧ Rd H1 d (.dK kvs) ∧ kvs.length ≤ 1000 ∧ H1 p = some (.dK []) ∧
  tb σ (upd H1 p (.dK (mergeK [] kvs))) fun y H2 => ∃ e kvs2, y = .ref e ∧ e ≠ p ∧ Rd H2 e (.dK kvs2) ∧ kvs2.length ≤ 1000 ∧ H2 p = some (.dK (mergeK [] kvs)) ∧ Q (.ref p) (upd H2 p (.dK (mergeK (mergeK [] kvs) kvs2)))
section
variable {X : Cx}
theorem inv_merge {A : Around} {E : Value → Shared → Prop} {pins : List (Addr × Obj)} {σ : L2.St} {H : Hp} {s : Shared} {p d : Addr} {old kvs : List (Key × V)} {Q : Unit → Shared → Prop} (I : Inv X pins σ H s) (hp : H p = some (.dK old)) (hd : Rd H d (.dK kvs)) (hdp : d ≠ p)
    (ho : old.length ≤ 1000) (hk : kvs.length ≤ 1000) (h : ∀ s', Inv X pins σ (upd H p (.dK (mergeK old kvs))) s' → Q () s') : wpAny (model X.prog X.w) A (mergeMapping p (.ref d) false) Q E s := by
  obtain ⟨z, hS, vs, rel, dd⟩ := dk_rd I.hok hd
  obtain ⟨z2, hS2, vs2, rel2, dd2⟩ := dk_of I.hok hp
  refine merge_plain (Ne.symm hdp) hS dd2 dd (fun h' d1 d2 hs => h _ ?_) (by rw [← rel.length, ← rel2.length, sizeLine_eq]; omega)
  have hz : (mergeK old kvs).length ≤ sizeLine := by
    have h1 := length_mergeK kvs old
    rw [sizeLine_eq]
    omega
  have he : ∃ q, h'.get? p = some q := let ⟨q, _, _, hq, _⟩ := d1; ⟨q, hq⟩
  exact d_write I (by rw [hp]; exact True.intro) hs he (dk_new hz hS2 (rel.merge rel2) d1)
theorem pe_disp2 {a b : Expr} {ta tb : TE} {pos : Pos} (ha : PE X a ta) (hb : PE X b tb) : PE X (.Dict [none, none] [a, b] pos) (tDisp2 ta tb) := by
  refine ⟨fun pins s σ H Q I q => ?_⟩
  rw [arm_eval_Dict]
  refine wpAny_bind (wpAny_standAt ?_)
  show wpAny _ _ (dictDisplay [(none, do let x ← eval a X.env; standAt pos; pure x), (none, do let x ← eval b X.env; standAt pos; pure x)]) _ _ s
  unfold dictDisplay
  dsimp only
  have hn := I.hok.fresh (Nat.le_refl s.heap.objs.size)
  have I0 := I.laid (a := s.heap.objs.size) (o := .dK []) (h' := s.heap.push { cls := .type "dict", data := .dict #[] }) (t' := s.toks) (fun _ _ q => Heap.get?_push_of_some _ q) (Nat.le_refl _) (dk_empty s.heap I.big)
  refine wpAny_bind ?_
  rw [List.forIn_cons]
  refine wpAny_bind ?_
  refine wpAny_bind (wpAny_pure ?_)
  refine wpAny_bind (wpAny_alloc ?_)
  refine wpAny_bind (wpAny_holding (wpAny_bind (thn (ha.run pins _ σ _ _ I0 (q _ hn)) fun u s1 got => ?_)))
  obtain ⟨x, H1, I1, rx, d, kvs, rfl, hdp, hd, hl, hp, q1⟩ := got
  cases rx
  refine wpAny_bind (wpAny_standAt (wpAny_pure ?_))
  refine wpAny_bind (wpAny_onRaise (wpAny_tryCatch (wpAny_onRaise (wpAny_holding (inv_merge I1 hp hd hdp (Nat.zero_le _) hl fun s2 I2 => ?_)))))
  refine wpAny_pure ?_
  dsimp only
  rw [List.forIn_cons]
  refine wpAny_bind ?_
  refine wpAny_bind (wpAny_pure ?_)
  refine wpAny_bind (wpAny_pure ?_)
  refine wpAny_bind (wpAny_holding (wpAny_bind (thn (hb.run pins _ σ _ _ I2 q1) fun u s3 got => ?_)))
  obtain ⟨y, H3, I3, ry, e, kvs2, rfl, hep, he, hl2, hp2, q2⟩ := got
  cases ry
  refine wpAny_bind (wpAny_standAt (wpAny_pure ?_))
  have hm : (mergeK [] kvs).length ≤ 1000 := by
    have h1 := length_mergeK kvs []
    rw [List.length_nil] at h1
    omega
  refine wpAny_bind (wpAny_onRaise (wpAny_tryCatch (wpAny_onRaise (wpAny_holding (inv_merge I3 hp2 he hep hm hl2 fun s4 I4 => ?_)))))
  refine wpAny_pure ?_
  dsimp only
  rw [List.forIn_nil]
  refine wpAny_pure ?_
  dsimp only
  refine wpAny_bind (wpAny_pure ?_)
  exact wpAny_pure ⟨.ref s.heap.objs.size, _, I4, rfl, q2⟩
/-- {**d, k: v} -/
def tDisp3 (ta tk tv : TE) : TE := fun σ H Q => ∀ p, H p = none → ta σ (upd H p (.dK [])) fun x H1 => ∃ d kvs, x = .ref d ∧ d ≠ p ∧ Rd H1 d (.dK kvs) ∧ kvs.length ≤ 1000 ∧ H1 p = some (.dK []) ∧
  ∀ q, q ≠ p → H1 q = none → tk σ (upd (upd H1 p (.dK (mergeK [] kvs))) q (.dK [])) fun y H2 => tv σ H2 fun z H3 => ∃ k, y = kV k ∧ H3 q = some (.dK []) ∧ H3 p = some (.dK (mergeK [] kvs)) ∧
    Q (.ref p) (upd (upd H3 q (.dK [(k, z)])) p (.dK (putK (mergeK [] kvs) k z)))
theorem pe_disp3 {a k v : Expr} {ta tk tv : TE} {pos : Pos} (ha : PE X a ta) (hk : PE X k tk) (hv : PE X v tv) : PE X (.Dict [none, some k] [a, v] pos) (tDisp3 ta tk tv) := by
  refine ⟨fun pins s σ H Q I q => ?_⟩
  rw [arm_eval_Dict]
  refine wpAny_bind (wpAny_standAt ?_)
  show wpAny _ _ (dictDisplay [(none, do let x ← eval a X.env; standAt pos; pure x), (some (eval k X.env), do let x ← eval v X.env; standAt pos; pure x)]) _ _ s
  unfold dictDisplay
  dsimp only
  have hn := I.hok.fresh (Nat.le_refl s.heap.objs.size)
  have I0 := I.laid (a := s.heap.objs.size) (o := .dK []) (h' := s.heap.push { cls := .type "dict", data := .dict #[] }) (t' := s.toks) (fun _ _ q => Heap.get?_push_of_some _ q) (Nat.le_refl _) (dk_empty s.heap I.big)
  refine wpAny_bind ?_
  rw [List.forIn_cons]
  refine wpAny_bind ?_
  refine wpAny_bind (wpAny_pure ?_)
  refine wpAny_bind (wpAny_alloc ?_)
  refine wpAny_bind (wpAny_holding (wpAny_bind (thn (ha.run pins _ σ _ _ I0 (q _ hn)) fun u s1 got => ?_)))
  obtain ⟨x, H1, I1, rx, d, kvs, rfl, hdp, hd, hl, hp, q1⟩ := got
  cases rx
  refine wpAny_bind (wpAny_standAt (wpAny_pure ?_))
  refine wpAny_bind (wpAny_onRaise (wpAny_tryCatch (wpAny_onRaise (wpAny_holding (inv_merge I1 hp hd hdp (Nat.zero_le _) hl fun s2 I2 => ?_)))))
  refine wpAny_pure ?_
  dsimp only
  rw [List.forIn_cons]
  refine wpAny_bind ?_
  refine wpAny_pure ?_
  dsimp only
  rw [List.forIn_nil]
  refine wpAny_pure ?_
  dsimp only
  refine wpAny_bind ?_
  rw [if_neg (by exact Bool.false_ne_true)]
  refine wpAny_bind (wpAny_holding ?_)
  have hn2 := I2.hok.fresh (Nat.le_refl s2.heap.objs.size)
  have hqp : s2.heap.objs.size ≠ s.heap.objs.size := fun z => by
    rw [z, upd_same] at hn2
    cases hn2
  have hn3 : H1 s2.heap.objs.size = none := by
    rw [upd_ne hqp] at hn2
    exact hn2
  have I3 := I2.laid (a := s2.heap.objs.size) (o := .dK []) (h' := s2.heap.push { cls := .type "dict", data := .dict #[] }) (t' := s2.toks) (fun _ _ q => Heap.get?_push_of_some _ q) (Nat.le_refl _) (dk_empty s2.heap I2.big)
  have hm : (mergeK [] kvs).length ≤ 1000 := by
    have h1 := length_mergeK kvs []
    rw [List.length_nil] at h1
    omega
  refine wpAny_subDict (knd := mixKind X.prog X.w) (show 1 ≤ 15 by omega) ?_
  refine evalPairs_cons (thn (hk.run pins _ σ _ _ I3 (q1 _ hqp hn3)) fun u4 s4 got => ?_)
  obtain ⟨y, H4, I4, ry, q4⟩ := got
  refine wpAny_bind (thn (hv.run pins _ σ _ _ I4 q4) fun u5 s5 got => ?_)
  obtain ⟨z, H5, I5, rz, key, rfl, hq5, hp5, q5⟩ := got
  refine wpAny_bind (wpAny_standAt (wpAny_pure ?_))
  refine evalPairs_nil ?_
  obtain ⟨z5, hS5, vs5, r5, dd5⟩ := dk_of I5.hok hq5
  cases r5
  refine ⟨[(key, u5)], ⟨kV_is ry, rfl, True.intro⟩, dd5, fun h' d1 hs => ?_⟩
  have he : ∃ q, h'.get? s2.heap.objs.size = some q := let ⟨q, _, _, hq, _⟩ := d1; ⟨q, hq⟩
  have I6 : Inv X pins σ (upd H5 s2.heap.objs.size (.dK [(key, z)])) { s5 with heap := h', toks := s5.toks + 1 } :=
    d_write I5 (by rw [hq5]; exact True.intro) hs he (dk_new (show 1 ≤ sizeLine by rw [sizeLine_eq]; omega) hS5 (.cons ⟨rfl, rz⟩ .nil) d1)
  refine wpAny_bind (wpAny_onRaise (wpAny_holding (inv_merge I6 (p := s.heap.objs.size) (old := mergeK [] kvs) (kvs := [(key, z)]) (by rw [upd_ne (Ne.symm hqp)]; exact hp5) (.inl upd_same) hqp hm (show 1 ≤ 1000 by omega) fun s7 I7 => ?_)))
  refine wpAny_pure ?_
  exact wpAny_pure ⟨.ref s.heap.objs.size, _, I7, rfl, q5⟩
end
end Pk
set_option maxHeartbeats 1000000
namespace Pk
open PySem PySem.Spec PyProof.Rows L2
/-! ### in a list of ints -/
theorem flat_ints (ns : List Int) : (ns.map V.int).all flatV = true := by
  rw [List.all_map, List.all_eq_true]
  exact fun _ _ => rfl
def rInI (K : PySem.W.Frag) (neg : Bool) : R2 := fun x y H Q => ∃ (i : Int) (p : Addr) (ns : List Int), x = .int i ∧ y = .ref p ∧ (SqL K H p (ns.map V.int) ∨ SqT K H p (ns.map V.int)) ∧ Q (.bl (if neg = true then !decide (i ∈ ns) else decide (i ∈ ns))) H
theorem inV_ints (i : Int) (ns : List Int) : inV (.int i) (ns.map V.int) = decide (i ∈ ns) := by
  unfold inV
  rw [List.any_map, Bool.eq_iff_iff, List.any_eq_true, decide_eq_true_iff]
  constructor
  · rintro ⟨x, hx, e⟩
    have e : (x == i) = true := e
    exact (beq_iff_eq.mp e) ▸ hx
  · exact fun h => ⟨i, h, by show (i == i) = true; simp⟩
section
variable {X : Cx} (K : PySem.W.Frag)
theorem inI (h : X.K = K := by rfl) : OpR X (compareOp .In) (rInI K false) := by
  subst h
  intro pins s σ H x y v u Q I rx ry hq
  obtain ⟨i, p, ns, rfl, rfl, hs, q⟩ := hq
  refine op_in_seq pins s σ H _ _ v u Q I rx ry ⟨p, _, rfl, hs, rfl, flat_ints ns, ?_⟩
  rw [if_neg (by decide), inV_ints]
  exact q
theorem ninI (h : X.K = K := by rfl) : OpR X (compareOp .NotIn) (rInI K true) := by
  subst h
  intro pins s σ H x y v u Q I rx ry hq
  obtain ⟨i, p, ns, rfl, rfl, hs, q⟩ := hq
  refine op_notIn_seq pins s σ H _ _ v u Q I rx ry ⟨p, _, rfl, hs, rfl, flat_ints ns, ?_⟩
  rw [if_pos rfl, inV_ints]
  exact q
end
/-! ### tables of ints -/
/-- the dict kv holds at each key of l its value, and no other key -/
def Tbl (kv : List (Key × V)) (l : List (Int × V)) : Prop := (∀ z, z ∈ l → valV kv (.inl z.1) = some z.2) ∧ ∀ c : Int, c ∉ l.map (·.1) → valV kv (.inl c) = none
theorem Tbl.nil : Tbl [] [] := ⟨fun _ m => absurd m List.not_mem_nil, fun _ _ => rfl⟩
theorem Tbl.put {kv : List (Key × V)} {l : List (Int × V)} (h : Tbl kv l) {c : Int} (v : V) (n : c ∉ l.map (·.1)) : Tbl (putK kv (.inl c) v) (l ++ [(c, v)]) := by
  refine ⟨fun z hz => ?_, fun d hd => ?_⟩
  · rw [valV_put]
    rcases List.mem_append.mp hz with m | m
    · rw [if_neg fun e => n (by rw [← Sum.inl.inj (show (Sum.inl z.1 : Key) = .inl c from e)]; exact List.mem_map.mpr ⟨z, m, rfl⟩)]
      exact h.1 z m
    · rw [List.mem_singleton.mp m, if_pos rfl]
  · rw [List.map_append, List.mem_append, not_or] at hd
    rw [valV_put, if_neg fun e => hd.2 (by rw [Sum.inl.inj (show (Sum.inl d : Key) = .inl c from e)]; exact List.mem_singleton.mpr rfl)]
    exact h.2 d hd.1
theorem Tbl.has {kv : List (Key × V)} {l : List (Int × V)} (h : Tbl kv l) (c : Int) : (valV kv (.inl c)).isSome = decide (c ∈ l.map (·.1)) := by
  by_cases m : c ∈ l.map (·.1)
  · obtain ⟨z, hz, rfl⟩ := List.mem_map.mp m
    rw [h.1 z hz, decide_eq_true m]
    rfl
  · rw [h.2 c m, decide_eq_false m]
    rfl
theorem nodup_take_next {α β : Type} (f : α → β) {l : List α} {i : Nat} {x : α} (hn : (l.map f).Nodup) (h : l[i]? = some x) : f x ∉ (l.take i).map f := fun m => by
  obtain ⟨u, hu, e⟩ := List.mem_map.mp m
  obtain ⟨j, hj, e3⟩ := List.getElem_of_mem hu
  rw [List.length_take] at hj
  rw [List.getElem_take] at e3
  obtain ⟨h1, e1⟩ := List.getElem?_eq_some_iff.mp h
  have := (List.getElem?_inj (i := j) (j := i) (by rw [List.length_map]; omega) hn).mp (by rw [List.getElem?_map, List.getElem?_map, List.getElem?_eq_getElem (by omega), h, e3]; show some (f u) = some (f x); rw [e])
  omega
theorem Dk.pr {H H' : Hp} {kvs : List (Key × V)} {R : List Trip} (h : Dk H kvs R) (k : Tk H H') (hn : (R.map (·.1)).Nodup) {t : Trip} (ht : t ∈ R) : ∃ p, valV kvs (ikey t.1) = some (.ref p) ∧ H' p = some (.tup [.int t.per, .int t.dsk]) := by
  obtain ⟨v, h1, h2⟩ := h.get hn ht
  obtain ⟨p, rfl, hp⟩ := dt_pair (h2.tmono k)
  exact ⟨p, h1, hp⟩
theorem nodup_lt0 {l : List Nat} {z : Nat} (hn : l.Nodup) (h : ∀ x, x ∈ l → x < z) : l.length ≤ z := by
  have q := nodup_sub_len l (List.range z) hn fun x hx => List.mem_range.mpr (h x hx)
  rwa [List.length_range] at q
theorem filter_take_next {α : Type} (f : α → Bool) {l : List α} {i : Nat} {x : α} (h : l[i]? = some x) : (l.take (i + 1)).filter f = if f x = true then (l.take i).filter f ++ [x] else (l.take i).filter f := by
  rw [List.take_add_one, h, List.filter_append]
  by_cases e : f x = true
  · rw [if_pos e]
    show _ ++ List.filter f [x] = _
    rw [List.filter_cons_of_pos e]
    rfl
  · rw [if_neg e]
    show _ ++ List.filter f [x] = _
    rw [List.filter_cons_of_neg e]
    exact List.append_nil _
theorem eqv_prs_nil (l : List Pair) : PyData.eqv (.list (l.map prD)) (.list []) = decide (l = []) := by
  rw [show PyData.eqv (.list (l.map prD)) (.list []) = PyData.eqvAll (l.map prD) (([] : List Pair).map prD) by simp only [PyData.eqv, List.map_nil], eqvAll_pr]
abbrev lkD (t : Trip) : PyData := .tuple [.int (t.1 : Int), .int t.per, .int t.dsk]
def sp_links_of : Sp := fun vs H Q _ => ∃ (v : V) (d o : Addr) (b : List (List Pair)) (R : List Trip) (ns : List Nat), vs = [v, .ref d, .ref o] ∧ Dt H v (bkD b) ∧ Book b ∧ DkAt H d R ∧ PickOk b R ∧
  H o = some (.tup (ns.map fun n : Nat => V.int (n : Int))) ∧ ns.Nodup ∧ (∀ n, n ∈ ns → n < b.length ∧ n ∉ nums R) ∧
  ∀ p l e xs H', Same H H' → H' p = some (.tup [.ref l, .bl e]) → (e = true → ∃ (L : List Trip) (t : Trip), H' l = some (.lst xs) ∧ DtAll H' xs ((L ++ [t]).map lkD) ∧ Links b R (L ++ [t]) ∧ t.dsk ∉ R.map Trip.dsk) → Q (.ref p) H'
section
variable {P : Program} {w : World} {K : PySem.W.Frag} {mg : Str → Option Value} {base : Heap}
theorem ok_links_of {f : Addr} {fd : FuncData} (F : Fun K "links_of" "links_of" s_links_of f fd) (G : Glob mg) : FnOk P w K mg base CX0 1 f fd ["book", "pick", "order"] sp_links_of := by
  refine F.ok c_links_of (fun vs H Q E h => ?_) (fun cdv A0 outer s H vs Q E hr h => ?_)
  · obtain ⟨v, d, o, b, R, ns, rfl, _⟩ := h
    rfl
  · obtain ⟨v, d, o, b, R, ns, rfl, hv, hb, ⟨kvs, hd, hk⟩, hp, ho, hnn, hns, q⟩ := h
    refine ⟨_, 
      (pss_cons (ps_set (i := 4) c_links_of.nd rfl (.inr rfl) (pe_lock (pe_dc (own := [("number", 3)]) rfl c_links_of.nd (pi_keys (pv 1)) (blkOk_by (own := [("number", 3)]) (N := n_links_of) (sc := defScope s_links_of) (by decide +kernel)) (fun _ _ _ _ _ => (pg_name (i := 3) c_links_of.nd rfl (.inl rfl))) (fun _ _ _ _ _ => pts_nil) (fun _ _ _ _ _ => (pe_ix (ixT K) (pe_dget (hu_of hr) (pv 1) (pv 3) (fun _ _ => rfl)) pe_int (fun _ _ => rfl))) (fun _ _ _ _ _ => (pe_ix (ixT K) (pe_dget (hu_of hr) (pv 1) (pv 3) (fun _ _ => rfl)) pe_int (fun _ _ => rfl))))))
      (pss_cons (ps_set (i := 5) c_links_of.nd rfl (.inr rfl) (pe_lock (pe_scI (own := [("number", 3)]) rfl c_links_of.nd (pi_keys (pv 1)) (blkOk_by (own := [("number", 3)]) (N := n_links_of) (sc := defScope s_links_of) (by decide +kernel)) (fun _ _ _ _ _ => (pg_name (i := 3) c_links_of.nd rfl (.inl rfl))) (fun _ _ _ _ _ => pts_nil) (fun _ _ _ _ _ => (pe_ix (ixT K) (pe_dget (hu_of hr) (pv 1) (pv 3) (fun _ _ => rfl)) pe_int (fun _ _ => rfl))))))
      (pss_cons (ps_set (i := 7) c_links_of.nd rfl (.inr rfl) (pe_lc (own := [("person", 6)]) rfl c_links_of.nd (pi_range1 rfl G.range (pa_cons (pe_op op_add (pe_mn G) pe_int) pa_nil)) (blkOk_by (own := [("person", 6)]) (N := n_links_of) (sc := defScope s_links_of) (by decide +kernel)) (fun _ _ _ _ _ => (pg_name (i := 6) c_links_of.nd rfl (.inl rfl))) (fun _ _ _ _ _ => (pts_one (pt_cmpR (snin w) (pv 6) (pv 5) (by rfl)))) (fun _ _ _ _ _ => (pv 6))))
      (pss_cons (ps_asg (pe_tup (pa_cons (pe_lst pa_nil) (pa_cons (pe_lst pa_nil) pa_nil))) (pgT K (n := 2) rfl (pgs_cons (pg_name (i := 8) c_links_of.nd rfl (.inr rfl)) (pgs_cons (pg_name (i := 9) c_links_of.nd rfl (.inl rfl)) pgs_nil))))
      (pss_cons (ps_for PassesOwn.never rfl (pi_tup (pv 2)) (pg_name (i := 3) c_links_of.nd rfl (.inl rfl)) 
          (pss_cons (ps_setLc (i := 11) (own := [("pair", 10)]) rfl c_links_of.nd rfl rfl (sw_true rfl rfl rfl (by decide +kernel)) (pi_tup (pe_ix (ixT K) (pv 0) (pv 3) (fun _ _ => rfl))) (blkOk_by (own := [("pair", 10)]) (N := n_links_of) (sc := defScope s_links_of) (by decide +kernel)) (fun _ _ _ _ _ => (pg_name (i := 10) c_links_of.nd rfl (.inl rfl))) (fun _ _ _ _ _ => (pts_one (PW.pt (pw_and (pt_cmpR (inI K) (pe_ix (ixT K) (pv 10) pe_int (fun _ _ => rfl)) (pv 7) (by rfl)) (pw_and1 (pt_cmpR (ninI K) (pe_ix (ixT K) (pv 10) pe_int (fun _ _ => rfl)) (pv 8) (by rfl))))))) (fun _ _ _ _ _ => (pv 10)))
          (pss_cons (ps_setLc (i := 12) (own := [("pair", 10)]) rfl c_links_of.nd rfl rfl (sw_true rfl rfl rfl (by decide +kernel)) (pi_list (pv 11)) (blkOk_by (own := [("pair", 10)]) (N := n_links_of) (sc := defScope s_links_of) (by decide +kernel)) (fun _ _ _ _ _ => (pg_name (i := 10) c_links_of.nd rfl (.inl rfl))) (fun _ _ _ _ _ => (pts_one (pt_cmp (pc_dnotin (hu_of hr) (pe_ix (ixT K) (pv 10) pe_int (fun _ _ => rfl)) (pv 4)) (by rfl)))) (fun _ _ _ _ _ => (pv 10)))
          (pss_cons (ps_if (pt_cmpR (neD K hr.units) (pv 12) (pe_lst pa_nil) (nomark _)) 
              (pss_one (ps_ret (pe_tup (pa_cons (pe_lst (StX.pa_star (pv 9) (pa_cons (pe_tup (pa_cons (pv 3) (pa_cons (pe_ix (ixT K) (pe_ix (ixL K) (pv 12) pe_int (fun _ _ => rfl)) pe_int (fun _ _ => rfl)) (pa_cons (pe_ix (ixT K) (pe_ix (ixL K) (pv 12) pe_int (fun _ _ => rfl)) pe_int (fun _ _ => rfl)) pa_nil)))) pa_nil))) (pa_cons pe_bl pa_nil))))) pss_nil)
          (pss_one (ps_if (pt_cmpR (neD K hr.units) (pv 11) (pe_lst pa_nil) (nomark _)) 
              (pss_cons (ps_expr (pe_bm PySem.F.plainAttrs_list PySem.F.slot_list_append PySem.F.type_list_append mt_append (pv 9) (pa_cons (pe_tup (pa_cons (pv 3) (pa_cons (pe_ix (ixT K) (pe_ix (ixL K) (pv 11) pe_int (fun _ _ => rfl)) pe_int (fun _ _ => rfl)) (pa_cons (pe_ix (ixT K) (pe_ix (ixL K) (pv 11) pe_int (fun _ _ => rfl)) pe_int (fun _ _ => rfl)) pa_nil)))) pa_nil)))
              (pss_cons (ps_expr (pe_bm PySem.F.plainAttrs_list PySem.F.slot_list_append PySem.F.type_list_append mt_append (pv 8) (pa_cons (pe_ix (ixT K) (pe_ix (ixL K) (pv 11) pe_int (fun _ _ => rfl)) pe_int (fun _ _ => rfl)) pa_nil)))
              (pss_one (ps_expr (pe_bm PySem.F.plainAttrs_list PySem.F.slot_list_append PySem.F.type_list_append mt_append (pv 7) (pa_cons (pe_dget (hu_of hr) (pv 4) (pe_ix (ixT K) (pe_ix (ixL K) (pv 11) pe_int (fun _ _ => rfl)) pe_int (fun _ _ => rfl)) (fun _ _ => rfl)) pa_nil)))))) pss_nil))))))
      (pss_one (ps_ret (pe_tup (pa_cons (pv 9) (pa_cons pe_bl pa_nil)))))))))), ?_⟩
    obtain ⟨B, xs, rfl, hB, hs, hxl⟩ := dt_book hv
    have hbl := hb.len
    have h8 := hp.len8 hb
    have hkl := hk.len
    have dg : ∀ {H' : Hp} {od : Obj} {t : Trip} {p : Addr}, H' d = some (.frz od (.dK kvs)) → valV kvs (ikey t.1) = some (.ref p) → DGet H' d (.int t.1) (some (.ref p)) := fun {H' od t p} h1 h2 => .inl ⟨kvs, ikey t.1, .inr ⟨od, h1⟩, rfl, h2.symm⟩
    -- holders
    refine ⟨d, _, hd, trivial, fun od => ⟨.ref d, rfl, d, od, rfl, .inl ⟨kvs, upd_same, fun D nD => ?_⟩⟩⟩
    have tl : Tk H (upd H d (.frz od (.dK kvs))) := tk_lock hd (fun _ z => by cases z)
    refine dcW nD (Wlk.keys upd_same) (fun i H kv => Tbl kv ((R.take i).map fun t : Trip => (t.dsk, V.int t.per))) (fun i H H' ys _ e => e) (by omega) Tbl.nil (fun i x H' kv hi s hx hY Q1 Q2 k1 k2 => ?_) fun H1 hkv s1 hD hYh => ?_
    · obtain ⟨k, u, hku, rfl⟩ := hx
      obtain ⟨t, ht, rfl, _⟩ := hk.at hku
      obtain ⟨p, hv1, hp1⟩ := hk.pr (H' := H') (fun a zs e => s _ _ (tl _ _ e)) hp.num (List.mem_of_getElem? ht)
      have hf := dg (s _ _ (upd_same (o := HO.frz od (.dK kvs)))) hv1
      refine ⟨rfl, .ref d, rfl, .int t.1, rfl, d, _, rfl, hf, p, _, 1, _, rfl, rfl, SqT.of hp1, atI_nat (j := 1) rfl, .ref d, rfl, .int t.1, rfl, d, _, rfl, hf, p, _, 0, _, rfl, rfl, SqT.of hp1, atI_nat (j := 0) rfl, k1 (.inl t.dsk) _ _ (Same.refl _) ?_⟩
      rw [map_take_next _ ht]
      refine hY.put _ ?_
      rw [List.map_map]
      exact nodup_take_next Trip.dsk hp.dsk ht
    have hdf := s1 _ _ upd_same
    have hDd := (new_lock nD).1
    have hHD := (new_lock nD).2
    refine ⟨hdf, ?_⟩
    have hD1 : (upd H1 d (.dK kvs)) D = some (.dK hkv) := by rw [upd_ne hDd]; exact hD
    rw [hkl, List.take_length] at hYh
    have sH1 : Same H (upd H1 d (.dK kvs)) := same_unlock hd s1
    clear s1 hD hdf nD
    generalize upd H1 d (.dK kvs) = H1 at sH1 hD1
    have hd1 := sH1 _ _ hd
    -- standing
    refine ⟨d, _, hd1, trivial, fun od2 => ⟨.ref d, rfl, d, od2, rfl, .inl ⟨kvs, upd_same, fun D2 nD2 => ?_⟩⟩⟩
    have tl2 : Tk H (upd H1 d (.frz od2 (.dK kvs))) := fun a zs e => tk_lock hd1 (fun _ z => by cases z) _ _ (sH1 _ _ e)
    refine scW nD2 (Wlk.keys upd_same) (fun i H ys => ys = (R.take i).map Trip.per) (fun i H H' ys _ e => e) (by omega) rfl (fun i x H' ys hi s hx hY Q1 Q2 k1 k2 => ?_) fun H2 ys s2 hl2 hD2 hY2 => ?_
    · obtain ⟨k, u, hku, rfl⟩ := hx
      obtain ⟨t, ht, rfl, _⟩ := hk.at hku
      obtain ⟨p, hv1, hp1⟩ := hk.pr (H' := H') (fun a zs e => s _ _ (tl2 _ _ e)) hp.num (List.mem_of_getElem? ht)
      have hf := dg (s _ _ (upd_same (o := HO.frz od2 (.dK kvs)))) hv1
      refine ⟨rfl, .ref d, rfl, .int t.1, rfl, d, _, rfl, hf, p, _, 0, _, rfl, rfl, SqT.of hp1, atI_nat (j := 0) rfl, k1 _ _ (Same.refl _) ?_⟩
      rw [hY, ← map_take_next _ ht]
    have hdf := s2 _ _ upd_same
    have hD2d := (new_lock nD2).1
    refine ⟨hdf, ?_⟩
    rw [hkl, List.take_length] at hY2
    subst hY2
    have hD2' : (upd H2 d (.dK kvs)) D2 = some (SetO w D2 (fun j => decide (j ∈ ded (R.map Trip.per))) (ded (R.map Trip.per)).length) := by rw [upd_ne hD2d]; exact hD2
    have sH2 : Same H1 (upd H2 d (.dK kvs)) := same_unlock hd1 s2
    clear s2 hD2 hdf nD2
    generalize upd H2 d (.dK kvs) = H2 at sH2 hD2'
    have sH02 := sH1.trans sH2
    -- reached
    refine ⟨7, 1, rfl, rfl, 8, rfl, by decide, by decide, fun D3 nD3 => ?_⟩
    refine lcW nD3 (Wlk.range 0 8) (fun i H ys => ∃ rs : List Int, ys = rs.map V.int ∧ rs.length ≤ i ∧ ∀ p, p ∈ rs → p ∉ R.map Trip.per) (fun i H H' ys _ e => e) (by decide) ⟨[], rfl, Nat.le_refl _, fun _ m => absurd m List.not_mem_nil⟩ (fun i x H' ys hi s hx hY Q1 Q2 k1 k2 => ?_) fun H3 ys s3 hD3 hY3 => ?_
    · subst hx
      obtain ⟨rs, rfl, hl, hm⟩ := hY
      refine ⟨rfl, .int (0 + (i : Int)), rfl, .ref D2, rfl, _, D2, _, _, rfl, rfl, s _ _ hD2', _, rfl, ?_⟩
      by_cases hi2 : (0 + (i : Int)) ∈ R.map Trip.per
      · rw [decide_eq_true ((mem_ded _ _).mpr hi2)]
        exact k2 _ (Same.refl _) ⟨rs, rfl, Nat.le_succ_of_le hl, hm⟩
      · rw [decide_eq_false fun m => hi2 ((mem_ded _ _).mp m)]
        refine ⟨.int (0 + (i : Int)), rfl, k1 _ _ (Same.refl _) ⟨rs ++ [0 + (i : Int)], by rw [List.map_append]; rfl, by rw [List.length_append]; exact Nat.succ_le_succ hl, fun p hp2 => ?_⟩⟩
        rcases List.mem_append.mp hp2 with m | m
        · exact hm p m
        · rw [List.mem_singleton.mp m]
          exact hi2
    obtain ⟨rs0, rfl, hrl, hr0⟩ := hY3
    -- seen, found
    refine ⟨by decide, fun sn nsn => ⟨by decide, fun fnd nfnd => ⟨by show 2 ≤ sizeLine; decide, fun tp ntp => ⟨tp, _, rfl, SqT.of upd_same, rfl, _, _, rfl, _, _, rfl, rfl, ?_⟩⟩⟩⟩
    have sX : Same H1 (upd (upd (upd H3 sn (.lst [])) fnd (.lst [])) tp (.tup [.ref sn, .ref fnd])) := (((sH2.trans s3).trans (same_new nsn)).trans (same_new nfnd)).trans (same_new ntp)
    have n3 : ∀ {a : Addr} {u : HO}, H3 a = some u → H a = none → True := fun _ _ => trivial
    have rn : H D3 = none := by
      cases hz : H D3 with
      | none => rfl
      | some u => rw [sH02 _ _ hz] at nD3; cases nD3
    have sH3 : Same H H3 := sH02.trans s3
    have snn : H sn = none := by
      cases hz : H sn with
      | none => rfl
      | some u => rw [sH3 _ _ hz] at nsn; cases nsn
    have sn3 : sn ≠ D3 := fun z => by rw [z, hD3] at nsn; cases nsn
    have fn3 : fnd ≠ D3 := fun z => by
      rw [z, upd_ne (Ne.symm sn3), hD3] at nfnd
      cases nfnd
    have fsn : fnd ≠ sn := fun z => by rw [z, upd_same] at nfnd; cases nfnd
    have fnn : H fnd = none := by
      cases hz : H fnd with
      | none => rfl
      | some u =>
        rw [upd_ne fsn, sH3 _ _ hz] at nfnd
        cases nfnd
    have t3 : tp ≠ D3 := fun z => by rw [z, upd_ne (Ne.symm fn3), upd_ne (Ne.symm sn3), hD3] at ntp; cases ntp
    have tsn : tp ≠ sn := fun z => by rw [z, upd_ne (Ne.symm fsn), upd_same] at ntp; cases ntp
    have tfn : tp ≠ fnd := fun z => by rw [z, upd_same] at ntp; cases ntp
    refine ⟨.ref o, rfl, o, rfl, ⟨_, SqT.of (sX _ _ (sH1 _ _ ho))⟩, ?_⟩
    refine for_tup (xs := ns.map fun n : Nat => V.int (n : Int)) (fun i σ H' => ∃ (L : List Trip) (rs : List Int) (fs : List V) (x3 x6 x10 x11 x12 : Option V), σ = [some (.ref B), some (.ref d), some (.ref o), x3, some (.ref D), some (.ref D2), x6, some (.ref D3), some (.ref sn), some (.ref fnd), x10, x11, x12] ∧
      Same H H' ∧ H' D = some (.dK hkv) ∧ H' D3 = some (.lst (rs.map V.int)) ∧ H' sn = some (.lst ((L.map Trip.dsk).map V.int)) ∧ H' fnd = some (.lst fs) ∧ DtAll H' fs (L.map lkD) ∧ Links b R L ∧ (∀ n, n ∈ nums L → n ∈ ns.take i) ∧
      (∀ p, p ∈ rs → p ∉ R.map Trip.per ∨ ∃ t' : Trip, t' ∈ L ∧ ∃ u : Trip, u ∈ R ∧ u.dsk = t'.dsk ∧ u.per = p) ∧ L.length ≤ i ∧ rs.length ≤ 8 + i) ?_ (fun i σ H' hi hP => ?_) (fun i x σ H' hx hP => ?_) fun σ H' hP => ?_
    · refine ⟨[], rs0, [], _, _, _, _, _, rfl, sH1.trans sX, sX _ _ hD1, ?_, ?_, ?_, .nil, Links.nil, fun _ m => absurd m List.not_mem_nil, fun p hp2 => .inl (hr0 p hp2), Nat.le_refl _, by omega⟩
      · rw [upd_ne (Ne.symm t3), upd_ne (Ne.symm fn3), upd_ne (Ne.symm sn3)]
        exact hD3
      · rw [upd_ne (Ne.symm tsn), upd_ne (Ne.symm fsn), upd_same]
        rfl
      · rw [upd_ne (Ne.symm tfn), upd_same]
    · obtain ⟨_, _, _, _, _, _, _, _, _, s1, _⟩ := hP
      exact SqT.of (s1 _ _ ho)
    · obtain ⟨L, rs, fs, x3, x6, x10, x11, x12, rfl, s1, hD', hR', hS', hF', hfd, hL, hnL, hrs, hl1, hl2⟩ := hP
      rw [List.getElem?_map] at hx
      cases hn0 : ns[i]? with
      | none => rw [hn0] at hx; cases hx
      | some n =>
      rw [hn0] at hx
      cases hx
      have hnm := List.mem_of_getElem? hn0
      obtain ⟨hnb, hnR⟩ := hns n hnm
      have hnl : n ∉ nums L := fun m => by
        have := hnL n m
        have := nodup_take_next id (by rw [List.map_id]; exact hnn) hn0
        rw [List.map_id] at this
        exact absurd ‹_› this
      have hil : i < 16 := by
        have l1 : i < ns.length := (List.getElem?_eq_some_iff.mp hn0).1
        have l2 : ns.length ≤ b.length := nodup_lt0 hnn fun x hx => (hns x hx).1
        omega
      have hmb : b[n]? = some (MB b n) := by
        rw [MB, List.getD_eq_getElem?_getD, List.getElem?_eq_getElem hnb]
        rfl
      obtain ⟨pv, hpv, hdpv⟩ := (hs.tmono (tk_same s1)).get (i := n) (d := plD (MB b n)) (by rw [List.getElem?_map, hmb]; rfl)
      obtain ⟨Bn, ps, rfl, hBn, hps, hpl⟩ := dt_plan hdpv
      have hfl : fs.length = L.length := hfd.len.trans (List.length_map ..)
      have hm8 : (MB b n).length ≤ 8 := (hb.plan _ (List.mem_of_getElem? hmb)).len8
      -- told
      refine ⟨.ref B, rfl, .int n, rfl, B, xs, n, .ref Bn, rfl, rfl, SqT.of (s1 _ _ hB), atI_nat hpv, Bn, rfl, ⟨ps, SqT.of hBn⟩, fun T nT => ?_⟩
      refine lcW nT (Wlk.tup (SqT.of hBn)) (fun j H ys => ∃ tl : List Pair, DtAll H ys (tl.map prD) ∧ tl.length ≤ j ∧ ∀ p, p ∈ tl → p ∈ MB b n ∧ p.1 ∈ rs ∧ p.2 ∉ L.map Trip.dsk) (fun _ H H' ys k e => let ⟨tl, e1, e2⟩ := e; ⟨tl, e1.mono k, e2⟩) (by omega) ⟨[], .nil, Nat.le_refl _, fun _ m => absurd m List.not_mem_nil⟩ (fun j x H2 ys hj s hx hY Q1 Q2 k1 k2 => ?_) fun H2 ys s2 hT hY => ?_
      · obtain ⟨tl, e1, e2, e3⟩ := hY
        obtain ⟨p, t, hpj, rfl, ht⟩ := (hps.tmono (tk_same s)).pr hx
        refine ⟨rfl, .ref t, rfl, t, _, 0, .int p.1, rfl, rfl, SqT.of ht, atI_nat (j := 0) rfl, .ref D3, rfl, p.1, D3, rs, rfl, rfl, .inl (SqL.of (s _ _ hR')), _, rfl, ?_⟩
        rw [if_neg (by decide)]
        by_cases hr2 : p.1 ∈ rs
        · rw [decide_eq_true hr2]
          refine ⟨.ref t, rfl, t, _, 1, .int p.2, rfl, rfl, SqT.of ht, atI_nat (j := 1) rfl, .ref sn, rfl, p.2, sn, L.map Trip.dsk, rfl, rfl, .inl (SqL.of (s _ _ hS')), _, rfl, ?_⟩
          rw [if_pos rfl]
          by_cases hd2 : p.2 ∈ L.map Trip.dsk
          · rw [decide_eq_true hd2]
            exact k2 _ (Same.refl _) ⟨tl, e1, Nat.le_succ_of_le e2, e3⟩
          · rw [decide_eq_false hd2]
            refine ⟨.ref t, rfl, k1 _ _ (Same.refl _) ⟨tl ++ [p], ?_, by rw [List.length_append]; exact Nat.succ_le_succ e2, fun p2 hp2 => ?_⟩⟩
            · rw [List.map_append]
              exact e1.app (.one (dt_mk ht))
            · rcases List.mem_append.mp hp2 with m | m
              · exact e3 p2 m
              · rw [List.mem_singleton.mp m]
                exact ⟨List.mem_of_getElem? hpj, hr2, hd2⟩
        · rw [decide_eq_false hr2]
          exact k2 _ (Same.refl _) ⟨tl, e1, Nat.le_succ_of_le e2, e3⟩
      obtain ⟨tl, htl, hl3, htp⟩ := hY
      have hyl : ys.length = tl.length := htl.len.trans (List.length_map ..)
      -- last
      refine ⟨.ref T, rfl, T, rfl, ⟨ys, SqL.of hT⟩, fun T2 nT2 => ?_⟩
      refine lcW nT2 (Wlk.list (SqL.of hT)) (fun j H ys => DtAll H ys (((tl.take j).filter fun p : Pair => decide (p.2 ∉ R.map Trip.dsk)).map prD)) (fun _ H H' ys k e => e.mono k) (by omega) .nil (fun j x H3 ys2 hj s hx hY Q1 Q2 k1 k2 => ?_) fun H3 zs s3 hT2 hzs => ?_
      · obtain ⟨p, t, hpj, rfl, ht⟩ := (htl.tmono (tk_same s)).pr hx
        refine ⟨rfl, .ref t, rfl, t, _, 1, .int p.2, rfl, rfl, SqT.of ht, atI_nat (j := 1) rfl, .ref D, rfl, D, _, rfl, .inl ⟨hkv, .inl p.2, .inl (s _ _ (s2 _ _ hD')), rfl, rfl⟩, _, rfl, ?_⟩
        have hth := (hYh.has p.2)
        have e0 : (R.map fun t : Trip => (t.dsk, V.int t.per)).map (·.1) = R.map Trip.dsk := by
          rw [List.map_map]
          rfl
        rw [e0] at hth
        rw [hth]
        by_cases hpd : p.2 ∈ R.map Trip.dsk
        · rw [decide_eq_true hpd]
          refine k2 _ (Same.refl _) ?_
          rw [filter_take_next _ hpj, if_neg (by simpa using hpd)]
          exact hY
        · rw [decide_eq_false hpd]
          refine ⟨.ref t, rfl, k1 _ _ (Same.refl _) ?_⟩
          rw [filter_take_next _ hpj, if_pos (by simpa using hpd), List.map_append]
          exact hY.app (.one (dt_mk ht))
      rw [hyl, List.take_length] at hzs
      have s13 : Same H' H3 := s2.trans s3
      have fD3 := s13 _ _ hR'
      have fsn2 := s13 _ _ hS'
      have ffn := s13 _ _ hF'
      have fD := s13 _ _ hD'
      have hT3 := s3 _ _ hT
      have htl3 := htl.tmono (tk_same s3)
      have hlasub : ∀ p, p ∈ (tl.filter fun p : Pair => decide (p.2 ∉ R.map Trip.dsk)) → p ∈ tl ∧ p.2 ∉ R.map Trip.dsk := fun p hp2 => by
        rw [List.mem_filter, decide_eq_true_iff] at hp2
        exact hp2
      have hlano : (tl.filter fun p : Pair => decide (p.2 ∉ R.map Trip.dsk)) = [] → ∀ p, p ∈ tl → p.2 ∈ R.map Trip.dsk := fun e p hp2 => by
        by_cases z : p.2 ∈ R.map Trip.dsk
        · exact z
        · have : p ∈ (tl.filter fun p : Pair => decide (p.2 ∉ R.map Trip.dsk)) := by
            rw [List.mem_filter, decide_eq_true_iff]
            exact ⟨hp2, z⟩
          rw [e] at this
          exact absurd this List.not_mem_nil
      generalize (tl.filter fun p : Pair => decide (p.2 ∉ R.map Trip.dsk)) = la at hzs hlasub hlano
      refine ⟨.ref T2, rfl, by decide, fun e1 ne1 => ?_⟩
      have s4 := same_new (o := HO.lst []) ne1
      refine ⟨.list (la.map prD), .list [], .lst (SqL.of (s4 _ _ hT2)) (hzs.tmono (tk_same s4)).dp, .lst (SqL.of upd_same) .nil, shaped_prs la, shaped_prs [], _, rfl, ?_⟩
      rw [eqv_prs_nil]
      have s14 := s13.trans s4
      cases hla : la with
      | cons p r =>
        rw [hla] at hzs
        rw [decide_eq_false (by simp)]
        obtain ⟨hp1, hp2⟩ := hlasub p (by rw [hla]; exact List.mem_cons_self)
        obtain ⟨hq1, hq2, hq3⟩ := htp p hp1
        cases hzs with
        | @cons z0 zs' _ _ hz0 hzr =>
          obtain ⟨t, rfl, ht⟩ := dt_pair (hz0.tmono (tk_same s4))
          have hT24 := s4 _ _ hT2
          refine ⟨.ref fnd, rfl, fnd, fs, rfl, .inr (SqL.of (s4 _ _ ffn)), .int n, rfl, .ref T2, rfl, T2, _, 0, .ref t, rfl, rfl, SqL.of hT24, atI_nat (j := 0) rfl, t, _, 0, .int p.1, rfl, rfl, SqT.of ht, atI_nat (j := 0) rfl,
            .ref T2, rfl, T2, _, 0, .ref t, rfl, rfl, SqL.of hT24, atI_nat (j := 0) rfl, t, _, 1, .int p.2, rfl, rfl, SqT.of ht, atI_nat (j := 1) rfl, by show 3 ≤ sizeLine; decide, fun a1 na1 => ⟨?_, fun l1 nl1 => ⟨by show 2 ≤ sizeLine; decide, fun r1 nr1 => ?_⟩⟩⟩
          · show (fs ++ [V.ref a1]).length ≤ sizeLine
            rw [List.length_append, hfl]
            show L.length + 1 ≤ sizeLine
            rw [sizeLine_eq]
            omega
          · have n1 : l1 ≠ r1 := ne_of_none upd_same nr1
            have s5 := same_new (o := HO.tup [V.int n, V.int p.1, V.int p.2]) na1
            have s6 := same_new (o := HO.lst (fs ++ [V.ref a1])) nl1
            have s7 := same_new (o := HO.tup [V.ref l1, V.bl true]) nr1
            have s57 := s6.trans s7
            have k5 := s57 _ _ (upd_same (a := a1) (o := HO.tup [V.int n, V.int p.1, V.int p.2]))
            refine q r1 l1 true (fs ++ [V.ref a1]) _ (s1.trans (s14.trans (s5.trans s57))) upd_same fun _ => ⟨L, (n, p), ?_, ?_, ?_, hp2⟩
            · rw [upd_ne n1, upd_same]
            · rw [List.map_append]
              exact (hfd.tmono (tk_same (s14.trans (s5.trans s57)))).app (.one (.tup k5 (.cons (.int _) (.cons (.int _) (.cons (.int _) .nil)))))
            · exact hL.snoc hnl hnR ⟨hnb, hq1⟩ hq3 (hrs _ hq2)
      | nil =>
        rw [decide_eq_true rfl]
        refine ⟨.ref T, rfl, by decide, fun e2 ne2 => ?_⟩
        have s5 := same_new (o := HO.lst []) ne2
        have hT5 := s5 _ _ (s4 _ _ hT3)
        refine ⟨.list (tl.map prD), .list [], .lst (SqL.of hT5) (htl3.tmono (tk_same (s4.trans s5))).dp, .lst (SqL.of upd_same) .nil, shaped_prs tl, shaped_prs [], _, rfl, ?_⟩
        rw [eqv_prs_nil]
        have s15 := s14.trans s5
        have hno := hlano hla
        cases htl0 : tl with
        | nil =>
          rw [decide_eq_true rfl]
          exact ⟨L, rs, fs, _, _, _, _, _, rfl, s1.trans s15, s15 _ _ hD', s15 _ _ hR', s15 _ _ hS', s15 _ _ hF', hfd.tmono (tk_same s15), hL, fun n m => List.take_subset_take_left _ (Nat.le_succ i) (hnL n m), hrs, by omega, by omega⟩
        | cons p r =>
          rw [decide_eq_false (by simp)]
          rw [htl0] at htl3
          obtain ⟨hq1, hq2, hq3⟩ := htp p (by rw [htl0]; exact List.mem_cons_self)
          obtain ⟨u, hu, eu⟩ := List.mem_map.mp (hno p (by rw [htl0]; exact List.mem_cons_self))
          generalize hH4 : upd (upd H3 e1 (HO.lst [])) e2 (HO.lst []) = H4 at s5 hT5 s15 ⊢
          have htl4 := htl3.tmono (tk_same (s4.trans s5))
          cases htl4 with
          | @cons z0 zs' _ _ hz0 hzr =>
            obtain ⟨t, rfl, ht⟩ := dt_pair hz0
            refine ⟨.ref fnd, rfl, .inl ⟨rfl, _, SqL.of (s15 _ _ hF')⟩, .int n, rfl, .ref T, rfl, T, _, 0, .ref t, rfl, rfl, SqL.of hT5, atI_nat (j := 0) rfl, t, _, 0, .int p.1, rfl, rfl, SqT.of ht, atI_nat (j := 0) rfl,
              .ref T, rfl, T, _, 0, .ref t, rfl, rfl, SqL.of hT5, atI_nat (j := 0) rfl, t, _, 1, .int p.2, rfl, rfl, SqT.of ht, atI_nat (j := 1) rfl, by show 3 ≤ sizeLine; decide, fun a1 na1 => ?_⟩
            have s6 := same_new (o := HO.tup [V.int n, V.int p.1, V.int p.2]) na1
            have s16 := s15.trans s6
            have k5 := upd_same (H := H4) (a := a1) (o := HO.tup [V.int n, V.int p.1, V.int p.2])
            generalize upd H4 a1 (HO.tup [V.int n, V.int p.1, V.int p.2]) = H5 at s6 s16 k5 ⊢
            have hF5 := s16 _ _ hF'
            have hS5 := s16 _ _ hS'
            have hR5 := s16 _ _ hR'
            have hD5 := s16 _ _ hD'
            have hT6 := s6 _ _ hT5
            have ht6 := s6 _ _ ht
            have TF : T ≠ fnd := Ne.symm (ne_of_none hF' nT)
            have TS : T ≠ sn := Ne.symm (ne_of_none hS' nT)
            have tF : t ≠ fnd := ne_of ht6 hF5 (by intro z; cases z)
            have tS : t ≠ sn := ne_of ht6 hS5 (by intro z; cases z)
            have DF : D ≠ fnd := ne_of hD5 hF5 (by intro z; cases z)
            have DS : D ≠ sn := ne_of hD5 hS5 (by intro z; cases z)
            have D3D : D ≠ D3 := ne_of hD5 hR5 (by intro z; cases z)
            refine ⟨fnd, fs, .ref a1, rfl, rfl, hF5, by rw [hfl, sizeLine_eq]; omega, ?_⟩
            have hS6 : (upd H5 fnd (.lst (fs ++ [.ref a1]))) sn = _ := (upd_ne (Ne.symm fsn)).trans hS5
            have hT7 : (upd H5 fnd (.lst (fs ++ [.ref a1]))) T = _ := (upd_ne TF).trans hT6
            have ht7 : (upd H5 fnd (.lst (fs ++ [.ref a1]))) t = _ := (upd_ne tF).trans ht6
            refine ⟨.ref sn, rfl, .inl ⟨rfl, _, SqL.of hS6⟩, .ref T, rfl, T, _, 0, .ref t, rfl, rfl, SqL.of hT7, atI_nat (j := 0) rfl, t, _, 1, .int p.2, rfl, rfl, SqT.of ht7, atI_nat (j := 1) rfl,
              sn, _, .int p.2, rfl, rfl, hS6, by rw [List.length_map, List.length_map, sizeLine_eq]; omega, ?_⟩
            have hT8 : (upd (upd H5 fnd (.lst (fs ++ [.ref a1]))) sn (.lst ((L.map Trip.dsk).map V.int ++ [.int p.2]))) T = _ := (upd_ne TS).trans hT7
            have ht8 : (upd (upd H5 fnd (.lst (fs ++ [.ref a1]))) sn (.lst ((L.map Trip.dsk).map V.int ++ [.int p.2]))) t = _ := (upd_ne tS).trans ht7
            have hD8 : (upd (upd H5 fnd (.lst (fs ++ [.ref a1]))) sn (.lst ((L.map Trip.dsk).map V.int ++ [.int p.2]))) D = _ := (upd_ne DS).trans ((upd_ne DF).trans hD5)
            have hR8 : (upd (upd H5 fnd (.lst (fs ++ [.ref a1]))) sn (.lst ((L.map Trip.dsk).map V.int ++ [.int p.2]))) D3 = _ := (upd_ne (Ne.symm sn3)).trans ((upd_ne (Ne.symm fn3)).trans hR5)
            have hval : valV hkv (.inl p.2) = some (.int u.per) := by
              rw [← eu]
              exact hYh.1 (u.dsk, .int u.per) (List.mem_map.mpr ⟨u, hu, rfl⟩)
            refine ⟨.ref D3, rfl, .inl ⟨rfl, _, SqL.of hR8⟩, .ref D, rfl, .ref T, rfl, T, _, 0, .ref t, rfl, rfl, SqL.of hT8, atI_nat (j := 0) rfl, t, _, 1, .int p.2, rfl, rfl, SqT.of ht8, atI_nat (j := 1) rfl,
              D, .int u.per, rfl, .inl ⟨hkv, .inl p.2, .inl hD8, rfl, hval.symm⟩, D3, _, .int u.per, rfl, rfl, hR8, by rw [List.length_map, sizeLine_eq]; omega, ?_⟩
            have tk : Tk H5 (upd (upd (upd H5 fnd (.lst (fs ++ [.ref a1]))) sn (.lst ((L.map Trip.dsk).map V.int ++ [.int p.2]))) D3 (.lst (rs.map V.int ++ [.int u.per]))) := fun a zs e =>
              (wk_lst hR8).tup _ _ ((wk_lst hS6).tup _ _ ((wk_lst hF5).tup _ _ e))
            refine ⟨L ++ [(n, p)], rs ++ [u.per], fs ++ [.ref a1], _, _, _, _, _, rfl, same_put (same_put (same_put (s1.trans s16) fnn) snn) rn, (upd_ne D3D).trans hD8, ?_, ?_, ?_, ?_, ?_, ?_, ?_, ?_, ?_⟩
            · rw [upd_same, List.map_append]
              rfl
            · rw [upd_ne sn3, upd_same, List.map_append, List.map_append]
              rfl
            · rw [upd_ne fn3, upd_ne fsn, upd_same]
            · rw [List.map_append]
              exact ((hfd.tmono (tk_same s16)).tmono tk).app (.one (.tup (tk _ _ k5) (.cons (.int _) (.cons (.int _) (.cons (.int _) .nil)))))
            · exact hL.snoc hnl hnR ⟨hnb, hq1⟩ hq3 (hrs _ hq2)
            · intro m hm
              rw [nums, List.map_append] at hm
              rw [List.take_add_one, hn0]
              rcases List.mem_append.mp hm with z | z
              · exact List.mem_append_left _ (hnL m z)
              · exact List.mem_append_right _ z
            · intro q2 hq2
              rcases List.mem_append.mp hq2 with z | z
              · rcases hrs q2 z with y | ⟨t', ht', u', y⟩
                · exact .inl y
                · exact .inr ⟨t', List.mem_append_left _ ht', u', y⟩
              · rw [List.mem_singleton.mp z]
                exact .inr ⟨(n, p), List.mem_append_right _ (List.mem_singleton.mpr rfl), u, hu, eu, rfl⟩
            · rw [List.length_append]
              exact Nat.succ_le_succ hl1
            · rw [List.length_append]
              show rs.length + 1 ≤ 8 + (i + 1)
              omega
    · obtain ⟨L, rs, fs, x3, x6, x10, x11, x12, rfl, s1, _⟩ := hP
      refine ⟨.ref fnd, rfl, by show 2 ≤ sizeLine; decide, fun tp2 np2 => ?_⟩
      exact q tp2 fnd false [] _ (s1.trans (same_new np2)) upd_same fun z => nomatch z
end
end Pk
set_option maxHeartbeats 1000000
namespace Pk
open PySem PySem.Spec PyProof.Rows L2
def sp_path_of : Sp := fun vs H Q _ => ∃ (v : V) (d o : Addr) (b : List (List Pair)) (R : List Trip) (ns : List Nat), vs = [v, .ref d, .ref o] ∧ Dt H v (bkD b) ∧ Book b ∧ DkAt H d R ∧ PickOk b R ∧
  H o = some (.tup (ns.map fun n : Nat => V.int (n : Int))) ∧ ns.Nodup ∧ (∀ n, n ∈ ns → n < b.length ∧ n ∉ nums R) ∧
  (∀ H', Same H H' → Q .non H') ∧ ∀ l xs S H', Same H H' → H' l = some (.lst xs) → DtAll H' xs (S.map lkD) → PathOk b R S → Q (.ref l) H'
theorem DtAll.lk {H : Hp} {xs : List V} {L : List Trip} (h : DtAll H xs (L.map lkD)) {i : Nat} {t : Trip} (ht : L[i]? = some t) : ∃ a, xs[i]? = some (.ref a) ∧ H a = some (.tup [.int t.1, .int t.per, .int t.dsk]) := by
  obtain ⟨x, hx, hd⟩ := h.get (i := i) (d := lkD t) (by rw [List.getElem?_map, ht]; rfl)
  cases hd with
  | @tup a ys _ ha hs =>
    cases hs with
    | cons h1 h2 =>
      cases h1
      cases h2 with
      | cons h3 h4 =>
        cases h3
        cases h4 with
        | cons h5 h6 =>
          cases h5
          cases h6
          exact ⟨a, hx, ha⟩
/-- a path under way -/
structure Way (R L S : List Trip) (i : Nat) : Prop where
  at_ : ∃ t r, S = t :: r ∧ L[i]? = some t ∧ r.Sublist (L.drop (i + 1))
  chn : Chained R S
  last : ∃ r t, S = r ++ [t] ∧ t.dsk ∉ R.map Trip.dsk
theorem drop_at {α : Type} {l : List α} {i : Nat} {x : α} (h : l[i]? = some x) : l.drop i = x :: l.drop (i + 1) := by
  obtain ⟨h1, e⟩ := List.getElem?_eq_some_iff.mp h
  rw [List.drop_eq_getElem_cons h1, e]
theorem Way.sub {R L S : List Trip} {i : Nat} (h : Way R L S i) : S.Sublist L := by
  obtain ⟨t, r, e, e2, e3⟩ := h.at_
  rw [e]
  have : (t :: r).Sublist (L.drop i) := by
    rw [drop_at e2]
    exact e3.cons_cons t
  exact this.trans (List.drop_sublist _ _)
theorem Way.ok {b : List (List Pair)} {R L S : List Trip} {i : Nat} (h : Way R L S i) (hL : Links b R L) {t : Trip} {r : List Trip} (e : S = t :: r) (ht : t.per ∉ R.map Trip.per) : PathOk b R S where
  num := hL.num.sublist (h.sub.map _)
  fresh := fun x hx => hL.fresh x (h.sub.subset hx)
  mem := fun x hx => hL.mem x (h.sub.subset hx)
  dsk := hL.dsk.sublist (h.sub.map _)
  chn := h.chn
  head := ⟨t, r, e, ht⟩
  last := h.last
theorem Way.back {R L S : List Trip} {i j : Nat} {t t' u : Trip} {r : List Trip} (h : Way R L S i) (e : S = t :: r) (hj : j < i) (ht' : L[j]? = some t') (hu : u ∈ R) (e1 : u.dsk = t'.dsk) (e2 : u.per = t.per) : Way R L (t' :: S) j := by
  refine ⟨⟨t', S, rfl, ht', ?_⟩, ?_, ?_⟩
  · obtain ⟨t2, r2, e3, e4, e5⟩ := h.at_
    have q : S.Sublist (L.drop i) := by
      rw [e3, drop_at e4]
      exact e5.cons_cons t2
    refine q.trans ?_
    have : L.drop i = (L.drop (j + 1)).drop (i - (j + 1)) := by
      rw [List.drop_drop]
      congr 1
      omega
    rw [this]
    exact List.drop_sublist _ _
  · have c := h.chn
    rw [e] at c ⊢
    exact ⟨⟨u, hu, e1, e2⟩, c⟩
  · obtain ⟨r3, t3, e3, e4⟩ := h.last
    exact ⟨t' :: r3, t3, by rw [e3]; rfl, e4⟩
section
variable {P : Program} {w : World} {K : PySem.W.Frag} {mg : Str → Option Value} {base : Heap}
theorem ok_path_of {f : Addr} {fd : FuncData} (F : Fun K "path_of" "path_of" s_path_of f fd) (G : Glob mg) (C_links_of : Cal P w K mg base CX0 1 "links_of" ["book", "pick", "order"] sp_links_of) : FnOk P w K mg base CX0 2 f fd ["book", "pick", "order"] sp_path_of := by
  refine F.ok c_path_of (fun vs H Q E h => ?_) (fun cdv A0 outer s H vs Q E hr h => ?_)
  · obtain ⟨v, d, o, b, R, ns, rfl, _⟩ := h
    rfl
  · obtain ⟨v, d, o, b, R, ns, rfl, hv, hb, ⟨kvs, hd, hk⟩, hp, ho, hnn, hns, q0, q⟩ := h
    refine ⟨_, 
      (pss_cons (ps_asg (pe_cal C_links_of hr pass0 (pa_cons (pv 0) (pa_cons (pv 1) (pa_cons (pv 2) pa_nil)))) (pgT K (n := 2) rfl (pgs_cons (pg_name (i := 3) c_path_of.nd rfl (.inl rfl)) (pgs_cons (pg_name (i := 4) c_path_of.nd rfl (.inl rfl)) pgs_nil))))
      (pss_cons (ps_if (pt_not (pt_val (pv 4))) 
          (pss_one (ps_ret pe_non)) pss_nil)
      (pss_cons (ps_lock (ps_setDc (i := 6) (own := [("number", 5)]) rfl c_path_of.nd rfl rfl (sw_trueD rfl rfl rfl (by decide +kernel)) (pi_keys (pv 1)) (blkOk_by (own := [("number", 5)]) (N := n_path_of) (sc := defScope s_path_of) (by decide +kernel)) (fun _ _ _ _ _ => (pg_name (i := 5) c_path_of.nd rfl (.inl rfl))) (fun _ _ _ _ _ => pts_nil) (fun _ _ _ _ _ => (pe_ix (ixT K) (pe_dget (hu_of hr) (pv 1) (pv 5) (fun _ _ => rfl)) pe_int (fun _ _ => rfl))) (fun _ _ _ _ _ => (pe_ix (ixT K) (pe_dget (hu_of hr) (pv 1) (pv 5) (fun _ _ => rfl)) pe_int (fun _ _ => rfl)))))
      (pss_cons (ps_setDc (i := 8) (own := [("link", 7)]) rfl c_path_of.nd rfl rfl (sw_trueD rfl rfl rfl (by decide +kernel)) (pi_list (pv 3)) (blkOk_by (own := [("link", 7)]) (N := n_path_of) (sc := defScope s_path_of) (by decide +kernel)) (fun _ _ _ _ _ => (pg_name (i := 7) c_path_of.nd rfl (.inl rfl))) (fun _ _ _ _ _ => pts_nil) (fun _ _ _ _ _ => (pe_ix (ixT K) (pv 7) pe_int (fun _ _ => rfl))) (fun _ _ _ _ _ => (pv 7)))
      (pss_cons (ps_set (i := 9) c_path_of.nd rfl (.inl rfl) (pe_lst (pa_cons (pe_ix (ixL K) (pv 3) (pe_un un_neg pe_int) (fun _ _ => rfl)) pa_nil)))
      (pss_cons (ps_while PassesOwn.never (pt_cmp (pc_din (hu_of hr) (pe_ix (ixT K) (pe_ix (ixL K) (pv 9) pe_int (fun _ _ => rfl)) pe_int (fun _ _ => rfl)) (pv 6)) (by rfl)) 
          (pss_one (ps_set (i := 9) c_path_of.nd rfl (.inl rfl) (pe_op op_cat (pe_lst (pa_cons (pe_dget (hu_of hr) (pv 8) (pe_dget (hu_of hr) (pv 6) (pe_ix (ixT K) (pe_ix (ixL K) (pv 9) pe_int (fun _ _ => rfl)) pe_int (fun _ _ => rfl)) (fun _ _ => rfl)) (fun _ _ => rfl)) pa_nil)) (pv 9)))))
      (pss_one (ps_ret (pv 9))))))))), ?_⟩
    have h8 := hp.len8 hb
    have hkl := hk.len
    refine ⟨v, rfl, .ref d, rfl, .ref o, rfl, v, d, o, b, R, ns, rfl, hv, hb, ⟨kvs, hd, hk⟩, hp, ho, hnn, hns, fun tp l e xs H1 s1 htp hT => ?_⟩
    refine ⟨tp, _, rfl, SqT.of htp, rfl, _, _, rfl, _, _, rfl, rfl, ?_⟩
    refine ⟨.bl e, rfl, e, rfl, ?_⟩
    cases e with
    | false => exact q0 _ s1
    | true =>
      obtain ⟨L, t, hl, hxs, hL, hfree⟩ := hT rfl
      have hd1 := s1 _ _ hd
      generalize hLx : L ++ [t] = Lx at hL hxs
      have hlx : xs.length = Lx.length := hxs.len.trans (List.length_map ..)
      have hLlen : Lx.length ≤ 100 := by
        have := nodup_lt0 hL.num fun n hn => by
          obtain ⟨x, hx, e⟩ := List.mem_map.mp hn
          exact e ▸ (hL.mem x hx).1
        rw [nums, List.length_map] at this
        have := hb.len
        omega
      -- desks
      refine ⟨d, _, hd1, trivial, fun od => ⟨.ref d, rfl, d, od, rfl, .inl ⟨kvs, upd_same, fun D nD => ?_⟩⟩⟩
      have tl : Tk H (upd H1 d (.frz od (.dK kvs))) := fun a zs e => tk_lock hd1 (fun _ z => by cases z) _ _ (s1 _ _ e)
      refine dcW nD (Wlk.keys upd_same) (fun i H kv => Tbl kv ((R.take i).map fun t : Trip => (t.per, V.int t.dsk))) (fun i H H' ys _ e => e) (by omega) Tbl.nil (fun i x H' kv hi s hx hY Q1 Q2 k1 k2 => ?_) fun H2 hkv s2 hD hYh => ?_
      · obtain ⟨k, u, hku, rfl⟩ := hx
        obtain ⟨t, ht, rfl, _⟩ := hk.at hku
        obtain ⟨p, hv1, hp1⟩ := hk.pr (H' := H') (fun a zs e => s _ _ (tl _ _ e)) hp.num (List.mem_of_getElem? ht)
        have hf : DGet H' d (.int t.1) (some (.ref p)) := .inl ⟨kvs, ikey t.1, .inr ⟨od, s _ _ (upd_same (o := HO.frz od (.dK kvs)))⟩, rfl, hv1.symm⟩
        refine ⟨rfl, .ref d, rfl, .int t.1, rfl, d, _, rfl, hf, p, _, 0, _, rfl, rfl, SqT.of hp1, atI_nat (j := 0) rfl, .ref d, rfl, .int t.1, rfl, d, _, rfl, hf, p, _, 1, _, rfl, rfl, SqT.of hp1, atI_nat (j := 1) rfl, k1 (.inl t.per) _ _ (Same.refl _) ?_⟩
        rw [map_take_next _ ht]
        refine hY.put _ ?_
        rw [List.map_map]
        exact nodup_take_next Trip.per hp.per ht
      have hdf := s2 _ _ upd_same
      have hDd := (new_lock nD).1
      refine ⟨hdf, ?_⟩
      have hD1 : (upd H2 d (.dK kvs)) D = some (.dK hkv) := by rw [upd_ne hDd]; exact hD
      rw [hkl, List.take_length] at hYh
      have sH2 : Same H1 (upd H2 d (.dK kvs)) := same_unlock hd1 s2
      clear s2 hD hdf nD
      generalize upd H2 d (.dK kvs) = H2 at sH2 hD1
      have hxs2 := hxs.tmono (tk_same sH2)
      have hl2 := sH2 _ _ hl
      -- told
      refine ⟨.ref l, rfl, l, rfl, ⟨xs, SqL.of hl2⟩, fun D2 nD2 => ?_⟩
      refine dcW nD2 (Wlk.list (SqL.of hl2)) (fun i H kv => Tbl kv (((Lx.zip xs).take i).map fun z : Trip × V => (z.1.dsk, z.2))) (fun i H H' ys _ e => e) (by omega) Tbl.nil (fun i x H' kv hi s hx hY Q1 Q2 k1 k2 => ?_) fun H3 tkv s3 hD2 hYt => ?_
      · have hi2 : i < Lx.length := by omega
        obtain ⟨a, hxa, ha⟩ := (hxs2.tmono (tk_same s)).lk (List.getElem?_eq_getElem hi2)
        rw [hxa] at hx
        cases hx
        refine ⟨rfl, .ref a, rfl, a, _, 2, _, rfl, rfl, SqT.of ha, atI_nat (j := 2) rfl, .ref a, rfl, k1 (.inl _) _ _ (Same.refl _) ?_⟩
        have hz : (Lx.zip xs)[i]? = some (Lx[i], .ref a) := by
          rw [List.getElem?_zip_eq_some]
          exact ⟨List.getElem?_eq_getElem hi2, hxa⟩
        rw [map_take_next _ hz]
        refine hY.put _ ?_
        rw [List.map_map]
        have e0 : (Lx.zip xs).map (fun z : Trip × V => z.1.dsk) = Lx.map Trip.dsk := by
          have : (Lx.zip xs).map Prod.fst = Lx := List.map_fst_zip (by omega)
          rw [← congrArg (List.map Trip.dsk) this, List.map_map]
          rfl
        have := nodup_take_next (fun z : Trip × V => z.1.dsk) (by rw [e0]; exact hL.dsk) hz
        exact this
      have hlz : (Lx.zip xs).length = xs.length := by
        rw [List.length_zip]
        omega
      rw [← hlz, List.take_length] at hYt
      have hl3 := s3 _ _ hl2
      have hxs3 := hxs2.tmono (tk_same s3)
      have hD3 := s3 _ _ hD1
      have s13 := s1.trans (sH2.trans s3)
      -- the last link
      have hLt : Lx[L.length]? = some t := by
        rw [← hLx, List.getElem?_append_right (Nat.le_refl _), Nat.sub_self]
        rfl
      have hLxl : Lx.length = L.length + 1 := by rw [← hLx, List.length_append]; rfl
      obtain ⟨a, hxa, ha⟩ := hxs3.lk hLt
      have hat : atI xs (-1) = some (.ref a) := by
        have : xs = xs.take L.length ++ [.ref a] := by
          have e := List.take_append_drop L.length xs
          rw [drop_at hxa, List.drop_of_length_le (by omega)] at e
          exact e.symm
        rw [this]
        exact atI_last _ _
      refine ⟨.ref l, rfl, 1, rfl, l, xs, -1, .ref a, rfl, rfl, SqL.of hl3, hat, by show 1 ≤ sizeLine; decide, fun f0 nf0 => ?_⟩
      have s4 := same_new (o := HO.lst [.ref a]) nf0
      have way0 : Way R Lx [t] L.length := ⟨⟨t, [], rfl, hLt, List.nil_sublist _⟩, trivial, ⟨[], t, rfl, hfree⟩⟩
      refine ⟨fun m σ H' => ∃ (S : List Trip) (fl : Addr) (fs : List V) (x5 x7 : Option V), σ = [some v, some (.ref d), some (.ref o), some (.ref l), some (.bl true), x5, some (.ref D), x7, some (.ref D2), some (.ref fl)] ∧ Same H3 H' ∧ H' fl = some (.lst fs) ∧ DtAll H' fs (S.map lkD) ∧ Way R Lx S m,
        ⟨L.length, [t], f0, [.ref a], _, _, rfl, s4, upd_same, .one (.tup (s4 _ _ ha) (.cons (.int _) (.cons (.int _) (.cons (.int _) .nil)))), way0⟩, fun m σ H' hw => ?_⟩
      obtain ⟨S, fl, fs, x5, x7, rfl, s5, hfl, hfs, hway⟩ := hw
      obtain ⟨t1, r1, eS, hm1, hm2⟩ := hway.at_
      obtain ⟨a1, hxa1, ha1⟩ := hfs.lk (i := 0) (t := t1) (by rw [eS]; rfl)
      have hD5 := s5 _ _ hD3
      have hD25 := s5 _ _ hD2
      refine ⟨.ref fl, rfl, fl, fs, 0, .ref a1, rfl, rfl, SqL.of hfl, atI_nat (j := 0) hxa1, a1, _, 1, _, rfl, rfl, SqT.of ha1, atI_nat (j := 1) rfl, .ref D, rfl, D, valV hkv (.inl t1.per), rfl, .inl ⟨hkv, .inl t1.per, .inl hD5, rfl, rfl⟩, _, rfl, ?_⟩
      have hth := hYh.has t1.per
      have e0 : (R.map fun t : Trip => (t.per, V.int t.dsk)).map (·.1) = R.map Trip.per := by
        rw [List.map_map]
        rfl
      rw [e0] at hth
      rw [hth]
      by_cases hpd : t1.per ∈ R.map Trip.per
      · rw [decide_eq_true hpd]
        rcases hL.per m t1 hm1 with z | ⟨j, t', u, hj, ht', hu, e1, e2⟩
        · exact absurd hpd z
        obtain ⟨a', hxa', ha'⟩ := hxs3.lk ht'
        have hval : valV hkv (.inl t1.per) = some (.int u.dsk) := by
          rw [← e2]
          exact hYh.1 (u.per, .int u.dsk) (List.mem_map.mpr ⟨u, hu, rfl⟩)
        have hvt : valV tkv (.inl u.dsk) = some (.ref a') := by
          rw [e1]
          refine hYt.1 (t'.dsk, .ref a') (List.mem_map.mpr ⟨(t', .ref a'), ?_, rfl⟩)
          have hz : (Lx.zip xs)[j]? = some (t', .ref a') := by
            rw [List.getElem?_zip_eq_some]
            exact ⟨ht', hxa'⟩
          exact List.mem_of_getElem? hz
        refine ⟨fun σ' H'' => ∃ j, j < m ∧ ∃ (S : List Trip) (fl : Addr) (fs : List V) (x5 x7 : Option V), σ' = [some v, some (.ref d), some (.ref o), some (.ref l), some (.bl true), x5, some (.ref D), x7, some (.ref D2), some (.ref fl)] ∧ Same H3 H'' ∧ H'' fl = some (.lst fs) ∧ DtAll H'' fs (S.map lkD) ∧ Way R Lx S j,
          fun σ' H'' hn => hn, ?_⟩
        refine ⟨.ref D2, rfl, .ref D, rfl, .ref fl, rfl, fl, fs, 0, .ref a1, rfl, rfl, SqL.of hfl, atI_nat (j := 0) hxa1, a1, _, 1, _, rfl, rfl, SqT.of ha1, atI_nat (j := 1) rfl, D, .int u.dsk, rfl, .inl ⟨hkv, .inl t1.per, .inl hD5, rfl, hval.symm⟩,
          D2, .ref a', rfl, .inl ⟨tkv, .inl u.dsk, .inl hD25, rfl, hvt.symm⟩, by show 1 ≤ sizeLine; decide, fun nl nnl => ?_⟩
        have s6 := same_new (o := HO.lst [.ref a']) nnl
        have hfsl : fs.length = S.length := hfs.len.trans (List.length_map ..)
        have hSl : S.length ≤ Lx.length := hway.sub.length_le
        refine ⟨.ref fl, rfl, nl, fl, [.ref a'], fs, rfl, rfl, upd_same, s6 _ _ hfl, by rw [hfsl, sizeLine_eq]; show 1 + S.length ≤ _; omega, fun p np => ?_⟩
        have s7 := same_new (o := HO.lst ([.ref a'] ++ fs)) np
        refine ⟨j, hj, t' :: S, p, _, _, _, rfl, s5.trans (s6.trans s7), upd_same, ?_, hway.back eS hj ht' hu e1 e2⟩
        exact .cons (.tup (s7 _ _ (s6 _ _ (s5 _ _ ha'))) (.cons (.int _) (.cons (.int _) (.cons (.int _) .nil)))) (hfs.tmono (tk_same (s6.trans s7)))
      · rw [decide_eq_false hpd]
        exact ⟨.ref fl, rfl, q fl fs S _ (s13.trans s5) hfl hfs (hway.ok hL eS hpd)⟩
end
end Pk
set_option maxHeartbeats 1000000
namespace Pk
open PySem PySem.Spec PyProof.Rows L2
theorem Dk.merge {H : Hp} {kvs2 : List (Key × V)} {S : List Trip} (h2 : Dk H kvs2 S) : ∀ {kvs : List (Key × V)} {R : List Trip}, Dk H kvs R → (nums (R ++ S)).Nodup → Dk H (mergeK kvs kvs2) (R ++ S) := by
  induction h2 with
  | nil =>
    intro kvs R h _
    rw [List.append_nil]
    exact h
  | @cons t v kvs2 S hv _ ih =>
    intro kvs R h hn
    have e : R ++ t :: S = (R ++ [t]) ++ S := by simp
    rw [e] at hn ⊢
    have n1 : t.1 ∉ R.map (·.1) := fun m => by
      rw [nums, List.map_append, List.map_append] at hn
      exact (List.nodup_append.mp (List.nodup_append.mp hn).1).2.2 t.1 m t.1 (List.mem_singleton.mpr rfl) rfl
    exact ih (h.snoc hv n1) hn
def sp_grown_of : Sp := fun vs H Q _ => ∃ (v : V) (d o : Addr) (b : List (List Pair)) (R : List Trip) (ns : List Nat), vs = [v, .ref d, .ref o] ∧ Dt H v (bkD b) ∧ Book b ∧ DkAt H d R ∧ PickOk b R ∧
  H o = some (.tup (ns.map fun n : Nat => V.int (n : Int))) ∧ ns.Nodup ∧ (∀ n, n ∈ ns → n < b.length ∧ n ∉ nums R) ∧
  (∀ H', Same H H' → Q .non H') ∧ ∀ p R' H', Same H H' → R'.length = R.length + 1 → PickOk b R' → DkAt H' p R' → Q (.ref p) H'
def sp_grow_of : Sp := fun vs H Q _ => ∃ (v : V) (d : Addr) (b : List (List Pair)) (R : List Trip), vs = [v, .ref d] ∧ Dt H v (bkD b) ∧ Book b ∧ DkAt H d R ∧ PickOk b R ∧
  ∀ l xs p R' H', Same H H' → H' l = some (.lst (xs ++ [.ref p])) → PickOk b R' → DkAt H' p R' → Q (.ref l) H'
section
variable {P : Program} {w : World} {K : PySem.W.Frag} {mg : Str → Option Value} {base : Heap}
theorem ok_grown_of {f : Addr} {fd : FuncData} (F : Fun K "grown_of" "grown_of" s_grown_of f fd) (G : Glob mg) (C_path_of : Cal P w K mg base CX0 2 "path_of" ["book", "pick", "order"] sp_path_of)
    (C_sorted_pick : Cal P w K mg base CX0 1 "sorted_pick" ["pick"] sp_sorted_pick) : FnOk P w K mg base CX0 3 f fd ["book", "pick", "order"] sp_grown_of := by
  refine F.ok c_grown_of (fun vs H Q E h => ?_) (fun cdv A0 outer s H vs Q E hr h => ?_)
  · obtain ⟨v, d, o, b, R, ns, rfl, _⟩ := h
    rfl
  · obtain ⟨v, d, o, b, R, ns, rfl, hv, hb, ⟨kvs, hd, hk⟩, hp, ho, hnn, hns, q0, q⟩ := h
    refine ⟨_, 
      (pss_cons (ps_set (i := 3) c_grown_of.nd rfl (.inl rfl) (pe_cal C_path_of hr pass0 (pa_cons (pv 0) (pa_cons (pv 1) (pa_cons (pv 2) pa_nil)))))
      (pss_cons (ps_if (pt_cmpR op_isN (pv 3) pe_non (nomark _)) 
          (pss_one (ps_ret pe_non)) pss_nil)
      (pss_cons (ps_set (i := 5) c_grown_of.nd rfl (.inr rfl) (pe_lc (own := [("link", 4)]) rfl c_grown_of.nd (pi_list (pv 3)) (blkOk_by (own := [("link", 4)]) (N := n_grown_of) (sc := defScope s_grown_of) (by decide +kernel)) (fun _ _ _ _ _ => (pg_name (i := 4) c_grown_of.nd rfl (.inl rfl))) (fun _ _ _ _ _ => pts_nil) (fun _ _ _ _ _ => (pe_ix (ixT K) (pv 4) pe_int (fun _ _ => rfl)))))
      (pss_cons (ps_lock (ps_setDc (i := 7) (own := [("number", 6)]) rfl c_grown_of.nd rfl rfl (sw_trueD rfl rfl rfl (by decide +kernel)) (pi_keys (pv 1)) (blkOk_by (own := [("number", 6)]) (N := n_grown_of) (sc := defScope s_grown_of) (by decide +kernel)) (fun _ _ _ _ _ => (pg_name (i := 6) c_grown_of.nd rfl (.inl rfl))) (fun _ _ _ _ _ => (pts_one (pt_cmpR (ninI K) (pe_ix (ixT K) (pe_dget (hu_of hr) (pv 1) (pv 6) (fun _ _ => rfl)) pe_int (fun _ _ => rfl)) (pv 5) (by rfl)))) (fun _ _ _ _ _ => (pv 6)) (fun _ _ _ _ _ => (pe_dget (hu_of hr) (pv 1) (pv 6) (fun _ _ => rfl)))))
      (pss_one (ps_ret (pe_cal C_sorted_pick hr pass0 (pa_cons (pe_disp2 (pv 7) (pe_dc (own := [("number", 6), ("person", 8), ("desk", 9)]) rfl c_grown_of.nd (pi_list (pv 3)) (blkOk_by (own := [("number", 6), ("person", 8), ("desk", 9)]) (N := n_grown_of) (sc := defScope s_grown_of) (by decide +kernel)) (fun _ _ _ _ _ => (pgT K (n := 3) rfl (pgs_cons (pg_name (i := 6) c_grown_of.nd rfl (.inl rfl)) (pgs_cons (pg_name (i := 8) c_grown_of.nd rfl (.inl rfl)) (pgs_cons (pg_name (i := 9) c_grown_of.nd rfl (.inl rfl)) pgs_nil))))) (fun _ _ _ _ _ => pts_nil) (fun _ _ _ _ _ => (pv 6)) (fun _ _ _ _ _ => (pe_tup (pa_cons (pv 8) (pa_cons (pv 9) pa_nil)))))) pa_nil)))))))), ?_⟩
    have h8 := hp.len8 hb
    have hkl := hk.len
    refine ⟨v, rfl, .ref d, rfl, .ref o, rfl, v, d, o, b, R, ns, rfl, hv, hb, ⟨kvs, hd, hk⟩, hp, ho, hnn, hns, fun H1 s1 => ?_, fun l xs S H1 s1 hl hxs hS => ?_⟩
    · exact ⟨.non, rfl, rfl, _, rfl, q0 _ s1⟩
    · obtain ⟨hG, hGl⟩ := grown_ok hp hS
      have hG8 := hG.len8 hb
      have hSl : S.length ≤ 8 := by
        rw [grown, List.length_append] at hG8
        omega
      have hxl : xs.length = S.length := hxs.len.trans (List.length_map ..)
      refine ⟨.ref l, rfl, rfl, _, rfl, ?_⟩
      -- persons
      refine ⟨.ref l, rfl, l, rfl, ⟨xs, SqL.of hl⟩, fun D nD => ?_⟩
      refine lcW nD (Wlk.list (SqL.of hl)) (fun i H ys => ys = ((S.map Trip.per).take i).map V.int) (fun i H H' ys _ e => e) (by omega) rfl (fun i x H' ys hi s hx hY Q1 Q2 k1 k2 => ?_) fun H2 ys s2 hD hY => ?_
      · have hi2 : i < S.length := by omega
        obtain ⟨a, hxa, ha⟩ := (hxs.tmono (tk_same s)).lk (List.getElem?_eq_getElem hi2)
        rw [hxa] at hx
        cases hx
        refine ⟨rfl, .ref a, rfl, a, _, 1, _, rfl, rfl, SqT.of ha, atI_nat (j := 1) rfl, k1 _ _ (Same.refl _) ?_⟩
        rw [hY, ← map_take_next (f := V.int) (l := S.map Trip.per) (x := S[i].per) (by rw [List.getElem?_map, List.getElem?_eq_getElem hi2]; rfl)]
      rw [hxl, show S.length = (S.map Trip.per).length from (List.length_map ..).symm, List.take_length] at hY
      subst hY
      have hd2 := s2 _ _ (s1 _ _ hd)
      -- kept
      refine ⟨d, _, hd2, trivial, fun od => ⟨.ref d, rfl, d, od, rfl, .inl ⟨kvs, upd_same, fun D2 nD2 => ?_⟩⟩⟩
      have tl : Tk H (upd H2 d (.frz od (.dK kvs))) := fun a zs e => tk_lock hd2 (fun _ z => by cases z) _ _ (s2 _ _ (s1 _ _ e))
      have Dd : D ≠ d := ne_of hD hd2 (by intro z; cases z)
      refine dcW nD2 (Wlk.keys upd_same) (fun i H kv => Dk H kv ((R.take i).filter fun t => decide (t.per ∉ S.map Trip.per))) (fun i H H' kv k e => e.tmono k.tk) (by omega) .nil (fun i x H' kv hi s hx hY Q1 Q2 k1 k2 => ?_) fun H3 kv s3 hD2 hY => ?_
      · obtain ⟨k, u, hku, rfl⟩ := hx
        obtain ⟨t, ht, rfl, _⟩ := hk.at hku
        obtain ⟨p, hv1, hp1⟩ := hk.pr (H' := H') (fun a zs e => s _ _ (tl _ _ e)) hp.num (List.mem_of_getElem? ht)
        have hf : DGet H' d (.int t.1) (some (.ref p)) := .inl ⟨kvs, ikey t.1, .inr ⟨od, s _ _ (upd_same (o := HO.frz od (.dK kvs)))⟩, rfl, hv1.symm⟩
        have hDn : H' D = some (.lst ((S.map Trip.per).map V.int)) := s _ _ (by rw [upd_ne Dd]; exact hD)
        refine ⟨rfl, .ref d, rfl, .int t.1, rfl, d, _, rfl, hf, p, _, 0, _, rfl, rfl, SqT.of hp1, atI_nat (j := 0) rfl, .ref D, rfl, t.per, D, S.map Trip.per, rfl, rfl, .inl (SqL.of hDn), _, rfl, ?_⟩
        rw [if_pos rfl]
        by_cases hpp : t.per ∈ S.map Trip.per
        · rw [decide_eq_true hpp]
          refine k2 _ (Same.refl _) ?_
          rw [filter_take_next _ ht, if_neg (by simpa using hpp)]
          exact hY
        · rw [decide_eq_false hpp]
          refine ⟨.int t.1, rfl, .ref d, rfl, .int t.1, rfl, d, _, rfl, hf, k1 (ikey t.1) _ _ (Same.refl _) ?_⟩
          rw [filter_take_next _ ht, if_pos (by simpa using hpp)]
          refine hY.snoc (dt_mk hp1) fun m => ?_
          obtain ⟨u', hu', e⟩ := List.mem_map.mp m
          exact nodup_take_next (fun t : Trip => t.1) hp.num ht (List.mem_map.mpr ⟨u', (List.mem_filter.mp hu').1, e⟩)
      have hdf := s3 _ _ upd_same
      have hDd := (new_lock nD2).1
      refine ⟨hdf, ?_⟩
      have hD3 : (upd H3 d (.dK kvs)) D2 = some (.dK kv) := by rw [upd_ne hDd]; exact hD2
      rw [hkl, List.take_length] at hY
      have hY := hY.tmono (H' := upd H3 d (.dK kvs)) (tk_lock hdf fun _ z => by cases z)
      have sH3 : Same H2 (upd H3 d (.dK kvs)) := same_unlock hd2 s3
      clear s3 hD2 hdf nD2
      generalize upd H3 d (.dK kvs) = H3 at sH3 hD3 hY
      have s03 := s1.trans (s2.trans sH3)
      have hkvl : kv.length ≤ 8 := by
        rw [hY.len]
        exact Nat.le_trans (List.length_filter_le _ _) h8
      -- the display
      intro p np
      have s4 := same_new (o := HO.dK []) np
      refine ⟨.ref D2, rfl, D2, kv, rfl, ne_of_none hD3 np, .inl (s4 _ _ hD3), by omega, upd_same, ?_⟩
      have hm0 : Dk H3 (mergeK [] kv) ([] ++ R.filter fun t => decide (t.per ∉ S.map Trip.per)) := hY.merge .nil (hp.num.sublist (List.filter_sublist.map _))
      rw [List.nil_append] at hm0
      have s5 : Same H3 (upd (upd H3 p (.dK [])) p (.dK (mergeK [] kv))) := same_mut s4 np
      have hp5 := upd_same (H := upd H3 p (.dK [])) (a := p) (o := HO.dK (mergeK [] kv))
      generalize upd (upd H3 p (.dK [])) p (.dK (mergeK [] kv)) = H4 at s5 hp5 ⊢
      have s14 : Same H1 H4 := s2.trans (sH3.trans s5)
      have hl4 := s14 _ _ hl
      refine ⟨.ref l, rfl, l, rfl, ⟨xs, SqL.of hl4⟩, fun D3 nD3 => ?_⟩
      refine dcW nD3 (Wlk.list (SqL.of hl4)) (fun i H kv => Dk H kv (S.take i)) (fun i H H' kv k e => e.tmono k.tk) (by omega) .nil (fun i x H' kv hi s hx hY Q1 Q2 k1 k2 => ?_) fun H5 kv3 s6 hD3' hY3 => ?_
      · have hi2 : i < S.length := by omega
        obtain ⟨a, hxa, ha⟩ := (hxs.tmono (tk_same (s14.trans s))).lk (List.getElem?_eq_getElem hi2)
        rw [hxa] at hx
        cases hx
        refine ⟨a, _, rfl, SqT.of ha, rfl, _, _, rfl, _, _, rfl, _, _, rfl, rfl, rfl, .int (S[i].1 : Int), rfl, .int S[i].per, rfl, .int S[i].dsk, rfl, by show 2 ≤ sizeLine; decide, fun tp np2 => ?_⟩
        refine k1 (ikey S[i].1) _ _ (same_new np2) ?_
        rw [List.take_add_one, List.getElem?_eq_getElem hi2]
        exact (hY.tmono (tk_same (same_new np2))).snoc (dt_mk upd_same) (nodup_take_next (fun t : Trip => t.1) hS.num (List.getElem?_eq_getElem hi2))
      rw [hxl, List.take_length] at hY3
      have hkv3 : kv3.length ≤ 8 := by
        rw [hY3.len]
        exact hSl
      have hp6 := s6 _ _ hp5
      refine ⟨D3, kv3, rfl, fun z => ?_, .inl hD3', by omega, hp6, ?_⟩
      · rw [z] at nD3
        exact absurd (nD3.symm.trans hp5) (by intro z; cases z)
      have hall : Dk H5 (mergeK (mergeK [] kv) kv3) (grown R S) := hY3.merge (hm0.tmono (tk_same (s5.trans s6))) hG.num
      have pn : H p = none := by
        cases hz : H p with
        | none => rfl
        | some u =>
          rw [s03 _ _ hz] at np
          cases np
      refine ⟨p, b, grown R S, rfl, ⟨_, upd_same, hall.tmono (wk_dct hp6).tk⟩, hb, hG, fun p2 R' H6 s7 hperm hat => ?_⟩
      exact q p2 R' H6 ((same_mut (s03.trans (s5.trans s6)) pn).trans s7) (by rw [hperm.length_eq, hGl]) (hG.perm hperm) hat
theorem ok_grow_of {f : Addr} {fd : FuncData} (F : Fun K "grow_of" "grow_of" s_grow_of f fd) (G : Glob mg) (C_grown_of : Cal P w K mg base CX0 3 "grown_of" ["book", "pick", "order"] sp_grown_of)
    (C_sorted_pick : Cal P w K mg base CX0 1 "sorted_pick" ["pick"] sp_sorted_pick) (C_unused_of : Cal P w K mg base CX0 1 "unused_of" ["book", "pick"] sp_unused_of) : FnOk P w K mg base CX0 4 f fd ["book", "pick"] sp_grow_of := by
  refine F.ok c_grow_of (fun vs H Q E h => ?_) (fun cdv A0 outer s H vs Q E hr h => ?_)
  · obtain ⟨v, d, b, R, rfl, _⟩ := h
    rfl
  · obtain ⟨v, d, b, R, rfl, hv, hb, hd, hp, q⟩ := h
    refine ⟨_, 
      (pss_cons (ps_par (i := 2) (j := 3) rfl c_grow_of.nd rfl rfl (by decide) rfl rfl (pa_cons (pe_lst pa_nil) (pa_cons (pe_cal C_sorted_pick hr pass0 (pa_cons (pv 1) pa_nil)) pa_nil)) (by rfl))
      (pss_cons (ps_while PassesOwn.never (pt_cmpR op_notN (pv 3) pe_non (nomark _)) 
          (pss_cons (ps_expr (pe_bm PySem.F.plainAttrs_list PySem.F.slot_list_append PySem.F.type_list_append mt_append (pv 2) (pa_cons (pv 3) pa_nil)))
          (pss_one (ps_set (i := 3) c_grow_of.nd rfl (.inl rfl) (pe_cal C_grown_of hr pass0 (pa_cons (pv 0) (pa_cons (pv 3) (pa_cons (pe_cal C_unused_of hr pass0 (pa_cons (pv 0) (pa_cons (pv 3) pa_nil))) pa_nil))))))))
      (pss_one (ps_ret (pv 2))))), ?_⟩
    refine ⟨by decide, fun fl nfl => ?_⟩
    have s0 := same_new (o := HO.lst []) nfl
    refine ⟨.ref d, rfl, d, b, R, rfl, hd.same s0, hb, hp, fun p R1 H1 s1 hperm hat => ?_⟩
    have hp1 := hp.perm hperm
    have fln : H fl = none := nfl
    refine ⟨_, _, rfl, ?_⟩
    refine ⟨fun m σ H' => ∃ fs : List V, Same H H' ∧ H' fl = some (.lst fs) ∧ ((∃ p R', σ = [some v, some (.ref d), some (.ref fl), some (.ref p)] ∧ DkAt H' p R' ∧ PickOk b R' ∧ m = 10 - R'.length ∧ fs.length ≤ R'.length) ∨
      ∃ xs p R', σ = [some v, some (.ref d), some (.ref fl), some .non] ∧ m = 0 ∧ fs = xs ++ [V.ref p] ∧ DkAt H' p R' ∧ PickOk b R'), ⟨_, [], s0.trans s1, s1 _ _ upd_same, .inl ⟨p, R1, rfl, hat, hp1, rfl, Nat.zero_le _⟩⟩, fun m σ H' hw => ?_⟩
    obtain ⟨fs, s2, hfl, ⟨p2, R2, rfl, hat2, hp2, rfl, hlen⟩ | ⟨xs, p2, R2, rfl, rfl, rfl, hat2, hp2⟩⟩ := hw
    · have h8 := hp2.len8 hb
      refine ⟨.ref p2, rfl, rfl, _, rfl, ?_⟩
      refine ⟨fun σ' H'' => ∃ m', m' < 10 - R2.length ∧ ∃ fs : List V, Same H H'' ∧ H'' fl = some (.lst fs) ∧ ((∃ p R', σ' = [some v, some (.ref d), some (.ref fl), some (.ref p)] ∧ DkAt H'' p R' ∧ PickOk b R' ∧ m' = 10 - R'.length ∧ fs.length ≤ R'.length) ∨
        ∃ xs p R', σ' = [some v, some (.ref d), some (.ref fl), some .non] ∧ m' = 0 ∧ fs = xs ++ [V.ref p] ∧ DkAt H'' p R' ∧ PickOk b R'), fun σ' H'' hn => hn, ?_⟩
      refine ⟨.ref fl, rfl, .inl ⟨rfl, _, SqL.of hfl⟩, .ref p2, rfl, fl, fs, .ref p2, rfl, rfl, hfl, by rw [sizeLine_eq]; omega, ?_⟩
      have s3 : Same H (upd H' fl (.lst (fs ++ [.ref p2]))) := same_mut s2 fln
      have hat3 : DkAt (upd H' fl (.lst (fs ++ [.ref p2]))) p2 R2 := by
        obtain ⟨kv, h1, h2⟩ := hat2
        exact ⟨kv, by rw [upd_ne (ne_of h1 hfl (by intro z; cases z))]; exact h1, h2.tmono (wk_lst hfl).tk⟩
      have hf3 := upd_same (H := H') (a := fl) (o := HO.lst (fs ++ [.ref p2]))
      generalize upd H' fl (.lst (fs ++ [.ref p2])) = H3 at s3 hat3 hf3 ⊢
      refine ⟨v, rfl, .ref p2, rfl, v, rfl, .ref p2, rfl, v, p2, b, R2, rfl, hv.mono (Wk.of s3), hb, hat3, fun o ns H4 s4 hnn hns ho => ?_⟩
      refine ⟨v, p2, o, b, R2, ns, rfl, hv.mono (Wk.of (s3.trans s4)), hb, hat3.same s4, hp2, ho, hnn, hns, fun H5 s5 => ?_, fun p5 R5 H5 s5 hl5 hp5 hat5 => ?_⟩
      · exact ⟨0, by omega, _, s3.trans (s4.trans s5), s5 _ _ (s4 _ _ hf3), .inr ⟨fs, p2, R2, rfl, rfl, rfl, hat3.same (s4.trans s5), hp2⟩⟩
      · have h85 := hp5.len8 hb
        refine ⟨10 - R5.length, by omega, _, s3.trans (s4.trans s5), s5 _ _ (s4 _ _ hf3), .inl ⟨p5, R5, rfl, hat5, hp5, rfl, ?_⟩⟩
        rw [List.length_append]
        show fs.length + 1 ≤ R5.length
        omega
    · refine ⟨.non, rfl, rfl, _, rfl, ?_⟩
      exact ⟨.ref fl, rfl, q fl xs p2 R2 H' s2 hfl hp2 hat2⟩
end
end Pk
set_option maxHeartbeats 2000000
/-! A dict whose keys are pairs of tuples of ints. -/
namespace Pk
open PySem PySem.Spec PyProof.Rows L2
abbrev Span := List Int × List Int
abbrev Ent := Span × Addr × Addr
def spK (s : Span) : NestedKey := .tup [.tup (s.1.map .num), .tup (s.2.map .num)]
theorem num_inj : ∀ {a b : List Int}, a.map NestedKey.num = b.map NestedKey.num → a = b
  | [], [], _ => rfl
  | [], _ :: _, h => by simp at h
  | _ :: _, [], h => by simp at h
  | x :: a, y :: b, h => by
    rw [List.map_cons, List.map_cons] at h
    injection h with h1 h2
    injection h1 with h1
    rw [h1, num_inj h2]
theorem spK_inj {s t : Span} (h : spK s = spK t) : s = t := by
  unfold spK at h
  injection h with h
  injection h with h1 h2
  injection h2 with h2 h3
  injection h1 with h1
  injection h2 with h2
  exact Prod.ext (num_inj h1) (num_inj h2)
theorem depthAll_num : ∀ l : List Int, NestedKey.depthAll (l.map .num) = 0
  | [] => rfl
  | x :: l => by
    rw [List.map_cons, NestedKey.depthAll, depthAll_num l]
    rfl
theorem spK_depth (s : Span) : (spK s).depth ≤ 8 := by
  unfold spK
  simp [NestedKey.depth, NestedKey.depthAll, depthAll_num]
/-- the tuple of two tuples of ints -/
def KeyAt (H : Hp) (b : Addr) (s : Span) : Prop := ∃ p q, H b = some (.tup [.ref p, .ref q]) ∧ H p = some (.tup (s.1.map V.int)) ∧ H q = some (.tup (s.2.map V.int))
theorem KeyAt.tmono {H H' : Hp} {b : Addr} {s : Span} (k : Tk H H') (h : KeyAt H b s) : KeyAt H' b s := let ⟨p, q, h1, h2, h3⟩ := h; ⟨p, q, k _ _ h1, k _ _ h2, k _ _ h3⟩
theorem nested_ints {h : Heap} : ∀ {l : List Int} {us : List Value}, Vals (l.map V.int) us → NestedAll h (l.map .num) us
  | [], _, r => by rw [List.map_nil] at r; cases r; exact .nil
  | x :: l, _, r => by
    rw [List.map_cons] at r
    cases r with
    | cons h1 h2 =>
      obtain ⟨t, rfl⟩ := h1
      exact .cons (.int x t) (nested_ints h2)
section
variable {X : Cx} {pins : List (Addr × Obj)} {σ : L2.St} {H : Hp} {s : Shared}
theorem nested_tup (I : Inv X pins σ H s) {p : Addr} {l : List Int} (h : H p = some (.tup (l.map V.int))) : NestedIs s.heap (.tup (l.map .num)) (.ref p) := by
  obtain ⟨_, its, r, o, h1, h2, n, h3⟩ := (show ObjOk X.prog X.w H s.heap p (.tup (l.map V.int)) from I.hok p _ h)
  exact .tup h1 h2 h3 (by simpa using nested_ints r)
theorem KeyAt.is (I : Inv X pins σ H s) {b : Addr} {sp : Span} (k : KeyAt H b sp) : (nestedKind X.prog X.w).is s.heap (spK sp) b := by
  obtain ⟨p, q, h1, h2, h3⟩ := k
  refine ⟨?_, spK_depth sp⟩
  obtain ⟨_, its, r, o, e1, e2, n, e3⟩ := (show ObjOk X.prog X.w H s.heap b (.tup [.ref p, .ref q]) from I.hok b _ h1)
  refine .tup e1 e2 e3 ?_
  cases r with
  | cons r1 r2 =>
    cases r1
    cases r2 with
    | cons r3 r4 =>
      cases r3
      cases r4
      exact .cons (nested_tup I h2) (.cons (nested_tup I h3) .nil)
end
/-! ### the tracked dict -/
def entK (w : World) (e : Ent) : DictEntry := ⟨(spK e.1).hash w, .ref e.2.1, .ref e.2.2⟩
def KnO (w : World) (d : Addr) (T : List Ent) : HO := .ext fun h => (d == sysModules) = false ∧ ∃ o es ep, h.get? d = some o ∧ o.ExactDict ∧ o.data = .dict es ep ∧ es.toList = T.map (entK w)
/-- the dict d holds T -/
structure KnAt (w : World) (H : Hp) (d : Addr) (T : List Ent) : Prop where
  at_ : H d = some (KnO w d T)
  key : ∀ e, e ∈ T → KeyAt H e.2.1 e.1
  nd : (T.map (·.1)).Nodup
def entX (e : Ent) : NestedKey × Addr × Value := (spK e.1, e.2.1, .ref e.2.2)
theorem entX_keys (T : List Ent) : (T.map entX).map (·.1) = (T.map (·.1)).map spK := by
  rw [List.map_map, List.map_map]
  rfl
theorem spK_nodup {l : List Span} (h : l.Nodup) : (l.map spK).Nodup := List.pairwise_map.mpr (h.imp fun n e => n (spK_inj e))
section
variable {X : Cx} {pins : List (Addr × Obj)} {σ : L2.St} {H : Hp} {s : Shared} {d : Addr} {T : List Ent}
theorem KnAt.raw (I : Inv X pins σ H s) (k : KnAt X.w H d T) : (d == sysModules) = false ∧ ∃ o es ep, s.heap.get? d = some o ∧ o.ExactDict ∧ o.data = .dict es ep ∧ es.toList = T.map (entK X.w) := (I.hok d _ k.at_).1
theorem KnAt.dict (I : Inv X pins σ H s) (k : KnAt X.w H d T) : s.heap.DictOfH (nestedKind X.prog X.w) d (T.map entX) := by
  obtain ⟨_, o, es, ep, h1, h2, h3, h4⟩ := k.raw I
  refine ⟨o, es, ep, h1, h2, h3, ?_, fun x hx => ?_, ?_⟩
  · rw [h4, List.map_map]
    rfl
  · obtain ⟨e, he, rfl⟩ := List.mem_map.mp hx
    exact (k.key e he).is I
  · rw [entX_keys]
    exact spK_nodup k.nd
theorem kn_new {H' : Hp} {h' : Heap} (hd : (d == sysModules) = false) (x : h'.DictOfH (nestedKind X.prog X.w) d (T.map entX)) : ObjOk X.prog X.w H' h' d (KnO X.w d T) := by
  obtain ⟨o, es, ep, h1, h2, h3, h4, _⟩ := x
  refine ⟨⟨hd, o, es, ep, h1, h2, h3, ?_⟩, ⟨o, h1⟩, fun a c p k => ?_⟩
  · rw [h4, List.map_map]
    rfl
  · obtain ⟨p0, o, es, ep, p1, p2⟩ := p
    exact ⟨p0, o, es, ep, k _ p1, p2⟩
/-- what stands at a span -/
def atSpan (T : List Ent) (sp : Span) : Option Addr := (T.find? fun e => decide (e.1 = sp)).map (·.2.2)
theorem atKey_span (T : List Ent) (sp : Span) : (atKey (T.map entX) (spK sp)).map (·.2) = (atSpan T sp).map Value.ref := by
  induction T with
  | nil => rfl
  | cons e T ih =>
    by_cases h : e.1 = sp
    · simp [atKey, atSpan, entX, h]
    · have h2 : ¬ spK e.1 = spK sp := fun z => h (spK_inj z)
      simp only [atKey, atSpan, entX, List.map_cons, List.find?_cons, decide_eq_false h, decide_eq_false h2] at ih ⊢
      exact ih
theorem atKey_some (T : List Ent) (sp : Span) : (atKey (T.map entX) (spK sp)).isSome = (atSpan T sp).isSome := by
  have h := congrArg Option.isSome (atKey_span T sp)
  rwa [Option.isSome_map, Option.isSome_map] at h
theorem stored_span {T : List Ent} {sp : Span} (h : atSpan T sp = none) (b v : Addr) : storedH (T.map entX) (spK sp) b (.ref v) = (T ++ [(sp, b, v)]).map entX := by
  have e : atKey (T.map entX) (spK sp) = none := by
    have := atKey_some T sp
    rw [h] at this
    cases q : atKey (T.map entX) (spK sp) with
    | none => rfl
    | some x => rw [q] at this; cases this
  rw [storedH_new e, List.map_append]
  rfl
theorem hu8 {A : Around} (h : A.units + 64 < cLine) : A.in1.units + 8 < cLine := by
  show A.units + 1 + 8 < cLine
  omega
end
section
variable {X : Cx} {pos : Pos} {o i value : Expr} {td ty tv : TE}
/-- d[k] -/
def tKGet (w : World) (td ty : TE) : TE := fun σ H Q => td σ H fun x H1 => ty σ H1 fun y H2 => ∃ d T b sp v, x = .ref d ∧ KnAt w H2 d T ∧ y = .ref b ∧ KeyAt H2 b sp ∧ atSpan T sp = some v ∧ Q (.ref v) H2
theorem pe_kget (w : World) (hu : X.A.units + 64 < cLine) (ho : PE X o td) (hi : PE X i ty) (hs : NoSl i) (hw : X.w = w := by rfl) : PE X (.Subscript o i pos) (tKGet w td ty) := by
  subst hw
  refine ⟨fun pins s σ H Q I h => ?_⟩
  refine subD_of PySem.F.slot_dict_getitem.lookup hs (thn (ho.run pins s σ H _ I h) fun u s1 ⟨x, H1, I1, rx, q1⟩ => thn (hi.run pins s1 σ H1 _ I1 q1) fun iv s2 ⟨y, H2, I2, ry, d, T, b, sp, v, ex, g, ey, hk, hv, q2⟩ => ?_)
  subst ex ey
  cases rx
  cases ry
  have dd := g.dict I2
  refine ⟨dd.typeIs, ?_⟩
  have e := atKey_span T sp
  rw [hv] at e
  obtain ⟨p, hp, hp2⟩ := Option.map_eq_some_iff.mp e
  refine wpAny_getItem_heap (hu8 hu) (hk.is I2) dd hp ?_
  rw [hp2]
  exact ⟨.ref v, H2, I2.tok _, rfl, q2⟩
/-- k not in d -/
def tKNotIn (w : World) (ty td : TE) : TE := fun σ H Q => ty σ H fun y H1 => td σ H1 fun x H2 => ∃ d T b sp, x = .ref d ∧ KnAt w H2 d T ∧ y = .ref b ∧ KeyAt H2 b sp ∧ Q (.bl (!(atSpan T sp).isSome)) H2
theorem pc_knotin (w : World) (hu : X.A.units + 64 < cLine) (hi : PE X i ty) (ho : PE X o td) (hw : X.w = w := by rfl) : PC X .NotIn i o (tKNotIn w ty td) := by
  subst hw
  refine ⟨fun pins s σ H Q I h => ?_⟩
  refine thn (hi.run pins s σ H _ I h) fun iv s1 ⟨y, H1, I1, ry, q1⟩ => thn (ho.run pins s1 σ H1 _ I1 q1) fun u s2 ⟨x, H2, I2, rx, d, T, b, sp, ex, g, ey, hk, q2⟩ => ?_
  subst ex ey
  cases rx
  cases ry
  show wpAny _ _ (do return Value.bool (!(← contains (.ref d) (.ref b)))) _ _ s2
  refine wpAny_bind (wpAny_contains_heap (hu8 hu) (hk.is I2) (g.raw I2).1 (g.dict I2) (wpAny_pure ?_))
  rw [atKey_some]
  exact ⟨.bl (!(atSpan T sp).isSome), H2, I2.tok _, rfl, q2⟩
/-- d[k] = v, k not there -/
def sKPut (w : World) (td ty tv : TE) : TS := fun D σ H => tv σ H fun v H1 => td σ H1 fun x H2 => ty σ H2 fun y H3 => ∃ d T b sp a, x = .ref d ∧ v = .ref a ∧ KnAt w H3 d T ∧ y = .ref b ∧ KeyAt H3 b sp ∧ atSpan T sp = none ∧ T.length < sizeLine ∧ D.nx σ (upd H3 d (KnO w d (T ++ [(sp, b, a)])))
theorem ps_kput {pos' : Pos} (w : World) (hu : X.A.units + 64 < cLine) (ho : PE X o td) (hi : PE X i ty) (hv : PE X value tv) (hs : swapsWith value (some (.Subscript o i pos')) pos.line X.env = pure false) (hw : X.w = w := by rfl) :
    PS X (.Assign [.Subscript o i pos'] value pos) (sKPut w td ty tv) := by
  subst hw
  refine ⟨fun pins s σ H D I h => ?_⟩
  refine wpAny_Assign_Subscript (thn (hv.run pins s σ H _ I h) fun r s1 ⟨v, H1, I1, rv, q1⟩ => thn (ho.run pins s1 σ H1 _ I1 q1) fun u s2 ⟨x, H2, I2, rx, q2⟩ => thn (hi.run pins s2 σ H2 _ I2 q2) fun iv s3 ⟨y, H3, I3, ry, d, T, b, sp, a, ex, ev, g, ey, hk, hn, hl, q3⟩ => ?_) hs
  subst ex ey ev
  cases rx
  cases ry
  cases rv
  refine wpAny_setItem_heap (hsz := by rw [List.length_map]; omega) (hu8 hu) (hk.is I3) (g.dict I3) fun h' hm sb => ?_
  rw [stored_span hn] at hm
  have he : ∃ q, h'.get? d = some q := let ⟨q, _, _, hq, _⟩ := hm; ⟨q, hq⟩
  exact ⟨σ, _, d_write I3 (by rw [g.at_]; exact True.intro) sb he (kn_new (g.raw I3).1 hm), q3⟩
/-- {k: v}, k a pair of tuples of ints -/
def tKNew (w : World) (tk tv : TE) : TE := fun σ H Q => ∀ d, H d = none → tk σ (upd H d (KnO w d [])) fun y H1 => tv σ H1 fun z H2 => ∃ b sp a, y = .ref b ∧ z = .ref a ∧ H2 d = some (KnO w d []) ∧ KeyAt H2 b sp ∧ Q (.ref d) (upd H2 d (KnO w d [(sp, b, a)]))
theorem pe_knew {k v : Expr} {tk tv : TE} (w : World) (hu : X.A.units + 64 < cLine) (hk : PE X k tk) (hv : PE X v tv) (hw : X.w = w := by rfl) : PE X (.Dict [some k] [v] pos) (tKNew w tk tv) := by
  subst hw
  refine ⟨fun pins s σ H Q I q => ?_⟩
  rw [arm_eval_Dict]
  refine wpAny_bind (wpAny_standAt ?_)
  show wpAny _ _ (dictDisplay ([(eval k X.env, (do let x ← eval v X.env; standAt pos; pure x : Sem Value))].map fun p => (some p.1, p.2))) _ _ s
  rw [dictDisplay_pairs _ (by simp) (by show 1 < 17; omega)]
  have hn := I.hok.fresh (Nat.le_refl s.heap.objs.size)
  have dS : (s.heap.objs.size == sysModules) = false := beq_eq_false_iff_ne.mpr (Nat.ne_of_gt I.big)
  have I0 := I.laid (a := s.heap.objs.size) (o := KnO X.w s.heap.objs.size []) (h' := s.heap.push { cls := .type "dict", data := .dict #[] }) (t' := s.toks) (fun _ _ q => Heap.get?_push_of_some _ q) (Nat.le_refl _) (kn_new dS (Heap.DictOfH.new s.heap))
  refine wpAny_bind (wpAny_subDictH (knd := nestedKind X.prog X.w) (show X.A.units + 8 < cLine by omega) (show 1 ≤ 15 by omega) ?_)
  refine evalPairs_cons (thn (hk.run pins _ σ _ _ I0 (q _ hn)) fun u1 s1 got => ?_)
  obtain ⟨y, H1, I1, ry, q1⟩ := got
  refine wpAny_bind (thn (hv.run pins _ σ _ _ I1 q1) fun u2 s2 got => ?_)
  obtain ⟨z, H2, I2, rz, b, sp, a, rfl, rfl, hd, hkey, q2⟩ := got
  cases ry
  cases rz
  refine wpAny_bind (wpAny_standAt (wpAny_pure ?_))
  refine evalPairs_nil ?_
  have g : KnAt X.w H2 s.heap.objs.size [] := ⟨hd, fun _ m => absurd m List.not_mem_nil, List.nodup_nil⟩
  refine ⟨[(spK sp, b, .ref a)], ⟨rfl, rfl, hkey.is I2, True.intro⟩, g.dict I2, fun h' tk d1 hs => ?_⟩
  have he : ∃ q, h'.get? s.heap.objs.size = some q := let ⟨q, _, _, hq, _⟩ := d1; ⟨q, hq⟩
  have I3 : Inv X pins σ (upd H2 s.heap.objs.size (KnO X.w s.heap.objs.size [(sp, b, a)])) { s2 with heap := h', toks := tk } := d_write I2 (by rw [hd]; exact True.intro) hs he (kn_new dS d1)
  exact wpAny_pure ⟨.ref s.heap.objs.size, _, I3, rfl, q2⟩
end
/-! ### list(d) -/
section
variable {prog : Program} {w : World} {A : Around}
theorem walks_raw (hh : A.handled = none) (I d : Addr) (hne : d ≠ I) {o : Obj} {es : Array DictEntry} {ep : Nat} (hdat : o.data = .dict es ep) :
    Walks prog w A I [I, d] [I] es.size (fun i v => ∃ e : DictEntry, es[i]? = some e ∧ v = e.key) (fun i h => h.IsKeyIter I d i es.size ep ∧ h.get? d = some o) where
  sub := fun b hb => by simp at hb; simp [hb]
  frame := fun _ _ _ st hk => ⟨st.1.at fun o e => hk I (by simp) o e, hk d (by simp) _ st.2⟩
  item := fun i s Q E hi st hQ => by
    refine next_key_item st.1 st.2 hdat rfl (Array.getElem?_eq_getElem hi) fun h' hit' hs' => ?_
    exact hQ _ h' s.toks ⟨_, Array.getElem?_eq_getElem hi, rfl⟩ ⟨hit', (hs'.2 d hne).trans st.2⟩ fun b o hb e => (hs'.2 b (fun h => hb (by simp [h]))).trans e
  done := fun s Q E st hQ => next_key_end hh st.1 st.2 hdat rfl (Nat.le_refl _) fun h' he' => hQ h' s.toks fun b o hb e => he' b o (fun h => hb (by simp [h])) e
  self := fun _ _ _ _ st hQ => wpAny_pyIter_keyiter st.1 hQ
theorem src_raw {d : Addr} {o : Obj} {es : Array DictEntry} {ep : Nat} (lo : (d == sysModules) = false) (hx : o.ExactDict) (hdat : o.data = .dict es ep) :
    PySem.W.KdlSrc prog w "dict" d d es.size (fun i v => ∃ e : DictEntry, es[i]? = some e ∧ v = e.key) (fun h => h.get? d = some o) where
  type := fun _ hm => ⟨o, hm, hx.1⟩
  there := fun _ hm => ⟨Heap.lt_size hm, Heap.lt_size hm⟩
  keep := fun _ _ hm hk => hk d (.inl rfl) o hm
  notList := by decide
  notTuple := by decide
  hint := fun _ _ _ _ hm hq => PySem.W.kdl_hint_dict ⟨o, hm, hx.1⟩ hq
  iter := fun _ _ hh hm => ⟨_, _, (fun _ _ hq => iter_keys lo hm hx hdat hq), walks_raw hh _ d (Nat.ne_of_lt (Heap.lt_size hm)) hdat, ⟨⟨_, Heap.get?_push_size _ rfl, rfl, rfl⟩, Heap.get?_push_of_some _ hm⟩⟩
end
section
variable {X : Cx}
def rListKn (w : World) : List V → Hp → VK → Prop := fun xs H Q => ∃ d T, xs = [.ref d] ∧ H d = some (KnO w d T) ∧ T.length ≤ sizeLine ∧ ∀ l, H l = none → Q (.ref l) (upd H l (.lst (T.map fun e => V.ref e.2.1)))
theorem vals_refs {T : List Ent} {w : World} : ∀ (vs : List Value), vs.length = T.length → (∀ (i : Nat) (v : Value), vs[i]? = some v → ∃ e : DictEntry, (T.map (entK w))[i]? = some e ∧ v = e.key) → Vals (T.map fun e => V.ref e.2.1) vs := by
  induction T with
  | nil =>
    intro vs hl _
    rw [List.eq_nil_of_length_eq_zero hl]
    exact .nil
  | cons e T ih =>
    intro vs hl h
    match vs, hl with
    | v :: vs, hl =>
      obtain ⟨e1, h1, h2⟩ := h 0 v rfl
      have h1 : entK w e = e1 := Option.some.inj h1
      rw [List.map_cons]
      refine .cons (by rw [h2, ← h1]; rfl) (ih vs (by simpa using hl) fun i u hu => ?_)
      obtain ⟨e2, h3, h4⟩ := h (i + 1) u (by simpa using hu)
      exact ⟨e2, by simpa using h3, h4⟩
theorem call_listKn (w : World) (hc : X.calm = true) (hw : X.w = w := by rfl) : CallR X (.type "list") (rListKn w) := by
  subst hw
  intro pins s σ H xs us Q I r h
  obtain ⟨d, T, rfl, hd, hl, q⟩ := h
  rw [Vals.ref1 r]
  obtain ⟨lo, o, es, ep, h1, h2, h3, h4⟩ := (I.hok d _ hd).1
  have hes : es.size = T.length := by rw [← Array.length_toList, h4, List.length_map]
  refine PySem.W.kdl_call (src_raw lo h2 h3) (I.ok.hd hc) h1 (by rw [hes]; exact hl) fun h' tk acc c hk hS hacc => ?_
  have hv : Vals (T.map fun e => V.ref e.2.1) acc.toList := by
    refine vals_refs (w := X.w) acc.toList (by rw [Array.length_toList, hacc.1, hes]) fun i v e => ?_
    obtain ⟨en, q1, q2⟩ := hacc.2 i v (by rw [← Array.getElem?_toList]; exact e)
    exact ⟨en, by rw [← h4, Array.getElem?_toList]; exact q1, q2⟩
  have new : ObjOk X.prog X.w (upd H s.heap.objs.size (.lst (T.map fun e => V.ref e.2.1))) h' s.heap.objs.size (.lst (T.map fun e => V.ref e.2.1)) := by
    refine ⟨by rw [List.length_map]; exact hl, acc.toList, c, hv, ?_⟩
    rw [Array.toArray_toList]
    exact hS
  exact ⟨.ref s.heap.objs.size, _, I.laid (t' := tk) hk (Nat.le_refl _) new, rfl, q _ (I.hok.fresh (Nat.le_refl _))⟩
end
end Pk
set_option maxHeartbeats 2000000
/-! enumerate(t), t a tuple. -/
namespace Pk
open PySem PySem.Spec PyProof.Rows L2
theorem meets_enum1 {v : Value} {o : Obj} {H : Heap → Prop} (B : Begins v o H) :
    Meets (Builtin.«enumerate.__new__» ⟨[.type "enumerate", v], []⟩) (fun _ R s => H s.heap ∧
      R (.ok (.ret (.ref (s.heap.push o).objs.size))) { s with heap := (s.heap.push o).push { cls := .type "enumerate", data := .fields #[.none, .bool false, .ref s.heap.objs.size, rawInt 0, .none, .none] } }) :=
  .of_wp fun prog w A R s h => by
    obtain ⟨hp, g, d, tk, os⟩ := s; obtain ⟨h1, h⟩ := h
    have hsub := sub_enumerate
    have q1 : ∀ {A' : Around} {E : Value → Shared → Prop} {Q : Value → Shared → Prop}, Q (.ref hp.objs.size) ⟨hp.push o, g, d, tk, os⟩ → wpAny (model prog w) A' (pyIter v) Q E ⟨hp, g, d, tk, os⟩ :=
      fun q => B.iter prog w _ _ ⟨hp, g, d, tk, os⟩ _ h1 q
    wp_walk using q1
    refine wpAny_stack_any fun st => wpAny_pure ?_
    split
    · rename_i c _ _ _ _ _
      cases (c == Value.type "enumerate")
      · wp_walk using q1
        exact ⟨_, rfl, h⟩
      · wp_walk using q1
        exact ⟨_, rfl, h⟩
    · wp_walk using q1
      exact ⟨_, rfl, h⟩
section
variable {prog : Program} {w : World} {A : Around} {E : Value → Shared → Prop} {s : Shared}
theorem enum_begins1 {v : Value} {o : Obj} {H : Heap → Prop} {Q : Value → Shared → Prop} (B : Begins v o H) (h1 : H s.heap)
    (h : ∀ h', IsEnum h' (s.heap.objs.size + 1) s.heap.objs.size 0 .none → h'.get? s.heap.objs.size = some o → h'.objs.size = s.heap.objs.size + 2 →
      (∀ b o, s.heap.get? b = some o → h'.get? b = some o) → Q (.ref (s.heap.objs.size + 1)) { s with heap := h' }) :
    wpAny (model prog w) A (call (.type "enumerate") [v]) Q E s := by
  refine callType_new F.called_enumerate (by decide) (F.typeCall_enumerate_1 _) (F.newCall_enumerate_1 _) (fun obj => F.args_object_init_2 obj _) F.entry_enumerate_new
    (meets_enum1 B) ⟨h1, ?_⟩
  have hz : (s.heap.push o).objs.size = s.heap.objs.size + 1 := Heap.size_push ..
  show _ ∧ _
  rw [hz]
  have he : IsEnum ((s.heap.push o).push { cls := .type "enumerate", data := .fields #[.none, .bool false, .ref s.heap.objs.size, rawInt 0, .none, .none] }) (s.heap.objs.size + 1) s.heap.objs.size 0 .none := by
    have := Heap.get?_push_size (s.heap.push o) (o := { cls := .type "enumerate", data := .fields #[.none, .bool false, .ref s.heap.objs.size, rawInt 0, .none, .none] }) rfl
    rw [hz] at this
    exact this
  refine ⟨⟨_, he, rfl⟩, h _ he (Heap.get?_push_of_some _ (Heap.get?_push_size _ B.free)) (by rw [Heap.size_push, hz]) fun b o x => Heap.get?_push_of_some _ (Heap.get?_push_of_some _ x)⟩
end
/-- the tuple at a, each item in a new pair -/
def IteT (K : PySem.W.Frag) (a : Addr) : It :=
  ⟨fun i H => ∃ (xs : List V) (x : V), SqT K H a xs ∧ xs[i]? = some x, fun i H v H' => ∃ T x, v = .ref T ∧ H T = none ∧ H' = upd H T (.tup [.int (i : Nat), x]) ∧ ∀ xs, SqT K H a xs → xs[i]? = some x, fun i H => ∃ xs : List V, SqT K H a xs ∧ xs.length = i⟩
theorem turn_enumT {P : Program} {w : World} {K : PySem.W.Frag} {elts : List Expr} {kk : Nat} {tpos : Pos} (a e it : Addr) (hae : a ≠ e) (hai : a ≠ it) :
    Turn P w K (.Tuple elts kk tpos) (IteT K a) [e, it] e (fun i h => (∃ old, IsEnum h e it ((i : Nat) : Int) old) ∧ h.IsTupleIter it a i ∧ e ≠ it) where
  mem := by simp
  obj := fun i h st b hb => by
    obtain ⟨⟨old, he⟩, ⟨o, ho, hc, hd⟩, _⟩ := st
    have e' : b = e ∨ b = it := by simpa using hb
    rcases e' with z | z
    · rw [z]; exact ⟨_, he, fun v q => nomatch q⟩
    · rw [z]; exact ⟨o, ho, fun v q => by rw [hd] at q; cases q⟩
  keep := fun i h h' st k => let ⟨⟨old, he⟩, hi, hne⟩ := st; ⟨⟨old, k e (by simp) _ he⟩, hi.at fun o q => k it (by simp) o q, hne⟩
  item := by
    intro X hP hw hK hc i pins s σ H E I hf st hg
    subst hP hw hK
    obtain ⟨⟨old, he⟩, hit, hne⟩ := st
    obtain ⟨xs, x, hq, hx⟩ := hg
    obtain ⟨its, rv, p, hz⟩ := I.tuple hq
    obtain ⟨u, hu, ru⟩ := rv.get hx
    have hel : e < s.heap.objs.size := Heap.lt_size he
    have hil : it < s.heap.objs.size := by obtain ⟨_, q, _⟩ := hit; exact Heap.lt_size q
    have hlt : i < its.toArray.size := by
      obtain ⟨h1, _⟩ := List.getElem?_eq_some_iff.mp hu
      simpa using h1
    refine wpAny_pyNext_enum_itemD (Draws.tuple (prog := X.prog) (w := X.w) (A := X.A.in1) (I.ok.hd hc) it a hai its.toArray) he ⟨hit, p⟩ hlt hne (by simp [hne, Ne.symm hae]) fun u' h' tk hu' ho hit' hT hsz hk => ?_
    have hu2 : u' = u := by
      have e0 : its[i]? = some u' := by simpa using hu'
      rw [hu] at e0
      exact (Option.some.inj e0).symm
    subst hu2
    refine ⟨_, rfl, wpAny_letOwnedTupleGo_enum (s := { s with heap := h', toks := tk + 1 }) ho fun h'' he' sb => ?_⟩
    have hT2 : h''.get? s.heap.objs.size = some { cls := .type "tuple", data := .seq #[.int i tk, u'] } := (sb.2 _ (Nat.ne_of_gt hel)).trans hT
    have new : ObjOk X.prog X.w (upd H s.heap.objs.size (.tup [.int (i : Nat), x])) h'' s.heap.objs.size (.tup [.int (i : Nat), x]) :=
      ⟨by show 2 ≤ sizeLine; decide, [.int i tk, u'], .cons ⟨_, rfl⟩ (.cons ru .nil), ⟨_, hT2, rfl, _, rfl⟩⟩
    have I1 : Inv X pins σ (upd H s.heap.objs.size (.tup [.int (i : Nat), x])) { s with heap := h'', toks := tk + 1 } :=
      I.turnedNew (ch := [e, it]) (fun b ob hb q => (sb.2 b (fun z => hb (by simp [z]))).trans (hk b ob (fun z => hb (by simp [z])) (fun z => hb (by simp [z])) q)) hf (Nat.le_refl _) new
    refine ⟨.ref s.heap.objs.size, _, I1, rfl, ⟨_, x, rfl, I.hok.fresh (Nat.le_refl _), rfl, fun ys hy => by rw [I.tuple_inj hy hq]; exact hx⟩, ⟨⟨u', ?_⟩, hit'.1.at fun o q => (sb.2 it (Ne.symm hne)).trans q, hne⟩, fun b hb => ?_⟩
    · have e1 : ((i + 1 : Nat) : Int) = (i : Int) + 1 := by omega
      rw [e1]; exact he'
    · have hb' : b < s.heap.objs.size := by
        have e' : b = e ∨ b = it := by simpa using hb
        rcases e' with z | z
        · rw [z]; exact hel
        · rw [z]; exact hil
      rw [upd_ne (Nat.ne_of_lt hb')]
      exact (hf b hb).1
  done := by
    intro X hP hw hK hc i pins s σ H E I hf st hg
    subst hP hw hK
    obtain ⟨⟨old, he⟩, hit, hne⟩ := st
    obtain ⟨xs, hq, hx⟩ := hg
    obtain ⟨its, rv, p, hz⟩ := I.tuple hq
    obtain ⟨f0, f1, f2, f3, f4, f5⟩ := hf it (by simp)
    have hl := rv.length
    have hn : its.toArray.size = i := by
      rw [List.size_toArray, ← hl, hx]
    exact wpAny_pyNext_enum_endD (Draws.tuple (prog := X.prog) (w := X.w) (A := X.A.in1) (I.ok.hd hc) it a hai its.toArray) he (by rw [hn]; exact ⟨hit, p⟩) fun h' eb => ⟨rfl, I.turned (t' := s.toks) (fun b o hb q => eb b o hb q) f0 f1 f3 f4 f5⟩
  self := fun A i s Q E st h => let ⟨⟨_, he⟩, _⟩ := st; wpAny_pyIter_enum he h
def iEnumT (K : PySem.W.Frag) (ta : TA) : TI := fun σ H R => ta σ H fun vs H1 => ∃ a xs, vs = [.ref a] ∧ SqT K H1 a xs ∧ R (IteT K a) H1
theorem pi_enumT {X : Cx} {e : Expr} {ta : TA} {p pos tpos : Pos} {elts : List Expr} {kk : Nat} (hg : Gl X "enumerate") (hm : X.mg "enumerate" = none) (ha : PA X [e] ta) (hs : starEach [e] X.env = [(false, eval e X.env)] := by rfl) :
    PI X (.Tuple elts kk tpos) (.Call (.Name "enumerate" p) [e] [] pos) (iEnumT X.K ta) := by
  refine ⟨fun pins s σ H R I h => ?_⟩
  refine Call_ (ld_blt I hg hm boot_enumerate (PyProof.Rows.callWith_type1 (thn (ha.run pos pins s σ H _ I h) fun us s1 ⟨vs, H1, I1, r1, q1⟩ => ?_) hs rfl))
  obtain ⟨a, xs, ex, hq, q⟩ := q1
  subst ex
  cases r1 with
  | cons r rr =>
    cases rr
    cases r
    obtain ⟨its, rv, p', hz⟩ := I1.tuple hq
    have hal : a < s1.heap.objs.size := p'.lt
    refine enum_begins1 (begins_tuple a its.toArray) p' fun h' he hit hsz hk => wpAny_pyIter_enum he ?_
    have I2 : Inv X pins σ H1 { s1 with heap := h' } := I1.kept (t' := s1.toks) hk
    refine ⟨s1.heap.objs.size + 1, [s1.heap.objs.size + 1, s1.heap.objs.size], _, _, H1, rfl, I2, turn_enumT a (s1.heap.objs.size + 1) s1.heap.objs.size (Nat.ne_of_lt (Nat.lt_succ_of_lt hal)) (Nat.ne_of_lt hal), ⟨⟨.none, he⟩, ⟨_, hit, rfl, rfl⟩, Nat.succ_ne_self _⟩, fun b hb => ?_, q⟩
    have e' : b = s1.heap.objs.size + 1 ∨ b = s1.heap.objs.size := by simpa using hb
    have hle : s1.heap.objs.size ≤ b := by
      rcases e' with z | z
      · rw [z]; exact Nat.le_add_right _ _
      · rw [z]; exact Nat.le_refl _
    exact I1.fpOk hle (I1.hok.fresh hle)
end Pk
set_option maxHeartbeats 1000000
/-! Spans of picks: how many there are, and that all are met. -/
namespace Pk
open PySem PySem.Spec PyProof.Rows L2
variable {b : List (List Pair)}
theorem sortI_eq {l m : List Int} (h : l.Perm m) : sortI l = sortI m :=
  List.Perm.eq_of_pairwise (le := fun a b : Int => a ≤ b) (fun a b _ _ h1 h2 => Int.le_antisymm h1 h2) (sortI_asc l) (sortI_asc m) ((sortI_perm l).trans (h.trans (sortI_perm m).symm))
theorem sortI_mem {l : List Int} {x : Int} : x ∈ sortI l ↔ x ∈ l := (sortI_perm l).mem_iff
theorem sortI_len (l : List Int) : (sortI l).length = l.length := (sortI_perm l).length_eq
theorem sortI_snoc (l : List Int) (x : Int) : sortI (sortI l ++ [x]) = sortI (l ++ [x]) := sortI_eq ((sortI_perm l).append_right [x])
theorem sortI_lt {l : List Int} (h : l.Nodup) : (sortI l).Pairwise (· < ·) := by
  have n : (sortI l).Nodup := (sortI_perm l).nodup_iff.mpr h
  exact List.Pairwise.imp₂ (fun a b h1 h2 => by omega) (sortI_asc l) n
def spanOf (R : List Trip) : Span := (sortI (R.map Trip.per), sortI (R.map Trip.dsk))
theorem spanOf_perm {R S : List Trip} (h : R.Perm S) : spanOf R = spanOf S := Prod.ext (sortI_eq (h.map _)) (sortI_eq (h.map _))
theorem spanOf_len (R : List Trip) : (spanOf R).1.length = R.length := by
  show (sortI (R.map Trip.per)).length = _
  rw [sortI_len, List.length_map]
theorem spanOf_snoc (R : List Trip) (t : Trip) : spanOf (R ++ [t]) = (sortI ((spanOf R).1 ++ [t.per]), sortI ((spanOf R).2 ++ [t.dsk])) := by
  show (sortI ((R ++ [t]).map Trip.per), sortI ((R ++ [t]).map Trip.dsk)) = (sortI (sortI (R.map Trip.per) ++ [t.per]), sortI (sortI (R.map Trip.dsk) ++ [t.dsk]))
  rw [sortI_snoc, sortI_snoc, List.map_append, List.map_append]
  rfl
/-! ### how many spans -/
def subs : List Int → List (List Int)
  | [] => [[]]
  | x :: l => subs l ++ (subs l).map (x :: ·)
theorem mem_subs {s l : List Int} (h : s.Sublist l) : s ∈ subs l := by
  induction h with
  | slnil => exact List.mem_singleton.mpr rfl
  | cons a _ ih => exact List.mem_append_left _ ih
  | cons_cons a _ ih => exact List.mem_append_right _ (List.mem_map.mpr ⟨_, ih, rfl⟩)
theorem asc_sub : ∀ {m l : List Int}, l.Pairwise (· < ·) → m.Pairwise (· < ·) → (∀ x, x ∈ l → x ∈ m) → l.Sublist m
  | [], [], _, _, _ => .slnil
  | [], x :: l, _, _, h => absurd (h x List.mem_cons_self) List.not_mem_nil
  | y :: m, [], _, _, _ => List.nil_sublist _
  | y :: m, x :: l, hl, hm, h => by
    rw [List.pairwise_cons] at hl hm
    by_cases e : x = y
    · subst e
      refine (asc_sub hl.2 hm.2 fun z hz => ?_).cons_cons x
      rcases List.mem_cons.mp (h z (List.mem_cons_of_mem _ hz)) with q | q
      · exact absurd (hl.1 z hz) (by rw [q]; omega)
      · exact q
    · have hx : x ∈ m := (List.mem_cons.mp (h x List.mem_cons_self)).resolve_left e
      have lt := hm.1 x hx
      refine (asc_sub (List.pairwise_cons.mpr hl) hm.2 fun z hz => ?_).cons y
      rcases List.mem_cons.mp (h z hz) with q | q
      · rcases List.mem_cons.mp hz with q2 | q2
        · exact absurd (q2 ▸ q) e
        · have := hl.1 z q2
          omega
      · exact q
def prodL (a c : List (List Int)) : List Span := a.flatMap fun x => c.map fun y => (x, y)
theorem prodL_len (a c : List (List Int)) : (prodL a c).length = a.length * c.length := by
  induction a with
  | nil => simp [prodL]
  | cons x a ih =>
    rw [prodL, List.flatMap_cons, List.length_append, List.length_map, List.length_cons, Nat.succ_mul]
    rw [prodL] at ih
    omega
abbrev eight : List Int := [0, 1, 2, 3, 4, 5, 6, 7]
theorem in_eight {l : List Int} (hn : l.Nodup) (hr : ∀ x, x ∈ l → 0 ≤ x ∧ x ≤ 7) : sortI l ∈ subs eight :=
  mem_subs (asc_sub (sortI_lt hn) (by decide) fun x hx => by
    have := hr x (sortI_mem.mp hx)
    simp only [List.mem_cons, List.not_mem_nil, or_false]
    omega)
theorem span_in (hb : Book b) {R : List Trip} (h : PickOk b R) : spanOf R ∈ prodL (subs eight) (subs eight) := by
  refine List.mem_flatMap.mpr ⟨_, in_eight h.per fun x hx => ?_, List.mem_map.mpr ⟨_, in_eight h.dsk fun x hx => ?_, rfl⟩⟩
  · obtain ⟨t, ht, rfl⟩ := List.mem_map.mp hx
    exact (h.rng hb ht).1
  · obtain ⟨t, ht, rfl⟩ := List.mem_map.mp hx
    exact (h.rng hb ht).2
/-- at most 65536 spans of picks -/
theorem spans_few (hb : Book b) {l : List Span} (hn : l.Nodup) (h : ∀ s, s ∈ l → ∃ R, PickOk b R ∧ s = spanOf R) : l.length ≤ 65536 := by
  have q := nodup_sub_len l (prodL (subs eight) (subs eight)) hn fun s hs => by
    obtain ⟨R, h1, e⟩ := h s hs
    exact e ▸ span_in hb h1
  rwa [prodL_len, show (subs eight).length = 256 by decide +kernel] at q
/-! ### all spans are met -/
/-- every pick of plans ahead of i has its span in S -/
def Cov (b : List (List Pair)) (i : Nat) (S : List Span) : Prop := ∀ R, PickOk b R → (∀ t, t ∈ R → t.1 < i) → spanOf R ∈ S
theorem Cov.zero (b : List (List Pair)) : Cov b 0 [([], [])] := fun R _ h => by
  match R, h with
  | [], _ => exact List.mem_singleton.mpr (by decide +kernel)
  | t :: R, h => exact absurd (h t List.mem_cons_self) (by omega)
/-- the plan i's pairs, put to every span ahead, give the spans of the picks of plans up to i -/
theorem Cov.next {i : Nat} {S T : List Span} (h : Cov b i S) (sub : ∀ s, s ∈ S → s ∈ T) (put : ∀ s, s ∈ S → ∀ p, p ∈ MB b i → p.1 ∉ s.1 → p.2 ∉ s.2 → (sortI (s.1 ++ [p.1]), sortI (s.2 ++ [p.2])) ∈ T) : Cov b (i + 1) T := fun R hR hi => by
  by_cases hx : ∃ t, t ∈ R ∧ t.1 = i
  · obtain ⟨t, ht, e⟩ := hx
    obtain ⟨a, c, rfl⟩ := List.append_of_mem ht
    have pm : (a ++ t :: c).Perm ((a ++ c) ++ [t]) := List.perm_middle.trans (List.perm_append_singleton t (a ++ c)).symm
    have hR2 := hR.perm pm.symm
    have hR1 : PickOk b (a ++ c) := hR2.sub (List.sublist_append_left _ _)
    have hlt : ∀ u, u ∈ a ++ c → u.1 < i := fun u hu => by
      have h1 := hi u (by
        rcases List.mem_append.mp hu with m | m
        · exact List.mem_append_left _ m
        · exact List.mem_append_right _ (List.mem_cons_of_mem _ m))
      have h2 : u.1 ≠ i := fun z => by
        have hn := hR2.num
        rw [List.map_append] at hn
        exact (List.nodup_append.mp hn).2.2 u.1 (List.mem_map.mpr ⟨u, hu, rfl⟩) t.1 (List.mem_singleton.mpr rfl) (by rw [z, e])
      omega
    have hs := h (a ++ c) hR1 hlt
    rw [spanOf_perm pm, spanOf_snoc]
    refine put _ hs t.2 (by rw [← e]; exact (hR.mem t ht).2) (fun m => ?_) (fun m => ?_)
    · have hn := hR2.per
      rw [List.map_append] at hn
      exact (List.nodup_append.mp hn).2.2 t.per (sortI_mem.mp m) t.per (List.mem_singleton.mpr rfl) rfl
    · have hn := hR2.dsk
      rw [List.map_append] at hn
      exact (List.nodup_append.mp hn).2.2 t.dsk (sortI_mem.mp m) t.dsk (List.mem_singleton.mpr rfl) rfl
  · exact sub _ (h R hR fun t ht => by
      have h1 := hi t ht
      have h2 : t.1 ≠ i := fun z => hx ⟨t, ht, z⟩
      omega)
/-- a pick and one pair of a plan behind it -/
theorem PickOk.snoc {R : List Trip} (h : PickOk b R) {i : Nat} {p : Pair} (hi : i < b.length) (hp : p ∈ MB b i) (hn : ∀ t, t ∈ R → t.1 < i) (h1 : p.1 ∉ (spanOf R).1) (h2 : p.2 ∉ (spanOf R).2) : PickOk b (R ++ [(i, p)]) where
  num := by
    rw [List.map_append]
    refine nodup_snoc h.num fun m => ?_
    obtain ⟨t, ht, e⟩ := List.mem_map.mp m
    have := hn t ht
    have e : t.1 = i := e
    omega
  per := by
    rw [List.map_append]
    exact nodup_snoc h.per fun m => h1 (sortI_mem.mpr m)
  dsk := by
    rw [List.map_append]
    exact nodup_snoc h.dsk fun m => h2 (sortI_mem.mpr m)
  mem := fun t ht => by
    rcases List.mem_append.mp ht with m | m
    · exact h.mem t m
    · rw [List.mem_singleton.mp m]
      exact ⟨hi, hp⟩
end Pk
set_option maxHeartbeats 1000000
/-! What the dict of spans holds. -/
namespace Pk
open PySem PySem.Spec PyProof.Rows L2
theorem atSpan_mem {T : List Ent} {e : Ent} (hn : (T.map (·.1)).Nodup) (h : e ∈ T) : atSpan T e.1 = some e.2.2 := by
  induction T with
  | nil => exact absurd h List.not_mem_nil
  | cons x T ih =>
    rw [List.map_cons, List.nodup_cons] at hn
    unfold atSpan
    rcases List.mem_cons.mp h with rfl | m
    · rw [List.find?_cons_of_pos (by simp)]
      rfl
    · have ne : ¬ x.1 = e.1 := fun z => hn.1 (z ▸ List.mem_map.mpr ⟨e, m, rfl⟩)
      rw [List.find?_cons_of_neg (by simpa using ne)]
      exact ih hn.2 m
theorem atSpan_none {T : List Ent} {sp : Span} (h : atSpan T sp = none) : sp ∉ T.map (·.1) := fun m => by
  obtain ⟨e, he, rfl⟩ := List.mem_map.mp m
  unfold atSpan at h
  rw [Option.map_eq_none_iff, List.find?_eq_none] at h
  have q := h e he
  rw [decide_eq_true_iff] at q
  exact q rfl
theorem atSpan_some {T : List Ent} {sp : Span} {v : Addr} (h : atSpan T sp = some v) : ∃ e, e ∈ T ∧ e.1 = sp ∧ e.2.2 = v := by
  unfold atSpan at h
  obtain ⟨e, he, rfl⟩ := Option.map_eq_some_iff.mp h
  refine ⟨e, List.mem_of_find?_eq_some he, ?_, rfl⟩
  have := List.find?_some he
  exact of_decide_eq_true this
/-- all things but d are kept -/
def SameB (d : Addr) (H H' : Hp) : Prop := ∀ a o, a ≠ d → H a = some o → H' a = some o
theorem SameB.of {d : Addr} {H H' : Hp} (s : Same H H') : SameB d H H' := fun a o _ e => s a o e
theorem SameB.refl {d : Addr} {H : Hp} : SameB d H H := fun _ _ _ e => e
theorem SameB.trans {d : Addr} {H H1 H2 : Hp} (a : SameB d H H1) (b : SameB d H1 H2) : SameB d H H2 := fun x o n e => b x o n (a x o n e)
theorem SameB.put {d : Addr} {H : Hp} {o : HO} : SameB d H (upd H d o) := fun a u n e => by
  rw [upd_ne n]
  exact e
theorem kno_ne {w : World} {d : Addr} {T : List Ent} {o : HO} (h : ∀ φ, o ≠ .ext φ) : KnO w d T ≠ o := fun z => h _ z.symm
theorem SameB.tk {w : World} {d : Addr} {T : List Ent} {H H' : Hp} (s : SameB d H H') (h : H d = some (KnO w d T)) : Tk H H' := fun a xs e => s a _ (ne_of e h fun z => by unfold KnO at z; cases z) e
theorem SameB.dk {w : World} {d p : Addr} {T : List Ent} {R : List Trip} {H H' : Hp} (s : SameB d H H') (h : H d = some (KnO w d T)) (k : DkAt H p R) : DkAt H' p R :=
  let ⟨kvs, h1, h2⟩ := k
  ⟨kvs, s p _ (ne_of h1 h fun z => by unfold KnO at z; cases z) h1, h2.tmono (s.tk h)⟩
/-- the dict d holds spans of picks of plans ahead of i, none of n pairs -/
structure KnS (w : World) (b : List (List Pair)) (n : Nat) (d : Addr) (i : Nat) (T : List Ent) (H : Hp) : Prop where
  kn : KnAt w H d T
  ent : ∀ e, e ∈ T → ∃ R, DkAt H e.2.2 R ∧ PickOk b R ∧ (∀ t, t ∈ R → t.1 < i) ∧ e.1 = spanOf R ∧ R.length ≠ n
section
variable {w : World} {b : List (List Pair)} {n i : Nat} {d : Addr} {T : List Ent} {H H' : Hp}
theorem KnAt.same (k : KnAt w H d T) (s : Same H H') : KnAt w H' d T := ⟨s _ _ k.at_, fun e he => (k.key e he).tmono (tk_same s), k.nd⟩
theorem KnS.same (k : KnS w b n d i T H) (s : Same H H') : KnS w b n d i T H' := ⟨k.kn.same s, fun e he => let ⟨R, h1, h2⟩ := k.ent e he; ⟨R, h1.same s, h2⟩⟩
theorem KnS.up (k : KnS w b n d i T H) {j : Nat} (h : i ≤ j) : KnS w b n d j T H := ⟨k.kn, fun e he => let ⟨R, h1, h2, h3, h4⟩ := k.ent e he; ⟨R, h1, h2, fun t ht => Nat.lt_of_lt_of_le (h3 t ht) h, h4⟩⟩
theorem KnS.few (hb : Book b) (k : KnS w b n d i T H) : T.length ≤ 65536 := by
  have := spans_few hb k.kn.nd fun s hs => by
    obtain ⟨e, he, rfl⟩ := List.mem_map.mp hs
    obtain ⟨R, _, h2, _, h4, _⟩ := k.ent e he
    exact ⟨R, h2, h4⟩
  rwa [List.length_map] at this
/-- one entry more -/
theorem KnS.snoc (k : KnS w b n d i T H) {sp : Span} {m p : Addr} {R : List Trip} (hn : atSpan T sp = none) (hm : KeyAt H m sp) (hp : DkAt H p R) (h2 : PickOk b R) (h3 : ∀ t, t ∈ R → t.1 < i) (h4 : sp = spanOf R) (h5 : R.length ≠ n) :
    KnS w b n d i (T ++ [(sp, m, p)]) (upd H d (KnO w d (T ++ [(sp, m, p)]))) := by
  have s : SameB d H (upd H d (KnO w d (T ++ [(sp, m, p)]))) := SameB.put
  refine ⟨⟨upd_same, fun e he => ?_, ?_⟩, fun e he => ?_⟩
  · rcases List.mem_append.mp he with z | z
    · exact (k.kn.key e z).tmono (s.tk k.kn.at_)
    · rw [List.mem_singleton.mp z]
      exact hm.tmono (s.tk k.kn.at_)
  · rw [List.map_append]
    exact nodup_snoc k.kn.nd (atSpan_none hn)
  · rcases List.mem_append.mp he with z | z
    · obtain ⟨R, h1, h⟩ := k.ent e z
      exact ⟨R, s.dk k.kn.at_ h1, h⟩
    · rw [List.mem_singleton.mp z]
      exact ⟨R, s.dk k.kn.at_ hp, h2, h3, h4, h5⟩
end
/-- the turns of enumerate over a tuple -/
theorem for_enumT {K : PySem.W.Frag} {a : Addr} {xs : List V} {g : TG} {tb : TS} {D : Ends} {σ : L2.St} {H : Hp} (Pv : Nat → L2.St → Hp → Prop) (h0 : Pv 0 σ H) (hl : ∀ i σ H, i ≤ xs.length → Pv i σ H → SqT K H a xs)
    (hs : ∀ i x T σ H, xs[i]? = some x → Pv i σ H → H T = none → g (.ref T) σ (upd H T (.tup [.int (i : Nat), x])) fun σ2 H2 => tb { D with nx := Pv (i + 1), ct := Pv (i + 1), bk := D.nx } σ2 H2) (hd : ∀ σ H, Pv xs.length σ H → D.nx σ H) :
    ∃ W : Nat → Nat → L2.St → Hp → Prop, (∃ m, W 0 m σ H) ∧ ∀ i m σ H, W i m σ H →
      ((IteT K a).stop i H ∧ D.nx σ H) ∨ ((IteT K a).go i H ∧ ∃ N : L2.St → Hp → Prop, (∀ σ' H', N σ' H' → ∃ m', m' < m ∧ W (i + 1) m' σ' H') ∧ ∀ x H', (IteT K a).yld i H x H' → g x σ H' fun σ2 H2 => tb { D with nx := N, ct := N, bk := D.nx } σ2 H2) := by
  refine ⟨fun i m σ H => m = xs.length - i ∧ i ≤ xs.length ∧ Pv i σ H, ⟨xs.length, by simp, Nat.zero_le _, h0⟩, ?_⟩
  rintro i m σ H ⟨rfl, hi, p⟩
  have q := hl i σ H hi p
  by_cases hlt : i < xs.length
  · refine .inr ⟨⟨xs, xs[i], q, by simp [hlt]⟩, Pv (i + 1), fun σ' H' p' => ⟨xs.length - (i + 1), by omega, rfl, hlt, p'⟩, fun x H' y => ?_⟩
    obtain ⟨T, z, rfl, hT, rfl, hz⟩ := y
    exact hs i z T σ H (hz xs q) p hT
  · have e : i = xs.length := by omega
    subst e
    exact .inl ⟨⟨xs, q, rfl⟩, hd σ H p⟩
end Pk
set_option maxHeartbeats 1000000
namespace Pk
open PySem PySem.Spec PyProof.Rows L2
def sp_picks_by_spans : Sp := fun vs H Q _ => ∃ (v : V) (n : Nat) (b : List (List Pair)), vs = [v, .int n] ∧ Dt H v (bkD b) ∧ Book b ∧ 1 ≤ n ∧ (∃ R, PickOk b R ∧ R.length = n) ∧
  ∀ d R H', Same H H' → DkAt H' d R → PickOk b R → R.length = n → Q (.ref d) H'
/-- what holds while the plan i is put to the spans of T -/
structure PbS (w : World) (b : List (List Pair)) (n : Nat) (d : Addr) (H H8 : Hp) (T : List Ent) (i : Nat) (T' : List Ent) (H' : Hp) : Prop where
  sb : SameB d H8 H'
  sm : Same H H'
  ks : KnS w b n d (i + 1) (T ++ T') H'
/-- the pair p is put to the entry e -/
def Put (T T' : List Ent) (e : Ent) (p : Pair) : Prop := p.1 ∉ e.1.1 → p.2 ∉ e.1.2 → (sortI (e.1.1 ++ [p.1]), sortI (e.1.2 ++ [p.2])) ∈ (T ++ T').map (·.1)
theorem Put.more {T T' : List Ent} {e : Ent} {p : Pair} (h : Put T T' e p) (T2 : List Ent) : Put T (T' ++ T2) e p := fun h1 h2 => by
  rw [← List.append_assoc, List.map_append]
  exact List.mem_append_left _ (h h1 h2)
section
variable {P : Program} {w : World} {K : PySem.W.Frag} {mg : Str → Option Value} {base : Heap}
theorem ok_picks_by_spans {f : Addr} {fd : FuncData} (F : Fun K "picks_by_spans" "picks_by_spans" s_picks_by_spans f fd) (G : Glob mg) : FnOk P w K mg base CX0 1 f fd ["book", "wanted"] sp_picks_by_spans := by
  refine F.ok c_picks_by_spans (fun vs H Q E h => ?_) (fun cdv A0 outer s H vs Q E hr h => ?_)
  · obtain ⟨v, n, b, rfl, _⟩ := h
    rfl
  · obtain ⟨v, n, b, rfl, hv, hb, hn1, hex, q⟩ := h
    refine ⟨_, 
      (pss_cons (ps_set (i := 2) c_picks_by_spans.nd rfl (.inl rfl) (pe_knew w hr.units (pe_tup (pa_cons (pe_tup pa_nil) (pa_cons (pe_tup pa_nil) pa_nil))) pe_dnewK))
      (pss_cons (ps_for PassesOwn.never rfl (pi_enumT rfl G.enumerate (pa_cons (pv 0) pa_nil)) (pgT K (n := 2) rfl (pgs_cons (pg_name (i := 3) c_picks_by_spans.nd rfl (.inl rfl)) (pgs_cons (pg_name (i := 4) c_picks_by_spans.nd rfl (.inl rfl)) pgs_nil))) 
          (pss_one (ps_for PassesOwn.never rfl (pi_list (pe_callTy (call_listKn w rfl) (by rfl) G.list (by decide +kernel) (pa_cons (pv 2) pa_nil))) (pg_name (i := 5) c_picks_by_spans.nd rfl (.inl rfl)) 
              (pss_one (ps_for PassesOwn.never rfl (pi_tup (pv 4)) (pgT K (n := 2) rfl (pgs_cons (pg_name (i := 6) c_picks_by_spans.nd rfl (.inl rfl)) (pgs_cons (pg_name (i := 7) c_picks_by_spans.nd rfl (.inl rfl)) pgs_nil))) 
                  (pss_one (ps_if (PW.pt (pw_and (pt_cmpR (ninI K) (pv 6) (pe_ix (ixT K) (pv 5) pe_int (fun _ _ => rfl)) (by rfl)) (pw_and1 (pt_cmpR (ninI K) (pv 7) (pe_ix (ixT K) (pv 5) pe_int (fun _ _ => rfl)) (by rfl))))) 
                      (pss_cons (ps_set (i := 8) c_picks_by_spans.nd rfl (.inl rfl) (pe_tup (pa_cons (pe_tupleOf rfl G.tuple (pe_callB (cr_sortDt hr.units) (by rfl) G.sorted boot_sorted (pa_cons (pe_lst (StX.pa_star (pe_ix (ixT K) (pv 5) pe_int (fun _ _ => rfl)) (pa_cons (pv 6) pa_nil))) pa_nil))) (pa_cons (pe_tupleOf rfl G.tuple (pe_callB (cr_sortDt hr.units) (by rfl) G.sorted boot_sorted (pa_cons (pe_lst (StX.pa_star (pe_ix (ixT K) (pv 5) pe_int (fun _ _ => rfl)) (pa_cons (pv 7) pa_nil))) pa_nil))) pa_nil))))
                      (pss_cons (ps_if (pt_cmp (pc_knotin w hr.units (pv 8) (pv 2)) (by rfl)) 
                          (pss_one (ps_kput w hr.units (pv 2) (pv 8) (pe_disp3 (pe_kget w hr.units (pv 2) (pv 5) (fun _ _ => rfl)) (pv 3) (pe_tup (pa_cons (pv 6) (pa_cons (pv 7) pa_nil)))) rfl)) pss_nil)
                      (pss_one (ps_if (pt_cmpR op_eq (pe_callB call_lenD (by rfl) G.len PySem.boot_len (pa_cons (pe_kget w hr.units (pv 2) (pv 8) (fun _ _ => rfl)) pa_nil)) (pv 1) (nomark _)) 
                          (pss_one (ps_ret (pe_kget w hr.units (pv 2) (pv 8) (fun _ _ => rfl)))) pss_nil)))) pss_nil)))))))
      (pss_one (ps_ret (pe_ifExp (pt_cmpR op_eq (pv 1) pe_int (nomark _)) pe_dnewK pe_non))))), ?_⟩
    obtain ⟨B, xs, rfl, hB, hs, hxl⟩ := dt_book hv
    have hbl := hb.len
    intro d nd
    refine ⟨by decide, fun t1 nt1 => ⟨by decide, fun t2 nt2 => ⟨by show 2 ≤ sizeLine; decide, fun kb nkb => fun e0 ne0 => ?_⟩⟩⟩
    have s1 := same_new (o := KnO w d []) nd
    have s2 := same_new (o := HO.tup []) nt1
    have s3 := same_new (o := HO.tup []) nt2
    have s4 := same_new (o := HO.tup [V.ref t1, V.ref t2]) nkb
    have s5 := same_new (o := HO.dK []) ne0
    have s25 := s2.trans (s3.trans (s4.trans s5))
    have hd5 := s25 _ _ (upd_same (H := H) (a := d) (o := KnO w d []))
    have hk5 : KeyAt (upd (upd (upd (upd (upd H d (KnO w d [])) t1 (.tup [])) t2 (.tup [])) kb (.tup [.ref t1, .ref t2])) e0 (.dK [])) kb ([], []) :=
      ⟨t1, t2, s5 _ _ upd_same, s5 _ _ (s4 _ _ (s3 _ _ upd_same)), s5 _ _ (s4 _ _ upd_same)⟩
    have he5 := upd_same (H := upd (upd (upd (upd H d (KnO w d [])) t1 (.tup [])) t2 (.tup [])) kb (.tup [.ref t1, .ref t2])) (a := e0) (o := HO.dK [])
    have s15 := s1.trans s25
    generalize upd (upd (upd (upd (upd H d (KnO w d [])) t1 (.tup [])) t2 (.tup [])) kb (.tup [.ref t1, .ref t2])) e0 (.dK []) = H5 at s15 hd5 hk5 he5 s25 ⊢
    refine ⟨kb, ([], []), e0, rfl, rfl, hd5, hk5, ?_⟩
    have k0 : KnS w b n d 0 [(([], []), kb, e0)] (upd H5 d (KnO w d [(([], []), kb, e0)])) := by
      have k := KnS.snoc (w := w) (b := b) (n := n) (i := 0) (d := d) (T := []) (H := H5) (sp := ([], [])) (m := kb) (p := e0) (R := []) ⟨⟨hd5, fun _ m => absurd m List.not_mem_nil, List.nodup_nil⟩, fun _ m => absurd m List.not_mem_nil⟩ rfl hk5 ⟨[], he5, .nil⟩ (PickOk.nil b) (fun _ m => absurd m List.not_mem_nil) (by decide +kernel) (by show 0 ≠ n; omega)
      exact k
    have s06 : Same H (upd H5 d (KnO w d [(([], []), kb, e0)])) := same_mut s15 nd
    generalize upd H5 d (KnO w d [(([], []), kb, e0)]) = H6 at k0 s06 ⊢
    refine ⟨.ref B, rfl, B, xs, rfl, SqT.of (s06 _ _ hB), ?_⟩
    refine for_enumT (xs := xs) (fun i σ H' => ∃ (T : List Ent) (x3 x4 x5 x6 x7 x8 : Option V), σ = [some (.ref B), some (.int n), some (.ref d), x3, x4, x5, x6, x7, x8] ∧ Same H H' ∧ KnS w b n d i T H' ∧ Cov b i (T.map (·.1))) ?_ (fun i σ H' hi hP => ?_) (fun i x tp σ H' hx hP ntp => ?_) fun σ H' hP => ?_
    · exact ⟨_, _, _, _, _, _, _, rfl, s06, k0, Cov.zero b⟩
    · obtain ⟨_, _, _, _, _, _, _, _, s, _⟩ := hP
      exact SqT.of (s _ _ hB)
    · obtain ⟨T, x3, x4, x5, x6, x7, x8, rfl, s7, k7, c7⟩ := hP
      have s8 := same_new (o := HO.tup [V.int (i : Nat), x]) ntp
      have htp := upd_same (H := H') (a := tp) (o := HO.tup [V.int (i : Nat), x])
      obtain ⟨mi, hmi, hdm⟩ := (hs.tmono (tk_same (s7.trans s8))).plan hx
      obtain ⟨Bi, ps, rfl, hBi, hps, hpl⟩ := dt_plan hdm
      have eMB : MB b i = mi := by
        rw [MB, List.getD_eq_getElem?_getD, hmi]
        rfl
      have hib : i < b.length := (List.getElem?_eq_some_iff.mp hmi).1
      have k8 := k7.same s8
      have s78 := s7.trans s8
      refine ⟨tp, _, rfl, SqT.of htp, rfl, _, _, rfl, _, _, rfl, rfl, ?_⟩
      generalize upd H' tp (HO.tup [V.int (i : Nat), V.ref Bi]) = H7 at s8 htp hBi hps k8 s78 ⊢
      refine ⟨.ref d, rfl, d, T, rfl, k8.kn.at_, Nat.le_trans (k8.few hb) (by decide), fun l nl => ⟨l, rfl, ⟨_, SqL.of upd_same⟩, ?_⟩⟩
      have s9 := same_new (o := HO.lst (T.map fun e => V.ref e.2.1)) nl
      have hl8 := upd_same (H := H7) (a := l) (o := HO.lst (T.map fun e => V.ref e.2.1))
      have k9 := k8.same s9
      have s79 := s78.trans s9
      have hBi := s9 _ _ hBi
      have hps := hps.tmono (tk_same s9)
      generalize upd H7 l (HO.lst (T.map fun e => V.ref e.2.1)) = H8 at s9 hl8 k9 s79 hBi hps ⊢
      have ld : l ≠ d := ne_of hl8 k9.kn.at_ (by unfold KnO; intro z; cases z)
      refine for_list (xs := T.map fun e => V.ref e.2.1) (fun j σ H' => ∃ (T' : List Ent) (x5 x6 x7 x8 : Option V), σ = [some (.ref B), some (.int n), some (.ref d), some (.int i), some (.ref Bi), x5, x6, x7, x8] ∧ PbS w b n d H H8 T i T' H' ∧
        ∀ (j' : Nat) (e : Ent), j' < j → T[j']? = some e → ∀ p, p ∈ MB b i → Put T T' e p) ?_ (fun j σ H' hj hP => ?_) (fun j x σ H' hx hP => ?_) fun σ H' hP => ?_
      · exact ⟨[], _, _, _, _, rfl, ⟨SameB.refl, s79, by rw [List.append_nil]; exact k9.up (Nat.le_succ i)⟩, fun j' e hj => absurd hj (Nat.not_lt_zero _)⟩
      · obtain ⟨T', _, _, _, _, _, h1, _⟩ := hP
        exact SqL.of (h1.sb _ _ ld hl8)
      · obtain ⟨T', x5, x6, x7, x8, rfl, h1, h2⟩ := hP
        rw [List.getElem?_map] at hx
        cases he : T[j]? with
        | none => rw [he] at hx; cases hx
        | some e =>
        rw [he] at hx
        cases hx
        have hem := List.mem_of_getElem? he
        have hBid : Bi ≠ d := ne_of hBi k9.kn.at_ (by unfold KnO; intro z; cases z)
        refine ⟨.ref Bi, rfl, Bi, rfl, ⟨ps, SqT.of (h1.sb _ _ hBid hBi)⟩, ?_⟩
        refine for_tup (xs := ps) (fun r σ H' => ∃ (T' : List Ent) (x6 x7 x8 : Option V), σ = [some (.ref B), some (.int n), some (.ref d), some (.int i), some (.ref Bi), some (.ref e.2.1), x6, x7, x8] ∧ PbS w b n d H H8 T i T' H' ∧
          (∀ (j' : Nat) (e : Ent), j' < j → T[j']? = some e → ∀ p, p ∈ MB b i → Put T T' e p) ∧ ∀ (r' : Nat) (p : Pair), r' < r → (MB b i)[r']? = some p → Put T T' e p) ?_ (fun r σ H' hr hP => ?_) (fun r x σ H' hx hP => ?_) fun σ H' hP => ?_
        · exact ⟨T', _, _, _, rfl, h1, h2, fun r' p hr => absurd hr (Nat.not_lt_zero _)⟩
        · obtain ⟨T', _, _, _, _, h1, _⟩ := hP
          exact SqT.of (h1.sb _ _ hBid hBi)
        · obtain ⟨T', x6, x7, x8, rfl, h1, h2, h3⟩ := hP
          have tk8 : Tk H8 H' := h1.sb.tk k9.kn.at_
          obtain ⟨p, t, hpr, rfl, ht⟩ := (hps.tmono tk8).pr hx
          rw [← eMB] at hpr
          have hpm := List.mem_of_getElem? hpr
          obtain ⟨R, hRd, hR, hRi, hRe, hRn⟩ := k9.ent e hem
          have hRd := h1.sb.dk k9.kn.at_ hRd
          have heT : e ∈ T ++ T' := List.mem_append_left _ hem
          obtain ⟨p0, q0, hkb, hp0, hq0⟩ := h1.ks.kn.key e heT
          have hR8 := hR.len8 hb
          have hl1 : e.1.1.length = R.length := by rw [hRe, spanOf_len]
          have hl2 : e.1.2.length = R.length := by
            rw [hRe]
            show (sortI (R.map Trip.dsk)).length = _
            rw [sortI_len, List.length_map]
          have fin : ∀ T2 : List Ent, Put T (T' ++ T2) e p → ∀ (r' : Nat) (p' : Pair), r' < r + 1 → (MB b i)[r']? = some p' → Put T (T' ++ T2) e p' := fun T2 hput r' p' hr' hp' => by
            by_cases z : r' < r
            · exact (h3 r' p' z hp').more T2
            · have : r' = r := by omega
              subst this
              rw [hpr] at hp'
              cases hp'
              exact hput
          have fin0 : Put T T' e p → ∀ (r' : Nat) (p' : Pair), r' < r + 1 → (MB b i)[r']? = some p' → Put T T' e p' := fun hput => by
            have := fin []
            rw [List.append_nil] at this
            exact this hput
          refine ⟨t, _, rfl, SqT.of ht, rfl, _, _, rfl, _, _, rfl, rfl, ?_⟩
          refine ⟨.int p.1, rfl, .ref e.2.1, rfl, e.2.1, _, 0, .ref p0, rfl, rfl, SqT.of hkb, atI_nat (j := 0) rfl, p.1, p0, e.1.1, rfl, rfl, .inr (SqT.of hp0), _, rfl, ?_⟩
          rw [if_pos rfl]
          by_cases hq1 : p.1 ∈ e.1.1
          · rw [decide_eq_true hq1]
            exact ⟨T', _, _, _, rfl, h1, h2, fin0 fun z => absurd hq1 z⟩
          rw [decide_eq_false hq1]
          refine ⟨.int p.2, rfl, .ref e.2.1, rfl, e.2.1, _, 1, .ref q0, rfl, rfl, SqT.of hkb, atI_nat (j := 1) rfl, p.2, q0, e.1.2, rfl, rfl, .inr (SqT.of hq0), _, rfl, ?_⟩
          rw [if_pos rfl]
          by_cases hq2 : p.2 ∈ e.1.2
          · rw [decide_eq_true hq2]
            exact ⟨T', _, _, _, rfl, h1, h2, fin0 fun _ z => absurd hq2 z⟩
          rw [decide_eq_false hq2]
          -- more
          refine ⟨.ref e.2.1, rfl, e.2.1, _, 0, .ref p0, rfl, rfl, SqT.of hkb, atI_nat (j := 0) rfl, p0, _, rfl, .inl (SqT.of hp0), .int p.1, rfl, ?_, fun l1 nl1 => ?_⟩
          · show (e.1.1.map V.int ++ [V.int p.1]).length ≤ sizeLine
            rw [List.length_append, List.length_map, sizeLine_eq]
            show e.1.1.length + 1 ≤ _
            omega
          refine ⟨Int, fun i : Int => PyData.int i, l1, _, e.1.1 ++ [p.1], rfl, .inl (SqL.of upd_same), ?_, alike_ints _, sortable_ints _, fun z _ => by show (0 : Nat) ≤ 8; omega, by rw [List.length_append]; show e.1.1.length + 1 ≤ _; omega, fun l2 ys2 nl2 hys2 => ?_⟩
          · show DtAll _ (e.1.1.map V.int ++ [V.int p.1]) _
            rw [List.map_append]
            exact (DtAll.of_ints e.1.1).app (.one (.int _))
          rw [leI_data] at hys2
          have hys2 : ys2 = (sortI (e.1.1 ++ [p.1])).map V.int := hys2.ints
          refine .inl ⟨l2, _, rfl, SqL.of upd_same, fun u1 nu1 => ?_⟩
          have sa := ((same_new (o := HO.lst (e.1.1.map V.int ++ [V.int p.1])) nl1).trans (same_new (o := HO.lst ys2) nl2)).trans (same_new (o := HO.tup ys2) nu1)
          have hu1 := upd_same (H := upd (upd H' l1 (HO.lst (e.1.1.map V.int ++ [V.int p.1]))) l2 (HO.lst ys2)) (a := u1) (o := HO.tup ys2)
          generalize upd (upd (upd H' l1 (HO.lst (e.1.1.map V.int ++ [V.int p.1]))) l2 (HO.lst ys2)) u1 (HO.tup ys2) = Ha at sa hu1 ⊢
          rw [hys2] at hu1
          clear hys2 nl1 nl2 nu1
          have hkba := sa _ _ hkb
          have hq0a := sa _ _ hq0
          refine ⟨.ref e.2.1, rfl, e.2.1, _, 1, .ref q0, rfl, rfl, SqT.of hkba, atI_nat (j := 1) rfl, q0, _, rfl, .inl (SqT.of hq0a), .int p.2, rfl, ?_, fun l3 nl3 => ?_⟩
          · show (e.1.2.map V.int ++ [V.int p.2]).length ≤ sizeLine
            rw [List.length_append, List.length_map, sizeLine_eq]
            show e.1.2.length + 1 ≤ _
            omega
          refine ⟨Int, fun i : Int => PyData.int i, l3, _, e.1.2 ++ [p.2], rfl, .inl (SqL.of upd_same), ?_, alike_ints _, sortable_ints _, fun z _ => by show (0 : Nat) ≤ 8; omega, by rw [List.length_append]; show e.1.2.length + 1 ≤ _; omega, fun l4 ys4 nl4 hys4 => ?_⟩
          · show DtAll _ (e.1.2.map V.int ++ [V.int p.2]) _
            rw [List.map_append]
            exact (DtAll.of_ints e.1.2).app (.one (.int _))
          rw [leI_data] at hys4
          have hys4 : ys4 = (sortI (e.1.2 ++ [p.2])).map V.int := hys4.ints
          refine .inl ⟨l4, _, rfl, SqL.of upd_same, fun u2 nu2 => ?_⟩
          have sb := ((same_new (o := HO.lst (e.1.2.map V.int ++ [V.int p.2])) nl3).trans (same_new (o := HO.lst ys4) nl4)).trans (same_new (o := HO.tup ys4) nu2)
          have hu2 := upd_same (H := upd (upd Ha l3 (HO.lst (e.1.2.map V.int ++ [V.int p.2]))) l4 (HO.lst ys4)) (a := u2) (o := HO.tup ys4)
          generalize upd (upd (upd Ha l3 (HO.lst (e.1.2.map V.int ++ [V.int p.2]))) l4 (HO.lst ys4)) u2 (HO.tup ys4) = Hb at sb hu2 ⊢
          rw [hys4] at hu2
          clear hys4 nl3 nl4 nu2
          refine ⟨by show 2 ≤ sizeLine; decide, fun mt nmt => ?_⟩
          have sc := same_new (o := HO.tup [V.ref u1, V.ref u2]) nmt
          have hmt : KeyAt (upd Hb mt (HO.tup [V.ref u1, V.ref u2])) mt (sortI (e.1.1 ++ [p.1]), sortI (e.1.2 ++ [p.2])) := ⟨u1, u2, upd_same, sc _ _ (sb _ _ hu1), sc _ _ hu2⟩
          have sall := sa.trans (sb.trans sc)
          generalize upd Hb mt (HO.tup [V.ref u1, V.ref u2]) = Hc at sc hmt sall ⊢
          have h1c : PbS w b n d H H8 T i T' Hc := ⟨h1.sb.trans (SameB.of sall), h1.sm.trans sall, h1.ks.same sall⟩
          have hRc := hRd.same sall
          have hkbc : KeyAt Hc e.2.1 e.1 := h1c.ks.kn.key e heT
          clear sa sb sc hu1 hu2 hkba hq0a
          have hsp : (sortI (e.1.1 ++ [p.1]), sortI (e.1.2 ++ [p.2])) = spanOf (R ++ [(i, p)]) := by
            rw [spanOf_snoc, hRe]
          generalize hspe : (sortI (e.1.1 ++ [p.1]), sortI (e.1.2 ++ [p.2])) = sp at hmt hsp
          refine ⟨.ref mt, rfl, .ref d, rfl, d, T ++ T', mt, sp, rfl, h1c.ks.kn, rfl, hmt, _, rfl, ?_⟩
          cases hat : atSpan (T ++ T') sp with
          | some v2 =>
            obtain ⟨e2, he2, e3, rfl⟩ := atSpan_some hat
            obtain ⟨R2, ⟨kv2, hkv2, hdk2⟩, _, _, _, hne⟩ := h1c.ks.ent e2 he2
            refine ⟨.ref d, rfl, .ref mt, rfl, d, T ++ T', mt, sp, e2.2.2, rfl, h1c.ks.kn, rfl, hmt, hat, e2.2.2, kv2, rfl, hkv2, .int n, rfl, rfl, _, rfl, ?_⟩
            have hne2 : ¬ V.int kv2.length = V.int n := fun z => hne (by
              have := V.int.inj z
              rw [hdk2.len] at this
              omega)
            rw [decide_eq_false hne2]
            refine ⟨T', _, _, _, rfl, h1c, h2, fin0 fun _ _ => ?_⟩
            rw [hspe, ← e3]
            exact List.mem_map.mpr ⟨e2, he2, rfl⟩
          | none =>
            intro pd npd
            have sd := same_new (o := HO.dK []) npd
            have h1d : PbS w b n d H H8 T i T' (upd Hc pd (.dK [])) := ⟨h1c.sb.trans (SameB.of sd), h1c.sm.trans sd, h1c.ks.same sd⟩
            obtain ⟨kvR, hkvR, hdkR⟩ := hRc
            have hkl := hdkR.len
            have pdv : e.2.2 ≠ pd := ne_of_none hkvR npd
            refine ⟨.ref d, rfl, .ref e.2.1, rfl, d, T ++ T', e.2.1, e.1, e.2.2, rfl, h1d.ks.kn, rfl, hkbc.tmono (tk_same sd), atSpan_mem h1d.ks.kn.nd heT, e.2.2, kvR, rfl, pdv, .inl (sd _ _ hkvR), by omega, upd_same, fun qd hqp nqd => ?_⟩
            have nqd0 : Hc qd = none := by
              rw [upd_ne hqp] at nqd
              exact nqd
            refine ⟨.int i, rfl, .int p.1, rfl, .int p.2, rfl, by show 2 ≤ sizeLine; decide, fun tq ntq => ?_⟩
            have tqq : tq ≠ qd := fun z => by rw [z, upd_same] at ntq; cases ntq
            have tqp : tq ≠ pd := fun z => by rw [z, upd_ne (Ne.symm hqp), upd_same] at ntq; cases ntq
            have ntq0 : Hc tq = none := by
              rw [upd_ne tqq, upd_ne tqp, upd_ne tqp] at ntq
              exact ntq
            refine ⟨ikey i, rfl, (upd_ne (Ne.symm tqq)).trans upd_same, (upd_ne (Ne.symm tqp)).trans ((upd_ne (Ne.symm hqp)).trans upd_same), ?_⟩
            have s4 : Same Hc (upd (upd (upd (upd (upd (upd Hc pd (.dK [])) pd (.dK (mergeK [] kvR))) qd (.dK [])) tq (.tup [V.int p.1, V.int p.2])) qd (.dK [(ikey i, V.ref tq)])) pd (.dK (putK (mergeK [] kvR) (ikey i) (V.ref tq)))) :=
              same_mut (same_mut (same_mut (same_mut (same_mut sd npd) nqd0) ntq0) nqd0) npd
            have htq4 : (upd (upd (upd (upd (upd (upd Hc pd (.dK [])) pd (.dK (mergeK [] kvR))) qd (.dK [])) tq (.tup [V.int p.1, V.int p.2])) qd (.dK [(ikey i, V.ref tq)])) pd (.dK (putK (mergeK [] kvR) (ikey i) (V.ref tq)))) tq = some (.tup [V.int p.1, V.int p.2]) := by
              rw [upd_ne tqp, upd_ne tqq, upd_same]
            have hpd4 := upd_same (H := upd (upd (upd (upd (upd Hc pd (.dK [])) pd (.dK (mergeK [] kvR))) qd (.dK [])) tq (.tup [V.int p.1, V.int p.2])) qd (.dK [(ikey i, V.ref tq)])) (a := pd) (o := .dK (putK (mergeK [] kvR) (ikey i) (V.ref tq)))
            generalize upd (upd (upd (upd (upd (upd Hc pd (.dK [])) pd (.dK (mergeK [] kvR))) qd (.dK [])) tq (.tup [V.int p.1, V.int p.2])) qd (.dK [(ikey i, V.ref tq)])) pd (.dK (putK (mergeK [] kvR) (ikey i) (V.ref tq))) = Hd at s4 htq4 hpd4 ⊢
            have hm0 : Dk Hc (mergeK [] kvR) ([] ++ R) := hdkR.merge .nil hR.num
            rw [List.nil_append] at hm0
            have hin : (i, p).1 ∉ R.map (·.1) := fun m => by
              obtain ⟨t3, ht3, e3⟩ := List.mem_map.mp m
              have := hRi t3 ht3
              have e3 : t3.1 = i := e3
              omega
            have hdk4 : Dk Hd (putK (mergeK [] kvR) (ikey i) (.ref tq)) (R ++ [(i, p)]) := (hm0.tmono (tk_same s4)).snoc (t := (i, p)) (dt_mk htq4) hin
            have hR4 : PickOk b (R ++ [(i, p)]) := hR.snoc hib hpm hRi (by rw [← hRe]; exact hq1) (by rw [← hRe]; exact hq2)
            have h1e : PbS w b n d H H8 T i T' Hd := ⟨h1c.sb.trans (SameB.of s4), h1c.sm.trans s4, h1c.ks.same s4⟩
            have hmt4 := hmt.tmono (tk_same s4)
            refine ⟨.ref d, rfl, .ref mt, rfl, d, T ++ T', mt, sp, pd, rfl, rfl, h1e.ks.kn, rfl, hmt4, hat, Nat.lt_of_le_of_lt (h1e.ks.few hb) (by decide), ?_⟩
            have s5 : SameB d Hd (upd Hd d (KnO w d (T ++ T' ++ [(sp, mt, pd)]))) := SameB.put
            have pdd : pd ≠ d := ne_of hpd4 h1e.ks.kn.at_ (by unfold KnO; intro z; cases z)
            have hat5 : DkAt (upd Hd d (KnO w d (T ++ T' ++ [(sp, mt, pd)]))) pd (R ++ [(i, p)]) := s5.dk h1e.ks.kn.at_ ⟨_, hpd4, hdk4⟩
            have hpd5 : (upd Hd d (KnO w d (T ++ T' ++ [(sp, mt, pd)]))) pd = _ := (upd_ne pdd).trans hpd4
            have kn5 : KnAt w (upd Hd d (KnO w d (T ++ T' ++ [(sp, mt, pd)]))) d (T ++ T' ++ [(sp, mt, pd)]) := by
              refine ⟨upd_same, fun e' he' => ?_, ?_⟩
              · rcases List.mem_append.mp he' with z | z
                · exact (h1e.ks.kn.key e' z).tmono (s5.tk h1e.ks.kn.at_)
                · rw [List.mem_singleton.mp z]
                  exact hmt4.tmono (s5.tk h1e.ks.kn.at_)
              · rw [List.map_append]
                exact nodup_snoc h1e.ks.kn.nd (atSpan_none hat)
            have hmt5 := hmt4.tmono (s5.tk h1e.ks.kn.at_)
            have hat6 : atSpan (T ++ T' ++ [(sp, mt, pd)]) sp = some pd := atSpan_mem (e := (sp, mt, pd)) kn5.nd (List.mem_append_right _ (List.mem_singleton.mpr rfl))
            have sm5 : Same H (upd Hd d (KnO w d (T ++ T' ++ [(sp, mt, pd)]))) := same_mut h1e.sm nd
            refine ⟨.ref d, rfl, .ref mt, rfl, d, _, mt, sp, pd, rfl, kn5, rfl, hmt5, hat6, pd, _, rfl, hpd5, .int n, rfl, rfl, _, rfl, ?_⟩
            rw [hdk4.len]
            by_cases hln : (R ++ [(i, p)]).length = n
            · rw [decide_eq_true (by rw [hln])]
              exact ⟨.ref d, rfl, .ref mt, rfl, d, _, mt, sp, pd, rfl, kn5, rfl, hmt5, hat6, q pd _ _ sm5 hat5 hR4 hln⟩
            · rw [decide_eq_false fun z => hln (by have := V.int.inj z; omega)]
              refine ⟨T' ++ [(sp, mt, pd)], _, _, _, rfl, ⟨h1e.sb.trans s5, sm5, ?_⟩, fun j' e' hj' he' p' hp' => (h2 j' e' hj' he' p' hp').more _, fin _ fun _ _ => ?_⟩
              · rw [← List.append_assoc]
                refine h1e.ks.snoc hat hmt4 ⟨_, hpd4, hdk4⟩ hR4 (fun t3 ht3 => ?_) hsp hln
                rcases List.mem_append.mp ht3 with z | z
                · exact Nat.lt_succ_of_lt (hRi t3 z)
                · rw [List.mem_singleton.mp z]
                  exact Nat.lt_succ_self i
              · rw [hspe, ← List.append_assoc, List.map_append]
                exact List.mem_append_right _ (List.mem_singleton.mpr rfl)
        · obtain ⟨T', x6, x7, x8, rfl, h1, h2, h3⟩ := hP
          refine ⟨T', _, _, _, _, rfl, h1, fun j' e' hj' he' p hp => ?_⟩
          by_cases z : j' < j
          · exact h2 j' e' z he' p hp
          · have : j' = j := by omega
            subst this
            rw [he] at he'
            cases he'
            obtain ⟨r', hr', e2⟩ := List.getElem_of_mem hp
            exact h3 r' p (by rw [hpl, ← eMB]; exact hr') (by rw [List.getElem?_eq_getElem hr', e2])
      · obtain ⟨T', x5, x6, x7, x8, rfl, h1, h2⟩ := hP
        refine ⟨T ++ T', _, _, _, _, _, _, rfl, h1.sm, h1.ks, c7.next (fun s hs => ?_) fun s hs p hp q1 q2 => ?_⟩
        · rw [List.map_append]
          exact List.mem_append_left _ hs
        · obtain ⟨e, he, rfl⟩ := List.mem_map.mp hs
          obtain ⟨j', hj', e2⟩ := List.getElem_of_mem he
          exact h2 j' e (by rw [List.length_map]; exact hj') (by rw [List.getElem?_eq_getElem hj', e2]) p hp q1 q2
    · obtain ⟨T, x3, x4, x5, x6, x7, x8, rfl, s7, k7, c7⟩ := hP
      obtain ⟨R, hR, hRn⟩ := hex
      have hm := c7 R hR fun t ht => by
        have := (hR.mem t ht).1
        omega
      obtain ⟨e, he, e1⟩ := List.mem_map.mp hm
      obtain ⟨R2, _, _, _, e2, e3⟩ := k7.ent e he
      refine absurd ?_ e3
      rw [← spanOf_len R2, ← e2, e1, spanOf_len, hRn]
end
end Pk
set_option maxHeartbeats 1000000
/-! Sizes that rise to n: a pick of n pairs. -/
namespace Pk
open PySem PySem.Spec PyProof.Rows L2
theorem cntGe_perm {l m : List Int} (h : l.Perm m) (c : Int) : cntGe l c = cntGe m c := (h.filter _).length_eq
/-- descending sizes: those ahead of the count are great enough -/
theorem desc_ge {l : List Int} (h : l.Pairwise (fun a b => b ≤ a)) {c : Int} {j : Nat} (hj : j < cntGe l c) : ∃ z, l[j]? = some z ∧ c ≤ z := by
  have hl := cntGe_le l c
  refine ⟨l[j]'(by omega), List.getElem?_eq_getElem _, ?_⟩
  by_cases q : c ≤ l[j]'(by omega)
  · exact q
  · exfalso
    have e : cntGe l c ≤ j := by
      have e1 : l = l.take j ++ l.drop j := (List.take_append_drop j l).symm
      unfold cntGe
      rw [e1, List.filter_append, List.length_append]
      have e2 : (l.drop j).filter (fun z => decide (c ≤ z)) = [] := by
        rw [List.filter_eq_nil_iff]
        intro z hz
        obtain ⟨k, hk, e3⟩ := List.getElem_of_mem hz
        rw [List.length_drop] at hk
        rw [List.getElem_drop] at e3
        have hle : z ≤ l[j]'(by omega) := by
          rw [← e3]
          by_cases k0 : k = 0
          · subst k0
            exact Int.le_refl _
          · exact List.pairwise_iff_getElem.mp h j (j + k) (by omega) (by omega) (by omega)
        simp
        omega
      rw [e2]
      have := List.length_filter_le (fun z => decide (c ≤ z)) (l.take j)
      rw [List.length_take] at this
      show _ + 0 ≤ j
      omega
    omega
section
variable {b : List (List Pair)}
def szOf (b : List (List Pair)) (i : Nat) : Int := ((b.getD i []).length : Int)
def leSz (b : List (List Pair)) (i j : Nat) : Bool := decide (szOf b j ≤ szOf b i)
/-- the numbers of the plans, the greatest plan ahead -/
def orderOf (b : List (List Pair)) : List Nat := (List.range b.length).mergeSort (leSz b)
theorem order_perm : (orderOf b).Perm (List.range b.length) := List.mergeSort_perm _ _
theorem order_len : (orderOf b).length = b.length := by rw [order_perm.length_eq, List.length_range]
theorem order_nodup : (orderOf b).Nodup := order_perm.nodup_iff.mpr List.nodup_range
theorem order_lt {i : Nat} (h : i ∈ orderOf b) : i < b.length := List.mem_range.mp (order_perm.subset h)
theorem order_desc : ((orderOf b).map (szOf b)).Pairwise (fun a c => c ≤ a) := by
  refine List.pairwise_map.mpr ?_
  have h := List.pairwise_mergeSort (le := leSz b) (fun x y z => by unfold leSz; rw [decide_eq_true_iff, decide_eq_true_iff, decide_eq_true_iff]; omega) (fun x y => by unfold leSz; rw [Bool.or_eq_true, decide_eq_true_iff, decide_eq_true_iff]; omega) (List.range b.length)
  exact h.imp fun q => of_decide_eq_true q
theorem order_szs : ((orderOf b).map (szOf b)).Perm (szs b) := by
  have e : (List.range b.length).map (szOf b) = szs b := by
    refine List.ext_getElem (by rw [List.length_map, List.length_map, List.length_range]) fun i h1 h2 => ?_
    rw [List.length_map, List.length_range] at h1
    rw [List.getElem_map, List.getElem_map, List.getElem_range, szOf, List.getD_eq_getElem?_getD, List.getElem?_eq_getElem h1]
    rfl
  rw [← e]
  exact order_perm.map _
theorem order_big {c : Int} {j : Nat} (h : j < cntGe (szs b) c) : ∃ i, (orderOf b)[j]? = some i ∧ c ≤ szOf b i := by
  rw [← cntGe_perm order_szs] at h
  obtain ⟨z, h1, h2⟩ := desc_ge order_desc h
  rw [List.getElem?_map] at h1
  cases hi : (orderOf b)[j]? with
  | none => rw [hi] at h1; cases h1
  | some i =>
    rw [hi] at h1
    cases h1
    exact ⟨i, rfl, h2⟩
/-- THE THEOREM: sizes that rise to n have a pick of n pairs -/
theorem rising_pick_ex (hb : Book b) {n : Nat} (hn : 1 ≤ n) (hr : Rises (szs b) n) : ∃ R, PickOk b R ∧ R.length = n := by
  have g : ∀ i, 1 ≤ i → i ≤ 2 * n - 1 → ∃ m, (orderOf b)[2 * n - 1 - i]? = some m ∧ ((min i n : Nat) : Int) ≤ szOf b m := fun i h1 h2 => by
    by_cases hi : i ≤ n
    · have := hr i (by omega) (by omega)
      obtain ⟨m, e1, e2⟩ := order_big (b := b) (c := (i : Int)) (j := 2 * n - 1 - i) (by omega)
      exact ⟨m, e1, by rw [Nat.min_eq_left hi]; exact e2⟩
    · have := hr n (by omega) (by omega)
      obtain ⟨m, e1, e2⟩ := order_big (b := b) (c := (n : Int)) (j := 2 * n - 1 - i) (by omega)
      exact ⟨m, e1, by rw [Nat.min_eq_right (by omega)]; exact e2⟩
  let N : Nat → Nat := fun i => (orderOf b).getD (2 * n - 1 - i) 0
  let M : Nat → List Pair := fun i => if 1 ≤ i ∧ i ≤ 2 * n - 1 then MB b (N i) else []
  have hN : ∀ i, 1 ≤ i → i ≤ 2 * n - 1 → (orderOf b)[2 * n - 1 - i]? = some (N i) ∧ ((min i n : Nat) : Int) ≤ szOf b (N i) := fun i h1 h2 => by
    obtain ⟨m, e1, e2⟩ := g i h1 h2
    have : N i = m := by
      show (orderOf b).getD (2 * n - 1 - i) 0 = m
      rw [List.getD_eq_getElem?_getD, e1]
      rfl
    rw [this]
    exact ⟨e1, e2⟩
  have hM : ∀ i, IsPlan (M i) := fun i => by
    show IsPlan (if 1 ≤ i ∧ i ≤ 2 * n - 1 then MB b (N i) else [])
    by_cases h : 1 ≤ i ∧ i ≤ 2 * n - 1
    · rw [if_pos h]
      have hlt := order_lt (List.mem_of_getElem? (hN i h.1 h.2).1)
      have e : MB b (N i) = b[N i] := by
        rw [MB, List.getD_eq_getElem?_getD, List.getElem?_eq_getElem hlt]
        rfl
      rw [e]
      exact (hb.plan _ (List.getElem_mem hlt)).ap
    · rw [if_neg h]
      exact ⟨List.nodup_nil, List.nodup_nil⟩
  have hs : ∀ i, 1 ≤ i → i ≤ 2 * n - 1 → min i n ≤ (M i).length := fun i h1 h2 => by
    show min i n ≤ (if 1 ≤ i ∧ i ≤ 2 * n - 1 then MB b (N i) else []).length
    rw [if_pos ⟨h1, h2⟩]
    have := (hN i h1 h2).2
    unfold szOf at this
    show min i n ≤ (b.getD (N i) []).length
    omega
  obtain ⟨R, hR, hl⟩ := rising_core (k := n) hM hs n (Nat.le_refl n)
  refine ⟨R.map fun t => (N t.1, t.2), ⟨?_, ?_, ?_, fun t ht => ?_⟩, by rw [List.length_map, hl]⟩
  · have : (R.map (·.1)).Pairwise (· ≠ ·) := hR.num
    rw [List.pairwise_map] at this
    rw [List.map_map]
    refine List.pairwise_map.mpr (List.Pairwise.imp_of_mem ?_ this)
    intro x y hx hy ne e
    have e : N x.1 = N y.1 := e
    obtain ⟨hx1, hx2⟩ := (hR.mem x hx).1
    obtain ⟨hy1, hy2⟩ := (hR.mem y hy).1
    have a1 := (hN x.1 hx1 hx2).1
    have a2 := (hN y.1 hy1 hy2).1
    have q := (List.getElem?_inj (i := 2 * n - 1 - x.1) (j := 2 * n - 1 - y.1) (List.getElem?_eq_some_iff.mp a1).1 order_nodup).mp (a1.trans ((congrArg some e).trans a2.symm))
    have ne : x.1 ≠ y.1 := ne
    exact ne (by omega)
  · rw [List.map_map]
    exact hR.per
  · rw [List.map_map]
    exact hR.dsk
  · obtain ⟨x, hx, rfl⟩ := List.mem_map.mp ht
    obtain ⟨⟨hx1, hx2⟩, hm⟩ := hR.mem x hx
    refine ⟨order_lt (List.mem_of_getElem? (hN x.1 hx1 hx2).1), ?_⟩
    have hm : x.2 ∈ (if 1 ≤ x.1 ∧ x.1 ≤ 2 * n - 1 then MB b (N x.1) else []) := hm
    rw [if_pos ⟨hx1, hx2⟩] at hm
    exact hm
end
end Pk
set_option maxHeartbeats 1000000
namespace Pk
open PySem PySem.Spec PyProof.Rows L2
def sp_rising_pick (CB CN CR : Addr) : Sp := fun vs H Q E => ∃ (v u : V), vs = [v, u] ∧ ((∃ a : A, Av H v a ∧ a.wid2 ∧ a.book = none ∧ ∀ H', Same H H' → E (.ref CB) none H') ∨
  ∃ (b : List (List Pair)) (c : A), Dt H v (bkD b) ∧ Book b ∧ Av H u c ∧ (c.bet 1 8 = false → ∀ H', Same H H' → E (.ref CN) none H') ∧
    ∀ n : Nat, c = .int n → 1 ≤ n → n ≤ 8 → (¬ Rises (szs b) n → ∀ H', Same H H' → E (.ref CR) none H') ∧ (Rises (szs b) n → ∀ d R H', Same H H' → DkAt H' d R → PickOk b R → R.length = n → Q (.ref d) H'))
section
variable {P : Program} {w : World} {K : PySem.W.Frag} {mg : Str → Option Value} {base : Heap}
theorem ok_rising_pick {f CB CN CR : Addr} {fd : FuncData} (F : Fun K "rising_pick" "rising_pick" s_rising_pick f fd) (G : Glob mg) (X_NoRise : XcF K mg "NoRise" CR) (C_need_book : Cal P w K mg base (L2.CX P w) 5 "need_book" ["book"] (sp_need_book CB))
    (C_need_pairs : Cal P w K mg base (L2.CX P w) 2 "need_pairs" ["number"] (sp_need_pairs CN)) (C_first_short : Cal P w K mg base CX0 2 "first_short" ["sizes", "number"] (sp_first_short K))
    (C_grow_of : Cal P w K mg base CX0 4 "grow_of" ["book", "pick"] sp_grow_of) (C_picks_by_spans : Cal P w K mg base CX0 1 "picks_by_spans" ["book", "wanted"] sp_picks_by_spans) :
    FnOk P w K mg base (L2.CX P w) 6 f fd ["book", "number"] (sp_rising_pick CB CN CR) := by
  refine F.okX c_rising_pick (fun vs H Q E h => ?_) (fun cdv A0 outer s H vs Q E hr h => ?_)
  · obtain ⟨v, u, rfl, _⟩ := h
    rfl
  · obtain ⟨v, u, rfl, h⟩ := h
    refine ⟨_, 
      (pss_cons (ps_expr (pe_cal C_need_book hr (passes_call (takes_of rfl rfl rfl rfl) (fun _ _ _ _ h => h)) (pa_cons (pv 0) pa_nil)))
      (pss_cons (ps_expr (pe_cal C_need_pairs hr (passes_call (takes_of rfl rfl rfl rfl) (fun _ _ _ _ h => h)) (pa_cons (pv 1) pa_nil)))
      (pss_cons (ps_if (pt_cmpR op_notN (pe_cal C_first_short hr pass0 (pa_cons (pe_lc (own := [("plan", 2)]) rfl c_rising_pick.nd (pi_tup (pv 0)) (blkOk_by (own := [("plan", 2)]) (N := n_rising_pick) (sc := defScope s_rising_pick) (by decide +kernel)) (fun _ _ _ _ _ => (pg_name (i := 2) c_rising_pick.nd rfl (.inl rfl))) (fun _ _ _ _ _ => pts_nil) (fun _ _ _ _ _ => (pe_callB (lenS K) (by rfl) G.len PySem.boot_len (pa_cons (pv 2) pa_nil)))) (pa_cons (pv 1) pa_nil))) pe_non (nomark _)) 
          (pss_one (ps_raise rfl (takes_of rfl rfl rfl rfl) (pmk_own PySem.F.excBase_ValueError X_NoRise.ex X_NoRise.g X_NoRise.kp (raises_own X_NoRise.b X_NoRise.t) rfl))) pss_nil)
      (pss_cons (ps_set (i := 3) c_rising_pick.nd rfl (.inr rfl) (pe_ix (ixL K) (pe_cal C_grow_of hr pass0 (pa_cons (pv 0) (pa_cons pe_dnewK pa_nil))) (pe_un un_neg pe_int) (fun _ _ => rfl)))
      (pss_cons (ps_if (pt_cmpR op_lt (pe_callB call_lenD (by rfl) G.len PySem.boot_len (pa_cons (pv 3) pa_nil)) (pv 1) (nomark _)) 
          (pss_one (ps_ret (pe_cal C_picks_by_spans hr pass0 (pa_cons (pv 0) (pa_cons (pv 1) pa_nil))))) pss_nil)
      (pss_one (ps_ret (pe_dc (own := [("item", 4)]) rfl c_rising_pick.nd (pi_list (pe_slice (slL K) (pe_callB (call_sortedDI rfl) (by rfl) G.sorted boot_sorted (pa_cons (pv 3) pa_nil)) po_none (po_some (pv 1)))) (blkOk_by (own := [("item", 4)]) (N := n_rising_pick) (sc := defScope s_rising_pick) (by decide +kernel)) (fun _ _ _ _ _ => (pg_name (i := 4) c_rising_pick.nd rfl (.inl rfl))) (fun _ _ _ _ _ => pts_nil) (fun _ _ _ _ _ => (pv 4)) (fun _ _ _ _ _ => (pe_dget (hu_of hr) (pv 3) (pv 4) (fun _ _ => rfl))))))))))), ?_⟩
    rcases h with ⟨a, ha, hw, hno, e⟩ | ⟨b, c, hv, hb, hu, eN, rest⟩
    · refine ⟨v, rfl, v, a, rfl, ha, hw, fun z => ?_, fun _ H1 s1 => e H1 s1⟩
      rw [hno] at z
      cases z
    refine ⟨v, rfl, v, _, rfl, hv.av, hb.wid2, fun _ H1 s1 => ?_, no_book hb⟩
    refine ⟨u, rfl, u, c, rfl, hu.mono (Wk.of s1), fun hbet => ?_, fun hbet => eN hbet H1 s1⟩
    obtain ⟨n, rfl, hn1, hn8⟩ : ∃ n : Nat, c = .int n ∧ 1 ≤ n ∧ n ≤ 8 := by
      cases c with
      | int i =>
        have hbet : (decide (1 ≤ i) && decide (i ≤ 8)) = true := hbet
        rw [Bool.and_eq_true, decide_eq_true_iff, decide_eq_true_iff] at hbet
        exact ⟨i.toNat, by rw [Int.toNat_of_nonneg (by omega)], by omega, by omega⟩
      | oth => cases hbet
      | tup _ => cases hbet
    obtain ⟨rest1, rest2⟩ := rest n rfl hn1 hn8
    cases hu
    obtain ⟨B, xs, rfl, hB, hs, hxl⟩ := dt_book (hv.mono (Wk.of s1))
    have hbl := hb.len
    -- the sizes
    refine ⟨.ref B, rfl, B, rfl, ⟨xs, SqT.of hB⟩, fun D nD => ?_⟩
    refine lcW nD (Wlk.tup (SqT.of hB)) (fun i H ys => ys = ((szs b).take i).map V.int) (fun i H H' ys _ e => e) (by omega) rfl (fun i x H' ys hi s hx hY Q1 Q2 k1 k2 => ?_) fun H2 ys s2 hD hY => ?_
    · obtain ⟨m, hm, hdm⟩ := (hs.mono (Wk.of s)).plan hx
      obtain ⟨t2, zs, rfl, ht2, _, hz⟩ := dt_plan hdm
      refine ⟨rfl, .ref t2, rfl, t2, zs, rfl, .inr (SqT.of ht2), k1 _ _ (Same.refl _) ?_⟩
      rw [hY, hz, ← map_take_next (f := V.int) (l := szs b) (x := (m.length : Int)) (by rw [List.getElem?_map, hm]; rfl)]
    rw [hxl, show b.length = (szs b).length from (List.length_map ..).symm, List.take_length] at hY
    subst hY
    have hsl : (szs b).length = b.length := List.length_map ..
    refine ⟨.int n, rfl, D, szs b, n, rfl, .inl (SqL.of hD), by omega, by omega, fun H3 s3 hr3 => ?_, fun H3 z s3 hr3 => ?_⟩
    · refine ⟨rfl, _, rfl, ?_⟩
      have s03 := s1.trans (s2.trans s3)
      -- grown
      refine ⟨.ref B, rfl, fun e0 ne0 => ?_⟩
      have s4 := same_new (o := HO.dK []) ne0
      refine ⟨.ref B, e0, b, [], rfl, hv.mono (Wk.of (s03.trans s4)), hb, ⟨[], upd_same, .nil⟩, PickOk.nil b, fun l ls p R H5 s5 hl hR hat => ?_⟩
      have s05 := s03.trans (s4.trans s5)
      refine ⟨1, rfl, l, _, -1, .ref p, rfl, rfl, SqL.of hl, atI_last _ _, ?_⟩
      obtain ⟨kvs, hp, hk⟩ := hat
      have h8 := hR.len8 hb
      have hkl := hk.len
      refine ⟨.ref p, rfl, p, kvs, rfl, hp, .int n, rfl, kvs.length, n, rfl, rfl, _, rfl, ite2 (fun e => ?_) (fun e => ?_)⟩
      · have e : (kvs.length : Int) < n := of_decide_eq_true e
        refine ⟨.ref B, rfl, .int n, rfl, .ref B, n, b, rfl, hv.mono (Wk.of s05), hb, hn1, rising_pick_ex hb hn1 hr3, fun d R2 H6 s6 hat2 hR2 hl2 => ?_⟩
        exact rest2 hr3 d R2 H6 (s05.trans s6) hat2 hR2 hl2
      · have e : ¬ (kvs.length : Int) < n := fun z => e (decide_eq_true z)
        refine ⟨.ref p, rfl, p, kvs, _, rfl, .inl hp, hk.keys, by rw [List.length_map]; omega, fun ys q hy ha nq => ?_⟩
        have hyl : ys.length = R.length := by rw [hy.length_eq, List.length_map]
        have s6 := same_new (o := HO.lst (ys.map V.int)) nq
        refine ⟨.int n, rfl, n, rfl, q, _, rfl, SqL.of upd_same, fun q2 nq2 => ?_⟩
        have s7 := same_new (o := HO.lst (cutV (ys.map V.int) none (some (n : Int)))) nq2
        obtain ⟨R', hR', eR⟩ := perm_map _ ys R hy
        have hRl := hR'.length_eq
        have hcut : cutV (ys.map V.int) none (some (n : Int)) = (ys.take n).map V.int := by
          unfold cutV
          rw [HT.sIx_none, HT.sIx_nat, List.drop_zero, Nat.sub_zero, List.length_map, Nat.min_eq_left (by omega), List.map_take]
        have hq2 := upd_same (H := upd H5 q (.lst (ys.map V.int))) (a := q2) (o := HO.lst (cutV (ys.map V.int) none (some (n : Int))))
        have s57 := s6.trans s7
        generalize upd (upd H5 q (.lst (ys.map V.int))) q2 (HO.lst (cutV (ys.map V.int) none (some (n : Int)))) = H7 at s57 hq2 ⊢
        rw [hcut] at hq2
        have hn' := hR.num
        refine ⟨q2, rfl, ⟨_, SqL.of hq2⟩, fun D2 nD2 => ?_⟩
        have hlen : ((ys.take n).map V.int).length = n := by
          rw [List.length_map, List.length_take]
          omega
        have hR2 : PickOk b (R'.take n) := (hR.perm hR').sub (List.take_sublist _ _)
        refine dcW nD2 (Wlk.list (SqL.of hq2)) (fun i H kv => Dk H kv ((R'.take n).take i)) (fun i H H' kv k e => e.tmono k.tk) (by omega) .nil (fun i x H' kv hi s hx hY Q1 Q2 k1 k2 => ?_) fun H8 kv s8 hD2 hY => ?_
        · rw [← eR, List.getElem?_map, List.getElem?_take, List.getElem?_map] at hx
          rw [hlen] at hi
          rw [if_pos hi] at hx
          cases ht : R'[i]? with
          | none => rw [ht] at hx; cases hx
          | some t =>
            rw [ht] at hx
            cases hx
            obtain ⟨v2, hv2, hdv⟩ := hk.get hR.num (hR'.subset (List.mem_of_getElem? ht))
            refine ⟨rfl, .int t.1, rfl, .ref p, rfl, .int t.1, rfl, p, v2, rfl, .inl ⟨kvs, ikey t.1, .inl (s _ _ (s57 _ _ hp)), rfl, hv2.symm⟩, ?_⟩
            refine k1 (ikey t.1) v2 _ (Same.refl _) ?_
            have ht2 : (R'.take n)[i]? = some t := by
              rw [List.getElem?_take, if_pos hi]
              exact ht
            rw [List.take_add_one, ht2]
            exact hY.snoc (hdv.tmono (tk_same (s57.trans s))) (nodup_take_next (fun t : Trip => t.1) hR2.num ht2)
        · have hl2 : (R'.take n).length = n := by
            rw [List.length_take]
            omega
          rw [hlen, List.take_of_length_le (by omega)] at hY
          exact rest2 hr3 D2 _ H8 (s05.trans (s57.trans s8)) ⟨kv, hD2, hY⟩ hR2 hl2
    · refine ⟨rfl, _, rfl, ?_⟩
      exact rest1 hr3 H3 (s1.trans (s2.trans s3))
end
end Pk
set_option maxHeartbeats 1000000
namespace Pk
open PySem PySem.Spec PyProof.Rows L2
/-! ### the law's own judges -/
def sp_law_is_whole : Sp := fun vs H Q _ => ∃ (v : V) (a : A), vs = [v] ∧ Av H v a ∧ Q (.bl a.isI) H
def sp_law_is_below : Sp := fun vs H Q _ => ∃ (v : V) (a : A) (n : Int), vs = [v, .int n] ∧ Av H v a ∧ Q (.bl (a.bet 0 (n - 1))) H
theorem shaped_listI (l : List Int) : SeqAt.shaped (.list (l.map PyData.int)) = true := by
  have h := shaped_ints l
  unfold SeqAt.shaped at h ⊢
  simpa [PyData.canLay0, PyData.depth] using h
theorem eqv_ints_nil (l : List Int) : PyData.eqv (.list (l.map PyData.int)) (.list []) = decide (l = []) := by
  match l with
  | [] => simp [PyData.eqv, PyData.eqvAll]
  | x :: l => simp [PyData.eqv, PyData.eqvAll]
section
variable {P : Program} {w : World} {K : PySem.W.Frag} {mg : Str → Option Value} {base : Heap}
theorem ok_law_is_whole {f : Addr} {fd : FuncData} (F : Fun K "_law_is_whole" "_law_is_whole" s__law_is_whole f fd) (G : Glob mg) : FnOk P w K mg base CX0 1 f fd ["_law_item"] sp_law_is_whole := by
  refine F.ok c__law_is_whole (fun vs H Q E h => ?_) (fun cdv A0 outer s H vs Q E hr h => ?_)
  · obtain ⟨v, a, rfl, _⟩ := h
    rfl
  · obtain ⟨v, a, rfl, ha, q⟩ := h
    refine ⟨_, 
      (pss_one (ps_ret (pe_and (pe_callB (isiK K) (by rfl) G.isinstance boot_isinstance (pa_cons (pv 0) (pa_cons (pe_ty "int" G.int) pa_nil))) (pe_one (pe_not (pe_callB (isiK K) (by rfl) G.isinstance boot_isinstance (pa_cons (pv 0) (pa_cons (pe_ty "bool" G.bool) pa_nil)))))))), ?_⟩
    obtain ⟨t, b, hT, hb, hb0, hb1⟩ := ha.isiI (K := K)
    refine ⟨v, rfl, v, .ty "int", t, .type "int", b, rfl, .ty _, hT, hb, b, rfl, ?_⟩
    cases b with
    | false =>
      rw [hb0 rfl] at q
      exact q
    | true =>
      refine ⟨v, rfl, v, .ty "bool", t, .type "bool", _, rfl, .ty _, hT, hb1 rfl, _, rfl, ?_⟩
      rw [Bool.not_not]
      exact q
theorem ok_law_is_below {f : Addr} {fd : FuncData} (F : Fun K "_law_is_below" "_law_is_below" s__law_is_below f fd) (G : Glob mg) (C_law_is_whole : Cal P w K mg base CX0 1 "_law_is_whole" ["_law_item"] sp_law_is_whole) :
    FnOk P w K mg base CX0 2 f fd ["_law_item", "_law_many"] sp_law_is_below := by
  refine F.ok c__law_is_below (fun vs H Q E h => ?_) (fun cdv A0 outer s H vs Q E hr h => ?_)
  · obtain ⟨v, a, n, rfl, _⟩ := h
    rfl
  · obtain ⟨v, a, n, rfl, ha, q⟩ := h
    refine ⟨_, 
      (pss_one (ps_ret (pe_and (pe_cal C_law_is_whole hr pass0 (pa_cons (pv 0) pa_nil)) (pe_one (pe_chain op_le op_lt pe_int (pv 0) (pv 1)))))), ?_⟩
    refine ⟨v, rfl, v, a, rfl, ha, _, rfl, ?_⟩
    cases hi' : a.isI with
    | false =>
      rw [A.bet_no hi'] at q
      exact q
    | true =>
      obtain ⟨i, rfl, rfl⟩ := A.isI_int ha hi'
      refine ⟨.int i, rfl, 0, i, rfl, rfl, _, rfl, ?_⟩
      have q : Q (.bl (decide (0 ≤ i) && decide (i ≤ n - 1))) H := q
      cases h1 : decide ((0 : Int) ≤ i) with
      | false =>
        rw [h1] at q
        exact q
      | true =>
        rw [h1] at q
        refine ⟨.int n, rfl, i, n, rfl, rfl, ?_⟩
        have e : decide (i < n) = decide (i ≤ n - 1) := by
          rw [Bool.eq_iff_iff, decide_eq_true_iff, decide_eq_true_iff]
          omega
        show Q (.bl (decide (i < n))) H
        rw [e]
        exact q
theorem ok_law_is_pair {f : Addr} {fd : FuncData} (F : Fun K "_law_is_pair" "_law_is_pair" s__law_is_pair f fd) (G : Glob mg) (C_law_is_below : Cal P w K mg base CX0 2 "_law_is_below" ["_law_item", "_law_many"] sp_law_is_below) :
    FnOk P w K mg base CX0 3 f fd ["_law_item"] sp_is_pair := by
  refine F.ok c__law_is_pair (fun vs H Q E h => ?_) (fun cdv A0 outer s H vs Q E hr h => ?_)
  · obtain ⟨v, a, rfl, _⟩ := h
    rfl
  · obtain ⟨v, a, rfl, ha, q⟩ := h
    refine ⟨_, 
      (pss_one (ps_ret (pe_and (pe_callB (isiK K) (by rfl) G.isinstance boot_isinstance (pa_cons (pv 0) (pa_cons (pe_ty "tuple" G.tuple) pa_nil))) (pe_and (pe_cmpR op_eq (pe_callB (lenS K) (by rfl) G.len PySem.boot_len (pa_cons (pv 0) pa_nil)) pe_int (nomark _)) (pe_and (pe_cal C_law_is_below hr pass0 (pa_cons (pe_ix (ixT K) (pv 0) pe_int (fun _ _ => rfl)) (pa_cons pe_int pa_nil))) (pe_one (pe_cal C_law_is_below hr pass0 (pa_cons (pe_ix (ixT K) (pv 0) pe_int (fun _ _ => rfl)) (pa_cons pe_int pa_nil))))))))), ?_⟩
    obtain ⟨t, hT, hb⟩ := ha.isiT (K := K)
    refine ⟨v, rfl, v, .ty "tuple", t, .type "tuple", _, rfl, .ty _, hT, hb, _, rfl, ?_⟩
    cases ha with
    | @tup p xs as hp hs =>
      have hl := hs.len
      refine ⟨.ref p, rfl, p, xs, rfl, .inr (SqT.of hp), rfl, _, rfl, ite2 (fun e => ?_) (fun e => ?_)⟩
      · have e2 : xs.length = 2 := by
          have e : V.int (xs.length : Int) = V.int 2 := of_decide_eq_true e
          have := V.int.inj e
          omega
        match xs, as, hs, e2 with
        | [x, y], [a1, a2], .cons h1 (.cons h2 .nil), _ =>
          rw [A.pair_two] at q
          refine ⟨.ref p, rfl, p, _, 0, x, rfl, rfl, SqT.of hp, atI_nat (j := 0) rfl, x, a1, 8, rfl, h1, _, rfl, ?_⟩
          show (if a1.bet 0 7 = true then _ else _)
          cases hb1 : a1.bet 0 7 with
          | false =>
            rw [hb1] at q
            exact q
          | true =>
            rw [hb1] at q
            exact ⟨.ref p, rfl, p, _, 1, y, rfl, rfl, SqT.of hp, atI_nat (j := 1) rfl, y, a2, 8, rfl, h2, q⟩
      · have ne : as.length ≠ 2 := fun z => by
          rw [hl, z] at e
          exact absurd e (by decide)
        rw [A.pair_len ne] at q
        exact q
    | int i => exact q
    | non => exact q
    | bl b => exact q
    | str x => exact q
    | lst h => exact q
    | dct h => exact q
theorem ok_law_are_apart {f : Addr} {fd : FuncData} (F : Fun K "_law_are_apart" "_law_are_apart" s__law_are_apart f fd) (G : Glob mg) : FnOk P w K mg base CX0 1 f fd ["_law_several"] (sp_are_apart K) := by
  refine F.ok c__law_are_apart (fun vs H Q E h => ?_) (fun cdv A0 outer s H vs Q E hr h => ?_)
  · obtain ⟨v, a, m, rfl, _⟩ := h
    rfl
  · obtain ⟨a, xs, m, rfl, hs, hd, hm, q⟩ := h
    refine ⟨_, 
      (pss_one (ps_ret (pe_and (pe_cmpR op_eq (pe_lenSetD G (pe_lc (own := [("_law_pair", 1)]) rfl c__law_are_apart.nd (pi_seq (pv 0)) (blkOk_by (own := [("_law_pair", 1)]) (N := n__law_are_apart) (sc := defScope s__law_are_apart) (by decide +kernel)) (fun _ _ _ _ _ => (pg_name (i := 1) c__law_are_apart.nd rfl (.inl rfl))) (fun _ _ _ _ _ => pts_nil) (fun _ _ _ _ _ => (pe_ix (ixT K) (pv 1) pe_int (fun _ _ => rfl))))) (pe_callB (lenS K) (by rfl) G.len PySem.boot_len (pa_cons (pv 0) pa_nil)) (nomark _)) (pe_one (pe_cmpR op_eq (pe_lenSetD G (pe_lc (own := [("_law_pair", 1)]) rfl c__law_are_apart.nd (pi_seq (pv 0)) (blkOk_by (own := [("_law_pair", 1)]) (N := n__law_are_apart) (sc := defScope s__law_are_apart) (by decide +kernel)) (fun _ _ _ _ _ => (pg_name (i := 1) c__law_are_apart.nd rfl (.inl rfl))) (fun _ _ _ _ _ => pts_nil) (fun _ _ _ _ _ => (pe_ix (ixT K) (pv 1) pe_int (fun _ _ => rfl))))) (pe_callB (lenS K) (by rfl) G.len PySem.boot_len (pa_cons (pv 0) pa_nil)) (nomark _)))))), ?_⟩
    have hlen : xs.length = m.length := hd.len.trans (List.length_map ..)
    refine ⟨.ref a, rfl, a, xs, rfl, hs, fun J W p np => ?_⟩
    refine lcW np W (fun i H ys => ys = ((m.take i).map (·.1)).map V.int) (fun i H H' ys _ e => e) (by omega) rfl (fun i x H' ys hi s hx hY Q1 Q2 k1 k2 => ?_) fun H1 ys s1 hp hY => ?_
    · obtain ⟨pr, t, hpr, rfl, ht⟩ := (hd.tmono (tk_same s)).pr hx
      refine ⟨rfl, .ref t, rfl, t, _, 0, .int pr.1, rfl, rfl, SqT.of ht, atI_nat (j := 0) rfl, k1 _ _ (Same.refl _) ?_⟩
      rw [hY, map_take_next (fun p : Pair => p.1) hpr, List.map_append]
      rfl
    · rw [hlen, List.take_length] at hY
      subst hY
      have seq1 : SqL K H1 a xs ∨ SqT K H1 a xs := hs.imp s1.seq (same_t s1)
      have q0 := apart_ded m
      refine ⟨p, m.map (·.1), rfl, SqL.of hp, by rw [List.length_map]; omega, .ref a, rfl, a, xs, rfl, seq1, rfl, _, rfl, ?_⟩
      rw [hlen]
      cases hb : decide (V.int (ded (m.map (·.1))).length = V.int m.length) with
      | false =>
        rw [hb] at q0
        have q := q H1 s1
        rw [← q0] at q
        exact q
      | true =>
        rw [hb] at q0
        refine ⟨.ref a, rfl, a, xs, rfl, seq1, fun J2 W2 p2 np2 => ?_⟩
        refine lcW np2 W2 (fun i H ys => ys = ((m.take i).map (·.2)).map V.int) (fun i H H' ys _ e => e) (by omega) rfl (fun i x H' ys hi s hx hY Q1 Q2 k1 k2 => ?_) fun H2 ys s2 hp2 hY => ?_
        · obtain ⟨pr, t, hpr, rfl, ht⟩ := (hd.tmono (tk_same (s1.trans s))).pr hx
          refine ⟨rfl, .ref t, rfl, t, _, 1, .int pr.2, rfl, rfl, SqT.of ht, atI_nat (j := 1) rfl, k1 _ _ (Same.refl _) ?_⟩
          rw [hY, map_take_next (fun p : Pair => p.2) hpr, List.map_append]
          rfl
        · rw [hlen, List.take_length] at hY
          subst hY
          have s12 := s1.trans s2
          refine ⟨p2, m.map (·.2), rfl, SqL.of hp2, by rw [List.length_map]; omega, .ref a, rfl, a, xs, rfl, hs.imp s12.seq (same_t s12), rfl, ?_⟩
          have q := q H2 s12
          rw [← q0, Bool.true_and] at q
          rw [hlen]
          exact q
theorem ok_law_is_plan {f : Addr} {fd : FuncData} (F : Fun K "_law_is_plan" "_law_is_plan" s__law_is_plan f fd) (G : Glob mg) (C_law_is_pair : Cal P w K mg base CX0 3 "_law_is_pair" ["_law_item"] sp_is_pair)
    (C_law_are_apart : Cal P w K mg base CX0 1 "_law_are_apart" ["_law_several"] (sp_are_apart K)) : FnOk P w K mg base CX0 4 f fd ["_law_item"] sp_plans_right := by
  refine F.ok c__law_is_plan (fun vs H Q E h => ?_) (fun cdv A0 outer s H vs Q E hr h => ?_)
  · obtain ⟨v, a, rfl, _⟩ := h
    rfl
  · obtain ⟨v, a, rfl, ha, hw, q⟩ := h
    refine ⟨_, 
      (pss_cons (ps_if (PW.pt (pw_or (pt_not (pt_val (pe_callB (isiK K) (by rfl) G.isinstance boot_isinstance (pa_cons (pv 0) (pa_cons (pe_ty "tuple" G.tuple) pa_nil))))) (pw_or1 (pt_cmpR (neD K hr.units) (pe_lc (own := [("_law_pair", 1)]) rfl c__law_is_plan.nd (pi_tup (pv 0)) (blkOk_by (own := [("_law_pair", 1)]) (N := n__law_is_plan) (sc := defScope s__law_is_plan) (by decide +kernel)) (fun _ _ _ _ _ => (pg_name (i := 1) c__law_is_plan.nd rfl (.inl rfl))) (fun _ _ _ _ _ => (pts_one (pt_not (pt_val (pe_cal C_law_is_pair hr pass0 (pa_cons (pv 1) pa_nil)))))) (fun _ _ _ _ _ => pe_int)) (pe_lst pa_nil) (nomark _))))) 
          (pss_one (ps_ret pe_bl)) pss_nil)
      (pss_one (ps_ret (pe_and (pe_cmpR (eqD K hr.units) (pe_callTy call_list_of (by rfl) G.list (by decide +kernel) (pa_cons (pv 0) pa_nil)) (pe_callB (cr_sortDt hr.units) (by rfl) G.sorted boot_sorted (pa_cons (pv 0) pa_nil)) (nomark _)) (pe_one (pe_cal C_law_are_apart hr pass0 (pa_cons (pv 0) pa_nil))))))), ?_⟩
    obtain ⟨t, hT, hb⟩ := ha.isiT (K := K)
    refine ⟨v, rfl, v, .ty "tuple", t, .type "tuple", _, rfl, .ty _, hT, hb, _, rfl, ?_⟩
    cases ha with
    | @tup p xs as hp hs =>
      have hl := hs.len
      have hw : as.length ≤ 100 := hw
      refine ⟨.ref p, rfl, p, rfl, ⟨xs, SqT.of hp⟩, fun D nD => ?_⟩
      refine lcW nD (Wlk.tup (SqT.of hp)) (fun i H ys => ∃ l : List Int, ys = l.map V.int ∧ (l = [] ↔ ((as.take i).all fun a => a.pair.isSome) = true)) (fun i H H' ys _ e => e) (by omega) ⟨[], rfl, by simp⟩ (fun i x H' ys hi s hx hY Q1 Q2 k1 k2 => ?_) fun H1 ys s1 hD hY => ?_
      · obtain ⟨l, rfl, hll⟩ := hY
        obtain ⟨a, h1, _, h2⟩ := (hs.mono (Wk.of s)).at hx
        refine ⟨rfl, x, rfl, x, a, rfl, h2, _, rfl, ?_⟩
        have e1 : ((as.take (i + 1)).all fun a => a.pair.isSome) = (((as.take i).all fun a => a.pair.isSome) && a.pair.isSome) := by
          rw [List.take_add_one, h1, List.all_append]
          simp
        cases hap : a.pair.isSome with
        | true =>
          refine k2 _ (Same.refl _) ⟨l, rfl, ?_⟩
          rw [e1, hap, Bool.and_true]
          exact hll
        | false =>
          refine k1 (.int 1) _ (Same.refl _) ⟨l ++ [1], by rw [List.map_append]; rfl, ?_⟩
          rw [e1, hap, Bool.and_false]
          simp
      · rw [hl, List.take_length] at hY
        obtain ⟨l, rfl, hll⟩ := hY
        refine ⟨by decide, fun e0 ne0 => ?_⟩
        have s2 := same_new (o := HO.lst []) ne0
        refine ⟨.list (l.map PyData.int), .list [], .lst (SqL.of (s2 _ _ hD)) (DtAll.of_ints l).dp, .lst (SqL.of upd_same) .nil, shaped_listI l, shaped_listI [], _, rfl, ?_⟩
        rw [eqv_ints_nil]
        have s12 := s1.trans s2
        have hall : ((pairsOf as).isSome = true) ↔ l = [] := by
          rw [pairsOf_all]
          exact hll.symm
        have q : ∀ H', Same H H' → Q (.bl (okPlan (pairsOf as)).isSome) H' := q
        generalize upd H1 e0 (HO.lst []) = H1 at s12
        cases hm : pairsOf as with
        | none =>
          rw [hm] at q hall
          rw [decide_eq_false fun z => by have := hall.mpr z; cases this]
          exact q _ s12
        | some m =>
          rw [hm] at q hall
          rw [decide_eq_true (hall.mp rfl)]
          have hd := hs.pairs hm
          have hml := pairsOf_len hm
          refine ⟨.ref p, rfl, p, xs, rfl, .inr (SqT.of (s12 _ _ hp)), fun l nl => ?_⟩
          have s2 : Same H (upd H1 l (.lst xs)) := s12.trans (same_new nl)
          refine ⟨.ref p, rfl, Pair, prD, p, xs, m, rfl, .inr (SqT.of (s2 _ _ hp)), hd.mono (Wk.of s2), alike_prs m, sortable_prs m, (fun b _ => by rw [dep_pr]; decide), by omega, fun l2 ys n2 hys => ?_⟩
          have s3 : Same H (upd (upd H1 l (.lst xs)) l2 (.lst ys)) := s2.trans (same_new n2)
          have w3 : Wk (upd H1 l (.lst xs)) (upd (upd H1 l (.lst xs)) l2 (.lst ys)) := Wk.of (same_new n2)
          have n12 : l ≠ l2 := fun z => by
            rw [← z, upd_same] at n2
            cases n2
          rw [leP_data] at hys
          have d1 : Dp K (upd (upd H1 l (.lst xs)) l2 (.lst ys)) (.ref l) (.list (m.map prD)) := .lst (SqL.of (by rw [upd_ne n12, upd_same])) (hd.mono (Wk.of s3)).dp
          have d2 : Dp K (upd (upd H1 l (.lst xs)) l2 (.lst ys)) (.ref l2) (.list ((sortP m).map prD)) := .lst (SqL.of upd_same) (hys.mono w3).dp
          refine ⟨_, _, d1, d2, shaped_prs m, shaped_prs (sortP m), _, rfl, ?_⟩
          have e2 : PyData.eqv (.list (m.map prD)) (.list ((sortP m).map prD)) = decide (m.Pairwise PLe) := by
            rw [show PyData.eqv (.list (m.map prD)) (.list ((sortP m).map prD)) = PyData.eqvAll (m.map prD) ((sortP m).map prD) by simp only [PyData.eqv], eqvAll_pr, Bool.eq_iff_iff, decide_eq_true_iff, decide_eq_true_iff]
            exact sortP_iff m
          rw [e2]
          by_cases hp2 : m.Pairwise PLe
          · rw [decide_eq_true hp2]
            refine ⟨.ref p, rfl, p, xs, m, rfl, .inr (SqT.of (s3 _ _ hp)), hd.mono (Wk.of s3), by omega, fun H4 s4 => ?_⟩
            have q := q H4 (s3.trans s4)
            have e3 : (okPlan (some m)).isSome = decide (Apart m) := by
              show (if m.Pairwise PLe ∧ Apart m then some m else none).isSome = _
              by_cases ha : Apart m
              · rw [if_pos ⟨hp2, ha⟩, decide_eq_true ha]
                rfl
              · rw [if_neg fun z => ha z.2, decide_eq_false ha]
                rfl
            rw [e3] at q
            exact q
          · rw [decide_eq_false hp2]
            have q := q _ s3
            have e3 : (okPlan (some m)).isSome = false := by
              show (if m.Pairwise PLe ∧ Apart m then some m else none).isSome = _
              rw [if_neg fun z => hp2 z.1]
              rfl
            rw [e3] at q
            exact q
    | int i => exact q _ (Same.refl _)
    | non => exact q _ (Same.refl _)
    | bl b => exact q _ (Same.refl _)
    | str x => exact q _ (Same.refl _)
    | lst h => exact q _ (Same.refl _)
    | dct h => exact q _ (Same.refl _)
theorem ok_law_is_book {f : Addr} {fd : FuncData} (F : Fun K "_law_is_book" "_law_is_book" s__law_is_book f fd) (G : Glob mg) (C_law_is_plan : Cal P w K mg base CX0 4 "_law_is_plan" ["_law_item"] sp_plans_right) : FnOk P w K mg base CX0 5 f fd ["_law_item"] sp_books_right := by
  refine F.ok c__law_is_book (fun vs H Q E h => ?_) (fun cdv A0 outer s H vs Q E hr h => ?_)
  · obtain ⟨v, a, rfl, _⟩ := h
    rfl
  · obtain ⟨v, a, rfl, ha, hw, q⟩ := h
    refine ⟨_, 
      (pss_cons (ps_if (PW.pt (pw_or (pt_not (pt_val (pe_callB (isiK K) (by rfl) G.isinstance boot_isinstance (pa_cons (pv 0) (pa_cons (pe_ty "tuple" G.tuple) pa_nil))))) (pw_or1 (pt_not (pt_chain op_le op_le pe_int (pe_callB (lenS K) (by rfl) G.len PySem.boot_len (pa_cons (pv 0) pa_nil)) pe_int))))) 
          (pss_one (ps_ret pe_bl)) pss_nil)
      (pss_one (ps_ret (pe_cmpR (eqD K hr.units) (pe_lc (own := [("_law_told", 1)]) rfl c__law_is_book.nd (pi_tup (pv 0)) (blkOk_by (own := [("_law_told", 1)]) (N := n__law_is_book) (sc := defScope s__law_is_book) (by decide +kernel)) (fun _ _ _ _ _ => (pg_name (i := 1) c__law_is_book.nd rfl (.inl rfl))) (fun _ _ _ _ _ => (pts_one (pt_not (pt_val (pe_cal C_law_is_plan hr pass0 (pa_cons (pv 1) pa_nil)))))) (fun _ _ _ _ _ => pe_int)) (pe_lst pa_nil) (nomark _))))), ?_⟩
    obtain ⟨t, hT, hb⟩ := ha.isiT (K := K)
    refine ⟨v, rfl, v, .ty "tuple", t, .type "tuple", _, rfl, .ty _, hT, hb, _, rfl, ?_⟩
    cases ha with
    | @tup p xs as hp hs =>
      have hl := hs.len
      obtain ⟨hw1, hw2⟩ : as.length ≤ 100 ∧ ∀ a, a ∈ as → a.wid := hw
      have q : ∀ H', Same H H' → Q (.bl (if 1 ≤ as.length ∧ as.length ≤ 16 then plansOf (as.map A.plan) else none).isSome) H' := q
      have no : ¬ (1 ≤ as.length ∧ as.length ≤ 16) → Q (.bl false) H := fun z => by
        have q := q _ (Same.refl _)
        rw [if_neg z] at q
        exact q
      refine ⟨.ref p, rfl, p, xs, rfl, .inr (SqT.of hp), 1, _, rfl, rfl, _, rfl, ?_⟩
      cases h1 : decide ((1 : Int) ≤ (xs.length : Int)) with
      | false =>
        exact ⟨_, rfl, no fun z => of_decide_eq_false h1 (by rw [hl]; omega)⟩
      | true =>
        refine ⟨_, 16, rfl, rfl, _, rfl, ?_⟩
        cases h2 : decide ((xs.length : Int) ≤ 16) with
        | false => exact no fun z => of_decide_eq_false h2 (by rw [hl]; omega)
        | true =>
          have z1 := of_decide_eq_true h1
          have z2 := of_decide_eq_true h2
          have yes : 1 ≤ as.length ∧ as.length ≤ 16 := by omega
          rw [if_pos yes] at q
          refine ⟨.ref p, rfl, p, rfl, ⟨xs, SqT.of hp⟩, fun D nD => ?_⟩
          refine lcW nD (Wlk.tup (SqT.of hp)) (fun i H ys => ∃ l : List Int, ys = l.map V.int ∧ (l = [] ↔ ((as.take i).all fun a => a.plan.isSome) = true)) (fun i H H' ys _ e => e) (by omega) ⟨[], rfl, by simp⟩ (fun i x H' ys hi s hx hY Q1 Q2 k1 k2 => ?_) fun H1 ys s1 hD hY => ?_
          · obtain ⟨l, rfl, hll⟩ := hY
            obtain ⟨a, h1, hm, h2⟩ := (hs.mono (Wk.of s)).at hx
            refine ⟨rfl, x, rfl, x, a, rfl, h2, hw2 a hm, fun H4 s4 => ⟨_, rfl, ?_⟩⟩
            have e1 : ((as.take (i + 1)).all fun a => a.plan.isSome) = (((as.take i).all fun a => a.plan.isSome) && a.plan.isSome) := by
              rw [List.take_add_one, h1, List.all_append]
              simp
            cases hap : a.plan.isSome with
            | true =>
              refine k2 _ s4 ⟨l, rfl, ?_⟩
              rw [e1, hap, Bool.and_true]
              exact hll
            | false =>
              refine k1 (.int 1) _ s4 ⟨l ++ [1], by rw [List.map_append]; rfl, ?_⟩
              rw [e1, hap, Bool.and_false]
              simp
          · rw [hl, List.take_length] at hY
            obtain ⟨l, rfl, hll⟩ := hY
            refine ⟨by decide, fun e0 ne0 => ?_⟩
            have s2 := same_new (o := HO.lst []) ne0
            refine ⟨.list (l.map PyData.int), .list [], .lst (SqL.of (s2 _ _ hD)) (DtAll.of_ints l).dp, .lst (SqL.of upd_same) .nil, shaped_listI l, shaped_listI [], ?_⟩
            rw [eqv_ints_nil]
            have e : decide (l = []) = (plansOf (as.map A.plan)).isSome := by
              rw [plansOf_all, List.all_map, Bool.eq_iff_iff, decide_eq_true_iff]
              exact hll
            rw [e]
            exact q _ (s1.trans s2)
    | int i => exact q _ (Same.refl _)
    | non => exact q _ (Same.refl _)
    | bl b => exact q _ (Same.refl _)
    | str x => exact q _ (Same.refl _)
    | lst h => exact q _ (Same.refl _)
    | dct h => exact q _ (Same.refl _)
end
end Pk
set_option maxHeartbeats 1000000
namespace Pk
open PySem PySem.Spec PyProof.Rows L2
/-! ### the law's state -/
abbrev kLarge : Key := .inr "large"
abbrev kCells : Key := .inr "cells"
abbrev kLeft : Key := .inr "left"
abbrev kTurn : Key := .inr "turn"
def stK (l c : Addr) (left turn : Int) : List (Key × V) := [(kLarge, .ref l), (kCells, .ref c), (kLeft, .int left), (kTurn, .int turn)]
theorem st_large (l c : Addr) (f t : Int) : valV (stK l c f t) kLarge = some (.ref l) := valV_pos rfl
theorem st_cells (l c : Addr) (f t : Int) : valV (stK l c f t) kCells = some (.ref c) := by
  unfold stK
  rw [valV_neg (show ¬ kLarge = kCells by decide +kernel), valV_pos rfl]
theorem st_left (l c : Addr) (f t : Int) : valV (stK l c f t) kLeft = some (.int f) := by
  unfold stK
  rw [valV_neg (show ¬ kLarge = kLeft by decide +kernel), valV_neg (show ¬ kCells = kLeft by decide +kernel), valV_pos rfl]
theorem st_turn (l c : Addr) (f t : Int) : valV (stK l c f t) kTurn = some (.int t) := by
  unfold stK
  rw [valV_neg (show ¬ kLarge = kTurn by decide +kernel), valV_neg (show ¬ kCells = kTurn by decide +kernel), valV_neg (show ¬ kLeft = kTurn by decide +kernel), valV_pos rfl]
theorem put_left (l c : Addr) (f t x : Int) : putK (stK l c f t) kLeft (.int x) = stK l c x t := by
  have h1 : (kLarge = kLeft) = False := eq_false (by decide +kernel)
  have h2 : (kCells = kLeft) = False := eq_false (by decide +kernel)
  have h3 : (kTurn = kLeft) = False := eq_false (by decide +kernel)
  simp [putK, stK, h1, h2, h3]
theorem put_turn (l c : Addr) (f t x : Int) : putK (stK l c f t) kTurn (.int x) = stK l c f x := by
  have h1 : (kLarge = kTurn) = False := eq_false (by decide +kernel)
  have h2 : (kCells = kTurn) = False := eq_false (by decide +kernel)
  have h3 : (kLeft = kTurn) = False := eq_false (by decide +kernel)
  simp [putK, stK, h1, h2, h3]
/-- the state at z, its large numbers at l; at most t draws were counted -/
structure LSt (z l : Addr) (t : Nat) (H : Hp) : Prop where
  ex : ∃ (c : Addr) (left : Int) (turn : Nat) (ls cs : List Int), H z = some (.dK (stK l c left turn)) ∧ H l = some (.lst (ls.map V.int)) ∧ H c = some (.lst (cs.map V.int)) ∧ l ≠ c ∧ turn ≤ t ∧ ls.length ≤ 1000 ∧ cs.length ≤ 1000
/-- all but the state is kept -/
structure SZ (z l : Addr) (H H' : Hp) : Prop where
  k : ∀ a o, a ≠ z → a ≠ l → H a = some o → H' a = some o
  wk : Wk H H'
  cz : ∀ c f n, H z = some (.dK (stK l c f n)) → ∃ f' n', H' z = some (.dK (stK l c f' n'))
theorem SZ.refl {z l : Addr} {H : Hp} : SZ z l H H := ⟨fun _ _ _ _ e => e, Wk.refl H, fun c f n e => ⟨f, n, e⟩⟩
theorem SZ.trans {z l : Addr} {H H1 H2 : Hp} (a : SZ z l H H1) (b : SZ z l H1 H2) : SZ z l H H2 := ⟨fun x o n1 n2 e => b.k x o n1 n2 (a.k x o n1 n2 e), a.wk.trans b.wk, fun c f n e => let ⟨f1, n1, e1⟩ := a.cz c f n e; b.cz c f1 n1 e1⟩
theorem SZ.of {z l : Addr} {H H' : Hp} (s : Same H H') : SZ z l H H' := ⟨fun a o _ _ e => s a o e, Wk.of s, fun c f n e => ⟨f, n, s _ _ e⟩⟩
theorem stK_inj {l c c2 : Addr} {f f2 n n2 : Int} (e : stK l c f n = stK l c2 f2 n2) : c = c2 := by
  unfold stK at e
  injection e with _ e
  injection e with e _
  injection e with _ e
  injection e with e
theorem SZ.tk {z l : Addr} {H H' : Hp} (s : SZ z l H H') : Tk H H' := s.wk.tup
theorem LSt.same {z l : Addr} {t : Nat} {H H' : Hp} (h : LSt z l t H) (s : Same H H') : LSt z l t H' :=
  let ⟨c, f, n, ls, cs, h1, h2, h3, r⟩ := h.ex
  ⟨c, f, n, ls, cs, s _ _ h1, s _ _ h2, s _ _ h3, r⟩
theorem LSt.up {z l : Addr} {t u : Nat} {H : Hp} (h : LSt z l t H) (e : t ≤ u) : LSt z l u H :=
  let ⟨c, f, n, ls, cs, h1, h2, h3, h4, h5, r⟩ := h.ex
  ⟨c, f, n, ls, cs, h1, h2, h3, h4, Nat.le_trans h5 e, r⟩
theorem LSt.nez {z l : Addr} {t : Nat} {H : Hp} (h : LSt z l t H) {a : Addr} {o : HO} (e : H a = some o) (n : ∀ kvs, o ≠ .dK kvs) : a ≠ z :=
  let ⟨c, f, k, ls, cs, h1, _⟩ := h.ex
  ne_of e h1 (n _)
theorem LSt.nel {z l : Addr} {t : Nat} {H : Hp} (h : LSt z l t H) {a : Addr} {o : HO} (e : H a = some o) (n : ∀ xs, o ≠ .lst xs) : a ≠ l :=
  let ⟨c, f, k, ls, cs, _, h2, _⟩ := h.ex
  ne_of e h2 (n _)
theorem SZ.putS {z l c : Addr} {H : Hp} {f n f' n' : Int} {kv' : List (Key × V)} (h : H z = some (.dK (stK l c f n))) (e : kv' = stK l c f' n') : SZ z l H (upd H z (.dK kv')) := ⟨fun a o n _ e => by rw [upd_ne n]; exact e, wk_dct h, fun c2 f2 n2 e2 => by
  rw [h] at e2
  have := stK_inj (HO.dK.inj (Option.some.inj e2))
  subst this
  exact ⟨f', n', by rw [upd_same, e]⟩⟩
theorem SZ.putl {z l : Addr} {H : Hp} {xs ys : List V} (h : H l = some (.lst xs)) : SZ z l H (upd H l (.lst ys)) := ⟨fun a o _ n e => by rw [upd_ne n]; exact e, wk_lst h, fun c f n e => ⟨f, n, by rw [upd_ne (ne_of e h (by intro y; cases y))]; exact e⟩⟩
/-- an object that the heap ahead does not know may change -/
theorem SZ.mut {z l : Addr} {H H' : Hp} {p : Addr} {xs ys : List V} (s : SZ z l H H') (n : H p = none) (e : H' p = some (.lst xs)) : SZ z l H (upd H' p (.lst ys)) :=
  ⟨fun a o n1 n2 q => by rw [upd_ne (ne_of_none q n)]; exact s.k a o n1 n2 q, s.wk.trans (wk_lst e), fun c f m q => let ⟨f', m', e'⟩ := s.cz c f m q; ⟨f', m', by rw [upd_ne (ne_of e' e (by intro y; cases y))]; exact e'⟩⟩
/-- a new list changes: the state stays -/
theorem LSt.mut {z l : Addr} {t t' : Nat} {H H' : Hp} {p : Addr} {xs ys : List V} (h : LSt z l t H) (s : SZ z l H H') (h' : LSt z l t' H') (n : H p = none) (e : H' p = some (.lst xs)) : LSt z l t' (upd H' p (.lst ys)) := by
  obtain ⟨c, f, k, ls, cs, g1, g2, g3, g4, g5⟩ := h.ex
  obtain ⟨c', f', k', ls', cs', e1, e2, e3, e4, e5⟩ := h'.ex
  obtain ⟨f2, n2, q⟩ := s.cz _ _ _ g1
  rw [e1] at q
  have := stK_inj (HO.dK.inj (Option.some.inj q))
  subst this
  refine ⟨c', f', k', ls', cs', (upd_ne (ne_of e1 e (by intro y; cases y))).trans e1, (upd_ne (ne_of_none g2 n)).trans e2, (upd_ne (ne_of_none g3 n)).trans e3, e4, e5⟩
theorem seqIx {i n : Nat} (h : i < n) : seqIndex? (i : Int) n = some i := by
  have h0 : ¬ (i : Int) < 0 := by omega
  have h1 : (i : Int) < n := by omega
  simp [seqIndex?, h0, h1]
def sp_law_draw : Sp := fun vs H Q _ => ∃ (z l : Addr) (t : Nat) (n : Int), vs = [.ref z, .int n] ∧ LSt z l t H ∧ t ≤ 1000000 ∧ (1 ≤ n ∧ n ≤ 1000) ∧ ∀ (r : Int) H', (0 ≤ r ∧ r < n) → SZ z l H H' → LSt z l (t + 1) H' → Q (.int r) H'
section
variable {P : Program} {w : World} {K : PySem.W.Frag} {mg : Str → Option Value} {base : Heap}
theorem ok_law_draw {f : Addr} {fd : FuncData} (F : Fun K "_law_draw" "_law_draw" s__law_draw f fd) (G : Glob mg) : FnOk P w K mg base CX0 1 f fd ["_law_state", "_law_size_here"] sp_law_draw := by
  refine F.ok c__law_draw (fun vs H Q E h => ?_) (fun cdv A0 outer s H vs Q E hr h => ?_)
  · obtain ⟨z, l, t, n, rfl, _⟩ := h
    rfl
  · obtain ⟨z, l, t, n, rfl, hst, ht, hn, q⟩ := h
    refine ⟨_, 
      (pss_cons (ps_while PassesOwn.never (PW.pt (pw_and (pt_cmpR op_eq (pe_dget (hu_of hr) (pv 0) pe_str (fun _ _ => rfl)) pe_int (nomark _)) (pw_and1 (pt_cmpR (neD K hr.units) (pe_dget (hu_of hr) (pv 0) pe_str (fun _ _ => rfl)) (pe_lst pa_nil) (nomark _))))) 
          (pss_one (ps_dput (hu_of hr) (pv 0) pe_str (pe_bm PySem.F.plainAttrs_list PySem.F.slot_list_pop PySem.F.type_list_pop mt_popAt (pe_dget (hu_of hr) (pv 0) pe_str (fun _ _ => rfl)) (pa_cons pe_int pa_nil)) rfl)))
      (pss_cons (ps_if (pt_cmpR op_gt (pe_dget (hu_of hr) (pv 0) pe_str (fun _ _ => rfl)) pe_int (nomark _)) 
          (pss_cons (ps_set (i := 2) c__law_draw.nd rfl (.inl rfl) (pe_op op_mod (pe_callTy call_int1 (by rfl) G.int (by decide +kernel) (pa_cons (pe_dget (hu_of hr) (pv 0) pe_str (fun _ _ => rfl)) pa_nil)) (pv 1)))
          (pss_cons (ps_dput (hu_of hr) (pv 0) pe_str (pe_op op_fdiv (pe_dget (hu_of hr) (pv 0) pe_str (fun _ _ => rfl)) (pv 1)) rfl)
          (pss_one (ps_ret (pv 2))))) pss_nil)
      (pss_cons (ps_set (i := 3) c__law_draw.nd rfl (.inl rfl) (pe_op op_add (pe_dget (hu_of hr) (pv 0) pe_str (fun _ _ => rfl)) pe_int))
      (pss_cons (ps_dput (hu_of hr) (pv 0) pe_str (pv 3) rfl)
      (pss_cons (ps_set (i := 4) c__law_draw.nd rfl (.inl rfl) (pe_ifExp (pt_cmpR (neD K hr.units) (pe_dget (hu_of hr) (pv 0) pe_str (fun _ _ => rfl)) (pe_lst pa_nil) (nomark _)) (pe_ix (ixL K) (pe_dget (hu_of hr) (pv 0) pe_str (fun _ _ => rfl)) (pe_op op_mod (pe_callTy call_int1 (by rfl) G.int (by decide +kernel) (pa_cons (pv 3) pa_nil)) (pe_callB (lenS K) (by rfl) G.len PySem.boot_len (pa_cons (pe_dget (hu_of hr) (pv 0) pe_str (fun _ _ => rfl)) pa_nil))) (fun _ _ => rfl)) pe_int))
      (pss_cons (ps_set (i := 5) c__law_draw.nd rfl (.inl rfl) (pe_op op_mod (pe_callTy call_int1 (by rfl) G.int (by decide +kernel) (pa_cons (pe_op op_pow (pe_op op_add (pe_op op_add (pe_op op_mod (pe_callTy call_int1 (by rfl) G.int (by decide +kernel) (pa_cons (pv 4) pa_nil)) pe_int) (pe_op op_mul pe_int (pv 3))) pe_int) pe_int) pa_nil)) pe_int))
      (pss_one (ps_ret (pe_op op_mod (pe_callTy call_int1 (by rfl) G.int (by decide +kernel) (pa_cons (pe_op op_fdiv (pe_op op_mod (pe_callTy call_int1 (by rfl) G.int (by decide +kernel) (pa_cons (pe_op op_pow (pe_op op_add (pv 5) (pe_op op_mul pe_int (pv 3))) pe_int) pa_nil)) pe_int) pe_int) pa_nil)) (pv 1)))))))))), ?_⟩
    obtain ⟨c, left, turn, ls, cs, hz, hl, hc, hlc, htt, hll, hcl⟩ := hst.ex
    have zl : z ≠ l := ne_of hz hl (by intro y; cases y)
    have zc : z ≠ c := ne_of hz hc (by intro y; cases y)
    refine ⟨fun m σ H' => ∃ (left : Int) (ls : List Int) (x2 x3 x4 x5 : Option V), m = ls.length ∧ σ = [some (.ref z), some (.int n), x2, x3, x4, x5] ∧ SZ z l H H' ∧ H' z = some (.dK (stK l c left turn)) ∧ H' l = some (.lst (ls.map V.int)) ∧ H' c = some (.lst (cs.map V.int)) ∧ ls.length ≤ 1000,
      ⟨_, left, ls, _, _, _, _, rfl, rfl, SZ.refl, hz, hl, hc, hll⟩, fun m σ H' hw => ?_⟩
    obtain ⟨left, ls, x2, x3, x4, x5, rfl, rfl, s1, hz1, hl1, hc1, hll1⟩ := hw
    have gl := fun {H' : Hp} {f u : Int} (h : H' z = some (.dK (stK l c f u))) => (show DGet H' z (.str "left") (some (.int f)) from .inl ⟨_, kLeft, .inl h, rfl, (st_left l c f u).symm⟩)
    have gL := fun {H' : Hp} {f u : Int} (h : H' z = some (.dK (stK l c f u))) => (show DGet H' z (.str "large") (some (.ref l)) from .inl ⟨_, kLarge, .inl h, rfl, (st_large l c f u).symm⟩)
    have gC := fun {H' : Hp} {f u : Int} (h : H' z = some (.dK (stK l c f u))) => (show DGet H' z (.str "cells") (some (.ref c)) from .inl ⟨_, kCells, .inl h, rfl, (st_cells l c f u).symm⟩)
    have gT := fun {H' : Hp} {f u : Int} (h : H' z = some (.dK (stK l c f u))) => (show DGet H' z (.str "turn") (some (.int u)) from .inl ⟨_, kTurn, .inl h, rfl, (st_turn l c f u).symm⟩)
    refine ⟨.ref z, rfl, z, .int left, rfl, gl hz1, rfl, _, rfl, ?_⟩
    have lz := Ne.symm zl
    by_cases h0 : left = 0
    · subst h0
      refine ⟨.ref z, rfl, z, .ref l, rfl, gL hz1, by decide, fun e0 ne0 => ?_⟩
      have s2 := same_new (o := HO.lst []) ne0
      refine ⟨.list (ls.map PyData.int), .list [], .lst (SqL.of (s2 _ _ hl1)) (DtAll.of_ints ls).dp, .lst (SqL.of upd_same) .nil, shaped_listI ls, shaped_listI [], _, rfl, ?_⟩
      rw [eqv_ints_nil]
      have hz2 := s2 _ _ hz1
      have hl2 := s2 _ _ hl1
      have hc2 := s2 _ _ hc1
      have s12 := s1.trans (SZ.of s2)
      generalize upd H' e0 (HO.lst []) = H2 at hz2 hl2 hc2 s12 ⊢
      cases hls : ls with
      | nil =>
        rw [decide_eq_true rfl]
        have hll1 : ([] : List Int).length ≤ 1000 := Nat.zero_le _
        rw [hls] at hl2
        refine ⟨.ref z, rfl, z, .int (0 : Int), rfl, gl hz2, (0 : Int), 0, rfl, rfl, _, rfl, ite2 (fun e => ?_) (fun e => ?_)⟩
        · have e : 0 < (0 : Int) := of_decide_eq_true e
          refine ⟨.ref z, rfl, z, .int (0 : Int), rfl, gl hz2, .inl ⟨(0 : Int), rfl, .int n, rfl, (0 : Int), n, rfl, rfl, (by omega : 0 < n), ?_⟩⟩
          refine ⟨.ref z, rfl, z, .int (0 : Int), rfl, gl hz2, .int n, rfl, (0 : Int), n, rfl, rfl, by unfold CDiv; omega, .ref z, rfl, z, _, rfl, .inl ⟨stK l c (0 : Int) turn, kLeft, hz2, rfl, by show 4 < sizeLine; decide, rfl⟩, ?_⟩
          exact ⟨.int ((0 : Int) % n), rfl, q _ _ ⟨Int.emod_nonneg _ (by omega), Int.emod_lt_of_pos _ (by omega)⟩ (s12.trans (SZ.putS hz2 (put_left _ _ _ _ _))) ⟨c, (0 : Int) / n, turn, ([] : List Int), cs, by rw [upd_same, put_left], (upd_ne lz).trans hl2, (upd_ne (Ne.symm zc)).trans hc2, hlc, by omega, hll1, hcl⟩⟩
        · refine ⟨.ref z, rfl, z, .int turn, rfl, gT hz2, turn, 1, rfl, rfl, .int ((turn : Int) + 1), rfl, .ref z, rfl, z, _, rfl, .inl ⟨stK l c (0 : Int) turn, kTurn, hz2, rfl, by show 4 < sizeLine; decide, rfl⟩, ?_⟩
          have hz3 : (upd H2 z (.dK (putK (stK l c (0 : Int) turn) kTurn (.int ((turn : Int) + 1))))) z = some (.dK (stK l c (0 : Int) ((turn : Int) + 1))) := by rw [upd_same, put_turn]
          have hl3 : (upd H2 z (.dK (putK (stK l c (0 : Int) turn) kTurn (.int ((turn : Int) + 1))))) l = _ := (upd_ne lz).trans hl2
          have hc3 : (upd H2 z (.dK (putK (stK l c (0 : Int) turn) kTurn (.int ((turn : Int) + 1))))) c = _ := (upd_ne (Ne.symm zc)).trans hc2
          have s3 : SZ z l H (upd H2 z (.dK (putK (stK l c (0 : Int) turn) kTurn (.int ((turn : Int) + 1))))) := s12.trans (SZ.putS hz2 (put_turn _ _ _ _ _))
          generalize upd H2 z (.dK (putK (stK l c (0 : Int) turn) kTurn (.int ((turn : Int) + 1)))) = H3 at hz3 hl3 hc3 s3 ⊢
          refine ⟨.ref z, rfl, z, .ref c, rfl, gC hz3, by decide, fun e1 ne1 => ?_⟩
          have s4 := same_new (o := HO.lst []) ne1
          refine ⟨.list (cs.map PyData.int), .list [], .lst (SqL.of (s4 _ _ hc3)) (DtAll.of_ints cs).dp, .lst (SqL.of upd_same) .nil, shaped_listI cs, shaped_listI [], _, rfl, ?_⟩
          rw [eqv_ints_nil]
          have hz4 : (upd H3 e1 (HO.lst [])) z = some (.dK (stK l c (0 : Int) ((turn + 1 : Nat) : Int))) := s4 _ _ hz3
          have hl4 := s4 _ _ hl3
          have hc4 := s4 _ _ hc3
          have s4 := s3.trans (SZ.of s4)
          generalize upd H3 e1 (HO.lst []) = H4 at hz4 hl4 hc4 s4 ⊢
          generalize hcs0 : cs = cs0 at hc4 hcl ⊢
          cases hcs : cs0 with
          | nil =>
            rw [decide_eq_true rfl]
            rw [hcs] at hc4
            refine ⟨.int 0, rfl, .inl ⟨_, rfl, _, 2147483563, rfl, rfl, (by decide : (0 : Int) < 2147483563), .int ((turn : Int) + 1), rfl, 40692, (turn : Int) + 1, rfl, rfl, by unfold CMul; omega, _, _, rfl, rfl, _, 24681, rfl, rfl, _, 3, rfl, rfl, ?_, .inl ⟨_, rfl, _, 2147483629, rfl, rfl, (by decide : (0 : Int) < 2147483629), ?_⟩⟩⟩
            · refine ⟨by decide, by decide, ?_⟩
              omega
            refine ⟨_, rfl, .int ((turn : Int) + 1), rfl, 104917, (turn : Int) + 1, rfl, rfl, by unfold CMul; omega, _, _, rfl, rfl, _, 5, rfl, rfl, ?_, .inl ⟨_, rfl, _, 2147483579, rfl, rfl, (by decide : (0 : Int) < 2147483579), _, 29, rfl, rfl, by unfold CDiv; omega, .inl ⟨_, rfl, .int n, rfl, _, n, rfl, rfl, (by omega : 0 < n), ?_⟩⟩⟩
            · refine ⟨by decide, by decide, ?_⟩
              omega
            exact q _ _ ⟨Int.emod_nonneg _ (by omega), Int.emod_lt_of_pos _ (by omega)⟩ s4 ⟨c, (0 : Int), turn + 1, ([] : List Int), [], hz4, hl4, hc4, hlc, by omega, hll1, Nat.zero_le _⟩
          | cons x r =>
            rw [decide_eq_false (by simp)]
            rw [hcs] at hc4 hcl
            have hlen : ((x :: r).map V.int).length = r.length + 1 := by rw [List.length_map]; rfl
            have hidx : 0 ≤ ((turn : Int) + 1) % ((r.length + 1 : Nat) : Int) ∧ ((turn : Int) + 1) % ((r.length + 1 : Nat) : Int) < ((r.length + 1 : Nat) : Int) := ⟨Int.emod_nonneg _ (by omega), Int.emod_lt_of_pos _ (by omega)⟩
            obtain ⟨cell, hcell⟩ : ∃ cell, (x :: r)[(((turn : Int) + 1) % ((r.length + 1 : Nat) : Int)).toNat]? = some cell := ⟨_, List.getElem?_eq_getElem (by rw [List.length_cons]; omega)⟩
            have hat : atI ((x :: r).map V.int) (((turn : Int) + 1) % ((r.length + 1 : Nat) : Int)) = some (.int cell) := by
              have h := atI_nat (xs := (x :: r).map V.int) (j := (((turn : Int) + 1) % ((r.length + 1 : Nat) : Int)).toNat) (v := .int cell) (by rw [List.getElem?_map, hcell]; rfl)
              rwa [Int.toNat_of_nonneg hidx.1] at h
            refine ⟨.ref z, rfl, z, .ref c, rfl, gC hz4, .int ((turn : Int) + 1), rfl, .inl ⟨_, rfl, .ref z, rfl, z, .ref c, rfl, gC hz4, c, _, rfl, .inl (SqL.of hc4), (turn : Int) + 1, ((r.length + 1 : Nat) : Int), rfl, by rw [hlen], by show (0 : Int) < ((r.length + 1 : Nat) : Int); omega, c, _, _, .int cell, rfl, rfl, SqL.of hc4, hat, ?_⟩⟩
            refine ⟨.int cell, rfl, .inl ⟨_, rfl, _, 2147483563, rfl, rfl, (by decide : (0 : Int) < 2147483563), .int ((turn : Int) + 1), rfl, 40692, (turn : Int) + 1, rfl, rfl, by unfold CMul; omega, _, _, rfl, rfl, _, 24681, rfl, rfl, _, 3, rfl, rfl, ?_, .inl ⟨_, rfl, _, 2147483629, rfl, rfl, (by decide : (0 : Int) < 2147483629), ?_⟩⟩⟩
            · refine ⟨by decide, by decide, ?_⟩
              omega
            refine ⟨_, rfl, .int ((turn : Int) + 1), rfl, 104917, (turn : Int) + 1, rfl, rfl, by unfold CMul; omega, _, _, rfl, rfl, _, 5, rfl, rfl, ?_, .inl ⟨_, rfl, _, 2147483579, rfl, rfl, (by decide : (0 : Int) < 2147483579), _, 29, rfl, rfl, by unfold CDiv; omega, .inl ⟨_, rfl, .int n, rfl, _, n, rfl, rfl, (by omega : 0 < n), ?_⟩⟩⟩
            · refine ⟨by decide, by decide, ?_⟩
              omega
            exact q _ _ ⟨Int.emod_nonneg _ (by omega), Int.emod_lt_of_pos _ (by omega)⟩ s4 ⟨c, (0 : Int), turn + 1, ([] : List Int), x :: r, hz4, hl4, hc4, hlc, by omega, hll1, hcl⟩
      | cons x r =>
        rw [decide_eq_false (by simp)]
        rw [hls] at hl2
        refine ⟨fun σ' H'' => ∃ m', m' < ls.length ∧ ∃ (left : Int) (ls : List Int) (x2 x3 x4 x5 : Option V), m' = ls.length ∧ σ' = [some (.ref z), some (.int n), x2, x3, x4, x5] ∧ SZ z l H H'' ∧ H'' z = some (.dK (stK l c left turn)) ∧ H'' l = some (.lst (ls.map V.int)) ∧ H'' c = some (.lst (cs.map V.int)) ∧ ls.length ≤ 1000,
          fun σ' H'' hn => hls ▸ hn, ?_⟩
        refine ⟨.ref z, rfl, z, .ref l, rfl, gL hz2, .inl ⟨rfl, _, SqL.of hl2⟩, l, _, 0, 0, .int x, rfl, rfl, hl2, by decide, by decide, seqIx (i := 0) (Nat.succ_pos _), rfl, ?_⟩
        refine ⟨.ref z, rfl, z, _, rfl, .inl ⟨stK l c 0 turn, kLeft, (upd_ne zl).trans hz2, rfl, by show 4 < sizeLine; decide, rfl⟩, ?_⟩
        refine ⟨r.length, by rw [hls]; exact Nat.lt_succ_self _, x, r, _, _, _, _, rfl, rfl, s12.trans ((SZ.putl hl2).trans (SZ.putS ((upd_ne zl).trans hz2) (put_left _ _ _ _ _))), by rw [upd_same, put_left], ?_, ?_, ?_⟩
        · rw [upd_ne lz, upd_same]
          rfl
        · rw [upd_ne (Ne.symm zc), upd_ne (Ne.symm hlc)]
          exact hc2
        · rw [hls] at hll1
          exact Nat.le_of_succ_le hll1
    · rw [decide_eq_false (fun y => h0 (V.int.inj y))]
      have s12 := s1
      have hz2 := hz1
      have hl2 := hl1
      have hc2 := hc1
      generalize H' = H2 at hz2 hl2 hc2 s12 ⊢
      refine ⟨.ref z, rfl, z, .int left, rfl, gl hz2, left, 0, rfl, rfl, _, rfl, ite2 (fun e => ?_) (fun e => ?_)⟩
      · have e : 0 < left := of_decide_eq_true e
        refine ⟨.ref z, rfl, z, .int left, rfl, gl hz2, .inl ⟨left, rfl, .int n, rfl, left, n, rfl, rfl, (by omega : 0 < n), ?_⟩⟩
        refine ⟨.ref z, rfl, z, .int left, rfl, gl hz2, .int n, rfl, left, n, rfl, rfl, by unfold CDiv; omega, .ref z, rfl, z, _, rfl, .inl ⟨stK l c left turn, kLeft, hz2, rfl, by show 4 < sizeLine; decide, rfl⟩, ?_⟩
        exact ⟨.int (left % n), rfl, q _ _ ⟨Int.emod_nonneg _ (by omega), Int.emod_lt_of_pos _ (by omega)⟩ (s12.trans (SZ.putS hz2 (put_left _ _ _ _ _))) ⟨c, left / n, turn, ls, cs, by rw [upd_same, put_left], (upd_ne lz).trans hl2, (upd_ne (Ne.symm zc)).trans hc2, hlc, by omega, hll1, hcl⟩⟩
      · refine ⟨.ref z, rfl, z, .int turn, rfl, gT hz2, turn, 1, rfl, rfl, .int ((turn : Int) + 1), rfl, .ref z, rfl, z, _, rfl, .inl ⟨stK l c left turn, kTurn, hz2, rfl, by show 4 < sizeLine; decide, rfl⟩, ?_⟩
        have hz3 : (upd H2 z (.dK (putK (stK l c left turn) kTurn (.int ((turn : Int) + 1))))) z = some (.dK (stK l c left ((turn : Int) + 1))) := by rw [upd_same, put_turn]
        have hl3 : (upd H2 z (.dK (putK (stK l c left turn) kTurn (.int ((turn : Int) + 1))))) l = _ := (upd_ne lz).trans hl2
        have hc3 : (upd H2 z (.dK (putK (stK l c left turn) kTurn (.int ((turn : Int) + 1))))) c = _ := (upd_ne (Ne.symm zc)).trans hc2
        have s3 : SZ z l H (upd H2 z (.dK (putK (stK l c left turn) kTurn (.int ((turn : Int) + 1))))) := s12.trans (SZ.putS hz2 (put_turn _ _ _ _ _))
        generalize upd H2 z (.dK (putK (stK l c left turn) kTurn (.int ((turn : Int) + 1)))) = H3 at hz3 hl3 hc3 s3 ⊢
        refine ⟨.ref z, rfl, z, .ref c, rfl, gC hz3, by decide, fun e1 ne1 => ?_⟩
        have s4 := same_new (o := HO.lst []) ne1
        refine ⟨.list (cs.map PyData.int), .list [], .lst (SqL.of (s4 _ _ hc3)) (DtAll.of_ints cs).dp, .lst (SqL.of upd_same) .nil, shaped_listI cs, shaped_listI [], _, rfl, ?_⟩
        rw [eqv_ints_nil]
        have hz4 : (upd H3 e1 (HO.lst [])) z = some (.dK (stK l c left ((turn + 1 : Nat) : Int))) := s4 _ _ hz3
        have hl4 := s4 _ _ hl3
        have hc4 := s4 _ _ hc3
        have s4 := s3.trans (SZ.of s4)
        generalize upd H3 e1 (HO.lst []) = H4 at hz4 hl4 hc4 s4 ⊢
        generalize hcs0 : cs = cs0 at hc4 hcl ⊢
        cases hcs : cs0 with
        | nil =>
          rw [decide_eq_true rfl]
          rw [hcs] at hc4
          refine ⟨.int 0, rfl, .inl ⟨_, rfl, _, 2147483563, rfl, rfl, (by decide : (0 : Int) < 2147483563), .int ((turn : Int) + 1), rfl, 40692, (turn : Int) + 1, rfl, rfl, by unfold CMul; omega, _, _, rfl, rfl, _, 24681, rfl, rfl, _, 3, rfl, rfl, ?_, .inl ⟨_, rfl, _, 2147483629, rfl, rfl, (by decide : (0 : Int) < 2147483629), ?_⟩⟩⟩
          · refine ⟨by decide, by decide, ?_⟩
            omega
          refine ⟨_, rfl, .int ((turn : Int) + 1), rfl, 104917, (turn : Int) + 1, rfl, rfl, by unfold CMul; omega, _, _, rfl, rfl, _, 5, rfl, rfl, ?_, .inl ⟨_, rfl, _, 2147483579, rfl, rfl, (by decide : (0 : Int) < 2147483579), _, 29, rfl, rfl, by unfold CDiv; omega, .inl ⟨_, rfl, .int n, rfl, _, n, rfl, rfl, (by omega : 0 < n), ?_⟩⟩⟩
          · refine ⟨by decide, by decide, ?_⟩
            omega
          exact q _ _ ⟨Int.emod_nonneg _ (by omega), Int.emod_lt_of_pos _ (by omega)⟩ s4 ⟨c, left, turn + 1, ls, [], hz4, hl4, hc4, hlc, by omega, hll1, Nat.zero_le _⟩
        | cons x r =>
          rw [decide_eq_false (by simp)]
          rw [hcs] at hc4 hcl
          have hlen : ((x :: r).map V.int).length = r.length + 1 := by rw [List.length_map]; rfl
          have hidx : 0 ≤ ((turn : Int) + 1) % ((r.length + 1 : Nat) : Int) ∧ ((turn : Int) + 1) % ((r.length + 1 : Nat) : Int) < ((r.length + 1 : Nat) : Int) := ⟨Int.emod_nonneg _ (by omega), Int.emod_lt_of_pos _ (by omega)⟩
          obtain ⟨cell, hcell⟩ : ∃ cell, (x :: r)[(((turn : Int) + 1) % ((r.length + 1 : Nat) : Int)).toNat]? = some cell := ⟨_, List.getElem?_eq_getElem (by rw [List.length_cons]; omega)⟩
          have hat : atI ((x :: r).map V.int) (((turn : Int) + 1) % ((r.length + 1 : Nat) : Int)) = some (.int cell) := by
            have h := atI_nat (xs := (x :: r).map V.int) (j := (((turn : Int) + 1) % ((r.length + 1 : Nat) : Int)).toNat) (v := .int cell) (by rw [List.getElem?_map, hcell]; rfl)
            rwa [Int.toNat_of_nonneg hidx.1] at h
          refine ⟨.ref z, rfl, z, .ref c, rfl, gC hz4, .int ((turn : Int) + 1), rfl, .inl ⟨_, rfl, .ref z, rfl, z, .ref c, rfl, gC hz4, c, _, rfl, .inl (SqL.of hc4), (turn : Int) + 1, ((r.length + 1 : Nat) : Int), rfl, by rw [hlen], by show (0 : Int) < ((r.length + 1 : Nat) : Int); omega, c, _, _, .int cell, rfl, rfl, SqL.of hc4, hat, ?_⟩⟩
          refine ⟨.int cell, rfl, .inl ⟨_, rfl, _, 2147483563, rfl, rfl, (by decide : (0 : Int) < 2147483563), .int ((turn : Int) + 1), rfl, 40692, (turn : Int) + 1, rfl, rfl, by unfold CMul; omega, _, _, rfl, rfl, _, 24681, rfl, rfl, _, 3, rfl, rfl, ?_, .inl ⟨_, rfl, _, 2147483629, rfl, rfl, (by decide : (0 : Int) < 2147483629), ?_⟩⟩⟩
          · refine ⟨by decide, by decide, ?_⟩
            omega
          refine ⟨_, rfl, .int ((turn : Int) + 1), rfl, 104917, (turn : Int) + 1, rfl, rfl, by unfold CMul; omega, _, _, rfl, rfl, _, 5, rfl, rfl, ?_, .inl ⟨_, rfl, _, 2147483579, rfl, rfl, (by decide : (0 : Int) < 2147483579), _, 29, rfl, rfl, by unfold CDiv; omega, .inl ⟨_, rfl, .int n, rfl, _, n, rfl, rfl, (by omega : 0 < n), ?_⟩⟩⟩
          · refine ⟨by decide, by decide, ?_⟩
            omega
          exact q _ _ ⟨Int.emod_nonneg _ (by omega), Int.emod_lt_of_pos _ (by omega)⟩ s4 ⟨c, left, turn + 1, ls, x :: r, hz4, hl4, hc4, hlc, by omega, hll1, hcl⟩
end
end Pk
set_option maxHeartbeats 1000000
namespace Pk
open PySem PySem.Spec PyProof.Rows L2
/-- x[i], x a list or a tuple -/
def rIxA (K : PySem.W.Frag) : R2 := fun x y H Q => ∃ p xs i v, x = .ref p ∧ y = .int i ∧ (SqL K H p xs ∨ SqT K H p xs) ∧ atI xs i = some v ∧ Q v H
theorem ixA {X : Cx} (K : PySem.W.Frag) (h : X.K = K := by rfl) : IxR X (rIxA K) := by
  subst h
  intro value slice pins s σ H x y v u Q I rx ry q hs
  obtain ⟨p, xs, i, z, e1, e2, hq | hq, he, q⟩ := q
  · exact ix_list value slice pins s σ H x y v u Q I rx ry ⟨p, xs, i, z, e1, e2, hq, he, q⟩ hs
  · exact ix_tup value slice pins s σ H x y v u Q I rx ry ⟨p, xs, i, z, e1, e2, hq, he, q⟩ hs
/-- a list or a tuple that the state is no part of -/
def LT (l : Addr) (H : Hp) (p : Addr) (xs : List V) : Prop := (H p = some (.lst xs) ∧ p ≠ l) ∨ H p = some (.tup xs)
theorem LT.seq {K : PySem.W.Frag} {l p : Addr} {H : Hp} {xs : List V} (h : LT l H p xs) : SqL K H p xs ∨ SqT K H p xs := h.elim (fun q => .inl (SqL.of q.1)) fun q => .inr (SqT.of q)
theorem LT.sz {z l p : Addr} {t : Nat} {H H' : Hp} {xs : List V} (h : LT l H p xs) (st : LSt z l t H) (s : SZ z l H H') : LT l H' p xs := by
  rcases h with ⟨h, n⟩ | h
  · exact .inl ⟨s.k _ _ (st.nez h (by intro k y; cases y)) n h, n⟩
  · exact .inr (s.tk _ _ h)
theorem LT.same {l p : Addr} {H H' : Hp} {xs : List V} (h : LT l H p xs) (s : Same H H') : LT l H' p xs := h.imp (fun q => ⟨s _ _ q.1, q.2⟩) fun q => s _ _ q
def sp_law_begun (K : PySem.W.Frag) : Sp := fun vs H Q _ => ∃ (a : Addr) (ns : List Int), vs = [.ref a] ∧ SqL K H a (ns.map V.int) ∧ ns.length ≤ 63 ∧ ∀ z l H', Same H H' → LSt z l 0 H' → Q (.ref z) H'
def sp_law_pick : Sp := fun vs H Q _ => ∃ (z l : Addr) (t : Nat) (p : Addr) (xs : List V), vs = [.ref z, .ref p] ∧ LSt z l t H ∧ t ≤ 1000000 ∧ LT l H p xs ∧ (1 ≤ xs.length ∧ xs.length ≤ 1000) ∧ ∀ v H', v ∈ xs → SZ z l H H' → LSt z l (t + 1) H' → Q v H'
def okD (ds : List PyData) : Prop := ∀ d, d ∈ ds → d.canLay0 = true ∧ d.depth ≤ 8
def sp_law_mixed : Sp := fun vs H Q _ => ∃ (z l : Addr) (t : Nat) (p : Addr) (xs : List V) (ds : List PyData), vs = [.ref z, .ref p] ∧ LSt z l t H ∧ t + xs.length ≤ 1000000 ∧ LT l H p xs ∧ DtAll H xs ds ∧ okD ds ∧ xs.length ≤ 100 ∧
  ∀ q ys es H', SZ z l H H' → LSt z l (t + xs.length) H' → H' q = some (.lst ys) → q ≠ l → DtAll H' ys es → es.Perm ds → Q (.ref q) H'
theorem shaped_list {ds : List PyData} (h : okD ds) : SeqAt.shaped (.list ds) = true := by
  have h1 : PyData.canLayAll0 ds = true ∧ PyData.depthAll ds ≤ 8 := by
    induction ds with
    | nil => simp [PyData.canLayAll0, PyData.depthAll]
    | cons d ds ih =>
      obtain ⟨a, c⟩ := ih fun x hx => h x (List.mem_cons_of_mem _ hx)
      obtain ⟨a1, c1⟩ := h d List.mem_cons_self
      refine ⟨by simp [PyData.canLayAll0, a1, a], ?_⟩
      simp only [PyData.depthAll]
      omega
  refine shaped_mk (by simpa [PyData.canLay0] using h1.1) ?_
  simp only [PyData.depth]
  omega
theorem eqv_nil (ds : List PyData) : PyData.eqv (.list ds) (.list []) = ds.isEmpty := by
  cases ds with
  | nil => simp [PyData.eqv, PyData.eqvAll]
  | cons d ds => simp [PyData.eqv, PyData.eqvAll]
theorem DtAll.erase {H : Hp} : ∀ {vs : List V} {ds : List PyData} (k : Nat), DtAll H vs ds → DtAll H (vs.eraseIdx k) (ds.eraseIdx k)
  | _, _, _, .nil => .nil
  | _, _, 0, .cons _ hs => hs
  | _, _, k + 1, .cons h hs => .cons h (DtAll.erase k hs)
theorem perm_erase {α : Type} : ∀ {l : List α} {k : Nat} {x : α}, l[k]? = some x → l.Perm (x :: l.eraseIdx k)
  | [], _, _, h => by simp at h
  | y :: l, 0, x, h => by
    have e : y = x := Option.some.inj h
    rw [e]
    exact List.Perm.refl _
  | y :: l, k + 1, x, h => ((perm_erase (l := l) (k := k) (by simpa using h)).cons y).trans (List.Perm.swap x y _)
theorem st_merge (l c : Addr) (f t : Int) : mergeK [] (stK l c f t) = stK l c f t := by
  have h1 : (kLarge = kCells) = False := eq_false (by decide +kernel)
  have h2 : (kLarge = kLeft) = False := eq_false (by decide +kernel)
  have h3 : (kLarge = kTurn) = False := eq_false (by decide +kernel)
  have h4 : (kCells = kLeft) = False := eq_false (by decide +kernel)
  have h5 : (kCells = kTurn) = False := eq_false (by decide +kernel)
  have h6 : (kLeft = kTurn) = False := eq_false (by decide +kernel)
  simp [mergeK, stK, putK, h1, h2, h3, h4, h5, h6]
section
variable {P : Program} {w : World} {K : PySem.W.Frag} {mg : Str → Option Value} {base : Heap}
theorem ok_law_begun {f : Addr} {fd : FuncData} (F : Fun K "_law_begun" "_law_begun" s__law_begun f fd) (G : Glob mg) : FnOk P w K mg base CX0 1 f fd ["_law_script"] (sp_law_begun K) := by
  refine F.ok c__law_begun (fun vs H Q E h => ?_) (fun cdv A0 outer s H vs Q E hr h => ?_)
  · obtain ⟨a, ns, rfl, _⟩ := h
    rfl
  · obtain ⟨a, ns, rfl, ha, hl, q⟩ := h
    refine ⟨_, 
      (pss_cons (ps_setLc (i := 2) (own := [("_law_cell", 1)]) rfl c__law_begun.nd rfl rfl (sw_true rfl rfl rfl (by decide +kernel)) (pi_list (pv 0)) (blkOk_by (own := [("_law_cell", 1)]) (N := n__law_begun) (sc := defScope s__law_begun) (by decide +kernel)) (fun _ _ _ _ _ => (pg_name (i := 1) c__law_begun.nd rfl (.inl rfl))) (fun _ _ _ _ _ => pts_nil) (fun _ _ _ _ _ => (pe_callB call_abs (by rfl) G.abs (by decide +kernel) (pa_cons (pv 1) pa_nil))))
      (pss_cons (ps_setLc (i := 3) (own := [("_law_cell", 1)]) rfl c__law_begun.nd rfl rfl (sw_true rfl rfl rfl (by decide +kernel)) (pi_list (pv 2)) (blkOk_by (own := [("_law_cell", 1)]) (N := n__law_begun) (sc := defScope s__law_begun) (by decide +kernel)) (fun _ _ _ _ _ => (pg_name (i := 1) c__law_begun.nd rfl (.inl rfl))) (fun _ _ _ _ _ => (pts_one (pt_cmpR op_ge (pv 1) (pe_op op_pow pe_int pe_int) (nomark _)))) (fun _ _ _ _ _ => (pe_op op_sub (pv 1) (pe_op op_pow pe_int pe_int))))
      (pss_one (ps_ret (pe_disp (pps_cons pe_str (pv 3) (pps_cons pe_str (pv 2) (pps_cons pe_str pe_int (pps_cons pe_str pe_int pps_nil)))) (by rfl) (by rfl) (by simp) (by decide)))))), ?_⟩
    have hxl : (ns.map V.int).length = ns.length := List.length_map ..
    refine ⟨.ref a, rfl, a, rfl, ⟨_, ha⟩, fun c nc => ?_⟩
    refine lcW nc (Wlk.list ha) (fun i H ys => ∃ cs : List Int, ys = cs.map V.int ∧ cs.length ≤ i) (fun i H H' ys _ e => e) (by omega) ⟨[], rfl, Nat.le_refl _⟩ (fun i x H' ys hi s hx hY Q1 Q2 k1 k2 => ?_) fun H1 ys s1 hc hY => ?_
    · obtain ⟨cs, rfl, hcl⟩ := hY
      rw [List.getElem?_map] at hx
      cases hz : ns[i]? with
      | none => rw [hz] at hx; cases hx
      | some z =>
        rw [hz] at hx
        cases hx
        exact ⟨rfl, .int z, rfl, z, rfl, k1 _ _ (Same.refl _) ⟨cs ++ [_], by rw [List.map_append]; rfl, by rw [List.length_append]; exact Nat.succ_le_succ hcl⟩⟩
    obtain ⟨cs, rfl, hcl⟩ := hY
    refine ⟨.ref c, rfl, c, rfl, ⟨_, SqL.of hc⟩, fun l nl => ?_⟩
    refine lcW nl (Wlk.list (SqL.of hc)) (fun i H ys => ∃ ls : List Int, ys = ls.map V.int ∧ ls.length ≤ i) (fun i H H' ys _ e => e) (by rw [List.length_map]; omega) ⟨[], rfl, Nat.le_refl _⟩ (fun i x H' ys hi s hx hY Q1 Q2 k1 k2 => ?_) fun H2 ys s2 hl2 hY => ?_
    · obtain ⟨ls, rfl, hll⟩ := hY
      rw [List.getElem?_map] at hx
      cases hz : cs[i]? with
      | none => rw [hz] at hx; cases hx
      | some z =>
        rw [hz] at hx
        cases hx
        refine ⟨rfl, .int z, rfl, 10, 18, rfl, rfl, ⟨by decide, by decide, by decide⟩, z, _, rfl, rfl, _, rfl, ite2 (fun e => ?_) (fun e => ?_)⟩
        · refine ⟨.int z, rfl, 10, 18, rfl, rfl, ⟨by decide, by decide, by decide⟩, z, _, rfl, rfl, k1 _ _ (Same.refl _) ⟨ls ++ [_], by rw [List.map_append]; rfl, by rw [List.length_append]; exact Nat.succ_le_succ hll⟩⟩
        · exact k2 _ (Same.refl _) ⟨ls, rfl, Nat.le_succ_of_le hll⟩
    obtain ⟨ls, rfl, hll⟩ := hY
    rw [List.length_map] at hll
    intro z nz
    refine ⟨.ref l, rfl, .ref c, rfl, upd_same, stK l c 0 0, rfl, by show 4 ≤ 15; decide, ?_⟩
    have s3 := same_new (o := HO.dK []) nz
    rw [st_merge]
    have s4 : Same H2 (upd (upd H2 z (.dK [])) z (.dK (stK l c 0 0))) := same_mut s3 nz
    refine q z l _ (s1.trans (s2.trans s4)) ⟨c, 0, 0, ls, cs, upd_same, s4 _ _ hl2, s4 _ _ (s2 _ _ hc), fun e => ?_, Nat.le_refl _, by omega, by omega⟩
    rw [e, hc] at nl
    cases nl
theorem ok_law_pick {f : Addr} {fd : FuncData} (F : Fun K "_law_pick" "_law_pick" s__law_pick f fd) (G : Glob mg) (C_law_draw : Cal P w K mg base CX0 1 "_law_draw" ["_law_state", "_law_size_here"] sp_law_draw) :
    FnOk P w K mg base CX0 2 f fd ["_law_state", "_law_several"] sp_law_pick := by
  refine F.ok c__law_pick (fun vs H Q E h => ?_) (fun cdv A0 outer s H vs Q E hr h => ?_)
  · obtain ⟨z, l, t, p, xs, rfl, _⟩ := h
    rfl
  · obtain ⟨z, l, t, p, xs, rfl, hst, ht, hp, hx, q⟩ := h
    refine ⟨_, 
      (pss_one (ps_ret (pe_ix (ixA K) (pv 1) (pe_cal C_law_draw hr pass0 (pa_cons (pv 0) (pa_cons (pe_callB (lenS K) (by rfl) G.len PySem.boot_len (pa_cons (pv 1) pa_nil)) pa_nil))) (fun _ _ => rfl)))), ?_⟩
    refine ⟨.ref p, rfl, .ref z, rfl, .ref p, rfl, p, xs, rfl, hp.seq, z, l, t, xs.length, rfl, hst, ht, by omega, fun r H1 hr1 s1 st1 => ?_⟩
    have hv := List.getElem?_eq_getElem (l := xs) (i := r.toNat) (by omega)
    have hat := atI_nat hv
    rw [Int.toNat_of_nonneg hr1.1] at hat
    exact ⟨p, xs, r, _, rfl, rfl, (hp.sz hst s1).seq, hat, q _ H1 (List.getElem_mem _) s1 st1⟩
theorem ok_law_mixed {f : Addr} {fd : FuncData} (F : Fun K "_law_mixed" "_law_mixed" s__law_mixed f fd) (G : Glob mg) (C_law_draw : Cal P w K mg base CX0 1 "_law_draw" ["_law_state", "_law_size_here"] sp_law_draw) :
    FnOk P w K mg base CX0 2 f fd ["_law_state", "_law_several"] sp_law_mixed := by
  refine F.ok c__law_mixed (fun vs H Q E h => ?_) (fun cdv A0 outer s H vs Q E hr h => ?_)
  · obtain ⟨z, l, t, p, xs, ds, rfl, _⟩ := h
    rfl
  · obtain ⟨z, l, t, p, xs, ds, rfl, hst, ht, hp, hd, hok, hl, q⟩ := h
    refine ⟨_, 
      (pss_cons (ps_par (i := 2) (j := 3) rfl c__law_mixed.nd rfl rfl (by decide) rfl rfl (pa_cons (pe_callTy call_list_of (by rfl) G.list (by decide +kernel) (pa_cons (pv 1) pa_nil)) (pa_cons (pe_lst pa_nil) pa_nil)) (by rfl))
      (pss_cons (ps_while PassesOwn.never (pt_cmpR (neD K hr.units) (pv 2) (pe_lst pa_nil) (nomark _)) 
          (pss_one (ps_expr (pe_bm PySem.F.plainAttrs_list PySem.F.slot_list_append PySem.F.type_list_append mt_append (pv 3) (pa_cons (pe_bm PySem.F.plainAttrs_list PySem.F.slot_list_pop PySem.F.type_list_pop mt_popAt (pv 2) (pa_cons (pe_cal C_law_draw hr pass0 (pa_cons (pv 0) (pa_cons (pe_callB (lenS K) (by rfl) G.len PySem.boot_len (pa_cons (pv 2) pa_nil)) pa_nil))) pa_nil)) pa_nil)))))
      (pss_one (ps_ret (pv 3))))), ?_⟩
    refine ⟨.ref p, rfl, p, xs, rfl, hp.seq, fun a na => ⟨by decide, fun c nc => ⟨_, _, rfl, ?_⟩⟩⟩
    have s1 := same_new (o := HO.lst xs) na
    have s2 := same_new (o := HO.lst []) nc
    have ac : a ≠ c := ne_of_none upd_same nc
    have nc0 : H c = none := by
      rw [upd_ne (Ne.symm ac)] at nc
      exact nc
    have la : a ≠ l := by
      obtain ⟨_, _, _, _, _, _, h2, _⟩ := hst.ex
      exact Ne.symm (ne_of_none h2 na)
    have lc : c ≠ l := by
      obtain ⟨_, _, _, _, _, _, h2, _⟩ := hst.ex
      exact Ne.symm (ne_of_none h2 nc0)
    have az : a ≠ z := by
      obtain ⟨_, _, _, _, _, h2, _⟩ := hst.ex
      exact Ne.symm (ne_of_none h2 na)
    have cz : c ≠ z := by
      obtain ⟨_, _, _, _, _, h2, _⟩ := hst.ex
      exact Ne.symm (ne_of_none h2 nc0)
    have s12 := s1.trans s2
    refine ⟨fun m σ H' => ∃ (xs1 ys1 : List V) (ds1 es1 : List PyData), m = xs1.length ∧ σ = [some (.ref z), some (.ref p), some (.ref a), some (.ref c)] ∧ SZ z l H H' ∧ LSt z l (t + ys1.length) H' ∧ H' a = some (.lst xs1) ∧ H' c = some (.lst ys1) ∧ DtAll H' xs1 ds1 ∧ DtAll H' ys1 es1 ∧ (es1 ++ ds1).Perm ds,
      ⟨_, xs, [], ds, [], rfl, rfl, SZ.of s12, (hst.same s12).up (Nat.le_add_right _ _), s2 _ _ upd_same, upd_same, hd.tmono (tk_same s12), .nil, List.Perm.refl _⟩, fun m σ H' hw => ?_⟩
    obtain ⟨xs1, ys1, ds1, es1, rfl, rfl, sz, st, ha, hc, hd1, he1, hpm⟩ := hw
    have hlen : xs1.length = ds1.length := hd1.len
    have hlen2 : ys1.length = es1.length := he1.len
    have hlen3 := hpm.length_eq
    have hlen4 := hd.len
    rw [List.length_append] at hlen3
    refine ⟨.ref a, rfl, by decide, fun e0 ne0 => ?_⟩
    have s3 := same_new (o := HO.lst []) ne0
    have hok1 : okD ds1 := fun d hd => hok d (hpm.subset (List.mem_append_right _ hd))
    refine ⟨.list ds1, .list [], .lst (SqL.of (s3 _ _ ha)) (hd1.tmono (tk_same s3)).dp, .lst (SqL.of upd_same) .nil, shaped_list hok1, shaped_listI [], _, rfl, ?_⟩
    rw [eqv_nil]
    have sz3 := sz.trans (SZ.of s3)
    have st3 := st.same s3
    have ha3 := s3 _ _ ha
    have hc3 := s3 _ _ hc
    have hd3 := hd1.tmono (tk_same s3)
    have he3 := he1.tmono (tk_same s3)
    generalize upd H' e0 (HO.lst []) = H3 at sz3 st3 ha3 hc3 hd3 he3 ⊢
    cases hds : ds1 with
    | nil =>
      rw [hds] at hlen hpm hlen3
      rw [List.append_nil] at hpm
      have e1 : t + ys1.length = t + xs.length := by
        simp at hlen3
        omega
      rw [e1] at st3
      exact ⟨.ref c, rfl, q c ys1 es1 H3 sz3 st3 hc3 lc he3 hpm⟩
    | cons d0 dr =>
      rw [← hds]
      have hne : ds1.isEmpty = false := by
        rw [hds]
        rfl
      rw [hne]
      have hpos : 1 ≤ xs1.length := by
        rw [hlen, hds]
        exact Nat.succ_pos _
      refine ⟨fun σ' H'' => ∃ m', m' < xs1.length ∧ ∃ (xs1 ys1 : List V) (ds1 es1 : List PyData), m' = xs1.length ∧ σ' = [some (.ref z), some (.ref p), some (.ref a), some (.ref c)] ∧ SZ z l H H'' ∧ LSt z l (t + ys1.length) H'' ∧ H'' a = some (.lst xs1) ∧ H'' c = some (.lst ys1) ∧ DtAll H'' xs1 ds1 ∧ DtAll H'' ys1 es1 ∧ (es1 ++ ds1).Perm ds,
        fun σ' H'' hn => hn, ?_⟩
      refine ⟨.ref c, rfl, .inl ⟨rfl, _, SqL.of hc3⟩, .ref a, rfl, .inl ⟨rfl, _, SqL.of ha3⟩, .ref z, rfl, .ref a, rfl, a, xs1, rfl, .inl (SqL.of ha3), z, l, t + ys1.length, xs1.length, rfl, st3, by omega, by omega, fun r H4 hr4 s4 st4 => ?_⟩
      have ha4 := s4.k _ _ az la ha3
      have hc4 := s4.k _ _ cz lc hc3
      have hd4 := hd3.tmono s4.tk
      have he4 := he3.tmono s4.tk
      have hk : r.toNat < xs1.length := by omega
      obtain ⟨dk, hdk, hdt⟩ := hd4.getV (List.getElem?_eq_getElem hk)
      have hsi : seqIndex? r xs1.length = some r.toNat := by
        have := seqIx hk
        rwa [Int.toNat_of_nonneg hr4.1] at this
      refine ⟨a, xs1, r, r.toNat, _, rfl, rfl, ha4, by omega, by omega, hsi, List.getElem?_eq_getElem hk, c, ys1, _, rfl, rfl, (upd_ne (Ne.symm ac)).trans hc4, by rw [sizeLine_eq]; omega, ?_⟩
      have w5 := wk_lst (ys := xs1.eraseIdx r.toNat) ha4
      have hc5 : (upd H4 a (.lst (xs1.eraseIdx r.toNat))) c = some (.lst ys1) := (upd_ne (Ne.symm ac)).trans hc4
      have w6 := wk_lst (ys := ys1 ++ [xs1[r.toNat]]) hc5
      have sz5 : SZ z l H (upd H4 a (.lst (xs1.eraseIdx r.toNat))) := (sz3.trans s4).mut na ha4
      have sz6 : SZ z l H (upd (upd H4 a (.lst (xs1.eraseIdx r.toNat))) c (.lst (ys1 ++ [xs1[r.toNat]]))) := sz5.mut nc0 hc5
      have st6 : LSt z l (t + (ys1 ++ [xs1[r.toNat]]).length) (upd (upd H4 a (.lst (xs1.eraseIdx r.toNat))) c (.lst (ys1 ++ [xs1[r.toNat]]))) := by
        have q4 : LSt z l (t + (ys1 ++ [xs1[r.toNat]]).length) H4 := st4.up (by rw [List.length_append]; exact Nat.le_refl _)
        have q5 := hst.mut (ys := xs1.eraseIdx r.toNat) (sz3.trans s4) q4 na ha4
        exact hst.mut sz5 q5 nc0 hc5
      refine ⟨(xs1.eraseIdx r.toNat).length, by rw [List.length_eraseIdx, if_pos hk]; omega, xs1.eraseIdx r.toNat, ys1 ++ [xs1[r.toNat]], ds1.eraseIdx r.toNat, es1 ++ [dk], rfl, rfl, sz6, st6, (upd_ne ac).trans upd_same, upd_same, ((hd4.erase r.toNat).tmono w5.tk).tmono w6.tk, ((he4.app (.one hdt)).tmono w5.tk).tmono w6.tk, ?_⟩
      refine List.Perm.trans ?_ hpm
      rw [List.append_assoc]
      exact (perm_erase hdk).symm.append_left es1
end
end Pk
set_option maxHeartbeats 2000000
/-! list(zip(a, b)) of two lists. -/
namespace Pk
open PySem PySem.Spec PyProof.Rows L2
/-- the zip behind i turns; the list at S keeps what it gave -/
def ZpSt (z TI TO i1 i2 l1 l2 S : Addr) (xs ys : Array Value) (i : Nat) (h : Heap) : Prop :=
  IsPair h TI (.ref i1) (.ref i2) ∧ h.IsListIter i1 l1 i ∧ h.IsListIter i2 l2 i ∧ h.IsList l1 xs ∧ h.IsList l2 ys ∧
  ((IsZip h z TI TO .none ∧ ∃ a b, IsPair h TO a b) ∨ ∃ T f oT, IsZipHeld h z TI TO T f ∧ h.get? T = some oT ∧ T ≠ z ∧ T ≠ i1 ∧ T ≠ i2 ∧ T ≠ S)
structure ZOff (z TI TO i1 i2 l1 l2 S : Addr) : Prop where
  z : S ≠ z
  TI : S ≠ TI
  TO : S ≠ TO
  i1 : S ≠ i1
  i2 : S ≠ i2
  l1 : S ≠ l1
  l2 : S ≠ l2
section
variable {prog : Program} {w : World} {A : Around} {E : Value → Shared → Prop} {s : Shared} {z TI TO i1 i2 l1 l2 S : Addr} {xs ys : Array Value} {i : Nat}
theorem zp_frame {h₁ h₂ : Heap} (O : ZOff z TI TO i1 i2 l1 l2 S) (st : ZpSt z TI TO i1 i2 l1 l2 S xs ys i h₁) (hk : ∀ b o, b ≠ S → h₁.get? b = some o → h₂.get? b = some o) : ZpSt z TI TO i1 i2 l1 l2 S xs ys i h₂ := by
  obtain ⟨hTI, h1, h2, hl1, hl2, hz⟩ := st
  refine ⟨hk _ _ (Ne.symm O.TI) hTI, h1.at fun o e => hk _ o (Ne.symm O.i1) e, h2.at fun o e => hk _ o (Ne.symm O.i2) e, hl1.at fun o e => hk _ o (Ne.symm O.l1) e, hl2.at fun o e => hk _ o (Ne.symm O.l2) e, ?_⟩
  rcases hz with ⟨hz, a, b, hTO⟩ | ⟨T, f, oT, hz, hT, r1, r2, r3, r4⟩
  · exact .inl ⟨hk _ _ (Ne.symm O.z) hz, a, b, hk _ _ (Ne.symm O.TO) hTO⟩
  · exact .inr ⟨T, f, oT, hk _ _ (Ne.symm O.z) hz, hk _ _ r4 hT, r1, r2, r3, r4⟩
theorem zp_item {x y : Value} {Q : Option Value → Shared → Prop} (D : ZipApart z TI TO i1 i2 l1 l2) (st : ZpSt z TI TO i1 i2 l1 l2 S xs ys i s.heap) (hds : S < s.heap.objs.size) (ex : xs[i]? = some x) (ey : ys[i]? = some y)
    (hQ : ∀ h' tk, IsPair h' s.heap.objs.size x y → h'.objs.size = s.heap.objs.size + 1 → ZpSt z TI TO i1 i2 l1 l2 S xs ys (i + 1) h' → (∀ c o, c ≠ z → c ≠ TO → c ≠ i1 → c ≠ i2 → s.heap.get? c = some o → h'.get? c = some o) → Q (some (.ref s.heap.objs.size)) { s with heap := h', toks := tk }) :
    wpAny (model prog w) A (pyNext (.ref z)) Q E s := by
  obtain ⟨hTI, h1, h2, hl1, hl2, hz⟩ := st
  have lt : ∀ {c o}, s.heap.get? c = some o → s.heap.objs.size ≠ c := fun e => Nat.ne_of_gt (Heap.lt_size e)
  have n1 : s.heap.objs.size ≠ i1 := let ⟨_, e, _⟩ := h1; lt e
  have n2 : s.heap.objs.size ≠ i2 := let ⟨_, e, _⟩ := h2; lt e
  rcases hz with ⟨hz, a, b, hTO⟩ | ⟨T, f, oT, hz, hT, r1, r2, r3, r4⟩
  · refine wpAny_pyNext_zip_item D hz hTI hTO h1 h2 hl1 hl2 ex ey fun h' a1 a2 a3 a4 a5 a6 hk => ?_
    exact hQ h' s.toks a5 a6 ⟨hk _ _ D.TIz D.TITO D.TIi1 D.TIi2 hTI, a3, a4, hl1.at fun o e => hk _ o D.l1z D.l1TO D.l1i1 D.l1i2 e, hl2.at fun o e => hk _ o D.l2z D.l2TO D.l2i1 D.l2i2 e,
        .inr ⟨s.heap.objs.size, false, _, a1, a5, lt hz, n1, n2, Nat.ne_of_gt hds⟩⟩ hk
  · refine wpAny_pyNext_zip_item_held D hz hT hTI h1 h2 hl1 hl2 ex ey fun h' a1 a3 a4 a5 a6 hk => ?_
    exact hQ h' s.toks a5 a6 ⟨hk _ _ D.TIz D.TIi1 D.TIi2 hTI, a3, a4, hl1.at fun o e => hk _ o D.l1z D.l1i1 D.l1i2 e, hl2.at fun o e => hk _ o D.l2z D.l2i1 D.l2i2 e,
        .inr ⟨T, true, oT, a1, hk _ _ r1 r2 r3 hT, r1, r2, r3, r4⟩⟩ fun c o c1 _ c3 c4 e => hk c o c1 c3 c4 e
theorem zp_done {Q : Option Value → Shared → Prop} (hh : A.handled = none) (D : ZipApart z TI TO i1 i2 l1 l2) (st : ZpSt z TI TO i1 i2 l1 l2 S xs ys i s.heap) (hend : xs[i]? = none ∨ ys[i]? = none)
    (hQ : ∀ h' tk, (∀ c o, c ≠ z → c ≠ TO → c ≠ i1 → c ≠ i2 → s.heap.get? c = some o → h'.get? c = some o) → Q none { s with heap := h', toks := tk }) : wpAny (model prog w) A (pyNext (.ref z)) Q E s := by
  obtain ⟨hTI, h1, h2, hl1, hl2, hz⟩ := st
  rcases hz with ⟨hz, a, b, hTO⟩ | ⟨T, f, oT, hz, hT, _⟩
  · exact wpAny_pyNext_zip_end hh D hz hTI hTO h1 h2 hl1 hl2 hend fun h' hk => hQ h' s.toks hk
  · exact wpAny_pyNext_zip_end_held hh D hz hT hTI h1 h2 hl1 hl2 hend fun h' hk => hQ h' s.toks fun c o c1 _ c3 c4 e => hk c o c1 c3 c4 e
end
/-- the new pairs so far -/
structure ZMade (xs ys : Array Value) (lo : Addr) (h : Heap) (as : List Addr) : Prop where
  rise : as.Pairwise (· < ·)
  above : ∀ a ∈ as, lo ≤ a ∧ a < h.objs.size
  pairs : ∀ (j : Nat) (a : Addr), as[j]? = some a → ∃ x y, xs[j]? = some x ∧ ys[j]? = some y ∧ IsPair h a x y
section
variable {prog : Program} {w : World} {A : Around} {s : Shared} {R : Result → Shared → Prop} {z TI TO i1 i2 l1 l2 S lo : Addr} {xs ys : Array Value}
theorem zip_loop (hh : A.handled = none) (D : ZipApart z TI TO i1 i2 l1 l2) (O : ZOff z TI TO i1 i2 l1 l2 S) (hn : min xs.size ys.size ≤ sizeLine) (res : Value) {h₁ : Heap} (hlo : S < lo ∧ z < lo ∧ TO < lo ∧ i1 < lo ∧ i2 < lo)
    (hR : ∀ h' tk acc c as, (∀ b o, b ≠ S → b ≠ z → b ≠ TO → b ≠ i1 → b ≠ i2 → h₁.get? b = some o → h'.get? b = some o) → h'.get? S = some { cls := .type "list", dict := none, data := .seq acc c, slots := #[] } → as.length = min xs.size ys.size → ZMade xs ys lo h' as →
      acc.toList = as.map Value.ref → R (.ok (.ret res)) { s with heap := h', toks := tk }) :
    ∀ (k i : Nat) (h : Heap) (tk c : Nat) (acc : Array Value) (as : List Addr), min xs.size ys.size - i = k → i ≤ min xs.size ys.size → ZpSt z TI TO i1 i2 l1 l2 S xs ys i h → (∀ b o, b ≠ S → b ≠ z → b ≠ TO → b ≠ i1 → b ≠ i2 → h₁.get? b = some o → h.get? b = some o) →
      h.get? S = some { cls := .type "list", dict := none, data := .seq acc c, slots := #[] } → acc.toList = as.map Value.ref → as.length = i → ZMade xs ys lo h as → lo ≤ h.objs.size →
      codeAny (model prog w) A (.builtin "list.extend.loop" ⟨[.ref S, .ref z, res], []⟩) R { s with heap := h, toks := tk } := by
  intro k
  induction k with
  | zero =>
    intro i h tk c acc as hk hi hst hkeep hS hacc hal hG hIs
    refine codeAny_builtin PySem.F.entry_extend_loop ?_
    rw [Around.under_plainId PySem.F.plain_extend_loop _]
    show wpAny _ A.in1 (pyNext (.ref z) >>= _) _ _ _
    have hend : xs[i]? = none ∨ ys[i]? = none := by
      rcases Nat.le_total xs.size ys.size with q | q
      · exact .inl (Array.getElem?_eq_none (by omega))
      · exact .inr (Array.getElem?_eq_none (by omega))
    refine wpAny_bind (zp_done (s := { s with heap := h, toks := tk }) (A := A.in1) hh D hst hend fun h' tk' he => ?_)
    obtain ⟨g1, g2, g3, g4, g5⟩ := hlo
    have far : ∀ a, lo ≤ a → a ≠ z ∧ a ≠ TO ∧ a ≠ i1 ∧ a ≠ i2 ∧ a ≠ S := fun a ha => ⟨Nat.ne_of_gt (Nat.lt_of_lt_of_le g2 ha), Nat.ne_of_gt (Nat.lt_of_lt_of_le g3 ha), Nat.ne_of_gt (Nat.lt_of_lt_of_le g4 ha), Nat.ne_of_gt (Nat.lt_of_lt_of_le g5 ha), Nat.ne_of_gt (Nat.lt_of_lt_of_le g1 ha)⟩
    refine wpAny_pure (hR h' tk' acc c as (fun b o n0 n1 n2 n3 n4 e => he b o n1 n2 n3 n4 (hkeep b o n0 n1 n2 n3 n4 e)) (he S _ O.z O.TO O.i1 O.i2 hS) (by omega) ⟨hG.rise, fun a ha => ?_, fun j a hj => ?_⟩ hacc)
    · obtain ⟨j, hj⟩ := List.mem_iff_getElem?.mp ha
      obtain ⟨x, y, _, _, e3⟩ := hG.pairs j a hj
      obtain ⟨f1, f2, f3, f4, _⟩ := far a (hG.above a ha).1
      exact ⟨(hG.above a ha).1, Heap.lt_size (he a _ f1 f2 f3 f4 e3)⟩
    · obtain ⟨x, y, e1, e2, e3⟩ := hG.pairs j a hj
      obtain ⟨f1, f2, f3, f4, _⟩ := far a (hG.above a (List.mem_of_getElem? hj)).1
      exact ⟨x, y, e1, e2, he a _ f1 f2 f3 f4 e3⟩
  | succ k ih =>
    intro i h tk c acc as hk hi hst hkeep hS hacc hal hG hIs
    have hlt : i < min xs.size ys.size := by omega
    have hix : i < xs.size := Nat.lt_of_lt_of_le hlt (Nat.min_le_left ..)
    have hiy : i < ys.size := Nat.lt_of_lt_of_le hlt (Nat.min_le_right ..)
    have hsz : acc.size = i := by rw [← Array.length_toList, hacc, List.length_map, hal]
    refine codeAny_builtin PySem.F.entry_extend_loop ?_
    rw [Around.under_plainId PySem.F.plain_extend_loop _]
    show wpAny _ A.in1 (pyNext (.ref z) >>= _) _ _ _
    have hSl : S < h.objs.size := Heap.lt_size hS
    have hbound : i + 1 ≤ sizeLine := Nat.le_trans (Nat.succ_le_of_lt hlt) hn
    refine wpAny_bind (zp_item (s := { s with heap := h, toks := tk }) (S := S) D hst hSl (Array.getElem?_eq_getElem hix) (Array.getElem?_eq_getElem hiy) fun h' tk' ht hz hst' hkp => ?_)
    dsimp only at ht hz hkp ⊢
    have hS' := hkp S _ O.z O.TO O.i1 O.i2 hS
    have up : ∀ b o, b ≠ S → h'.get? b = some o → (h'.update S (Obj.mapSeq (·.push (Value.ref h.objs.size)))).get? b = some o := fun b o hb e => (Heap.get?_update_other _ _ (Ne.symm hb)).trans e
    obtain ⟨g1, g2, g3, g4, g5⟩ := id hlo
    have far : ∀ a, lo ≤ a → a ≠ z ∧ a ≠ TO ∧ a ≠ i1 ∧ a ≠ i2 ∧ a ≠ S := fun a ha => ⟨Nat.ne_of_gt (Nat.lt_of_lt_of_le g2 ha), Nat.ne_of_gt (Nat.lt_of_lt_of_le g3 ha), Nat.ne_of_gt (Nat.lt_of_lt_of_le g4 ha), Nat.ne_of_gt (Nat.lt_of_lt_of_le g5 ha), Nat.ne_of_gt (Nat.lt_of_lt_of_le g1 ha)⟩
    have hus : (h'.update S (Obj.mapSeq (·.push (Value.ref h.objs.size)))).objs.size = h.objs.size + 1 := by rw [Heap.size_update, hz]
    show wpAny _ A.in1 (updateSeq S (·.push (Value.ref h.objs.size)) >>= _) _ _ _
    refine wpAny_bind ?_
    refine wpAny_updateSeq hS' rfl (wpAny_pure ⟨plainId_quiet PySem.F.plain_extend_loop _, ih (i + 1) _ tk' _ (acc.push (Value.ref h.objs.size)) (as ++ [h.objs.size]) (by omega) hlt (zp_frame O hst' up)
      (fun b o n0 n1 n2 n3 n4 e => up b o n0 (hkp b o n1 n2 n3 n4 (hkeep b o n0 n1 n2 n3 n4 e))) (Heap.get?_update_self _ hS' rfl) (by rw [Array.toList_push, hacc, List.map_append]; rfl) (by rw [List.length_append, hal]; rfl) ⟨List.pairwise_append.mpr ⟨hG.rise, List.pairwise_singleton _ _, fun a ha b hb => by rw [List.mem_singleton.mp hb]; exact (hG.above a ha).2⟩, ?_, ?_⟩ (by rw [hus]; exact Nat.le_succ_of_le hIs)⟩) (by rw [hsz]; omega) (by show (acc.push (Value.ref h.objs.size)).size ≤ sizeLine + 1; rw [Array.size_push, hsz]; omega)
    · intro a ha
      rw [hus]
      rcases List.mem_append.mp ha with ha | ha
      · exact ⟨(hG.above a ha).1, Nat.lt_succ_of_lt (hG.above a ha).2⟩
      · rw [List.mem_singleton.mp ha]
        exact ⟨hIs, Nat.lt_succ_self _⟩
    · intro j b hj
      rcases Nat.lt_trichotomy j as.length with h1 | h1 | h1
      · rw [List.getElem?_append_left h1] at hj
        obtain ⟨x, y, e1, e2, e3⟩ := hG.pairs j b hj
        obtain ⟨f1, f2, f3, f4, f5⟩ := far b (hG.above b (List.mem_of_getElem? hj)).1
        exact ⟨x, y, e1, e2, up b _ f5 (hkp b _ f1 f2 f3 f4 e3)⟩
      · subst h1
        have hb : h.objs.size = b := by simpa using hj
        subst hb
        subst hal
        exact ⟨_, _, Array.getElem?_eq_getElem hix, Array.getElem?_eq_getElem hiy, up _ _ (far _ hIs).2.2.2.2 ht⟩
      · have hnone : (as ++ [h.objs.size])[j]? = none := List.getElem?_eq_none (by rw [List.length_append, List.length_singleton]; omega)
        rw [hnone] at hj
        cases hj
end
theorem zip_no_len : typeLookup (.type "zip") "__len__" = pure none := by rw [typeLookup_type, builtinLookup_eq_fast]; kernel_rfl
theorem zip_no_hint : typeLookup (.type "zip") "__length_hint__" = pure none := by rw [typeLookup_type, builtinLookup_eq_fast]; kernel_rfl
section
variable {prog : Program} {w : World} {A : Around} {E : Value → Shared → Prop} {s : Shared} {z TI TO i1 i2 l1 l2 : Addr} {xs ys : Array Value}
theorem zip_extend {R : Result → Shared → Prop} (hh : A.handled = none) (D : ZipApart z TI TO i1 i2 l1 l2) (S : Addr) (O : ZOff z TI TO i1 i2 l1 l2 S) (hst : ZpSt z TI TO i1 i2 l1 l2 S xs ys 0 s.heap) (hn : min xs.size ys.size ≤ sizeLine) (res : Value) (c₀ : Nat)
    (hlt : S < s.heap.objs.size ∧ z < s.heap.objs.size ∧ TO < s.heap.objs.size ∧ i1 < s.heap.objs.size ∧ i2 < s.heap.objs.size) (hz0 : ∃ TI TO f0, IsZip s.heap z TI TO f0) (hS : s.heap.get? S = some { cls := .type "list", data := .seq #[] c₀ })
    (hR : ∀ h' tk acc c as, (∀ b o, b ≠ S → b ≠ z → b ≠ TO → b ≠ i1 → b ≠ i2 → s.heap.get? b = some o → h'.get? b = some o) → h'.get? S = some { cls := .type "list", dict := none, data := .seq acc c, slots := #[] } → as.length = min xs.size ys.size → ZMade xs ys s.heap.objs.size h' as →
      acc.toList = as.map Value.ref → R (.ok (.ret res)) { s with heap := h', toks := tk }) :
    wpAny (model prog w) A.in1 (Builtin.List.listExtendWith (.ref S) (.ref z) res)
      (fun fin s' => match fin with | .done f => R (.ok f) s' | .again c' => c'.quiet = true ∧ codeAny (model prog w) A c' R s') (fun e s' => R (.error e) s') s := by
  obtain ⟨_, _, _, hz0⟩ := hz0
  have hT : s.TypeIs (.ref z) "zip" := ⟨_, hz0, rfl⟩
  unfold Builtin.List.listExtendWith
  refine wpAny_bind (wpAny_typeOf (T := "zip") hT ?_)
  have h1 : Builtin.List.listSameRef (.ref S) (.ref z) = false := by simp [Builtin.List.listSameRef, O.z]
  have h2 : (Value.type "zip" == Value.type "list") = false := by decide
  have h3 : (Value.type "zip" == Value.type "tuple") = false := by decide
  simp only [h1, h2, h3, Bool.or_false, Bool.false_eq_true, if_false]
  refine wpAny_bind (wpAny_pyIter_zip hz0 ?_)
  refine wpAny_bind (wpAny_holding ?_)
  unfold Builtin.List.listLengthHint
  refine wpAny_bind (wpAny_specialOf hT zip_no_len ?_)
  show wpAny _ A.in1 (specialOf (Value.ref z) (Str.ofString "__length_hint__") >>= _) _ _ _
  refine wpAny_bind (wpAny_specialOf hT zip_no_hint ?_)
  refine wpAny_pure ?_
  show wpAny _ A.in1 (rule "list.extend.makes-room" >>= fun _ => Builtin.List.listTouch (.ref S) >>= fun _ => again (.builtin "list.extend.loop" ⟨[.ref S, .ref z, res], []⟩)) _ _ _
  refine wpAny_bind (wpAny_rule ?_)
  refine wpAny_bind ?_
  show wpAny _ A.in1 (updateSeq S (·.push .none) >>= fun _ => updateSeq S (·.pop)) _ _ _
  refine wpAny_bind (wpAny_updateSeq hS rfl ?_)
  have hS₂ := Heap.get?_update_self (Obj.mapSeq (·.push Value.none)) hS rfl
  refine wpAny_updateSeq (hz := by seq_fits) hS₂ rfl ?_
  have hS₃ := Heap.get?_update_self (Obj.mapSeq (·.pop)) hS₂ rfl
  have oth : ∀ b o, b ≠ S → s.heap.get? b = some o → ((s.heap.update S (Obj.mapSeq (·.push Value.none))).update S (Obj.mapSeq (·.pop))).get? b = some o :=
    fun b o hb e => (Heap.get?_update_other _ _ (Ne.symm hb)).trans ((Heap.get?_update_other _ _ (Ne.symm hb)).trans e)
  refine wpAny_pure ⟨plainId_quiet PySem.F.plain_extend_loop _, ?_⟩
  refine zip_loop (s := s) (h₁ := s.heap) (lo := s.heap.objs.size) hh D O hn res hlt hR _ 0 _ s.toks _ #[] [] (Nat.sub_zero _) (Nat.zero_le _) (zp_frame O hst oth) (fun b o n0 _ _ _ _ e => oth b o n0 e) hS₃ rfl rfl ⟨List.Pairwise.nil, (fun _ ha => absurd ha List.not_mem_nil), (fun j a hj => by simp at hj)⟩ ?_
  rw [Heap.size_update, Heap.size_update]
  exact Nat.le_refl _
end
theorem zip_init {prog : Program} {w : World} {A : Around} {s : Shared} {z TI TO i1 i2 l1 l2 : Addr} {xs ys : Array Value} {R : Result → Shared → Prop} (hh : A.handled = none) (D : ZipApart z TI TO i1 i2 l1 l2) (S : Addr) (O : ZOff z TI TO i1 i2 l1 l2 S) (hst : ZpSt z TI TO i1 i2 l1 l2 S xs ys 0 s.heap) (hn : min xs.size ys.size ≤ sizeLine)
    (hlt : S < s.heap.objs.size ∧ z < s.heap.objs.size ∧ TO < s.heap.objs.size ∧ i1 < s.heap.objs.size ∧ i2 < s.heap.objs.size) (hz0 : IsZip s.heap z TI TO .none) (hS : s.heap.get? S = some { cls := .type "list", data := .seq #[] })
    (hR : ∀ h' tk acc c as, (∀ b o, b ≠ S → b ≠ z → b ≠ TO → b ≠ i1 → b ≠ i2 → s.heap.get? b = some o → h'.get? b = some o) → h'.get? S = some { cls := .type "list", dict := none, data := .seq acc c, slots := #[] } → as.length = min xs.size ys.size → ZMade xs ys s.heap.objs.size h' as →
      acc.toList = as.map Value.ref → R (.ok (.ret .none)) { s with heap := h', toks := tk }) :
    wpAny (model prog w) A.in1 (Builtin.«list.__init__» ⟨[.ref S, .ref z], []⟩)
      (fun fin s' => match fin with | .done f => R (.ok f) s' | .again c' => c'.quiet = true ∧ codeAny (model prog w) A c' R s') (fun e s' => R (.error e) s') s := by
  show wpAny _ _ (do let old ← Builtin.List.listItems (.ref S); Builtin.List.listUpdate (.ref S) (fun _ => #[]); letGo old.toList.reverse; Builtin.List.listExtendWith (.ref S) (.ref z) .none) _ _ s
  refine wpAny_bind ?_
  unfold Builtin.List.listItems
  refine wpAny_bind (wpAny_seqItems hS rfl (wpAny_pure ?_))
  show wpAny _ _ (updateSeq S (fun _ => #[]) >>= fun _ => letGo (#[] : Array Value).toList.reverse >>= fun _ => Builtin.List.listExtendWith (.ref S) (.ref z) .none) _ _ s
  refine wpAny_bind (wpAny_updateSeq hS rfl ?_)
  have hS₂ := Heap.get?_update_self (Obj.mapSeq (fun _ => (#[] : Array Value))) hS rfl
  have oth : ∀ b o, b ≠ S → s.heap.get? b = some o → (s.heap.update S (Obj.mapSeq (fun _ => (#[] : Array Value)))).get? b = some o :=
    fun b o hb e => (Heap.get?_update_other _ _ (Ne.symm hb)).trans e
  have hsz : (s.heap.update S (Obj.mapSeq (fun _ => (#[] : Array Value)))).objs.size = s.heap.objs.size := Heap.size_update ..
  refine wpAny_bind (wpAny_letGo ?_)
  refine zip_extend hh D S O (zp_frame O hst oth) hn .none _ (by rw [hsz]; exact hlt) ⟨_, _, _, oth _ _ (Ne.symm O.z) hz0⟩ hS₂ fun h' tk acc c as hk hS' hl hG hacc => ?_
  rw [hsz] at hG
  exact hR h' tk acc c as (fun b o n0 n1 n2 n3 n4 e => hk b o n0 n1 n2 n3 n4 (oth b o n0 e)) hS' hl hG hacc
theorem call_listZip {prog : Program} {w : World} {A : Around} {E : Value → Shared → Prop} {s : Shared} {z TI TO i1 i2 l1 l2 : Addr} {xs ys : Array Value} {Q : Value → Shared → Prop} (hh : A.handled = none) (D : ZipApart z TI TO i1 i2 l1 l2) (hz : IsZip s.heap z TI TO .none) (hTI : IsPair s.heap TI (.ref i1) (.ref i2)) (hTO : ∃ a b, IsPair s.heap TO a b)
    (h1 : s.heap.IsListIter i1 l1 0) (h2 : s.heap.IsListIter i2 l2 0) (hl1 : s.heap.IsList l1 xs) (hl2 : s.heap.IsList l2 ys) (hn : min xs.size ys.size ≤ sizeLine)
    (hQ : ∀ h' tk acc c as, (∀ b o, b ≠ z → b ≠ TO → b ≠ i1 → b ≠ i2 → s.heap.get? b = some o → h'.get? b = some o) → h'.get? s.heap.objs.size = some { cls := .type "list", dict := none, data := .seq acc c, slots := #[] } → as.length = min xs.size ys.size → ZMade xs ys (s.heap.objs.size + 1) h' as →
      acc.toList = as.map Value.ref → Q (.ref s.heap.objs.size) { s with heap := h', toks := tk }) :
    wpAny (model prog w) A (call (.type "list") [.ref z]) Q E s := by
  refine callType_codes (Q₁ := fun obj s₁ => obj = .ref s.heap.objs.size ∧ s₁ = { s with heap := s.heap.push { cls := .type "list", data := .seq #[] } }) PySem.F.called_list (PySem.F.typeCall_list_1 _) PySem.F.entry_list_init
    (code_list_new _ ⟨rfl, rfl⟩) fun obj s₁ h₁ => ?_
  obtain ⟨rfl, rfl⟩ := h₁
  have hS : (s.heap.push { cls := .type "list", data := .seq #[] }).get? s.heap.objs.size = some { cls := .type "list", data := .seq #[] } := Heap.get?_push_size _ rfl
  have hsz : (s.heap.push { cls := .type "list", data := .seq #[] }).objs.size = s.heap.objs.size + 1 := Heap.size_push ..
  have lt : ∀ {c o}, s.heap.get? c = some o → c < s.heap.objs.size := fun e => Heap.lt_size e
  obtain ⟨a0, b0, hTO⟩ := hTO
  have zl := lt hz
  have TIl := lt hTI
  have TOl := lt hTO
  have i1l : i1 < s.heap.objs.size := let ⟨_, e, _⟩ := h1; lt e
  have i2l : i2 < s.heap.objs.size := let ⟨_, e, _⟩ := h2; lt e
  have l1l : l1 < s.heap.objs.size := let ⟨_, e, _⟩ := hl1; lt e
  have l2l : l2 < s.heap.objs.size := let ⟨_, e, _⟩ := hl2; lt e
  have O : ZOff z TI TO i1 i2 l1 l2 s.heap.objs.size := ⟨Nat.ne_of_gt zl, Nat.ne_of_gt TIl, Nat.ne_of_gt TOl, Nat.ne_of_gt i1l, Nat.ne_of_gt i2l, Nat.ne_of_gt l1l, Nat.ne_of_gt l2l⟩
  have up : ∀ b o, s.heap.get? b = some o → (s.heap.push { cls := .type "list", data := .seq #[] }).get? b = some o := fun b o e => Heap.get?_push_of_some _ e
  refine ⟨⟨_, hS, rfl⟩, PySem.F.args_list_init_2 _ _, zip_init (A := A.in1) hh D _ O ⟨up _ _ hTI, h1.at fun o e => up _ o e, h2.at fun o e => up _ o e, hl1.at fun o e => up _ o e, hl2.at fun o e => up _ o e, .inl ⟨up _ _ hz, a0, b0, up _ _ hTO⟩⟩ hn
    (by rw [hsz]; exact ⟨Nat.lt_succ_self _, Nat.lt_succ_of_lt zl, Nat.lt_succ_of_lt TOl, Nat.lt_succ_of_lt i1l, Nat.lt_succ_of_lt i2l⟩) (up _ _ hz) hS (fun h' tk acc c as hk hS' hl hG hacc => ?_)⟩
  rw [hsz] at hG
  exact ⟨rfl, hQ h' tk acc c as (fun b o n1 n2 n3 n4 e => hk b o (Nat.ne_of_lt (lt e)) n1 n2 n3 n4 (up b o e)) hS' hl hG hacc⟩
section
variable {X : Cx}
/-- list(zip(a, b)) of two lists -/
def tListZip (K : PySem.W.Frag) (ta : TA) : TE := fun σ H Q => ta σ H fun vs H1 => ∃ (l1 l2 : Addr) (xs ys : List V), vs = [.ref l1, .ref l2] ∧ SqL K H1 l1 xs ∧ SqL K H1 l2 ys ∧ xs.length ≤ 1000 ∧
  ∀ (p : Addr) (as : List Addr) (H' : Hp), Same H1 H' → H' p = some (.lst (as.map V.ref)) → H1 p = none → as.length = min xs.length ys.length → (∀ (j : Nat) (a : Addr), as[j]? = some a → ∃ x y, xs[j]? = some x ∧ ys[j]? = some y ∧ H' a = some (.tup [x, y])) → Q (.ref p) H'
theorem pe_listZip {e e2 : Expr} {ta : TA} {p1 p2 pos pos2 : Pos} (hc : X.calm = true) (hg : Gl X "list") (hm : X.mg "list" = none) (hg2 : Gl X "zip") (hm2 : X.mg "zip" = none) (ha : PA X [e, e2] ta)
    (hs : starEach [e, e2] X.env = (false, eval e X.env) :: starEach [e2] X.env := by rfl) (hpl : (backTo pos2 (starEach [e2] X.env)).any (·.1) = false := by rfl)
    (na : starEach [.Call (.Name "zip" p2) [e, e2] [] pos2] X.env = (false, eval (.Call (.Name "zip" p2) [e, e2] [] pos2) X.env) :: starEach [] X.env := by rfl) :
    PE X (.Call (.Name "list" p1) [.Call (.Name "zip" p2) [e, e2] [] pos2] [] pos) (tListZip X.K ta) := by
  refine ⟨fun pins s σ H Q I h => ?_⟩
  refine Call_ (ld_blt I hg hm boot_list (PyProof.Rows.callWith_type1 (args_cons ?_ na) na))
  refine Call_ (ld_blt I hg2 hm2 PyProof.Rows.boot_zip (PyProof.Rows.callWith_type1 (thn (ha.run pos2 pins s σ H _ I h) fun us s1 got => ?_) hs hpl))
  obtain ⟨vs, H1, I1, r1, l1, l2, xs, ys, rfl, hqx, hqy, hl, q⟩ := got
  cases r1 with
  | cons r rr =>
  cases rr with
  | cons r' rr =>
  cases rr
  cases r
  cases r'
  obtain ⟨its, rv, p1, _⟩ := I1.list hqx
  obtain ⟨its2, rv2, p2, _⟩ := I1.list hqy
  have la : l1 < s1.heap.objs.size := p1.lt
  have lb : l2 < s1.heap.objs.size := p2.lt
  refine call_zip_2 p1.isList p2.isList fun h1 hz hTI hTO hi1 hi2 hsz hk1 => PyProof.Rows.args_nil ?_
  have len1 := rv.length
  have len2 := rv2.length
  have mn : min its.toArray.size its2.toArray.size = min xs.length ys.length := by rw [List.size_toArray, List.size_toArray, len1, len2]
  refine call_listZip (s := { s1 with heap := h1 }) (I1.ok.hd hc) (PySem.W.ktu_apart s1.heap.objs.size l1 l2 la lb) hz hTI ⟨_, _, hTO⟩ hi1 hi2 (p1.isList.at fun o e => hk1 _ o e) (p2.isList.at fun o e => hk1 _ o e) (by rw [mn, sizeLine_eq]; omega) fun h2 tk acc c as hk2 hS hal hG hacc => ?_
  have kk : ∀ b o, s1.heap.get? b = some o → h2.get? b = some o := fun b o e => by
    have lt : b < s1.heap.objs.size := Heap.lt_size e
    exact hk2 b o (Nat.ne_of_lt (Nat.lt_of_lt_of_le lt (Nat.le_add_right _ _))) (Nat.ne_of_lt (Nat.lt_of_lt_of_le lt (Nat.le_add_right _ _))) (Nat.ne_of_lt lt) (Nat.ne_of_lt (Nat.lt_of_lt_of_le lt (Nat.le_add_right _ _))) (hk1 b o e)
  have szle : s1.heap.objs.size ≤ h1.objs.size := by
    show s1.heap.objs.size ≤ h1.objs.size
    rw [hsz]
    exact Nat.le_add_right _ _
  have hvals : Vals (as.map V.ref) acc.toList := by
    rw [hacc]
    clear hG hal hacc
    induction as with
    | nil => exact .nil
    | cons a as ih => exact .cons rfl ih
  have hall : as.length ≤ sizeLine := by
    rw [hal, mn, sizeLine_eq]
    omega
  have newS : ObjOk X.prog X.w (upd H1 h1.objs.size (.lst (as.map V.ref))) h2 h1.objs.size (.lst (as.map V.ref)) := by
    refine ⟨by rw [List.length_map]; exact hall, acc.toList, c, hvals, ?_⟩
    rw [Array.toArray_toList]
    exact hS
  have nS : H1 h1.objs.size = none := I1.hok.fresh szle
  have I2 : Inv X pins σ (upd H1 h1.objs.size (.lst (as.map V.ref))) { s1 with heap := h2, toks := tk } := I1.laid (t' := tk) kk szle newS
  obtain ⟨H2, I3, k3, ht⟩ := L2.DX.takeT (P := fun a vs => ∃ j x y, as[j]? = some a ∧ xs[j]? = some x ∧ ys[j]? = some y ∧ vs = [x, y]) I1 as _ I2 (hG.rise.imp fun h => Nat.ne_of_lt h) fun a ha => by
    obtain ⟨j, hj⟩ := List.mem_iff_getElem?.mp ha
    obtain ⟨x, y, e1, e2, e3⟩ := hG.pairs j a hj
    have e1 : its[j]? = some x := by simpa using e1
    have e2 : its2[j]? = some y := by simpa using e2
    have l1 : j < its.length := (List.getElem?_eq_some_iff.mp e1).1
    have l2 : j < its2.length := (List.getElem?_eq_some_iff.mp e2).1
    obtain ⟨u1, hu1, ru1⟩ := rv.get (List.getElem?_eq_getElem (l := xs) (i := j) (by omega))
    obtain ⟨u2, hu2, ru2⟩ := rv2.get (List.getElem?_eq_getElem (l := ys) (i := j) (by omega))
    rw [e1] at hu1
    rw [e2] at hu2
    cases hu1
    cases hu2
    have gt : h1.objs.size < a := Nat.lt_of_lt_of_le (Nat.lt_succ_self _) (hG.above a ha).1
    have ge : s1.heap.objs.size ≤ a := Nat.le_trans szle (Nat.le_of_lt gt)
    exact ⟨ge, by rw [upd_ne (Nat.ne_of_gt gt)]; exact I1.hok.fresh ge, _, ⟨j, _, _, hj, List.getElem?_eq_getElem _, List.getElem?_eq_getElem _, rfl⟩, fun H2 => ⟨by show 2 ≤ sizeLine; decide, [x, y], .cons ru1 (.cons ru2 .nil), ⟨_, e3, rfl, _, rfl⟩⟩⟩
  refine ⟨.ref h1.objs.size, H2, I3, rfl, q h1.objs.size as H2 (fun b o e => k3 b o (by rw [upd_ne (ne_of_none e nS)]; exact e)) (k3 _ _ upd_same) nS (by rw [hal, mn]) fun j a hj => ?_⟩
  obtain ⟨vs, ⟨j', x, y, h1', h2', h3', rfl⟩, hH⟩ := ht a (List.mem_of_getElem? hj)
  have nd : as.Nodup := hG.rise.imp fun h => Nat.ne_of_lt h
  have ej : j' = j := (List.getElem?_inj (List.getElem?_eq_some_iff.mp h1').1 nd).mp (h1'.trans hj.symm)
  subst ej
  exact ⟨x, y, h2', h3', hH⟩
end
end Pk
set_option maxHeartbeats 1000000
namespace Pk
open PySem PySem.Spec PyProof.Rows L2
/-! ### drawn plans -/
theorem LSt.fresh {z l : Addr} {t : Nat} {H : Hp} {p : Addr} (h : LSt z l t H) (n : H p = none) : p ≠ z ∧ p ≠ l :=
  let ⟨_, _, _, _, _, h1, h2, _⟩ := h.ex
  ⟨Ne.symm (ne_of_none h1 n), Ne.symm (ne_of_none h2 n)⟩
def rg (n : Nat) : List Int := (List.range n).map fun i : Nat => (i : Int)
theorem rgV_eq (n : Nat) : rgV 0 (n : Int) = (rg n).map V.int := by
  unfold rgV rg
  rw [List.map_map, Int.sub_zero, Int.toNat_natCast]
  refine List.map_congr_left fun i _ => ?_
  show V.int (0 + (i : Int)) = V.int i
  rw [Int.zero_add]
theorem rg_len (n : Nat) : (rg n).length = n := by
  unfold rg
  rw [List.length_map, List.length_range]
theorem rg_nodup (n : Nat) : (rg n).Nodup := by
  unfold rg
  refine List.pairwise_map.mpr ?_
  have h : (List.range n).Pairwise (· ≠ ·) := List.nodup_range
  exact h.imp fun {a b} ne e => ne (by have e : (a : Int) = b := e; omega)
theorem rg_mem {n : Nat} {x : Int} (h : x ∈ rg n) : 0 ≤ x ∧ x < n := by
  unfold rg at h
  obtain ⟨i, hi, e⟩ := List.mem_map.mp h
  have := List.mem_range.mp hi
  omega
theorem okD_ints (l : List Int) : okD (l.map PyData.int) := fun d hd => by
  obtain ⟨i, _, rfl⟩ := List.mem_map.mp hd
  exact ⟨by simp [PyData.canLay0], by simp [PyData.depth]⟩
theorem okD_prs (m : List Pair) : okD (m.map prD) := fun d hd => by
  obtain ⟨p, _, rfl⟩ := List.mem_map.mp hd
  exact ⟨lay_pr p, by rw [dep_pr]; omega⟩
theorem cutV_to (xs : List V) (k : Nat) : cutV xs none (some (k : Int)) = xs.take k := by
  unfold cutV
  rw [HT.sIx_none, HT.sIx_nat, List.drop_zero, Nat.sub_zero]
  by_cases h : k ≤ xs.length
  · rw [Nat.min_eq_left h]
  · rw [Nat.min_eq_right (by omega), List.take_length, List.take_of_length_le (by omega)]
/-- persons and desks put together -/
theorem zip_plan {ps ds : List Int} (hp : ps.Nodup) (hd : ds.Nodup) (h : ∀ x, x ∈ ps ∨ x ∈ ds → 0 ≤ x ∧ x ≤ 7) (e : ps.length = ds.length) : Plan (sortP (ps.zip ds)) where
  rng := fun p hpm => by
    have := (sortP_perm _).subset hpm
    exact ⟨h p.1 (.inl (List.of_mem_zip this).1), h p.2 (.inr (List.of_mem_zip this).2)⟩
  asc := sortP_asc _
  ap := by
    refine ⟨((sortP_perm _).map _).nodup_iff.mpr ?_, ((sortP_perm _).map _).nodup_iff.mpr ?_⟩
    · have : (ps.zip ds).map (·.1) = ps := List.map_fst_zip (by omega)
      rw [this]
      exact hp
    · have : (ps.zip ds).map (·.2) = ds := List.map_snd_zip (by omega)
      rw [this]
      exact hd
theorem sub_plan {m m' : List Pair} (h : Plan m) (s : ∀ p, p ∈ m' → p ∈ m) (n1 : (m'.map (·.1)).Nodup) (n2 : (m'.map (·.2)).Nodup) : Plan (sortP m') where
  rng := fun p hp => h.rng p (s p ((sortP_perm _).subset hp))
  asc := sortP_asc _
  ap := ⟨((sortP_perm _).map _).nodup_iff.mpr n1, ((sortP_perm _).map _).nodup_iff.mpr n2⟩
/-- the list of pairs that zip made, as data -/
theorem zip_data {H : Hp} {ps ds : List Int} {as : List Addr} (hl : as.length = min ps.length ds.length) (h : ∀ (j : Nat) (a : Addr), as[j]? = some a → ∃ x y, (ps.map V.int)[j]? = some x ∧ (ds.map V.int)[j]? = some y ∧ H a = some (.tup [x, y])) : DtAll H (as.map V.ref) ((ps.zip ds).map prD) := by
  induction as generalizing ps ds with
  | nil =>
    have : ps.zip ds = [] := List.eq_nil_of_length_eq_zero (by rw [List.length_zip]; exact hl.symm)
    rw [this]
    exact .nil
  | cons a as ih =>
    match ps, ds, hl, h with
    | p :: ps, d :: ds, hl, h =>
      obtain ⟨x, y, h1, h2, h3⟩ := h 0 a rfl
      have h1 : V.int p = x := Option.some.inj h1
      have h2 : V.int d = y := Option.some.inj h2
      subst h1 h2
      refine .cons (dt_mk h3) (ih (by simp only [List.length_cons] at hl ⊢; omega) fun j a hj => h (j + 1) a (by simpa using hj))
    | [], _, hl, _ => simp at hl
    | _ :: _, [], hl, _ => simp at hl
def sp_law_plan : Sp := fun vs H Q _ => ∃ (z l : Addr) (t many most : Nat), vs = [.ref z, .int many, .int most] ∧ LSt z l t H ∧ t + 2 * most ≤ 1000000 ∧ most ≤ 8 ∧
  ∀ v m H', SZ z l H H' → LSt z l (t + 2 * most) H' → Dt H' v (plD m) → Plan m → m.length = min many most → Q v H'
def sp_law_any_plan : Sp := fun vs H Q _ => ∃ (z l : Addr) (t most : Nat), vs = [.ref z, .int most] ∧ LSt z l t H ∧ t + 2 * most + 1 ≤ 1000000 ∧ most ≤ 8 ∧ ∀ v m H', SZ z l H H' → LSt z l (t + 2 * most + 1) H' → Dt H' v (plD m) → Plan m → Q v H'
def sp_law_sub : Sp := fun vs H Q _ => ∃ (z l : Addr) (t : Nat) (v : V) (m : List Pair) (many : Nat), vs = [.ref z, v, .int many] ∧ LSt z l t H ∧ t + 8 ≤ 1000000 ∧ Dt H v (plD m) ∧ Plan m ∧ many ≤ m.length ∧
  ∀ v m' H', SZ z l H H' → LSt z l (t + 8) H' → Dt H' v (plD m') → Plan m' → m'.length = many → Q v H'
section
variable {P : Program} {w : World} {K : PySem.W.Frag} {mg : Str → Option Value} {base : Heap}
theorem ok_law_plan {f : Addr} {fd : FuncData} (F : Fun K "_law_plan" "_law_plan" s__law_plan f fd) (G : Glob mg) (C_law_mixed : Cal P w K mg base CX0 2 "_law_mixed" ["_law_state", "_law_several"] sp_law_mixed) :
    FnOk P w K mg base CX0 3 f fd ["_law_state", "_law_many", "_law_most"] sp_law_plan := by
  refine F.ok c__law_plan (fun vs H Q E h => ?_) (fun cdv A0 outer s H vs Q E hr h => ?_)
  · obtain ⟨z, l, t, many, most, rfl, _⟩ := h
    rfl
  · obtain ⟨z, l, t, many, most, rfl, hst, ht, hm, q⟩ := h
    refine ⟨_, 
      (pss_cons (ps_par (i := 3) (j := 4) rfl c__law_plan.nd rfl rfl (by decide) rfl rfl (pa_cons (pe_slice (slL K) (pe_cal C_law_mixed hr pass0 (pa_cons (pv 0) (pa_cons (pe_listRg rfl rfl G.list (prg_1 rfl G.range (pv 2))) pa_nil))) po_none (po_some (pv 1))) (pa_cons (pe_slice (slL K) (pe_cal C_law_mixed hr pass0 (pa_cons (pv 0) (pa_cons (pe_listRg rfl rfl G.list (prg_1 rfl G.range (pv 2))) pa_nil))) po_none (po_some (pv 1))) pa_nil)) (by rfl))
      (pss_one (ps_ret (pe_tupleOf rfl G.tuple (pe_callB (cr_sortDt hr.units) (by rfl) G.sorted boot_sorted (pa_cons (pe_listZip rfl rfl G.list rfl G.zip (pa_cons (pv 3) (pa_cons (pv 4) pa_nil))) pa_nil)))))), ?_⟩
    have hrl : (rgV 0 (most : Int)).length = most := by rw [rgV_eq, List.length_map, rg_len]
    have hrd : ∀ H' : Hp, DtAll H' (rgV 0 (most : Int)) ((rg most).map PyData.int) := fun H' => by
      rw [rgV_eq]
      exact DtAll.of_ints _
    -- persons
    refine ⟨.ref z, rfl, .int most, rfl, most, rfl, RgOk.of_le (by omega) (by omega) (by omega) (by omega), fun a na => ?_⟩
    have s1 := same_new (o := HO.lst (rgV 0 (most : Int))) na
    refine ⟨z, l, t, a, _, _, rfl, hst.same s1, by rw [hrl]; omega, .inl ⟨upd_same, (hst.fresh na).2⟩, hrd _, okD_ints _, by rw [hrl]; omega, fun p1 ys es H1 sz1 st1 hp1 _ hd1 hpm1 => ?_⟩
    rw [hrl] at st1
    obtain ⟨ps, hps, rfl⟩ := perm_map _ es (rg most) hpm1
    have e1 := hd1.ints
    subst e1
    refine ⟨.int many, rfl, many, rfl, p1, _, rfl, SqL.of hp1, fun c1 nc1 => ?_⟩
    have s2 := same_new (o := HO.lst (cutV (ps.map V.int) none (some (many : Int)))) nc1
    have hc1 := upd_same (H := H1) (a := c1) (o := HO.lst (cutV (ps.map V.int) none (some (many : Int))))
    have sz2 := (SZ.of s1).trans (sz1.trans (SZ.of s2))
    have st2 := st1.same s2
    have fc1 := st1.fresh nc1
    generalize upd H1 c1 (HO.lst (cutV (ps.map V.int) none (some (many : Int)))) = H2 at hc1 sz2 st2 ⊢
    rw [cutV_to, ← List.map_take] at hc1
    -- desks
    refine ⟨.ref z, rfl, .int most, rfl, most, rfl, RgOk.of_le (by omega) (by omega) (by omega) (by omega), fun a2 na2 => ?_⟩
    have s3 := same_new (o := HO.lst (rgV 0 (most : Int))) na2
    refine ⟨z, l, t + most, a2, _, _, rfl, st2.same s3, by rw [hrl]; omega, .inl ⟨upd_same, (st2.fresh na2).2⟩, hrd _, okD_ints _, by rw [hrl]; omega, fun p2 ys es H3 sz3 st3 hp2 _ hd2 hpm2 => ?_⟩
    rw [hrl] at st3
    obtain ⟨ds, hds, rfl⟩ := perm_map _ es (rg most) hpm2
    have e2 := hd2.ints
    subst e2
    have hc1 := sz3.k _ _ fc1.1 fc1.2 (s3 _ _ hc1)
    refine ⟨.int many, rfl, many, rfl, p2, _, rfl, SqL.of hp2, fun c2 nc2 => ?_⟩
    have s4 := same_new (o := HO.lst (cutV (ds.map V.int) none (some (many : Int)))) nc2
    have hc2 := upd_same (H := H3) (a := c2) (o := HO.lst (cutV (ds.map V.int) none (some (many : Int))))
    have sz4 := sz2.trans ((SZ.of s3).trans (sz3.trans (SZ.of s4)))
    have st4 := st3.same s4
    have hc1 := s4 _ _ hc1
    generalize upd H3 c2 (HO.lst (cutV (ds.map V.int) none (some (many : Int)))) = H4 at hc1 hc2 sz4 st4 ⊢
    rw [cutV_to, ← List.map_take] at hc2
    have lp : ps.length = most := by rw [hps.length_eq, rg_len]
    have ld : ds.length = most := by rw [hds.length_eq, rg_len]
    have lp2 : (ps.take many).length = min many most := by rw [List.length_take, lp]
    have ld2 : (ds.take many).length = min many most := by rw [List.length_take, ld]
    refine ⟨_, _, rfl, ?_⟩
    -- the pairs
    refine ⟨.ref c1, rfl, .ref c2, rfl, c1, c2, _, _, rfl, SqL.of hc1, SqL.of hc2, by rw [List.length_map]; omega, fun zp as H5 s5 hzp nzp hal has => ?_⟩
    have hdz := zip_data (by rw [hal, List.length_map, List.length_map]) has
    have hzl : ((ps.take many).zip (ds.take many)).length = min many most := by rw [List.length_zip, lp2, ld2, Nat.min_self]
    refine ⟨Pair, prD, zp, _, _, rfl, .inl (SqL.of hzp), hdz, alike_prs _, sortable_prs _, (fun b _ => by rw [dep_pr]; decide), by rw [hzl]; omega, fun so ys nso hys => ?_⟩
    rw [leP_data] at hys
    refine .inl ⟨so, ys, rfl, SqL.of upd_same, fun r nr => ?_⟩
    have s6 := (same_new (o := HO.lst ys) nso).trans (same_new (o := HO.tup ys) nr)
    have hpl : Plan (sortP ((ps.take many).zip (ds.take many))) := zip_plan ((hps.nodup_iff.mpr (rg_nodup most)).sublist (List.take_sublist _ _)) ((hds.nodup_iff.mpr (rg_nodup most)).sublist (List.take_sublist _ _)) (fun x hx => by
      have : x ∈ rg most := hx.elim (fun h => hps.subset (List.mem_of_mem_take h)) fun h => hds.subset (List.mem_of_mem_take h)
      have := rg_mem this
      omega) (by omega)
    refine q _ _ _ (sz4.trans (SZ.of (s5.trans s6))) ((st4.same (s5.trans s6)).up (by omega)) (.tup upd_same (hys.tmono (tk_same s6))) hpl ((sortP_perm _).length_eq.trans hzl)
theorem ok_law_any_plan {f : Addr} {fd : FuncData} (F : Fun K "_law_any_plan" "_law_any_plan" s__law_any_plan f fd) (G : Glob mg) (C_law_draw : Cal P w K mg base CX0 1 "_law_draw" ["_law_state", "_law_size_here"] sp_law_draw)
    (C_law_plan : Cal P w K mg base CX0 3 "_law_plan" ["_law_state", "_law_many", "_law_most"] sp_law_plan) : FnOk P w K mg base CX0 4 f fd ["_law_state", "_law_most"] sp_law_any_plan := by
  refine F.ok c__law_any_plan (fun vs H Q E h => ?_) (fun cdv A0 outer s H vs Q E hr h => ?_)
  · obtain ⟨z, l, t, most, rfl, _⟩ := h
    rfl
  · obtain ⟨z, l, t, most, rfl, hst, ht, hm, q⟩ := h
    refine ⟨_, 
      (pss_one (ps_ret (pe_cal C_law_plan hr pass0 (pa_cons (pv 0) (pa_cons (pe_cal C_law_draw hr pass0 (pa_cons (pv 0) (pa_cons (pe_op op_add (pv 1) pe_int) pa_nil))) (pa_cons (pv 1) pa_nil)))))), ?_⟩
    refine ⟨.ref z, rfl, .ref z, rfl, .int most, rfl, most, 1, rfl, rfl, z, l, t, (most : Int) + 1, rfl, hst, by omega, by omega, fun r H1 hr1 s1 st1 => ?_⟩
    refine ⟨.int most, rfl, z, l, t + 1, r.toNat, most, ?_, st1, by omega, hm, fun v m H2 s2 st2 hd hp _ => q v m H2 (s1.trans s2) (st2.up (by omega)) hd hp⟩
    rw [Int.toNat_of_nonneg hr1.1]
    rfl
theorem ok_law_sub {f : Addr} {fd : FuncData} (F : Fun K "_law_sub" "_law_sub" s__law_sub f fd) (G : Glob mg) (C_law_mixed : Cal P w K mg base CX0 2 "_law_mixed" ["_law_state", "_law_several"] sp_law_mixed) :
    FnOk P w K mg base CX0 3 f fd ["_law_state", "_law_told", "_law_many"] sp_law_sub := by
  refine F.ok c__law_sub (fun vs H Q E h => ?_) (fun cdv A0 outer s H vs Q E hr h => ?_)
  · obtain ⟨z, l, t, v, m, many, rfl, _⟩ := h
    rfl
  · obtain ⟨z, l, t, v, m, many, rfl, hst, ht, hd, hp, hmany, q⟩ := h
    refine ⟨_, 
      (pss_one (ps_ret (pe_tupleOf rfl G.tuple (pe_callB (cr_sortDt hr.units) (by rfl) G.sorted boot_sorted (pa_cons (pe_slice (slL K) (pe_cal C_law_mixed hr pass0 (pa_cons (pv 0) (pa_cons (pe_callTy call_list_of (by rfl) G.list (by decide +kernel) (pa_cons (pv 1) pa_nil)) pa_nil))) po_none (po_some (pv 2))) pa_nil))))), ?_⟩
    obtain ⟨T, xs, rfl, hT, hxs, hxl⟩ := dt_plan hd
    have h8 := hp.len8
    refine ⟨.ref z, rfl, .ref T, rfl, T, xs, rfl, .inr (SqT.of hT), fun a na => ?_⟩
    have s1 := same_new (o := HO.lst xs) na
    refine ⟨z, l, t, a, xs, m.map prD, rfl, hst.same s1, by omega, .inl ⟨upd_same, (hst.fresh na).2⟩, hxs.tmono (tk_same s1), okD_prs m, by omega, fun p1 ys es H1 sz1 st1 hp1 _ hd1 hpm1 => ?_⟩
    obtain ⟨m1, hm1, rfl⟩ := perm_map _ es m hpm1
    refine ⟨.int many, rfl, many, rfl, p1, _, rfl, SqL.of hp1, fun c1 nc1 => ?_⟩
    have s2 := same_new (o := HO.lst (cutV ys none (some (many : Int)))) nc1
    have hc1 := upd_same (H := H1) (a := c1) (o := HO.lst (cutV ys none (some (many : Int))))
    have sz2 := (SZ.of s1).trans (sz1.trans (SZ.of s2))
    have st2 := st1.same s2
    have hd2 := hd1.tmono (tk_same s2)
    generalize upd H1 c1 (HO.lst (cutV ys none (some (many : Int)))) = H2 at hc1 sz2 st2 hd2 ⊢
    rw [cutV_to] at hc1
    have hcut : DtAll H2 (ys.take many) ((m1.take many).map prD) := by
      have e : ys = ys.take many ++ ys.drop many := (List.take_append_drop many ys).symm
      have e2 : m1.map prD = (m1.take many).map prD ++ (m1.drop many).map prD := by rw [← List.map_append, List.take_append_drop]
      rw [e2] at hd2
      obtain ⟨u, v, huv, hu, hv⟩ := hd2.split
      have hul : u.length = (ys.take many).length := by
        have h1 := hu.len
        have h2 := hd1.len
        rw [List.length_map, List.length_take] at h1
        rw [List.length_map] at h2
        rw [List.length_take, h1, h2]
      have : u = ys.take many := by
        have := List.append_inj_left (huv.symm.trans e) hul
        exact this
      rw [← this]
      exact hu
    have hlt : (m1.take many).length = many := by
      rw [List.length_take, hm1.length_eq]
      omega
    refine ⟨Pair, prD, c1, _, m1.take many, rfl, .inl (SqL.of hc1), hcut, alike_prs _, sortable_prs _, (fun b _ => by rw [dep_pr]; decide), by omega, fun so ys2 nso hys => ?_⟩
    rw [leP_data] at hys
    refine .inl ⟨so, ys2, rfl, SqL.of upd_same, fun r nr => ?_⟩
    have s6 := (same_new (o := HO.lst ys2) nso).trans (same_new (o := HO.tup ys2) nr)
    have sub : ∀ p, p ∈ m1.take many → p ∈ m := fun p hpp => hm1.subset (List.mem_of_mem_take hpp)
    have n1 : ((m1.take many).map (·.1)).Nodup := ((hm1.map _).nodup_iff.mpr hp.ap.1).sublist ((List.take_sublist _ _).map _)
    have n2 : ((m1.take many).map (·.2)).Nodup := ((hm1.map _).nodup_iff.mpr hp.ap.2).sublist ((List.take_sublist _ _).map _)
    refine q _ (sortP (m1.take many)) _ (sz2.trans (SZ.of s6)) ((st2.same s6).up (by omega)) (.tup upd_same (hys.tmono (tk_same s6))) (sub_plan hp sub n1 n2) ((sortP_perm _).length_eq.trans hlt)
end
end Pk
set_option maxHeartbeats 1000000
namespace Pk
open PySem PySem.Spec PyProof.Rows L2
def sp_law_ring_in : Sp := fun vs H Q _ => ∃ (z l : Addr) (t many wide : Nat), vs = [.ref z, .int many, .int wide] ∧ LSt z l t H ∧ t + 2 * wide ≤ 1000000 ∧ wide ≤ 8 ∧ many ≤ wide ∧
  ∀ p v1 v2 m1 m2 H', SZ z l H H' → LSt z l (t + 2 * wide) H' → H' p = some (.tup [v1, v2]) → Dt H' v1 (plD m1) → Dt H' v2 (plD m2) → Plan m1 → Plan m2 → m1.length = many → m2.length = many → Q (.ref p) H'
theorem rot_perm (l : List Int) : (l.drop 1 ++ l.take 1).Perm l := by
  have h : (l.take 1 ++ l.drop 1) = l := List.take_append_drop 1 l
  have := List.perm_append_comm (l₁ := l.drop 1) (l₂ := l.take 1)
  rwa [h] at this
section
variable {P : Program} {w : World} {K : PySem.W.Frag} {mg : Str → Option Value} {base : Heap}
theorem ok_law_ring_in {f : Addr} {fd : FuncData} (F : Fun K "_law_ring_in" "_law_ring_in" s__law_ring_in f fd) (G : Glob mg) (C_law_mixed : Cal P w K mg base CX0 2 "_law_mixed" ["_law_state", "_law_several"] sp_law_mixed) :
    FnOk P w K mg base CX0 3 f fd ["_law_state", "_law_many", "_law_wide"] sp_law_ring_in := by
  refine F.ok c__law_ring_in (fun vs H Q E h => ?_) (fun cdv A0 outer s H vs Q E hr h => ?_)
  · obtain ⟨z, l, t, many, wide, rfl, _⟩ := h
    rfl
  · obtain ⟨z, l, t, many, wide, rfl, hst, ht, hm, hmw, q⟩ := h
    refine ⟨_, 
      (pss_cons (ps_par (i := 3) (j := 4) rfl c__law_ring_in.nd rfl rfl (by decide) rfl rfl (pa_cons (pe_slice (slL K) (pe_cal C_law_mixed hr pass0 (pa_cons (pv 0) (pa_cons (pe_listRg rfl rfl G.list (prg_1 rfl G.range (pv 2))) pa_nil))) po_none (po_some (pv 1))) (pa_cons (pe_slice (slL K) (pe_cal C_law_mixed hr pass0 (pa_cons (pv 0) (pa_cons (pe_listRg rfl rfl G.list (prg_1 rfl G.range (pv 2))) pa_nil))) po_none (po_some (pv 1))) pa_nil)) (by rfl))
      (pss_one (ps_ret (pe_tup (pa_cons (pe_tupleOf rfl G.tuple (pe_callB (cr_sortDt hr.units) (by rfl) G.sorted boot_sorted (pa_cons (pe_listZip rfl rfl G.list rfl G.zip (pa_cons (pv 3) (pa_cons (pv 4) pa_nil))) pa_nil))) (pa_cons (pe_tupleOf rfl G.tuple (pe_callB (cr_sortDt hr.units) (by rfl) G.sorted boot_sorted (pa_cons (pe_listZip rfl rfl G.list rfl G.zip (pa_cons (pv 3) (pa_cons (pe_op op_cat (pe_slice (slL K) (pv 4) (po_some pe_int) po_none) (pe_slice (slL K) (pv 4) po_none (po_some pe_int))) pa_nil))) pa_nil))) pa_nil)))))), ?_⟩
    have hrl : (rgV 0 (wide : Int)).length = wide := by rw [rgV_eq, List.length_map, rg_len]
    have hrd : ∀ H' : Hp, DtAll H' (rgV 0 (wide : Int)) ((rg wide).map PyData.int) := fun H' => by
      rw [rgV_eq]
      exact DtAll.of_ints _
    -- persons
    refine ⟨.ref z, rfl, .int wide, rfl, wide, rfl, RgOk.of_le (by omega) (by omega) (by omega) (by omega), fun a na => ?_⟩
    have s1 := same_new (o := HO.lst (rgV 0 (wide : Int))) na
    refine ⟨z, l, t, a, _, _, rfl, hst.same s1, by rw [hrl]; omega, .inl ⟨upd_same, (hst.fresh na).2⟩, hrd _, okD_ints _, by rw [hrl]; omega, fun p1 ys es H1 sz1 st1 hp1 _ hd1 hpm1 => ?_⟩
    rw [hrl] at st1
    obtain ⟨ps, hps, rfl⟩ := perm_map _ es (rg wide) hpm1
    have e1 := hd1.ints
    subst e1
    refine ⟨.int many, rfl, many, rfl, p1, _, rfl, SqL.of hp1, fun c1 nc1 => ?_⟩
    have s2 := same_new (o := HO.lst (cutV (ps.map V.int) none (some (many : Int)))) nc1
    have hc1 := upd_same (H := H1) (a := c1) (o := HO.lst (cutV (ps.map V.int) none (some (many : Int))))
    have sz2 := (SZ.of s1).trans (sz1.trans (SZ.of s2))
    have st2 := st1.same s2
    have fc1 := st1.fresh nc1
    generalize upd H1 c1 (HO.lst (cutV (ps.map V.int) none (some (many : Int)))) = H2 at hc1 sz2 st2 ⊢
    rw [cutV_to, ← List.map_take] at hc1
    -- desks
    refine ⟨.ref z, rfl, .int wide, rfl, wide, rfl, RgOk.of_le (by omega) (by omega) (by omega) (by omega), fun a2 na2 => ?_⟩
    have s3 := same_new (o := HO.lst (rgV 0 (wide : Int))) na2
    refine ⟨z, l, t + wide, a2, _, _, rfl, st2.same s3, by rw [hrl]; omega, .inl ⟨upd_same, (st2.fresh na2).2⟩, hrd _, okD_ints _, by rw [hrl]; omega, fun p2 ys es H3 sz3 st3 hp2 _ hd2 hpm2 => ?_⟩
    rw [hrl] at st3
    obtain ⟨ds, hds, rfl⟩ := perm_map _ es (rg wide) hpm2
    have e2 := hd2.ints
    subst e2
    have hc1 := sz3.k _ _ fc1.1 fc1.2 (s3 _ _ hc1)
    refine ⟨.int many, rfl, many, rfl, p2, _, rfl, SqL.of hp2, fun c2 nc2 => ?_⟩
    have s4 := same_new (o := HO.lst (cutV (ds.map V.int) none (some (many : Int)))) nc2
    have hc2 := upd_same (H := H3) (a := c2) (o := HO.lst (cutV (ds.map V.int) none (some (many : Int))))
    have sz4 := sz2.trans ((SZ.of s3).trans (sz3.trans (SZ.of s4)))
    have st4 := st3.same s4
    have hc1 := s4 _ _ hc1
    generalize upd H3 c2 (HO.lst (cutV (ds.map V.int) none (some (many : Int)))) = H4 at hc1 hc2 sz4 st4 ⊢
    rw [cutV_to, ← List.map_take] at hc2
    have lp : ps.length = wide := by rw [hps.length_eq, rg_len]
    have ld : ds.length = wide := by rw [hds.length_eq, rg_len]
    have lp2 : (ps.take many).length = min many wide := by rw [List.length_take, lp]
    have ld2 : (ds.take many).length = min many wide := by rw [List.length_take, ld]
    refine ⟨_, _, rfl, ?_⟩
    have hin : ∀ x, x ∈ ps.take many ∨ x ∈ ds.take many → 0 ≤ x ∧ x ≤ 7 := fun x hx => by
      have : x ∈ rg wide := hx.elim (fun h => hps.subset (List.mem_of_mem_take h)) fun h => hds.subset (List.mem_of_mem_take h)
      have := rg_mem this
      omega
    have np : (ps.take many).Nodup := (hps.nodup_iff.mpr (rg_nodup wide)).sublist (List.take_sublist _ _)
    have nd : (ds.take many).Nodup := (hds.nodup_iff.mpr (rg_nodup wide)).sublist (List.take_sublist _ _)
    have lp3 : (ps.take many).length = many := by omega
    have ld3 : (ds.take many).length = many := by omega
    generalize ps.take many = pz at *
    generalize ds.take many = dz at *
    -- the first plan
    refine ⟨.ref c1, rfl, .ref c2, rfl, c1, c2, _, _, rfl, SqL.of hc1, SqL.of hc2, by rw [List.length_map]; omega, fun zp as H5 s5 hzp nzp hal has => ?_⟩
    have hdz := zip_data (by rw [hal, List.length_map, List.length_map]) has
    have hzl : (pz.zip dz).length = many := by rw [List.length_zip, lp3, ld3, Nat.min_self]
    refine ⟨Pair, prD, zp, _, _, rfl, .inl (SqL.of hzp), hdz, alike_prs _, sortable_prs _, (fun b _ => by rw [dep_pr]; decide), by rw [hzl]; omega, fun so ys nso hys => ?_⟩
    rw [leP_data] at hys
    refine .inl ⟨so, ys, rfl, SqL.of upd_same, fun r nr => ?_⟩
    have s6 := (same_new (o := HO.lst ys) nso).trans (same_new (o := HO.tup ys) nr)
    have hr1 := upd_same (H := upd H5 so (.lst ys)) (a := r) (o := HO.tup ys)
    have hys6 := hys.tmono (tk_same s6)
    have s56 := s5.trans s6
    generalize upd (upd H5 so (HO.lst ys)) r (HO.tup ys) = H6 at s6 hr1 hys6 s56 ⊢
    -- the second
    have hc1 := s56 _ _ hc1
    have hc2 := s56 _ _ hc2
    refine ⟨.ref c1, rfl, .ref c2, rfl, 1, rfl, c2, _, rfl, SqL.of hc2, fun d1 nd1 => ?_⟩
    have s7 := same_new (o := HO.lst (cutV (dz.map V.int) (some ((1 : Nat) : Int)) none)) nd1
    have hd1 := upd_same (H := H6) (a := d1) (o := HO.lst (cutV (dz.map V.int) (some ((1 : Nat) : Int)) none))
    refine ⟨.ref c2, rfl, 1, rfl, c2, _, rfl, SqL.of (s7 _ _ hc2), fun d2 nd2 => ?_⟩
    have s8 := same_new (o := HO.lst (cutV (dz.map V.int) none (some ((1 : Nat) : Int)))) nd2
    have hd2 := upd_same (H := upd H6 d1 (HO.lst (cutV (dz.map V.int) (some ((1 : Nat) : Int)) none))) (a := d2) (o := HO.lst (cutV (dz.map V.int) none (some ((1 : Nat) : Int))))
    have hd1 := s8 _ _ hd1
    have s78 := s7.trans s8
    generalize upd (upd H6 d1 (HO.lst (cutV (dz.map V.int) (some ((1 : Nat) : Int)) none))) d2 (HO.lst (cutV (dz.map V.int) none (some ((1 : Nat) : Int)))) = H7 at s78 hd1 hd2 ⊢
    rw [cutV_from, ← List.map_drop] at hd1
    rw [cutV_to, ← List.map_take] at hd2
    refine ⟨d1, d2, _, _, rfl, rfl, hd1, hd2, by rw [List.length_map, List.length_map, List.length_drop, List.length_take, sizeLine_eq]; omega, fun cc ncc => ?_⟩
    have s9 := same_new (o := HO.lst ((dz.drop 1).map V.int ++ (dz.take 1).map V.int)) ncc
    have hcc : (upd H7 cc (HO.lst ((dz.drop 1).map V.int ++ (dz.take 1).map V.int))) cc = some (.lst ((dz.drop 1 ++ dz.take 1).map V.int)) := by rw [upd_same, List.map_append]
    have s79 := s78.trans s9
    generalize upd H7 cc (HO.lst ((dz.drop 1).map V.int ++ (dz.take 1).map V.int)) = H8 at s79 hcc ⊢
    have hrp := rot_perm dz
    generalize dz.drop 1 ++ dz.take 1 = dy at hcc hrp
    have ldy : dy.length = many := by rw [hrp.length_eq, ld3]
    refine ⟨c1, cc, _, _, rfl, SqL.of (s79 _ _ hc1), SqL.of hcc, by rw [List.length_map]; omega, fun zp2 as2 H9 sA hzp2 nzp2 hal2 has2 => ?_⟩
    have hdz2 := zip_data (by rw [hal2, List.length_map, List.length_map]) has2
    have hzl2 : (pz.zip dy).length = many := by rw [List.length_zip, lp3, ldy, Nat.min_self]
    refine ⟨Pair, prD, zp2, _, _, rfl, .inl (SqL.of hzp2), hdz2, alike_prs _, sortable_prs _, (fun b _ => by rw [dep_pr]; decide), by rw [hzl2]; omega, fun so2 ys2 nso2 hys2 => ?_⟩
    rw [leP_data] at hys2
    refine .inl ⟨so2, ys2, rfl, SqL.of upd_same, fun r2 nr2 => ?_⟩
    have sB := (same_new (o := HO.lst ys2) nso2).trans (same_new (o := HO.tup ys2) nr2)
    have hr2 := upd_same (H := upd H9 so2 (.lst ys2)) (a := r2) (o := HO.tup ys2)
    have hysB := hys2.tmono (tk_same sB)
    have sall := s79.trans (sA.trans sB)
    generalize upd (upd H9 so2 (HO.lst ys2)) r2 (HO.tup ys2) = HA at sB hr2 hysB sall ⊢
    refine ⟨by show 2 ≤ sizeLine; decide, fun pp npp => ?_⟩
    have sC := same_new (o := HO.tup [V.ref r, V.ref r2]) npp
    have sD := sall.trans sC
    exact q pp (.ref r) (.ref r2) (sortP (pz.zip dz)) (sortP (pz.zip dy)) _ (sz4.trans (SZ.of (s56.trans sD))) ((st4.same (s56.trans sD)).up (by omega)) upd_same
      (.tup (sD _ _ hr1) (hys6.tmono (tk_same sD))) (.tup (sC _ _ hr2) (hysB.tmono (tk_same sC))) (zip_plan np nd hin (by omega))
      (zip_plan np (hrp.nodup_iff.mpr nd) (fun x hx => hin x (hx.imp id fun h => hrp.subset h)) (by omega)) ((sortP_perm _).length_eq.trans hzl) ((sortP_perm _).length_eq.trans hzl2)
end
end Pk
set_option maxHeartbeats 1000000
namespace Pk
open PySem PySem.Spec PyProof.Rows L2
theorem piLK {X : Cx} {tg l : Expr} {tl : TE} (K : PySem.W.Frag) (hl : PE X l tl) (h : X.K = K := by rfl) : PI X tg l (iList K tl) := h ▸ pi_list hl
theorem erase_map {α β : Type} (f : α → β) : ∀ (l : List α) (k : Nat), (l.map f).eraseIdx k = (l.eraseIdx k).map f
  | [], _ => rfl
  | x :: l, 0 => rfl
  | x :: l, k + 1 => by
    show f x :: (l.map f).eraseIdx k = f x :: (l.eraseIdx k).map f
    rw [erase_map f l k]
theorem eqv_tup_nil (m : List Pair) : PyData.eqv (plD m) (.tuple []) = decide (m = []) := by
  match m with
  | [] => simp [PyData.eqv, PyData.eqvAll]
  | x :: m => simp [PyData.eqv, PyData.eqvAll]
theorem snoc_plan {m : List Pair} {p : Pair} (h : ∀ x, x ∈ m → (0 ≤ x.1 ∧ x.1 ≤ 7) ∧ 0 ≤ x.2 ∧ x.2 ≤ 7) (n1 : (m.map (·.1)).Nodup) (n2 : (m.map (·.2)).Nodup) (hp : (0 ≤ p.1 ∧ p.1 ≤ 7) ∧ 0 ≤ p.2 ∧ p.2 ≤ 7) (h1 : p.1 ∉ m.map (·.1)) (h2 : p.2 ∉ m.map (·.2)) :
    Plan (sortP (m ++ [p])) where
  rng := fun x hx => by
    rcases List.mem_append.mp ((sortP_perm _).subset hx) with q | q
    · exact h x q
    · rw [List.mem_singleton.mp q]
      exact hp
  asc := sortP_asc _
  ap := by
    refine ⟨((sortP_perm _).map _).nodup_iff.mpr ?_, ((sortP_perm _).map _).nodup_iff.mpr ?_⟩
    · rw [List.map_append]
      exact nodup_snoc n1 h1
    · rw [List.map_append]
      exact nodup_snoc n2 h2
/-- some number below 8 is in no shorter list -/
theorem some_free {l : List Int} (h : l.length ≤ 7) : ∃ j : Nat, j < 8 ∧ (j : Int) ∉ l := by
  by_cases q : ∃ j : Nat, j < 8 ∧ (j : Int) ∉ l
  · exact q
  · exfalso
    have hs : ∀ x, x ∈ rg 8 → x ∈ l := fun x hx => by
      obtain ⟨h1, h2⟩ := rg_mem hx
      by_cases z : x ∈ l
      · exact z
      · exact absurd ⟨x.toNat, by omega, by rw [Int.toNat_of_nonneg h1]; exact z⟩ q
    have := nodup_sub_len (rg 8) l (rg_nodup 8) hs
    rw [rg_len] at this
    omega
def sp_law_near_plan : Sp := fun vs H Q _ => ∃ (z l : Addr) (t : Nat) (v : V) (m : List Pair), vs = [.ref z, v] ∧ LSt z l t H ∧ t + 3 ≤ 1000000 ∧ Dt H v (plD m) ∧ Plan m ∧
  ∀ v' m' H', SZ z l H H' → LSt z l (t + 3) H' → Dt H' v' (plD m') → Plan m' → m'.length = m.length → Q v' H'
section
variable {P : Program} {w : World} {K : PySem.W.Frag} {mg : Str → Option Value} {base : Heap}
theorem ok_law_near_plan {f : Addr} {fd : FuncData} (F : Fun K "_law_near_plan" "_law_near_plan" s__law_near_plan f fd) (G : Glob mg) (C_law_draw : Cal P w K mg base CX0 1 "_law_draw" ["_law_state", "_law_size_here"] sp_law_draw)
    (C_law_pick : Cal P w K mg base CX0 2 "_law_pick" ["_law_state", "_law_several"] sp_law_pick) : FnOk P w K mg base CX0 3 f fd ["_law_state", "_law_told"] sp_law_near_plan := by
  refine F.ok c__law_near_plan (fun vs H Q E h => ?_) (fun cdv A0 outer s H vs Q E hr h => ?_)
  · obtain ⟨z, l, t, v, m, rfl, _⟩ := h
    rfl
  · obtain ⟨z, l, t, v, m, rfl, hst, ht, hd, hp, q⟩ := h
    refine ⟨_, 
      (pss_cons (ps_if (pt_cmpR (eqD K hr.units) (pv 1) (pe_tup pa_nil) (nomark _)) 
          (pss_one (ps_ret (pv 1))) pss_nil)
      (pss_cons (ps_set (i := 2) c__law_near_plan.nd rfl (.inr rfl) (pe_callTy call_list_of (by rfl) G.list (by decide +kernel) (pa_cons (pv 1) pa_nil)))
      (pss_cons (ps_expr (pe_bm PySem.F.plainAttrs_list PySem.F.slot_list_pop PySem.F.type_list_pop mt_popAt (pv 2) (pa_cons (pe_cal C_law_draw hr pass0 (pa_cons (pv 0) (pa_cons (pe_callB (lenS K) (by rfl) G.len PySem.boot_len (pa_cons (pv 2) pa_nil)) pa_nil))) pa_nil)))
      (pss_cons (ps_setLc (i := 5) (own := [("_law_item", 3)]) rfl c__law_near_plan.nd rfl rfl (sw_true rfl rfl rfl (by decide +kernel)) (pi_range1 rfl G.range (pa_cons pe_int pa_nil)) (blkOk_by (own := [("_law_item", 3)]) (N := n__law_near_plan) (sc := defScope s__law_near_plan) (by decide +kernel)) (fun _ _ _ _ _ => (pg_name (i := 3) c__law_near_plan.nd rfl (.inl rfl))) (fun _ _ _ _ _ => (pts_one (pt_cmpR (ninI K) (pv 3) (pe_lc (own := [("_law_pair", 4)]) rfl c__law_near_plan.nd (piLK K (pv 2)) (blkOk_by (own := [("_law_pair", 4)]) (N := n__law_near_plan) (sc := { kind := .function, names := [(Str.ofString ".0", .local), (Str.ofString "_law_item", .local), (Str.ofString "_law_left", .cell)], isGenerator := false, isCoroutine := false }) (by decide +kernel)) (fun _ _ _ _ _ => (pg_name (i := 4) c__law_near_plan.nd rfl (.inl rfl))) (fun _ _ _ _ _ => pts_nil) (fun _ _ _ _ _ => (pe_ix (ixT K) (pv 4) pe_int (fun _ _ => rfl)))) (by rfl)))) (fun _ _ _ _ _ => (pv 3)))
      (pss_cons (ps_setLc (i := 6) (own := [("_law_item", 3)]) rfl c__law_near_plan.nd rfl rfl (sw_true rfl rfl rfl (by decide +kernel)) (pi_range1 rfl G.range (pa_cons pe_int pa_nil)) (blkOk_by (own := [("_law_item", 3)]) (N := n__law_near_plan) (sc := defScope s__law_near_plan) (by decide +kernel)) (fun _ _ _ _ _ => (pg_name (i := 3) c__law_near_plan.nd rfl (.inl rfl))) (fun _ _ _ _ _ => (pts_one (pt_cmpR (ninI K) (pv 3) (pe_lc (own := [("_law_pair", 4)]) rfl c__law_near_plan.nd (piLK K (pv 2)) (blkOk_by (own := [("_law_pair", 4)]) (N := n__law_near_plan) (sc := { kind := .function, names := [(Str.ofString ".0", .local), (Str.ofString "_law_item", .local), (Str.ofString "_law_left", .cell)], isGenerator := false, isCoroutine := false }) (by decide +kernel)) (fun _ _ _ _ _ => (pg_name (i := 4) c__law_near_plan.nd rfl (.inl rfl))) (fun _ _ _ _ _ => pts_nil) (fun _ _ _ _ _ => (pe_ix (ixT K) (pv 4) pe_int (fun _ _ => rfl)))) (by rfl)))) (fun _ _ _ _ _ => (pv 3)))
      (pss_one (ps_ret (pe_tupleOf rfl G.tuple (pe_callB (cr_sortDt hr.units) (by rfl) G.sorted boot_sorted (pa_cons (pe_op op_cat (pv 2) (pe_lst (pa_cons (pe_tup (pa_cons (pe_cal C_law_pick hr pass0 (pa_cons (pv 0) (pa_cons (pv 5) pa_nil))) (pa_cons (pe_cal C_law_pick hr pass0 (pa_cons (pv 0) (pa_cons (pv 6) pa_nil))) pa_nil))) pa_nil))) pa_nil)))))))))), ?_⟩
    obtain ⟨T, xs, rfl, hT, hxs, hxl⟩ := dt_plan hd
    have h8 := hp.len8
    refine ⟨.ref T, rfl, by decide, fun e0 ne0 => ?_⟩
    have s0 := same_new (o := HO.tup []) ne0
    refine ⟨plD m, .tuple [], .tup (SqT.of (s0 _ _ hT)) (hxs.tmono (tk_same s0)).dp, .tup (SqT.of upd_same) .nil, shaped_pl m, shaped_ints [], _, rfl, ?_⟩
    rw [eqv_tup_nil]
    have hst0 := hst.same s0
    have hd0 := hd.tmono (tk_same s0)
    have hT0 := s0 _ _ hT
    have hxs0 := hxs.tmono (tk_same s0)
    generalize upd H e0 (HO.tup []) = H0 at s0 hst0 hd0 hT0 hxs0 ⊢
    by_cases hm0 : m = []
    · rw [decide_eq_true hm0]
      exact ⟨.ref T, rfl, q _ m _ (SZ.of s0) (hst0.up (by omega)) hd0 hp rfl⟩
    rw [decide_eq_false hm0]
    have hpos : 1 ≤ m.length := List.length_pos_iff.mpr hm0
    refine ⟨.ref T, rfl, T, xs, rfl, .inr (SqT.of hT0), fun a na => ?_⟩
    have s1 := same_new (o := HO.lst xs) na
    have hst1 := hst0.same s1
    have ha1 := upd_same (H := H0) (a := a) (o := HO.lst xs)
    have fa := hst0.fresh na
    refine ⟨.ref a, rfl, .inl ⟨rfl, _, SqL.of ha1⟩, .ref z, rfl, .ref a, rfl, a, xs, rfl, .inl (SqL.of ha1), z, l, t, xs.length, rfl, hst1, by omega, by omega, fun r H1 hr1 sz1 st1 => ?_⟩
    have ha2 := sz1.k _ _ fa.1 fa.2 ha1
    have hk : r.toNat < xs.length := by omega
    have hsi : seqIndex? r xs.length = some r.toNat := by
      have := seqIx hk
      rwa [Int.toNat_of_nonneg hr1.1] at this
    refine ⟨a, xs, r, r.toNat, _, rfl, rfl, ha2, by omega, by omega, hsi, List.getElem?_eq_getElem hk, ?_⟩
    have szA := (SZ.of s1).trans sz1
    have stA := hst0.mut (ys := xs.eraseIdx r.toNat) szA st1 na ha2
    have szB := szA.mut (ys := xs.eraseIdx r.toNat) na ha2
    have ha := upd_same (H := H1) (a := a) (o := HO.lst (xs.eraseIdx r.toNat))
    have hdm : DtAll (upd H1 a (.lst (xs.eraseIdx r.toNat))) (xs.eraseIdx r.toNat) ((m.eraseIdx r.toNat).map prD) := by
      have h := ((hxs0.tmono szA.tk).erase r.toNat).tmono (wk_lst (ys := xs.eraseIdx r.toNat) ha2).tk
      have e : (m.map prD).eraseIdx r.toNat = (m.eraseIdx r.toNat).map prD := erase_map prD m r.toNat
      rwa [e] at h
    have sub : (m.eraseIdx r.toNat).Sublist m := List.eraseIdx_sublist ..
    have hlm : (m.eraseIdx r.toNat).length + 1 = m.length := by
      rw [List.length_eraseIdx, if_pos (by omega)]
      omega
    generalize upd H1 a (.lst (xs.eraseIdx r.toNat)) = H2 at stA szB ha hdm ⊢
    generalize xs.eraseIdx r.toNat = xs2 at ha hdm
    generalize m.eraseIdx r.toNat = m2 at hdm sub hlm
    have hlen2 : xs2.length = m2.length := hdm.len.trans (List.length_map ..)
    refine ⟨8, rfl, by decide, by decide, fun P nP => ?_⟩
    refine lcW nP (Wlk.range 0 8) (fun i H ys => ∃ ps : List Int, ys = ps.map V.int ∧ ps.length ≤ i ∧ (∀ p, p ∈ ps → (0 ≤ p ∧ p ≤ 7) ∧ p ∉ m2.map (fun x : Pair => x.1)) ∧ ∀ j : Nat, j < i → (j : Int) ∉ m2.map (fun x : Pair => x.1) → (j : Int) ∈ ps) (fun i H H' ys _ e => e) (by decide) ⟨[], rfl, Nat.le_refl _, fun _ h => absurd h List.not_mem_nil, fun j hj => absurd hj (Nat.not_lt_zero _)⟩ (fun i x H' ys hi s hx hY Q1 Q2 k1 k2 => ?_) fun H3 ysP sP hP hYP => ?_
    · obtain ⟨ps, rfl, hl1, hm1, hm2⟩ := hY
      have hi8 : i < 8 := hi
      rw [Int.zero_add] at hx
      subst hx
      have ha' := s _ _ ha
      refine ⟨rfl, .int i, rfl, .ref a, rfl, a, rfl, ⟨_, SqL.of ha'⟩, fun D2 nD2 => ?_⟩
      refine lcW nD2 (Wlk.list (SqL.of ha')) (fun j H ys => ys = ((m2.take j).map fun x : Pair => x.1).map V.int) (fun _ H H' ys _ e => e) (by omega) rfl (fun j x H2 ys2 hj s2 hx hY2 Q3 Q4 k3 k4 => ?_) fun H2 ys2 s2 hD2 hY2 => ?_
      · obtain ⟨p, t2, hpj, rfl, ht2⟩ := (hdm.tmono (tk_same (s.trans s2))).pr hx
        refine ⟨rfl, .ref t2, rfl, t2, _, 0, .int p.1, rfl, rfl, SqT.of ht2, atI_nat (j := 0) rfl, k3 _ _ (Same.refl _) ?_⟩
        rw [hY2, map_take_next (fun x : Pair => x.1) hpj, List.map_append]
        rfl
      · rw [hlen2, List.take_length] at hY2
        subst hY2
        refine ⟨(i : Int), D2, m2.map (fun x : Pair => x.1), rfl, rfl, .inl (SqL.of hD2), _, rfl, ?_⟩
        rw [if_pos rfl]
        by_cases hin : (i : Int) ∈ m2.map (fun x : Pair => x.1)
        · rw [decide_eq_true hin]
          refine k2 _ s2 ⟨ps, rfl, Nat.le_succ_of_le hl1, hm1, fun j hj hn => ?_⟩
          by_cases e : j = i
          · subst e
            exact absurd hin hn
          · exact hm2 j (by omega) hn
        · rw [decide_eq_false hin]
          refine ⟨.int i, rfl, k1 _ _ s2 ⟨ps ++ [(i : Int)], by rw [List.map_append]; rfl, by rw [List.length_append]; exact Nat.succ_le_succ hl1, fun p hp => ?_, fun j hj hn => ?_⟩⟩
          · rcases List.mem_append.mp hp with h | h
            · exact hm1 p h
            · rw [List.mem_singleton.mp h]
              exact ⟨by omega, hin⟩
          · by_cases e : j = i
            · subst e
              exact List.mem_append_right _ (List.mem_singleton.mpr rfl)
            · exact List.mem_append_left _ (hm2 j (by omega) hn)
    obtain ⟨ps, rfl, _, hps, hpf⟩ := hYP
    have ha := sP _ _ ha
    have hdm := hdm.tmono (tk_same sP)
    have fP := stA.fresh nP
    have stA := stA.same sP
    have szB := szB.trans (SZ.of sP)
    refine ⟨8, rfl, by decide, by decide, fun Q0 nQ0 => ?_⟩
    refine lcW nQ0 (Wlk.range 0 8) (fun i H ys => ∃ ps : List Int, ys = ps.map V.int ∧ ps.length ≤ i ∧ (∀ p, p ∈ ps → (0 ≤ p ∧ p ≤ 7) ∧ p ∉ m2.map (fun x : Pair => x.2)) ∧ ∀ j : Nat, j < i → (j : Int) ∉ m2.map (fun x : Pair => x.2) → (j : Int) ∈ ps) (fun i H H' ys _ e => e) (by decide) ⟨[], rfl, Nat.le_refl _, fun _ h => absurd h List.not_mem_nil, fun j hj => absurd hj (Nat.not_lt_zero _)⟩ (fun i x H' ys hi s hx hY Q1 Q2 k1 k2 => ?_) fun H4 ysQ0 sQ0 hQ0 hYQ0 => ?_
    · obtain ⟨ps, rfl, hl1, hm1, hm2⟩ := hY
      have hi8 : i < 8 := hi
      rw [Int.zero_add] at hx
      subst hx
      have ha' := s _ _ ha
      refine ⟨rfl, .int i, rfl, .ref a, rfl, a, rfl, ⟨_, SqL.of ha'⟩, fun D2 nD2 => ?_⟩
      refine lcW nD2 (Wlk.list (SqL.of ha')) (fun j H ys => ys = ((m2.take j).map fun x : Pair => x.2).map V.int) (fun _ H H' ys _ e => e) (by omega) rfl (fun j x H2 ys2 hj s2 hx hY2 Q3 Q4 k3 k4 => ?_) fun H2 ys2 s2 hD2 hY2 => ?_
      · obtain ⟨p, t2, hpj, rfl, ht2⟩ := (hdm.tmono (tk_same (s.trans s2))).pr hx
        refine ⟨rfl, .ref t2, rfl, t2, _, 1, .int p.2, rfl, rfl, SqT.of ht2, atI_nat (j := 1) rfl, k3 _ _ (Same.refl _) ?_⟩
        rw [hY2, map_take_next (fun x : Pair => x.2) hpj, List.map_append]
        rfl
      · rw [hlen2, List.take_length] at hY2
        subst hY2
        refine ⟨(i : Int), D2, m2.map (fun x : Pair => x.2), rfl, rfl, .inl (SqL.of hD2), _, rfl, ?_⟩
        rw [if_pos rfl]
        by_cases hin : (i : Int) ∈ m2.map (fun x : Pair => x.2)
        · rw [decide_eq_true hin]
          refine k2 _ s2 ⟨ps, rfl, Nat.le_succ_of_le hl1, hm1, fun j hj hn => ?_⟩
          by_cases e : j = i
          · subst e
            exact absurd hin hn
          · exact hm2 j (by omega) hn
        · rw [decide_eq_false hin]
          refine ⟨.int i, rfl, k1 _ _ s2 ⟨ps ++ [(i : Int)], by rw [List.map_append]; rfl, by rw [List.length_append]; exact Nat.succ_le_succ hl1, fun p hp => ?_, fun j hj hn => ?_⟩⟩
          · rcases List.mem_append.mp hp with h | h
            · exact hm1 p h
            · rw [List.mem_singleton.mp h]
              exact ⟨by omega, hin⟩
          · by_cases e : j = i
            · subst e
              exact List.mem_append_right _ (List.mem_singleton.mpr rfl)
            · exact List.mem_append_left _ (hm2 j (by omega) hn)
    obtain ⟨ds, rfl, _, hds, hdf⟩ := hYQ0
    have ha := sQ0 _ _ ha
    have hdm := hdm.tmono (tk_same sQ0)
    have fQ0 := stA.fresh nQ0
    have stA := stA.same sQ0
    have szB := szB.trans (SZ.of sQ0)
    have hP := sQ0 _ _ hP
    obtain ⟨j1, hj1, hj2⟩ := some_free (l := m2.map (fun x : Pair => x.1)) (by rw [List.length_map]; omega)
    obtain ⟨j3, hj3, hj4⟩ := some_free (l := m2.map (fun x : Pair => x.2)) (by rw [List.length_map]; omega)
    have lp1 : 1 ≤ ps.length := List.length_pos_of_mem (hpf j1 hj1 hj2)
    have ld1 : 1 ≤ ds.length := List.length_pos_of_mem (hdf j3 hj3 hj4)
    refine ⟨.ref a, rfl, .ref z, rfl, .ref P, rfl, z, l, t + 1, P, _, rfl, stA, by omega, .inl ⟨hP, fP.2⟩, by rw [List.length_map]; omega, fun v1 H5 hv1 sz5 st5 => ?_⟩
    obtain ⟨p1, hp1, rfl⟩ := List.mem_map.mp hv1
    have hQ0 := sz5.k _ _ fQ0.1 fQ0.2 hQ0
    refine ⟨.ref z, rfl, .ref Q0, rfl, z, l, t + 1 + 1, Q0, _, rfl, st5, by omega, .inl ⟨hQ0, fQ0.2⟩, by rw [List.length_map]; omega, fun v2 H6 hv2 sz6 st6 => ?_⟩
    obtain ⟨d1, hd1, rfl⟩ := List.mem_map.mp hv2
    have ha := sz6.k _ _ fa.1 fa.2 (sz5.k _ _ fa.1 fa.2 ha)
    have hdm := (hdm.tmono sz5.tk).tmono sz6.tk
    have szC := szB.trans (sz5.trans sz6)
    refine ⟨by show 2 ≤ sizeLine; decide, fun pr npr => ⟨by show 1 ≤ sizeLine; decide, fun lp nlp => ?_⟩⟩
    have s7 := (same_new (o := HO.tup [V.int p1, V.int d1]) npr).trans (same_new (o := HO.lst [V.ref pr]) nlp)
    have hpr := same_new (o := HO.lst [V.ref pr]) nlp _ _ (upd_same (H := H6) (a := pr) (o := HO.tup [V.int p1, V.int d1]))
    have hlp := upd_same (H := upd H6 pr (HO.tup [V.int p1, V.int d1])) (a := lp) (o := HO.lst [V.ref pr])
    generalize upd (upd H6 pr (HO.tup [V.int p1, V.int d1])) lp (HO.lst [V.ref pr]) = H7 at s7 hpr hlp ⊢
    refine ⟨a, lp, xs2, [V.ref pr], rfl, rfl, s7 _ _ ha, hlp, by rw [hlen2, sizeLine_eq]; show m2.length + 1 ≤ _; omega, fun cc ncc => ?_⟩
    have s8 := same_new (o := HO.lst (xs2 ++ [V.ref pr])) ncc
    have hcc := upd_same (H := H7) (a := cc) (o := HO.lst (xs2 ++ [V.ref pr]))
    have hdd : DtAll (upd H7 cc (HO.lst (xs2 ++ [V.ref pr]))) (xs2 ++ [V.ref pr]) ((m2 ++ [(p1, d1)]).map prD) := by
      rw [List.map_append]
      exact (hdm.tmono (tk_same (s7.trans s8))).app (.one (dt_mk (s8 _ _ hpr)))
    refine ⟨Pair, prD, cc, _, m2 ++ [(p1, d1)], rfl, .inl (SqL.of hcc), hdd, alike_prs _, sortable_prs _, (fun b _ => by rw [dep_pr]; decide), by rw [List.length_append]; show m2.length + 1 ≤ _; omega, fun so ys nso hys => ?_⟩
    rw [leP_data] at hys
    refine .inl ⟨so, ys, rfl, SqL.of upd_same, fun rr nrr => ?_⟩
    have s9 := (same_new (o := HO.lst ys) nso).trans (same_new (o := HO.tup ys) nrr)
    have sF := s7.trans (s8.trans s9)
    refine q _ (sortP (m2 ++ [(p1, d1)])) _ ((SZ.of s0).trans (szC.trans (SZ.of sF))) ((st6.same sF).up (by omega)) (.tup upd_same (hys.tmono (tk_same s9))) ?_ ((sortP_perm _).length_eq.trans (by rw [List.length_append]; exact hlm))
    exact snoc_plan (fun x hx => hp.rng x (sub.subset hx)) (hp.ap.1.sublist (sub.map _)) (hp.ap.2.sublist (sub.map _)) ⟨(hps p1 hp1).1, (hds d1 hd1).1⟩ (hps p1 hp1).2 (hds d1 hd1).2
end
end Pk
set_option maxHeartbeats 1000000
/-! Comprehensions whose turns draw. -/
namespace Pk
open PySem PySem.Spec PyProof.Rows L2
/-- as Wlk, while the law's state changes -/
structure WlkZ (z l : Addr) (J : It) (n : Nat) (Pi : Nat → V → Hp → Prop) (H1 : Hp) : Prop where
  go : ∀ i H', SZ z l H1 H' → i < n → J.go i H'
  yld : ∀ i H' x H2, SZ z l H1 H' → i < n → J.yld i H' x H2 → Same H' H2 ∧ Pi i x H2
  stop : ∀ H', SZ z l H1 H' → J.stop n H'
section
variable {K : PySem.W.Frag} {H1 : Hp} {a z l : Addr} {xs : List V}
theorem WlkZ.tup (h : H1 a = some (.tup xs)) : WlkZ z l (Itt K a) xs.length (fun i x _ => xs[i]? = some x) H1 where
  go := fun i H' s hi => ⟨xs, xs[i], SqT.of (s.tk _ _ h), by simp [hi]⟩
  yld := fun i H' x H2 s hi y => ⟨by rw [y.1]; exact Same.refl _, y.2 xs (SqT.of (s.tk _ _ h))⟩
  stop := fun H' s => ⟨xs, SqT.of (s.tk _ _ h), Nat.le_refl _⟩
theorem WlkZ.list (h : H1 a = some (.lst xs)) (az : a ≠ z) (al : a ≠ l) : WlkZ z l (Itl K a) xs.length (fun i x _ => xs[i]? = some x) H1 where
  go := fun i H' s hi => ⟨xs, xs[i], SqL.of (s.k _ _ az al h), by simp [hi]⟩
  yld := fun i H' x H2 s hi y => ⟨by rw [y.1]; exact Same.refl _, y.2 xs (SqL.of (s.k _ _ az al h))⟩
  stop := fun H' s => ⟨xs, SqL.of (s.k _ _ az al h), Nat.le_refl _⟩
theorem WlkZ.range (lo : Int) (n : Nat) : WlkZ z l (Itr lo n) n (fun i x _ => x = .int (lo + i)) H1 where
  go := fun i H' s hi => hi
  yld := fun i H' x H2 s hi y => ⟨by rw [y.1]; exact Same.refl _, y.2⟩
  stop := fun H' s => Nat.le_refl _
end
section
variable {J : It} {n : Nat} {Pi : Nat → V → Hp → Prop} {H1 : Hp} {g : TG} {tt : TT} {te : TE} {vs : List Nat} {σ : L2.St} {D z l : Addr} {Qd : Hp → Prop}
/-- a list comprehension that draws at most c times a turn -/
theorem lcZ (nD : H1 D = none) (W : WlkZ z l J n Pi H1) (t c : Nat) (st0 : LSt z l t H1) (Y : Nat → Hp → List V → Prop) (mono : ∀ i H H' ys, Wk H H' → Y i H ys → Y i H' ys) (hn : n ≤ 10000) (h0 : Y 0 H1 [])
    (turn : ∀ i x H' ys, i < n → SZ z l H1 H' → Pi i x H' → LSt z l (t + c * i) H' → Y i H' ys → ∀ (Q1 : VK) (Q2 : Hp → Prop), (∀ y H4, SZ z l H' H4 → LSt z l (t + c * (i + 1)) H4 → Y (i + 1) H4 (ys ++ [y]) → Q1 y H4) → (∀ H3, SZ z l H' H3 → LSt z l (t + c * (i + 1)) H3 → Y (i + 1) H3 ys → Q2 H3) →
      g x (wipe σ vs) H' fun σ2 H2 => wipe σ2 vs = wipe σ vs ∧ tt σ2 H2 fun b H3 => if b = true then te σ2 H3 Q1 else Q2 H3)
    (done : ∀ H' ys, SZ z l H1 H' → LSt z l (t + c * n) H' → H' D = some (.lst ys) → D ≠ z → D ≠ l → Y n H' ys → Qd H') :
    ∃ W : Nat → Nat → Hp → Prop, (∃ m, W 0 m (upd H1 D (.lst []))) ∧ ∀ i m H, W i m H →
      (J.stop i H ∧ Qd H) ∨ (J.go i H ∧ ∃ Nx : Hp → Prop, (∀ H', Nx H' → ∃ m', m' < m ∧ W (i + 1) m' H') ∧ ∀ x H', J.yld i H x H' → g x (wipe σ vs) H' fun σ2 H2 => wipe σ2 vs = wipe σ vs ∧ tt σ2 H2 fun b H3 =>
        if b = true then te σ2 H3 fun y H4 => ∃ acc, H4 D = some (.lst acc) ∧ acc.length < sizeLine ∧ Nx (upd H4 D (.lst (acc ++ [y]))) else Nx H3) := by
  obtain ⟨Dz, Dl⟩ := st0.fresh nD
  refine ⟨fun i m H => m = n - i ∧ i ≤ n ∧ SZ z l H1 H ∧ LSt z l (t + c * i) H ∧ ∃ ys, H D = some (.lst ys) ∧ ys.length ≤ i ∧ Y i H ys, ⟨n, rfl, Nat.zero_le _, SZ.of (same_new nD), (st0.same (same_new nD)).up (Nat.le_add_right _ _), [], upd_same, Nat.le_refl _, ?_⟩, fun i m H w => ?_⟩
  · exact mono _ _ _ _ (Wk.of (same_new nD)) h0
  · obtain ⟨rfl, hi, s, st, ys, hD, hl, hY⟩ := w
    by_cases lt : i < n
    · refine .inr ⟨W.go i H s lt, fun H' => i + 1 ≤ n ∧ SZ z l H1 H' ∧ LSt z l (t + c * (i + 1)) H' ∧ ∃ ys, H' D = some (.lst ys) ∧ ys.length ≤ i + 1 ∧ Y (i + 1) H' ys, fun H' ⟨h1, h2, h3⟩ => ⟨n - (i + 1), by omega, rfl, h1, h2, h3⟩, fun x H' y => ?_⟩
      obtain ⟨s2, px⟩ := W.yld i H x H' s lt y
      have hD2 := s2 _ _ hD
      refine turn i x H' ys lt (s.trans (SZ.of s2)) px (st.same s2) (mono _ _ _ _ (Wk.of s2) hY) _ _ (fun y H4 s4 st4 y4 => ?_) fun H3 s3 st3 y3 => ?_
      · have hD4 := s4.k _ _ Dz Dl hD2
        have sA := (s.trans (SZ.of s2)).trans s4
        refine ⟨ys, hD4, Nat.lt_of_le_of_lt (Nat.le_trans hl (Nat.le_of_lt lt)) (Nat.lt_of_le_of_lt hn (by decide)), lt, sA.mut nD hD4, st0.mut sA st4 nD hD4, ys ++ [y], upd_same, ?_, mono _ _ _ _ (wk_lst hD4) y4⟩
        rw [List.length_append]
        exact Nat.succ_le_succ hl
      · exact ⟨lt, (s.trans (SZ.of s2)).trans s3, st3, ys, s3.k _ _ Dz Dl hD2, Nat.le_succ_of_le hl, y3⟩
    · have e : i = n := by omega
      subst e
      exact .inl ⟨W.stop H s, done H ys s st hD Dz Dl hY⟩
end
end Pk
set_option maxHeartbeats 1000000
namespace Pk
open PySem PySem.Spec PyProof.Rows L2
/-! ### a drawn book -/
def sp_law_book : Sp := fun vs H Q _ => ∃ (z l : Addr) (t : Nat), vs = [.ref z, .int 6] ∧ LSt z l t H ∧ t + 300 ≤ 1000000 ∧
  ∀ v b H', SZ z l H H' → LSt z l (t + 300) H' → Dt H' v (bkD b) → Book b → b.length ≤ 6 → Q v H'
/-- the values of a list are plans -/
def Pls (H : Hp) (ys : List V) (n : Nat) : Prop := ∃ b : List (List Pair), DtAll H ys (b.map plD) ∧ b.length = n ∧ ∀ m, m ∈ b → Plan m
theorem Pls.nil (H : Hp) : Pls H [] 0 := ⟨[], .nil, rfl, fun _ h => absurd h List.not_mem_nil⟩
theorem Pls.mono {H H' : Hp} {ys : List V} {n : Nat} (k : Tk H H') (h : Pls H ys n) : Pls H' ys n :=
  let ⟨b, h1, h2, h3⟩ := h
  ⟨b, h1.tmono k, h2, h3⟩
theorem Pls.snoc {H : Hp} {ys : List V} {n : Nat} {v : V} {m : List Pair} (h : Pls H ys n) (hd : Dt H v (plD m)) (hp : Plan m) : Pls H (ys ++ [v]) (n + 1) := by
  obtain ⟨b, h1, h2, h3⟩ := h
  refine ⟨b ++ [m], by rw [List.map_append]; exact h1.app (.one hd), by rw [List.length_append, h2]; rfl, fun q hq => ?_⟩
  rcases List.mem_append.mp hq with e | e
  · exact h3 q e
  · rw [List.mem_singleton.mp e]
    exact hp
theorem Pls.mem {H : Hp} {ys : List V} {n : Nat} {v : V} (h : Pls H ys n) (hv : v ∈ ys) : ∃ m, Dt H v (plD m) ∧ Plan m := by
  obtain ⟨b, h1, h2, h3⟩ := h
  obtain ⟨i, hi⟩ := List.mem_iff_getElem?.mp hv
  obtain ⟨m, hm, hd⟩ := h1.plan hi
  exact ⟨m, hd, h3 m (List.mem_of_getElem? hm)⟩
theorem Pls.len {H : Hp} {ys : List V} {n : Nat} (h : Pls H ys n) : ys.length = n := by
  obtain ⟨b, h1, h2, _⟩ := h
  rw [h1.len, List.length_map, h2]
section
variable {P : Program} {w : World} {K : PySem.W.Frag} {mg : Str → Option Value} {base : Heap}
theorem ok_law_book {f : Addr} {fd : FuncData} (F : Fun K "_law_book" "_law_book" s__law_book f fd) (G : Glob mg) (C_law_draw : Cal P w K mg base CX0 1 "_law_draw" ["_law_state", "_law_size_here"] sp_law_draw)
    (C_law_pick : Cal P w K mg base CX0 2 "_law_pick" ["_law_state", "_law_several"] sp_law_pick)
    (C_law_plan : Cal P w K mg base CX0 3 "_law_plan" ["_law_state", "_law_many", "_law_most"] sp_law_plan)
    (C_law_any_plan : Cal P w K mg base CX0 4 "_law_any_plan" ["_law_state", "_law_most"] sp_law_any_plan)
    (C_law_near_plan : Cal P w K mg base CX0 3 "_law_near_plan" ["_law_state", "_law_told"] sp_law_near_plan) : FnOk P w K mg base CX0 5 f fd ["_law_state", "_law_most"] sp_law_book := by
  refine F.ok c__law_book (fun vs H Q E h => ?_) (fun cdv A0 outer s H vs Q E hr h => ?_)
  · obtain ⟨z, l, t, rfl, _⟩ := h
    rfl
  · obtain ⟨z, l, t, rfl, hst, ht, q⟩ := h
    refine ⟨_, 
      (pss_cons (ps_asg (pe_tup (pa_cons (pe_op op_add pe_int (pe_cal C_law_draw hr pass0 (pa_cons (pv 0) (pa_cons (pv 1) pa_nil)))) (pa_cons (pe_op op_add pe_int (pe_cal C_law_draw hr pass0 (pa_cons (pv 0) (pa_cons pe_int pa_nil)))) (pa_cons (pe_cal C_law_draw hr pass0 (pa_cons (pv 0) (pa_cons pe_int pa_nil))) pa_nil)))) (pgT K (n := 3) rfl (pgs_cons (pg_name (i := 2) c__law_book.nd rfl (.inl rfl)) (pgs_cons (pg_name (i := 3) c__law_book.nd rfl (.inr rfl)) (pgs_cons (pg_name (i := 4) c__law_book.nd rfl (.inl rfl)) pgs_nil)))))
      (pss_cons (ps_if (pt_cmpR op_eq (pv 4) pe_int (nomark _)) 
          (pss_one (ps_ret (pe_tupleOf rfl G.tuple (pe_lc (own := [("_law_lap", 5)]) rfl c__law_book.nd (pi_range1 rfl G.range (pa_cons (pv 2) pa_nil)) (blkOk_by (own := [("_law_lap", 5)]) (N := n__law_book) (sc := defScope s__law_book) (by decide +kernel)) (fun _ _ _ _ _ => (pg_name (i := 5) c__law_book.nd rfl (.inl rfl))) (fun _ _ _ _ _ => pts_nil) (fun _ _ _ _ _ => (pe_cal C_law_any_plan hr pass0 (pa_cons (pv 0) (pa_cons (pv 3) pa_nil)))))))) pss_nil)
      (pss_cons (ps_set (i := 6) c__law_book.nd rfl (.inr rfl) (pe_op op_add pe_int (pe_cal C_law_draw hr pass0 (pa_cons (pv 0) (pa_cons (pv 3) pa_nil)))))
      (pss_cons (ps_if (pt_cmpR op_eq (pv 4) pe_int (nomark _)) 
          (pss_one (ps_ret (pe_tupleOf rfl G.tuple (pe_lc (own := [("_law_lap", 5)]) rfl c__law_book.nd (pi_range1 rfl G.range (pa_cons (pv 2) pa_nil)) (blkOk_by (own := [("_law_lap", 5)]) (N := n__law_book) (sc := defScope s__law_book) (by decide +kernel)) (fun _ _ _ _ _ => (pg_name (i := 5) c__law_book.nd rfl (.inl rfl))) (fun _ _ _ _ _ => pts_nil) (fun _ _ _ _ _ => (pe_cal C_law_plan hr pass0 (pa_cons (pv 0) (pa_cons (pv 6) (pa_cons (pv 3) pa_nil))))))))) pss_nil)
      (pss_cons (ps_set (i := 7) c__law_book.nd rfl (.inr rfl) (pe_lc (own := [("_law_lap", 5)]) rfl c__law_book.nd (pi_range1 rfl G.range (pa_cons pe_int pa_nil)) (blkOk_by (own := [("_law_lap", 5)]) (N := n__law_book) (sc := defScope s__law_book) (by decide +kernel)) (fun _ _ _ _ _ => (pg_name (i := 5) c__law_book.nd rfl (.inl rfl))) (fun _ _ _ _ _ => pts_nil) (fun _ _ _ _ _ => (pe_cal C_law_plan hr pass0 (pa_cons (pv 0) (pa_cons (pv 6) (pa_cons (pv 3) pa_nil)))))))
      (pss_cons (ps_if (pt_cmpR op_eq (pv 4) pe_int (nomark _)) 
          (pss_one (ps_ret (pe_tupleOf rfl G.tuple (pe_lc (own := [("_law_lap", 5)]) rfl c__law_book.nd (pi_range1 rfl G.range (pa_cons (pv 2) pa_nil)) (blkOk_by (own := [("_law_lap", 5)]) (N := n__law_book) (sc := defScope s__law_book) (by decide +kernel)) (fun _ _ _ _ _ => (pg_name (i := 5) c__law_book.nd rfl (.inl rfl))) (fun _ _ _ _ _ => pts_nil) (fun _ _ _ _ _ => (pe_cal C_law_pick hr pass0 (pa_cons (pv 0) (pa_cons (pv 7) pa_nil)))))))) pss_nil)
      (pss_cons (ps_setLc (i := 8) (own := [("_law_lap", 5)]) rfl c__law_book.nd rfl rfl (sw_true rfl rfl rfl (by decide +kernel)) (pi_range1 rfl G.range (pa_cons (pv 2) pa_nil)) (blkOk_by (own := [("_law_lap", 5)]) (N := n__law_book) (sc := defScope s__law_book) (by decide +kernel)) (fun _ _ _ _ _ => (pg_name (i := 5) c__law_book.nd rfl (.inl rfl))) (fun _ _ _ _ _ => pts_nil) (fun _ _ _ _ _ => (pe_cal C_law_near_plan hr pass0 (pa_cons (pv 0) (pa_cons (pe_cal C_law_pick hr pass0 (pa_cons (pv 0) (pa_cons (pv 7) pa_nil))) pa_nil)))))
      (pss_one (ps_ret (pe_tupleOf rfl G.tuple (pe_lc (own := [("_law_told", 9)]) rfl c__law_book.nd (piLK K (pv 8)) (blkOk_by (own := [("_law_told", 9)]) (N := n__law_book) (sc := defScope s__law_book) (by decide +kernel)) (fun _ _ _ _ _ => (pg_name (i := 9) c__law_book.nd rfl (.inl rfl))) (fun _ _ _ _ _ => pts_nil) (fun _ _ _ _ _ => (pe_cal C_law_pick hr pass0 (pa_cons (pv 0) (pa_cons (pe_lst (pa_cons (pv 9) (pa_cons (pe_ix (ixL K) (pv 7) pe_int (fun _ _ => rfl)) pa_nil))) pa_nil))))))))))))))), ?_⟩
    refine ⟨.ref z, rfl, .int 6, rfl, z, l, t, 6, rfl, hst, by omega, by omega, fun r1 H1 hr1 s1 st1 => ⟨1, r1, rfl, rfl, .ref z, rfl, z, l, t + 1, 7, rfl, st1, by omega, by omega, fun r2 H2 hr2 s2 st2 => ⟨2, r2, rfl, rfl, .ref z, rfl, z, l, t + 1 + 1, 4, rfl, st2, by omega, by omega, fun r3 H3 hr3 s3 st3 => ?_⟩⟩⟩
    obtain ⟨many, hmany⟩ : ∃ many : Nat, 1 + r1 = many := ⟨(1 + r1).toNat, by omega⟩
    obtain ⟨wide, hwide⟩ : ∃ wide : Nat, 2 + r2 = wide := ⟨(2 + r2).toNat, by omega⟩
    have bm : 1 ≤ many ∧ many ≤ 6 := by omega
    have bw : 2 ≤ wide ∧ wide ≤ 8 := by omega
    refine ⟨by show 3 ≤ sizeLine; decide, fun T nT => ?_⟩
    have s4 := same_new (o := HO.tup [V.int (1 + r1), V.int (2 + r2), V.int r3]) nT
    have hT := upd_same (H := H3) (a := T) (o := HO.tup [V.int (1 + r1), V.int (2 + r2), V.int r3])
    have szA := s1.trans (s2.trans (s3.trans (SZ.of s4)))
    have stA := st3.same s4
    generalize upd H3 T (HO.tup [V.int (1 + r1), V.int (2 + r2), V.int r3]) = H4 at hT szA stA ⊢
    rw [hmany, hwide] at hT
    refine ⟨T, _, rfl, SqT.of hT, rfl, ?_⟩
    have fin : ∀ (t' : Nat) (H' : Hp) (ys : List V) (T : Addr), t' ≤ t + 300 → SZ z l H H' → LSt z l t' H' → H' T = some (.tup ys) → Pls H' ys many → Q (.ref T) H' := fun t' H' ys T htt sz st hT ⟨b, h1, h2, h3⟩ => q _ b H' sz (st.up htt) (.tup hT h1) ⟨by omega, h3⟩ (by omega)
    refine ⟨_, _, rfl, _, _, rfl, _, _, rfl, rfl, .int r3, rfl, rfl, _, rfl, ?_⟩
    by_cases w0 : r3 = 0
    · rw [decide_eq_true (by rw [w0])]
      refine ⟨.int many, rfl, many, rfl, by omega, by omega, fun D nD => ?_⟩
      refine lcZ nD (WlkZ.range 0 many) (t + 1 + 1 + 1) 17 stA (fun i H ys => Pls H ys i) (fun i H H' ys w e => e.mono w.tk) (by omega) (Pls.nil _) (fun i x H' ys hi s hx st hY Q1 Q2 k1 k2 => ?_) fun H5 ys s5 st5 hD5 Dz Dl hY5 => ?_
      · refine ⟨rfl, .ref z, rfl, .int wide, rfl, z, l, _, wide, rfl, st, by omega, by omega, fun v m H6 s6 st6 hd hp => ?_⟩
        exact k1 _ _ s6 (st6.up (by omega)) ((hY.mono s6.tk).snoc hd hp)
      refine .inl ⟨D, ys, rfl, SqL.of hD5, fun T5 nT5 => fin _ _ ys T5 (by omega) (szA.trans (s5.trans (SZ.of (same_new nT5)))) (st5.same (same_new nT5)) upd_same (hY5.mono (tk_same (same_new nT5)))⟩
    rw [decide_eq_false (fun y => w0 (V.int.inj y))]
    refine ⟨.ref z, rfl, .int wide, rfl, z, l, _, wide, rfl, stA, by omega, by omega, fun r4 H5 hr4 s5 st5 => ⟨1, r4, rfl, rfl, ?_⟩⟩
    obtain ⟨size, hsize⟩ : ∃ size : Nat, 1 + r4 = size := ⟨(1 + r4).toNat, by omega⟩
    show gName 6 (V.int (1 + r4)) _ _ _
    rw [hsize]
    have szB := szA.trans s5
    refine ⟨.int r3, rfl, rfl, _, rfl, ?_⟩
    by_cases w1 : r3 = 1
    · rw [decide_eq_true (by rw [w1])]
      refine ⟨.int many, rfl, many, rfl, by omega, by omega, fun D nD => ?_⟩
      refine lcZ nD (WlkZ.range 0 many) _ 16 st5 (fun i H ys => Pls H ys i) (fun i H H' ys w e => e.mono w.tk) (by omega) (Pls.nil _) (fun i x H' ys hi s hx st hY Q1 Q2 k1 k2 => ?_) fun H6 ys s6 st6 hD6 Dz Dl hY6 => ?_
      · refine ⟨rfl, .ref z, rfl, .int size, rfl, .int wide, rfl, z, l, _, size, wide, rfl, st, by omega, by omega, fun v m H6 s6 st6 hd hp _ => ?_⟩
        exact k1 _ _ s6 (st6.up (by omega)) ((hY.mono s6.tk).snoc hd hp)
      refine .inl ⟨D, ys, rfl, SqL.of hD6, fun T5 nT5 => fin _ _ ys T5 (by omega) (szB.trans (s6.trans (SZ.of (same_new nT5)))) (st6.same (same_new nT5)) upd_same (hY6.mono (tk_same (same_new nT5)))⟩
    rw [decide_eq_false (fun y => w1 (V.int.inj y))]
    -- two plans
    refine ⟨2, rfl, by omega, by omega, fun D nD => ?_⟩
    refine lcZ nD (WlkZ.range 0 2) _ 16 st5 (fun i H ys => Pls H ys i) (fun i H H' ys w e => e.mono w.tk) (by omega) (Pls.nil _) (fun i x H' ys hi s hx st hY Q1 Q2 k1 k2 => ?_) fun H6 two s6 st6 hD6 Dz Dl hY6 => ?_
    · refine ⟨rfl, .ref z, rfl, .int size, rfl, .int wide, rfl, z, l, _, size, wide, rfl, st, by omega, by omega, fun v m H6 s6 st6 hd hp _ => ?_⟩
      exact k1 _ _ s6 (st6.up (by omega)) ((hY.mono s6.tk).snoc hd hp)
    have two2 := hY6.len
    have szC := szB.trans s6
    refine ⟨.int r3, rfl, rfl, _, rfl, ?_⟩
    by_cases w2 : r3 = 2
    · rw [decide_eq_true (by rw [w2])]
      refine ⟨.int many, rfl, many, rfl, by omega, by omega, fun D2 nD2 => ?_⟩
      refine lcZ nD2 (WlkZ.range 0 many) _ 1 st6 (fun i H ys => Pls H ys i) (fun i H H' ys w e => e.mono w.tk) (by omega) (Pls.nil _) (fun i x H' ys hi s hx st hY Q1 Q2 k1 k2 => ?_) fun H7 ys s7 st7 hD7 _ _ hY7 => ?_
      · refine ⟨rfl, .ref z, rfl, .ref D, rfl, z, l, _, D, two, rfl, st, by omega, .inl ⟨s.k _ _ Dz Dl hD6, Dl⟩, by omega, fun v H7 hv s7 st7 => ?_⟩
        obtain ⟨m, hd, hp⟩ := hY6.mem hv
        exact k1 _ _ s7 (st7.up (by omega)) ((hY.mono s7.tk).snoc (hd.tmono (s.trans s7).tk) hp)
      refine .inl ⟨D2, ys, rfl, SqL.of hD7, fun T5 nT5 => fin _ _ ys T5 (by omega) (szC.trans (s7.trans (SZ.of (same_new nT5)))) (st7.same (same_new nT5)) upd_same (hY7.mono (tk_same (same_new nT5)))⟩
    rw [decide_eq_false (fun y => w2 (V.int.inj y))]
    refine ⟨.int many, rfl, many, rfl, by omega, by omega, fun D2 nD2 => ?_⟩
    refine lcZ nD2 (WlkZ.range 0 many) _ 4 st6 (fun i H ys => Pls H ys i) (fun i H H' ys w e => e.mono w.tk) (by omega) (Pls.nil _) (fun i x H' ys hi s hx st hY Q1 Q2 k1 k2 => ?_) fun H7 found s7 st7 hD7 D2z D2l hY7 => ?_
    · refine ⟨rfl, .ref z, rfl, .ref z, rfl, .ref D, rfl, z, l, _, D, two, rfl, st, by omega, .inl ⟨s.k _ _ Dz Dl hD6, Dl⟩, by omega, fun v H7 hv s7 st7 => ?_⟩
      obtain ⟨m, hd, hp⟩ := hY6.mem hv
      refine ⟨z, l, _, v, m, rfl, st7, by omega, hd.tmono (s.trans s7).tk, hp, fun v' m' H8 s8 st8 hd' hp' _ => ?_⟩
      exact k1 _ _ (s7.trans s8) (st8.up (by omega)) ((hY.mono (s7.trans s8).tk).snoc hd' hp')
    have szD := szC.trans s7
    have hD7' := s7.k _ _ Dz Dl hD6
    have lenf := hY7.len
    refine ⟨.ref D2, rfl, D2, rfl, ⟨_, SqL.of hD7⟩, fun D3 nD3 => ?_⟩
    refine lcZ nD3 (WlkZ.list hD7 D2z D2l) _ 1 st7 (fun i H ys => Pls H ys i) (fun i H H' ys w e => e.mono w.tk) (by omega) (Pls.nil _) (fun i x H' ys hi s hx st hY Q1 Q2 k1 k2 => ?_) fun H8 ys s8 st8 hD8 _ _ hY8 => ?_
    · have hx' : x ∈ found := List.mem_of_getElem? hx
      obtain ⟨v0, hv0⟩ : ∃ v0, two[0]? = some v0 := ⟨_, List.getElem?_eq_getElem (by omega)⟩
      refine ⟨rfl, .ref z, rfl, x, rfl, .ref D, rfl, D, two, 0, v0, rfl, rfl, SqL.of (s.k _ _ Dz Dl hD7'), atI_nat (j := 0) hv0, by show 2 ≤ sizeLine; decide, fun L nL => ?_⟩
      have sL := same_new (o := HO.lst [x, v0]) nL
      refine ⟨z, l, _, L, [x, v0], rfl, st.same sL, by omega, .inl ⟨upd_same, (st.fresh nL).2⟩, by show 1 ≤ 2 ∧ 2 ≤ 1000; decide, fun v H8 hv s8 st8 => ?_⟩
      have sA := (SZ.of sL).trans s8
      obtain ⟨m, hd, hp⟩ : ∃ m, Dt H8 v (plD m) ∧ Plan m := by
        rcases List.mem_cons.mp hv with e | e
        · subst e
          obtain ⟨m, hd, hp⟩ := hY7.mem hx'
          exact ⟨m, hd.tmono (s.trans sA).tk, hp⟩
        · rw [List.mem_singleton.mp e]
          obtain ⟨m, hd, hp⟩ := hY6.mem (List.mem_of_getElem? hv0)
          exact ⟨m, hd.tmono ((s7.trans s).trans sA).tk, hp⟩
      exact k1 _ _ sA (st8.up (by omega)) ((hY.mono sA.tk).snoc hd hp)
    refine .inl ⟨D3, ys, rfl, SqL.of hD8, fun T5 nT5 => fin _ _ ys T5 (by omega) (szD.trans (s8.trans (SZ.of (same_new nT5)))) (st8.same (same_new nT5)) upd_same (by rw [lenf] at hY8; exact hY8.mono (tk_same (same_new nT5)))⟩
end
end Pk
set_option maxHeartbeats 1000000
/-! max of a tuple of ints. -/
namespace Pk
open PySem PySem.Spec PyProof.Rows L2
section
variable {prog : Program} {w : World} {A : Around} {E : Value → Shared → Prop} {s : Shared} {l : Addr}
theorem max_tupR {xs : Array (Int × Tok)} {Q : Value → Shared → Prop} (hh : A.handled = none) (hl : s.heap.IsTuple l (intItems xs)) (hne : 0 < xs.size)
    (h : ∀ v h' tk, (intItems xs)[argBest (fun i j => decide (numAt xs i > numAt xs j)) (xs.size - 1)]? = some v → (∀ b o, s.heap.get? b = some o → h'.get? b = some o) → Q v { s with heap := h', toks := tk }) :
    wpAny (model prog w) A (call (.builtin "max") [.ref l]) Q E s := by
  have hlt : l < s.heap.objs.size := by
    obtain ⟨_, e, _⟩ := hl
    exact Heap.lt_size e
  refine call_max_walk (wpAny_pyIter_tuple hl ?_)
  refine ⟨_, _, _, _, _, _, _, rfl, Walks.tuple (A := A.in1) hh _ l (Nat.ne_of_lt hlt) (intItems xs), ⟨⟨_, Heap.get?_push_size _ rfl, rfl, rfl⟩, hl.push _⟩, fun b hb => ?_, by simpa [intItems] using hne, CmpOf.ints_gt (numAt xs) (fun _ _ => intItems_at), fun v h' tk hP hk => ?_⟩
  · show b < (s.heap.push _).objs.size
    rw [Heap.size_push]
    rcases List.mem_cons.mp hb with rfl | hb
    · exact Nat.lt_succ_self _
    · rcases List.mem_cons.mp hb with rfl | hb
      · exact Nat.lt_succ_of_lt hlt
      · cases hb
  · refine h v h' tk (by simpa [intItems] using hP) fun b o e => hk b o (fun hm => ?_) (Heap.get?_push_of_some _ e)
    rcases List.mem_cons.mp hm with e1 | hm
    · exact absurd (e1 ▸ Heap.lt_size e) (Nat.lt_irrefl _)
    · cases hm
theorem max_tupI {its : List Value} {ns : List Int} {Q : Value → Shared → Prop} (hh : A.handled = none) (hl : s.heap.IsTuple l its.toArray) (hi : IntsAre its ns) (hne : 0 < ns.length)
    (h : ∀ h' tk M t', (∀ b o, s.heap.get? b = some o → h'.get? b = some o) → M ∈ ns → (∀ a, a ∈ ns → a ≤ M) → Q (.int M t') { s with heap := h', toks := tk }) : wpAny (model prog w) A (call (.builtin "max") [.ref l]) Q E s := by
  obtain ⟨xs, e⟩ := hi.allInts.items
  have hn : numsOf (intItems xs).toList = ns := by rw [← e]; exact hi.numsOf
  rw [nums_intItems] at hn
  subst hn
  rw [e] at hl
  have hsz : 0 < xs.size := by simpa using hne
  refine max_tupR hh hl hsz fun v h' tk hv hk => ?_
  obtain ⟨t, rfl⟩ := intItems_at hv
  obtain ⟨h1, h2⟩ := argBest_gt (numAt xs) (xs.size - 1)
  refine h h' tk _ t hk ?_ fun a ha => ?_
  · rw [numAt_eq]; exact PySem.getD_mem (by rw [List.length_map, Array.length_toList]; omega)
  · obtain ⟨j, hj, rfl⟩ := mem_getD ha
    rw [List.length_map, Array.length_toList] at hj
    rw [← numAt_eq]; exact h2 j (by omega)
end
section
variable {X : Cx}
def rMaxT (K : PySem.W.Frag) : List V → Hp → VK → Prop := fun vs H Q => ∃ (a : Addr) (ns : List Int), vs = [V.ref a] ∧ SqT K H a (ns.map V.int) ∧ 0 < ns.length ∧ ∀ m, m ∈ ns → (∀ y, y ∈ ns → y ≤ m) → Q (.int m) H
theorem cr_maxT (hc : X.calm = true) : CallR X (.builtin "max") (rMaxT X.K) := by
  intro pins s σ H vs us Q I r h
  obtain ⟨a, ns, rfl, hs, hne, q⟩ := h
  obtain ⟨its, rv, hl, _⟩ := I.tuple hs
  rw [Vals.ref1 r]
  exact max_tupI (I.ok.hd hc) (show s.heap.IsTuple a its.toArray from hl) rv.ints hne fun h' tk m t' hk h1 h2 => ⟨.int _, H, I.kept hk, ⟨_, rfl⟩, q m h1 h2⟩
end
end Pk
set_option maxHeartbeats 1000000
namespace Pk
open PySem PySem.Spec PyProof.Rows L2
/-! ### a book of given sizes -/
def sp_law_sized_book : Sp := fun vs H Q _ => ∃ (z l : Addr) (t : Nat) (a : Addr) (ns : List Int) (wide : Nat), vs = [.ref z, .ref a, .int wide] ∧ LSt z l t H ∧ t + 300 ≤ 1000000 ∧ H a = some (.tup (ns.map V.int)) ∧ (1 ≤ ns.length ∧ ns.length ≤ 16) ∧ (∀ x, x ∈ ns → 0 ≤ x ∧ x ≤ wide) ∧ wide ≤ 8 ∧
  ∀ v b H', SZ z l H H' → LSt z l (t + 300) H' → Dt H' v (bkD b) → Book b → szs b = ns → Q v H'
/-- the values of a list are plans of the sizes ns -/
def Plz (H : Hp) (ys : List V) (ns : List Int) : Prop := ∃ b : List (List Pair), DtAll H ys (b.map plD) ∧ szs b = ns ∧ ∀ m, m ∈ b → Plan m
theorem Plz.nil (H : Hp) : Plz H [] [] := ⟨[], .nil, rfl, fun _ h => absurd h List.not_mem_nil⟩
theorem Plz.mono {H H' : Hp} {ys : List V} {ns : List Int} (k : Tk H H') (h : Plz H ys ns) : Plz H' ys ns :=
  let ⟨b, h1, h2, h3⟩ := h
  ⟨b, h1.tmono k, h2, h3⟩
theorem Plz.snoc {H : Hp} {ys : List V} {ns : List Int} {v : V} {m : List Pair} (h : Plz H ys ns) (hd : Dt H v (plD m)) (hp : Plan m) : Plz H (ys ++ [v]) (ns ++ [(m.length : Int)]) := by
  obtain ⟨b, h1, h2, h3⟩ := h
  refine ⟨b ++ [m], by rw [List.map_append]; exact h1.app (.one hd), by rw [← h2]; simp [szs], fun q hq => ?_⟩
  rcases List.mem_append.mp hq with e | e
  · exact h3 q e
  · rw [List.mem_singleton.mp e]
    exact hp
theorem Plz.at {H : Hp} {ys : List V} {ns : List Int} {i : Nat} {v : V} (h : Plz H ys ns) (hv : ys[i]? = some v) : ∃ m, Dt H v (plD m) ∧ Plan m ∧ ns[i]? = some (m.length : Int) := by
  obtain ⟨b, h1, h2, h3⟩ := h
  obtain ⟨m, hm, hd⟩ := h1.plan hv
  refine ⟨m, hd, h3 m (List.mem_of_getElem? hm), ?_⟩
  rw [← h2]
  simp [szs, hm]
theorem Plz.len {H : Hp} {ys : List V} {ns : List Int} (h : Plz H ys ns) : ys.length = ns.length := by
  obtain ⟨b, h1, h2, _⟩ := h
  rw [h1.len, List.length_map, ← h2]
  simp [szs]
theorem take_snoc {α : Type} {l : List α} {i : Nat} {x : α} (h : l[i]? = some x) : l.take (i + 1) = l.take i ++ [x] := by
  rw [List.take_succ, h]
  rfl
theorem join2 {α : Type} {goal : Prop} (R : α → Hp → Prop) {G : α → Hp → Prop} (main : (∀ p H', R p H' → G p H') → goal) (k : ∀ p H', R p H' → G p H') : goal := main k
section
variable {P : Program} {w : World} {K : PySem.W.Frag} {mg : Str → Option Value} {base : Heap}
theorem ok_law_sized_book {f : Addr} {fd : FuncData} (F : Fun K "_law_sized_book" "_law_sized_book" s__law_sized_book f fd) (G : Glob mg) (C_law_draw : Cal P w K mg base CX0 1 "_law_draw" ["_law_state", "_law_size_here"] sp_law_draw)
    (C_law_pick : Cal P w K mg base CX0 2 "_law_pick" ["_law_state", "_law_several"] sp_law_pick)
    (C_law_plan : Cal P w K mg base CX0 3 "_law_plan" ["_law_state", "_law_many", "_law_most"] sp_law_plan)
    (C_law_sub : Cal P w K mg base CX0 3 "_law_sub" ["_law_state", "_law_told", "_law_many"] sp_law_sub)
    (C_law_ring_in : Cal P w K mg base CX0 3 "_law_ring_in" ["_law_state", "_law_many", "_law_wide"] sp_law_ring_in)
    (C_law_near_plan : Cal P w K mg base CX0 3 "_law_near_plan" ["_law_state", "_law_told"] sp_law_near_plan) : FnOk P w K mg base CX0 4 f fd ["_law_state", "_law_sizes_here", "_law_wide"] sp_law_sized_book := by
  refine F.ok c__law_sized_book (fun vs H Q E h => ?_) (fun cdv A0 outer s H vs Q E hr h => ?_)
  · obtain ⟨z, l, t, a, ns, wide, rfl, _⟩ := h
    rfl
  · obtain ⟨z, l, t, a, ns, wide, rfl, hst, ht, ha, hnl, hns, hw, q⟩ := h
    refine ⟨_, 
      (pss_cons (ps_asg (pe_tup (pa_cons (pe_cal C_law_draw hr pass0 (pa_cons (pv 0) (pa_cons pe_int pa_nil))) (pa_cons (pe_callB (cr_maxT rfl) (by rfl) G.max PyProof.Rows.boot_max (pa_cons (pv 1) pa_nil)) pa_nil))) (pgT K (n := 2) rfl (pgs_cons (pg_name (i := 3) c__law_sized_book.nd rfl (.inl rfl)) (pgs_cons (pg_name (i := 4) c__law_sized_book.nd rfl (.inr rfl)) pgs_nil))))
      (pss_cons (ps_if (pt_cmpR op_eq (pv 3) pe_int (nomark _)) 
          (pss_one (ps_ret (pe_tupleOf rfl G.tuple (pe_lc (own := [("_law_size_here", 5)]) rfl c__law_sized_book.nd (pi_tup (pv 1)) (blkOk_by (own := [("_law_size_here", 5)]) (N := n__law_sized_book) (sc := defScope s__law_sized_book) (by decide +kernel)) (fun _ _ _ _ _ => (pg_name (i := 5) c__law_sized_book.nd rfl (.inl rfl))) (fun _ _ _ _ _ => pts_nil) (fun _ _ _ _ _ => (pe_cal C_law_plan hr pass0 (pa_cons (pv 0) (pa_cons (pv 5) (pa_cons (pv 2) pa_nil))))))))) pss_nil)
      (pss_cons (ps_set (i := 7) c__law_sized_book.nd rfl (.inr rfl) (pe_ifExp (PW.pt (pw_and (pt_cmpR op_gt (pv 4) pe_int (nomark _)) (pw_and1 (pt_cmpR op_lt (pv 3) pe_int (nomark _))))) (pe_cal C_law_ring_in hr pass0 (pa_cons (pv 0) (pa_cons (pv 4) (pa_cons (pv 2) pa_nil)))) (pe_lc (own := [("_law_lap", 6)]) rfl c__law_sized_book.nd (pi_range1 rfl G.range (pa_cons pe_int pa_nil)) (blkOk_by (own := [("_law_lap", 6)]) (N := n__law_sized_book) (sc := defScope s__law_sized_book) (by decide +kernel)) (fun _ _ _ _ _ => (pg_name (i := 6) c__law_sized_book.nd rfl (.inl rfl))) (fun _ _ _ _ _ => pts_nil) (fun _ _ _ _ _ => (pe_cal C_law_plan hr pass0 (pa_cons (pv 0) (pa_cons (pv 4) (pa_cons (pv 2) pa_nil))))))))
      (pss_cons (ps_setLc (i := 8) (own := [("_law_size_here", 5)]) rfl c__law_sized_book.nd rfl rfl (sw_true rfl rfl rfl (by decide +kernel)) (pi_tup (pv 1)) (blkOk_by (own := [("_law_size_here", 5)]) (N := n__law_sized_book) (sc := defScope s__law_sized_book) (by decide +kernel)) (fun _ _ _ _ _ => (pg_name (i := 5) c__law_sized_book.nd rfl (.inl rfl))) (fun _ _ _ _ _ => pts_nil) (fun _ _ _ _ _ => (pe_cal C_law_sub hr pass0 (pa_cons (pv 0) (pa_cons (pe_cal C_law_pick hr pass0 (pa_cons (pv 0) (pa_cons (pv 7) pa_nil))) (pa_cons (pv 5) pa_nil))))))
      (pss_cons (ps_if (pt_cmpR op_eq (pv 3) pe_int (nomark _)) 
          (pss_one (ps_setLc (i := 8) (own := [("_law_told", 9)]) rfl c__law_sized_book.nd rfl rfl (sw_true rfl rfl rfl (by decide +kernel)) (piLK K (pv 8)) (blkOk_by (own := [("_law_told", 9)]) (N := n__law_sized_book) (sc := defScope s__law_sized_book) (by decide +kernel)) (fun _ _ _ _ _ => (pg_name (i := 9) c__law_sized_book.nd rfl (.inl rfl))) (fun _ _ _ _ _ => pts_nil) (fun _ _ _ _ _ => (pe_ifExp (pt_cmpR op_eq (pe_cal C_law_draw hr pass0 (pa_cons (pv 0) (pa_cons pe_int pa_nil))) pe_int (nomark _)) (pe_cal C_law_near_plan hr pass0 (pa_cons (pv 0) (pa_cons (pv 9) pa_nil))) (pv 9))))) pss_nil)
      (pss_one (ps_ret (pe_tupleOf rfl G.tuple (pv 8))))))))), ?_⟩
    have lm : (ns.map V.int).length = ns.length := List.length_map ..
    refine ⟨.ref z, rfl, z, l, t, 4, rfl, hst, by omega, by omega, fun r1 H1 hr1 s1 st1 => ?_⟩
    refine ⟨.ref a, rfl, a, ns, rfl, SqT.of (s1.tk _ _ ha), hnl.1, fun g hg hge => ?_⟩
    obtain ⟨greatest, hgr⟩ : ∃ greatest : Nat, g = greatest := ⟨g.toNat, by have := hns g hg; omega⟩
    subst hgr
    have bg : greatest ≤ wide := by
      have := (hns _ hg).2
      omega
    refine ⟨by show 2 ≤ sizeLine; decide, fun T nT => ?_⟩
    have s2 := same_new (o := HO.tup [V.int r1, V.int greatest]) nT
    have hT := upd_same (H := H1) (a := T) (o := HO.tup [V.int r1, V.int greatest])
    have szA := s1.trans (SZ.of s2)
    have stA := st1.same s2
    generalize upd H1 T (HO.tup [V.int r1, V.int greatest]) = H2 at hT szA stA ⊢
    have fin : ∀ (t' : Nat) (H' : Hp) (ys : List V) (T : Addr), t' ≤ t + 300 → SZ z l H H' → LSt z l t' H' → H' T = some (.tup ys) → Plz H' ys ns → Q (.ref T) H' := fun t' H' ys T htt sz st hT ⟨b, h1, h2, h3⟩ => q _ b H' sz (st.up htt) (.tup hT h1) ⟨by
      have : b.length = ns.length := by rw [← h2]; simp [szs]
      omega, h3⟩ h2
    refine ⟨T, _, rfl, SqT.of hT, rfl, _, _, rfl, _, _, rfl, rfl, .int r1, rfl, rfl, _, rfl, ?_⟩
    have ha2 := szA.tk _ _ ha
    have nat : ∀ {i : Nat} {x : V}, (ns.map V.int)[i]? = some x → ∃ k : Nat, x = .int k ∧ ns[i]? = some (k : Int) ∧ k ≤ wide ∧ k ≤ greatest := fun {i x} hx => by
      rw [List.getElem?_map] at hx
      cases hn : ns[i]? with
      | none => rw [hn] at hx; cases hx
      | some y =>
        rw [hn] at hx
        cases hx
        have hm := List.mem_of_getElem? hn
        have h1 := hns y hm
        have h2 := hge y hm
        exact ⟨y.toNat, by rw [Int.toNat_of_nonneg h1.1], by rw [Int.toNat_of_nonneg h1.1], by omega, by omega⟩
    by_cases w0 : r1 = 0
    · rw [decide_eq_true (by rw [w0])]
      refine ⟨.ref a, rfl, a, rfl, ⟨_, SqT.of ha2⟩, fun D nD => ?_⟩
      refine lcZ nD (WlkZ.tup ha2) _ 16 stA (fun i H ys => Plz H ys (ns.take i)) (fun i H H' ys w e => e.mono w.tk) (by omega) (Plz.nil _) (fun i x H' ys hi s hx st hY Q1 Q2 k1 k2 => ?_) fun H5 ys s5 st5 hD5 Dz Dl hY5 => ?_
      · obtain ⟨k, rfl, hk, kw, kg⟩ := nat hx
        refine ⟨rfl, .ref z, rfl, .int k, rfl, .int wide, rfl, z, l, _, k, wide, rfl, st, by omega, by omega, fun v m H6 s6 st6 hd hp hml => ?_⟩
        refine k1 _ _ s6 (st6.up (by omega)) ?_
        rw [take_snoc hk]
        have e : m.length = k := by omega
        rw [← e]
        exact (hY.mono s6.tk).snoc hd hp
      rw [lm, List.take_length] at hY5
      refine .inl ⟨D, ys, rfl, SqL.of hD5, fun T5 nT5 => fin _ _ ys T5 (by omega) (szA.trans (s5.trans (SZ.of (same_new nT5)))) (st5.same (same_new nT5)) upd_same (hY5.mono (tk_same (same_new nT5)))⟩
    rw [decide_eq_false (fun y => w0 (V.int.inj y))]
    apply join2 (fun (p : Addr) H' => ∃ xs, SZ z l H2 H' ∧ LSt z l (t + 1 + 32) H' ∧ LT l H' p xs ∧ xs.length = 2 ∧ ∀ v, v ∈ xs → ∃ m, Dt H' v (plD m) ∧ Plan m ∧ m.length = greatest)
    case main =>
      intro cont
      refine ⟨.int greatest, rfl, greatest, 1, rfl, rfl, _, rfl, ite2 (fun e => ⟨.int r1, rfl, r1, 3, rfl, rfl, _, rfl, ite2 (fun e => ?A) (fun e => ?B1)⟩) (fun e => ?B2)⟩
      case A =>
        refine ⟨.ref z, rfl, .int greatest, rfl, .int wide, rfl, z, l, _, greatest, wide, rfl, stA, by omega, hw, bg, fun p v1 v2 m1 m2 H5 s5 st5 hp h1 h2 p1 p2 l1 l2 => ?_⟩
        refine cont p H5 ⟨[v1, v2], s5, st5.up (by omega), .inr hp, rfl, fun v hv => ?_⟩
        rcases List.mem_cons.mp hv with e | e
        · exact ⟨m1, e ▸ h1, p1, l1⟩
        · exact ⟨m2, List.mem_singleton.mp e ▸ h2, p2, l2⟩
      case B1 | B2 =>
        refine ⟨2, rfl, by omega, by omega, fun D nD => ?_⟩
        refine lcZ nD (WlkZ.range 0 2) _ 16 stA (fun i H ys => ys.length = i ∧ ∀ v, v ∈ ys → ∃ m, Dt H v (plD m) ∧ Plan m ∧ m.length = greatest) (fun i H H' ys w ⟨e, h⟩ => ⟨e, fun v hv => let ⟨m, h1, h2⟩ := h v hv; ⟨m, h1.tmono w.tk, h2⟩⟩) (by omega) ⟨rfl, fun v hv => absurd hv List.not_mem_nil⟩ (fun i x H' ys hi s hx st hY Q1 Q2 k1 k2 => ?_) fun H6 two s6 st6 hD6 Dz Dl hY6 => ?_
        · refine ⟨rfl, .ref z, rfl, .int greatest, rfl, .int wide, rfl, z, l, _, greatest, wide, rfl, st, by omega, by omega, fun v m H6 s6 st6 hd hp hml => ?_⟩
          refine k1 _ _ s6 (st6.up (by omega)) ⟨by rw [List.length_append, hY.1]; rfl, fun u hu => ?_⟩
          rcases List.mem_append.mp hu with e | e
          · obtain ⟨m, h1, h2⟩ := hY.2 u e
            exact ⟨m, h1.tmono s6.tk, h2⟩
          · rw [List.mem_singleton.mp e]
            exact ⟨m, hd, hp, by omega⟩
        · exact cont D H6 ⟨two, s6, st6.up (by omega), .inl ⟨hD6, Dl⟩, hY6.1, hY6.2⟩
    case k =>
      intro p H5 ⟨two, s5, st5, lt5, two2, htwo⟩
      have ha5 := s5.tk _ _ ha2
      refine ⟨.ref a, rfl, a, rfl, ⟨_, SqT.of ha5⟩, fun D nD => ?_⟩
      refine lcZ nD (WlkZ.tup ha5) _ 9 st5 (fun i H ys => Plz H ys (ns.take i)) (fun i H H' ys w e => e.mono w.tk) (by omega) (Plz.nil _) (fun i x H' ys hi s hx st hY Q1 Q2 k1 k2 => ?_) fun H6 found s6 st6 hD6 Dz Dl hY6 => ?_
      · obtain ⟨k, rfl, hk, kw, kg⟩ := nat hx
        refine ⟨rfl, .ref z, rfl, .ref z, rfl, .ref p, rfl, z, l, _, p, two, rfl, st, by omega, lt5.sz st5 s, by omega, fun v H6 hv s6 st6 => ?_⟩
        obtain ⟨m, hd, hp, hml⟩ := htwo v hv
        refine ⟨.int k, rfl, z, l, _, v, m, k, rfl, st6, by omega, hd.tmono (s.trans s6).tk, hp, by omega, fun v' m' H7 s7 st7 hd' hp' hl' => ?_⟩
        refine k1 _ _ (s6.trans s7) (st7.up (by omega)) ?_
        rw [take_snoc hk, ← hl']
        exact (hY.mono (s6.trans s7).tk).snoc hd' hp'
      rw [lm, List.take_length] at hY6
      have lenf := hY6.len
      have szB := (szA.trans s5).trans s6
      refine ⟨.int r1, rfl, rfl, _, rfl, ?_⟩
      by_cases w2 : r1 = 2
      · rw [decide_eq_true (by rw [w2])]
        refine ⟨.ref D, rfl, D, rfl, ⟨_, SqL.of hD6⟩, fun D2 nD2 => ?_⟩
        refine lcZ nD2 (WlkZ.list hD6 Dz Dl) _ 4 st6 (fun i H ys => Plz H ys (ns.take i)) (fun i H H' ys w e => e.mono w.tk) (by omega) (Plz.nil _) (fun i x H' ys hi s hx st hY Q1 Q2 k1 k2 => ?_) fun H7 ys s7 st7 hD7 _ _ hY7 => ?_
        · obtain ⟨m, hd, hp, hk⟩ := hY6.at hx
          have hd' := hd.tmono s.tk
          refine ⟨rfl, .ref z, rfl, z, l, _, 4, rfl, st, by omega, by omega, fun r7 H7 hr7 s7 st7 => ⟨rfl, _, rfl, ?_⟩⟩
          by_cases w3 : r7 = 0
          · rw [decide_eq_true (by rw [w3])]
            refine ⟨.ref z, rfl, x, rfl, z, l, _, x, m, rfl, st7, by omega, hd'.tmono s7.tk, hp, fun v' m' H8 s8 st8 hd8 hp8 hl8 => ?_⟩
            refine k1 _ _ (s7.trans s8) (st8.up (by omega)) ?_
            rw [take_snoc hk, ← hl8]
            exact (hY.mono (s7.trans s8).tk).snoc hd8 hp8
          · rw [decide_eq_false (fun y => w3 (V.int.inj y))]
            refine ⟨x, rfl, k1 _ _ s7 (st7.up (by omega)) ?_⟩
            rw [take_snoc hk]
            exact (hY.mono s7.tk).snoc (hd'.tmono s7.tk) hp
        rw [lenf, List.take_length] at hY7
        refine ⟨.ref D2, rfl, .inl ⟨D2, ys, rfl, SqL.of hD7, fun T5 nT5 => fin _ _ ys T5 (by omega) (szB.trans (s7.trans (SZ.of (same_new nT5)))) (st7.same (same_new nT5)) upd_same (hY7.mono (tk_same (same_new nT5)))⟩⟩
      · rw [decide_eq_false (fun y => w2 (V.int.inj y))]
        refine ⟨.ref D, rfl, .inl ⟨D, found, rfl, SqL.of hD6, fun T5 nT5 => fin _ _ found T5 (by omega) (szB.trans (SZ.of (same_new nT5))) (st6.same (same_new nT5)) upd_same (hY6.mono (tk_same (same_new nT5)))⟩⟩
end
end Pk
set_option maxHeartbeats 1000000
namespace Pk
open PySem PySem.Spec PyProof.Rows L2
/-! ### drawn sizes that rise -/
def sp_law_rising : Sp := fun vs H Q _ => ∃ (z l : Addr) (t n : Nat), vs = [.ref z, .int n] ∧ LSt z l t H ∧ t + 40 ≤ 1000000 ∧ (1 ≤ n ∧ n ≤ 6) ∧
  ∀ a ns H', SZ z l H H' → LSt z l (t + 40) H' → H' a = some (.tup (ns.map V.int)) → (1 ≤ ns.length ∧ ns.length ≤ 16) → (∀ x, x ∈ ns → 0 ≤ x ∧ x ≤ (n : Int)) → Rises ns n → Q (.ref a) H'
def rzI (n : Nat) : List Int := (List.range (n - 1)).map fun i : Nat => 1 + (i : Int)
def rz (n : Nat) : List Int := rzI n ++ List.replicate n (n : Int)
theorem rgV_rz (n : Nat) : rgV 1 (n : Int) = (rzI n).map V.int := by
  unfold rgV rzI
  rw [List.map_map, show ((n : Int) - 1).toNat = n - 1 by omega]
  rfl
theorem flat_one {α : Type} (n : Nat) (x : α) : (List.replicate n [x]).flatten = List.replicate n x := by
  induction n with
  | zero => rfl
  | succ n ih => rw [List.replicate_succ, List.flatten_cons, ih]; rfl
theorem rz_cnt : ∀ n : Nat, n < 7 → ∀ c : Nat, c < 7 → 1 ≤ c → c ≤ n → 2 * n - c ≤ cntGe (rz n) c := by decide
theorem rz_len (n : Nat) (h : 1 ≤ n) : (rz n).length = 2 * n - 1 := by
  unfold rz rzI
  rw [List.length_append, List.length_map, List.length_range, List.length_replicate]
  omega
theorem rz_mem {n : Nat} {x : Int} (h : x ∈ rz n) (hn : 1 ≤ n) : 1 ≤ x ∧ x ≤ n := by
  rcases List.mem_append.mp h with h | h
  · obtain ⟨i, hi, rfl⟩ := List.mem_map.mp h
    have := List.mem_range.mp hi
    omega
  · rw [(List.mem_replicate.mp h).2]
    omega
theorem rz_rises {n : Nat} (h : n ≤ 6) : Rises (rz n) n := fun c h1 h2 => by
  obtain ⟨k, rfl⟩ : ∃ k : Nat, c = k := ⟨c.toNat, by omega⟩
  have := rz_cnt n (by omega) k (by omega) (by omega) (by omega)
  omega
theorem cntGe_app (l m : List Int) (c : Int) : cntGe (l ++ m) c = cntGe l c + cntGe m c := by
  unfold cntGe
  rw [List.filter_append, List.length_append]
theorem cntGe_one_le {x y : Int} (h : x ≤ y) (c : Int) : cntGe [x] c ≤ cntGe [y] c := by
  unfold cntGe
  by_cases hx : c ≤ x
  · rw [List.filter_cons_of_pos (by simpa using hx), List.filter_cons_of_pos (by simp; omega)]
    exact Nat.le_refl _
  · rw [List.filter_cons_of_neg (by simpa using hx)]
    exact Nat.zero_le _
section
variable {P : Program} {w : World} {K : PySem.W.Frag} {mg : Str → Option Value} {base : Heap}
theorem ok_law_rising {f : Addr} {fd : FuncData} (F : Fun K "_law_rising" "_law_rising" s__law_rising f fd) (G : Glob mg) (C_law_draw : Cal P w K mg base CX0 1 "_law_draw" ["_law_state", "_law_size_here"] sp_law_draw)
    (C_law_mixed : Cal P w K mg base CX0 2 "_law_mixed" ["_law_state", "_law_several"] sp_law_mixed) : FnOk P w K mg base CX0 3 f fd ["_law_state", "_law_number"] sp_law_rising := by
  refine F.ok c__law_rising (fun vs H Q E h => ?_) (fun cdv A0 outer s H vs Q E hr h => ?_)
  · obtain ⟨z, l, t, n, rfl, _⟩ := h
    rfl
  · obtain ⟨z, l, t, n, rfl, hst, ht, hn, q⟩ := h
    refine ⟨_, 
      (pss_cons (ps_set (i := 2) c__law_rising.nd rfl (.inl rfl) (pe_op op_cat (pe_listRg rfl rfl G.list (prg_2 rfl G.range pe_int (pv 1))) (pe_op op_rep (pe_lst (pa_cons (pv 1) pa_nil)) (pv 1))))
      (pss_cons (ps_if (pt_cmpR op_eq (pe_cal C_law_draw hr pass0 (pa_cons (pv 0) (pa_cons pe_int pa_nil))) pe_int (nomark _)) 
          (pss_one (ps_setLc (i := 2) (own := [("_law_size_here", 3)]) rfl c__law_rising.nd rfl rfl (sw_true rfl rfl rfl (by decide +kernel)) (piLK K (pv 2)) (blkOk_by (own := [("_law_size_here", 3)]) (N := n__law_rising) (sc := defScope s__law_rising) (by decide +kernel)) (fun _ _ _ _ _ => (pg_name (i := 3) c__law_rising.nd rfl (.inl rfl))) (fun _ _ _ _ _ => pts_nil) (fun _ _ _ _ _ => (pe_op op_add (pv 3) (pe_cal C_law_draw hr pass0 (pa_cons (pv 0) (pa_cons (pe_op op_add (pe_op op_sub (pv 1) (pv 3)) pe_int) pa_nil))))))) pss_nil)
      (pss_cons (ps_set (i := 4) c__law_rising.nd rfl (.inl rfl) (pe_ifExp (pt_cmpR op_lt (pe_callB (lenS K) (by rfl) G.len PySem.boot_len (pa_cons (pv 2) pa_nil)) pe_int (nomark _)) (pe_cal C_law_draw hr pass0 (pa_cons (pv 0) (pa_cons pe_int pa_nil))) pe_int))
      (pss_one (ps_ret (pe_tupleOf rfl G.tuple (pe_cal C_law_mixed hr pass0 (pa_cons (pv 0) (pa_cons (pe_op op_cat (pv 2) (pe_lc (own := [("_law_lap", 5)]) rfl c__law_rising.nd (pi_range1 rfl G.range (pa_cons (pv 4) pa_nil)) (blkOk_by (own := [("_law_lap", 5)]) (N := n__law_rising) (sc := defScope s__law_rising) (by decide +kernel)) (fun _ _ _ _ _ => (pg_name (i := 5) c__law_rising.nd rfl (.inl rfl))) (fun _ _ _ _ _ => pts_nil) (fun _ _ _ _ _ => (pe_cal C_law_draw hr pass0 (pa_cons (pv 0) (pa_cons (pe_op op_add (pv 1) pe_int) pa_nil)))))) pa_nil))))))))), ?_⟩
    refine ⟨.int n, rfl, 1, n, rfl, rfl, RgOk.of_le (by omega) (by omega) (by omega) (by omega), fun a1 na1 => ?_⟩
    refine ⟨.int n, rfl, by show 1 ≤ sizeLine; decide, fun a2 na2 => ?_⟩
    have s1 := same_new (o := HO.lst (rgV 1 (n : Int))) na1
    have s2 := same_new (o := HO.lst [V.int n]) na2
    refine ⟨.int n, rfl, a2, n, [.int n], rfl, rfl, upd_same, by omega, by omega, by rw [sizeLine_eq]; show 1 * n ≤ _; omega, fun a3 na3 => ?_⟩
    have s3 := same_new (o := HO.lst (List.replicate (n : Int).toNat [V.int n]).flatten) na3
    have h1 := s3 _ _ (s2 _ _ (upd_same (H := H) (a := a1) (o := HO.lst (rgV 1 (n : Int)))))
    have h3 := upd_same (H := upd (upd H a1 (HO.lst (rgV 1 (n : Int)))) a2 (HO.lst [V.int n])) (a := a3) (o := HO.lst (List.replicate (n : Int).toNat [V.int n]).flatten)
    have s13 := s1.trans (s2.trans s3)
    generalize upd (upd (upd H a1 (HO.lst (rgV 1 (n : Int)))) a2 (HO.lst [V.int n])) a3 (HO.lst (List.replicate (n : Int).toNat [V.int n]).flatten) = H3 at h1 h3 s13 ⊢
    rw [rgV_rz] at h1
    rw [Int.toNat_natCast, flat_one] at h3
    have lz := rz_len n hn.1
    have eqz : (rzI n).map V.int ++ List.replicate n (V.int n) = (rz n).map V.int := by
      unfold rz
      rw [List.map_append, List.map_replicate]
    refine ⟨a1, a3, _, _, rfl, rfl, h1, h3, by rw [← List.length_append, eqz, List.length_map, lz, sizeLine_eq]; omega, fun a4 na4 => ?_⟩
    rw [eqz]
    have s4 := same_new (o := HO.lst ((rz n).map V.int)) na4
    have h4 := upd_same (H := H3) (a := a4) (o := HO.lst ((rz n).map V.int))
    have stA := (hst.same s13).same s4
    have szA : SZ z l H _ := SZ.of (s13.trans s4)
    have f4 := (hst.same s13).fresh na4
    generalize upd H3 a4 (HO.lst ((rz n).map V.int)) = H4 at h4 stA szA ⊢
    have lm : ((rz n).map V.int).length = 2 * n - 1 := (List.length_map ..).trans lz
    refine ⟨.ref z, rfl, z, l, t, 2, rfl, stA, by omega, by omega, fun r1 H5 hr1 s5 st5 => ⟨rfl, _, rfl, ?_⟩⟩
    have h5 := s5.k _ _ f4.1 f4.2 h4
    apply join2 (fun (p : Addr) H' => ∃ es : List Int, SZ z l H5 H' ∧ LSt z l (t + 1 + 11) H' ∧ H' p = some (.lst (es.map V.int)) ∧ p ≠ z ∧ p ≠ l ∧ es.length = 2 * n - 1 ∧ (∀ x, x ∈ es → 0 ≤ x ∧ x ≤ (n : Int)) ∧ Rises es n)
    case main =>
      intro cont
      by_cases w0 : r1 = 0
      · rw [decide_eq_true (by rw [w0])]
        refine ⟨.ref a4, rfl, a4, rfl, ⟨_, SqL.of h5⟩, fun D nD => ?_⟩
        refine lcZ nD (WlkZ.list h5 f4.1 f4.2) _ 1 st5 (fun i H ys => ∃ es : List Int, ys = es.map V.int ∧ es.length = i ∧ (∀ x, x ∈ es → 0 ≤ x ∧ x ≤ (n : Int)) ∧ ∀ c, cntGe ((rz n).take i) c ≤ cntGe es c) (fun i H H' ys w e => e) (by omega) ⟨[], rfl, rfl, fun _ h => absurd h List.not_mem_nil, fun c => Nat.zero_le _⟩ (fun i x H' ys hi s hx st hY Q1 Q2 k1 k2 => ?_) fun H6 ys s6 st6 hD6 Dz Dl hY6 => ?_
        · obtain ⟨es, rfl, hel, hem, hec⟩ := hY
          rw [List.getElem?_map] at hx
          obtain ⟨k, hk, rfl⟩ := Option.map_eq_some_iff.mp hx
          have bk := rz_mem (List.mem_of_getElem? hk) hn.1
          refine ⟨rfl, .int k, rfl, .ref z, rfl, .int n, rfl, .int k, rfl, n, k, rfl, rfl, _, 1, rfl, rfl, z, l, _, (n : Int) - k + 1, rfl, st, by omega, by omega, fun r7 H7 hr7 s7 st7 => ⟨k, r7, rfl, rfl, ?_⟩⟩
          refine k1 _ _ s7 (st7.up (by omega)) ⟨es ++ [k + r7], by rw [List.map_append]; rfl, by rw [List.length_append, hel]; rfl, fun x hx => ?_, fun c => ?_⟩
          · rcases List.mem_append.mp hx with e | e
            · exact hem x e
            · rw [List.mem_singleton.mp e]
              omega
          · rw [take_snoc hk, cntGe_app, cntGe_app]
            have h1 := hec c
            have h2 := cntGe_one_le (show k ≤ k + r7 by omega) c
            omega
        · obtain ⟨es, rfl, hel, hem, hec⟩ := hY6
          rw [lm] at hel
          refine cont D H6 ⟨es, s6, st6.up (by omega), hD6, Dz, Dl, hel, hem, fun c h1 h2 => ?_⟩
          have h3 := rz_rises hn.2 c h1 h2
          have h4 := hec c
          rw [lm, ← lz, List.take_length] at h4
          omega
      · rw [decide_eq_false (fun y => w0 (V.int.inj y))]
        refine cont a4 H5 ⟨rz n, SZ.refl, st5.up (by omega), h5, f4.1, f4.2, lz, fun x hx => ?_, rz_rises hn.2⟩
        have := rz_mem hx hn.1
        omega
    case k =>
      intro p H6 ⟨es, s6, st6, hp, pz, pl, hel, hem, hri⟩
      have lme : (es.map V.int).length = 2 * n - 1 := (List.length_map ..).trans hel
      refine ⟨.ref p, rfl, p, _, rfl, .inl (SqL.of hp), (((es.map V.int).length : Nat) : Int), 14, rfl, rfl, _, rfl, ite2 (fun _ => ?_) (fun e => absurd e (by rw [lme]; simp; omega))⟩
      refine ⟨.ref z, rfl, z, l, _, 3, rfl, st6, by omega, by omega, fun r2 H7 hr2 s7 st7 => ?_⟩
      obtain ⟨extra, hex⟩ : ∃ extra : Nat, r2 = extra := ⟨r2.toNat, by omega⟩
      subst hex
      have hp7 := s7.k _ _ pz pl hp
      refine ⟨.ref z, rfl, .ref p, rfl, .int extra, rfl, extra, rfl, by omega, by omega, fun D nD => ?_⟩
      refine lcZ nD (WlkZ.range 0 extra) _ 1 st7 (fun i H ys => ∃ fs : List Int, ys = fs.map V.int ∧ fs.length = i ∧ ∀ x, x ∈ fs → 0 ≤ x ∧ x ≤ (n : Int)) (fun i H H' ys w e => e) (by omega) ⟨[], rfl, rfl, fun _ h => absurd h List.not_mem_nil⟩ (fun i x H' ys hi s hx st hY Q1 Q2 k1 k2 => ?_) fun H8 ys s8 st8 hD8 Dz Dl hY8 => ?_
      · obtain ⟨fs, rfl, hfl, hfm⟩ := hY
        refine ⟨rfl, .ref z, rfl, .int n, rfl, n, 1, rfl, rfl, z, l, _, (n : Int) + 1, rfl, st, by omega, by omega, fun r7 H7 hr7 s7 st7 => ?_⟩
        refine k1 _ _ s7 (st7.up (by omega)) ⟨fs ++ [r7], by rw [List.map_append]; rfl, by rw [List.length_append, hfl]; rfl, fun x hx => ?_⟩
        rcases List.mem_append.mp hx with e | e
        · exact hfm x e
        · rw [List.mem_singleton.mp e]
          omega
      obtain ⟨fs, rfl, hfl, hfm⟩ := hY8
      have hp8 := s8.k _ _ pz pl hp7
      have lmf : (fs.map V.int).length = extra := (List.length_map ..).trans hfl
      refine ⟨p, D, _, _, rfl, rfl, hp8, hD8, by rw [lme, lmf, sizeLine_eq]; omega, fun cc ncc => ?_⟩
      have s9 := same_new (o := HO.lst (es.map V.int ++ fs.map V.int)) ncc
      have lall : (es.map V.int ++ fs.map V.int).length = 2 * n - 1 + extra := by rw [List.length_append, lme, lmf]
      refine ⟨z, l, _, cc, _, (es ++ fs).map PyData.int, rfl, st8.same s9, by rw [lall]; omega, .inl ⟨upd_same, (st8.fresh ncc).2⟩, by rw [← List.map_append]; exact DtAll.of_ints _, okD_ints _, by rw [lall]; omega, fun m ys ds H9 sA stB hm _ hdm hpm => ?_⟩
      obtain ⟨ns, hns, rfl⟩ := perm_map _ ds (es ++ fs) hpm
      have e := hdm.ints
      subst e
      have lns : ns.length = 2 * n - 1 + extra := by rw [hns.length_eq, List.length_append, hel, hfl]
      refine .inl ⟨m, _, rfl, SqL.of hm, fun T nT => q T ns _ ((((szA.trans s5).trans s6).trans (s7.trans s8)).trans ((SZ.of s9).trans (sA.trans (SZ.of (same_new nT))))) ((stB.same (same_new nT)).up (by rw [lall]; omega)) upd_same (by omega) (fun x hx => ?_) fun c h1 h2 => ?_⟩
      · rcases List.mem_append.mp (hns.subset hx) with e | e
        · exact hem x e
        · exact hfm x e
      · rw [cntGe_perm hns, cntGe_app]
        have := hri c h1 h2
        omega
end
end Pk
set_option maxHeartbeats 1000000
namespace Pk
open PySem PySem.Spec PyProof.Rows L2
/-! ### what is no number of pairs -/
def sp_law_wrong_number : Sp := fun vs H Q _ => ∃ (z l : Addr) (t : Nat), vs = [.ref z] ∧ LSt z l t H ∧ t ≤ 1000000 ∧
  ∀ v a H', SZ z l H H' → LSt z l (t + 1) H' → Av H' v a → a.bet 1 8 = false → Q v H'
section
variable {P : Program} {w : World} {K : PySem.W.Frag} {mg : Str → Option Value} {base : Heap}
theorem ok_law_wrong_number {f : Addr} {fd : FuncData} (F : Fun K "_law_wrong_number" "_law_wrong_number" s__law_wrong_number f fd) (G : Glob mg)
    (C_law_pick : Cal P w K mg base CX0 2 "_law_pick" ["_law_state", "_law_several"] sp_law_pick) : FnOk P w K mg base CX0 3 f fd ["_law_state"] sp_law_wrong_number := by
  refine F.ok c__law_wrong_number (fun vs H Q E h => ?_) (fun cdv A0 outer s H vs Q E hr h => ?_)
  · obtain ⟨z, l, t, rfl, _⟩ := h
    rfl
  · obtain ⟨z, l, t, rfl, hst, ht, q⟩ := h
    refine ⟨_, 
      (pss_one (ps_ret (pe_cal C_law_pick hr pass0 (pa_cons (pv 0) (pa_cons (pe_lst (pa_cons pe_int (pa_cons pe_int (pa_cons (pe_un un_neg pe_int) (pa_cons pe_non (pa_cons pe_bl (pa_cons pe_str (pa_cons (pe_tup (pa_cons pe_int pa_nil)) (pa_cons (pe_lst (pa_cons pe_int pa_nil)) (pa_cons (pe_op op_pow pe_int pe_int) pa_nil)))))))))) pa_nil))))), ?_⟩
    refine ⟨.ref z, rfl, 1, rfl, by show 1 ≤ sizeLine; decide, fun a1 na1 => ⟨by show 1 ≤ sizeLine; decide, fun a2 na2 => ⟨10, 6, rfl, rfl, ⟨by decide, by decide, by decide⟩, by show 9 ≤ sizeLine; decide, fun L nL => ?_⟩⟩⟩
    have s1 := same_new (o := HO.tup [V.int 2]) na1
    have s2 := same_new (o := HO.lst [V.int 2]) na2
    have s3 := same_new (o := HO.lst [V.int 0, V.int 9, V.int (-1), V.non, V.bl true, V.str "2", V.ref a1, V.ref a2, V.int (10 ^ 6)]) nL
    have h1 := s3 _ _ (s2 _ _ (upd_same (H := H) (a := a1) (o := HO.tup [V.int 2])))
    have h2 := s3 _ _ (upd_same (H := upd H a1 (HO.tup [V.int 2])) (a := a2) (o := HO.lst [V.int 2]))
    have st3 := ((hst.same s1).same s2).same s3
    have nl := (((hst.same s1).same s2).fresh nL).2
    refine ⟨z, l, t, L, _, rfl, st3, by omega, .inl ⟨upd_same, nl⟩, by show 1 ≤ 9 ∧ 9 ≤ 1000; decide, fun v H' hv s4 st4 => ?_⟩
    have sA := (SZ.of (s1.trans (s2.trans s3))).trans s4
    simp only [List.mem_cons, List.not_mem_nil, or_false] at hv
    rcases hv with rfl | rfl | rfl | rfl | rfl | rfl | rfl | rfl | rfl
    · exact q _ _ _ sA st4 (.int 0) (by decide)
    · exact q _ _ _ sA st4 (.int 9) (by decide)
    · exact q _ _ _ sA st4 (.int (-1)) (by decide)
    · exact q _ _ _ sA st4 .non rfl
    · exact q _ _ _ sA st4 (.bl true) rfl
    · exact q _ _ _ sA st4 (.str _) rfl
    · exact q _ _ _ sA st4 (.tup (s4.tk _ _ h1) (.cons (.int 2) .nil)) rfl
    · obtain ⟨ys, h2'⟩ := s4.wk.lst _ _ h2
      exact q _ _ _ sA st4 (.lst h2') rfl
    · exact q _ _ _ sA st4 (.int _) (by decide)
end
end Pk
set_option maxHeartbeats 1000000
/-! t + u as one rule; enumerate of a tuple in a comprehension. -/
namespace Pk
open PySem PySem.Spec PyProof.Rows L2
/-- t + u: some tuple holds both -/
def rCatU : R2 := fun x y H Q => ∃ a b xs ys, x = .ref a ∧ y = .ref b ∧ H a = some (.tup xs) ∧ H b = some (.tup ys) ∧ xs.length + ys.length ≤ 1000 ∧
  ∀ p H', Same H H' → H' p = some (.tup (xs ++ ys)) → Q (.ref p) H'
theorem catU {X : Cx} : OpR X (binaryOp .Add) rCatU := by
  intro pins s σ H x y v u Q I rx ry h
  obtain ⟨a, b, xs, ys, rfl, rfl, ha, hb, hz, q⟩ := h
  refine op_catA pins s σ H _ _ v u Q I rx ry ⟨a, b, xs, ys, rfl, rfl, SqT.of ha, SqT.of hb, by rw [sizeLine_eq]; omega, fun e => ?_, fun _ e => ?_, fun _ _ p np => q p _ (same_new np) upd_same⟩
  · subst e
    exact q b H (Same.refl H) hb
  · subst e
    exact q a H (Same.refl H) (by rw [List.append_nil]; exact ha)
theorem Wlk.enumT {K : PySem.W.Frag} {H1 : Hp} {a : Addr} {xs : List V} (h : H1 a = some (.tup xs)) : Wlk (IteT K a) xs.length (fun i x H2 => ∃ T y, x = .ref T ∧ H2 T = some (.tup [.int (i : Nat), y]) ∧ xs[i]? = some y) H1 where
  go := fun i H' s hi => ⟨xs, xs[i], SqT.of (s _ _ h), by simp [hi]⟩
  yld := fun i H' x H2 s hi y => by
    obtain ⟨T, z, rfl, hT, rfl, hz⟩ := y
    exact ⟨same_new hT, T, z, rfl, upd_same, hz xs (SqT.of (s _ _ h))⟩
  stop := fun H' s => ⟨xs, SqT.of (s _ _ h), rfl⟩
end Pk
set_option maxHeartbeats 1000000
namespace Pk
open PySem PySem.Spec PyProof.Rows L2
def sp_law_bool_pair : Sp := fun vs H Q _ => ∃ (z l : Addr) (t : Nat) (p : Addr) (x y : Int), vs = [.ref z, .ref p] ∧ LSt z l t H ∧ t ≤ 1000000 ∧ H p = some (.tup [.int x, .int y]) ∧
  ∀ r as H', SZ z l H H' → LSt z l (t + 1) H' → Av H' (.ref r) (.tup as) → as.length ≤ 5 → Q (.ref r) H'
/-- values that the judges may see, none too wide -/
def AvW (H : Hp) (xs : List V) : Prop := ∃ as, AvAll H xs as ∧ ∀ a, a ∈ as → a.wid
theorem AvW.nil {H : Hp} : AvW H [] := ⟨[], .nil, fun _ h => absurd h List.not_mem_nil⟩
theorem AvW.cons {H : Hp} {v : V} {xs : List V} {a : A} (h : Av H v a) (ha : a.wid) (k : AvW H xs) : AvW H (v :: xs) := by
  obtain ⟨as, h1, h2⟩ := k
  refine ⟨a :: as, .cons h h1, fun b hb => ?_⟩
  rcases List.mem_cons.mp hb with e | e
  · exact e ▸ ha
  · exact h2 b e
theorem AvW.app {H : Hp} {xs ys : List V} (h : AvW H xs) (k : AvW H ys) : AvW H (xs ++ ys) := by
  obtain ⟨as, h1, h2⟩ := h
  obtain ⟨bs, k1, k2⟩ := k
  refine ⟨as ++ bs, h1.app k1, fun b hb => ?_⟩
  rcases List.mem_append.mp hb with e | e
  · exact h2 b e
  · exact k2 b e
theorem AvW.mono {H H' : Hp} {xs : List V} (k : Wk H H') (h : AvW H xs) : AvW H' xs :=
  let ⟨as, h1, h2⟩ := h
  ⟨as, h1.mono k, h2⟩
theorem AvW.drop {H : Hp} : ∀ (n : Nat) {xs : List V}, AvW H xs → AvW H (xs.drop n)
  | 0, _, h => h
  | n + 1, [], h => h
  | n + 1, x :: xs, ⟨as, h1, h2⟩ => by
    cases h1 with
    | cons h h1 => exact AvW.drop n ⟨_, h1, fun b hb => h2 b (List.mem_cons_of_mem _ hb)⟩
theorem AvW.take {H : Hp} : ∀ (n : Nat) {xs : List V}, AvW H xs → AvW H (xs.take n)
  | 0, _, h => .nil
  | n + 1, [], h => h
  | n + 1, x :: xs, ⟨as, h1, h2⟩ => by
    cases h1 with
    | cons h h1 => exact .cons h (h2 _ List.mem_cons_self) (AvW.take n ⟨_, h1, fun b hb => h2 b (List.mem_cons_of_mem _ hb)⟩)
theorem AvW.cut {H : Hp} {xs : List V} (h : AvW H xs) (lo hi : Option Int) : AvW H (cutV xs lo hi) := by
  unfold cutV
  exact (h.drop _).take _
theorem cut_len (xs : List V) (lo hi : Option Int) : (cutV xs lo hi).length ≤ xs.length := by
  unfold cutV
  rw [List.length_take, List.length_drop]
  omega
theorem AvW.tup {H : Hp} {xs : List V} {r : Addr} (h : AvW H xs) (hr : H r = some (.tup xs)) (l : xs.length ≤ 100) : ∃ as, Av H (.ref r) (.tup as) ∧ as.length = xs.length ∧ (A.tup as).wid2 :=
  let ⟨as, h1, h2⟩ := h
  ⟨as, .tup hr h1, h1.len.symm, by rw [← h1.len]; exact l, h2⟩
section
variable {P : Program} {w : World} {K : PySem.W.Frag} {mg : Str → Option Value} {base : Heap}
theorem ok_law_bool_pair {f : Addr} {fd : FuncData} (F : Fun K "_law_bool_pair" "_law_bool_pair" s__law_bool_pair f fd) (G : Glob mg)
    (C_law_pick : Cal P w K mg base CX0 2 "_law_pick" ["_law_state", "_law_several"] sp_law_pick) : FnOk P w K mg base CX0 3 f fd ["_law_state", "_law_pair"] sp_law_bool_pair := by
  refine F.ok c__law_bool_pair (fun vs H Q E h => ?_) (fun cdv A0 outer s H vs Q E hr h => ?_)
  · obtain ⟨z, l, t, p, x, y, rfl, _⟩ := h
    rfl
  · obtain ⟨z, l, t, p, x, y, rfl, hst, ht, hp, q⟩ := h
    refine ⟨_, 
      (pss_cons (ps_setLc (i := 4) (own := [("_law_spot", 2), ("_law_item", 3)]) rfl c__law_bool_pair.nd rfl rfl (sw_true rfl rfl rfl (by decide +kernel)) (pi_enumT rfl G.enumerate (pa_cons (pv 1) pa_nil)) (blkOk_by (own := [("_law_spot", 2), ("_law_item", 3)]) (N := n__law_bool_pair) (sc := defScope s__law_bool_pair) (by decide +kernel)) (fun _ _ _ _ _ => (pgT K (n := 2) rfl (pgs_cons (pg_name (i := 2) c__law_bool_pair.nd rfl (.inl rfl)) (pgs_cons (pg_name (i := 3) c__law_bool_pair.nd rfl (.inl rfl)) pgs_nil)))) (fun _ _ _ _ _ => (pts_one (pt_cmpR op_lt (pv 3) pe_int (nomark _)))) (fun _ _ _ _ _ => (pv 2)))
      (pss_cons (ps_if (pt_cmpR (eqD K hr.units) (pv 4) (pe_lst pa_nil) (nomark _)) 
          (pss_one (ps_ret (pe_slice (slM K) (pv 1) po_none (po_some (pe_un un_neg pe_int))))) pss_nil)
      (pss_cons (ps_set (i := 2) c__law_bool_pair.nd rfl (.inl rfl) (pe_cal C_law_pick hr pass0 (pa_cons (pv 0) (pa_cons (pv 4) pa_nil))))
      (pss_one (ps_ret (pe_op catU (pe_op catU (pe_slice (slM K) (pv 1) po_none (po_some (pv 2))) (pe_tup (pa_cons (pe_cmpR op_eq (pe_ix (ixT K) (pv 1) (pv 2) (fun _ _ => rfl)) pe_int (nomark _)) pa_nil))) (pe_slice (slM K) (pv 1) (po_some (pe_op op_add (pv 2) pe_int)) po_none))))))), ?_⟩
    refine ⟨.ref p, rfl, p, _, rfl, SqT.of hp, fun D nD => ?_⟩
    refine lcW nD (Wlk.enumT hp) (fun i H ys => ∃ ks : List Int, ys = ks.map V.int ∧ ks.length ≤ i ∧ ∀ k, k ∈ ks → 0 ≤ k ∧ k < (i : Int)) (fun i H H' ys _ e => e) (by show 2 ≤ 10000; decide) ⟨[], rfl, Nat.le_refl _, fun _ h => absurd h List.not_mem_nil⟩ (fun i v H' ys hi s hx hY Q1 Q2 k1 k2 => ?_) fun H1 ys s1 hD hY => ?_
    · obtain ⟨T, u, rfl, hT, hu⟩ := hx
      obtain ⟨c, rfl⟩ : ∃ c, u = .int c := by
        match i, hu with
        | 0, h => exact ⟨x, (Option.some.inj h).symm⟩
        | 1, h => exact ⟨y, (Option.some.inj h).symm⟩
        | _ + 2, h => simp at h
      have hi2 : i < 2 := hi
      obtain ⟨ks, rfl, hkl, hkm⟩ := hY
      refine ⟨T, _, rfl, SqT.of hT, rfl, _, _, rfl, _, _, rfl, rfl, rfl, .int c, rfl, c, 2, rfl, rfl, _, rfl, ite2 (fun e => ?_) (fun e => ?_)⟩
      · refine ⟨.int i, rfl, k1 _ _ (Same.refl _) ⟨ks ++ [(i : Int)], by rw [List.map_append]; rfl, by rw [List.length_append]; exact Nat.succ_le_succ hkl, fun k hk => ?_⟩⟩
        rcases List.mem_append.mp hk with e | e
        · have := hkm k e
          omega
        · rw [List.mem_singleton.mp e]
          omega
      · refine k2 _ (Same.refl _) ⟨ks, rfl, Nat.le_succ_of_le hkl, fun k hk => ?_⟩
        have := hkm k hk
        omega
    obtain ⟨ks, rfl, hkl, hkm⟩ := hY
    have hkl : ks.length ≤ 2 := hkl
    have hkm : ∀ k, k ∈ ks → 0 ≤ k ∧ k < 2 := hkm
    refine ⟨.ref D, rfl, by decide, fun e0 ne0 => ?_⟩
    have s2 := same_new (o := HO.lst []) ne0
    refine ⟨.list (ks.map PyData.int), .list [], .lst (SqL.of (s2 _ _ hD)) (DtAll.of_ints ks).dp, .lst (SqL.of upd_same) .nil, shaped_listI ks, shaped_listI [], _, rfl, ?_⟩
    rw [eqv_ints_nil]
    have nD' : D ≠ z ∧ D ≠ l := hst.fresh nD
    have hD2 := s2 _ _ hD
    have st2 := (hst.same s1).same s2
    have hp2 := s2 _ _ (s1 _ _ hp)
    have s12 := s1.trans s2
    generalize upd H1 e0 (HO.lst []) = H2 at hD2 st2 hp2 s12 ⊢
    have pw : ∀ {H' : Hp}, AvW H' [V.int x, V.int y] := .cons (.int x) trivial (.cons (.int y) trivial .nil)
    by_cases k0 : ks = []
    · rw [decide_eq_true k0]
      refine ⟨.ref p, rfl, 1, rfl, -1, rfl, p, _, rfl, hp2, fun r H3 s3 hr3 => ?_⟩
      obtain ⟨as, h1, h2, _⟩ := (pw.cut none (some (-1))).tup hr3 (Nat.le_trans (cut_len _ _ _) (by show 2 ≤ 100; decide))
      exact q r as H3 (SZ.of (s12.trans s3)) ((st2.same s3).up (by omega)) h1 (by rw [h2]; exact Nat.le_trans (cut_len _ _ _) (by show 2 ≤ 5; decide))
    · rw [decide_eq_false k0]
      have kp : 1 ≤ ks.length := List.length_pos_iff.mpr k0
      refine ⟨.ref z, rfl, .ref D, rfl, z, l, t, D, _, rfl, st2, ht, .inl ⟨hD2, nD'.2⟩, by rw [List.length_map]; omega, fun v H3 hv s3 st3 => ?_⟩
      obtain ⟨k, hk, rfl⟩ := List.mem_map.mp hv
      have bk := hkm k hk
      have hp3 := s3.tk _ _ hp2
      refine ⟨.ref p, rfl, .int k, rfl, k, rfl, p, _, rfl, hp3, fun r1 H4 s4 hr4 => ?_⟩
      obtain ⟨c, hc⟩ : ∃ c, atI [V.int x, V.int y] k = some (.int c) := by
        have hk2 : k.toNat = 0 ∨ k.toNat = 1 := by omega
        rcases hk2 with e | e
        · have h := atI_nat (xs := [V.int x, V.int y]) (j := k.toNat) (v := .int x) (by rw [e]; rfl)
          rw [Int.toNat_of_nonneg bk.1] at h
          exact ⟨x, h⟩
        · have h := atI_nat (xs := [V.int x, V.int y]) (j := k.toNat) (v := .int y) (by rw [e]; rfl)
          rw [Int.toNat_of_nonneg bk.1] at h
          exact ⟨y, h⟩
      refine ⟨.ref p, rfl, .int k, rfl, p, _, k, .int c, rfl, rfl, SqT.of (s4 _ _ hp3), hc, rfl, by show 1 ≤ sizeLine; decide, fun B nB => ?_⟩
      have s5 := same_new (o := HO.tup [V.bl (decide (V.int c = V.int 1))]) nB
      have hB := upd_same (H := H4) (a := B) (o := HO.tup [V.bl (decide (V.int c = V.int 1))])
      have hr5 := s5 _ _ hr4
      have c1 := cut_len [V.int x, V.int y] none (some k)
      have c2 := cut_len [V.int x, V.int y] (some (k + 1)) none
      have e2 : [V.int x, V.int y].length = 2 := rfl
      have e1 : [V.bl (decide (V.int c = V.int 1))].length = 1 := rfl
      rw [e2] at c1 c2
      generalize upd H4 B (HO.tup [V.bl (decide (V.int c = V.int 1))]) = H5 at s5 hB hr5 ⊢
      refine ⟨r1, B, _, _, rfl, rfl, hr5, hB, by omega, fun r2 H6 s6 hr6 => ?_⟩
      refine ⟨.ref p, rfl, .int k, rfl, k, 1, rfl, rfl, k + 1, rfl, p, _, rfl, s6 _ _ (s5 _ _ (s4 _ _ hp3)), fun r3 H7 s7 hr7 => ?_⟩
      refine ⟨r2, r3, _, _, rfl, rfl, s7 _ _ hr6, hr7, by rw [List.length_append]; omega, fun r4 H8 s8 hr8 => ?_⟩
      have sA := s4.trans (s5.trans (s6.trans (s7.trans s8)))
      obtain ⟨as, h1, h2, _⟩ := (((pw.cut none (some k)).app (.cons (.bl _) trivial .nil)).app (pw.cut (some (k + 1)) none)).tup hr8 (by rw [List.length_append, List.length_append]; omega)
      exact q r4 as H8 ((SZ.of s12).trans (s3.trans (SZ.of sA))) (st3.same sA) h1 (by rw [h2, List.length_append, List.length_append]; omega)
end
end Pk
set_option maxHeartbeats 1000000
/-! t[::-1] of a tuple. -/
namespace Pk
open PySem PySem.Spec PyProof.Rows L2 HT
section
variable {prog : Program} {w : World} {A : Around} {E : Value → Shared → Prop} {s : Shared}
theorem fm_congr {α β : Type} {f g : α → Option β} : ∀ {l : List α}, (∀ x, x ∈ l → f x = g x) → l.filterMap f = l.filterMap g
  | [], _ => rfl
  | x :: l, h => by
    rw [List.filterMap_cons, List.filterMap_cons, h x List.mem_cons_self, fm_congr fun y hy => h y (List.mem_cons_of_mem _ hy)]
theorem pick_rev (xs : Array Value) : ((List.range xs.size).filterMap fun (m : Nat) => xs[(((xs.size : Int) - 1) + (m : Int) * -1).toNat]?).toArray = xs.toList.reverse.toArray := by
  have h := PySem.W.krv_pick xs
  rw [← h]
  unfold slicePick
  rw [PySem.W.krv_bounds]
  show _ = ((sliceRange ((xs.size : Int) - 1) (-1) (-1)).filterMap (xs[·]?)).toArray
  rw [PySem.W.krv_sliceRange, List.filterMap_map]
  congr 1
  refine fm_congr fun m hm => ?_
  have := List.mem_range.mp hm
  show xs[(((xs.size : Int) - 1) + (m : Int) * -1).toNat]? = xs[xs.size - 1 - m]?
  rw [show (((xs.size : Int) - 1) + (m : Int) * -1).toNat = xs.size - 1 - m by omega]
theorem adjust_rev (n : Nat) : Builtin.Slice.sliceAdjust none none (-1) (n : Int) = ((n : Int) - 1, -1) := by
  unfold Builtin.Slice.sliceAdjust
  have h1 : ((-1 : Int) < 0) := by omega
  simp only [h1, if_true]
theorem places_rev (n : Nat) : Builtin.Slice.slicePlaces ((n : Int) - 1) (-1) (-1) = n := by
  unfold Builtin.Slice.slicePlaces
  have h1 : ¬ ((-1 : Int) > 0) := by omega
  simp only [h1, if_false]
  by_cases h : (n : Int) - 1 > -1
  · rw [if_pos h, show (- -1 : Int) = 1 by decide, Int.ediv_one]
    omega
  · rw [if_neg h]
    omega
theorem sliceApplied_rev {sl : Addr} {vs : Value} {n : Nat} {Q : Int × Int × Nat → Shared → Prop} (hs : s.heap.IsSliceOf sl .none .none vs) (ps : IsPart vs (some (-1)))
    (h : Q ((n : Int) - 1, -1, n) s) : wpAny (model prog w) A (Builtin.Slice.sliceApplied (.ref sl) (pure (n : Int))) Q E s := by
  obtain ⟨os, hos, hcs, hds⟩ := id hs
  unfold Builtin.Slice.sliceApplied Builtin.Slice.sliceFields
  refine wpAny_bind (wpAny_bind (wpAny_field hos hds (x := .none) rfl (wpAny_bind (wpAny_field hos hds (x := .none) rfl (wpAny_bind (wpAny_field hos hds (x := vs) rfl (wpAny_pure ?_)))))))
  refine wpAny_bind (slicePart_ ps ?_)
  show wpAny _ _ (if ((-1 : Int) == 0) = true then _ else _) _ _ s
  rw [if_neg (by decide)]
  refine wpAny_bind (slicePart_none (wpAny_bind (slicePart_none (wpAny_bind (wpAny_pure ?_)))))
  show wpAny _ _ (match Builtin.Slice.sliceAdjust none none (-1) (n : Int) with | (lo, hi) => pure (lo, (-1 : Int), Builtin.Slice.slicePlaces lo hi (-1))) _ _ s
  rw [adjust_rev n]
  show wpAny _ _ (pure ((n : Int) - 1, (-1 : Int), Builtin.Slice.slicePlaces ((n : Int) - 1) (-1) (-1))) _ _ s
  rw [places_rev]
  exact wpAny_pure h
theorem getItem_tuple_rev {t sl : Addr} {items : Array Value} {vs : Value} {Q : Value → Shared → Prop} (ht : IsTup s.heap t items) (hs : s.heap.IsSliceOf sl .none .none vs) (ps : IsPart vs (some (-1)))
    (h : Q (.ref s.heap.objs.size) { s with heap := s.heap.push { cls := .type "tuple", data := .seq items.toList.reverse.toArray } })
    (hsz : items.size ≤ sizeLine) : wpAny (model prog w) A (getItem (.ref t) (.ref sl)) Q E s := by
  have htake : sizeOk (.seq items.toList.reverse.toArray) := by
    show items.toList.reverse.toArray.size ≤ sizeLine
    rw [List.size_toArray, List.length_reverse, Array.length_toList]
    exact hsz
  obtain ⟨os, hos, hcs, hds⟩ := id hs
  have hTs : s.TypeIs (.ref sl) "slice" := ⟨os, hos, hcs⟩
  unfold getItem
  try with_reducible refine wpAny_holding ?_
  first | refine wpAny_bind (wpAny_pure ?_) | skip
  refine wpAny_bind (wpAny_sequenceKey ht.typeIs (by decide) ?_)
  refine wpAny_bind (wpAny_callSpecial?_slot (name := Str.ofString "__getitem__") ht.typeIs PyProof.Rows.slot_tuple_getitem
    (wpAny_call_entry PyProof.Rows.slot_tuple_getitem ht.typeIs entry_tuple_getitem ?_ (args_tuple_getitem _ _)))
  show wpAny _ _ (Builtin.Tuple.tupleItemsOf (.ref t) >>= _) _ _ s
  refine wpAny_bind (tupleItemsOf_ ht ?_)
  refine wpAny_bind (wpAny_typeOf hTs ?_)
  rw [if_pos (by decide)]
  refine wpAny_bind (sliceApplied_rev hs ps ?_)
  have hno : ¬ ((((items.size : Int) - 1) == 0 && (-1 : Int) == 1 && items.size == items.size) = true) := by
    intro q
    rw [Bool.and_eq_true, Bool.and_eq_true] at q
    exact absurd q.1.2 (by decide)
  show wpAny _ _ (if (((items.size : Int) - 1) == 0 && (-1 : Int) == 1 && items.size == items.size) = true then _ else _) _ _ s
  rw [if_neg hno, pick_rev]
  first
    | exact wpAny_bind (m := Builtin.Tuple.tupleExact _) (wpAny_newObj_type (wpAny_pure ⟨_, rfl, wpAny_pure h⟩) htake)
    | exact wpAny_bind (m := Builtin.Tuple.tupleExact _) (wpAny_newObj_type (wpAny_bind (wpAny_pure (wpAny_pure ⟨_, rfl, wpAny_pure h⟩))) htake)
    | exact wpAny_bind (wpAny_bind (m := Builtin.Tuple.tupleExact _) (wpAny_newObj_type (wpAny_pure (wpAny_pure ⟨_, rfl, wpAny_pure h⟩)) htake))
    | exact wpAny_bind (wpAny_bind (m := Builtin.Tuple.tupleExact _) (wpAny_newObj_type (wpAny_pure ⟨_, rfl, wpAny_pure h⟩) htake))
end
section
variable {X : Cx}
def tRevT (K : PySem.W.Frag) (te : TE) : TE := fun σ H Q => te σ H fun x H1 => ∃ a xs, x = .ref a ∧ SqT K H1 a xs ∧ ∀ p, H1 p = none → Q (.ref p) (upd H1 p (.tup xs.reverse))
theorem pe_revT {e : Expr} {te : TE} {k : Nat} {p1 p2 p3 pos : Pos} (he : PE X e te) : PE X (.Subscript e (.Slice none none (some (.UnaryOp .USub (.Constant (.int 1) k p1) p2)) p3) pos) (tRevT X.K te) := by
  refine ⟨fun pins s σ H Q I h => ?_⟩
  refine Subscript_ (thn (he.run pins s σ H _ I h) fun v s1 ⟨x, H1, I1, r1, q1⟩ => ?_)
  obtain ⟨a, xs, ex, hx, q⟩ := q1
  subst ex
  cases r1
  have hst : PO X (some (.UnaryOp .USub (.Constant (.int 1) k p1) p2)) (tPart (tUn (rU fun i => .int (-i)) (tC (.int 1)))) := po_some (pe_un un_neg pe_int)
  refine wpAny_Slice (thn (po_none.run pins s1 σ H1 (fun o H2 => o = none ∧ H2 = H1) I1 ⟨rfl, rfl⟩) fun vl s2 ⟨l, H2, I2, pl, el, e2⟩ => ?_)
  subst el e2
  refine thn (po_none.run pins s2 σ H2 (fun o H3 => o = none ∧ H3 = H2) I2 ⟨rfl, rfl⟩) fun vu s3 ⟨u, H3, I3, pu, eu, e3⟩ => ?_
  subst eu e3
  refine thn (hst.run pins s3 σ H3 (fun o H4 => o = some (-1) ∧ H4 = H3) I3 ⟨1, rfl, -1, rfl, rfl, rfl⟩) fun vs s4 ⟨o, H4, I4, ps, eo, e4⟩ => ?_
  subst eo e4
  have I5 : Inv X pins σ H4 { s4 with heap := s4.heap.push { cls := .type "slice", data := .fields #[vl, vu, vs] } } := I4.kept (t' := s4.toks) fun b ob q => Heap.get?_push_of_some _ q
  obtain ⟨its, r, ht, hz⟩ := I5.tuple hx
  have hlen := r.length
  show wpAny (model X.prog X.w) X.A (subscriptTail e (.Slice none none (some (.UnaryOp .USub (.Constant (.int 1) k p1) p2)) p3) (.ref a) (.ref s4.heap.objs.size)) (EP X pins σ Q) X.xe { s4 with heap := s4.heap.push { cls := .type "slice", data := .fields #[vl, vu, vs] } }
  cases pl
  cases pu
  refine tail_any (ops := [.ref a, .ref s4.heap.objs.size]) ht.typeIs (PyProof.Rows.slot_tuple_getitem.lookup) ?_ (by with_unfolding_all rfl)
  refine getItem_tuple_rev ht (Heap.IsSliceOf.new _ .none .none vs) ps ?_ (by rw [List.size_toArray]; omega)
  refine ⟨.ref _, _, I5.laid (t' := s4.toks) (o := .tup xs.reverse) (fun b ob q => Heap.get?_push_of_some _ q) (Nat.le_refl _) ?_, rfl, q _ (I5.hok.fresh (Nat.le_refl _))⟩
  exact ⟨by rw [List.length_reverse]; exact hz, _, r.reverse, IsTup.new _ _⟩
end
end Pk
set_option maxHeartbeats 1000000
namespace Pk
open PySem PySem.Spec PyProof.Rows L2
/-! ### what is no plan -/
def sp_law_bad_plan : Sp := fun vs H Q _ => ∃ (z l : Addr) (t : Nat), vs = [.ref z] ∧ LSt z l t H ∧ t + 40 ≤ 1000000 ∧
  ∀ v a H', SZ z l H H' → LSt z l (t + 40) H' → Av H' v a → a.wid2 → Q v H'
theorem AvW.mem {H : Hp} {xs : List V} {i : Nat} {x : V} (h : AvW H xs) (hx : xs[i]? = some x) : ∃ a, Av H x a ∧ a.wid := by
  obtain ⟨as, h1, h2⟩ := h
  obtain ⟨a, _, hm, ha⟩ := h1.at hx
  exact ⟨a, ha, h2 a hm⟩
def AvX (H : Hp) (xs : List V) : Prop := ∃ as, AvAll H xs as ∧ ∀ a, a ∈ as → a.wid2
theorem AvX.nil {H : Hp} : AvX H [] := ⟨[], .nil, fun _ h => absurd h List.not_mem_nil⟩
theorem AvX.cons {H : Hp} {v : V} {xs : List V} {a : A} (h : Av H v a) (ha : a.wid2) (k : AvX H xs) : AvX H (v :: xs) := by
  obtain ⟨as, h1, h2⟩ := k
  refine ⟨a :: as, .cons h h1, fun b hb => ?_⟩
  rcases List.mem_cons.mp hb with e | e
  · exact e ▸ ha
  · exact h2 b e
theorem AvX.app {H : Hp} {xs ys : List V} (h : AvX H xs) (k : AvX H ys) : AvX H (xs ++ ys) := by
  obtain ⟨as, h1, h2⟩ := h
  obtain ⟨bs, k1, k2⟩ := k
  refine ⟨as ++ bs, h1.app k1, fun b hb => ?_⟩
  rcases List.mem_append.mp hb with e | e
  · exact h2 b e
  · exact k2 b e
theorem AvX.mono {H H' : Hp} {xs : List V} (k : Wk H H') (h : AvX H xs) : AvX H' xs :=
  let ⟨as, h1, h2⟩ := h
  ⟨as, h1.mono k, h2⟩
theorem AvX.mem {H : Hp} {xs : List V} {i : Nat} {x : V} (h : AvX H xs) (hx : xs[i]? = some x) : ∃ a, Av H x a ∧ a.wid2 := by
  obtain ⟨as, h1, h2⟩ := h
  obtain ⟨a, _, hm, ha⟩ := h1.at hx
  exact ⟨a, ha, h2 a hm⟩
theorem A.wid2_two (x y : Int) : (A.tup [.int x, .int y]).wid2 := ⟨by show 2 ≤ 100; decide, fun a ha => by
  rcases List.mem_cons.mp ha with e | e
  · rw [e]; trivial
  · rw [List.mem_singleton.mp e]; trivial⟩
theorem AvW.one {H : Hp} {xs : List V} {r : Addr} (h : AvW H xs) (hr : H r = some (.tup xs)) (l : xs.length ≤ 100) : AvX H [.ref r] := by
  obtain ⟨as, h1, h2, h3⟩ := h.tup hr l
  exact .cons h1 h3 .nil
theorem AvW.of_mem {H : Hp} : ∀ {xs : List V}, (∀ v, v ∈ xs → ∃ a, Av H v a ∧ a.wid) → AvW H xs
  | [], _ => .nil
  | x :: xs, h => by
    obtain ⟨a, h1, h2⟩ := h x List.mem_cons_self
    exact .cons h1 h2 (AvW.of_mem fun v hv => h v (List.mem_cons_of_mem _ hv))
theorem AvW.rev {H : Hp} {xs : List V} (h : AvW H xs) : AvW H xs.reverse := .of_mem fun v hv => by
  obtain ⟨i, hi⟩ := List.mem_iff_getElem?.mp (List.mem_reverse.mp hv)
  exact h.mem hi
theorem DtAll.takeD {H : Hp} : ∀ (n : Nat) {xs : List V} {ds : List PyData}, DtAll H xs ds → DtAll H (xs.take n) (ds.take n)
  | 0, _, _, _ => .nil
  | n + 1, _, _, .nil => .nil
  | n + 1, _, _, .cons h hs => .cons h (DtAll.takeD n hs)
theorem DtAll.dropD {H : Hp} : ∀ (n : Nat) {xs : List V} {ds : List PyData}, DtAll H xs ds → DtAll H (xs.drop n) (ds.drop n)
  | 0, _, _, h => h
  | n + 1, _, _, .nil => .nil
  | n + 1, _, _, .cons h hs => DtAll.dropD n hs
theorem atI_ex {xs : List V} {i : Int} (h : -(xs.length : Int) ≤ i ∧ i < xs.length) : ∃ (v : V) (j : Nat), atI xs i = some v ∧ xs[j]? = some v := by
  by_cases h0 : 0 ≤ i
  · have hj : i.toNat < xs.length := by omega
    have h1 := atI_nat (List.getElem?_eq_getElem hj)
    rw [Int.toNat_of_nonneg h0] at h1
    exact ⟨_, _, h1, List.getElem?_eq_getElem hj⟩
  · have hj : (i + xs.length).toNat < xs.length := by omega
    refine ⟨xs[(i + xs.length).toNat], (i + xs.length).toNat, ?_, List.getElem?_eq_getElem hj⟩
    unfold atI ixN
    rw [if_neg h0, if_pos (by omega)]
    exact List.getElem?_eq_getElem hj
section
variable {P : Program} {w : World} {K : PySem.W.Frag} {mg : Str → Option Value} {base : Heap}
theorem ok_law_bad_plan {f : Addr} {fd : FuncData} (F : Fun K "_law_bad_plan" "_law_bad_plan" s__law_bad_plan f fd) (G : Glob mg)
    (C_law_draw : Cal P w K mg base CX0 1 "_law_draw" ["_law_state", "_law_size_here"] sp_law_draw)
    (C_law_pick : Cal P w K mg base CX0 2 "_law_pick" ["_law_state", "_law_several"] sp_law_pick)
    (C_law_plan : Cal P w K mg base CX0 3 "_law_plan" ["_law_state", "_law_many", "_law_most"] sp_law_plan)
    (C_law_bool_pair : Cal P w K mg base CX0 3 "_law_bool_pair" ["_law_state", "_law_pair"] sp_law_bool_pair) : FnOk P w K mg base CX0 4 f fd ["_law_state"] sp_law_bad_plan := by
  refine F.ok c__law_bad_plan (fun vs H Q E h => ?_) (fun cdv A0 outer s H vs Q E hr h => ?_)
  · obtain ⟨z, l, t, rfl, _⟩ := h
    rfl
  · obtain ⟨z, l, t, rfl, hst, ht, q⟩ := h
    refine ⟨_, 
      (pss_cons (ps_set (i := 1) c__law_bad_plan.nd rfl (.inr rfl) (pe_cal C_law_plan hr pass0 (pa_cons (pv 0) (pa_cons (pe_op op_add pe_int (pe_cal C_law_draw hr pass0 (pa_cons (pv 0) (pa_cons pe_int pa_nil)))) (pa_cons pe_int pa_nil)))))
      (pss_cons (ps_set (i := 2) c__law_bad_plan.nd rfl (.inr rfl) (pe_cal C_law_draw hr pass0 (pa_cons (pv 0) (pa_cons (pe_callB (lenS K) (by rfl) G.len PySem.boot_len (pa_cons (pv 1) pa_nil)) pa_nil))))
      (pss_cons (ps_par (i := 3) (j := 4) rfl c__law_bad_plan.nd rfl rfl (by decide) rfl rfl (pa_cons (pe_ix (ixT K) (pv 1) (pv 2) (fun _ _ => rfl)) (pa_cons (pe_ix (ixT K) (pv 1) (pe_op op_sub (pv 2) pe_int) (fun _ _ => rfl)) pa_nil)) (by rfl))
      (pss_cons (ps_setLc (i := 6) (own := [("_law_item", 5)]) rfl c__law_bad_plan.nd rfl rfl (sw_true rfl rfl rfl (by decide +kernel)) (piLK K (pe_lst (pa_cons (pe_tup (pa_cons (pe_ix (ixT K) (pv 3) pe_int (fun _ _ => rfl)) (pa_cons pe_int pa_nil))) (pa_cons (pe_tup (pa_cons (pe_un un_neg pe_int) (pa_cons (pe_ix (ixT K) (pv 3) pe_int (fun _ _ => rfl)) pa_nil))) (pa_cons (pe_callTy call_list_of (by rfl) G.list (by decide +kernel) (pa_cons (pv 3) pa_nil)) (pa_cons (pe_op catU (pv 3) (pe_tup (pa_cons pe_int pa_nil))) (pa_cons pe_non pa_nil))))))) (blkOk_by (own := [("_law_item", 5)]) (N := n__law_bad_plan) (sc := defScope s__law_bad_plan) (by decide +kernel)) (fun _ _ _ _ _ => (pg_name (i := 5) c__law_bad_plan.nd rfl (.inl rfl))) (fun _ _ _ _ _ => pts_nil) (fun _ _ _ _ _ => (pe_op catU (pe_op catU (pe_slice (slM K) (pv 1) po_none (po_some (pv 2))) (pe_tup (pa_cons (pv 5) pa_nil))) (pe_slice (slM K) (pv 1) (po_some (pe_op op_add (pv 2) pe_int)) po_none))))
      (pss_cons (ps_set (i := 6) c__law_bad_plan.nd rfl (.inl rfl) (pe_op op_cat (pv 6) (pe_lst (pa_cons (pe_revT (pv 1)) (pa_cons (pe_op catU (pv 1) (pe_slice (slM K) (pv 1) (po_some (pe_un un_neg pe_int)) po_none)) (pa_cons (pe_callTy call_list_of (by rfl) G.list (by decide +kernel) (pa_cons (pv 1) pa_nil)) (pa_cons pe_non (pa_cons pe_int (pa_cons pe_str (pa_cons pe_dnewK (pa_cons (pe_tup (pa_cons pe_int (pa_cons pe_int pa_nil))) pa_nil)))))))))))
      (pss_cons (ps_expr (pe_bm PySem.F.plainAttrs_list PySem.F.slot_list_append PySem.F.type_list_append mt_append (pv 6) (pa_cons (pe_tupleOf rfl G.tuple (pe_callB (cr_sortDt hr.units) (by rfl) G.sorted boot_sorted (pa_cons (pe_op catU (pe_op catU (pe_slice (slM K) (pv 1) po_none (po_some (pv 2))) (pe_slice (slM K) (pv 1) (po_some (pe_op op_add (pv 2) pe_int)) po_none)) (pe_tup (pa_cons (pe_tup (pa_cons (pe_ix (ixT K) (pv 3) pe_int (fun _ _ => rfl)) (pa_cons (pe_ix (ixT K) (pv 4) pe_int (fun _ _ => rfl)) pa_nil))) pa_nil))) pa_nil))) pa_nil)))
      (pss_one (ps_ret (pe_cal C_law_pick hr pass0 (pa_cons (pv 0) (pa_cons (pe_op op_cat (pv 6) (pe_lst (pa_cons (pe_op catU (pe_op catU (pe_slice (slM K) (pv 1) po_none (po_some (pv 2))) (pe_tup (pa_cons (pe_cal C_law_bool_pair hr pass0 (pa_cons (pv 0) (pa_cons (pv 3) pa_nil))) pa_nil))) (pe_slice (slM K) (pv 1) (po_some (pe_op op_add (pv 2) pe_int)) po_none)) pa_nil))) pa_nil))))))))))), ?_⟩
    refine ⟨.ref z, rfl, .ref z, rfl, z, l, t, 6, rfl, hst, by omega, by omega, fun r1 H1 hr1 s1 st1 => ?_⟩
    obtain ⟨many, hmany⟩ : ∃ many : Nat, 2 + r1 = many := ⟨(2 + r1).toNat, by omega⟩
    refine ⟨2, r1, rfl, rfl, z, l, t + 1, many, 8, by rw [← hmany]; rfl, st1, by omega, by omega, fun v m H2 s2 st2 hd hp hml => ?_⟩
    obtain ⟨T, xs, rfl, hT, hxs, hxl⟩ := dt_plan hd
    have h8 := hp.len8
    refine ⟨.ref z, rfl, .ref T, rfl, T, xs, rfl, .inr (SqT.of hT), z, l, _, xs.length, rfl, st2, by omega, by omega, fun r2 H3 hr2 s3 st3 => ?_⟩
    have hT := s3.tk _ _ hT
    have hxs := hxs.tmono s3.tk
    have szA := s1.trans (s2.trans s3)
    obtain ⟨x1, j1, ha1, hj1⟩ := atI_ex (xs := xs) (i := r2) (by omega)
    obtain ⟨p1, t1, hm1, rfl, ht1⟩ := hxs.pr hj1
    obtain ⟨x2, j2, ha2, hj2⟩ := atI_ex (xs := xs) (i := r2 - 1) (by omega)
    obtain ⟨p2, t2, hm2, rfl, ht2⟩ := hxs.pr hj2
    refine ⟨.ref T, rfl, .int r2, rfl, T, xs, r2, _, rfl, rfl, SqT.of hT, ha1, .ref T, rfl, .int r2, rfl, r2, 1, rfl, rfl, T, xs, r2 - 1, _, rfl, rfl, SqT.of hT, ha2, _, _, rfl, ?_⟩
    -- the odd items
    refine ⟨.ref t1, rfl, t1, _, 0, .int p1.1, rfl, rfl, SqT.of ht1, atI_nat (j := 0) rfl, by show 2 ≤ sizeLine; decide, fun b1 nb1 => ?_⟩
    have e1 := same_new (o := HO.tup [V.int p1.1, V.int 8]) nb1
    refine ⟨1, rfl, .ref t1, rfl, t1, _, 1, .int p1.2, rfl, rfl, SqT.of (e1 _ _ ht1), atI_nat (j := 1) rfl, by show 2 ≤ sizeLine; decide, fun b2 nb2 => ?_⟩
    have e2 := same_new (o := HO.tup [V.int (-1), V.int p1.2]) nb2
    have f1 := e2 _ _ (upd_same (H := H3) (a := b1) (o := HO.tup [V.int p1.1, V.int 8]))
    have f2 := upd_same (H := upd H3 b1 (HO.tup [V.int p1.1, V.int 8])) (a := b2) (o := HO.tup [V.int (-1), V.int p1.2])
    have e12 := e1.trans e2
    refine ⟨.ref t1, rfl, t1, _, rfl, .inr (SqT.of (e12 _ _ ht1)), fun b3 nb3 => ?_⟩
    have e3 := same_new (o := HO.lst [V.int p1.1, V.int p1.2]) nb3
    have f3 := upd_same (H := upd (upd H3 b1 (HO.tup [V.int p1.1, V.int 8])) b2 (HO.tup [V.int (-1), V.int p1.2])) (a := b3) (o := HO.lst [V.int p1.1, V.int p1.2])
    have f1 := e3 _ _ f1
    have f2 := e3 _ _ f2
    have e13 := e12.trans e3
    refine ⟨.ref t1, rfl, by show 1 ≤ sizeLine; decide, fun b4 nb4 => ?_⟩
    have e4 := same_new (o := HO.tup [V.int 0]) nb4
    refine ⟨t1, b4, _, _, rfl, rfl, e4 _ _ (e13 _ _ ht1), upd_same, by show 2 + 1 ≤ 1000; decide, fun b5 H4 e5 f5 => ⟨by show 5 ≤ sizeLine; decide, fun L nL => ?_⟩⟩
    have f1 := e5 _ _ (e4 _ _ f1)
    have f2 := e5 _ _ (e4 _ _ f2)
    have f3 := e5 _ _ (e4 _ _ f3)
    have e15 := e13.trans (e4.trans e5)
    have e6 := same_new (o := HO.lst [V.ref b1, V.ref b2, V.ref b3, V.ref b5, V.non]) nL
    have hL := upd_same (H := H4) (a := L) (o := HO.lst [V.ref b1, V.ref b2, V.ref b3, V.ref b5, V.non])
    have w4 : AvW H4 [V.ref b1, V.ref b2, V.ref b3, V.ref b5, V.non] :=
      .cons (.tup f1 (.cons (.int _) (.cons (.int _) .nil))) (by show 2 ≤ 100; decide) <| .cons (.tup f2 (.cons (.int _) (.cons (.int _) .nil))) (by show 2 ≤ 100; decide) <| .cons (.lst f3) trivial <|
        .cons (.tup f5 (.cons (.int _) (.cons (.int _) (.cons (.int _) .nil)))) (by show 3 ≤ 100; decide) <| .cons .non trivial .nil
    have e16 := e15.trans e6
    have hT4 := e16 _ _ hT
    have hxs4 := hxs.tmono (tk_same e16)
    have ht14 := e16 _ _ ht1
    have ht24 := e16 _ _ ht2
    have st4 := st3.same e16
    have szB := szA.trans (SZ.of e16)
    have w5 := w4.mono (Wk.of e6)
    have fL := st3.same e15 |>.fresh nL
    generalize upd H4 L (HO.lst [V.ref b1, V.ref b2, V.ref b3, V.ref b5, V.non]) = H5 at hL hT4 hxs4 ht14 ht24 st4 szB w5 ⊢
    have wx : ∀ {H' : Hp}, Tk H5 H' → AvW H' xs := fun k => ⟨toAs (m.map prD), (hxs4.tmono k).av, fun a ha => by
      rw [toAs_map, List.map_map] at ha
      obtain ⟨p, _, rfl⟩ := List.mem_map.mp ha
      show A.wid (toA (prD p))
      simp [toA, toAs, A.wid]⟩
    refine ⟨L, rfl, ⟨_, SqL.of hL⟩, fun D nD => ?_⟩
    refine lcW nD (Wlk.list (SqL.of hL)) (fun i H ys => ys.length = i ∧ AvX H ys) (fun i H H' ys w e => ⟨e.1, e.2.mono w⟩) (by show 5 ≤ 10000; decide) ⟨rfl, .nil⟩ (fun i x H' ys hi s hx hY Q1 Q2 k1 k2 => ?_) fun H6 ys s6 hD6 hY6 => ?_
    · obtain ⟨a, hxa, hxw⟩ := (w5.mono (Wk.of s)).mem hx
      have hT' := s _ _ hT4
      refine ⟨rfl, .ref T, rfl, .int r2, rfl, r2, rfl, T, xs, rfl, hT', fun c1 H7 s7 hc1 => ⟨x, rfl, by show 1 ≤ sizeLine; decide, fun c2 nc2 => ?_⟩⟩
      have s8 := same_new (o := HO.tup [x]) nc2
      have l1 := cut_len xs none (some r2)
      have l2 := cut_len xs (some (r2 + 1)) none
      refine ⟨c1, c2, _, _, rfl, rfl, s8 _ _ hc1, upd_same, by show _ + 1 ≤ 1000; omega, fun c3 H8 s9 hc3 => ?_⟩
      refine ⟨.ref T, rfl, .int r2, rfl, r2, 1, rfl, rfl, r2 + 1, rfl, T, xs, rfl, s9 _ _ (s8 _ _ (s7 _ _ hT')), fun c4 H9 s10 hc4 => ?_⟩
      refine ⟨c3, c4, _, _, rfl, rfl, s10 _ _ hc3, hc4, by rw [List.length_append]; show _ + 1 + _ ≤ 1000; omega, fun c5 H10 s11 hc5 => ?_⟩
      have sA := s7.trans (s8.trans (s9.trans (s10.trans s11)))
      have wx' := wx (tk_same (s.trans sA))
      refine k1 _ _ sA ⟨by rw [List.length_append, hY.1]; rfl, (hY.2.mono (Wk.of sA)).app ((((wx'.cut none (some r2)).app (.cons (hxa.mono (Wk.of sA)) hxw .nil)).app (wx'.cut (some (r2 + 1)) none)).one hc5 ?_)⟩
      rw [List.length_append, List.length_append]
      show _ + 1 + _ ≤ 100
      omega
    -- more of them
    have hT6 := s6 _ _ hT4
    have ly : ys.length = 5 := hY6.1
    have fD := st4.fresh nD
    refine ⟨.ref D, rfl, .ref T, rfl, T, xs, rfl, SqT.of hT6, fun c1 nc1 => ?_⟩
    have u1 := same_new (o := HO.tup xs.reverse) nc1
    have g1 := upd_same (H := H6) (a := c1) (o := HO.tup xs.reverse)
    refine ⟨.ref T, rfl, .ref T, rfl, 1, rfl, -1, rfl, T, xs, rfl, u1 _ _ hT6, fun c2 H7 u2 hc2 => ?_⟩
    have l3 := cut_len xs (some (-1)) none
    refine ⟨T, c2, _, _, rfl, rfl, u2 _ _ (u1 _ _ hT6), hc2, by omega, fun c3 H8 u3 hc3 => ?_⟩
    have u13 := u1.trans (u2.trans u3)
    refine ⟨.ref T, rfl, T, xs, rfl, .inr (SqT.of (u13 _ _ hT6)), fun c4 nc4 => ?_⟩
    have u4 := same_new (o := HO.lst xs) nc4
    have g4 := upd_same (H := H8) (a := c4) (o := HO.lst xs)
    generalize upd H8 c4 (HO.lst xs) = H9 at u4 g4 ⊢
    intro c5 nc5
    have u5 := same_new (o := HO.dK []) nc5
    have g5 := upd_same (H := H9) (a := c5) (o := HO.dK [])
    generalize upd H9 c5 (HO.dK []) = H10 at u5 g5 ⊢
    refine ⟨by show 2 ≤ sizeLine; decide, fun c6 nc6 => ?_⟩
    have u6 := same_new (o := HO.tup [V.int 0, V.int 1]) nc6
    have g6 := upd_same (H := H10) (a := c6) (o := HO.tup [V.int 0, V.int 1])
    generalize upd H10 c6 (HO.tup [V.int 0, V.int 1]) = H11 at u6 g6 ⊢
    have u16 := u13.trans (u4.trans (u5.trans u6))
    have w11 : AvX H11 [V.ref c1, V.ref c3, V.ref c4, V.non, V.int 5, V.str "plan", V.ref c5, V.ref c6] := by
      have wxa := wx (tk_same (s6.trans u16))
      have q1 : AvX H11 [V.ref c1] := wxa.rev.one (u6 _ _ (u5 _ _ (u4 _ _ (u3 _ _ (u2 _ _ g1))))) (by rw [List.length_reverse]; omega)
      have q3 : AvX H11 [V.ref c3] := (wxa.app (wxa.cut (some (-1)) none)).one (u6 _ _ (u5 _ _ (u4 _ _ hc3))) (by rw [List.length_append]; omega)
      exact q1.app (q3.app (.cons (.lst (u6 _ _ (u5 _ _ g4))) trivial (.cons .non trivial (.cons (.int 5) trivial (.cons (.str "plan") trivial (.cons (.dct (u6 _ _ g5)) trivial (.cons (.tup g6 (.cons (.int _) (.cons (.int _) .nil))) (A.wid2_two 0 1) .nil)))))))
    refine ⟨by show 8 ≤ sizeLine; decide, fun L2 nL2 => ?_⟩
    have u7 := same_new (o := HO.lst [V.ref c1, V.ref c3, V.ref c4, V.non, V.int 5, V.str "plan", V.ref c5, V.ref c6]) nL2
    have g7 := upd_same (H := H11) (a := L2) (o := HO.lst [V.ref c1, V.ref c3, V.ref c4, V.non, V.int 5, V.str "plan", V.ref c5, V.ref c6])
    refine ⟨D, L2, ys, _, rfl, rfl, u7 _ _ (u16 _ _ hD6), g7, by rw [ly, sizeLine_eq]; show 5 + 8 ≤ _; omega, fun D2 nD2 => ?_⟩
    have u8 := same_new (o := HO.lst (ys ++ [V.ref c1, V.ref c3, V.ref c4, V.non, V.int 5, V.str "plan", V.ref c5, V.ref c6])) nD2
    have g8 := upd_same (H := upd H11 L2 (HO.lst [V.ref c1, V.ref c3, V.ref c4, V.non, V.int 5, V.str "plan", V.ref c5, V.ref c6])) (a := D2) (o := HO.lst (ys ++ [V.ref c1, V.ref c3, V.ref c4, V.non, V.int 5, V.str "plan", V.ref c5, V.ref c6]))
    have u18 := u16.trans (u7.trans u8)
    have w12 := (hY6.2.mono (Wk.of u18)).app (w11.mono (Wk.of (u7.trans u8)))
    have lw : (ys ++ [V.ref c1, V.ref c3, V.ref c4, V.non, V.int 5, V.str "plan", V.ref c5, V.ref c6]).length = 13 := by rw [List.length_append, ly]; rfl
    have nD2' : H5 D2 = none := by
      cases e : H5 D2 with
      | none => rfl
      | some o => rw [(s6.trans (u16.trans u7)) _ _ e] at nD2; cases nD2
    have fD2 := st4.fresh nD2'
    have s58 := s6.trans u18
    generalize upd (upd H11 L2 (HO.lst [V.ref c1, V.ref c3, V.ref c4, V.non, V.int 5, V.str "plan", V.ref c5, V.ref c6])) D2 (HO.lst (ys ++ [V.ref c1, V.ref c3, V.ref c4, V.non, V.int 5, V.str "plan", V.ref c5, V.ref c6])) = H12 at g8 w12 s58 ⊢
    generalize ys ++ [V.ref c1, V.ref c3, V.ref c4, V.non, V.int 5, V.str "plan", V.ref c5, V.ref c6] = zs at g8 w12 lw ⊢
    obtain ⟨k, hk⟩ : ∃ k : Nat, r2 = k := ⟨r2.toNat, by omega⟩
    subst hk
    have hT7 := s58 _ _ hT4
    have l1 := cut_len xs none (some (k : Int))
    have l2 := cut_len xs (some ((k : Int) + 1)) none
    refine ⟨.ref D2, rfl, .inl ⟨rfl, _, SqL.of g8⟩, .ref T, rfl, .int k, rfl, k, rfl, T, xs, rfl, hT7, fun d1 H13 v1 hd1 => ?_⟩
    refine ⟨.ref T, rfl, .int k, rfl, k, 1, rfl, rfl, (k : Int) + 1, rfl, T, xs, rfl, v1 _ _ hT7, fun d2 H14 v2 hd2 => ?_⟩
    refine ⟨d1, d2, _, _, rfl, rfl, v2 _ _ hd1, hd2, by omega, fun d3 H15 v3 hd3 => ?_⟩
    have v13 := v1.trans (v2.trans v3)
    have ht17 := v13 _ _ (s58 _ _ ht14)
    have ht27 := v13 _ _ (s58 _ _ ht24)
    refine ⟨.ref t1, rfl, t1, _, 0, .int p1.1, rfl, rfl, SqT.of ht17, atI_nat (j := 0) rfl, .ref t2, rfl, t2, _, 1, .int p2.2, rfl, rfl, SqT.of ht27, atI_nat (j := 1) rfl, by show 2 ≤ sizeLine; decide, fun d4 nd4 => ⟨by show 1 ≤ sizeLine; decide, fun d5 nd5 => ?_⟩⟩
    have v4 := same_new (o := HO.tup [V.int p1.1, V.int p2.2]) nd4
    have i4 := upd_same (H := H15) (a := d4) (o := HO.tup [V.int p1.1, V.int p2.2])
    have v5 := same_new (o := HO.tup [V.ref d4]) nd5
    have i5 := upd_same (H := upd H15 d4 (HO.tup [V.int p1.1, V.int p2.2])) (a := d5) (o := HO.tup [V.ref d4])
    have i4 := v5 _ _ i4
    have v45 := v4.trans v5
    generalize upd (upd H15 d4 (HO.tup [V.int p1.1, V.int p2.2])) d5 (HO.tup [V.ref d4]) = H16 at i4 i5 v45 ⊢
    have hd3 := v45 _ _ hd3
    have l6 : (cutV xs none (some (k : Int)) ++ cutV xs (some ((k : Int) + 1)) none).length ≤ 20 := by rw [List.length_append]; omega
    refine ⟨d3, d5, _, _, rfl, rfl, hd3, i5, by show _ + 1 ≤ 1000; omega, fun d6 H17 v6 hd6 => ?_⟩
    have v16 := v13.trans (v45.trans v6)
    have hxs17 := hxs4.tmono (tk_same (s58.trans v16))
    have ec : cutV xs none (some (k : Int)) ++ cutV xs (some ((k : Int) + 1)) none = xs.take k ++ xs.drop (k + 1) := by
      rw [cutV_to]
      congr 1
      exact cutV_from xs (k + 1)
    rw [ec] at hd6 l6
    have hdd : DtAll H17 (xs.take k ++ xs.drop (k + 1) ++ [V.ref d4]) ((m.take k ++ m.drop (k + 1) ++ [(p1.1, p2.2)]).map prD) := by
      rw [List.map_append, List.map_append, List.map_take, List.map_drop]
      exact ((hxs17.takeD k).app (hxs17.dropD (k + 1))).app (.one (dt_mk (v6 _ _ i4)))
    have l7 := hdd.len
    rw [List.length_map, List.length_append] at l7
    have l8 : [V.ref d4].length = 1 := rfl
    refine ⟨Pair, prD, d6, _, _, rfl, .inr (SqT.of hd6), hdd, alike_prs _, sortable_prs _, (fun b _ => by rw [dep_pr]; decide), by omega, fun so zs2 nso hys => ?_⟩
    rw [leP_data] at hys
    have v7 := same_new (o := HO.lst zs2) nso
    refine .inl ⟨so, zs2, rfl, SqL.of upd_same, fun d7 nd7 => ?_⟩
    have v8 := same_new (o := HO.tup zs2) nd7
    have i8 := upd_same (H := upd H17 so (HO.lst zs2)) (a := d7) (o := HO.tup zs2)
    have v78 := v7.trans v8
    have v18 := v16.trans v78
    have g9 := v18 _ _ g8
    have wA : AvX _ [V.ref d7] := AvW.one (H := upd (upd H17 so (HO.lst zs2)) d7 (HO.tup zs2)) ⟨_, (hys.tmono (tk_same v78)).av, fun a ha => by
      rw [toAs_map, List.map_map] at ha
      obtain ⟨p, _, rfl⟩ := List.mem_map.mp ha
      show A.wid (toA (prD p))
      simp [toA, toAs, A.wid]⟩ i8 (by
      have := hys.len
      rw [List.length_map, show (List.mergeSort _ _).length = _ from (sortP_perm _).length_eq] at this
      omega)
    have s5A := s58.trans v18
    have wB := (w12.mono (Wk.of v18)).app wA
    generalize upd (upd H17 so (HO.lst zs2)) d7 (HO.tup zs2) = H18 at v18 g9 wA wB s5A ⊢
    refine ⟨D2, zs, _, rfl, rfl, g9, by rw [lw]; decide, ?_⟩
    have szC := (SZ.of (z := z) (l := l) s5A).mut (ys := zs ++ [V.ref d7]) nD2' g9
    have stC := st4.mut (ys := zs ++ [V.ref d7]) (SZ.of s5A) (st4.same s5A) nD2' g9
    have gA := upd_same (H := H18) (a := D2) (o := HO.lst (zs ++ [V.ref d7]))
    have wC := wB.mono (wk_lst (ys := zs ++ [V.ref d7]) g9)
    have lC : (zs ++ [V.ref d7]).length = 14 := by rw [List.length_append, lw]; rfl
    generalize upd H18 D2 (HO.lst (zs ++ [V.ref d7])) = H19 at szC stC gA wC ⊢
    generalize zs ++ [V.ref d7] = ws at gA wC lC ⊢
    have hT9 := szC.tk _ _ hT4
    refine ⟨.ref z, rfl, .ref D2, rfl, .ref T, rfl, .int k, rfl, k, rfl, T, xs, rfl, hT9, fun a1 HA y1 ha1 => ?_⟩
    refine ⟨.ref z, rfl, .ref t1, rfl, z, l, _, t1, p1.1, p1.2, rfl, stC.same y1, by omega, y1 _ _ (szC.tk _ _ ht14), fun bp as HB y2 stD hav hal => ⟨by show 1 ≤ sizeLine; decide, fun a2 na2 => ?_⟩⟩
    have y3 := same_new (o := HO.tup [V.ref bp]) na2
    have l9 : [V.ref bp].length = 1 := rfl
    refine ⟨a1, a2, _, _, rfl, rfl, y3 _ _ (y2.tk _ _ ha1), upd_same, by rw [l9]; omega, fun a3 HC y4 ha3 => ?_⟩
    refine ⟨.ref T, rfl, .int k, rfl, k, 1, rfl, rfl, (k : Int) + 1, rfl, T, xs, rfl, y4 _ _ (y3 _ _ (y2.tk _ _ (y1 _ _ hT9))), fun a4 HD y5 ha4 => ?_⟩
    refine ⟨a3, a4, _, _, rfl, rfl, y5 _ _ ha3, ha4, by rw [List.length_append, l9]; omega, fun a5 HE y6 ha5 => ⟨by show 1 ≤ sizeLine; decide, fun L3 nL3 => ?_⟩⟩
    have y36 := y3.trans (y4.trans (y5.trans y6))
    have y7 := same_new (o := HO.lst [V.ref a5]) nL3
    have b7 := upd_same (H := HE) (a := L3) (o := HO.lst [V.ref a5])
    have wT : AvX HE [V.ref a5] := by
      have wx' := wx (szC.trans ((SZ.of y1).trans (y2.trans (SZ.of y36)))).tk
      refine (((wx'.cut none (some (k : Int))).app (.cons (hav.mono (Wk.of y36)) (by show as.length ≤ 100; omega) .nil)).app (wx'.cut (some ((k : Int) + 1)) none)).one ha5 ?_
      rw [List.length_append, List.length_append, l9]
      omega
    have bD := y7 _ _ (y36 _ _ (y2.k _ _ fD2.1 fD2.2 (y1 _ _ gA)))
    refine ⟨D2, L3, ws, _, rfl, rfl, bD, b7, by rw [lC, sizeLine_eq]; show 14 + 1 ≤ _; omega, fun D3 nD3 => ?_⟩
    have y8 := same_new (o := HO.lst (ws ++ [V.ref a5])) nD3
    have y38 := y36.trans (y7.trans y8)
    have stE := (stD.same y36).same y7
    refine ⟨z, l, _, D3, _, rfl, stE.same y8, by omega, .inl ⟨upd_same, (stE.fresh nD3).2⟩, by rw [List.length_append, lC]; show 1 ≤ 14 + 1 ∧ 14 + 1 ≤ 1000; decide, fun v HF hv y9 stF => ?_⟩
    have szD := (SZ.of (z := z) (l := l) y1).trans (y2.trans (SZ.of y38))
    have wF := (((wC.mono szD.wk).app (wT.mono (Wk.of (y7.trans y8)))).mono y9.wk)
    obtain ⟨i, hi⟩ := List.mem_iff_getElem?.mp hv
    obtain ⟨a, hva, hvw⟩ := wF.mem hi
    exact q v a HF ((szB.trans szC).trans (szD.trans y9)) (stF.up (by omega)) hva hvw
end
end Pk
set_option maxHeartbeats 1000000
namespace Pk
open PySem PySem.Spec PyProof.Rows L2
/-! ### what is no book -/
def sp_law_bad_book : Sp := fun vs H Q _ => ∃ (z l : Addr) (t : Nat), vs = [.ref z] ∧ LSt z l t H ∧ t + 350 ≤ 1000000 ∧
  ∀ v a H', SZ z l H H' → LSt z l (t + 350) H' → Av H' v a → a.wid2 → a.book = none → Q v H'
section
variable {P : Program} {w : World} {K : PySem.W.Frag} {mg : Str → Option Value} {base : Heap}
theorem ok_law_bad_book {f : Addr} {fd : FuncData} (F : Fun K "_law_bad_book" "_law_bad_book" s__law_bad_book f fd) (G : Glob mg)
    (C_law_draw : Cal P w K mg base CX0 1 "_law_draw" ["_law_state", "_law_size_here"] sp_law_draw)
    (C_law_pick : Cal P w K mg base CX0 2 "_law_pick" ["_law_state", "_law_several"] sp_law_pick)
    (C_law_book : Cal P w K mg base CX0 5 "_law_book" ["_law_state", "_law_most"] sp_law_book)
    (C_law_bad_plan : Cal P w K mg base CX0 4 "_law_bad_plan" ["_law_state"] sp_law_bad_plan)
    (C_law_is_book : Cal P w K mg base CX0 5 "_law_is_book" ["_law_item"] sp_books_right) : FnOk P w K mg base CX0 6 f fd ["_law_state"] sp_law_bad_book := by
  refine F.ok c__law_bad_book (fun vs H Q E h => ?_) (fun cdv A0 outer s H vs Q E hr h => ?_)
  · obtain ⟨z, l, t, rfl, _⟩ := h
    rfl
  · obtain ⟨z, l, t, rfl, hst, ht, q⟩ := h
    refine ⟨_, 
      (pss_cons (ps_set (i := 1) c__law_bad_book.nd rfl (.inl rfl) (pe_cal C_law_book hr pass0 (pa_cons (pv 0) (pa_cons pe_int pa_nil))))
      (pss_cons (ps_par (i := 2) (j := 3) rfl c__law_bad_book.nd rfl rfl (by decide) rfl rfl (pa_cons (pe_cal C_law_draw hr pass0 (pa_cons (pv 0) (pa_cons (pe_callB (lenS K) (by rfl) G.len PySem.boot_len (pa_cons (pv 1) pa_nil)) pa_nil))) (pa_cons (pe_cal C_law_bad_plan hr pass0 (pa_cons (pv 0) pa_nil)) pa_nil)) (by rfl))
      (pss_cons (ps_set (i := 4) c__law_bad_book.nd rfl (.inl rfl) (pe_lst (pa_cons (pe_op catU (pe_op catU (pe_slice (slM K) (pv 1) po_none (po_some (pv 2))) (pe_tup (pa_cons (pv 3) pa_nil))) (pe_slice (slM K) (pv 1) (po_some (pe_op op_add (pv 2) pe_int)) po_none)) (pa_cons (pe_op catU (pe_op catU (pe_slice (slM K) (pv 1) po_none (po_some (pv 2))) (pe_tup (pa_cons (pv 3) pa_nil))) (pe_slice (slM K) (pv 1) (po_some (pe_op op_add (pv 2) pe_int)) po_none)) (pa_cons (pe_callTy call_list_of (by rfl) G.list (by decide +kernel) (pa_cons (pv 1) pa_nil)) (pa_cons (pe_tup pa_nil) (pa_cons pe_non (pa_cons pe_int (pa_cons pe_dnewK (pa_cons (pv 3) pa_nil))))))))))
      (pss_one (ps_ret (pe_cal C_law_pick hr pass0 (pa_cons (pv 0) (pa_cons (pe_lc (own := [("_law_item", 5)]) rfl c__law_bad_book.nd (piLK K (pe_op op_cat (pv 4) (pe_lst (pa_cons (pe_op op_repT (pe_tup (pa_cons (pe_tup pa_nil) pa_nil)) pe_int) pa_nil)))) (blkOk_by (own := [("_law_item", 5)]) (N := n__law_bad_book) (sc := defScope s__law_bad_book) (by decide +kernel)) (fun _ _ _ _ _ => (pg_name (i := 5) c__law_bad_book.nd rfl (.inl rfl))) (fun _ _ _ _ _ => (pts_one (pt_not (pt_val (pe_cal C_law_is_book hr pass0 (pa_cons (pv 5) pa_nil)))))) (fun _ _ _ _ _ => (pv 5))) pa_nil)))))))), ?_⟩
    refine ⟨.ref z, rfl, z, l, t, rfl, hst, by omega, fun v b H1 s1 st1 hd hb hbl => ?_⟩
    obtain ⟨T, xs, rfl, hT, hxs, hxl⟩ := dt_book hd
    have hb1 := hb.len
    refine ⟨.ref z, rfl, .ref T, rfl, T, xs, rfl, .inr (SqT.of hT), z, l, _, xs.length, rfl, st1, by omega, by omega, fun r2 H2 hr2 s2 st2 => ?_⟩
    refine ⟨.ref z, rfl, z, l, _, rfl, st2, by omega, fun bad ba H3 s3 st3 hba hbw => ⟨_, _, rfl, ?_⟩⟩
    have szA := s1.trans (s2.trans s3)
    have hT3 := s3.tk _ _ (s2.tk _ _ hT)
    have hxs3 := (hxs.tmono s2.tk).tmono s3.tk
    have wx : ∀ {H' : Hp}, Tk H3 H' → AvW H' xs := fun k => ⟨toAs (b.map plD), (hxs3.tmono k).av, by
      have h := hb.wid2
      rw [show toA (bkD b) = .tup (toAs (b.map plD)) by simp [toA]] at h
      exact h.2⟩
    have wb : ba.wid := by
      cases ba with
      | tup as => exact hbw.1
      | _ => trivial
    have l1 := cut_len xs none (some r2)
    have l2 := cut_len xs (some (r2 + 1)) none
    -- one plan replaced
    refine ⟨.ref T, rfl, .int r2, rfl, r2, rfl, T, xs, rfl, hT3, fun c1 I1 e1 hc1 => ⟨bad, rfl, by show 1 ≤ sizeLine; decide, fun c2 nc2 => ?_⟩⟩
    have e2 := same_new (o := HO.tup [bad]) nc2
    refine ⟨c1, c2, _, _, rfl, rfl, e2 _ _ hc1, upd_same, by show _ + 1 ≤ 1000; omega, fun c3 I3 e3 hc3 => ?_⟩
    refine ⟨.ref T, rfl, .int r2, rfl, r2, 1, rfl, rfl, r2 + 1, rfl, T, xs, rfl, e3 _ _ (e2 _ _ (e1 _ _ hT3)), fun c4 I4 e4 hc4 => ?_⟩
    refine ⟨c3, c4, _, _, rfl, rfl, e4 _ _ hc3, hc4, by rw [List.length_append]; show _ + 1 + _ ≤ 1000; omega, fun c5 I5 e5 hc5 => ?_⟩
    have e15 := e1.trans (e2.trans (e3.trans (e4.trans e5)))
    -- and once more
    have hT5 := e15 _ _ hT3
    refine ⟨.ref T, rfl, .int r2, rfl, r2, rfl, T, xs, rfl, hT5, fun d1 J1 f1 hd1 => ⟨bad, rfl, by show 1 ≤ sizeLine; decide, fun d2 nd2 => ?_⟩⟩
    have f2 := same_new (o := HO.tup [bad]) nd2
    refine ⟨d1, d2, _, _, rfl, rfl, f2 _ _ hd1, upd_same, by show _ + 1 ≤ 1000; omega, fun d3 J3 f3 hd3 => ?_⟩
    refine ⟨.ref T, rfl, .int r2, rfl, r2, 1, rfl, rfl, r2 + 1, rfl, T, xs, rfl, f3 _ _ (f2 _ _ (f1 _ _ hT5)), fun d4 J4 f4 hd4 => ?_⟩
    refine ⟨d3, d4, _, _, rfl, rfl, f4 _ _ hd3, hd4, by rw [List.length_append]; show _ + 1 + _ ≤ 1000; omega, fun d5 J5 f5 hd5 => ?_⟩
    have f15 := f1.trans (f2.trans (f3.trans (f4.trans f5)))
    have a15 := e15.trans f15
    refine ⟨.ref T, rfl, T, xs, rfl, .inr (SqT.of (a15 _ _ hT3)), fun g1 ng1 => ⟨by decide, fun g2 ng2 => fun g3 ng3 => ?_⟩⟩
    have o1 := same_new (o := HO.lst xs) ng1
    have i1 := upd_same (H := J5) (a := g1) (o := HO.lst xs)
    generalize upd J5 g1 (HO.lst xs) = M1 at o1 i1 ng2 ng3 ⊢
    have o2 := same_new (o := HO.tup []) ng2
    have i2 := upd_same (H := M1) (a := g2) (o := HO.tup [])
    generalize upd M1 g2 (HO.tup []) = M2 at o2 i2 ng3 ⊢
    have o3 := same_new (o := HO.dK []) ng3
    have i3 := upd_same (H := M2) (a := g3) (o := HO.dK [])
    generalize upd M2 g3 (HO.dK []) = M3 at o3 i3 ⊢
    refine ⟨bad, rfl, by show 8 ≤ sizeLine; decide, fun L nL => ?_⟩
    have o4 := same_new (o := HO.lst [V.ref c5, V.ref d5, V.ref g1, V.ref g2, V.non, V.int 5, V.ref g3, bad]) nL
    have i4 := upd_same (H := M3) (a := L) (o := HO.lst [V.ref c5, V.ref d5, V.ref g1, V.ref g2, V.non, V.int 5, V.ref g3, bad])
    have o13 := o1.trans (o2.trans o3)
    have l7 : [bad].length = 1 := rfl
    have w3 : AvX M3 [V.ref c5, V.ref d5, V.ref g1, V.ref g2, V.non, V.int 5, V.ref g3, bad] := by
      have sA := a15.trans o13
      have wxa := wx (tk_same sA)
      have q1 : AvX M3 [V.ref c5] := (((wxa.cut none (some r2)).app (.cons (hba.mono (Wk.of sA)) wb .nil)).app (wxa.cut (some (r2 + 1)) none)).one (o13 _ _ (f15 _ _ hc5)) (by rw [List.length_append, List.length_append, l7]; omega)
      have q2 : AvX M3 [V.ref d5] := (((wxa.cut none (some r2)).app (.cons (hba.mono (Wk.of sA)) wb .nil)).app (wxa.cut (some (r2 + 1)) none)).one (o13 _ _ hd5) (by rw [List.length_append, List.length_append, l7]; omega)
      exact q1.app (q2.app (.cons (.lst (o3 _ _ (o2 _ _ i1))) trivial (.cons (.tup (o3 _ _ i2) .nil) ⟨by decide, fun _ h => absurd h List.not_mem_nil⟩ (.cons .non trivial (.cons (.int 5) trivial (.cons (.dct i3) trivial (.cons (hba.mono (Wk.of sA)) hbw .nil)))))))
    have a17 := (a15.trans o13).trans o4
    have w4 := w3.mono (Wk.of o4)
    generalize upd M3 L (HO.lst [V.ref c5, V.ref d5, V.ref g1, V.ref g2, V.non, V.int 5, V.ref g3, bad]) = M4 at i4 a17 w4 ⊢
    refine ⟨.ref z, rfl, .ref L, rfl, by decide, fun h1 nh1 => ⟨by show 1 ≤ sizeLine; decide, fun h2 nh2 => ?_⟩⟩
    have o5 := same_new (o := HO.tup []) nh1
    have i5 := upd_same (H := M4) (a := h1) (o := HO.tup [])
    have o6 := same_new (o := HO.tup [V.ref h1]) nh2
    have i6 := upd_same (H := upd M4 h1 (HO.tup [])) (a := h2) (o := HO.tup [V.ref h1])
    have i5 := o6 _ _ i5
    have o56 := o5.trans o6
    generalize upd (upd M4 h1 (HO.tup [])) h2 (HO.tup [V.ref h1]) = M6 at i5 i6 o56 ⊢
    refine ⟨h2, 17, [V.ref h1], rfl, rfl, SqT.of i6, by simp, by decide, by decide, by show 1 ≤ 1000; decide, fun h3 nh3 => ?_⟩
    have o7 := same_new (o := HO.tup (List.replicate (17 : Int).toNat [V.ref h1]).flatten) nh3
    have i7 : (upd M6 h3 (HO.tup (List.replicate (17 : Int).toNat [V.ref h1]).flatten)) h3 = some (.tup (List.replicate 17 (V.ref h1))) := by
      rw [upd_same, flat_one]
      rfl
    have i5 := o7 _ _ i5
    generalize upd M6 h3 (HO.tup (List.replicate (17 : Int).toNat [V.ref h1]).flatten) = M7 at o7 i7 i5 ⊢
    refine ⟨by show 1 ≤ sizeLine; decide, fun L2 nL2 => ?_⟩
    have o8 := same_new (o := HO.lst [V.ref h3]) nL2
    have i8 := upd_same (H := M7) (a := L2) (o := HO.lst [V.ref h3])
    have i7 := o8 _ _ i7
    have i5 := o8 _ _ i5
    have o58 := o56.trans (o7.trans o8)
    generalize upd M7 L2 (HO.lst [V.ref h3]) = M8 at o58 i8 i7 i5 ⊢
    refine ⟨L, L2, _, _, rfl, rfl, o58 _ _ i4, i8, by show 8 + 1 ≤ sizeLine; decide, fun L3 nL3 => ?_⟩
    have o9 := same_new (o := HO.lst ([V.ref c5, V.ref d5, V.ref g1, V.ref g2, V.non, V.int 5, V.ref g3, bad] ++ [V.ref h3])) nL3
    have i9 := upd_same (H := M8) (a := L3) (o := HO.lst ([V.ref c5, V.ref d5, V.ref g1, V.ref g2, V.non, V.int 5, V.ref g3, bad] ++ [V.ref h3]))
    have w9 := (w4.mono (Wk.of (o58.trans o9))).app (show AvX _ [V.ref h3] from AvW.one (.of_mem fun v hv => ⟨.tup [], (List.mem_replicate.mp hv).2 ▸ .tup (o9 _ _ i5) .nil, by show 0 ≤ 100; decide⟩) (o9 _ _ i7) (by rw [List.length_replicate]; decide))
    have a19 := a17.trans (o58.trans o9)
    generalize hit : [V.ref c5, V.ref d5, V.ref g1, V.ref g2, V.non, V.int 5, V.ref g3, bad] ++ [V.ref h3] = its at o9 i9 w9 a19 ⊢
    have li : its.length = 9 := by rw [← hit]; rfl
    have h4 : its[4]? = some .non := by rw [← hit]; rfl
    generalize upd M8 L3 (HO.lst its) = M9 at i9 w9 a19 ⊢
    refine ⟨L3, rfl, ⟨_, SqL.of i9⟩, fun D nD => ?_⟩
    have st9 := st3.same a19
    have fD := st9.fresh nD
    refine lcW nD (Wlk.list (SqL.of i9)) (fun i H ys => ys.length ≤ i ∧ (∀ v, v ∈ ys → ∃ a, Av H v a ∧ a.wid2 ∧ a.book = none) ∧ (5 ≤ i → 1 ≤ ys.length)) (fun i H H' ys w e => ⟨e.1, fun v hv => let ⟨a, h1, h2⟩ := e.2.1 v hv; ⟨a, h1.mono w, h2⟩, e.2.2⟩) (by omega) ⟨Nat.le_refl _, fun _ h => absurd h List.not_mem_nil, fun h => absurd h (by omega)⟩ (fun i x H' ys hi s hx hY Q1 Q2 k1 k2 => ?_) fun HA ys sA hDA hYA => ?_
    · obtain ⟨a, hxa, hxw⟩ := (w9.mono (Wk.of s)).mem hx
      refine ⟨rfl, x, rfl, x, a, rfl, hxa, hxw, fun H2 s2 => ⟨_, rfl, ?_⟩⟩
      cases hbk : a.book with
      | some b2 =>
        refine k2 _ s2 ⟨Nat.le_succ_of_le hY.1, fun v hv => let ⟨a, h1, h2⟩ := hY.2.1 v hv; ⟨a, h1.mono (Wk.of s2), h2⟩, fun h5 => ?_⟩
        by_cases e : i = 4
        · subst e
          rw [h4] at hx
          cases hx
          cases hxa
          cases hbk
        · exact hY.2.2 (by omega)
      | none =>
        refine ⟨x, rfl, k1 _ _ s2 ⟨by rw [List.length_append]; exact Nat.succ_le_succ hY.1, fun v hv => ?_, fun _ => by rw [List.length_append]; exact Nat.le_add_left _ _⟩⟩
        rcases List.mem_append.mp hv with e | e
        · obtain ⟨a, h1, h2⟩ := hY.2.1 v e
          exact ⟨a, h1.mono (Wk.of s2), h2⟩
        · rw [List.mem_singleton.mp e]
          exact ⟨a, hxa.mono (Wk.of s2), hxw, hbk⟩
    obtain ⟨y1, y2, y3⟩ := hYA
    have y4 := y3 (by omega)
    refine ⟨z, l, _, D, ys, rfl, st9.same sA, by omega, .inl ⟨hDA, fD.2⟩, by omega, fun v HF hv sF stF => ?_⟩
    obtain ⟨a, ha, hw2, hno⟩ := y2 v hv
    exact q v a HF (szA.trans ((SZ.of (a19.trans sA)).trans sF)) (stF.up (by omega)) (ha.mono sF.wk) hw2 hno
end
end Pk
set_option maxHeartbeats 1000000
namespace Pk
open PySem PySem.Spec PyProof.Rows L2
/-! ### the law's judge of picks -/
section
variable {P : Program} {w : World} {K : PySem.W.Frag} {mg : Str → Option Value} {base : Heap}
theorem ok_law_is_pick {f : Addr} {fd : FuncData} (F : Fun K "_law_is_pick" "_law_is_pick" s__law_is_pick f fd) (G : Glob mg) (C_law_is_below : Cal P w K mg base CX0 2 "_law_is_below" ["_law_item", "_law_many"] sp_law_is_below)
    (C_law_is_pair : Cal P w K mg base CX0 3 "_law_is_pair" ["_law_item"] sp_is_pair) (C_law_are_apart : Cal P w K mg base CX0 1 "_law_are_apart" ["_law_several"] (sp_are_apart K)) : FnOk P w K mg base CX0 4 f fd ["_law_book_here", "_law_item"] sp_picks_right := by
  refine F.ok c__law_is_pick (fun vs H Q E h => ?_) (fun cdv A0 outer s H vs Q E hr h => ?_)
  · obtain ⟨v, d, b, R, rfl, _⟩ := h
    rfl
  · obtain ⟨v, d, b, R, rfl, hv, hb, ⟨kvs, hd, hk⟩, hp, q⟩ := h
    refine ⟨_, 
      (pss_cons (ps_if (PW.pt (pw_or (pt_not (pt_val (pe_callB (isiK K) (by rfl) G.isinstance boot_isinstance (pa_cons (pv 1) (pa_cons (pe_ty "dict" G.dict) pa_nil))))) (pw_or1 (pt_cmpR (neD K hr.units) (pe_lock (pe_lc (own := [("_law_number", 2)]) rfl c__law_is_pick.nd (pi_keys (pv 1)) (blkOk_by (own := [("_law_number", 2)]) (N := n__law_is_pick) (sc := defScope s__law_is_pick) (by decide +kernel)) (fun _ _ _ _ _ => (pg_name (i := 2) c__law_is_pick.nd rfl (.inl rfl))) (fun _ _ _ _ _ => (pts_one (pt_not (pt_val (pe_cal C_law_is_below hr pass0 (pa_cons (pv 2) (pa_cons (pe_callB (lenS K) (by rfl) G.len PySem.boot_len (pa_cons (pv 0) pa_nil)) pa_nil))))))) (fun _ _ _ _ _ => pe_int))) (pe_lst pa_nil) (nomark _))))) 
          (pss_one (ps_ret pe_bl)) pss_nil)
      (pss_cons (ps_if (pt_cmpR (neD K hr.units) (pe_lock (pe_lc (own := [("_law_number", 2)]) rfl c__law_is_pick.nd (pi_keys (pv 1)) (blkOk_by (own := [("_law_number", 2)]) (N := n__law_is_pick) (sc := defScope s__law_is_pick) (by decide +kernel)) (fun _ _ _ _ _ => (pg_name (i := 2) c__law_is_pick.nd rfl (.inl rfl))) (fun _ _ _ _ _ => (pts_one (PW.pt (pw_or (pt_not (pt_val (pe_cal C_law_is_pair hr pass0 (pa_cons (pe_dget (hu_of hr) (pv 1) (pv 2) (fun _ _ => rfl)) pa_nil)))) (pw_or1 (pt_cmpR (ninT K (u65 hr)) (pe_dget (hu_of hr) (pv 1) (pv 2) (fun _ _ => rfl)) (pe_ix (ixT K) (pv 0) (pv 2) (fun _ _ => rfl)) (by rfl))))))) (fun _ _ _ _ _ => pe_int))) (pe_lst pa_nil) (nomark _)) 
          (pss_one (ps_ret pe_bl)) pss_nil)
      (pss_one (ps_ret (pe_cal C_law_are_apart hr pass0 (pa_cons (pe_lock (pe_lc (own := [("_law_number", 2)]) rfl c__law_is_pick.nd (pi_keys (pv 1)) (blkOk_by (own := [("_law_number", 2)]) (N := n__law_is_pick) (sc := defScope s__law_is_pick) (by decide +kernel)) (fun _ _ _ _ _ => (pg_name (i := 2) c__law_is_pick.nd rfl (.inl rfl))) (fun _ _ _ _ _ => pts_nil) (fun _ _ _ _ _ => (pe_dget (hu_of hr) (pv 1) (pv 2) (fun _ _ => rfl))))) pa_nil)))))), ?_⟩
    obtain ⟨B, xs, rfl, hB, hs, hxl⟩ := dt_book hv
    have hbl := hb.len
    have h8 := hp.len8 hb
    have hkl := hk.len
    refine ⟨.ref d, rfl, .ref d, .ty "dict", _, .type "dict", _, rfl, .ty _, .base (.dK hd), kit_ty (show kitB "dict" "dict" = some true by decide +kernel), _, rfl, ?_⟩
    refine ⟨d, _, hd, trivial, fun od => ⟨.ref d, rfl, d, od, rfl, .inl ⟨kvs, upd_same, fun D nD => ?_⟩⟩⟩
    have tl : ∀ od, Tk H (upd H d (.frz od (.dK kvs))) := fun od => tk_lock hd (fun _ z => by cases z)
    refine lcW nD (Wlk.keys upd_same) (fun i H ys => ys = []) (fun i H H' ys _ e => e) (by omega) rfl (fun i x H' ys hi s hx hY Q1 Q2 k1 k2 => ?_) fun H1 ys s1 hD hY => ?_
    · obtain ⟨k, u, hku, rfl⟩ := hx
      obtain ⟨t, ht, rfl, hdu⟩ := hk.at hku
      have hB2 := s _ _ (tl od _ _ hB)
      obtain ⟨hm1, _⟩ := hp.mem t (List.mem_of_getElem? ht)
      refine ⟨rfl, .int t.1, rfl, .ref B, rfl, B, xs, rfl, .inr (SqT.of hB2), .int t.1, .int t.1, (xs.length : Int), rfl, .int _, _, rfl, ?_⟩
      have e : (A.int t.1).bet 0 ((xs.length : Int) - 1) = true := by
        show (decide ((0 : Int) ≤ t.1) && decide ((t.1 : Int) ≤ (xs.length : Int) - 1)) = true
        rw [decide_eq_true (by omega), decide_eq_true (by omega)]
        rfl
      rw [e]
      exact k2 _ (Same.refl _) hY
    subst hY
    have hdf := s1 _ _ upd_same
    refine ⟨hdf, by decide, fun e0 ne0 => ?_⟩
    have hD1 : (upd H1 d (.dK kvs)) D = some (.lst []) := by
      rw [upd_ne (new_lock nD).1]
      exact hD
    have sH1 : Same H (upd H1 d (.dK kvs)) := same_unlock hd s1
    clear s1 hD hdf nD
    generalize upd H1 d (.dK kvs) = H1 at sH1 hD1 ne0 ⊢
    have se := same_new (o := HO.lst []) ne0
    have sH1 := sH1.trans se
    refine ⟨.list [], .list [], .lst (SqL.of (se _ _ hD1)) .nil, .lst (SqL.of upd_same) .nil, by decide, by decide, _, rfl, ?_⟩
    generalize upd H1 e0 (HO.lst []) = H1 at sH1 ⊢
    -- the second test
    have hd1 := sH1 _ _ hd
    refine ⟨d, _, hd1, trivial, fun od2 => ⟨.ref d, rfl, d, od2, rfl, .inl ⟨kvs, upd_same, fun D2 nD2 => ?_⟩⟩⟩
    have tl2 : ∀ od, Tk H (upd H1 d (.frz od (.dK kvs))) := fun od a zs e => tk_lock hd1 (fun _ z => by cases z) _ _ (sH1 _ _ e)
    refine lcW nD2 (Wlk.keys upd_same) (fun i H ys => ys = []) (fun i H H' ys _ e => e) (by omega) rfl (fun i x H' ys hi s hx hY Q1 Q2 k1 k2 => ?_) fun H2 ys s2 hD hY => ?_
    · obtain ⟨k, u, hku, rfl⟩ := hx
      obtain ⟨t, ht, rfl, hdu⟩ := hk.at hku
      have htm := List.mem_of_getElem? ht
      have tk : Tk H H' := fun a zs e => s _ _ (tl2 od2 _ _ e)
      have hB2 := tk _ _ hB
      have hf := s _ _ (upd_same (H := H1) (o := HO.frz od2 (.dK kvs)))
      obtain ⟨hm1, hm2⟩ := hp.mem t htm
      obtain ⟨v, hv1, hv2⟩ := hk.get hp.num htm
      have hv2 := hv2.tmono tk
      have dg : DGet H' d (.int t.1) (some v) := .inl ⟨kvs, ikey t.1, .inr ⟨od2, hf⟩, rfl, hv1.symm⟩
      have hm : b[t.1]? = some (MB b t.1) := by
        rw [MB, List.getD_eq_getElem?_getD, List.getElem?_eq_getElem hm1]
        rfl
      obtain ⟨x, hx, hdx⟩ := (hs.tmono tk).get (i := t.1) (d := plD (MB b t.1)) (by rw [List.getElem?_map, hm]; rfl)
      refine ⟨rfl, .ref d, rfl, .int t.1, rfl, d, v, rfl, dg, v, _, rfl, hv2.av, _, rfl, ?_⟩
      have e1 : (A.pair (toA (prD t.2))).isSome = true := by
        rw [pair_back (hp.rng hb htm)]
        rfl
      rw [e1]
      refine ⟨.ref d, rfl, .int t.1, rfl, d, v, rfl, dg, .ref B, rfl, .int t.1, rfl, B, xs, t.1, x, rfl, rfl, SqT.of hB2, atI_nat hx, ?_⟩
      refine ⟨_, _, hv2.dp, hdx.dp, shaped_pr _, shaped_pl _, _, rfl, ?_⟩
      have e2 : (if true = true then !((MB b t.1).map prD).any fun z => PyData.eqv z (prD t.2) else ((MB b t.1).map prD).any fun z => PyData.eqv z (prD t.2)) = false := by
        rw [if_pos rfl, any_pr, decide_eq_true hm2]
        rfl
      rw [e2]
      exact k2 _ (Same.refl _) hY
    subst hY
    have hdf := s2 _ _ upd_same
    refine ⟨hdf, by decide, fun e1 ne1 => ?_⟩
    have hD2 : (upd H2 d (.dK kvs)) D2 = some (.lst []) := by
      rw [upd_ne (new_lock nD2).1]
      exact hD
    have sH2 : Same H (upd H2 d (.dK kvs)) := sH1.trans (same_unlock hd1 s2)
    clear s2 hD hdf nD2
    generalize upd H2 d (.dK kvs) = H2 at sH2 hD2 ne1 ⊢
    have se := same_new (o := HO.lst []) ne1
    have sH2 := sH2.trans se
    refine ⟨.list [], .list [], .lst (SqL.of (se _ _ hD2)) .nil, .lst (SqL.of upd_same) .nil, by decide, by decide, _, rfl, ?_⟩
    generalize upd H2 e1 (HO.lst []) = H2 at sH2 ⊢
    have hd2 := sH2 _ _ hd
    refine ⟨d, _, hd2, trivial, fun od3 => ⟨.ref d, rfl, d, od3, rfl, .inl ⟨kvs, upd_same, fun D3 nD3 => ?_⟩⟩⟩
    have tl3 : Tk H (upd H2 d (.frz od3 (.dK kvs))) := fun a zs e => tk_lock hd2 (fun _ z => by cases z) _ _ (sH2 _ _ e)
    refine lcW nD3 (Wlk.keys upd_same) (fun i H ys => DtAll H ys ((R.take i).map fun t => prD t.2)) (fun i H H' ys k e => e.mono k) (by omega) .nil (fun i x H' ys hi s hx hY Q1 Q2 k1 k2 => ?_) fun H3 ys s3 hD hY => ?_
    · obtain ⟨k, u, hku, rfl⟩ := hx
      obtain ⟨t, ht, rfl, hdu⟩ := hk.at hku
      have tk : Tk H H' := fun a zs e => s _ _ (tl3 _ _ e)
      have hf := s _ _ (upd_same (H := H2) (o := HO.frz od3 (.dK kvs)))
      obtain ⟨v, hv1, hv2⟩ := hk.get hp.num (List.mem_of_getElem? ht)
      refine ⟨rfl, .ref d, rfl, .int t.1, rfl, d, v, rfl, .inl ⟨kvs, ikey t.1, .inr ⟨od3, hf⟩, rfl, hv1.symm⟩, k1 _ _ (Same.refl _) ?_⟩
      rw [map_take_next _ ht]
      exact hY.app (.one (hv2.tmono tk))
    have hdf := s3 _ _ upd_same
    have sH3 : Same H (upd H3 d (.dK kvs)) := sH2.trans (same_unlock hd2 s3)
    rw [hkl, List.take_length] at hY
    have hY : DtAll H3 ys ((R.map (·.2)).map prD) := by
      rw [List.map_map]
      exact hY
    refine ⟨hdf, D3, ys, R.map (·.2), rfl, .inl (SqL.of (by rw [upd_ne (new_lock nD3).1]; exact hD)), hY.tmono (tk_lock hdf fun _ z => by cases z), by rw [List.length_map]; omega, fun H4 s4 => ?_⟩
    rw [decide_eq_true hp.apart]
    exact q H4 (sH3.trans s4)
end
end Pk
set_option maxHeartbeats 1000000
/-! A caught error that leaves the suite by another name: it is tracked behind the suite, by its class. -/
namespace Pk
open PySem PySem.Spec PyProof.Rows L2
/-- an error of the class cls at a, caught -/
def ErrO (cls : Value) (dd : Option Addr) (a : Addr) : HO :=
  .ext fun h => ∃ (ob : Obj) (fs : Array Value), h.get? a = some ob ∧ Zc cls dd ob ∧ ob.data = .fields fs
section
variable {X : Cx} {pins : List (Addr × Obj)} {σ : L2.St} {H : Hp} {s : Shared}
/-- an object that is new since the entry, and stands by itself, is tracked from now on -/
theorem Inv.trackE (I : Inv X pins σ H s) {a : Addr} {ob : Obj} {fs : Array Value} {cls : Value} {dd : Option Addr} (at_ : s.heap.get? a = some ob) (z : Zc cls dd ob) (df : ob.data = .fields fs)
    (n : H a = none) (n0 : X.s_0.heap.get? a = none) (nl : a ≠ X.env.locals) (np : ∀ p, p ∈ X.pn ++ pins → p.1 ≠ a) : Inv X pins σ (upd H a (ErrO cls dd a)) s := by
  have e0 : ∀ b o, X.s_0.heap.get? b = some o → b ≠ a := fun b o h q => by
    rw [q, n0] at h
    cases h
  refine ⟨I.ok, I.os, I.bare, ⟨I.base.keep, I.base.slot, fun b o h k m => ?_, I.base.there, fun b xs h => ?_, fun b o u h => ?_, fun b ps h => ?_⟩, I.loc, I.cell, ?_, fun x c h => ?_, fun p hp => ?_, fun b u h => ?_, I.len⟩
  · rw [upd_ne (e0 b o h)]
    exact I.base.free b o h k m
  · have q := I.base.tups b xs h
    rw [upd_ne (ne_of_none q n)]
    exact q
  · have q := I.base.frzs b o u h
    rw [upd_ne (ne_of_none q n)]
    exact q
  · obtain ⟨m, q⟩ := I.base.tbls b ps h
    exact ⟨m, by rw [upd_ne (ne_of_none q n)]; exact q⟩
  · rw [upd_ne (Ne.symm nl)]
    exact I.free
  · obtain ⟨v, o, h1, h2⟩ := I.cell x c h
    have nc : c ≠ a := fun q => by
      rw [q, at_] at h1
      cases h1
      rw [df] at h2
      cases h2
    rw [upd_ne nc]
    exact I.freeC x c h
  · obtain ⟨h1, h2, h3⟩ := I.pin p hp
    exact ⟨h1, by rw [upd_ne (np p hp)]; exact h2, h3⟩
  · by_cases q : b = a
    · subst q
      rw [upd_same] at h
      cases h
      exact ⟨⟨ob, fs, at_, z, df⟩, ⟨ob, at_⟩, fun g1 g2 ⟨o, v, q, r⟩ k => ⟨o, v, k o q, r⟩⟩
    · rw [upd_ne q] at h
      exact (I.hok b u h).stay (fun _ _ _ k => k) (fun c k => by rw [upd_ne (ne_of_none k n)]; exact k) fun c xs k => by rw [upd_ne (ne_of_none k n)]; exact k
end
/-- what the clause wishes: the error is known behind the suite -/
def wErr (K : PySem.W.Frag) (cc : Value) (m j : Nat) (ts : Addr → Value → Option Addr → TS) (D : Ends) : WX := fun cls dd σ H => σ.length = m →
  PySem.W.exmOne K cls cc = some true ∧ ∀ a, H a = none → ts a cls dd { nx := fun σ' H' => D.nx (σ'.set j none) (upd H' a (ErrO cls dd a)), rt := fun _ _ => False } (σ.set j (some (.ref a))) H
section
variable {X : Cx} {x nm : Str} {cc : Value} {j : Nat} {body rest : List Stmt} {b1 : Stmt} {p1 p2 p3 : Pos} {tb : WX → TS} {ts : Addr → Value → Option Addr → TS}
/-- try: body / except x as nm: suite; the suite ends and the error is tracked -/
theorem ps_tryE (hs : X.stack = X.env :: X.outer) (hf : X.env.frame = some X.env.locals) (hex : X.ex = []) (nd : X.N.Nodup) (hj : X.N[j]? = some nm) (hloc : X.env.kindOf nm = some .local) (hc : Names X x cc)
    (hb : ∀ (W : WX) (pn : List (Addr × Obj)) (xe : Value → Shared → Prop), Takes (X.tr pn xe) W → PSs (X.tr pn xe) body (tb W))
    (hsu : ∀ (a : Addr) (ob : Obj) (cls : Value) (dd : Option Addr) (pn : List (Addr × Obj)), PSs (X.suite a ((a, ob) :: pn)) (b1 :: rest) (ts a cls dd)) :
    PS X (.Try body [.ExceptHandler (some (.Name x p1)) (some nm) (b1 :: rest) p2] [] [] p3) (fun D σ H => tb (wErr X.K cc X.N.length j ts D) D σ H) := by
  constructor
  intro pins s σ H D I h
  have ok := I.ok
  have frm : X.A.frames = some (X.env :: X.outer) := ok.frames.trans (congrArg some hs)
  have run := hb (wErr X.K cc X.N.length j ts D) (X.pn ++ pins) (fun e s1 => wpAny (model X.prog X.w) X.A (noteFrame e X.env) (fun _ s2 => wpAny (model X.prog X.w) X.A (setFlight e none)
    (fun _ s3 => wpAny (model X.prog X.w) X.A (handleBy e X.env [.ExceptHandler (some (.Name x p1)) (some nm) (b1 :: rest) p2]) (SP X pins D) X.xe s3) X.xe s2) X.xe s1) ?air
  case air =>
    intro u s' air
    obtain ⟨a, B, sI, pins', σ', H', cls, dd, rfl, J', nb, up, sky, na, os, ag, wish⟩ := air
    have J : Inv X pins σ' H' sI := J'.ofTry ok
    obtain ⟨hm, yes⟩ := wish J.len
    rw [show (X.tr (X.pn ++ pins) _).stack = X.env :: X.outer from hs] at sky
    show wpAny (model X.prog X.w) X.A (noteFrame (.ref a) X.env) _ _ _
    refine Sky.land Zc.steady frm hf sky fun g3 fl3 up3 => ?_
    have J3 : Inv X pins σ' H' { s' with heap := g3 } := J.landed nb fl3.1 (up.trans up3) os ag
    obtain ⟨ob3, fs3, at3, z3, df3⟩ := fl3.there
    have nst : a ∉ frs (X.env :: X.outer) := fun hm => by
      obtain ⟨_, o', q, hn⟩ := fl3.2.2.1.mem hm
      rw [at3] at q
      cases q
      exact hn _ df3
    have nl : a ≠ X.env.locals := fun q => nst (List.mem_filterMap.mpr ⟨X.env, List.mem_cons_self, by rw [hf, q]⟩)
    have nf : a ∉ X.fs := fun hm => nst (by
      obtain ⟨e, h1, h2⟩ := List.mem_filterMap.mp hm
      exact List.mem_filterMap.mpr ⟨e, List.mem_cons_of_mem _ h1, h2⟩)
    -- the error is new since the entry
    have nI : sI.heap.get? a = none := by
      cases q : sI.heap.get? a with
      | none => rfl
      | some o =>
        have := nb a o q (by rw [show (X.tr (X.pn ++ pins) _).stack = X.env :: X.outer from hs]; exact nst)
        rw [fl3.2.1] at this
        cases this
    have n0 : X.s_0.heap.get? a = none := by
      cases q : X.s_0.heap.get? a with
      | none => rfl
      | some o =>
        obtain ⟨o', q'⟩ := J.base.there a o q (by rw [hex]; exact List.not_mem_nil)
        rw [nI] at q'
        cases q'
    have np : ∀ p, p ∈ X.pn ++ pins → p.1 ≠ a := fun p hp q => by
      have := (J.pin p hp).1
      rw [q, nI] at this
      cases this
    have S3 := J3.suite at3 df3 na nl nf
    refine wpAny_handleBy_cons (codeAny_handlers_test ?_) (fun q => by cases q)
    have looks := PySem.W.exm_one (M := model X.prog X.w) J3.kIn (show PySem.W.Looks (model X.prog X.w) g3 (typeOf (.ref a)) cls from fun A Q E s k q => wpAny_typeOf_ref (k _ _ at3) (by rw [z3.1]; exact q)) hm
    have named : ∀ {Q E : Value → Shared → Prop}, Q cc { s' with heap := g3 } → wpAny (model X.prog X.w) (X.A.mark (some (.ref a))) (eval (.Name x p1) X.env) Q E { s' with heap := g3 } := fun q => by
      obtain ⟨g1, g2, g3 | ⟨g3, g4, g5⟩⟩ := hc
      · exact ld_glob (X := X.suite a ((a, ob3) :: (X.pn ++ pins))) S3 g1 g3 q g2
      · exact ld_blt (X := X.suite a ((a, ob3) :: (X.pn ++ pins))) S3 g1 g3 g4 q g5 g2
    refine named (looks.here (codeAny_handlers_suite_as (HandSPX.lands_againZ fl3 fun g4 fl4 up4 => ?_)))
    have J4 : Inv X pins σ' H' { s' with heap := g4 } := J.landed nb fl4.1 ((up.trans up3).trans up4) os ag
    obtain ⟨ob4, fs4, at4, z4, df4⟩ := fl4.there
    refine store_ok (X := X.suite a ((a, ob4) :: (X.pn ++ pins))) (v := .ref a) (J4.suite at4 df4 na nl nf) nd hj (.inl hloc) rfl (fun s5 S5 => ?_) (.inr hloc)
    refine wpAny_mono ((hsu a ob4 cls dd (X.pn ++ pins)).run [] s5 _ H' _ S5 (yes a na)) (fun f s6 hsp => ?_) fun _ _ q => q.elim
    cases f with
    | next =>
      obtain ⟨σ6, H6, S6, q6⟩ := hsp
      obtain ⟨at6, n6, _⟩ := S6.pin (a, ob4) (List.mem_append_left _ List.mem_cons_self)
      have I6 : Inv X pins σ6 H6 s6 := S6.unsuite ok
      have P6 : Inv X ((a, ob4) :: pins) σ6 H6 s6 := I6.pins_of fun p hp => (List.mem_cons.mp hp).elim (fun q => by
        rw [q]
        exact ⟨at6, n6, nl, nf, fun v q => by have q : ob4.data = .cell v := q; rw [df4] at q; cases q⟩) fun q => I6.pin p (List.mem_append_right _ q)
      refine gone_ok P6 nd hj hloc fun s7 P7 => ?_
      obtain ⟨at7, n7, _⟩ := P7.pin (a, ob4) (List.mem_append_right _ List.mem_cons_self)
      have I7 : Inv X pins (σ6.set j none) H6 s7 := P7.pins_of fun p hp => P7.pin p (List.mem_append_right _ (List.mem_cons_of_mem _ hp))
      exact ⟨_, _, Inv.trackE I7 at7 z4 df4 n7 n0 nl np, q6⟩
    | brk =>
      obtain ⟨_, _, _, q⟩ := hsp
      exact q.elim
    | cont =>
      obtain ⟨_, _, _, q⟩ := hsp
      exact q.elim
    | ret u =>
      obtain ⟨_, _, _, _, _, q⟩ := hsp
      exact q.elim
  refine wpAny_Try_except (wpAny_mono (run.run [] s σ H D (I.toTry _) h) (fun f s1 hsp => ?_) fun _ _ q => q)
  cases f with
  | next =>
    obtain ⟨σ1, H1, J, q⟩ := hsp
    exact wpAny_execs_nil ⟨σ1, H1, J.ofTry ok, q⟩
  | brk =>
    obtain ⟨σ1, H1, J, q⟩ := hsp
    exact ⟨σ1, H1, J.ofTry ok, q⟩
  | cont =>
    obtain ⟨σ1, H1, J, q⟩ := hsp
    exact ⟨σ1, H1, J.ofTry ok, q⟩
  | ret u =>
    obtain ⟨v, σ1, H1, J, r, q⟩ := hsp
    exact ⟨v, σ1, H1, J.ofTry ok, r, q⟩
end
/-! ### isinstance of such an error -/
/-- what the class of an error says -/
def rErr (K : PySem.W.Frag) : List V → Hp → VK → Prop := fun xs H Q => ∃ (a D : Addr) (c : V) (cv : Value) (b : Bool), xs = [.ref a, c] ∧ H a = some (ErrO (.ref D) none a) ∧ ExcC K D ∧ ClsV c cv ∧ PySem.W.kitOne K (.ref D) cv = some b ∧ Q (.bl b) H
theorem call_isErr {X : Cx} : CallR X (.builtin "isinstance") (rErr X.K) := by
  intro pins s σ H xs us Q I r h
  obtain ⟨a, D, c, cv, b, rfl, ha, C, k, e, q⟩ := h
  obtain ⟨u1, u2, rfl, r1, r2⟩ := vals2 r
  have e2 := k.eq r2
  subst e2
  cases (show u1 = Value.ref a from r1)
  obtain ⟨⟨⟨oc, od, oda, osl⟩, fs, at_, ⟨z1, z2⟩, df⟩, _, _⟩ := I.hok a _ ha
  dsimp only at z1 z2 df
  subst z1 z2 df
  have inst : PySem.W.InstAt s.heap a ⟨.ref D, none, .fields fs, osl⟩ D none := ⟨at_, rfl, rfl, trivial⟩
  exact PySem.W.kia_one (PySem.W.handS_kitx_exc C.hg C.hk C.hs C.hd C.ha C.hn C.ht C.hm) I.kIn inst e (fun z => nomatch z) fun tk => ⟨.bl b, H, I.tok tk, rfl, q⟩
/-! ### a call by keywords alone -/
theorem vals_rev {xs : List V} {us : List Value} (r : Vals xs us) : Vals xs.reverse us.reverse := by
  induction xs generalizing us with
  | nil =>
    cases r
    exact .nil
  | cons x xs ih =>
    cases r with
    | cons h t =>
      rw [List.reverse_cons, List.reverse_cons]
      exact (ih t).append (.cons h .nil)
section
variable {X : Cx} {CX : CXT} {k : Nat} {f : Addr} {fd : FuncData} {ps ks : List Str} {sp : Sp} {E : XK} {x : Str} {p pos : Pos} {kws : List Keyword} {tk : TA} {g : List Value → List Value → List Value} {gV : List V → List V → List V}
theorem pe_kw0 (F : FnOk X.prog X.w X.K X.mg X.base CX k f fd ps sp) (hm : X.mg x = some (.ref f)) (hk : PySem.W.keepIn X.K (.ref f) = true) (hb : KBn X.K fd ps 0 ks g gV) (hr : Room k X.A) (hx : Passes CX X E) (hkw : PK X kws tk) (hg : Gl X x := by rfl)
    (hall : (backToKw pos (keywordEach kws X.env)).all (·.1.isSome) = true := by rfl) (hks : (backToKw pos (keywordEach kws X.env)).filterMap (·.1) = ks := by rfl) (hdb : (x == ("__debug__" : Str)) = false := by decide)
    (hpl : ((backTo pos (starEach [] X.env)).any (·.1) || (backToKw pos (keywordEach kws X.env)).any (·.1.isNone)) = false := by rfl) :
    PE X (.Call (.Name x p) [] kws pos) (fun σ H Q => tk σ H fun zs H2 => zs.length = ks.length ∧ sp (gV [] zs) H2 Q E) := by
  constructor
  intro pins s σ H Q I h
  refine wpAny_Call_Name_kw (ld_glob I hg hm (PySem.W.callWith_KW0 (h₀ := X.base) I.ok.mod.kin hk hall ?_ hpl) hdb)
  refine thn (hkw.run pos pins s σ H _ I h) fun ws s2 ⟨zs, H2, I2, rz, l2, q2⟩ => ⟨I2.kIn, ?_⟩
  rw [hks]
  exact run_fnN (us := []) (vs := []) F hr hb hx I2 .nil rz rfl l2 q2
end
/-! ### tables of code objects -/
theorem tabs_same {T : List (Addr × Str)} {H H' : Hp} (t : LamX.Tabs T H) (s : Same H H') : LamX.Tabs T H' := t.ext s
theorem extN_wk {H H' : Hp} (e : LamX.ExtN H H') : Wk H H' := ⟨fun a xs h => e a _ h (fun ps q => by cases q), fun a xs h => ⟨xs, e a _ h (fun ps q => by cases q)⟩, fun a xs h => ⟨xs, e a _ h (fun ps q => by cases q)⟩⟩
end Pk
set_option maxHeartbeats 1000000
/-! _law_caught: a lambda is called, the error is given back. -/
namespace Pk
open PySem PySem.Spec PyProof.Rows L2
/-- what _law_caught makes of the lambda's reading -/
def TCau (K : PySem.W.Frag) (CP : Addr) : (XK → Hp → VK → Prop) → Hp → VK → Prop := fun tl H Q =>
  tl (fun cls dd H' => PySem.W.exmOne K cls (.ref CP) = some true ∧ ∀ a, H' a = none → Q (.ref a) (upd H' a (ErrO cls dd a))) H fun _ H' => ∃ v : V, some (some V.non) = some (some v) ∧ Q v H'
theorem caught_gives {X : Cx} {g CP : Addr} {cdg : Value} {q : Str} (hm : X.mg "PickError" = some (.ref CP)) :
    LamX.GivesTo X n__law_caught "_law_caught" (defScope s__law_caught) g cdg (defBody s__law_caught) "_law_work" q (TCau X.K CP) := by
  intro f c' s H Q tl act hc h
  refine ⟨_, pss_cons (ps_set (i := 1) c__law_caught.nd rfl (.inl rfl) pe_non) (pss_cons (ps_tryE (j := 2) (cc := .ref CP)
      (tb := fun W D σ H => ∃ Ech : XK, (∀ cls d σ' H', Ech cls d H' → W cls d σ' H') ∧ σ[0]? = some (some (.ref f)) ∧ H c' = some (LamX.CodeO c' q) ∧ tl Ech H fun _ H' => D.nx σ H') rfl rfl rfl c__law_caught.nd rfl rfl ⟨rfl, by decide, .inl hm⟩
      (fun W pn xe tk => ?body) (fun a ob cls dd pn => pss_one (ps_set (i := 1) c__law_caught.nd rfl (.inl rfl) (pv 2)))) (pss_one (ps_ret (pv 1)))), ?_⟩
  case body =>
    constructor
    intro pins s' σ H' D I ⟨Ech, hW, h1, h2, h3⟩
    exact (pss_one (ps_expr (act W pn xe Ech _ _ tk hW))).run pins s' σ H' D I ⟨h1, h2, h3⟩
  · refine ⟨fun cls dd H' => PySem.W.exmOne X.K cls (.ref CP) = some true ∧ ∀ a, H' a = none → Q (.ref a) (upd H' a (ErrO cls dd a)), fun cls dd σ' H' ⟨e1, e2⟩ => ?_, rfl, hc, ?_⟩
    · intro hl
      match σ', hl with
      | [x0, x1, x2], _ => exact ⟨e1, fun a na => ⟨.ref a, rfl, .ref a, rfl, e2 a na⟩⟩
    · exact h
end Pk
set_option maxHeartbeats 1000000
namespace Pk
open PySem PySem.Spec PyProof.Rows L2
/-! ### the law -/
abbrev qLam : Str := ("law" : Str) ++ ".<locals>." ++ "<lambda>"
abbrev TL (P : Addr) : List (Addr × Str) := [(P, qLam)]
def sp_law (K : PySem.W.Frag) (P0 : Addr) : Sp := fun vs H Q _ => ∃ (a : Addr) (ns : List Int), vs = [.ref a] ∧ SqL K H a (ns.map V.int) ∧ ns.length ≤ 63 ∧ H P0 = some (.tbl #[]) ∧ ∀ H', Q (.bl true) H'
/-- what an error's class says where it is caught -/
structure XcK (K : PySem.W.Frag) (C CP : Addr) : Prop where
  ex : ExcC K C
  kit : PySem.W.kitOne K (.ref C) (.ref C) = some true
  exm : PySem.W.exmOne K (.ref C) (.ref CP) = some true
theorem tabs_sz {P0 z l : Addr} {t : Nat} {H H' : Hp} (h : LamX.Tabs (TL P0) H) (st : LSt z l t H) (s : SZ z l H H') : LamX.Tabs (TL P0) H' := fun p hp => by
  obtain ⟨ps, h1, h2, h3⟩ := h p hp
  have keep : ∀ {a : Addr} {o : HO}, H a = some o → (∀ kvs, o ≠ .dK kvs) → (∀ xs, o ≠ .lst xs) → H' a = some o := fun e n1 n2 => s.k _ _ (st.nez e n1) (st.nel e n2) e
  refine ⟨ps, keep h1 (fun _ q => by cases q) (fun _ q => by cases q), h2, fun pos cv e => ?_⟩
  obtain ⟨c, e1, e2⟩ := h3 pos cv e
  exact ⟨c, e1, keep e2 (fun _ q => by cases q) (fun _ q => by cases q)⟩
theorem LSt.ext {z l : Addr} {t : Nat} {H H' : Hp} (h : LSt z l t H) (e : LamX.ExtN H H') : LSt z l t H' :=
  let ⟨c, f, n, ls, cs, h1, h2, h3, r⟩ := h.ex
  ⟨c, f, n, ls, cs, e _ _ h1 (fun _ q => by cases q), e _ _ h2 (fun _ q => by cases q), e _ _ h3 (fun _ q => by cases q), r⟩
theorem kw_binds {K : PySem.W.Frag} {f : Addr} {fd : FuncData} (F : Fun K "rising_pick" "rising_pick" s_rising_pick f fd) : KBn K fd ["book", "number"] 0 ["number", "book"] (fun _ ws => ws.reverse) (fun _ zs => zs.reverse) := by
  obtain ⟨oc, od, kV, doc, pm, an, cdv, ct, osl, rfl, lk, hcd⟩ := F.ex
  exact ⟨fun s us ws _ h1 h2 => match us, ws, h1, h2 with
    | [], [a, b], _, _ => .of_eq rfl, fun _ r => vals_rev r⟩
theorem szs_ok {b : List (List Pair)} (hb : Book b) : okSizes (szs b) := by
  refine ⟨by rw [szs, List.length_map]; exact hb.len, fun x hx => ?_⟩
  obtain ⟨m, hm, rfl⟩ := List.mem_map.mp hx
  have := (hb.plan m hm).len8
  omega
theorem book_nums {b : List (List Pair)} (hb : Book b) {ns : List Int} (ha : Asc b.length ns) (hl : ns.length ≤ 16) (hn : ns ≠ []) : Book (ofNums b ns) := by
  refine ⟨⟨by rw [ofNums, List.length_map]; exact List.length_pos_iff.mpr hn, by rw [ofNums, List.length_map]; exact hl⟩, fun m hm => ?_⟩
  obtain ⟨x, hx, rfl⟩ := List.mem_map.mp hm
  have hx2 := ha.2 x hx
  have hlt : x.toNat < b.length := by omega
  rw [List.getD_eq_getElem?_getD, List.getElem?_eq_getElem hlt]
  exact hb.plan _ (List.getElem_mem hlt)
section
variable {P : Program} {w : World} {K : PySem.W.Frag} {mg : Str → Option Value} {base : Heap}
theorem ok_law {f gA c0 P0 CP CB CN CR kf : Addr} {fdC kfd : FuncData} {oc kV doc pm ct : Value} {od an : Option Addr} {osl : Array (Option Value)}
    (lk : K.lookup f = some ⟨oc, od, .func (PySem.W.fnOf "law" "law" (defArgs s_law) (defBody s_law) (defScope s_law) .none kV doc pm an (.ref c0) ct), osl⟩) (hcd : PySem.W.codeIn K (.ref c0) "law" = true) (G : Glob mg)
    (FC : Fun K "_law_caught" "_law_caught" s__law_caught gA fdC) (hcg : mg "_law_caught" = some (.ref gA)) (hPE : mg "PickError" = some (.ref CP)) (TB : LamX.TabB base mg c0 P0)
    (X_NoRise : XcF K mg "NoRise" CR) (X_BadBook : XcF K mg "BadBook" CB) (X_BadNumber : XcF K mg "BadNumber" CN) (Y_NoRise : XcK K CR CP) (Y_BadBook : XcK K CB CP) (Y_BadNumber : XcK K CN CP)
    (kwOk : FnOk P w K mg base (L2.CX P w) 6 kf kfd ["book", "number"] (sp_rising_pick CB CN CR)) (kwG : mg "rising_pick" = some (.ref kf)) (kwKp : PySem.W.keepIn K (.ref kf) = true) (kwBi : KBn K kfd ["book", "number"] 0 ["number", "book"] (fun _ ws => ws.reverse) (fun _ zs => zs.reverse))
    (C_rising_pick : Cal P w K mg base (L2.CX P w) 6 "rising_pick" ["book", "number"] (sp_rising_pick CB CN CR))
    (C_rises : Cal P w K mg base CX0 4 "rises" ["sizes", "number"] sp_rises) (C_sizes : Cal P w K mg base CX0 6 "sizes" ["book"] sp_sizes) (C_rises_to : Cal P w K mg base CX0 4 "rises_to" ["sizes"] sp_rises_to)
    (C_sure : Cal P w K mg base CX0 7 "sure" ["book"] sp_sure_of) (C_is_pick : Cal P w K mg base CX0 6 "is_pick" ["book", "thing"] sp_picks_right) (C_kept : Cal P w K mg base CX0 6 "kept" ["book", "numbers"] sp_kept)
    (C_law_begun : Cal P w K mg base CX0 1 "_law_begun" ["_law_script"] (sp_law_begun K)) (C_law_draw : Cal P w K mg base CX0 1 "_law_draw" ["_law_state", "_law_size_here"] sp_law_draw)
    (C_law_mixed : Cal P w K mg base CX0 2 "_law_mixed" ["_law_state", "_law_several"] sp_law_mixed) (C_law_rising : Cal P w K mg base CX0 3 "_law_rising" ["_law_state", "_law_number"] sp_law_rising)
    (C_law_sized_book : Cal P w K mg base CX0 4 "_law_sized_book" ["_law_state", "_law_sizes_here", "_law_wide"] sp_law_sized_book) (C_law_is_pick : Cal P w K mg base CX0 4 "_law_is_pick" ["_law_book_here", "_law_item"] sp_picks_right)
    (C_law_bad_book : Cal P w K mg base CX0 6 "_law_bad_book" ["_law_state"] sp_law_bad_book) (C_law_wrong_number : Cal P w K mg base CX0 3 "_law_wrong_number" ["_law_state"] sp_law_wrong_number) :
    FnOk P w K mg base CX0 9 f (PySem.W.fnOf "law" "law" (defArgs s_law) (defBody s_law) (defScope s_law) .none kV doc pm an (.ref c0) ct) ["_law_script"] (sp_law K P0) := by
  obtain ⟨coc, cod, ckV, cdoc, cpm, can, ccdv, cct, cosl, rfl, clk, ccd⟩ := FC.ex
  have cbi : L2.Binds K _ ["_law_work"] [] := FC.binds fun _ _ _ _ _ _ us hl => match us, hl with | [_], _ => rfl
  refine fn_of (k := 8) lk hcd c_law (fun vs H Q E h => ?_) fun A0 outer s H vs Q E hr h => ?_
  · obtain ⟨a, ns, rfl, _⟩ := h
    rfl
  obtain ⟨a, ns, rfl, hS, hlen, hP0, q⟩ := h
  suffices hh : ∃ t, PSs (cxOf CX0 P w K mg base n_law "law" (defScope s_law) f (.ref c0) A0 outer s H E).nox (defBody s_law) t ∧ t { nx := fun _ H' => Q .non H', rt := Q } (L2.start n_law [.ref a]) H by
    obtain ⟨t, h1, h2⟩ := hh
    exact ⟨t, h1.nox, h2⟩
  refine ⟨_, 
      (pss_cons (ps_set (i := 1) c_law.nd rfl (.inl rfl) (pe_cal C_law_begun hr pass0 (pa_cons (pv 0) pa_nil)))
      (pss_cons (ps_for PassesOwn.never rfl (pi_range1 rfl G.range (pa_cons (pe_op op_add pe_int (pe_callB (call_min2 rfl) (by rfl) G.min PyProof.Rows.boot_min (pa_cons (pe_callB (lenS K) (by rfl) G.len PySem.boot_len (pa_cons (pv 0) pa_nil)) (pa_cons pe_int pa_nil)))) pa_nil)) (pg_name (i := 2) c_law.nd rfl (.inl rfl)) 
          (pss_cons (ps_set (i := 3) c_law.nd rfl (.inl rfl) (pe_op op_add pe_int (pe_cal C_law_draw hr pass0 (pa_cons (pv 1) (pa_cons pe_int pa_nil)))))
          (pss_cons (ps_set (i := 4) c_law.nd rfl (.inl rfl) (pe_cal C_law_rising hr pass0 (pa_cons (pv 1) (pa_cons (pv 3) pa_nil))))
          (pss_cons (ps_set (i := 8) c_law.nd rfl (.inr rfl) (pe_cal C_law_sized_book hr pass0 (pa_cons (pv 1) (pa_cons (pv 4) (pa_cons (pe_callB (call_max2 rfl) (by rfl) G.max PyProof.Rows.boot_max (pa_cons (pv 3) (pa_cons (pe_op op_add pe_int (pe_cal C_law_draw hr pass0 (pa_cons (pv 1) (pa_cons pe_int pa_nil)))) pa_nil))) pa_nil)))))
          (pss_cons (ps_if (PW.pt (pw_or (pt_cmpR op_isnot_bl (pe_cal C_rises hr pass0 (pa_cons (pe_cal C_sizes hr pass0 (pa_cons (pv 8) pa_nil)) (pa_cons (pv 3) pa_nil))) pe_bl (nomark _)) (pw_or1 (pt_cmpR op_lt (pe_cal C_rises_to hr pass0 (pa_cons (pe_cal C_sizes hr pass0 (pa_cons (pv 8) pa_nil)) pa_nil)) (pe_callB (call_max2 rfl) (by rfl) G.max PyProof.Rows.boot_max (pa_cons (pv 3) (pa_cons (pe_cal C_sure hr pass0 (pa_cons (pv 8) pa_nil)) pa_nil))) (nomark _))))) 
              (pss_one (ps_ret pe_bl)) pss_nil)
          (pss_cons (ps_for PassesOwn.never rfl (piLK K (pe_lst (pa_cons (pe_cal C_rising_pick hr passL (pa_cons (pv 8) (pa_cons (pv 3) pa_nil))) (pa_cons (pe_kw0 kwOk kwG kwKp kwBi (hr.mono (by decide)) passL (pk_cons (pv 3) (pk_cons (pv 8) pk_nil))) pa_nil)))) (pg_name (i := 5) c_law.nd rfl (.inl rfl)) 
              (pss_one (ps_if (PW.pt (pw_or (pt_not (pt_val (pe_cal C_law_is_pick hr pass0 (pa_cons (pv 8) (pa_cons (pv 5) pa_nil))))) (pw_or (pt_cmpR op_ne (pe_callB call_lenD (by rfl) G.len PySem.boot_len (pa_cons (pv 5) pa_nil)) (pv 3) (nomark _)) (pw_or1 (pt_cmpR op_isnot_bl (pe_cal C_is_pick hr pass0 (pa_cons (pv 8) (pa_cons (pv 5) pa_nil))) pe_bl (nomark _)))))) 
                  (pss_one (ps_ret pe_bl)) pss_nil)))
          (pss_cons (ps_set (i := 6) c_law.nd rfl (.inl rfl) (pe_tupleOf rfl G.tuple (pe_callB cr_sorted (by rfl) G.sorted boot_sorted (pa_cons (pe_slice (slL K) (pe_cal C_law_mixed hr pass0 (pa_cons (pv 1) (pa_cons (pe_listRg rfl rfl G.list (prg_1 rfl G.range (pe_callB (lenS K) (by rfl) G.len PySem.boot_len (pa_cons (pv 8) pa_nil)))) pa_nil))) po_none (po_some (pe_op op_add pe_int (pe_cal C_law_draw hr pass0 (pa_cons (pv 1) (pa_cons (pe_callB (lenS K) (by rfl) G.len PySem.boot_len (pa_cons (pv 8) pa_nil)) pa_nil)))))) pa_nil))))
          (pss_cons (ps_set (i := 10) c_law.nd rfl (.inr rfl) (pe_cal C_kept hr pass0 (pa_cons (pv 8) (pa_cons (pv 6) pa_nil))))
          (pss_cons (ps_set (i := 7) c_law.nd rfl (.inl rfl) (pe_cal C_rises_to hr pass0 (pa_cons (pe_cal C_sizes hr pass0 (pa_cons (pv 10) pa_nil)) pa_nil)))
          (pss_cons (ps_for PassesOwn.never rfl (pi_range2 rfl G.range (pa_cons pe_int (pa_cons (pe_op op_add pe_int (pe_callB (call_min2 rfl) (by rfl) G.min PyProof.Rows.boot_min (pa_cons (pe_op op_add (pv 7) pe_int) (pa_cons pe_int pa_nil)))) pa_nil))) (pg_name (i := 9) c_law.nd rfl (.inr rfl)) 
              (pss_one (ps_if (pt_cmpR op_le (pv 9) (pv 7) (nomark _)) 
                  (pss_cons (ps_set (i := 5) c_law.nd rfl (.inl rfl) (pe_cal C_rising_pick hr passL (pa_cons (pv 10) (pa_cons (pv 9) pa_nil))))
                  (pss_one (ps_if (PW.pt (pw_or (pt_not (pt_val (pe_cal C_law_is_pick hr pass0 (pa_cons (pv 10) (pa_cons (pv 5) pa_nil))))) (pw_or1 (pt_cmpR op_ne (pe_callB call_lenD (by rfl) G.len PySem.boot_len (pa_cons (pv 5) pa_nil)) (pv 9) (nomark _))))) 
                      (pss_one (ps_ret pe_bl)) pss_nil))) 
                  (pss_one (ps_if (pt_not (pt_val (pe_callB call_isErr (by rfl) G.isinstance boot_isinstance (pa_cons (LamX.pe_lamcall (T := TL P0) (k := 6) rfl hcg FC.kp clk ccd cbi c__law_caught rfl (.inl rfl) (caught_gives hPE) TB rfl (List.mem_singleton.mpr rfl) (fun p hp _ => by rw [List.mem_singleton.mp hp]; rfl) (hr.mono (by decide)) (LamX.lamS_by (sc := defScope s_law) (by decide +kernel)) rfl (fun _ _ _ _ _ => rfl) (fun A outer s H E f c' hr2 => (pe_cal C_rising_pick hr2 (passes_call (takes_of rfl rfl rfl rfl) (fun _ _ _ _ h => h)) (pa_cons (pv 10) (pa_cons (pv 9) pa_nil))))) (pa_cons (pe_glob (v := .ref CR) rfl X_NoRise.g rfl) pa_nil))))) 
                      (pss_one (ps_ret pe_bl)) pss_nil)))))
          (pss_cons (ps_asg (pe_tup (pa_cons (pe_cal C_law_bad_book hr pass0 (pa_cons (pv 1) pa_nil)) (pa_cons (pe_cal C_law_wrong_number hr pass0 (pa_cons (pv 1) pa_nil)) pa_nil))) (pgT K (n := 2) rfl (pgs_cons (pg_name (i := 12) c_law.nd rfl (.inr rfl)) (pgs_cons (pg_name (i := 11) c_law.nd rfl (.inr rfl)) pgs_nil))))
          (pss_cons (ps_if (pt_not (pt_val (pe_callB call_isErr (by rfl) G.isinstance boot_isinstance (pa_cons (LamX.pe_lamcall (T := TL P0) (k := 6) rfl hcg FC.kp clk ccd cbi c__law_caught rfl (.inl rfl) (caught_gives hPE) TB rfl (List.mem_singleton.mpr rfl) (fun p hp _ => by rw [List.mem_singleton.mp hp]; rfl) (hr.mono (by decide)) (LamX.lamS_by (sc := defScope s_law) (by decide +kernel)) rfl (fun _ _ _ _ _ => rfl) (fun A outer s H E f c' hr2 => (pe_cal C_rising_pick hr2 (passes_call (takes_of rfl rfl rfl rfl) (fun _ _ _ _ h => h)) (pa_cons (pv 12) (pa_cons (pv 11) pa_nil))))) (pa_cons (pe_glob (v := .ref CB) rfl X_BadBook.g rfl) pa_nil))))) 
              (pss_one (ps_ret pe_bl)) pss_nil)
          (pss_one (ps_if (pt_not (pt_val (pe_callB call_isErr (by rfl) G.isinstance boot_isinstance (pa_cons (LamX.pe_lamcall (T := TL P0) (k := 6) rfl hcg FC.kp clk ccd cbi c__law_caught rfl (.inl rfl) (caught_gives hPE) TB rfl (List.mem_singleton.mpr rfl) (fun p hp _ => by rw [List.mem_singleton.mp hp]; rfl) (hr.mono (by decide)) (LamX.lamS_by (sc := defScope s_law) (by decide +kernel)) rfl (fun _ _ _ _ _ => rfl) (fun A outer s H E f c' hr2 => (pe_cal C_rising_pick hr2 (passes_call (takes_of rfl rfl rfl rfl) (fun _ _ _ _ h => h)) (pa_cons (pv 8) (pa_cons (pv 11) pa_nil))))) (pa_cons (pe_glob (v := .ref CN) rfl X_BadNumber.g rfl) pa_nil))))) 
              (pss_one (ps_ret pe_bl)) pss_nil))))))))))))))
      (pss_one (ps_ret pe_bl)))), ?_⟩
  refine ⟨.ref a, rfl, a, ns, rfl, hS, hlen, fun z l H1 s1 st1 => ?_⟩
  have T1 : LamX.Tabs (TL P0) H1 := fun p hp => by
    rw [List.mem_singleton.mp hp]
    exact .nil (s1 _ _ hP0)
  refine ⟨.ref a, rfl, a, ns.map V.int, rfl, .inl (s1.seq hS), _, _, rfl, _, _, rfl, rfl, ?_⟩
  obtain ⟨k, hk, hk6⟩ : ∃ k : Nat, (2 + if (4 : Int) < ((ns.map V.int).length : Int) then 4 else ((ns.map V.int).length : Int)) = k ∧ k ≤ 6 := by
    by_cases h4 : (4 : Int) < ((ns.map V.int).length : Int)
    · rw [if_pos h4]
      exact ⟨6, rfl, Nat.le_refl _⟩
    · rw [if_neg h4]
      exact ⟨2 + (ns.map V.int).length, by omega, by omega⟩
  refine ⟨k, congrArg (fun i : Int => [V.int i]) hk, by omega, by omega, for_range (fun i σ H' => (∃ x2 x3 x4 x5 x6 x7 x8 x9 x10 x11 x12 : Option V, σ = [some (.ref a), some (.ref z), x2, x3, x4, x5, x6, x7, x8, x9, x10, x11, x12]) ∧ LSt z l (1000 * i) H' ∧ LamX.Tabs (TL P0) H')
    ⟨⟨_, _, _, _, _, _, _, _, _, _, _, rfl⟩, st1, T1⟩ (fun i σ H2 hi hI => ?_) (fun σ H' _ => q _)⟩
  rw [Int.toNat_natCast] at hi
  obtain ⟨⟨x2, x3, x4, x5, x6, x7, x8, x9, x10, x11, x12, rfl⟩, st2, T2⟩ := hI
  -- the number, the sizes, the book
  refine ⟨.ref z, rfl, z, l, _, 6, rfl, st2, by omega, by omega, fun r H3 hr3 s3 st3 => ⟨1, r, rfl, rfl, ?_⟩⟩
  obtain ⟨n, hn⟩ : ∃ n : Nat, 1 + r = n := ⟨(1 + r).toNat, by omega⟩
  rw [show (fun i j : Int => V.int (i + j)) 1 r = V.int n from congrArg V.int hn]
  have hn16 : 1 ≤ n ∧ n ≤ 6 := by omega
  refine ⟨.ref z, rfl, .int n, rfl, z, l, _, n, rfl, st3, by omega, hn16, fun a2 ms H4 s4 st4 ha2 hml hmx hmR => ?_⟩
  refine ⟨.ref z, rfl, .ref a2, rfl, .int n, rfl, .ref z, rfl, z, l, _, 4, rfl, st4, by omega, by omega, fun r2 H5 hr5 s5 st5 => ⟨3, r2, rfl, rfl, _, _, rfl, ?_⟩⟩
  obtain ⟨wide, hwd, hwn, hw8⟩ : ∃ wide : Nat, (if 3 + r2 > (n : Int) then 3 + r2 else (n : Int)) = wide ∧ n ≤ wide ∧ wide ≤ 8 := by
    by_cases h4 : 3 + r2 > (n : Int)
    · rw [if_pos h4]
      exact ⟨(3 + r2).toNat, by omega, by omega, by omega⟩
    · rw [if_neg h4]
      exact ⟨n, rfl, Nat.le_refl _, by omega⟩
  refine ⟨z, l, _, a2, ms, wide, congrArg (fun i : Int => [V.ref z, V.ref a2, V.int i]) hwd, st5, by omega, s5.tk _ _ ha2, hml, fun x hx => ⟨(hmx x hx).1, by have := (hmx x hx).2; omega⟩, hw8, fun v b H6 s6 st6 hd hb hsz => ?_⟩
  subst hsz
  obtain ⟨B, xs, rfl, hB, hxs, hxl⟩ := dt_book hd
  have hbl := hb.len
  have okS := szs_ok hb
  have T6 : LamX.Tabs (TL P0) H6 := tabs_sz (tabs_sz (tabs_sz (tabs_sz T2 st2 s3) st3 s4) st4 s5) st5 s6
  -- rises, rises_to
  refine ⟨.ref B, rfl, .ref B, b, rfl, hd, hb, fun tz H7 s7 htz => ⟨.int n, rfl, tz, szs b, n, rfl, htz, okS, by omega, fun H8 bb s8 hbb => ?_⟩⟩
  obtain rfl : bb = true := hbb.mpr hmR
  have s68 := s7.trans s8
  refine ⟨true, true, rfl, rfl, _, rfl, ?_⟩
  refine ⟨.ref B, rfl, .ref B, b, rfl, hd.mono (Wk.of s68), hb, fun tz2 H9 s9 htz2 => ⟨tz2, szs b, rfl, htz2, okS, fun H10 g s10 hg hgR hgN => ?_⟩⟩
  have s610 := s68.trans (s9.trans s10)
  refine ⟨.int n, rfl, .ref B, rfl, .ref B, b, rfl, hd.mono (Wk.of s610), hb, fun r3 H11 s11 hr11 => ⟨_, _, rfl, _, _, rfl, rfl, _, rfl, ?_⟩⟩
  have least : ∀ m : Int, m ≤ 8 → Rises (szs b) m → m ≤ g := fun m h8 hm => by
    rcases hgN with e | e
    · omega
    · by_cases q : m ≤ g
      · exact q
      · exact absurd (hm.mono (by omega)) e
  have nless : ¬ g < (if r3 > (n : Int) then r3 else (n : Int)) := by
    by_cases h4 : r3 > (n : Int)
    · rw [if_pos h4]
      rcases hr11 with e | ⟨e1, e2, e3⟩
      · omega
      · have := least r3 e2 (Rises.of_sure e3)
        omega
    · rw [if_neg h4]
      have := least n (by omega) hmR
      omega
  rw [decide_eq_false nless]
  have s611 := s610.trans s11
  have st11 := st6.same s611
  have T11 := tabs_same T6 s611
  have hd11 := hd.mono (Wk.of s611)
  -- two picks
  refine ⟨.ref B, rfl, .int n, rfl, .ref B, .int n, rfl, .inr ⟨b, .int n, hd11, hb, .int _, fun e => ?no, fun n' e h1 h8 => ?_⟩⟩
  case no =>
    have e : (decide (1 ≤ (n : Int)) && decide ((n : Int) ≤ 8)) = false := e
    rw [decide_eq_true (by omega), decide_eq_true (by omega)] at e
    cases e
  obtain rfl : n' = n := by
    injection e with e
    omega
  refine ⟨fun nr => absurd hmR nr, fun _ d1 R1 H12 s12 hk1 hp1 hl1 => ?_⟩
  refine ⟨.int n', rfl, .ref B, rfl, rfl, .ref B, .int n', rfl, .inr ⟨b, .int n', hd11.mono (Wk.of s12), hb, .int _, fun e => ?no, fun n2 e h1 h8 => ?_⟩⟩
  case no =>
    have e : (decide (1 ≤ (n' : Int)) && decide ((n' : Int) ≤ 8)) = false := e
    rw [decide_eq_true (by omega), decide_eq_true (by omega)] at e
    cases e
  obtain rfl : n2 = n' := by
    injection e with e
    omega
  refine ⟨fun nr => absurd hmR nr, fun _ d2 R2 H13 s13 hk2 hp2 hl2 => ⟨by show 2 ≤ sizeLine; decide, fun L nL => ?_⟩⟩
  have s14 := same_new (o := HO.lst [V.ref d1, V.ref d2]) nL
  have hL := upd_same (H := H13) (a := L) (o := HO.lst [V.ref d1, V.ref d2])
  have s1114 := s12.trans (s13.trans s14)
  have hk1 := hk1.same (s13.trans s14)
  have hk2 := hk2.same s14
  have hd14 := hd11.mono (Wk.of s1114)
  have st14 := st11.same s1114
  have T14 := tabs_same T11 s1114
  have hB14 := s1114 _ _ (s611 _ _ hB)
  generalize upd H13 L (HO.lst [V.ref d1, V.ref d2]) = H14 at hL hk1 hk2 hd14 st14 T14 hB14 ⊢
  refine ⟨L, rfl, ⟨_, SqL.of hL⟩, for_list (K := K) (xs := [V.ref d1, V.ref d2]) (fun j σ H' => (∃ x5 : Option V, σ = [some (.ref a), some (.ref z), some (.int (0 + i)), some (.int n2), some (.ref a2), x5, x6, x7, some (.ref B), x9, x10, x11, x12]) ∧ Same H14 H')
    ⟨⟨_, rfl⟩, Same.refl _⟩ (fun j σ H' _ hI => (hI.2.seq (SqL.of hL))) (fun j x σ H' hx hI => ?_) (fun σ H' hI => ?_)⟩
  · obtain ⟨⟨x5, rfl⟩, sJ⟩ := hI
    obtain ⟨d, R, rfl, hk, hp, hl⟩ : ∃ d R, x = .ref d ∧ DkAt H14 d R ∧ PickOk b R ∧ R.length = n2 := by
      match j, hx with
      | 0, hx => exact ⟨d1, R1, (Option.some.inj hx).symm, hk1, hp1, hl1⟩
      | 1, hx => exact ⟨d2, R2, (Option.some.inj hx).symm, hk2, hp2, hl2⟩
      | j + 2, hx => simp at hx
    have hkJ := hk.same sJ
    refine ⟨.ref B, rfl, .ref d, rfl, .ref B, d, b, R, rfl, hd14.mono (Wk.of sJ), hb, hkJ, hp, fun H15 s15 => ⟨_, rfl, ?_⟩⟩
    obtain ⟨kvs, hkv, hdk⟩ := hkJ.same s15
    have hkl := hdk.len
    refine ⟨.ref d, rfl, d, kvs, rfl, hkv, .int n2, rfl, rfl, _, rfl, ?_⟩
    rw [decide_eq_true (show V.int (kvs.length : Int) = V.int n2 by rw [hkl, hl])]
    refine ⟨.ref B, rfl, .ref d, rfl, .ref B, d, b, R, rfl, hd14.mono (Wk.of (sJ.trans s15)), hb, ⟨kvs, hkv, hdk⟩, hp, fun H16 s16 => ⟨true, true, rfl, rfl, _, rfl, ?_⟩⟩
    exact ⟨⟨_, rfl⟩, sJ.trans (s15.trans s16)⟩
  obtain ⟨⟨y5, rfl⟩, sL⟩ := hI
  have hd17 := hd14.mono (Wk.of sL)
  have st17 := st14.same sL
  have T17 := tabs_same T14 sL
  have hB17 := sL _ _ hB14
  -- some plans of the book
  have hlen : xs.length = b.length := hxl
  have hrl : (rgV 0 (xs.length : Int)).length = xs.length := by rw [rgV_eq, List.length_map, rg_len]
  have hrd : ∀ H' : Hp, DtAll H' (rgV 0 (xs.length : Int)) ((rg xs.length).map PyData.int) := fun H' => by
    rw [rgV_eq]
    exact DtAll.of_ints _
  refine ⟨.ref z, rfl, .ref B, rfl, B, xs, rfl, .inr (SqT.of hB17), (xs.length : Int), rfl, RgOk.of_le (by omega) (by omega) (by omega) (by omega), fun p1 np1 => ?_⟩
  have s18 := same_new (o := HO.lst (rgV 0 (xs.length : Int))) np1
  refine ⟨z, l, _, p1, _, _, rfl, st17.same s18, by rw [hrl]; omega, .inl ⟨upd_same, (st17.fresh np1).2⟩, hrd _, okD_ints _, by rw [hrl]; omega, fun q1 ys es H19 s19 st19 hq1 nq1 hdq hperm => ?_⟩
  rw [hrl] at st19
  obtain ⟨ps, hps, rfl⟩ := perm_map _ es (rg xs.length) hperm
  have e1 := hdq.ints
  subst e1
  have sz19 := (SZ.of s18).trans s19
  have hB19 := sz19.tk _ _ hB17
  refine ⟨.ref z, rfl, .ref B, rfl, B, xs, rfl, .inr (SqT.of hB19), z, l, _, xs.length, rfl, st19, by omega, by omega, fun r4 H20 hr20 s20 st20 => ⟨1, r4, rfl, rfl, 1 + r4, rfl, q1, _, rfl, SqL.of (s20.k _ _ (st19.nez hq1 (fun _ y => by cases y)) nq1 hq1), fun c1 nc1 => ?_⟩⟩
  obtain ⟨many, hmany⟩ : ∃ many : Nat, 1 + r4 = many := ⟨(1 + r4).toNat, by omega⟩
  rw [hmany]
  have s21 := same_new (o := HO.lst (cutV (ps.map V.int) none (some (many : Int)))) nc1
  have hc1 := upd_same (H := H20) (a := c1) (o := HO.lst (cutV (ps.map V.int) none (some (many : Int))))
  generalize upd H20 c1 (HO.lst (cutV (ps.map V.int) none (some (many : Int)))) = H21 at s21 hc1 ⊢
  rw [cutV_to, ← List.map_take] at hc1
  have lps : ps.length = xs.length := by rw [hps.length_eq, rg_len]
  refine ⟨c1, ps.take many, rfl, SqL.of hc1, by rw [List.length_take]; omega, fun ms2 p2 hperm2 hsrt np2 => ?_⟩
  have s22 := same_new (o := HO.lst (ms2.map V.int)) np2
  refine .inl ⟨p2, _, rfl, SqL.of upd_same, fun p3 np3 => ?_⟩
  have s23 := same_new (o := HO.tup (ms2.map V.int)) np3
  have hp3 := upd_same (H := upd H21 p2 (HO.lst (ms2.map V.int))) (a := p3) (o := HO.tup (ms2.map V.int))
  have s2123 := s21.trans (s22.trans s23)
  generalize upd (upd H21 p2 (HO.lst (ms2.map V.int))) p3 (HO.tup (ms2.map V.int)) = H23 at s2123 hp3 ⊢
  have st23 := st20.same s2123
  have T23 := tabs_same (tabs_sz (tabs_sz (tabs_same T17 s18) (st17.same s18) s19) st19 s20) s2123
  have tk23 : Tk H' H23 := (sz19.trans (s20.trans (SZ.of s2123))).tk
  have hd23 := hd17.tmono tk23
  have l2 : ms2.length = min many xs.length := by rw [hperm2.length_eq, List.length_take, lps]
  have hAsc : Asc b.length ms2 := by
    have nd : ms2.Nodup := hperm2.nodup_iff.mpr ((hps.nodup_iff.mpr (rg_nodup _)).sublist (List.take_sublist _ _))
    refine ⟨(hsrt.and nd).imp (fun h => by have h1 := h.1; have h2 := h.2; omega), fun x hx => ?_⟩
    have := rg_mem (hps.subset (List.mem_of_mem_take (hperm2.subset hx)))
    omega
  have hne : ms2 ≠ [] := fun e => by
    rw [e] at l2
    have l2 : 0 = min many xs.length := l2
    omega
  have hl16 : ms2.length ≤ 16 := by omega
  refine ⟨.ref B, rfl, .ref p3, rfl, .ref B, p3, b, ms2, rfl, hd23, hb, hp3, hAsc, hl16, hne, fun less H24 s24 hd24 => ?_⟩
  have hb2 := book_nums hb hAsc hl16 hne
  generalize ofNums b ms2 = b2 at hd24 hb2
  refine ⟨less, rfl, less, b2, rfl, hd24, hb2, fun tz3 H25 s25 htz3 => ⟨tz3, szs b2, rfl, htz3, szs_ok hb2, fun H26 g2 s26 hg2 hR2 hN2 => ?_⟩⟩
  have s2326 := s24.trans (s25.trans s26)
  have st26 := (st23.same s2326).up (show _ ≤ 1000 * i + 360 by omega)
  have T26 := tabs_same T23 s2326
  have hd26 := hd23.mono (Wk.of s2326)
  have he26 := hd24.mono (Wk.of (s25.trans s26))
  -- each number
  obtain ⟨top, htop, htop2⟩ : ∃ top : Nat, (1 + if (8 : Int) < g2 + 1 then 8 else g2 + 1) = 1 + (top : Int) ∧ ((top : Int) ≤ g2 + 1 ∧ top ≤ 8) := by
    by_cases h4 : (8 : Int) < g2 + 1
    · rw [if_pos h4]
      exact ⟨8, rfl, by omega, by omega⟩
    · rw [if_neg h4]
      exact ⟨(g2 + 1).toNat, by omega, by omega, by omega⟩
  refine ⟨.int g2, rfl, _, _, rfl, rfl, _, _, rfl, _, _, rfl, rfl, 1, 1 + (top : Int), congrArg (fun i : Int => [V.int 1, V.int i]) htop, ⟨by omega, by omega, by omega, by omega⟩,
    for_range (lo := 1) (fun j σ H' => (∃ x5 x9 : Option V, σ = [some (.ref a), some (.ref z), some (.int (0 + i)), some (.int n2), some (.ref a2), x5, some (.ref p3), some (.int g2), some (.ref B), x9, some less, x11, x12]) ∧
      LSt z l (1000 * i + 360) H' ∧ LamX.Tabs (TL P0) H' ∧ Dt H' (.ref B) (bkD b) ∧ Dt H' less (bkD b2)) ⟨⟨_, _, rfl⟩, st26, T26, hd26, he26⟩ (fun j σ H' hj hI => ?_) (fun σ H' hI => ?_)⟩
  · obtain ⟨⟨y5, y9, rfl⟩, stJ, TJ, hdJ, heJ⟩ := hI
    have hj : j < top := by omega
    refine ⟨.int (1 + j), rfl, .int g2, rfl, _, _, rfl, rfl, _, rfl, ite2 (fun e => ?_) (fun e => ?_)⟩
    · have e : (1 : Int) + j ≤ g2 := of_decide_eq_true e
      have hRj : Rises (szs b2) (1 + j : Nat) := hR2.mono (by omega)
      refine ⟨less, rfl, .int (1 + j), rfl, less, .int (1 + j), rfl, .inr ⟨b2, .int (1 + j), heJ, hb2, .int _, fun e => ?no, fun n3 e h1 h8 => ?_⟩⟩
      case no =>
        have e : (decide (1 ≤ (1 : Int) + j) && decide ((1 : Int) + j ≤ 8)) = false := e
        rw [decide_eq_true (by omega), decide_eq_true (by omega)] at e
        cases e
      obtain rfl : n3 = 1 + j := by
        injection e with e
        omega
      refine ⟨fun nr => absurd hRj nr, fun _ d R H27 s27 hk hp hl => ?_⟩
      refine ⟨less, rfl, .ref d, rfl, less, d, b2, R, rfl, heJ.mono (Wk.of s27), hb2, hk, hp, fun H28 s28 => ⟨_, rfl, ?_⟩⟩
      obtain ⟨kvs, hkv, hdk⟩ := hk.same s28
      have hkl := hdk.len
      refine ⟨.ref d, rfl, d, kvs, rfl, hkv, .int (1 + j), rfl, rfl, _, rfl, ?_⟩
      rw [decide_eq_true (show V.int (kvs.length : Int) = V.int (1 + j) from congrArg V.int (by omega))]
      have s2728 := s27.trans s28
      exact ⟨⟨_, _, rfl⟩, stJ.same s2728, tabs_same TJ s2728, hdJ.mono (Wk.of s2728), heJ.mono (Wk.of s2728)⟩
    · have e : ¬ (1 : Int) + j ≤ g2 := fun y => e (decide_eq_true y)
      have hNo : ¬ Rises (szs b2) (1 + j : Nat) := by
        rcases hN2 with q | q
        · omega
        · rw [show ((1 + j : Nat) : Int) = g2 + 1 by omega]
          exact q
      refine ⟨TJ, fun H27 eN T27 => ⟨less, rfl, .int (1 + j), rfl, less, .int (1 + j), rfl, .inr ⟨b2, .int (1 + j), heJ.mono (extN_wk eN), hb2, .int _, fun e => ?no, fun n3 e h1 h8 => ?_⟩⟩⟩
      case no =>
        have e : (decide (1 ≤ (1 : Int) + j) && decide ((1 : Int) + j ≤ 8)) = false := e
        rw [decide_eq_true (by omega), decide_eq_true (by omega)] at e
        cases e
      obtain rfl : n3 = 1 + j := by
        injection e with e
        omega
      refine ⟨fun _ H28 s28 => ⟨Y_NoRise.exm, fun x na => ⟨x, CR, .ref CR, .ref CR, true, rfl, upd_same, Y_NoRise.ex, .own CR, Y_NoRise.kit, _, rfl, ?_⟩⟩, fun hr => absurd hr hNo⟩
      have s29 := s28.trans (same_new (o := ErrO (.ref CR) none x) na)
      have k29 := (extN_wk eN).trans (Wk.of s29)
      exact ⟨⟨_, _, rfl⟩, (stJ.ext eN).same s29, tabs_same T27 s29, hdJ.mono k29, heJ.mono k29⟩
  obtain ⟨⟨y5, y9, rfl⟩, stK, TK, hdK, heK⟩ := hI
  -- what is no book, what is no number
  refine ⟨.ref z, rfl, z, l, _, rfl, stK, by omega, fun vb ab H31 s31 st31 hab hw2 hno => ⟨.ref z, rfl, z, l, _, rfl, st31, by omega, fun vo ao H32 s32 st32 hao hbet => ⟨by show 2 ≤ sizeLine; decide, fun T nT => ⟨T, [vb, vo], rfl, SqT.of upd_same, rfl, vb, [vo], rfl, vo, [], rfl, rfl, ?_⟩⟩⟩⟩
  have s33 := same_new (o := HO.tup [vb, vo]) nT
  have hab := hab.mono (s32.wk.trans (Wk.of s33))
  have hao := hao.mono (Wk.of s33)
  have hd33 := hdK.mono ((s31.wk.trans s32.wk).trans (Wk.of s33))
  have st33 := st32.same s33
  have T33 := tabs_same (tabs_sz (tabs_sz TK stK s31) st31 s32) s33
  generalize upd H32 T (HO.tup [vb, vo]) = H33 at hab hao hd33 st33 T33 ⊢
  refine ⟨T33, fun H34 eN T34 => ⟨vb, rfl, vo, rfl, vb, vo, rfl, .inl ⟨ab, hab.mono (extN_wk eN), hw2, hno, fun H35 s35 => ⟨Y_BadBook.exm, fun x na => ⟨x, CB, .ref CB, .ref CB, true, rfl, upd_same, Y_BadBook.ex, .own CB, Y_BadBook.kit, _, rfl, ?_⟩⟩⟩⟩⟩
  have s36 := s35.trans (same_new (o := ErrO (.ref CB) none x) na)
  have k36 := (extN_wk eN).trans (Wk.of s36)
  have hao := hao.mono k36
  have hd36 := hd33.mono k36
  have st36 := (st33.ext eN).same s36
  have T36 := tabs_same T34 s36
  generalize upd H35 x (ErrO (.ref CB) none x) = H36 at hao hd36 st36 T36 ⊢
  refine ⟨T36, fun H37 eN T37 => ⟨.ref B, rfl, vo, rfl, .ref B, vo, rfl, .inr ⟨b, ao, hd36.mono (extN_wk eN), hb, hao.mono (extN_wk eN), fun _ H38 s38 => ⟨Y_BadNumber.exm, fun y ny => ⟨y, CN, .ref CN, .ref CN, true, rfl, upd_same, Y_BadNumber.ex, .own CN, Y_BadNumber.kit, _, rfl, ?_⟩⟩, fun n4 e h1 h8 => ?_⟩⟩⟩
  · have s39 := s38.trans (same_new (o := ErrO (.ref CN) none y) ny)
    exact ⟨⟨_, _, _, _, _, _, _, _, _, _, _, rfl⟩, ((st36.ext eN).same s39).up (by omega), tabs_same T37 s39⟩
  · subst e
    have hbet : (decide (1 ≤ (n4 : Int)) && decide ((n4 : Int) ≤ 8)) = false := hbet
    rw [decide_eq_true (by omega), decide_eq_true (by omega)] at hbet
    cases hbet
end
end Pk
set_option maxHeartbeats 1000000
/-! All defs, one above the other. -/
namespace Pk
open PySem PySem.Spec PyProof.Rows L2
/-- the def x stands behind the top, under its name -/
structure Df (K : PySem.W.Frag) (mg : Str → Option Value) (x : Str) (st : Stmt) : Prop where
  ex : ∃ (f : Addr) (fd : FuncData), Fun K x x st f fd ∧ mg x = some (.ref f)
theorem df_mk {K : PySem.W.Frag} {h : Heap} {mg : Str → Option Value} (X : K.In h) (G : h.Ns mainGlobals mg) {x : Str} {st : Stmt} {f : Addr} {oc kV doc pm cd ct : Value} {od an : Option Addr} {osl : Array (Option Value)}
    (a : PySem.W.nsIn K mainGlobals x = some (some (.ref f))) (l : K.lookup f = some ⟨oc, od, .func (PySem.W.fnOf x x (defArgs st) (defBody st) (defScope st) .none kV doc pm an cd ct), osl⟩) (c : PySem.W.codeIn K cd x = true) (k : PySem.W.keepIn K (.ref f) = true) : Df K mg x st :=
  ⟨f, _, fun_mk l c k, PySem.W.mg_of X G a⟩
section
variable {P : Program} {w : World} {K : PySem.W.Frag} {mg : Str → Option Value} {base : Heap}
theorem Df.cal {CX : CXT} {k : Nat} {x : Str} {st : Stmt} {ps : List Str} {sp : Sp} (D : Df K mg x st) (h : ∀ f fd, Fun K x x st f fd → FnOk P w K mg base CX k f fd ps sp) (hb : ∀ f fd, Fun K x x st f fd → L2.Binds K fd ps []) : Cal P w K mg base CX k x ps sp := by
  obtain ⟨f, fd, F, g⟩ := D.ex
  exact ⟨f, fd, h f fd F, g, F.kp, hb f fd F⟩
structure AllDf (K : PySem.W.Frag) (mg : Str → Option Value) : Prop where
  d_is_between : Df K mg "is_between" s_is_between
  d_is_pair : Df K mg "is_pair" s_is_pair
  d_are_apart : Df K mg "are_apart" s_are_apart
  d_plans_right : Df K mg "plans_right" s_plans_right
  d_books_right : Df K mg "books_right" s_books_right
  d_need_book : Df K mg "need_book" s_need_book
  d_sizes : Df K mg "sizes" s_sizes
  d_are_rising : Df K mg "are_rising" s_are_rising
  d_kept : Df K mg "kept" s_kept
  d_sure_of : Df K mg "sure_of" s_sure_of
  d_sure : Df K mg "sure" s_sure
  d_are_sizes : Df K mg "are_sizes" s_are_sizes
  d_need_sizes : Df K mg "need_sizes" s_need_sizes
  d_need_pairs : Df K mg "need_pairs" s_need_pairs
  d_lack_at : Df K mg "lack_at" s_lack_at
  d_first_short : Df K mg "first_short" s_first_short
  d_rises : Df K mg "rises" s_rises
  d_rises_to : Df K mg "rises_to" s_rises_to
  d_sorted_pick : Df K mg "sorted_pick" s_sorted_pick
  d_unused_of : Df K mg "unused_of" s_unused_of
  d_picks_right : Df K mg "picks_right" s_picks_right
  d_is_pick : Df K mg "is_pick" s_is_pick
  d_links_of : Df K mg "links_of" s_links_of
  d_path_of : Df K mg "path_of" s_path_of
  d_grown_of : Df K mg "grown_of" s_grown_of
  d_grow_of : Df K mg "grow_of" s_grow_of
  d_picks_by_spans : Df K mg "picks_by_spans" s_picks_by_spans
  d_rising_pick : Df K mg "rising_pick" s_rising_pick
  d_law_is_whole : Df K mg "_law_is_whole" s__law_is_whole
  d_law_is_below : Df K mg "_law_is_below" s__law_is_below
  d_law_is_pair : Df K mg "_law_is_pair" s__law_is_pair
  d_law_are_apart : Df K mg "_law_are_apart" s__law_are_apart
  d_law_is_plan : Df K mg "_law_is_plan" s__law_is_plan
  d_law_is_book : Df K mg "_law_is_book" s__law_is_book
  d_law_draw : Df K mg "_law_draw" s__law_draw
  d_law_begun : Df K mg "_law_begun" s__law_begun
  d_law_pick : Df K mg "_law_pick" s__law_pick
  d_law_mixed : Df K mg "_law_mixed" s__law_mixed
  d_law_plan : Df K mg "_law_plan" s__law_plan
  d_law_any_plan : Df K mg "_law_any_plan" s__law_any_plan
  d_law_sub : Df K mg "_law_sub" s__law_sub
  d_law_ring_in : Df K mg "_law_ring_in" s__law_ring_in
  d_law_near_plan : Df K mg "_law_near_plan" s__law_near_plan
  d_law_book : Df K mg "_law_book" s__law_book
  d_law_sized_book : Df K mg "_law_sized_book" s__law_sized_book
  d_law_rising : Df K mg "_law_rising" s__law_rising
  d_law_wrong_number : Df K mg "_law_wrong_number" s__law_wrong_number
  d_law_bool_pair : Df K mg "_law_bool_pair" s__law_bool_pair
  d_law_bad_plan : Df K mg "_law_bad_plan" s__law_bad_plan
  d_law_bad_book : Df K mg "_law_bad_book" s__law_bad_book
  d_law_is_pick : Df K mg "_law_is_pick" s__law_is_pick
  d_law_caught : Df K mg "_law_caught" s__law_caught
theorem all_law {f c0 P0 CP CB CN CR : Addr} {oc kV doc pm ct : Value} {od an : Option Addr} {osl : Array (Option Value)}
    (lk : K.lookup f = some ⟨oc, od, .func (PySem.W.fnOf "law" "law" (defArgs s_law) (defBody s_law) (defScope s_law) .none kV doc pm an (.ref c0) ct), osl⟩) (hcd : PySem.W.codeIn K (.ref c0) "law" = true) (G : Glob mg)
    (hPE : mg "PickError" = some (.ref CP)) (TB : LamX.TabB base mg c0 P0) (X_NoRise : XcF K mg "NoRise" CR) (X_BadBook : XcF K mg "BadBook" CB) (X_BadNumber : XcF K mg "BadNumber" CN)
    (Y_NoRise : XcK K CR CP) (Y_BadBook : XcK K CB CP) (Y_BadNumber : XcK K CN CP) (D : AllDf K mg) :
    FnOk P w K mg base CX0 9 f (PySem.W.fnOf "law" "law" (defArgs s_law) (defBody s_law) (defScope s_law) .none kV doc pm an (.ref c0) ct) ["_law_script"] (sp_law K P0) := by
  have C_is_between : Cal P w K mg base CX0 1 "is_between" ["thing", "low", "high"] sp_is_between := D.d_is_between.cal (fun f fd F => ok_is_between F G) fun f fd F => F.binds fun _ _ _ _ _ _ us hl => match us, hl with | [_, _, _], _ => rfl
  have C_is_pair : Cal P w K mg base CX0 2 "is_pair" ["thing"] sp_is_pair := D.d_is_pair.cal (fun f fd F => ok_is_pair F G C_is_between) fun f fd F => F.binds fun _ _ _ _ _ _ us hl => match us, hl with | [_], _ => rfl
  have C_are_apart : Cal P w K mg base CX0 1 "are_apart" ["pairs"] (sp_are_apart K) := D.d_are_apart.cal (fun f fd F => ok_are_apart F G) fun f fd F => F.binds fun _ _ _ _ _ _ us hl => match us, hl with | [_], _ => rfl
  have C_plans_right : Cal P w K mg base CX0 3 "plans_right" ["thing"] sp_plans_right := D.d_plans_right.cal (fun f fd F => ok_plans_right F G C_is_pair C_are_apart) fun f fd F => F.binds fun _ _ _ _ _ _ us hl => match us, hl with | [_], _ => rfl
  have C_books_right : Cal P w K mg base CX0 4 "books_right" ["thing"] sp_books_right := D.d_books_right.cal (fun f fd F => ok_books_right F G C_plans_right) fun f fd F => F.binds fun _ _ _ _ _ _ us hl => match us, hl with | [_], _ => rfl
  have C_need_book : Cal P w K mg base (L2.CX P w) 5 "need_book" ["book"] (sp_need_book CB) := D.d_need_book.cal (fun f fd F => ok_need_book F G X_BadBook C_books_right) fun f fd F => F.binds fun _ _ _ _ _ _ us hl => match us, hl with | [_], _ => rfl
  have C_sizes : Cal P w K mg base CX0 6 "sizes" ["book"] sp_sizes := D.d_sizes.cal (fun f fd F => ok_sizes F G C_need_book) fun f fd F => F.binds fun _ _ _ _ _ _ us hl => match us, hl with | [_], _ => rfl
  have C_are_rising : Cal P w K mg base CX0 2 "are_rising" ["thing", "many"] (sp_are_rising K) := D.d_are_rising.cal (fun f fd F => ok_are_rising F G C_is_between) fun f fd F => F.binds fun _ _ _ _ _ _ us hl => match us, hl with | [_, _], _ => rfl
  have C_kept : Cal P w K mg base CX0 6 "kept" ["book", "numbers"] sp_kept := D.d_kept.cal (fun f fd F => ok_kept F G C_need_book C_are_rising) fun f fd F => F.binds fun _ _ _ _ _ _ us hl => match us, hl with | [_, _], _ => rfl
  have C_sure_of : Cal P w K mg base CX0 6 "sure_of" ["book"] sp_sure_of := D.d_sure_of.cal (fun f fd F => ok_sure_of F G) fun f fd F => F.binds fun _ _ _ _ _ _ us hl => match us, hl with | [_], _ => rfl
  have C_sure : Cal P w K mg base CX0 7 "sure" ["book"] sp_sure_of := D.d_sure.cal (fun f fd F => ok_sure F G C_need_book C_sure_of) fun f fd F => F.binds fun _ _ _ _ _ _ us hl => match us, hl with | [_], _ => rfl
  have C_are_sizes : Cal P w K mg base CX0 2 "are_sizes" ["thing"] sp_are_sizes := D.d_are_sizes.cal (fun f fd F => ok_are_sizes F G C_is_between) fun f fd F => F.binds fun _ _ _ _ _ _ us hl => match us, hl with | [_], _ => rfl
  have C_need_sizes : Cal P w K mg base CX0 3 "need_sizes" ["thing"] sp_need_sizes := D.d_need_sizes.cal (fun f fd F => ok_need_sizes F G C_are_sizes) fun f fd F => F.binds fun _ _ _ _ _ _ us hl => match us, hl with | [_], _ => rfl
  have C_need_pairs : Cal P w K mg base (L2.CX P w) 2 "need_pairs" ["number"] (sp_need_pairs CN) := D.d_need_pairs.cal (fun f fd F => ok_need_pairs F G X_BadNumber C_is_between) fun f fd F => F.binds fun _ _ _ _ _ _ us hl => match us, hl with | [_], _ => rfl
  have C_lack_at : Cal P w K mg base CX0 1 "lack_at" ["sizes", "number", "least"] (sp_lack_at K) := D.d_lack_at.cal (fun f fd F => ok_lack_at F G) fun f fd F => F.binds fun _ _ _ _ _ _ us hl => match us, hl with | [_, _, _], _ => rfl
  have C_first_short : Cal P w K mg base CX0 2 "first_short" ["sizes", "number"] (sp_first_short K) := D.d_first_short.cal (fun f fd F => ok_first_short F G C_lack_at) fun f fd F => F.binds fun _ _ _ _ _ _ us hl => match us, hl with | [_, _], _ => rfl
  have C_rises : Cal P w K mg base CX0 4 "rises" ["sizes", "number"] sp_rises := D.d_rises.cal (fun f fd F => ok_rises F G C_need_sizes C_need_pairs C_first_short) fun f fd F => F.binds fun _ _ _ _ _ _ us hl => match us, hl with | [_, _], _ => rfl
  have C_rises_to : Cal P w K mg base CX0 4 "rises_to" ["sizes"] sp_rises_to := D.d_rises_to.cal (fun f fd F => ok_rises_to F G C_need_sizes C_first_short) fun f fd F => F.binds fun _ _ _ _ _ _ us hl => match us, hl with | [_], _ => rfl
  have C_sorted_pick : Cal P w K mg base CX0 1 "sorted_pick" ["pick"] sp_sorted_pick := D.d_sorted_pick.cal (fun f fd F => ok_sorted_pick F G) fun f fd F => F.binds fun _ _ _ _ _ _ us hl => match us, hl with | [_], _ => rfl
  have C_unused_of : Cal P w K mg base CX0 1 "unused_of" ["book", "pick"] sp_unused_of := D.d_unused_of.cal (fun f fd F => ok_unused_of F G) fun f fd F => F.binds fun _ _ _ _ _ _ us hl => match us, hl with | [_, _], _ => rfl
  have C_picks_right : Cal P w K mg base CX0 3 "picks_right" ["book", "thing"] sp_picks_right := D.d_picks_right.cal (fun f fd F => ok_picks_right F G C_is_between C_is_pair C_are_apart) fun f fd F => F.binds fun _ _ _ _ _ _ us hl => match us, hl with | [_, _], _ => rfl
  have C_is_pick : Cal P w K mg base CX0 6 "is_pick" ["book", "thing"] sp_picks_right := D.d_is_pick.cal (fun f fd F => ok_is_pick F G C_need_book C_picks_right) fun f fd F => F.binds fun _ _ _ _ _ _ us hl => match us, hl with | [_, _], _ => rfl
  have C_links_of : Cal P w K mg base CX0 1 "links_of" ["book", "pick", "order"] sp_links_of := D.d_links_of.cal (fun f fd F => ok_links_of F G) fun f fd F => F.binds fun _ _ _ _ _ _ us hl => match us, hl with | [_, _, _], _ => rfl
  have C_path_of : Cal P w K mg base CX0 2 "path_of" ["book", "pick", "order"] sp_path_of := D.d_path_of.cal (fun f fd F => ok_path_of F G C_links_of) fun f fd F => F.binds fun _ _ _ _ _ _ us hl => match us, hl with | [_, _, _], _ => rfl
  have C_grown_of : Cal P w K mg base CX0 3 "grown_of" ["book", "pick", "order"] sp_grown_of := D.d_grown_of.cal (fun f fd F => ok_grown_of F G C_path_of C_sorted_pick) fun f fd F => F.binds fun _ _ _ _ _ _ us hl => match us, hl with | [_, _, _], _ => rfl
  have C_grow_of : Cal P w K mg base CX0 4 "grow_of" ["book", "pick"] sp_grow_of := D.d_grow_of.cal (fun f fd F => ok_grow_of F G C_grown_of C_sorted_pick C_unused_of) fun f fd F => F.binds fun _ _ _ _ _ _ us hl => match us, hl with | [_, _], _ => rfl
  have C_picks_by_spans : Cal P w K mg base CX0 1 "picks_by_spans" ["book", "wanted"] sp_picks_by_spans := D.d_picks_by_spans.cal (fun f fd F => ok_picks_by_spans F G) fun f fd F => F.binds fun _ _ _ _ _ _ us hl => match us, hl with | [_, _], _ => rfl
  have C_rising_pick : Cal P w K mg base (L2.CX P w) 6 "rising_pick" ["book", "number"] (sp_rising_pick CB CN CR) := D.d_rising_pick.cal (fun f fd F => ok_rising_pick F G X_NoRise C_need_book C_need_pairs C_first_short C_grow_of C_picks_by_spans) fun f fd F => F.binds fun _ _ _ _ _ _ us hl => match us, hl with | [_, _], _ => rfl
  have C_law_is_whole : Cal P w K mg base CX0 1 "_law_is_whole" ["_law_item"] sp_law_is_whole := D.d_law_is_whole.cal (fun f fd F => ok_law_is_whole F G) fun f fd F => F.binds fun _ _ _ _ _ _ us hl => match us, hl with | [_], _ => rfl
  have C_law_is_below : Cal P w K mg base CX0 2 "_law_is_below" ["_law_item", "_law_many"] sp_law_is_below := D.d_law_is_below.cal (fun f fd F => ok_law_is_below F G C_law_is_whole) fun f fd F => F.binds fun _ _ _ _ _ _ us hl => match us, hl with | [_, _], _ => rfl
  have C_law_is_pair : Cal P w K mg base CX0 3 "_law_is_pair" ["_law_item"] sp_is_pair := D.d_law_is_pair.cal (fun f fd F => ok_law_is_pair F G C_law_is_below) fun f fd F => F.binds fun _ _ _ _ _ _ us hl => match us, hl with | [_], _ => rfl
  have C_law_are_apart : Cal P w K mg base CX0 1 "_law_are_apart" ["_law_several"] (sp_are_apart K) := D.d_law_are_apart.cal (fun f fd F => ok_law_are_apart F G) fun f fd F => F.binds fun _ _ _ _ _ _ us hl => match us, hl with | [_], _ => rfl
  have C_law_is_plan : Cal P w K mg base CX0 4 "_law_is_plan" ["_law_item"] sp_plans_right := D.d_law_is_plan.cal (fun f fd F => ok_law_is_plan F G C_law_is_pair C_law_are_apart) fun f fd F => F.binds fun _ _ _ _ _ _ us hl => match us, hl with | [_], _ => rfl
  have C_law_is_book : Cal P w K mg base CX0 5 "_law_is_book" ["_law_item"] sp_books_right := D.d_law_is_book.cal (fun f fd F => ok_law_is_book F G C_law_is_plan) fun f fd F => F.binds fun _ _ _ _ _ _ us hl => match us, hl with | [_], _ => rfl
  have C_law_draw : Cal P w K mg base CX0 1 "_law_draw" ["_law_state", "_law_size_here"] sp_law_draw := D.d_law_draw.cal (fun f fd F => ok_law_draw F G) fun f fd F => F.binds fun _ _ _ _ _ _ us hl => match us, hl with | [_, _], _ => rfl
  have C_law_begun : Cal P w K mg base CX0 1 "_law_begun" ["_law_script"] (sp_law_begun K) := D.d_law_begun.cal (fun f fd F => ok_law_begun F G) fun f fd F => F.binds fun _ _ _ _ _ _ us hl => match us, hl with | [_], _ => rfl
  have C_law_pick : Cal P w K mg base CX0 2 "_law_pick" ["_law_state", "_law_several"] sp_law_pick := D.d_law_pick.cal (fun f fd F => ok_law_pick F G C_law_draw) fun f fd F => F.binds fun _ _ _ _ _ _ us hl => match us, hl with | [_, _], _ => rfl
  have C_law_mixed : Cal P w K mg base CX0 2 "_law_mixed" ["_law_state", "_law_several"] sp_law_mixed := D.d_law_mixed.cal (fun f fd F => ok_law_mixed F G C_law_draw) fun f fd F => F.binds fun _ _ _ _ _ _ us hl => match us, hl with | [_, _], _ => rfl
  have C_law_plan : Cal P w K mg base CX0 3 "_law_plan" ["_law_state", "_law_many", "_law_most"] sp_law_plan := D.d_law_plan.cal (fun f fd F => ok_law_plan F G C_law_mixed) fun f fd F => F.binds fun _ _ _ _ _ _ us hl => match us, hl with | [_, _, _], _ => rfl
  have C_law_any_plan : Cal P w K mg base CX0 4 "_law_any_plan" ["_law_state", "_law_most"] sp_law_any_plan := D.d_law_any_plan.cal (fun f fd F => ok_law_any_plan F G C_law_draw C_law_plan) fun f fd F => F.binds fun _ _ _ _ _ _ us hl => match us, hl with | [_, _], _ => rfl
  have C_law_sub : Cal P w K mg base CX0 3 "_law_sub" ["_law_state", "_law_told", "_law_many"] sp_law_sub := D.d_law_sub.cal (fun f fd F => ok_law_sub F G C_law_mixed) fun f fd F => F.binds fun _ _ _ _ _ _ us hl => match us, hl with | [_, _, _], _ => rfl
  have C_law_ring_in : Cal P w K mg base CX0 3 "_law_ring_in" ["_law_state", "_law_many", "_law_wide"] sp_law_ring_in := D.d_law_ring_in.cal (fun f fd F => ok_law_ring_in F G C_law_mixed) fun f fd F => F.binds fun _ _ _ _ _ _ us hl => match us, hl with | [_, _, _], _ => rfl
  have C_law_near_plan : Cal P w K mg base CX0 3 "_law_near_plan" ["_law_state", "_law_told"] sp_law_near_plan := D.d_law_near_plan.cal (fun f fd F => ok_law_near_plan F G C_law_draw C_law_pick) fun f fd F => F.binds fun _ _ _ _ _ _ us hl => match us, hl with | [_, _], _ => rfl
  have C_law_book : Cal P w K mg base CX0 5 "_law_book" ["_law_state", "_law_most"] sp_law_book := D.d_law_book.cal (fun f fd F => ok_law_book F G C_law_draw C_law_pick C_law_plan C_law_any_plan C_law_near_plan) fun f fd F => F.binds fun _ _ _ _ _ _ us hl => match us, hl with | [_, _], _ => rfl
  have C_law_sized_book : Cal P w K mg base CX0 4 "_law_sized_book" ["_law_state", "_law_sizes_here", "_law_wide"] sp_law_sized_book := D.d_law_sized_book.cal (fun f fd F => ok_law_sized_book F G C_law_draw C_law_pick C_law_plan C_law_sub C_law_ring_in C_law_near_plan) fun f fd F => F.binds fun _ _ _ _ _ _ us hl => match us, hl with | [_, _, _], _ => rfl
  have C_law_rising : Cal P w K mg base CX0 3 "_law_rising" ["_law_state", "_law_number"] sp_law_rising := D.d_law_rising.cal (fun f fd F => ok_law_rising F G C_law_draw C_law_mixed) fun f fd F => F.binds fun _ _ _ _ _ _ us hl => match us, hl with | [_, _], _ => rfl
  have C_law_wrong_number : Cal P w K mg base CX0 3 "_law_wrong_number" ["_law_state"] sp_law_wrong_number := D.d_law_wrong_number.cal (fun f fd F => ok_law_wrong_number F G C_law_pick) fun f fd F => F.binds fun _ _ _ _ _ _ us hl => match us, hl with | [_], _ => rfl
  have C_law_bool_pair : Cal P w K mg base CX0 3 "_law_bool_pair" ["_law_state", "_law_pair"] sp_law_bool_pair := D.d_law_bool_pair.cal (fun f fd F => ok_law_bool_pair F G C_law_pick) fun f fd F => F.binds fun _ _ _ _ _ _ us hl => match us, hl with | [_, _], _ => rfl
  have C_law_bad_plan : Cal P w K mg base CX0 4 "_law_bad_plan" ["_law_state"] sp_law_bad_plan := D.d_law_bad_plan.cal (fun f fd F => ok_law_bad_plan F G C_law_draw C_law_pick C_law_plan C_law_bool_pair) fun f fd F => F.binds fun _ _ _ _ _ _ us hl => match us, hl with | [_], _ => rfl
  have C_law_bad_book : Cal P w K mg base CX0 6 "_law_bad_book" ["_law_state"] sp_law_bad_book := D.d_law_bad_book.cal (fun f fd F => ok_law_bad_book F G C_law_draw C_law_pick C_law_book C_law_bad_plan C_law_is_book) fun f fd F => F.binds fun _ _ _ _ _ _ us hl => match us, hl with | [_], _ => rfl
  have C_law_is_pick : Cal P w K mg base CX0 4 "_law_is_pick" ["_law_book_here", "_law_item"] sp_picks_right := D.d_law_is_pick.cal (fun f fd F => ok_law_is_pick F G C_law_is_below C_law_is_pair C_law_are_apart) fun f fd F => F.binds fun _ _ _ _ _ _ us hl => match us, hl with | [_, _], _ => rfl
  obtain ⟨gA, fdC, FC, hcg⟩ := D.d_law_caught.ex
  obtain ⟨kf, kfd, FR, kwG⟩ := D.d_rising_pick.ex
  exact ok_law lk hcd G FC hcg hPE TB X_NoRise X_BadBook X_BadNumber Y_NoRise Y_BadBook Y_BadNumber (ok_rising_pick FR G X_NoRise C_need_book C_need_pairs C_first_short C_grow_of C_picks_by_spans) kwG FR.kp (kw_binds FR) C_rising_pick C_rises C_sizes C_rises_to C_sure C_is_pick C_kept C_law_begun C_law_draw C_law_mixed C_law_rising C_law_sized_book C_law_is_pick C_law_bad_book C_law_wrong_number
end
end Pk
set_option maxHeartbeats 1000000
/-! What the head must say. -/
namespace Pk
open PySem PySem.Spec PyProof.Rows L2
section
variable {K : PySem.W.Frag} {h : Heap} {mg : Str → Option Value}
theorem glob_mk (X : K.In h) (G : h.Ns mainGlobals mg) {t1 t2 : Tok} (z0 : PySem.W.nsIn K mainGlobals "MOST_NUMBER" = some (some (.int 7 t1))) (z1 : PySem.W.nsIn K mainGlobals "MOST_PLANS" = some (some (.int 16 t2)))
    (y0 : PySem.W.nsIn K mainGlobals "len" = some none) (y1 : PySem.W.nsIn K mainGlobals "isinstance" = some none) (y2 : PySem.W.nsIn K mainGlobals "int" = some none) (y3 : PySem.W.nsIn K mainGlobals "bool" = some none) (y4 : PySem.W.nsIn K mainGlobals "tuple" = some none) (y5 : PySem.W.nsIn K mainGlobals "dict" = some none) (y6 : PySem.W.nsIn K mainGlobals "list" = some none) (y7 : PySem.W.nsIn K mainGlobals "sorted" = some none) (y8 : PySem.W.nsIn K mainGlobals "all" = some none) (y9 : PySem.W.nsIn K mainGlobals "range" = some none) (y10 : PySem.W.nsIn K mainGlobals "zip" = some none) (y11 : PySem.W.nsIn K mainGlobals "enumerate" = some none) (y12 : PySem.W.nsIn K mainGlobals "max" = some none) (y13 : PySem.W.nsIn K mainGlobals "min" = some none) (y14 : PySem.W.nsIn K mainGlobals "abs" = some none) (y15 : PySem.W.nsIn K mainGlobals "set" = some none) : Glob mg :=
  ⟨PySem.W.mg_none_of X G y0, PySem.W.mg_none_of X G y1, PySem.W.mg_none_of X G y2, PySem.W.mg_none_of X G y3, PySem.W.mg_none_of X G y4, PySem.W.mg_none_of X G y5, PySem.W.mg_none_of X G y6, PySem.W.mg_none_of X G y7, PySem.W.mg_none_of X G y8, PySem.W.mg_none_of X G y9, PySem.W.mg_none_of X G y10, PySem.W.mg_none_of X G y11, PySem.W.mg_none_of X G y12, PySem.W.mg_none_of X G y13, PySem.W.mg_none_of X G y14, PySem.W.mg_none_of X G y15, ⟨_, PySem.W.mg_of X G z0⟩, ⟨_, PySem.W.mg_of X G z1⟩⟩
theorem xcf_mk (X : K.In h) (G : h.Ns mainGlobals mg) {x : Str} {C CP : Addr} (a : PySem.W.nsIn K mainGlobals x = some (some (.ref C))) (e : PySem.W.excIn K C [.type "ValueError", .type "Exception", .type "BaseException", .type "object"] "ValueError.__new__" = true)
    (k : PySem.W.keepIn K (.ref C) = true) (b : PySem.W.subIn K (.ref C) (.type "BaseException") = some true) (t : PySem.W.typeIn K (.ref C) = some (.type "type")) : XcF K mg x C := ⟨e, PySem.W.mg_of X G a, k, b, t⟩
theorem xck_mk {C CP : Addr} (g : PySem.W.findIn K (.ref C) "__getattribute__" = some (some (.builtin "BaseException.__getattribute__"))) (k : PySem.W.findIn K (.ref C) "__getattr__" = some none)
    (s : PySem.W.subIn K (.ref C) (.type "BaseException") = some true) (d : PySem.W.hasDictIn K C = true) (a : PySem.W.findIn K (.ref C) "__class__" = some (some (.builtin "object.__class__")))
    (n : PySem.W.specialIn K (.builtin "object.__class__") "__get__" = some (some (.builtin "getset_descriptor.__get__"))) (t : PySem.W.takesIn K (.builtin "object.__class__") = some true) (m : PySem.W.mroIn K C (.type "object") = some true)
    (s2 : PySem.W.subIn K (.ref CP) (.type "BaseException") = some true) (d2 : PySem.W.hasDictIn K CP = true) (t2 : PySem.W.typeIn K (.ref CP) = some (.type "type")) (u : PySem.W.subIn K (.ref C) (.ref CP) = some true) : XcK K C CP :=
  ⟨⟨g, k, s, d, a, n, t, m⟩, if_pos (beq_iff_eq.mpr rfl), PySem.W.exm_ref s2 d2 t2 u⟩
theorem code_one {c P0 : Addr} {o : Obj} (l : K.lookup c = some o) (q : PySem.W.codeHdIn [(c, o)] c P0 = true) : PySem.W.codeHdIn K c P0 = true := by
  have e : List.lookup c [(c, o)] = some o := by simp [List.lookup]
  unfold PySem.W.codeHdIn at q ⊢
  rw [e] at q
  rw [l]
  exact q
theorem law_at {l : PySem.W.OpenLaw} {w : World} {fa f c0 P0 CP CB CN CR : Addr} {oc kV doc pm ct : Value} {od an : Option Addr} {osl : Array (Option Value)} (X : K.In h) (G : h.Ns mainGlobals mg) (hfa : mg "law" = some (.ref fa))
    (hT : h.get? P0 = some (PySem.W.tabObj #[])) (a : PySem.W.nsIn K mainGlobals "law" = some (some (.ref f)))
    (lk : K.lookup f = some ⟨oc, od, .func (PySem.W.fnOf "law" "law" (defArgs s_law) (defBody s_law) (defScope s_law) .none kV doc pm an (.ref c0) ct), osl⟩) (hcd : PySem.W.codeIn K (.ref c0) "law" = true)
    {oc0 : Obj} (lC : K.lookup c0 = some oc0) (hC : PySem.W.codeHdIn [(c0, oc0)] c0 P0 = true) (nT : K.lookup P0 = none) (g : Glob mg) (aP : PySem.W.nsIn K mainGlobals "PickError" = some (some (.ref CP)))
    (X_NoRise : XcF K mg "NoRise" CR) (X_BadBook : XcF K mg "BadBook" CB) (X_BadNumber : XcF K mg "BadNumber" CN) (Y_NoRise : XcK K CR CP) (Y_BadBook : XcK K CB CP) (Y_BadNumber : XcK K CN CP) (D : AllDf K mg) :
    LamX.LawAtS l w K CX0 9 63 "_law_script" mg fa h := by
  have e := hfa.symm.trans (PySem.W.mg_of X G a)
  cases e
  have one : ∀ p, p ∈ [(c0, P0)] → p = (c0, P0) := fun p hp => List.mem_singleton.mp hp
  exact ⟨_, [(c0, P0)], sp_law K P0, fun p hp => by rw [one p hp]; exact hT, fun p hp => by rw [one p hp]; exact nT, fun p hp => by rw [one p hp]; exact PySem.W.codeHd_of_K X (code_one lC hC), fun s u => .of_eq rfl,
    fun H a ns hl _ hP hS => ⟨a, ns, rfl, hS, hl, hP (c0, P0) (List.mem_singleton.mpr rfl), fun _ => rfl⟩,
    fun base _ _ hB => all_law lk hcd g (PySem.W.mg_of X G aP) (hB (c0, P0) (List.mem_singleton.mpr rfl)) X_NoRise X_BadBook X_BadNumber Y_NoRise Y_BadBook Y_BadNumber D⟩
end
end Pk
section
open PySem PySem.W PyProof.Rows
set_option maxHeartbeats 0
open_top hd for PySem.Challenge.rw_pairpicks_k41_whole_rising_sizes_are_eno
end
open PySem PySem.W PyProof.Rows
set_option maxHeartbeats 0
theorem PySem.Challenge.cw_pairpicks_k41_whole_rising_sizes_are_eno_holds : PySem.Challenge.rw_pairpicks_k41_whole_rising_sizes_are_eno.Holds := by
  refine hd ?_
  k_fill
  refine LamX.walk_ofTs (l := PySem.Challenge.rw_pairpicks_k41_whole_rising_sizes_are_eno) (n := 63) (k := 9) (x := "_law_script") (CX := fun _ => L2.CX0) rfl (by decide) rfl ⟨rfl, by decide, by decide⟩ (fun w h Y => PySem.W.km_in_of Y) ?F (fun _ _ _ _ _ h => h)
  case F =>
    intro w mg fa h Y KX G hmg
    have hT := PySem.W.km_tabs_of Y _ (List.mem_singleton.mpr rfl)
    have gl : Pk.Glob mg := by
      refine' Pk.glob_mk KX G ?z0 ?z1 ?y0 ?y1 ?y2 ?y3 ?y4 ?y5 ?y6 ?y7 ?y8 ?y9 ?y10 ?y11 ?y12 ?y13 ?y14 ?y15
      (case z0 => k_is)
      (case z1 => k_is)
      (case y0 => k_is)
      (case y1 => k_is)
      (case y2 => k_is)
      (case y3 => k_is)
      (case y4 => k_is)
      (case y5 => k_is)
      (case y6 => k_is)
      (case y7 => k_is)
      (case y8 => k_is)
      (case y9 => k_is)
      (case y10 => k_is)
      (case y11 => k_is)
      (case y12 => k_is)
      (case y13 => k_is)
      (case y14 => k_is)
      (case y15 => k_is)
    have d_is_between : Pk.Df (L2.KOf KX) mg "is_between" Pk.s_is_between := by
      refine' Pk.df_mk KX G ?a ?l ?c ?k
      (case a => k_is)
      (case l => k_is)
      (case c => k_is)
      (case k => k_is)
    have d_is_pair : Pk.Df (L2.KOf KX) mg "is_pair" Pk.s_is_pair := by
      refine' Pk.df_mk KX G ?a ?l ?c ?k
      (case a => k_is)
      (case l => k_is)
      (case c => k_is)
      (case k => k_is)
    have d_are_apart : Pk.Df (L2.KOf KX) mg "are_apart" Pk.s_are_apart := by
      refine' Pk.df_mk KX G ?a ?l ?c ?k
      (case a => k_is)
      (case l => k_is)
      (case c => k_is)
      (case k => k_is)
    have d_plans_right : Pk.Df (L2.KOf KX) mg "plans_right" Pk.s_plans_right := by
      refine' Pk.df_mk KX G ?a ?l ?c ?k
      (case a => k_is)
      (case l => k_is)
      (case c => k_is)
      (case k => k_is)
    have d_books_right : Pk.Df (L2.KOf KX) mg "books_right" Pk.s_books_right := by
      refine' Pk.df_mk KX G ?a ?l ?c ?k
      (case a => k_is)
      (case l => k_is)
      (case c => k_is)
      (case k => k_is)
    have d_need_book : Pk.Df (L2.KOf KX) mg "need_book" Pk.s_need_book := by
      refine' Pk.df_mk KX G ?a ?l ?c ?k
      (case a => k_is)
      (case l => k_is)
      (case c => k_is)
      (case k => k_is)
    have d_sizes : Pk.Df (L2.KOf KX) mg "sizes" Pk.s_sizes := by
      refine' Pk.df_mk KX G ?a ?l ?c ?k
      (case a => k_is)
      (case l => k_is)
      (case c => k_is)
      (case k => k_is)
    have d_are_rising : Pk.Df (L2.KOf KX) mg "are_rising" Pk.s_are_rising := by
      refine' Pk.df_mk KX G ?a ?l ?c ?k
      (case a => k_is)
      (case l => k_is)
      (case c => k_is)
      (case k => k_is)
    have d_kept : Pk.Df (L2.KOf KX) mg "kept" Pk.s_kept := by
      refine' Pk.df_mk KX G ?a ?l ?c ?k
      (case a => k_is)
      (case l => k_is)
      (case c => k_is)
      (case k => k_is)
    have d_sure_of : Pk.Df (L2.KOf KX) mg "sure_of" Pk.s_sure_of := by
      refine' Pk.df_mk KX G ?a ?l ?c ?k
      (case a => k_is)
      (case l => k_is)
      (case c => k_is)
      (case k => k_is)
    have d_sure : Pk.Df (L2.KOf KX) mg "sure" Pk.s_sure := by
      refine' Pk.df_mk KX G ?a ?l ?c ?k
      (case a => k_is)
      (case l => k_is)
      (case c => k_is)
      (case k => k_is)
    have d_are_sizes : Pk.Df (L2.KOf KX) mg "are_sizes" Pk.s_are_sizes := by
      refine' Pk.df_mk KX G ?a ?l ?c ?k
      (case a => k_is)
      (case l => k_is)
      (case c => k_is)
      (case k => k_is)
    have d_need_sizes : Pk.Df (L2.KOf KX) mg "need_sizes" Pk.s_need_sizes := by
      refine' Pk.df_mk KX G ?a ?l ?c ?k
      (case a => k_is)
      (case l => k_is)
      (case c => k_is)
      (case k => k_is)
    have d_need_pairs : Pk.Df (L2.KOf KX) mg "need_pairs" Pk.s_need_pairs := by
      refine' Pk.df_mk KX G ?a ?l ?c ?k
      (case a => k_is)
      (case l => k_is)
      (case c => k_is)
      (case k => k_is)
    have d_lack_at : Pk.Df (L2.KOf KX) mg "lack_at" Pk.s_lack_at := by
      refine' Pk.df_mk KX G ?a ?l ?c ?k
      (case a => k_is)
      (case l => k_is)
      (case c => k_is)
      (case k => k_is)
    have d_first_short : Pk.Df (L2.KOf KX) mg "first_short" Pk.s_first_short := by
      refine' Pk.df_mk KX G ?a ?l ?c ?k
      (case a => k_is)
      (case l => k_is)
      (case c => k_is)
      (case k => k_is)
    have d_rises : Pk.Df (L2.KOf KX) mg "rises" Pk.s_rises := by
      refine' Pk.df_mk KX G ?a ?l ?c ?k
      (case a => k_is)
      (case l => k_is)
      (case c => k_is)
      (case k => k_is)
    have d_rises_to : Pk.Df (L2.KOf KX) mg "rises_to" Pk.s_rises_to := by
      refine' Pk.df_mk KX G ?a ?l ?c ?k
      (case a => k_is)
      (case l => k_is)
      (case c => k_is)
      (case k => k_is)
    have d_sorted_pick : Pk.Df (L2.KOf KX) mg "sorted_pick" Pk.s_sorted_pick := by
      refine' Pk.df_mk KX G ?a ?l ?c ?k
      (case a => k_is)
      (case l => k_is)
      (case c => k_is)
      (case k => k_is)
    have d_unused_of : Pk.Df (L2.KOf KX) mg "unused_of" Pk.s_unused_of := by
      refine' Pk.df_mk KX G ?a ?l ?c ?k
      (case a => k_is)
      (case l => k_is)
      (case c => k_is)
      (case k => k_is)
    have d_picks_right : Pk.Df (L2.KOf KX) mg "picks_right" Pk.s_picks_right := by
      refine' Pk.df_mk KX G ?a ?l ?c ?k
      (case a => k_is)
      (case l => k_is)
      (case c => k_is)
      (case k => k_is)
    have d_is_pick : Pk.Df (L2.KOf KX) mg "is_pick" Pk.s_is_pick := by
      refine' Pk.df_mk KX G ?a ?l ?c ?k
      (case a => k_is)
      (case l => k_is)
      (case c => k_is)
      (case k => k_is)
    have d_links_of : Pk.Df (L2.KOf KX) mg "links_of" Pk.s_links_of := by
      refine' Pk.df_mk KX G ?a ?l ?c ?k
      (case a => k_is)
      (case l => k_is)
      (case c => k_is)
      (case k => k_is)
    have d_path_of : Pk.Df (L2.KOf KX) mg "path_of" Pk.s_path_of := by
      refine' Pk.df_mk KX G ?a ?l ?c ?k
      (case a => k_is)
      (case l => k_is)
      (case c => k_is)
      (case k => k_is)
    have d_grown_of : Pk.Df (L2.KOf KX) mg "grown_of" Pk.s_grown_of := by
      refine' Pk.df_mk KX G ?a ?l ?c ?k
      (case a => k_is)
      (case l => k_is)
      (case c => k_is)
      (case k => k_is)
    have d_grow_of : Pk.Df (L2.KOf KX) mg "grow_of" Pk.s_grow_of := by
      refine' Pk.df_mk KX G ?a ?l ?c ?k
      (case a => k_is)
      (case l => k_is)
      (case c => k_is)
      (case k => k_is)
    have d_picks_by_spans : Pk.Df (L2.KOf KX) mg "picks_by_spans" Pk.s_picks_by_spans := by
      refine' Pk.df_mk KX G ?a ?l ?c ?k
      (case a => k_is)
      (case l => k_is)
      (case c => k_is)
      (case k => k_is)
    have d_rising_pick : Pk.Df (L2.KOf KX) mg "rising_pick" Pk.s_rising_pick := by
      refine' Pk.df_mk KX G ?a ?l ?c ?k
      (case a => k_is)
      (case l => k_is)
      (case c => k_is)
      (case k => k_is)
    have d_law_is_whole : Pk.Df (L2.KOf KX) mg "_law_is_whole" Pk.s__law_is_whole := by
      refine' Pk.df_mk KX G ?a ?l ?c ?k
      (case a => k_is)
      (case l => k_is)
      (case c => k_is)
      (case k => k_is)
    have d_law_is_below : Pk.Df (L2.KOf KX) mg "_law_is_below" Pk.s__law_is_below := by
      refine' Pk.df_mk KX G ?a ?l ?c ?k
      (case a => k_is)
      (case l => k_is)
      (case c => k_is)
      (case k => k_is)
    have d_law_is_pair : Pk.Df (L2.KOf KX) mg "_law_is_pair" Pk.s__law_is_pair := by
      refine' Pk.df_mk KX G ?a ?l ?c ?k
      (case a => k_is)
      (case l => k_is)
      (case c => k_is)
      (case k => k_is)
    have d_law_are_apart : Pk.Df (L2.KOf KX) mg "_law_are_apart" Pk.s__law_are_apart := by
      refine' Pk.df_mk KX G ?a ?l ?c ?k
      (case a => k_is)
      (case l => k_is)
      (case c => k_is)
      (case k => k_is)
    have d_law_is_plan : Pk.Df (L2.KOf KX) mg "_law_is_plan" Pk.s__law_is_plan := by
      refine' Pk.df_mk KX G ?a ?l ?c ?k
      (case a => k_is)
      (case l => k_is)
      (case c => k_is)
      (case k => k_is)
    have d_law_is_book : Pk.Df (L2.KOf KX) mg "_law_is_book" Pk.s__law_is_book := by
      refine' Pk.df_mk KX G ?a ?l ?c ?k
      (case a => k_is)
      (case l => k_is)
      (case c => k_is)
      (case k => k_is)
    have d_law_draw : Pk.Df (L2.KOf KX) mg "_law_draw" Pk.s__law_draw := by
      refine' Pk.df_mk KX G ?a ?l ?c ?k
      (case a => k_is)
      (case l => k_is)
      (case c => k_is)
      (case k => k_is)
    have d_law_begun : Pk.Df (L2.KOf KX) mg "_law_begun" Pk.s__law_begun := by
      refine' Pk.df_mk KX G ?a ?l ?c ?k
      (case a => k_is)
      (case l => k_is)
      (case c => k_is)
      (case k => k_is)
    have d_law_pick : Pk.Df (L2.KOf KX) mg "_law_pick" Pk.s__law_pick := by
      refine' Pk.df_mk KX G ?a ?l ?c ?k
      (case a => k_is)
      (case l => k_is)
      (case c => k_is)
      (case k => k_is)
    have d_law_mixed : Pk.Df (L2.KOf KX) mg "_law_mixed" Pk.s__law_mixed := by
      refine' Pk.df_mk KX G ?a ?l ?c ?k
      (case a => k_is)
      (case l => k_is)
      (case c => k_is)
      (case k => k_is)
    have d_law_plan : Pk.Df (L2.KOf KX) mg "_law_plan" Pk.s__law_plan := by
      refine' Pk.df_mk KX G ?a ?l ?c ?k
      (case a => k_is)
      (case l => k_is)
      (case c => k_is)
      (case k => k_is)
    have d_law_any_plan : Pk.Df (L2.KOf KX) mg "_law_any_plan" Pk.s__law_any_plan := by
      refine' Pk.df_mk KX G ?a ?l ?c ?k
      (case a => k_is)
      (case l => k_is)
      (case c => k_is)
      (case k => k_is)
    have d_law_sub : Pk.Df (L2.KOf KX) mg "_law_sub" Pk.s__law_sub := by
      refine' Pk.df_mk KX G ?a ?l ?c ?k
      (case a => k_is)
      (case l => k_is)
      (case c => k_is)
      (case k => k_is)
    have d_law_ring_in : Pk.Df (L2.KOf KX) mg "_law_ring_in" Pk.s__law_ring_in := by
      refine' Pk.df_mk KX G ?a ?l ?c ?k
      (case a => k_is)
      (case l => k_is)
      (case c => k_is)
      (case k => k_is)
    have d_law_near_plan : Pk.Df (L2.KOf KX) mg "_law_near_plan" Pk.s__law_near_plan := by
      refine' Pk.df_mk KX G ?a ?l ?c ?k
      (case a => k_is)
      (case l => k_is)
      (case c => k_is)
      (case k => k_is)
    have d_law_book : Pk.Df (L2.KOf KX) mg "_law_book" Pk.s__law_book := by
      refine' Pk.df_mk KX G ?a ?l ?c ?k
      (case a => k_is)
      (case l => k_is)
      (case c => k_is)
      (case k => k_is)
    have d_law_sized_book : Pk.Df (L2.KOf KX) mg "_law_sized_book" Pk.s__law_sized_book := by
      refine' Pk.df_mk KX G ?a ?l ?c ?k
      (case a => k_is)
      (case l => k_is)
      (case c => k_is)
      (case k => k_is)
    have d_law_rising : Pk.Df (L2.KOf KX) mg "_law_rising" Pk.s__law_rising := by
      refine' Pk.df_mk KX G ?a ?l ?c ?k
      (case a => k_is)
      (case l => k_is)
      (case c => k_is)
      (case k => k_is)
    have d_law_wrong_number : Pk.Df (L2.KOf KX) mg "_law_wrong_number" Pk.s__law_wrong_number := by
      refine' Pk.df_mk KX G ?a ?l ?c ?k
      (case a => k_is)
      (case l => k_is)
      (case c => k_is)
      (case k => k_is)
    have d_law_bool_pair : Pk.Df (L2.KOf KX) mg "_law_bool_pair" Pk.s__law_bool_pair := by
      refine' Pk.df_mk KX G ?a ?l ?c ?k
      (case a => k_is)
      (case l => k_is)
      (case c => k_is)
      (case k => k_is)
    have d_law_bad_plan : Pk.Df (L2.KOf KX) mg "_law_bad_plan" Pk.s__law_bad_plan := by
      refine' Pk.df_mk KX G ?a ?l ?c ?k
      (case a => k_is)
      (case l => k_is)
      (case c => k_is)
      (case k => k_is)
    have d_law_bad_book : Pk.Df (L2.KOf KX) mg "_law_bad_book" Pk.s__law_bad_book := by
      refine' Pk.df_mk KX G ?a ?l ?c ?k
      (case a => k_is)
      (case l => k_is)
      (case c => k_is)
      (case k => k_is)
    have d_law_is_pick : Pk.Df (L2.KOf KX) mg "_law_is_pick" Pk.s__law_is_pick := by
      refine' Pk.df_mk KX G ?a ?l ?c ?k
      (case a => k_is)
      (case l => k_is)
      (case c => k_is)
      (case k => k_is)
    have d_law_caught : Pk.Df (L2.KOf KX) mg "_law_caught" Pk.s__law_caught := by
      refine' Pk.df_mk KX G ?a ?l ?c ?k
      (case a => k_is)
      (case l => k_is)
      (case c => k_is)
      (case k => k_is)
    have D : Pk.AllDf (L2.KOf KX) mg := ⟨d_is_between, d_is_pair, d_are_apart, d_plans_right, d_books_right, d_need_book, d_sizes, d_are_rising, d_kept, d_sure_of, d_sure, d_are_sizes, d_need_sizes, d_need_pairs, d_lack_at, d_first_short, d_rises, d_rises_to, d_sorted_pick, d_unused_of, d_picks_right, d_is_pick, d_links_of, d_path_of, d_grown_of, d_grow_of, d_picks_by_spans, d_rising_pick, d_law_is_whole, d_law_is_below, d_law_is_pair, d_law_are_apart, d_law_is_plan, d_law_is_book, d_law_draw, d_law_begun, d_law_pick, d_law_mixed, d_law_plan, d_law_any_plan, d_law_sub, d_law_ring_in, d_law_near_plan, d_law_book, d_law_sized_book, d_law_rising, d_law_wrong_number, d_law_bool_pair, d_law_bad_plan, d_law_bad_book, d_law_is_pick, d_law_caught⟩
    refine' Pk.law_at KX G hmg hT ?a ?l ?c ?v ?t ?n gl ?p (Pk.xcf_mk (CP := 0) KX G ?a1 ?e1 ?k1 ?b1 ?t1) (Pk.xcf_mk (CP := 0) KX G ?a2 ?e2 ?k2 ?b2 ?t2) (Pk.xcf_mk (CP := 0) KX G ?a3 ?e3 ?k3 ?b3 ?t3) (Pk.xck_mk ?g1 ?h1 ?s1 ?d1 ?c1 ?n1 ?u1 ?m1 ?q1 ?x1 ?w1 ?r1) (Pk.xck_mk ?g2 ?h2 ?s2 ?d2 ?c2 ?n2 ?u2 ?m2 ?q2 ?x2 ?w2 ?r2) (Pk.xck_mk ?g3 ?h3 ?s3 ?d3 ?c3 ?n3 ?u3 ?m3 ?q3 ?x3 ?w3 ?r3) D
    (case a => k_is)
    (case l => k_is)
    (case c => k_is)
    (case v => k_is)
    (case t => decide +kernel)
    (case n => kernel_rfl)
    (case p => k_is)
    (case a1 => k_is)
    (case e1 => k_exc)
    (case k1 => k_is)
    (case b1 => k_is)
    (case t1 => k_is)
    (case g1 => k_is)
    (case h1 => k_is)
    (case s1 => k_is)
    (case d1 => k_is)
    (case c1 => k_is)
    (case n1 => k_is)
    (case u1 => k_is)
    (case m1 => k_is)
    (case q1 => k_is)
    (case x1 => k_is)
    (case w1 => k_is)
    (case r1 => k_is)
    (case a2 => k_is)
    (case e2 => k_exc)
    (case k2 => k_is)
    (case b2 => k_is)
    (case t2 => k_is)
    (case g2 => k_is)
    (case h2 => k_is)
    (case s2 => k_is)
    (case d2 => k_is)
    (case c2 => k_is)
    (case n2 => k_is)
    (case u2 => k_is)
    (case m2 => k_is)
    (case q2 => k_is)
    (case x2 => k_is)
    (case w2 => k_is)
    (case r2 => k_is)
    (case a3 => k_is)
    (case e3 => k_exc)
    (case k3 => k_is)
    (case b3 => k_is)
    (case t3 => k_is)
    (case g3 => k_is)
    (case h3 => k_is)
    (case s3 => k_is)
    (case d3 => k_is)
    (case c3 => k_is)
    (case n3 => k_is)
    (case u3 => k_is)
    (case m3 => k_is)
    (case q3 => k_is)
    (case x3 => k_is)
    (case w3 => k_is)
    (case r3 => k_is)
