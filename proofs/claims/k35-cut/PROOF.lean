import PyProof.Rows.All
import Wide.All
import OpenK.AllK
import Wide.FinOn
import HandS.ForMost
import HandS.IsInst
import PySem.Challenge.RW_onecopy_k35_cut
set_option Elab.async false
set_option linter.all false
set_option maxRecDepth 100000
/-! A small separation logic over the abstract heap: a list of chunks that stand apart. -/
namespace Oc
open PySem L2

/-- what a part of the heap holds -/
abbrev Asr := Hp → Prop
def Subh (h H : Hp) : Prop := ∀ a o, h a = some o → H a = some o
def cutH (H h : Hp) : Hp := fun a => match h a with | some _ => none | none => H a
def one (a : Addr) (o : HO) : Hp := fun b => if b = a then some o else none
def pto (a : Addr) (o : HO) : Asr := fun h => h = one a o
def Sts : List Asr → Hp → Prop
  | [], _ => True
  | A :: L, H => ∃ h, Subh h H ∧ A h ∧ Sts L (cutH H h)

theorem Subh.refl (h : Hp) : Subh h h := fun _ _ e => e
theorem Subh.trans {h k l : Hp} (a : Subh h k) (b : Subh k l) : Subh h l := fun x o e => b x o (a x o e)
theorem cutH_some {H h : Hp} {a : Addr} {o : HO} : cutH H h a = some o ↔ h a = none ∧ H a = some o := by
  unfold cutH
  cases h a with
  | none => exact ⟨fun e => ⟨rfl, e⟩, fun e => e.2⟩
  | some u => exact ⟨(fun e => nomatch e), (fun e => nomatch e.1)⟩
theorem cutH_sub (H h : Hp) : Subh (cutH H h) H := fun _ _ e => (cutH_some.mp e).2
theorem cutH_mono {H K : Hp} (h : Hp) (s : Subh H K) : Subh (cutH H h) (cutH K h) := fun _ _ e =>
  have q := cutH_some.mp e
  cutH_some.mpr ⟨q.1, s _ _ q.2⟩
theorem Sts.mono : ∀ {L : List Asr} {H K : Hp}, Sts L H → Subh H K → Sts L K
  | [], _, _, _, _ => trivial
  | _ :: _, _, _, ⟨h, s, a, t⟩, q => ⟨h, s.trans q, a, t.mono (cutH_mono h q)⟩
theorem cut_swap {H h k : Hp} (s : Subh k (cutH H h)) : Subh h (cutH H k) ↔ Subh h H := by
  constructor
  · exact fun q => q.trans (cutH_sub _ _)
  · intro q a o e
    refine cutH_some.mpr ⟨?_, q _ _ e⟩
    cases r : k a with
    | none => rfl
    | some u =>
      have z := (cutH_some.mp (s _ _ r)).1
      rw [e] at z
      cases z
theorem cut_comm (H h k : Hp) : cutH (cutH H h) k = cutH (cutH H k) h := by
  funext a
  unfold cutH
  cases h a <;> cases k a <;> rfl
theorem Sts.swap {A B : Asr} {L : List Asr} {H : Hp} (S : Sts (A :: B :: L) H) : Sts (B :: A :: L) H := by
  obtain ⟨h, s, a, k, t, b, S⟩ := S
  exact ⟨k, t.trans (cutH_sub _ _), b, h, (cut_swap t).mpr s, a, by rw [cut_comm]; exact S⟩
theorem Sts.under {A : Asr} {L M : List Asr} {H : Hp} (f : ∀ K, Sts L K → Sts M K) (S : Sts (A :: L) H) : Sts (A :: M) H := by
  obtain ⟨h, s, a, S⟩ := S
  exact ⟨h, s, a, f _ S⟩
theorem Sts.perm {L M : List Asr} (p : L.Perm M) : ∀ {H : Hp}, Sts L H → Sts M H := by
  induction p with
  | nil => exact fun S => S
  | cons x _ ih => exact fun S => S.under fun _ => ih
  | swap x y l => exact fun S => S.swap
  | trans _ _ ih1 ih2 => exact fun S => ih2 (ih1 S)
theorem Sts.tail {A : Asr} {L : List Asr} {H : Hp} (S : Sts (A :: L) H) : Sts L H := by
  obtain ⟨h, s, a, S⟩ := S
  exact S.mono (cutH_sub _ _)
theorem Sts.imp {A B : Asr} {L : List Asr} {H : Hp} (S : Sts (A :: L) H) (f : ∀ h, A h → B h) : Sts (B :: L) H := by
  obtain ⟨h, s, a, S⟩ := S
  exact ⟨h, s, f h a, S⟩
theorem Sts.app_right : ∀ {L M : List Asr} {H : Hp}, Sts (L ++ M) H → Sts M H
  | [], _, _, S => S
  | _ :: L, _, _, S => Sts.app_right (L := L) S.tail
theorem Sts.app_left : ∀ {L M : List Asr} {H : Hp}, Sts (L ++ M) H → Sts L H
  | [], _, _, _ => trivial
  | _ :: L, _, _, S => S.under fun _ T => Sts.app_left T

/-- several chunks as one -/
def star (L : List Asr) : Asr := fun h => Sts L h
theorem Sts.join : ∀ {L M : List Asr} {h H : Hp}, Sts L h → Subh h H → Sts M (cutH H h) → Sts (L ++ M) H
  | [], _, _, _, _, _, T => T.mono (cutH_sub _ _)
  | _ :: L, M, h, H, ⟨k, s, a, S⟩, q, T => by
    refine ⟨k, s.trans q, a, Sts.join (h := cutH h k) S (cutH_mono k q) ?_⟩
    have e : cutH (cutH H k) (cutH h k) = cutH H h := by
      funext x
      unfold cutH
      cases r : k x with
      | none => cases h x <;> rfl
      | some u => rw [s _ _ r]
    rw [e]
    exact T
theorem Sts.open_star {L M : List Asr} {H : Hp} (S : Sts (star L :: M) H) : Sts (L ++ M) H := by
  obtain ⟨h, s, a, S⟩ := S
  exact Sts.join a s S
theorem cut_cut_sub (H h : Hp) : ∀ k, Subh k (cutH H h) → cutH H h = cutH H h := fun _ _ => rfl
theorem Sts.close_star : ∀ {L M : List Asr} {H : Hp}, Sts (L ++ M) H → Sts (star L :: M) H
  | [], M, H, S => ⟨fun _ => none, (fun _ _ e => nomatch e), trivial, S.mono fun a o e => cutH_some.mpr ⟨rfl, e⟩⟩
  | A :: L, M, H, ⟨k, s, a, S⟩ => by
    obtain ⟨h, t, b, S⟩ := Sts.close_star (L := L) S
    let g : Hp := fun x => match k x with | some o => some o | none => h x
    have e1 : cutH H g = cutH (cutH H k) h := by
      funext x
      show (match (match k x with | some o => some o | none => h x) with | some _ => none | none => H x) = (match h x with | some _ => none | none => (match k x with | some _ => none | none => H x))
      cases k x <;> cases h x <;> rfl
    refine ⟨g, fun x o e => ?_, ⟨k, fun x o e => ?_, a, ?_⟩, by rw [e1]; exact S⟩
    · have e' : (match k x with | some o => some o | none => h x) = some o := e
      cases r : k x with
      | none =>
        rw [r] at e'
        exact cutH_sub _ _ _ _ (t _ _ e')
      | some u =>
        rw [r] at e'
        rw [← e']
        exact s _ _ r
    · show (match k x with | some o => some o | none => h x) = some o
      rw [e]
    · have e2 : cutH g k = h := by
        funext x
        show (match k x with | some _ => none | none => (match k x with | some o => some o | none => h x)) = h x
        cases r : k x with
        | none => rfl
        | some u =>
          cases q : h x with
          | none => rfl
          | some v =>
            have z := (cutH_some.mp (t _ _ q)).1
            rw [r] at z
            cases z
      rw [e2]
      exact b
theorem Sts.ex {α : Type} {f : α → Asr} {L : List Asr} {H : Hp} (S : Sts ((fun h => ∃ x, f x h) :: L) H) : ∃ x, Sts (f x :: L) H := by
  obtain ⟨h, s, ⟨x, a⟩, S⟩ := S
  exact ⟨x, h, s, a, S⟩
theorem Sts.pur {P : Prop} {A : Asr} {L : List Asr} {H : Hp} (S : Sts ((fun h => P ∧ A h) :: L) H) : P ∧ Sts (A :: L) H := by
  obtain ⟨h, s, ⟨p, a⟩, S⟩ := S
  exact ⟨p, h, s, a, S⟩

/-! ### one object -/
theorem one_self (a : Addr) (o : HO) : one a o a = some o := by
  unfold one
  rw [if_pos rfl]
theorem one_iff {a b : Addr} {o u : HO} : one a o b = some u ↔ b = a ∧ o = u := by
  unfold one
  by_cases e : b = a
  · rw [if_pos e]
    exact ⟨fun q => ⟨e, Option.some.inj q⟩, fun q => by rw [q.2]⟩
  · rw [if_neg e]
    exact ⟨(fun q => nomatch q), (fun q => absurd q.1 e)⟩
theorem Sts.hd {a : Addr} {o : HO} {L : List Asr} {H : Hp} (S : Sts (pto a o :: L) H) : H a = some o := by
  obtain ⟨h, s, rfl, _⟩ := S
  exact s _ _ (one_self a o)
theorem Sts.new {L : List Asr} {H : Hp} (S : Sts L H) {p : Addr} (o : HO) (np : H p = none) : Sts (pto p o :: L) (upd H p o) := by
  refine ⟨one p o, fun a u e => ?_, rfl, S.mono fun a u e => cutH_some.mpr ⟨?_, ?_⟩⟩
  · obtain ⟨rfl, rfl⟩ := one_iff.mp e
    exact upd_same
  · have ne : a ≠ p := ne_of_none e np
    unfold one
    rw [if_neg ne]
  · rw [upd_ne (ne_of_none e np)]
    exact e
theorem Sts.put {a : Addr} {o : HO} {L : List Asr} {H : Hp} (S : Sts (pto a o :: L) H) (u : HO) : Sts (pto a u :: L) (upd H a u) := by
  obtain ⟨h, s, rfl, S⟩ := S
  refine ⟨one a u, fun b v e => ?_, rfl, S.mono fun b v e => ?_⟩
  · obtain ⟨rfl, rfl⟩ := one_iff.mp e
    exact upd_same
  · obtain ⟨e1, e2⟩ := cutH_some.mp e
    have ne : b ≠ a := fun z => by
      rw [z, one_self] at e1
      cases e1
    refine cutH_some.mpr ⟨?_, ?_⟩
    · unfold one
      rw [if_neg ne]
    · rw [upd_ne ne]
      exact e2
theorem Sts.apart {a b : Addr} {o u : HO} {L : List Asr} {H : Hp} (S : Sts (pto a o :: pto b u :: L) H) : a ≠ b := by
  obtain ⟨h, s, rfl, k, t, rfl, S⟩ := S
  intro e
  have z := (cutH_some.mp (t _ _ (one_self b u))).1
  rw [← e, one_self] at z
  cases z
theorem Sts.none_ne {a p : Addr} {o : HO} {L : List Asr} {H : Hp} (S : Sts (pto a o :: L) H) (np : H p = none) : a ≠ p := ne_of_none S.hd np

/-! ### a chunk to the front -/
section
variable {A0 A1 A2 A3 A4 A5 A6 A7 A8 A9 A10 A11 A12 A13 A14 A15 A16 A17 A18 A19 A20 A21 A22 A23 A24 : Asr} {L : List Asr} {H : Hp}
theorem Sts.to0 (S : Sts (A0 :: L) H) : Sts (A0 :: L) H := S
theorem Sts.to1 (S : Sts (A0 :: A1 :: L) H) : Sts (A1 :: A0 :: L) H := S.swap
theorem Sts.to2 (S : Sts (A0 :: A1 :: A2 :: L) H) : Sts (A2 :: A0 :: A1 :: L) H := (S.under fun _ T => T.to1).swap
theorem Sts.to3 (S : Sts (A0 :: A1 :: A2 :: A3 :: L) H) : Sts (A3 :: A0 :: A1 :: A2 :: L) H := (S.under fun _ T => T.to2).swap
theorem Sts.to4 (S : Sts (A0 :: A1 :: A2 :: A3 :: A4 :: L) H) : Sts (A4 :: A0 :: A1 :: A2 :: A3 :: L) H := (S.under fun _ T => T.to3).swap
theorem Sts.to5 (S : Sts (A0 :: A1 :: A2 :: A3 :: A4 :: A5 :: L) H) : Sts (A5 :: A0 :: A1 :: A2 :: A3 :: A4 :: L) H := (S.under fun _ T => T.to4).swap
theorem Sts.to6 (S : Sts (A0 :: A1 :: A2 :: A3 :: A4 :: A5 :: A6 :: L) H) : Sts (A6 :: A0 :: A1 :: A2 :: A3 :: A4 :: A5 :: L) H := (S.under fun _ T => T.to5).swap
theorem Sts.to7 (S : Sts (A0 :: A1 :: A2 :: A3 :: A4 :: A5 :: A6 :: A7 :: L) H) : Sts (A7 :: A0 :: A1 :: A2 :: A3 :: A4 :: A5 :: A6 :: L) H := (S.under fun _ T => T.to6).swap
theorem Sts.to8 (S : Sts (A0 :: A1 :: A2 :: A3 :: A4 :: A5 :: A6 :: A7 :: A8 :: L) H) : Sts (A8 :: A0 :: A1 :: A2 :: A3 :: A4 :: A5 :: A6 :: A7 :: L) H := (S.under fun _ T => T.to7).swap
theorem Sts.to9 (S : Sts (A0 :: A1 :: A2 :: A3 :: A4 :: A5 :: A6 :: A7 :: A8 :: A9 :: L) H) : Sts (A9 :: A0 :: A1 :: A2 :: A3 :: A4 :: A5 :: A6 :: A7 :: A8 :: L) H := (S.under fun _ T => T.to8).swap
theorem Sts.to10 (S : Sts (A0 :: A1 :: A2 :: A3 :: A4 :: A5 :: A6 :: A7 :: A8 :: A9 :: A10 :: L) H) : Sts (A10 :: A0 :: A1 :: A2 :: A3 :: A4 :: A5 :: A6 :: A7 :: A8 :: A9 :: L) H := (S.under fun _ T => T.to9).swap
theorem Sts.to11 (S : Sts (A0 :: A1 :: A2 :: A3 :: A4 :: A5 :: A6 :: A7 :: A8 :: A9 :: A10 :: A11 :: L) H) : Sts (A11 :: A0 :: A1 :: A2 :: A3 :: A4 :: A5 :: A6 :: A7 :: A8 :: A9 :: A10 :: L) H := (S.under fun _ T => T.to10).swap
theorem Sts.to12 (S : Sts (A0 :: A1 :: A2 :: A3 :: A4 :: A5 :: A6 :: A7 :: A8 :: A9 :: A10 :: A11 :: A12 :: L) H) : Sts (A12 :: A0 :: A1 :: A2 :: A3 :: A4 :: A5 :: A6 :: A7 :: A8 :: A9 :: A10 :: A11 :: L) H := (S.under fun _ T => T.to11).swap
theorem Sts.to13 (S : Sts (A0 :: A1 :: A2 :: A3 :: A4 :: A5 :: A6 :: A7 :: A8 :: A9 :: A10 :: A11 :: A12 :: A13 :: L) H) : Sts (A13 :: A0 :: A1 :: A2 :: A3 :: A4 :: A5 :: A6 :: A7 :: A8 :: A9 :: A10 :: A11 :: A12 :: L) H := (S.under fun _ T => T.to12).swap
theorem Sts.to14 (S : Sts (A0 :: A1 :: A2 :: A3 :: A4 :: A5 :: A6 :: A7 :: A8 :: A9 :: A10 :: A11 :: A12 :: A13 :: A14 :: L) H) : Sts (A14 :: A0 :: A1 :: A2 :: A3 :: A4 :: A5 :: A6 :: A7 :: A8 :: A9 :: A10 :: A11 :: A12 :: A13 :: L) H := (S.under fun _ T => T.to13).swap
theorem Sts.to15 (S : Sts (A0 :: A1 :: A2 :: A3 :: A4 :: A5 :: A6 :: A7 :: A8 :: A9 :: A10 :: A11 :: A12 :: A13 :: A14 :: A15 :: L) H) : Sts (A15 :: A0 :: A1 :: A2 :: A3 :: A4 :: A5 :: A6 :: A7 :: A8 :: A9 :: A10 :: A11 :: A12 :: A13 :: A14 :: L) H := (S.under fun _ T => T.to14).swap
theorem Sts.to16 (S : Sts (A0 :: A1 :: A2 :: A3 :: A4 :: A5 :: A6 :: A7 :: A8 :: A9 :: A10 :: A11 :: A12 :: A13 :: A14 :: A15 :: A16 :: L) H) : Sts (A16 :: A0 :: A1 :: A2 :: A3 :: A4 :: A5 :: A6 :: A7 :: A8 :: A9 :: A10 :: A11 :: A12 :: A13 :: A14 :: A15 :: L) H := (S.under fun _ T => T.to15).swap
theorem Sts.to17 (S : Sts (A0 :: A1 :: A2 :: A3 :: A4 :: A5 :: A6 :: A7 :: A8 :: A9 :: A10 :: A11 :: A12 :: A13 :: A14 :: A15 :: A16 :: A17 :: L) H) : Sts (A17 :: A0 :: A1 :: A2 :: A3 :: A4 :: A5 :: A6 :: A7 :: A8 :: A9 :: A10 :: A11 :: A12 :: A13 :: A14 :: A15 :: A16 :: L) H := (S.under fun _ T => T.to16).swap
theorem Sts.to18 (S : Sts (A0 :: A1 :: A2 :: A3 :: A4 :: A5 :: A6 :: A7 :: A8 :: A9 :: A10 :: A11 :: A12 :: A13 :: A14 :: A15 :: A16 :: A17 :: A18 :: L) H) : Sts (A18 :: A0 :: A1 :: A2 :: A3 :: A4 :: A5 :: A6 :: A7 :: A8 :: A9 :: A10 :: A11 :: A12 :: A13 :: A14 :: A15 :: A16 :: A17 :: L) H := (S.under fun _ T => T.to17).swap
theorem Sts.to19 (S : Sts (A0 :: A1 :: A2 :: A3 :: A4 :: A5 :: A6 :: A7 :: A8 :: A9 :: A10 :: A11 :: A12 :: A13 :: A14 :: A15 :: A16 :: A17 :: A18 :: A19 :: L) H) : Sts (A19 :: A0 :: A1 :: A2 :: A3 :: A4 :: A5 :: A6 :: A7 :: A8 :: A9 :: A10 :: A11 :: A12 :: A13 :: A14 :: A15 :: A16 :: A17 :: A18 :: L) H := (S.under fun _ T => T.to18).swap
theorem Sts.to20 (S : Sts (A0 :: A1 :: A2 :: A3 :: A4 :: A5 :: A6 :: A7 :: A8 :: A9 :: A10 :: A11 :: A12 :: A13 :: A14 :: A15 :: A16 :: A17 :: A18 :: A19 :: A20 :: L) H) : Sts (A20 :: A0 :: A1 :: A2 :: A3 :: A4 :: A5 :: A6 :: A7 :: A8 :: A9 :: A10 :: A11 :: A12 :: A13 :: A14 :: A15 :: A16 :: A17 :: A18 :: A19 :: L) H := (S.under fun _ T => T.to19).swap
theorem Sts.to21 (S : Sts (A0 :: A1 :: A2 :: A3 :: A4 :: A5 :: A6 :: A7 :: A8 :: A9 :: A10 :: A11 :: A12 :: A13 :: A14 :: A15 :: A16 :: A17 :: A18 :: A19 :: A20 :: A21 :: L) H) : Sts (A21 :: A0 :: A1 :: A2 :: A3 :: A4 :: A5 :: A6 :: A7 :: A8 :: A9 :: A10 :: A11 :: A12 :: A13 :: A14 :: A15 :: A16 :: A17 :: A18 :: A19 :: A20 :: L) H := (S.under fun _ T => T.to20).swap
theorem Sts.to22 (S : Sts (A0 :: A1 :: A2 :: A3 :: A4 :: A5 :: A6 :: A7 :: A8 :: A9 :: A10 :: A11 :: A12 :: A13 :: A14 :: A15 :: A16 :: A17 :: A18 :: A19 :: A20 :: A21 :: A22 :: L) H) : Sts (A22 :: A0 :: A1 :: A2 :: A3 :: A4 :: A5 :: A6 :: A7 :: A8 :: A9 :: A10 :: A11 :: A12 :: A13 :: A14 :: A15 :: A16 :: A17 :: A18 :: A19 :: A20 :: A21 :: L) H := (S.under fun _ T => T.to21).swap
theorem Sts.to23 (S : Sts (A0 :: A1 :: A2 :: A3 :: A4 :: A5 :: A6 :: A7 :: A8 :: A9 :: A10 :: A11 :: A12 :: A13 :: A14 :: A15 :: A16 :: A17 :: A18 :: A19 :: A20 :: A21 :: A22 :: A23 :: L) H) : Sts (A23 :: A0 :: A1 :: A2 :: A3 :: A4 :: A5 :: A6 :: A7 :: A8 :: A9 :: A10 :: A11 :: A12 :: A13 :: A14 :: A15 :: A16 :: A17 :: A18 :: A19 :: A20 :: A21 :: A22 :: L) H := (S.under fun _ T => T.to22).swap
theorem Sts.to24 (S : Sts (A0 :: A1 :: A2 :: A3 :: A4 :: A5 :: A6 :: A7 :: A8 :: A9 :: A10 :: A11 :: A12 :: A13 :: A14 :: A15 :: A16 :: A17 :: A18 :: A19 :: A20 :: A21 :: A22 :: A23 :: A24 :: L) H) : Sts (A24 :: A0 :: A1 :: A2 :: A3 :: A4 :: A5 :: A6 :: A7 :: A8 :: A9 :: A10 :: A11 :: A12 :: A13 :: A14 :: A15 :: A16 :: A17 :: A18 :: A19 :: A20 :: A21 :: A22 :: A23 :: L) H := (S.under fun _ T => T.to23).swap
end

/-! ### the script -/
def sqc (K : PySem.W.Frag) (a : Addr) (xs : List V) : Asr := fun h => SqL K h a xs
theorem sqc_sub {K : PySem.W.Frag} {a : Addr} {xs : List V} {h H : Hp} (x : SqL K h a xs) (s : Subh h H) : SqL K H a xs := by
  rcases x with (x | ⟨o, x⟩) | x
  · exact .inl (.inl (s _ _ x))
  · exact .inl (.inr ⟨o, s _ _ x⟩)
  · exact .inr x
theorem Sts.sq {K : PySem.W.Frag} {a : Addr} {xs : List V} {L : List Asr} {H : Hp} (S : Sts (sqc K a xs :: L) H) : SqL K H a xs := by
  obtain ⟨h, s, x, S⟩ := S
  exact sqc_sub x s
theorem sts_script {K : PySem.W.Frag} {a : Addr} {xs : List V} {H : Hp} (x : SqL K H a xs) : Sts [sqc K a xs] H := ⟨H, Subh.refl H, x, trivial⟩
end Oc
/-! ### rules by values, in the forms that the proofs use -/
namespace Oc
open PySem PySem.Spec PyProof.Rows L2

theorem pr {p : Prop} (h : p) : p := h
/-- the i-th of a list of ints, 0 outside -/
def gI (ns : List Int) (i : Int) : Int := ns.getD i.toNat 0
theorem atI_of {xs : List V} {i : Int} {v : V} (h0 : 0 ≤ i) (h : xs[i.toNat]? = some v) : atI xs i = some v := by
  have e : i = ((i.toNat : Nat) : Int) := by omega
  rw [e]
  exact atI_nat h
theorem atI_ints {ns : List Int} {i : Int} (h0 : 0 ≤ i) (h1 : i < ns.length) : atI (ns.map V.int) i = some (.int (gI ns i)) := by
  refine atI_of h0 ?_
  have hl : i.toNat < ns.length := by omega
  rw [List.getElem?_map, List.getElem?_eq_getElem hl]
  unfold gI
  rw [List.getD_eq_getElem?_getD, List.getElem?_eq_getElem hl]
  rfl
theorem gI_mem {ns : List Int} {i : Int} (h0 : 0 ≤ i) (h1 : i < ns.length) : gI ns i ∈ ns := by
  have hl : i.toNat < ns.length := by omega
  unfold gI
  rw [List.getD_eq_getElem?_getD, List.getElem?_eq_getElem hl]
  exact List.getElem_mem hl
theorem ixN_of {n : Nat} {i : Int} (h0 : 0 ≤ i) (h1 : i < n) : ixN n i = some i.toNat := by
  unfold ixN
  rw [if_pos h0, if_pos h1]
/-- a slice of any list -/
def cutL {α : Type} (xs : List α) (lo hi : Option Int) : List α := (xs.drop (HT.sIx xs.length 0 lo)).take (HT.sIx xs.length xs.length hi - HT.sIx xs.length 0 lo)
theorem cutV_map {α : Type} (f : α → V) (xs : List α) (lo hi : Option Int) : cutV (xs.map f) lo hi = (cutL xs lo hi).map f := by
  unfold cutV cutL
  rw [List.length_map, List.map_take, List.map_drop]
theorem sIx_int (n d : Nat) {i : Int} (h : 0 ≤ i) : HT.sIx n d (some i) = min i.toNat n := by
  have e : i = ((i.toNat : Nat) : Int) := by omega
  rw [e, HT.sIx_nat, Int.toNat_natCast]
theorem cutL_take {α : Type} (xs : List α) {i : Int} (h : 0 ≤ i) : cutL xs none (some i) = xs.take i.toNat := by
  unfold cutL
  rw [HT.sIx_none, sIx_int _ _ h, List.drop_zero, Nat.sub_zero]
  by_cases q : i.toNat ≤ xs.length
  · rw [Nat.min_eq_left q]
  · rw [Nat.min_eq_right (by omega), List.take_length, List.take_of_length_le (by omega)]
theorem cutL_drop {α : Type} (xs : List α) {i : Int} (h : 0 ≤ i) : cutL xs (some i) none = xs.drop i.toNat := by
  unfold cutL
  rw [HT.sIx_none, sIx_int _ _ h]
  by_cases q : i.toNat ≤ xs.length
  · rw [Nat.min_eq_left q, List.take_of_length_le (by rw [List.length_drop]; exact Nat.le_refl _)]
  · rw [Nat.min_eq_right (by omega), List.drop_length, List.drop_of_length_le (by omega), List.take_nil]
theorem cutL_mid {α : Type} (xs : List α) {i j : Int} (h : 0 ≤ i) (hj : 0 ≤ j) : cutL xs (some i) (some j) = (xs.drop i.toNat).take (j.toNat - i.toNat) := by
  unfold cutL
  rw [sIx_int _ _ h, sIx_int _ _ hj]
  by_cases q : i.toNat ≤ xs.length
  · rw [Nat.min_eq_left q]
    by_cases r : j.toNat ≤ xs.length
    · rw [Nat.min_eq_left r]
    · rw [Nat.min_eq_right (show xs.length ≤ j.toNat by omega), List.take_of_length_le (by rw [List.length_drop]; exact Nat.le_refl _), List.take_of_length_le (by rw [List.length_drop]; omega)]
  · rw [Nat.min_eq_right (show xs.length ≤ i.toNat by omega), List.drop_length, List.drop_of_length_le (show xs.length ≤ i.toNat by omega), List.take_nil, List.take_nil]
theorem cutL_all {α : Type} (xs : List α) : cutL xs none none = xs := by
  unfold cutL
  rw [HT.sIx_none, HT.sIx_none, List.drop_zero, Nat.sub_zero, List.take_length]
theorem dci (a b : Int) : decide (V.int a = V.int b) = decide (a = b) := by
  by_cases h : a = b
  · rw [h, decide_eq_true rfl, decide_eq_true rfl]
  · rw [decide_eq_false h, decide_eq_false fun e => h (V.int.inj e)]

section
variable {X : Cx}
theorem oc_int_i : CallR X (.type "int") (fun xs H Q => ∃ i, xs = [.int i] ∧ Q (.int i) H) := fun pins s σ H xs us Q I r h => call_int1 pins s σ H xs us Q I r (.inl h)
theorem oc_int_b : CallR X (.type "int") (fun xs H Q => ∃ k, xs = [.bl k] ∧ Q (.int (if k then 1 else 0)) H) := fun pins s σ H xs us Q I r h => call_int1 pins s σ H xs us Q I r (.inr h)
/-- a written power -/
theorem oc_powc (i j r : Int) (h : CPow i j) (e : i ^ j.toNat = r) : OpR X (binaryOp .Pow) (fun x y H Q => x = .int i ∧ y = .int j ∧ Q (.int r) H) := fun pins s σ H x y v u Q I rx ry ⟨e1, e2, q⟩ =>
  op_pow pins s σ H x y v u Q I rx ry ⟨i, j, e1, e2, h, by show Q (.int (i ^ j.toNat)) H; rw [e]; exact q⟩
theorem oc_min2 (hc : X.calm = true) : CallR X (.builtin "min") (fun xs H Q => ∃ i j, xs = [.int i, .int j] ∧ Q (.int (min i j)) H) := fun pins s σ H xs us Q I r ⟨i, j, e, q⟩ => call_min2 hc pins s σ H xs us Q I r ⟨i, j, e, by
  have h : (if j < i then j else i) = min i j := by split <;> omega
  rw [h]
  exact q⟩
theorem oc_max2 (hc : X.calm = true) : CallR X (.builtin "max") (fun xs H Q => ∃ i j, xs = [.int i, .int j] ∧ Q (.int (max i j)) H) := fun pins s σ H xs us Q I r ⟨i, j, e, q⟩ => call_max2 hc pins s σ H xs us Q I r ⟨i, j, e, by
  have h : (if j > i then j else i) = max i j := by split <;> omega
  rw [h]
  exact q⟩
theorem oc_abs : CallR X (.builtin "abs") (fun xs H Q => ∃ i : Int, xs = [.int i] ∧ Q (.int (i.natAbs : Nat)) H) := fun pins s σ H xs us Q I r ⟨i, e, q⟩ => call_abs pins s σ H xs us Q I r ⟨i, e, by
  have h : (if i < 0 then -i else i) = ((i.natAbs : Nat) : Int) := by split <;> omega
  rw [h]
  exact q⟩
section
variable {K : PySem.W.Frag} (hK : X.K = K)
include hK
theorem oc_len : CallR X (.builtin "len") (fun xs H Q => ∃ p ys, xs = [.ref p] ∧ SqL K H p ys ∧ Q (.int ys.length) H) := fun pins s σ H xs us Q I r ⟨p, ys, e, h, q⟩ => call_len_seq pins s σ H xs us Q I r ⟨p, ys, e, .inl (hK ▸ h), q⟩
theorem oc_lenT : CallR X (.builtin "len") (fun xs H Q => ∃ p ys, xs = [.ref p] ∧ SqT K H p ys ∧ Q (.int ys.length) H) := fun pins s σ H xs us Q I r ⟨p, ys, e, h, q⟩ => call_len_seq pins s σ H xs us Q I r ⟨p, ys, e, .inr (hK ▸ h), q⟩
theorem oc_lenI : CallR X (.builtin "len") (fun xs H Q => ∃ p, ∃ ns : List Int, xs = [.ref p] ∧ SqL K H p (ns.map V.int) ∧ Q (.int ns.length) H) := fun pins s σ H xs us Q I r ⟨p, ns, e, h, q⟩ => call_len_seq pins s σ H xs us Q I r ⟨p, _, e, .inl (hK ▸ h), by rw [List.length_map]; exact q⟩
theorem oc_list : CallR X (.type "list") (fun xs H Q => ∃ p ys, xs = [.ref p] ∧ SqL K H p ys ∧ ∀ l, H l = none → Q (.ref l) (upd H l (.lst ys))) := fun pins s σ H xs us Q I r ⟨p, ys, e, h, q⟩ => call_list_of pins s σ H xs us Q I r ⟨p, ys, e, .inl (hK ▸ h), q⟩
theorem oc_listT : CallR X (.type "list") (fun xs H Q => ∃ p ys, xs = [.ref p] ∧ SqT K H p ys ∧ ∀ l, H l = none → Q (.ref l) (upd H l (.lst ys))) := fun pins s σ H xs us Q I r ⟨p, ys, e, h, q⟩ => call_list_of pins s σ H xs us Q I r ⟨p, ys, e, .inr (hK ▸ h), q⟩
theorem oc_tuple : CallR X (.type "tuple") (fun xs H Q => ∃ p ys, xs = [.ref p] ∧ SqL K H p ys ∧ ∀ l, H l = none → Q (.ref l) (upd H l (.tup ys))) := fun pins s σ H xs us Q I r ⟨p, ys, e, h, q⟩ => call_tuple_of pins s σ H xs us Q I r ⟨p, ys, e, .inl ⟨hK ▸ h, q⟩⟩
theorem oc_sum (hc : X.calm = true) : CallR X (.builtin "sum") (rSum K) := hK ▸ cr_sum hc
theorem oc_anyB (hc : X.calm = true) : CallR X (.builtin "any") (rAny K) := hK ▸ cr_any hc
theorem oc_allB (hc : X.calm = true) : CallR X (.builtin "all") (rAll K) := hK ▸ cr_all hc
/-- xs[i], any list -/
theorem oc_ix : IxR X (fun x y H Q => ∃ p xs i v, x = .ref p ∧ y = .int i ∧ SqL K H p xs ∧ atI xs i = some v ∧ Q v H) := hK ▸ ix_list
theorem oc_ixT : IxR X (fun x y H Q => ∃ p xs i v, x = .ref p ∧ y = .int i ∧ SqT K H p xs ∧ atI xs i = some v ∧ Q v H) := hK ▸ ix_tup
/-- xs[i], a list of ints -/
theorem oc_ixI : IxR X (fun x y H Q => ∃ p, ∃ (ns : List Int) (i : Int), x = .ref p ∧ y = .int i ∧ SqL K H p (ns.map V.int) ∧ (0 ≤ i ∧ i < ns.length) ∧ Q (.int (gI ns i)) H) := fun va sl pins s σ H x y v u Q I rx ry ⟨p, ns, i, e1, e2, h, b, q⟩ hs =>
  ix_list va sl pins s σ H x y v u Q I rx ry ⟨p, _, i, _, e1, e2, hK ▸ h, atI_ints b.1 b.2, q⟩ hs
/-- xs[i:j], a list of ints; any list -/
theorem oc_slI : SlR X (fun x lo hi H Q => ∃ a, ∃ ns : List Int, x = .ref a ∧ SqL K H a (ns.map V.int) ∧ ∀ p, H p = none → Q (.ref p) (upd H p (.lst ((cutL ns lo hi).map V.int)))) := by
  intro pins s σ H x v vl vu lo hi sl Q I rx hs pl pu ⟨a, ns, e, h, q⟩
  exact sl_list pins s σ H x v vl vu lo hi sl Q I rx hs pl pu ⟨a, _, e, hK ▸ h, fun p np => by rw [cutV_map]; exact q p np⟩
theorem oc_sl : SlR X (fun x lo hi H Q => ∃ a xs, x = .ref a ∧ SqL K H a xs ∧ ∀ p, H p = none → Q (.ref p) (upd H p (.lst (cutV xs lo hi)))) := hK ▸ sl_list
end
theorem dp_ints {K : PySem.W.Frag} {H : Hp} : ∀ ns : List Int, DpAll K H (ns.map V.int) (ns.map PyData.int)
  | [] => .nil
  | n :: ns => .cons (.int n) (dp_ints ns)
theorem eqv_ints : ∀ ns ms : List Int, PyData.eqvAll (ns.map PyData.int) (ms.map PyData.int) = decide (ns = ms)
  | [], [] => by simp [PyData.eqvAll]
  | [], _ :: _ => by simp [PyData.eqvAll]
  | _ :: _, [] => by simp [PyData.eqvAll]
  | n :: ns, m :: ms => by
    simp only [List.map_cons, PyData.eqvAll, PyData.eqv, eqv_ints ns ms]
    by_cases h1 : n = m <;> by_cases h2 : ns = ms <;> simp [h1, h2]
theorem lay_ints : ∀ ns : List Int, PyData.canLayAll0 (ns.map PyData.int) = true
  | [] => by simp [PyData.canLayAll0]
  | n :: ns => by simp [PyData.canLayAll0, PyData.canLay0, lay_ints ns]
theorem depth_ints : ∀ ns : List Int, PyData.depthAll (ns.map PyData.int) = 0
  | [] => by simp [PyData.depthAll]
  | n :: ns => by simp [PyData.depthAll, PyData.depth, depth_ints ns]
theorem shaped_ints (ns : List Int) : SeqAt.shaped (.list (ns.map PyData.int)) = true := by
  unfold SeqAt.shaped
  simp [PyData.canLay0, lay_ints, PyData.depth, depth_ints]
theorem oc_ne_ints {K : PySem.W.Frag} (hK : X.K = K) (hu : X.A.units + 64 < cLine) : OpR X (compareOp .NotEq) (fun x y H Q => ∃ a b, ∃ ns ms : List Int, x = .ref a ∧ y = .ref b ∧ SqL K H a (ns.map V.int) ∧ SqL K H b (ms.map V.int) ∧ Q (.bl (!decide (ns = ms))) H) := fun pins s σ H x y v u Q I rx ry ⟨a, b, ns, ms, e1, e2, h1, h2, q⟩ =>
  op_neD hu pins s σ H x y v u Q I rx ry ⟨.list (ns.map PyData.int), .list (ms.map PyData.int), e1 ▸ .lst (hK ▸ h1) (dp_ints ns), e2 ▸ .lst (hK ▸ h2) (dp_ints ms), shaped_ints ns, shaped_ints ms, by
    have e : PyData.eqv (.list (ns.map PyData.int)) (.list (ms.map PyData.int)) = decide (ns = ms) := by
      rw [← eqv_ints]
      simp only [PyData.eqv]
    rw [e]
    exact q⟩
theorem oc_eq_ints {K : PySem.W.Frag} (hK : X.K = K) (hu : X.A.units + 64 < cLine) : OpR X (compareOp .Eq) (fun x y H Q => ∃ a b, ∃ ns ms : List Int, x = .ref a ∧ y = .ref b ∧ SqL K H a (ns.map V.int) ∧ SqL K H b (ms.map V.int) ∧ Q (.bl (decide (ns = ms))) H) := fun pins s σ H x y v u Q I rx ry ⟨a, b, ns, ms, e1, e2, h1, h2, q⟩ =>
  op_eqD hu pins s σ H x y v u Q I rx ry ⟨.list (ns.map PyData.int), .list (ms.map PyData.int), e1 ▸ .lst (hK ▸ h1) (dp_ints ns), e2 ▸ .lst (hK ▸ h2) (dp_ints ms), shaped_ints ns, shaped_ints ms, by
    have e : PyData.eqv (.list (ns.map PyData.int)) (.list (ms.map PyData.int)) = decide (ns = ms) := by
      rw [← eqv_ints]
      simp only [PyData.eqv]
    rw [e]
    exact q⟩
/-! isinstance, by what is known of the value -/
theorem oc_isi_ty {T U : String} {r : Bool} (h : kitB T U = some r) : CallR X (.builtin "isinstance") (fun xs H Q => ∃ x, xs = [x, .ty U] ∧ TyX X.K H x (.type T) ∧ Q (.bl r) H) := fun pins s σ H xs us Q I rr ⟨x, e, t, q⟩ =>
  call_isi pins s σ H xs us Q I rr ⟨x, _, _, _, r, e, .ty U, t, kit_ty h, q⟩
theorem oc_isi_ii : CallR X (.builtin "isinstance") (fun xs H Q => ∃ i, xs = [.int i, .ty "int"] ∧ Q (.bl true) H) := fun pins s σ H xs us Q I rr ⟨i, e, q⟩ =>
  call_isi pins s σ H xs us Q I rr ⟨_, _, _, _, true, e, .ty "int", .base (.int i), kit_ty (by decide +kernel), q⟩
theorem oc_isi_ib : CallR X (.builtin "isinstance") (fun xs H Q => ∃ i, xs = [.int i, .ty "bool"] ∧ Q (.bl false) H) := fun pins s σ H xs us Q I rr ⟨i, e, q⟩ =>
  call_isi pins s σ H xs us Q I rr ⟨_, _, _, _, false, e, .ty "bool", .base (.int i), kit_ty (by decide +kernel), q⟩
theorem oc_isi_bb : CallR X (.builtin "isinstance") (fun xs H Q => ∃ i, xs = [.bl i, .ty "bool"] ∧ Q (.bl true) H) := fun pins s σ H xs us Q I rr ⟨i, e, q⟩ =>
  call_isi pins s σ H xs us Q I rr ⟨_, _, _, _, true, e, .ty "bool", .base (.bl i), kit_ty (by decide +kernel), q⟩
theorem oc_isi_ll : CallR X (.builtin "isinstance") (fun xs H Q => ∃ a ys, xs = [.ref a, .ty "list"] ∧ H a = some (.lst ys) ∧ Q (.bl true) H) := fun pins s σ H xs us Q I rr ⟨a, ys, e, h, q⟩ =>
  call_isi pins s σ H xs us Q I rr ⟨_, _, _, _, true, e, .ty "list", .base (.lst h), kit_ty (by decide +kernel), q⟩
end

/-! ### the heap's changes, in chunks -/
theorem small {n : Nat} (h : n ≤ 1000000) : n < sizeLine := Nat.lt_of_le_of_lt h (by decide)
theorem small' {n : Nat} (h : n ≤ 1000000) : n ≤ sizeLine := Nat.le_of_lt (small h)
theorem Sts.newE {L : List Asr} {H H' : Hp} {p : Addr} {o : HO} (S : Sts L H) (np : H p = none) (e : upd H p o = H') : Sts (pto p o :: L) H' := e ▸ S.new o np
theorem Sts.putE {L : List Asr} {H H' : Hp} {a : Addr} {o u : HO} (S : Sts (pto a o :: L) H) (e : upd H a u = H') : Sts (pto a u :: L) H' := e ▸ S.put u
section
variable {X : Cx}
theorem oc_append : MtR X "list.append" (fun x vs H Q => ∃ l y, x = .ref l ∧ vs = [y] ∧ ∃ xs L, Sts (pto l (.lst xs) :: L) H ∧ xs.length < sizeLine ∧ ∀ H', Sts (pto l (.lst (xs ++ [y])) :: L) H' → Q .non H') := fun pins s σ H x xs v us Q I rx rs ⟨l, y, e1, e2, ys, L, S, hl, q⟩ =>
  mt_append pins s σ H x xs v us Q I rx rs ⟨l, ys, y, e1, e2, S.hd, hl, q _ (S.put _)⟩
theorem oc_extend : MtR X "list.extend" (fun x vs H Q => ∃ l b, x = .ref l ∧ vs = [.ref b] ∧ ∃ xs zs L, Sts (pto l (.lst xs) :: L) H ∧ H b = some (.lst zs) ∧ xs.length + zs.length ≤ sizeLine ∧ ∀ H', Sts (pto l (.lst (xs ++ zs)) :: L) H' → Q .non H') := fun pins s σ H x xs v us Q I rx rs ⟨l, b, e1, e2, ys, zs, L, S, hb, hl, q⟩ =>
  mt_extend pins s σ H x xs v us Q I rx rs ⟨l, b, ys, zs, e1, e2, S.hd, hb, hl, q _ (S.put _)⟩
theorem oc_setL : PSet X (fun o i v H Q => ∃ p k, o = .ref p ∧ i = .int k ∧ ∃ xs L, Sts (pto p (.lst xs) :: L) H ∧ (0 ≤ k ∧ k < xs.length) ∧ ∀ H', Sts (pto p (.lst (xs.set k.toNat v)) :: L) H' → Q H') := fun pins s σ H o i v ov iv u Q I ro ri rv ⟨p, k, e1, e2, xs, L, S, b, q⟩ =>
  set_list pins s σ H o i v ov iv u Q I ro ri rv ⟨p, xs, k, k.toNat, e1, e2, S.hd, ixN_of b.1 b.2, q _ (S.put _)⟩
theorem oc_setI : PSet X (fun o i v H Q => ∃ p k j, o = .ref p ∧ i = .int k ∧ v = .int j ∧ ∃ (ns : List Int) (L : List Asr), Sts (pto p (.lst (ns.map V.int)) :: L) H ∧ (0 ≤ k ∧ k < ns.length) ∧ ∀ H', Sts (pto p (.lst ((ns.set k.toNat j).map V.int)) :: L) H' → Q H') := fun pins s σ H o i v ov iv u Q I ro ri rv ⟨p, k, j, e1, e2, e3, ns, L, S, b, q⟩ =>
  set_list pins s σ H o i v ov iv u Q I ro ri rv ⟨p, _, k, k.toNat, e1, e2, S.hd, ixN_of b.1 (by rw [List.length_map]; exact b.2), by
    refine q _ ?_
    rw [List.map_set, e3]
    exact S.put _⟩
theorem oc_appendI : MtR X "list.append" (fun x vs H Q => ∃ l j, x = .ref l ∧ vs = [.int j] ∧ ∃ (ns : List Int) (L : List Asr), Sts (pto l (.lst (ns.map V.int)) :: L) H ∧ ns.length ≤ 1000000 ∧ ∀ H', Sts (pto l (.lst ((ns ++ [j]).map V.int)) :: L) H' → Q .non H') := fun pins s σ H x xs v us Q I rx rs ⟨l, j, e1, e2, ns, L, S, hl, q⟩ =>
  mt_append pins s σ H x xs v us Q I rx rs ⟨l, _, .int j, e1, e2, S.hd, small (by rw [List.length_map]; exact hl), q _ (by rw [List.map_append]; exact S.put _)⟩
theorem oc_catI : OpR X (binaryOp .Add) (fun x y H Q => ∃ l b, ∃ (ns ms : List Int), x = .ref l ∧ y = .ref b ∧ H l = some (.lst (ns.map V.int)) ∧ H b = some (.lst (ms.map V.int)) ∧ ns.length + ms.length ≤ 1000000 ∧ ∀ p, H p = none → Q (.ref p) (upd H p (.lst ((ns ++ ms).map V.int)))) := fun pins s σ H x y v u Q I rx ry ⟨l, b, ns, ms, e1, e2, h1, h2, hl, q⟩ =>
  op_cat pins s σ H x y v u Q I rx ry ⟨l, b, _, _, e1, e2, h1, h2, small' (by rw [List.length_map, List.length_map]; exact hl), by rw [← List.map_append]; exact q⟩
end

/-! ### tests -/
theorem dt {p : Prop} [Decidable p] (h : p) : decide p = true := decide_eq_true h
theorem df {p : Prop} [Decidable p] (h : ¬ p) : decide p = false := decide_eq_false h
theorem nd {p : Prop} [Decidable p] (h : p) : (!decide p) = false := by rw [decide_eq_true h]; rfl
theorem nt {p : Prop} [Decidable p] (h : ¬ p) : (!decide p) = true := by rw [decide_eq_false h]; rfl
theorem odt {p : Prop} [Decidable p] (h : decide p = true) : p := of_decide_eq_true h
theorem odf {p : Prop} [Decidable p] (h : decide p = false) : ¬ p := of_decide_eq_false h
theorem ont {p : Prop} [Decidable p] (h : (!decide p) = true) : ¬ p := fun q => by rw [decide_eq_true q] at h; cases h
theorem onf {p : Prop} [Decidable p] (h : (!decide p) = false) : p := Decidable.byContradiction fun q => by rw [decide_eq_false q] at h; cases h
theorem vi {a b : Int} (h : V.int a = V.int b) : a = b := V.int.inj h
theorem ifB {b : Bool} {A B : Prop} (h1 : b = true → A) (h2 : b = false → B) : if b = true then A else B := by
  cases b with
  | true => exact iteT (h1 rfl)
  | false => exact iteF (h2 rfl)
theorem ifT {b : Bool} {A B : Prop} (h : b = true) (k : A) : if b = true then A else B := by
  subst h
  exact iteT k
theorem ifF {b : Bool} {A B : Prop} (h : b = false) (k : B) : if b = true then A else B := by
  subst h
  exact iteF k

theorem ifTT {A B : Prop} (k : A) : if true = true then A else B := iteT k
theorem ifFF {A B : Prop} (k : B) : if false = true then A else B := iteF k
theorem ifNT {A B : Prop} (k : B) : if (!true) = true then A else B := ifF rfl k
theorem ifNF {A B : Prop} (k : A) : if (!false) = true then A else B := ifT rfl k
theorem ifDE {α : Type} {x : α} [Decidable (x = x)] {A B : Prop} (k : A) : if decide (x = x) = true then A else B := ifT (dt rfl) k
theorem ifNE {α : Type} {x : α} [Decidable (x = x)] {A B : Prop} (k : B) : if (!decide (x = x)) = true then A else B := ifF (nd rfl) k
/-! ### comprehensions, behind the making of their list at D -/
theorem oc_lcR {lo : Int} {n : Nat} {g : TG} {tt : TT} {te : TE} {vs : List Nat} {σ : L2.St} {H0 : Hp} {D : Addr} {Qd : Hp → Prop} (Pv : Nat → Hp → Prop) (h0 : Pv 0 H0)
    (hs : ∀ i H, i < n → Pv i H → g (.int (lo + (i : Nat))) (wipe σ vs) H fun σ2 H2 => wipe σ2 vs = wipe σ vs ∧ tt σ2 H2 fun b H3 =>
      if b = true then te σ2 H3 fun y H4 => ∃ acc, H4 D = some (.lst acc) ∧ acc.length < sizeLine ∧ Pv (i + 1) (upd H4 D (.lst (acc ++ [y]))) else Pv (i + 1) H3) (hd : ∀ H, Pv n H → Qd H) :
    ∃ W : Nat → Nat → Hp → Prop, (∃ m, W 0 m H0) ∧ ∀ i m H, W i m H →
      ((Itr lo n).stop i H ∧ Qd H) ∨ ((Itr lo n).go i H ∧ ∃ Nx : Hp → Prop, (∀ H', Nx H' → ∃ m', m' < m ∧ W (i + 1) m' H') ∧ ∀ x H', (Itr lo n).yld i H x H' → g x (wipe σ vs) H' fun σ2 H2 => wipe σ2 vs = wipe σ vs ∧ tt σ2 H2 fun b H3 =>
        if b = true then te σ2 H3 fun y H4 => ∃ acc, H4 D = some (.lst acc) ∧ acc.length < sizeLine ∧ Nx (upd H4 D (.lst (acc ++ [y]))) else Nx H3) := by
  refine ⟨fun i m H => i + m = n ∧ Pv i H, ⟨n, Nat.zero_add n, h0⟩, fun i m H h => ?_⟩
  obtain ⟨e, p⟩ := h
  cases m with
  | zero =>
    have e' : n = i := e.symm
    subst e'
    exact .inl ⟨Nat.le_refl _, hd H p⟩
  | succ m =>
    have hi : i < n := by omega
    refine .inr ⟨hi, Pv (i + 1), fun H' p' => ⟨m, Nat.lt_succ_self m, by omega, p'⟩, fun x H' y => ?_⟩
    obtain ⟨e1, e2⟩ := y
    rw [e1, e2]
    exact hs i H hi p
theorem oc_lcL {K : PySem.W.Frag} {a : Addr} {xs : List V} {g : TG} {tt : TT} {te : TE} {vs : List Nat} {σ : L2.St} {H0 : Hp} {D : Addr} {Qd : Hp → Prop} (Pv : Nat → Hp → Prop) (h0 : Pv 0 H0) (hl : ∀ i H, Pv i H → SqL K H a xs)
    (hs : ∀ i x H, xs[i]? = some x → Pv i H → g x (wipe σ vs) H fun σ2 H2 => wipe σ2 vs = wipe σ vs ∧ tt σ2 H2 fun b H3 =>
      if b = true then te σ2 H3 fun y H4 => ∃ acc, H4 D = some (.lst acc) ∧ acc.length < sizeLine ∧ Pv (i + 1) (upd H4 D (.lst (acc ++ [y]))) else Pv (i + 1) H3) (hd : ∀ H, Pv xs.length H → Qd H) :
    ∃ W : Nat → Nat → Hp → Prop, (∃ m, W 0 m H0) ∧ ∀ i m H, W i m H →
      ((Itl K a).stop i H ∧ Qd H) ∨ ((Itl K a).go i H ∧ ∃ Nx : Hp → Prop, (∀ H', Nx H' → ∃ m', m' < m ∧ W (i + 1) m' H') ∧ ∀ x H', (Itl K a).yld i H x H' → g x (wipe σ vs) H' fun σ2 H2 => wipe σ2 vs = wipe σ vs ∧ tt σ2 H2 fun b H3 =>
        if b = true then te σ2 H3 fun y H4 => ∃ acc, H4 D = some (.lst acc) ∧ acc.length < sizeLine ∧ Nx (upd H4 D (.lst (acc ++ [y]))) else Nx H3) := by
  refine ⟨fun i m H => i + m = xs.length ∧ Pv i H, ⟨xs.length, Nat.zero_add _, h0⟩, fun i m H h => ?_⟩
  obtain ⟨e, p⟩ := h
  have q := hl i H p
  cases m with
  | zero =>
    have e' : i = xs.length := e
    exact .inl ⟨⟨xs, q, by omega⟩, hd H (e' ▸ p)⟩
  | succ m =>
    have hi : i < xs.length := by omega
    refine .inr ⟨⟨xs, xs[i], q, List.getElem?_eq_getElem hi⟩, Pv (i + 1), fun H' p' => ⟨m, Nat.lt_succ_self m, by omega, p'⟩, fun x H' y => ?_⟩
    obtain ⟨e1, e2⟩ := y
    rw [e1]
    exact hs i x H (e2 xs q) p
/-- one value an item, the heap as it was -/
theorem lc_pure {K : PySem.W.Frag} {a : Addr} {k : Nat} {te : TE} {vs : List Nat} {σ : L2.St} {H0 : Hp} {Qd : Hp → Prop} {L : List Asr} {D : Addr} (xs : List V) (f : V → V) (S : Sts (pto D (.lst []) :: L) H0) (hsq : ∀ H, Sts L H → SqL K H a xs) (hl : xs.length ≤ 1000000)
    (hw : ∀ x, wipe ((wipe σ vs).set k (some x)) vs = wipe σ vs) (he : ∀ (x : V) (H : Hp) (Q' : VK), x ∈ xs → Sts L H → Q' (f x) H → te ((wipe σ vs).set k (some x)) H Q')
    (hd : ∀ H, Sts (pto D (.lst (xs.map f)) :: L) H → Qd H) :
    ∃ W : Nat → Nat → Hp → Prop, (∃ m, W 0 m H0) ∧ ∀ i m H, W i m H →
      ((Itl K a).stop i H ∧ Qd H) ∨ ((Itl K a).go i H ∧ ∃ Nx : Hp → Prop, (∀ H', Nx H' → ∃ m', m' < m ∧ W (i + 1) m' H') ∧ ∀ x H', (Itl K a).yld i H x H' → gName k x (wipe σ vs) H' fun σ2 H2 => wipe σ2 vs = wipe σ vs ∧ tYes σ2 H2 fun b H3 =>
        if b = true then te σ2 H3 fun y H4 => ∃ acc, H4 D = some (.lst acc) ∧ acc.length < sizeLine ∧ Nx (upd H4 D (.lst (acc ++ [y]))) else Nx H3) :=
  oc_lcL (K := K) (a := a) (xs := xs) (fun i H => Sts (pto D (.lst ((xs.take i).map f)) :: L) H) S (fun i H p => hsq H p.tail)
    (fun i x H hx p => by
      refine ⟨hw x, ?_⟩
      simp only [tYes, if_true]
      refine he x H _ (List.mem_of_getElem? hx) p.tail ⟨_, p.hd, small (by rw [List.length_map, List.length_take]; omega), ?_⟩
      rw [List.take_add_one, hx, List.map_append]
      exact p.put _)
    (fun H p => hd H (by rw [List.take_length] at p; exact p))
theorem lc_pureI {K : PySem.W.Frag} {a : Addr} {k : Nat} {te : TE} {vs : List Nat} {σ : L2.St} {H0 : Hp} {Qd : Hp → Prop} {L : List Asr} {D : Addr} (ns : List Int) (f : Int → V) (S : Sts (pto D (.lst []) :: L) H0) (hsq : ∀ H, Sts L H → SqL K H a (ns.map V.int)) (hl : ns.length ≤ 1000000)
    (hw : ∀ x, wipe ((wipe σ vs).set k (some x)) vs = wipe σ vs) (he : ∀ (x : Int) (H : Hp) (Q' : VK), x ∈ ns → Sts L H → Q' (f x) H → te ((wipe σ vs).set k (some (.int x))) H Q')
    (hd : ∀ H, Sts (pto D (.lst (ns.map f)) :: L) H → Qd H) :
    ∃ W : Nat → Nat → Hp → Prop, (∃ m, W 0 m H0) ∧ ∀ i m H, W i m H →
      ((Itl K a).stop i H ∧ Qd H) ∨ ((Itl K a).go i H ∧ ∃ Nx : Hp → Prop, (∀ H', Nx H' → ∃ m', m' < m ∧ W (i + 1) m' H') ∧ ∀ x H', (Itl K a).yld i H x H' → gName k x (wipe σ vs) H' fun σ2 H2 => wipe σ2 vs = wipe σ vs ∧ tYes σ2 H2 fun b H3 =>
        if b = true then te σ2 H3 fun y H4 => ∃ acc, H4 D = some (.lst acc) ∧ acc.length < sizeLine ∧ Nx (upd H4 D (.lst (acc ++ [y]))) else Nx H3) :=
  oc_lcL (K := K) (a := a) (xs := ns.map V.int) (fun i H => Sts (pto D (.lst ((ns.take i).map f)) :: L) H) S (fun i H p => hsq H p.tail)
    (fun i x H hx p => by
      rw [List.getElem?_map] at hx
      cases e : ns[i]? with
      | none =>
        rw [e] at hx
        cases hx
      | some n =>
        rw [e] at hx
        have ex : x = V.int n := (Option.some.inj hx).symm
        subst ex
        refine ⟨hw _, ?_⟩
        simp only [tYes, if_true]
        refine he n H _ (List.mem_of_getElem? e) p.tail ⟨_, p.hd, small (by rw [List.length_map, List.length_take]; omega), ?_⟩
        rw [List.take_add_one, e, List.map_append]
        exact p.put _)
    (fun H p => hd H (by rw [List.length_map, List.take_length] at p; exact p))
/-- over a range -/
theorem lc_pureR {lo : Int} {n : Nat} {k : Nat} {te : TE} {vs : List Nat} {σ : L2.St} {H0 : Hp} {Qd : Hp → Prop} {L : List Asr} {D : Addr} (f : Int → V) (S : Sts (pto D (.lst []) :: L) H0) (hl : n ≤ 1000000)
    (hw : ∀ x, wipe ((wipe σ vs).set k (some x)) vs = wipe σ vs) (he : ∀ (i : Nat) (H : Hp) (Q' : VK), i < n → Sts L H → Q' (f (lo + i)) H → te ((wipe σ vs).set k (some (.int (lo + i)))) H Q')
    (hd : ∀ H, Sts (pto D (.lst ((List.range n).map fun i => f (lo + (i : Nat)))) :: L) H → Qd H) :
    ∃ W : Nat → Nat → Hp → Prop, (∃ m, W 0 m H0) ∧ ∀ i m H, W i m H →
      ((Itr lo n).stop i H ∧ Qd H) ∨ ((Itr lo n).go i H ∧ ∃ Nx : Hp → Prop, (∀ H', Nx H' → ∃ m', m' < m ∧ W (i + 1) m' H') ∧ ∀ x H', (Itr lo n).yld i H x H' → gName k x (wipe σ vs) H' fun σ2 H2 => wipe σ2 vs = wipe σ vs ∧ tYes σ2 H2 fun b H3 =>
        if b = true then te σ2 H3 fun y H4 => ∃ acc, H4 D = some (.lst acc) ∧ acc.length < sizeLine ∧ Nx (upd H4 D (.lst (acc ++ [y]))) else Nx H3) :=
  oc_lcR (lo := lo) (n := n) (fun i H => Sts (pto D (.lst ((List.range i).map fun i => f (lo + (i : Nat)))) :: L) H) S
    (fun i H hi p => by
      refine ⟨hw _, ?_⟩
      simp only [tYes, if_true]
      refine he i H _ hi p.tail ⟨_, p.hd, small (by rw [List.length_map, List.length_range]; omega), ?_⟩
      rw [List.range_succ, List.map_append]
      exact p.put _)
    (fun H p => hd H p)
/-- lists of ints out of lists of ints and ranges -/
theorem lc_II {K : PySem.W.Frag} {a : Addr} {k : Nat} {te : TE} {vs : List Nat} {σ : L2.St} {H0 : Hp} {Qd : Hp → Prop} {L : List Asr} {D : Addr} (ns : List Int) (f : Int → Int) (S : Sts (pto D (.lst []) :: L) H0) (hsq : ∀ H, Sts L H → SqL K H a (ns.map V.int)) (hl : ns.length ≤ 1000000)
    (hw : ∀ x, wipe ((wipe σ vs).set k (some x)) vs = wipe σ vs) (he : ∀ (x : Int) (H : Hp) (Q' : VK), x ∈ ns → Sts L H → Q' (.int (f x)) H → te ((wipe σ vs).set k (some (.int x))) H Q')
    (hd : ∀ H, Sts (pto D (.lst ((ns.map f).map V.int)) :: L) H → Qd H) :
    ∃ W : Nat → Nat → Hp → Prop, (∃ m, W 0 m H0) ∧ ∀ i m H, W i m H →
      ((Itl K a).stop i H ∧ Qd H) ∨ ((Itl K a).go i H ∧ ∃ Nx : Hp → Prop, (∀ H', Nx H' → ∃ m', m' < m ∧ W (i + 1) m' H') ∧ ∀ x H', (Itl K a).yld i H x H' → gName k x (wipe σ vs) H' fun σ2 H2 => wipe σ2 vs = wipe σ vs ∧ tYes σ2 H2 fun b H3 =>
        if b = true then te σ2 H3 fun y H4 => ∃ acc, H4 D = some (.lst acc) ∧ acc.length < sizeLine ∧ Nx (upd H4 D (.lst (acc ++ [y]))) else Nx H3) :=
  lc_pureI ns (fun x => .int (f x)) S hsq hl hw he (fun H S => hd H (by rw [List.map_map]; exact S))
theorem lc_RI {lo : Int} {n : Nat} {k : Nat} {te : TE} {vs : List Nat} {σ : L2.St} {H0 : Hp} {Qd : Hp → Prop} {L : List Asr} {D : Addr} (f : Int → Int) (S : Sts (pto D (.lst []) :: L) H0) (hl : n ≤ 1000000)
    (hw : ∀ x, wipe ((wipe σ vs).set k (some x)) vs = wipe σ vs) (he : ∀ (i : Nat) (H : Hp) (Q' : VK), i < n → Sts L H → Q' (.int (f (lo + i))) H → te ((wipe σ vs).set k (some (.int (lo + i)))) H Q')
    (hd : ∀ H, Sts (pto D (.lst (((List.range n).map fun i => f (lo + (i : Nat))).map V.int)) :: L) H → Qd H) :
    ∃ W : Nat → Nat → Hp → Prop, (∃ m, W 0 m H0) ∧ ∀ i m H, W i m H →
      ((Itr lo n).stop i H ∧ Qd H) ∨ ((Itr lo n).go i H ∧ ∃ Nx : Hp → Prop, (∀ H', Nx H' → ∃ m', m' < m ∧ W (i + 1) m' H') ∧ ∀ x H', (Itr lo n).yld i H x H' → gName k x (wipe σ vs) H' fun σ2 H2 => wipe σ2 vs = wipe σ vs ∧ tYes σ2 H2 fun b H3 =>
        if b = true then te σ2 H3 fun y H4 => ∃ acc, H4 D = some (.lst acc) ∧ acc.length < sizeLine ∧ Nx (upd H4 D (.lst (acc ++ [y]))) else Nx H3) :=
  lc_pureR (fun x => .int (f x)) S hl hw he (fun H S => hd H (by rw [List.map_map]; exact S))
/-- the end of a turn of any comprehension -/
theorem lc_end {D : Addr} {acc : List V} {y : V} {L : List Asr} {H : Hp} {N : Hp → Prop} (S : Sts (pto D (.lst acc) :: L) H) (hl : acc.length ≤ 1000000) (k : ∀ H', Sts (pto D (.lst (acc ++ [y])) :: L) H' → N H') :
    ∃ acc, H D = some (.lst acc) ∧ acc.length < sizeLine ∧ N (upd H D (.lst (acc ++ [y]))) := ⟨acc, S.hd, small hl, k _ (S.put _)⟩
/-- a block cut behind its first statement: what holds between -/
theorem oc_cut {X : Cx} {st : Stmt} {rest : List Stmt} {t u : TS} (h1 : PS X st t) (h2 : PSs X rest u) : PSs X (st :: rest) (fun D σ H => ∃ Mid : L2.St → Hp → Prop, t { D with nx := Mid } σ H ∧ ∀ σ' H', Mid σ' H' → u D σ' H') := by
  refine ⟨fun pins s σ H D I ⟨Mid, a, b⟩ => ?_⟩
  refine wpAny_execs_cons (thn (h1.run pins s σ H { D with nx := Mid } I a) fun f s1 q => ?_)
  cases f with
  | next =>
    obtain ⟨σ', H', I', q⟩ := q
    exact h2.run pins s1 σ' H' D I' (b _ _ q)
  | ret v => exact q
  | brk => exact q
  | cont => exact q
end Oc
/-! ### short tactics -/
local macro_rules | `(tactic| walk_at "fr1") => `(tactic| first | exact Oc.Sts.to0 (by assumption) | exact Oc.Sts.to1 (by assumption) | exact Oc.Sts.to2 (by assumption) | exact Oc.Sts.to3 (by assumption) | exact Oc.Sts.to4 (by assumption) | exact Oc.Sts.to5 (by assumption) | exact Oc.Sts.to6 (by assumption) | exact Oc.Sts.to7 (by assumption) | exact Oc.Sts.to8 (by assumption) | exact Oc.Sts.to9 (by assumption) | exact Oc.Sts.to10 (by assumption) | exact Oc.Sts.to11 (by assumption) | exact Oc.Sts.to12 (by assumption) | exact Oc.Sts.to13 (by assumption) | exact Oc.Sts.to14 (by assumption) | exact Oc.Sts.to15 (by assumption) | exact Oc.Sts.to16 (by assumption) | exact Oc.Sts.to17 (by assumption) | exact Oc.Sts.to18 (by assumption) | exact Oc.Sts.to19 (by assumption) | exact Oc.Sts.to20 (by assumption) | exact Oc.Sts.to21 (by assumption) | exact Oc.Sts.to22 (by assumption) | exact Oc.Sts.to23 (by assumption) | exact Oc.Sts.to24 (by assumption))
local macro_rules | `(tactic| walk_at "hp") => `(tactic| first | exact Oc.Sts.hd (Oc.Sts.to0 (by assumption)) | exact Oc.Sts.hd (Oc.Sts.to1 (by assumption)) | exact Oc.Sts.hd (Oc.Sts.to2 (by assumption)) | exact Oc.Sts.hd (Oc.Sts.to3 (by assumption)) | exact Oc.Sts.hd (Oc.Sts.to4 (by assumption)) | exact Oc.Sts.hd (Oc.Sts.to5 (by assumption)) | exact Oc.Sts.hd (Oc.Sts.to6 (by assumption)) | exact Oc.Sts.hd (Oc.Sts.to7 (by assumption)) | exact Oc.Sts.hd (Oc.Sts.to8 (by assumption)) | exact Oc.Sts.hd (Oc.Sts.to9 (by assumption)) | exact Oc.Sts.hd (Oc.Sts.to10 (by assumption)) | exact Oc.Sts.hd (Oc.Sts.to11 (by assumption)) | exact Oc.Sts.hd (Oc.Sts.to12 (by assumption)) | exact Oc.Sts.hd (Oc.Sts.to13 (by assumption)) | exact Oc.Sts.hd (Oc.Sts.to14 (by assumption)) | exact Oc.Sts.hd (Oc.Sts.to15 (by assumption)) | exact Oc.Sts.hd (Oc.Sts.to16 (by assumption)) | exact Oc.Sts.hd (Oc.Sts.to17 (by assumption)) | exact Oc.Sts.hd (Oc.Sts.to18 (by assumption)) | exact Oc.Sts.hd (Oc.Sts.to19 (by assumption)) | exact Oc.Sts.hd (Oc.Sts.to20 (by assumption)) | exact Oc.Sts.hd (Oc.Sts.to21 (by assumption)) | exact Oc.Sts.hd (Oc.Sts.to22 (by assumption)) | exact Oc.Sts.hd (Oc.Sts.to23 (by assumption)) | exact Oc.Sts.hd (Oc.Sts.to24 (by assumption)))
local macro_rules | `(tactic| walk_at "sq") => `(tactic| first | exact L2.SqL.of (by walk_at "hp") | exact Oc.Sts.sq (by walk_at "fr1") | exact (L2.SqL.of (by walk_at "hp") : L2.SqL _ _ _ (List.map L2.V.int [_])) | exact (L2.SqL.of (by walk_at "hp") : L2.SqL _ _ _ (List.map L2.V.int [])) | exact (L2.SqL.of (by walk_at "hp") : L2.SqL _ _ _ (List.map L2.V.int [_, _])) | exact (L2.SqL.of (by walk_at "hp") : L2.SqL _ _ _ (List.map L2.V.int [_, _, _])))
local macro_rules | `(tactic| walk_at "hpI") => `(tactic| first | walk_at "hp" | exact (Oc.pr (by walk_at "hp") : _ = some (L2.HO.lst (List.map L2.V.int [_]))) | exact (Oc.pr (by walk_at "hp") : _ = some (L2.HO.lst (List.map L2.V.int []))) | exact (Oc.pr (by walk_at "hp") : _ = some (L2.HO.lst (List.map L2.V.int [_, _]))))
local macro_rules | `(tactic| walk_at "frI") => `(tactic| first | walk_at "fr1" | exact (Oc.pr (by walk_at "fr1") : Oc.Sts (Oc.pto _ (L2.HO.lst (List.map L2.V.int [])) :: _) _) | exact (Oc.pr (by walk_at "fr1") : Oc.Sts (Oc.pto _ (L2.HO.lst (List.map L2.V.int [_])) :: _) _) | exact (Oc.pr (by walk_at "fr1") : Oc.Sts (Oc.pto _ (L2.HO.lst (List.map L2.V.int [_, _])) :: _) _))
local macro_rules | `(tactic| walk_at "fr2") => `(tactic| first | (refine Oc.Sts.under (fun _ ot => ?_) (Oc.Sts.to0 (by assumption)); walk_at "fr1") | (refine Oc.Sts.under (fun _ ot => ?_) (Oc.Sts.to1 (by assumption)); walk_at "fr1") | (refine Oc.Sts.under (fun _ ot => ?_) (Oc.Sts.to2 (by assumption)); walk_at "fr1") | (refine Oc.Sts.under (fun _ ot => ?_) (Oc.Sts.to3 (by assumption)); walk_at "fr1") | (refine Oc.Sts.under (fun _ ot => ?_) (Oc.Sts.to4 (by assumption)); walk_at "fr1") | (refine Oc.Sts.under (fun _ ot => ?_) (Oc.Sts.to5 (by assumption)); walk_at "fr1") | (refine Oc.Sts.under (fun _ ot => ?_) (Oc.Sts.to6 (by assumption)); walk_at "fr1") | (refine Oc.Sts.under (fun _ ot => ?_) (Oc.Sts.to7 (by assumption)); walk_at "fr1") | (refine Oc.Sts.under (fun _ ot => ?_) (Oc.Sts.to8 (by assumption)); walk_at "fr1") | (refine Oc.Sts.under (fun _ ot => ?_) (Oc.Sts.to9 (by assumption)); walk_at "fr1") | (refine Oc.Sts.under (fun _ ot => ?_) (Oc.Sts.to10 (by assumption)); walk_at "fr1") | (refine Oc.Sts.under (fun _ ot => ?_) (Oc.Sts.to11 (by assumption)); walk_at "fr1") | (refine Oc.Sts.under (fun _ ot => ?_) (Oc.Sts.to12 (by assumption)); walk_at "fr1") | (refine Oc.Sts.under (fun _ ot => ?_) (Oc.Sts.to13 (by assumption)); walk_at "fr1") | (refine Oc.Sts.under (fun _ ot => ?_) (Oc.Sts.to14 (by assumption)); walk_at "fr1") | (refine Oc.Sts.under (fun _ ot => ?_) (Oc.Sts.to15 (by assumption)); walk_at "fr1") | (refine Oc.Sts.under (fun _ ot => ?_) (Oc.Sts.to16 (by assumption)); walk_at "fr1") | (refine Oc.Sts.under (fun _ ot => ?_) (Oc.Sts.to17 (by assumption)); walk_at "fr1") | (refine Oc.Sts.under (fun _ ot => ?_) (Oc.Sts.to18 (by assumption)); walk_at "fr1") | (refine Oc.Sts.under (fun _ ot => ?_) (Oc.Sts.to19 (by assumption)); walk_at "fr1") | (refine Oc.Sts.under (fun _ ot => ?_) (Oc.Sts.to20 (by assumption)); walk_at "fr1") | (refine Oc.Sts.under (fun _ ot => ?_) (Oc.Sts.to21 (by assumption)); walk_at "fr1") | (refine Oc.Sts.under (fun _ ot => ?_) (Oc.Sts.to22 (by assumption)); walk_at "fr1") | (refine Oc.Sts.under (fun _ ot => ?_) (Oc.Sts.to23 (by assumption)); walk_at "fr1") | (refine Oc.Sts.under (fun _ ot => ?_) (Oc.Sts.to24 (by assumption)); walk_at "fr1"))
local macro_rules | `(tactic| walk_at "fr3") => `(tactic| first | (refine Oc.Sts.under (fun _ ot => ?_) (Oc.Sts.to0 (by assumption)); walk_at "fr2") | (refine Oc.Sts.under (fun _ ot => ?_) (Oc.Sts.to1 (by assumption)); walk_at "fr2") | (refine Oc.Sts.under (fun _ ot => ?_) (Oc.Sts.to2 (by assumption)); walk_at "fr2") | (refine Oc.Sts.under (fun _ ot => ?_) (Oc.Sts.to3 (by assumption)); walk_at "fr2") | (refine Oc.Sts.under (fun _ ot => ?_) (Oc.Sts.to4 (by assumption)); walk_at "fr2") | (refine Oc.Sts.under (fun _ ot => ?_) (Oc.Sts.to5 (by assumption)); walk_at "fr2") | (refine Oc.Sts.under (fun _ ot => ?_) (Oc.Sts.to6 (by assumption)); walk_at "fr2") | (refine Oc.Sts.under (fun _ ot => ?_) (Oc.Sts.to7 (by assumption)); walk_at "fr2") | (refine Oc.Sts.under (fun _ ot => ?_) (Oc.Sts.to8 (by assumption)); walk_at "fr2") | (refine Oc.Sts.under (fun _ ot => ?_) (Oc.Sts.to9 (by assumption)); walk_at "fr2") | (refine Oc.Sts.under (fun _ ot => ?_) (Oc.Sts.to10 (by assumption)); walk_at "fr2") | (refine Oc.Sts.under (fun _ ot => ?_) (Oc.Sts.to11 (by assumption)); walk_at "fr2") | (refine Oc.Sts.under (fun _ ot => ?_) (Oc.Sts.to12 (by assumption)); walk_at "fr2") | (refine Oc.Sts.under (fun _ ot => ?_) (Oc.Sts.to13 (by assumption)); walk_at "fr2") | (refine Oc.Sts.under (fun _ ot => ?_) (Oc.Sts.to14 (by assumption)); walk_at "fr2") | (refine Oc.Sts.under (fun _ ot => ?_) (Oc.Sts.to15 (by assumption)); walk_at "fr2") | (refine Oc.Sts.under (fun _ ot => ?_) (Oc.Sts.to16 (by assumption)); walk_at "fr2") | (refine Oc.Sts.under (fun _ ot => ?_) (Oc.Sts.to17 (by assumption)); walk_at "fr2") | (refine Oc.Sts.under (fun _ ot => ?_) (Oc.Sts.to18 (by assumption)); walk_at "fr2") | (refine Oc.Sts.under (fun _ ot => ?_) (Oc.Sts.to19 (by assumption)); walk_at "fr2") | (refine Oc.Sts.under (fun _ ot => ?_) (Oc.Sts.to20 (by assumption)); walk_at "fr2") | (refine Oc.Sts.under (fun _ ot => ?_) (Oc.Sts.to21 (by assumption)); walk_at "fr2") | (refine Oc.Sts.under (fun _ ot => ?_) (Oc.Sts.to22 (by assumption)); walk_at "fr2") | (refine Oc.Sts.under (fun _ ot => ?_) (Oc.Sts.to23 (by assumption)); walk_at "fr2") | (refine Oc.Sts.under (fun _ ot => ?_) (Oc.Sts.to24 (by assumption)); walk_at "fr2"))
local macro_rules | `(tactic| walk_at "fp") => `(tactic| first | assumption | exact trivial | exact Oc.Sts.tail (by assumption) | exact Oc.Sts.tail (Oc.Sts.tail (by assumption)) | exact Oc.Sts.tail (Oc.Sts.tail (Oc.Sts.tail (by assumption))) | exact Oc.Sts.tail (Oc.Sts.tail (Oc.Sts.tail (Oc.Sts.tail (by assumption)))) | exact Oc.Sts.tail (Oc.Sts.tail (Oc.Sts.tail (Oc.Sts.tail (Oc.Sts.tail (by assumption))))) | exact Oc.Sts.tail (Oc.Sts.tail (Oc.Sts.tail (Oc.Sts.tail (Oc.Sts.tail (Oc.Sts.tail (by assumption)))))) | exact Oc.Sts.tail (Oc.Sts.tail (Oc.Sts.tail (Oc.Sts.tail (Oc.Sts.tail (Oc.Sts.tail (Oc.Sts.tail (by assumption))))))) | exact Oc.Sts.tail (Oc.Sts.tail (Oc.Sts.tail (Oc.Sts.tail (Oc.Sts.tail (Oc.Sts.tail (Oc.Sts.tail (Oc.Sts.tail (by assumption)))))))) | (refine Oc.Sts.under (fun _ ot => ?_) (Oc.Sts.to0 (by assumption)); walk_at "fp") | (refine Oc.Sts.under (fun _ ot => ?_) (Oc.Sts.to1 (by assumption)); walk_at "fp") | (refine Oc.Sts.under (fun _ ot => ?_) (Oc.Sts.to2 (by assumption)); walk_at "fp") | (refine Oc.Sts.under (fun _ ot => ?_) (Oc.Sts.to3 (by assumption)); walk_at "fp") | (refine Oc.Sts.under (fun _ ot => ?_) (Oc.Sts.to4 (by assumption)); walk_at "fp") | (refine Oc.Sts.under (fun _ ot => ?_) (Oc.Sts.to5 (by assumption)); walk_at "fp") | (refine Oc.Sts.under (fun _ ot => ?_) (Oc.Sts.to6 (by assumption)); walk_at "fp") | (refine Oc.Sts.under (fun _ ot => ?_) (Oc.Sts.to7 (by assumption)); walk_at "fp") | (refine Oc.Sts.under (fun _ ot => ?_) (Oc.Sts.to8 (by assumption)); walk_at "fp") | (refine Oc.Sts.under (fun _ ot => ?_) (Oc.Sts.to9 (by assumption)); walk_at "fp") | (refine Oc.Sts.under (fun _ ot => ?_) (Oc.Sts.to10 (by assumption)); walk_at "fp") | (refine Oc.Sts.under (fun _ ot => ?_) (Oc.Sts.to11 (by assumption)); walk_at "fp") | (refine Oc.Sts.under (fun _ ot => ?_) (Oc.Sts.to12 (by assumption)); walk_at "fp") | (refine Oc.Sts.under (fun _ ot => ?_) (Oc.Sts.to13 (by assumption)); walk_at "fp") | (refine Oc.Sts.under (fun _ ot => ?_) (Oc.Sts.to14 (by assumption)); walk_at "fp") | (refine Oc.Sts.under (fun _ ot => ?_) (Oc.Sts.to15 (by assumption)); walk_at "fp") | (refine Oc.Sts.under (fun _ ot => ?_) (Oc.Sts.to16 (by assumption)); walk_at "fp") | (refine Oc.Sts.under (fun _ ot => ?_) (Oc.Sts.to17 (by assumption)); walk_at "fp") | (refine Oc.Sts.under (fun _ ot => ?_) (Oc.Sts.to18 (by assumption)); walk_at "fp") | (refine Oc.Sts.under (fun _ ot => ?_) (Oc.Sts.to19 (by assumption)); walk_at "fp") | (refine Oc.Sts.under (fun _ ot => ?_) (Oc.Sts.to20 (by assumption)); walk_at "fp") | (refine Oc.Sts.under (fun _ ot => ?_) (Oc.Sts.to21 (by assumption)); walk_at "fp") | (refine Oc.Sts.under (fun _ ot => ?_) (Oc.Sts.to22 (by assumption)); walk_at "fp") | (refine Oc.Sts.under (fun _ ot => ?_) (Oc.Sts.to23 (by assumption)); walk_at "fp") | (refine Oc.Sts.under (fun _ ot => ?_) (Oc.Sts.to24 (by assumption)); walk_at "fp"))
local macro_rules | `(tactic| walk_at "side") => `(tactic| first | omega | (dsimp only; omega) | exact Or.inr ⟨by omega, by omega⟩ | exact Or.inl ⟨by omega, by omega⟩ | exact ⟨by omega, by omega⟩ | exact ⟨by omega, by omega, by decide⟩ | exact Oc.small (by simp only [List.length_map, List.length_append, List.length_cons, List.length_nil, List.length_set, List.length_range]; omega) | exact Oc.small' (by simp only [List.length_map, List.length_append, List.length_cons, List.length_nil, List.length_set, List.length_range]; omega) | (simp only [List.length_map, List.length_append, List.length_cons, List.length_nil, List.length_set, List.length_range]; omega))
local macro_rules | `(tactic| walk_at "go1") => `(tactic| first
  | refine ⟨_, rfl, ?_⟩
  | refine ⟨_, _, rfl, rfl, _, _, Oc.pr (by walk_at "fr1"), Oc.pr (by walk_at "side"), fun oh os => ?_⟩
  | refine ⟨_, _, rfl, rfl, _, _, Oc.pr (by walk_at "frI"), Oc.pr (by walk_at "side"), fun oh os => ?_⟩
  | refine ⟨_, _, _, rfl, rfl, rfl, _, _, Oc.pr (by walk_at "frI"), Oc.pr (by walk_at "side"), fun oh os => ?_⟩
  | refine ⟨_, _, rfl, rfl, Oc.pr (by walk_at "side"), ?_⟩
  | refine ⟨_, _, rfl, rfl, ?_⟩
  | refine ⟨rfl, rfl, ?_⟩
  | refine ⟨rfl, ?_⟩
  | refine ⟨(by omega : -(2 ^ 62 : Int) ≤ _), (by omega : _ < (2 ^ 62 : Int)), ?_⟩
  | refine ⟨_, _, rfl, Oc.pr (by walk_at "sq"), ?_⟩
  | refine ⟨⟨_, Oc.pr (by walk_at "sq")⟩, ?_⟩
  | refine ⟨_, _, _, rfl, rfl, Oc.pr (by walk_at "sq"), Oc.pr (by walk_at "side"), ?_⟩
  | refine ⟨_, _, _, _, rfl, rfl, Oc.pr (by walk_at "sq"), Oc.pr (by walk_at "sq"), ?_⟩
  | refine ⟨_, _, _, _, rfl, rfl, Oc.pr (by walk_at "hpI"), Oc.pr (by walk_at "hpI"), Oc.pr (by walk_at "side"), ?_⟩
  | refine ⟨_, _, _, _, rfl, rfl, Oc.pr (by walk_at "sq"), rfl, ?_⟩
  | refine ⟨.inl ⟨rfl, _, L2.SqL.of (by walk_at "hp")⟩, ?_⟩
  | refine ⟨(Oc.pr (by first | exact Oc.small' (by decide) | walk_at "side") : _ ≤ PySem.sizeLine), ?_⟩
  | (intro op np; generalize hG : L2.upd _ op _ = oh; have os := Oc.Sts.newE (by assumption) np hG; clear hG np)
  | refine ⟨(_ : Int), (_ : Int), rfl, ?_⟩)
local macro_rules | `(tactic| walk_at "ife") => `(tactic| with_reducible first | refine Oc.ifTT ?_ | refine Oc.ifFF ?_ | refine Oc.ifNT ?_ | refine Oc.ifNF ?_ | refine Oc.ifDE ?_ | refine Oc.ifNE ?_)
local macro_rules | `(tactic| walk_at "go") => `(tactic| repeat (first | walk_at "ife" | ((fail_if_success (with_reducible refine Oc.ifB (fun _ => ?_) (fun _ => ?_))); walk_at "go1")))

namespace K35
open PySem PySem.Spec PyProof.Rows L2 Oc
def topS (i : Nat) : Stmt := PySem.Challenge.pw_onecopy_k35_cut.main.body.getD i (.Pass ⟨0, 0, 0, 0⟩)
abbrev s_cut_of : Stmt := topS 1
abbrev s_law_fold : Stmt := topS 3
abbrev s_law_purse : Stmt := topS 4
abbrev s_law_take : Stmt := topS 5
abbrev s_law_list : Stmt := topS 6
abbrev s_law_due : Stmt := topS 7
abbrev s_law_cuts : Stmt := topS 8
abbrev s_law : Stmt := topS 9
theorem sc_cut_of : FnScope ["weights", "half"] ["weights"] (defScope s_cut_of) := ⟨rfl, rfl, rfl, by decide +kernel, rfl, by decide +kernel, by decide +kernel⟩
theorem sc_law_fold : FnScope ["script", "total", "k"] ["script"] (defScope s_law_fold) := ⟨rfl, rfl, rfl, by decide +kernel, rfl, by decide +kernel, by decide +kernel⟩
theorem sc_law_purse : FnScope ["script", "k", "seed", "cell", "state"] ["script", "k", "seed"] (defScope s_law_purse) := ⟨rfl, rfl, rfl, by decide +kernel, rfl, by decide +kernel, by decide +kernel⟩
theorem sc_law_take : FnScope ["purse", "many", "digit", "mixed"] ["purse", "many"] (defScope s_law_take) := ⟨rfl, rfl, rfl, by decide +kernel, rfl, by decide +kernel, by decide +kernel⟩
theorem sc_law_list : FnScope ["purse", "many", "large", "period", "shift", "k", "weights"] ["purse"] (defScope s_law_list) := ⟨rfl, rfl, rfl, by decide +kernel, rfl, by decide +kernel, by decide +kernel⟩
theorem sc_law_due : FnScope ["weights", "half"] ["weights"] (defScope s_law_due) := ⟨rfl, rfl, rfl, by decide +kernel, rfl, by decide +kernel, by decide +kernel⟩
theorem sc_law_cuts : FnScope ["weights", "given", "cut"] ["weights"] (defScope s_law_cuts) := ⟨rfl, rfl, rfl, by decide +kernel, rfl, by decide +kernel, by decide +kernel⟩
theorem sc_law : FnScope ["script", "seed", "weights", "many", "purse", "at", "other", "lists", "one", "k", "weight"] ["script"] (defScope s_law) := ⟨rfl, rfl, rfl, by decide +kernel, rfl, by decide +kernel, by decide +kernel⟩
structure Txt (K : PySem.W.Frag) (mg : Str → Option Value) where
  f_cut_of : Addr
  fd_cut_of : FuncData
  F_cut_of : Fun K "cut_of" "cut_of" s_cut_of f_cut_of fd_cut_of
  g_cut_of : mg "cut_of" = some (.ref f_cut_of)
  b_cut_of : Binds K fd_cut_of ["weights"] []
  f_law_fold : Addr
  fd_law_fold : FuncData
  F_law_fold : Fun K "_law_fold" "_law_fold" s_law_fold f_law_fold fd_law_fold
  g_law_fold : mg "_law_fold" = some (.ref f_law_fold)
  b_law_fold : Binds K fd_law_fold ["script"] []
  f_law_purse : Addr
  fd_law_purse : FuncData
  F_law_purse : Fun K "_law_purse" "_law_purse" s_law_purse f_law_purse fd_law_purse
  g_law_purse : mg "_law_purse" = some (.ref f_law_purse)
  b_law_purse : Binds K fd_law_purse ["script", "k", "seed"] []
  f_law_take : Addr
  fd_law_take : FuncData
  F_law_take : Fun K "_law_take" "_law_take" s_law_take f_law_take fd_law_take
  g_law_take : mg "_law_take" = some (.ref f_law_take)
  b_law_take : Binds K fd_law_take ["purse", "many"] []
  f_law_list : Addr
  fd_law_list : FuncData
  F_law_list : Fun K "_law_list" "_law_list" s_law_list f_law_list fd_law_list
  g_law_list : mg "_law_list" = some (.ref f_law_list)
  b_law_list : Binds K fd_law_list ["purse"] []
  f_law_due : Addr
  fd_law_due : FuncData
  F_law_due : Fun K "_law_due" "_law_due" s_law_due f_law_due fd_law_due
  g_law_due : mg "_law_due" = some (.ref f_law_due)
  b_law_due : Binds K fd_law_due ["weights"] []
  f_law_cuts : Addr
  fd_law_cuts : FuncData
  F_law_cuts : Fun K "_law_cuts" "_law_cuts" s_law_cuts f_law_cuts fd_law_cuts
  g_law_cuts : mg "_law_cuts" = some (.ref f_law_cuts)
  b_law_cuts : Binds K fd_law_cuts ["weights"] []
  f_law : Addr
  fd_law : FuncData
  F_law : Fun K "law" "law" s_law f_law fd_law
  g_law : mg "law" = some (.ref f_law)
  b_law : Binds K fd_law ["script"] []
  z_abs : mg "abs" = none
  z_bool : mg "bool" = none
  z_int : mg "int" = none
  z_isinstance : mg "isinstance" = none
  z_len : mg "len" = none
  z_list : mg "list" = none
  z_min : mg "min" = none
  z_range : mg "range" = none
  z_sum : mg "sum" = none
/-! ### the mathematics -/
def half (ws : List Int) : Int := (ws.length : Int) / 2
def cut (ws : List Int) : Int := if (ws.take (half ws).toNat).sum = 1 then half ws + 1 else half ws
def Good (ws : List Int) : Prop := ∀ x ∈ ws, x = 1 ∨ x = 2
theorem half_nn (ws : List Int) : 0 ≤ half ws := by unfold half; omega
theorem cut_nn (ws : List Int) : 0 ≤ cut ws := by
  have := half_nn ws
  unfold cut
  split <;> omega
theorem good_sum : ∀ ws : List Int, Good ws → (ws.length : Int) ≤ ws.sum ∧ ws.sum ≤ 2 * ws.length
  | [], _ => by simp
  | x :: ws, h => by
    have ih := good_sum ws fun y hy => h y (List.mem_cons_of_mem _ hy)
    have hx := h x List.mem_cons_self
    rw [List.sum_cons, List.length_cons]
    omega
theorem Good.take {ws : List Int} (h : Good ws) (n : Nat) : Good (ws.take n) := fun x hx => h x (List.mem_of_mem_take hx)
theorem Good.drop {ws : List Int} (h : Good ws) (n : Nat) : Good (ws.drop n) := fun x hx => h x (List.mem_of_mem_drop hx)
theorem sum_split (ws : List Int) (n : Nat) : (ws.take n).sum + (ws.drop n).sum = ws.sum := by
  rw [← List.sum_append, List.take_append_drop]
theorem take_succ_sum (ws : List Int) (h : Good ws) (n : Nat) : (ws.take (n + 1)).sum ≤ (ws.take n).sum + 2 := by
  rw [List.take_add_one, List.sum_append]
  cases e : ws[n]? with
  | none => simp; omega
  | some x =>
    have := h x (List.mem_of_getElem? e)
    simp
    omega
theorem cut_good (ws : List Int) (h : Good ws) (h2 : 2 ≤ ws.length) (h5 : 5 ≤ ws.sum) : 2 ≤ (ws.take (cut ws).toNat).sum ∧ 2 ≤ (ws.drop (cut ws).toNat).sum := by
  have a1 := good_sum _ (h.take (half ws).toNat)
  have b1 := good_sum _ (h.drop (half ws).toNat)
  have s1 := sum_split ws (half ws).toNat
  have a2 := good_sum _ (h.take ((half ws).toNat + 1))
  have b2 := good_sum _ (h.drop ((half ws).toNat + 1))
  have s2 := sum_split ws ((half ws).toNat + 1)
  have t := take_succ_sum ws h (half ws).toNat
  have g := good_sum ws h
  rw [List.length_take] at a1 a2
  rw [List.length_drop] at b1 b2
  have hh : half ws = (ws.length : Int) / 2 := rfl
  unfold cut
  split
  · rename_i e
    have e1 : (half ws + 1).toNat = (half ws).toNat + 1 := by omega
    rw [e1]
    omega
  · omega
section
variable {P : Program} {w : World} {K : PySem.W.Frag} {mg : Str → Option Value} {base : Heap}
set_option maxHeartbeats 4000000
def purse (p : Addr) : Asr := fun h => ∃ c s n : Int, pto p (.lst [.int c, .int s, .int n]) h
theorem purse_mk {p : Addr} {c s n : Int} {L : List Asr} {H : Hp} (S : Sts (pto p (.lst [.int c, .int s, .int n]) :: L) H) : Sts (purse p :: L) H := S.imp fun _ a => ⟨c, s, n, a⟩
theorem purse_open {p : Addr} {L : List Asr} {H : Hp} (S : Sts (purse p :: L) H) : ∃ c s n : Int, Sts (pto p (.lst [.int c, .int s, .int n]) :: L) H := by
  obtain ⟨c, S⟩ := S.ex
  obtain ⟨s, S⟩ := S.ex
  obtain ⟨n, S⟩ := S.ex
  exact ⟨c, s, n, S⟩
def spCut : Sp := fun vs H Q _ => ∃ (a : Addr) (ws : List Int) (F : List Asr), vs = [.ref a] ∧ Sts (pto a (.lst (ws.map V.int)) :: F) H ∧ ∀ r H', r = cut ws → Sts (pto a (.lst (ws.map V.int)) :: F) H' → Q (.int r) H'
theorem ok_cut_of (T : Txt K mg) : FnOk P w K mg base CX0 1 T.f_cut_of T.fd_cut_of ["weights"] spCut := by
  refine T.F_cut_of.ok sc_cut_of (fun vs H Q E h => by obtain ⟨a, ws, F, rfl, _⟩ := h; rfl) (fun cdv A outer s H vs Q E hr h => ?_)
  obtain ⟨a, ws, F, rfl, S, q⟩ := h
  refine ⟨_, (pss_cons (ps_set (i := 1) sc_cut_of.nd rfl (Or.inl rfl) (pe_op op_fdiv (pe_callB (oc_lenI (K := K) rfl) (by rfl) T.z_len PySem.boot_len (pa_cons (pv 0) pa_nil)) pe_int))
      (pss_cons (ps_if (pt_cmpR op_eq (pe_callB (oc_sum (K := K) rfl rfl) (by rfl) T.z_sum PyProof.Rows.boot_sum (pa_cons (pe_slice (oc_slI (K := K) rfl) (pv 0) po_none (po_some (pv 1))) pa_nil)) pe_int (nomark _))
      (pss_one (ps_ret (pe_op op_add (pv 1) pe_int)))
      pss_nil)
      (pss_one (ps_ret (pv 1))))), ?_⟩
  walk_at "go"
  rw [cutL_take ws (show (0 : Int) ≤ (ws.length : Int) / 2 by omega), dci]
  with_reducible refine ifB (fun c => ?_) (fun c => ?_)
  · walk_at "go"
    exact q _ _ (if_pos (of_decide_eq_true c)).symm (by walk_at "fp")
  · walk_at "go"
    exact q _ _ (if_neg (of_decide_eq_false c)).symm (by walk_at "fp")
theorem ok_law_due (T : Txt K mg) : FnOk P w K mg base CX0 1 T.f_law_due T.fd_law_due ["weights"] spCut := by
  refine T.F_law_due.ok sc_law_due (fun vs H Q E h => by obtain ⟨a, ws, F, rfl, _⟩ := h; rfl) (fun cdv A outer s H vs Q E hr h => ?_)
  obtain ⟨a, ws, F, rfl, S, q⟩ := h
  refine ⟨_, (pss_cons (ps_set (i := 1) sc_law_due.nd rfl (Or.inl rfl) (pe_op op_fdiv (pe_callB (oc_lenI (K := K) rfl) (by rfl) T.z_len PySem.boot_len (pa_cons (pv 0) pa_nil)) pe_int))
      (pss_cons (ps_if (pt_cmpR op_eq (pe_callB (oc_sum (K := K) rfl rfl) (by rfl) T.z_sum PyProof.Rows.boot_sum (pa_cons (pe_slice (oc_slI (K := K) rfl) (pv 0) po_none (po_some (pv 1))) pa_nil)) pe_int (nomark _))
      (pss_one (ps_ret (pe_op op_add (pv 1) pe_int)))
      pss_nil)
      (pss_one (ps_ret (pv 1))))), ?_⟩
  walk_at "go"
  rw [cutL_take ws (show (0 : Int) ≤ (ws.length : Int) / 2 by omega), dci]
  with_reducible refine ifB (fun c => ?_) (fun c => ?_)
  · walk_at "go"
    exact q _ _ (if_pos (of_decide_eq_true c)).symm (by walk_at "fp")
  · walk_at "go"
    exact q _ _ (if_neg (of_decide_eq_false c)).symm (by walk_at "fp")
def spFold (K : PySem.W.Frag) : Sp := fun vs H Q _ => ∃ (a : Addr) (ns : List Int) (F : List Asr), vs = [.ref a] ∧ Sts (sqc K a (ns.map V.int) :: F) H ∧ ∀ r H', Sts (sqc K a (ns.map V.int) :: F) H' → Q (.int r) H'
theorem ok_law_fold (T : Txt K mg) : FnOk P w K mg base CX0 1 T.f_law_fold T.fd_law_fold ["script"] (spFold K) := by
  refine T.F_law_fold.ok sc_law_fold (fun vs H Q E h => by obtain ⟨a, ws, F, rfl, _⟩ := h; rfl) (fun cdv A outer s H vs Q E hr h => ?_)
  obtain ⟨a, ns, F, rfl, S, q⟩ := h
  refine ⟨_, (pss_cons (ps_set (i := 1) sc_law_fold.nd rfl (Or.inl rfl) pe_int)
      (pss_cons (ps_for PassesOwn.never rfl (pi_range1 rfl T.z_range (pa_cons (pe_callB (oc_min2 rfl) (by rfl) T.z_min PyProof.Rows.boot_min (pa_cons pe_int (pa_cons (pe_callB (oc_lenI (K := K) rfl) (by rfl) T.z_len PySem.boot_len (pa_cons (pv 0) pa_nil)) pa_nil))) pa_nil)) (pg_name (i := 2) sc_law_fold.nd rfl (Or.inl rfl))
      (pss_one (ps_set (i := 1) sc_law_fold.nd rfl (Or.inl rfl) (pe_op op_mod (pe_callTy oc_int_i (by rfl) T.z_int PyProof.Rows.boot_int (pa_cons (pe_op op_add (pe_op op_add (pe_op op_mul (pv 1) pe_int) (pe_op op_mul (pe_ix (oc_ixI (K := K) rfl) (pv 0) (pv 2) (fun _ _ => rfl)) pe_int)) (pv 2)) pa_nil)) pe_int))))
      (pss_one (ps_ret (pv 1))))), ?_⟩
  walk_at "go"
  refine for_range (lo := 0) (n := (min 63 (ns.length : Int)).toNat) (fun i σ H => ∃ (t : Int) (k : Option V), σ = [some (.ref a), some (.int t), k] ∧ Sts (sqc K a (ns.map V.int) :: F) H) ⟨7, none, rfl, S⟩ ?_ ?_
  · rintro i σ H hi ⟨t, k, rfl, S⟩
    walk_at "go"
    exact ⟨_, _, rfl, S⟩
  · rintro σ H ⟨t, k, rfl, S⟩
    walk_at "go"
    exact q _ _ S
def spPurse (K : PySem.W.Frag) : Sp := fun vs H Q _ => ∃ (a : Addr) (ns : List Int) (k s : Int) (F : List Asr), vs = [.ref a, .int k, .int s] ∧ 0 ≤ k ∧ Sts (sqc K a (ns.map V.int) :: F) H ∧ ∀ p H', Sts (purse p :: sqc K a (ns.map V.int) :: F) H' → Q (.ref p) H'
theorem ok_law_purse (T : Txt K mg) : FnOk P w K mg base CX0 1 T.f_law_purse T.fd_law_purse ["script", "k", "seed"] (spPurse K) := by
  refine T.F_law_purse.ok sc_law_purse (fun vs H Q E h => by obtain ⟨a, ns, k, s, F, rfl, _⟩ := h; rfl) (fun cdv A outer s H vs Q E hr h => ?_)
  obtain ⟨a, ns, k, sd, F, rfl, hk, S, q⟩ := h
  refine ⟨_, (pss_cons (ps_set (i := 3) sc_law_purse.nd rfl (Or.inl rfl) pe_int)
      (pss_cons (ps_if (pt_cmpR op_lt (pv 1) (pe_callB (oc_min2 rfl) (by rfl) T.z_min PyProof.Rows.boot_min (pa_cons pe_int (pa_cons (pe_callB (oc_lenI (K := K) rfl) (by rfl) T.z_len PySem.boot_len (pa_cons (pv 0) pa_nil)) pa_nil))) (nomark _))
      (pss_one (ps_set (i := 3) sc_law_purse.nd rfl (Or.inl rfl) (pe_callB oc_abs (by rfl) T.z_abs PyProof.Rows.boot_abs (pa_cons (pe_ix (oc_ixI (K := K) rfl) (pv 0) (pv 1) (fun _ _ => rfl)) pa_nil))))
      pss_nil)
      (pss_cons (ps_set (i := 4) sc_law_purse.nd rfl (Or.inl rfl) (pe_op op_mod (pe_callTy oc_int_i (by rfl) T.z_int PyProof.Rows.boot_int (pa_cons (pe_op op_add (pe_op op_add (pe_op op_add (pe_op op_mul (pv 2) pe_int) (pe_op op_mul (pv 3) pe_int)) (pe_op op_mul (pv 1) pe_int)) pe_int) pa_nil)) pe_int))
      (pss_cons (ps_if (pt_cmpR op_lt (pv 3) (pe_op (oc_powc 10 18 1000000000000000000 ⟨by decide, by decide, by decide⟩ (by decide +kernel)) pe_int pe_int) (nomark _))
      (pss_one (ps_set (i := 3) sc_law_purse.nd rfl (Or.inl rfl) pe_int))
      pss_nil)
      (pss_one (ps_ret (pe_lst (pa_cons (pv 3) (pa_cons (pv 4) (pa_cons pe_int pa_nil)))))))))), ?_⟩
  walk_at "go"
  with_reducible refine ifB (fun c => ?_) (fun c => ?_)
  · have c := of_decide_eq_true c
    walk_at "go"
    with_reducible refine ifB (fun c => ?_) (fun c => ?_)
    · walk_at "go"
      exact q _ _ (purse_mk (by walk_at "fp"))
    · walk_at "go"
      exact q _ _ (purse_mk (by walk_at "fp"))
  · walk_at "go"
    with_reducible refine ifB (fun c => ?_) (fun c => ?_)
    · walk_at "go"
      exact q _ _ (purse_mk (by walk_at "fp"))
    · walk_at "go"
      exact q _ _ (purse_mk (by walk_at "fp"))
def spTake : Sp := fun vs H Q _ => ∃ (p : Addr) (m : Int) (F : List Asr), vs = [.ref p, .int m] ∧ (0 < m ∧ m < 1073741824) ∧ Sts (purse p :: F) H ∧ ∀ d H', 0 ≤ d → d < m → Sts (purse p :: F) H' → Q (.int d) H'
theorem ok_law_take (T : Txt K mg) : FnOk P w K mg base CX0 1 T.f_law_take T.fd_law_take ["purse", "many"] spTake := by
  refine T.F_law_take.ok sc_law_take (fun vs H Q E h => by obtain ⟨a, ns, F, rfl, _⟩ := h; rfl) (fun cdv A outer s H vs Q E hr h => ?_)
  obtain ⟨p, m, F, rfl, hm, S, q⟩ := h
  obtain ⟨c, s, n, S⟩ := purse_open S
  refine ⟨_, (pss_cons (ps_if (pt_cmpR op_gt (pe_ix (oc_ix (K := K) rfl) (pv 0) pe_int (fun _ _ => rfl)) pe_int (nomark _))
      (pss_cons (ps_set (i := 2) sc_law_take.nd rfl (Or.inl rfl) (pe_op op_mod (pe_callTy oc_int_i (by rfl) T.z_int PyProof.Rows.boot_int (pa_cons (pe_ix (oc_ix (K := K) rfl) (pv 0) pe_int (fun _ _ => rfl)) pa_nil)) (pv 1)))
      (pss_cons (ps_asg (pe_op op_fdiv (pe_ix (oc_ix (K := K) rfl) (pv 0) pe_int (fun _ _ => rfl)) (pv 1)) (pg_sub (pv 0) pe_int oc_setL))
      (pss_one (ps_ret (pv 2)))))
      pss_nil)
      (pss_cons (ps_asg (pe_op op_add (pe_ix (oc_ix (K := K) rfl) (pv 0) pe_int (fun _ _ => rfl)) pe_int) (pg_sub (pv 0) pe_int oc_setL))
      (pss_cons (ps_asg (pe_op op_mod (pe_callTy oc_int_i (by rfl) T.z_int PyProof.Rows.boot_int (pa_cons (pe_op op_add (pe_op op_add (pe_op op_mul (pe_ix (oc_ix (K := K) rfl) (pv 0) pe_int (fun _ _ => rfl)) pe_int) (pe_op op_mul (pe_ix (oc_ix (K := K) rfl) (pv 0) pe_int (fun _ _ => rfl)) pe_int)) pe_int) pa_nil)) pe_int) (pg_sub (pv 0) pe_int oc_setL))
      (pss_cons (ps_set (i := 3) sc_law_take.nd rfl (Or.inl rfl) (pe_op op_mod (pe_callTy oc_int_i (by rfl) T.z_int PyProof.Rows.boot_int (pa_cons (pe_op op_add (pe_op op_mul (pe_ix (oc_ix (K := K) rfl) (pv 0) pe_int (fun _ _ => rfl)) pe_int) (pe_op op_fdiv (pe_ix (oc_ix (K := K) rfl) (pv 0) pe_int (fun _ _ => rfl)) pe_int)) pa_nil)) pe_int))
      (pss_one (ps_ret (pe_op op_mod (pe_callTy oc_int_i (by rfl) T.z_int PyProof.Rows.boot_int (pa_cons (pe_op op_fdiv (pv 3) pe_int) pa_nil)) (pv 1)))))))), ?_⟩
  walk_at "go"
  with_reducible refine ifB (fun c => ?_) (fun c => ?_)
  · walk_at "go"
    exact q _ _ (Int.emod_nonneg _ (by omega)) (Int.emod_lt_of_pos _ hm.1) (purse_mk (by walk_at "fp"))
  · walk_at "go"
    exact q _ _ (Int.emod_nonneg _ (by omega)) (Int.emod_lt_of_pos _ hm.1) (purse_mk (by walk_at "fp"))
local macro_rules | `(tactic| walk_at "go1") => `(tactic| refine ⟨_, _, _, rfl, Oc.pr (by walk_at "side"), (Oc.pr (by walk_at "fr1") : Oc.Sts (K35.purse _ :: _) _), fun od oh o0 o1 os => ?_⟩)
def spList : Sp := fun vs H Q _ => ∃ (p : Addr) (F : List Asr), vs = [.ref p] ∧ Sts (purse p :: F) H ∧ ∀ a ws H', Good ws → 2 ≤ ws.length → ws.length ≤ 200 → Sts (pto a (.lst (ws.map V.int)) :: purse p :: F) H' → Q (.ref a) H'
theorem good_snoc {ws : List Int} {x : Int} (h : Good ws) (hx : x = 1 ∨ x = 2) : Good (ws ++ [x]) := fun y hy => by
  rcases List.mem_append.mp hy with hy | hy
  · exact h y hy
  · have e : y = x := by simpa using hy
    rw [e]
    exact hx
theorem good_app {ws vs : List Int} (h : Good ws) (g : Good vs) : Good (ws ++ vs) := fun y hy => (List.mem_append.mp hy).elim (h y) (g y)
theorem good_cons {ws : List Int} {x : Int} (h : Good ws) (hx : x = 1 ∨ x = 2) : Good ([x] ++ ws) := good_app (fun y hy => by
  have e : y = x := by simpa using hy
  rw [e]
  exact hx) h
theorem good_set {ws : List Int} {x : Int} {i : Nat} (h : Good ws) (hx : x = 1 ∨ x = 2) : Good (ws.set i x) := fun y hy => by
  rcases List.mem_or_eq_of_mem_set hy with q | q
  · exact h y q
  · rw [q]
    exact hx
theorem gI_good {ws : List Int} (h : Good ws) {i : Int} (h0 : 0 ≤ i) (h1 : i < ws.length) : gI ws i = 1 ∨ gI ws i = 2 := h _ (gI_mem h0 h1)
theorem good_back (ws : List Int) (h : Good ws) (h2 : 2 ≤ ws.length) : Good ((List.range (ws.length : Int).toNat).map fun (i : Nat) => gI ws ((ws.length : Int) - 1 - (0 + (i : Int)))) ∧ 2 ≤ ((List.range (ws.length : Int).toNat).map fun (i : Nat) => gI ws ((ws.length : Int) - 1 - (0 + (i : Int)))).length := by
  refine ⟨fun x hx => ?_, by rw [List.length_map, List.length_range]; omega⟩
  obtain ⟨i, hi, rfl⟩ := List.mem_map.mp hx
  have hi := List.mem_range.mp hi
  exact gI_good h (by omega) (by omega)
theorem good_other (ws : List Int) (h : Good ws) (h2 : 2 ≤ ws.length) : Good (ws.map fun x => 3 - x) ∧ 2 ≤ (ws.map fun x => 3 - x).length := by
  refine ⟨fun x hx => ?_, by rw [List.length_map]; exact h2⟩
  obtain ⟨y, hy, rfl⟩ := List.mem_map.mp hx
  have := h y hy
  omega
theorem turns_good (n : Nat) (sh pe : Int) : Good ((List.range n).map fun i => 1 + (((0 : Int) + (i : Nat)) + sh) / pe % 2) := by
  intro x hx
  obtain ⟨i, _, rfl⟩ := List.mem_map.mp hx
  omega
theorem ok_law_list (T : Txt K mg) : FnOk P w K mg base CX0 2 T.f_law_list T.fd_law_list ["purse"] spList := by
  refine T.F_law_list.ok sc_law_list (fun vs H Q E h => by obtain ⟨a, F, rfl, _⟩ := h; rfl) (fun cdv A outer s H vs Q E hr h => ?_)
  obtain ⟨p, F, rfl, S, q⟩ := h
  refine ⟨_, (pss_cons (ps_set (i := 1) sc_law_list.nd rfl (Or.inl rfl) (pe_op op_add pe_int (pe_call (ok_law_take T) (hr.mono (by decide)) (by rfl) T.g_law_take T.F_law_take.kp T.b_law_take .nil pass0 (pa_cons (pv 0) (pa_cons pe_int pa_nil)))))
      (pss_cons (ps_set (i := 2) sc_law_list.nd rfl (Or.inl rfl) (pe_call (ok_law_take T) (hr.mono (by decide)) (by rfl) T.g_law_take T.F_law_take.kp T.b_law_take .nil pass0 (pa_cons (pv 0) (pa_cons pe_int pa_nil))))
      (oc_cut (ps_if (pt_cmpR op_eq (pv 2) pe_int (nomark _))
      (pss_one (ps_set (i := 1) sc_law_list.nd rfl (Or.inl rfl) (pe_op op_add pe_int (pe_call (ok_law_take T) (hr.mono (by decide)) (by rfl) T.g_law_take T.F_law_take.kp T.b_law_take .nil pass0 (pa_cons (pv 0) (pa_cons pe_int pa_nil))))))
      pss_nil)
      (oc_cut (ps_if (PW.pt (pw_and (pt_cmpR op_eq (pv 2) pe_int (nomark _)) (pw_and1 (pt_cmpR op_eq (pe_call (ok_law_take T) (hr.mono (by decide)) (by rfl) T.g_law_take T.F_law_take.kp T.b_law_take .nil pass0 (pa_cons (pv 0) (pa_cons pe_int pa_nil))) pe_int (nomark _)))))
      (pss_cons (ps_set (i := 1) sc_law_list.nd rfl (Or.inl rfl) (pe_op op_add pe_int (pe_call (ok_law_take T) (hr.mono (by decide)) (by rfl) T.g_law_take T.F_law_take.kp T.b_law_take .nil pass0 (pa_cons (pv 0) (pa_cons pe_int pa_nil)))))
      (pss_cons (ps_set (i := 3) sc_law_list.nd rfl (Or.inr rfl) (pe_op op_add pe_int (pe_call (ok_law_take T) (hr.mono (by decide)) (by rfl) T.g_law_take T.F_law_take.kp T.b_law_take .nil pass0 (pa_cons (pv 0) (pa_cons pe_int pa_nil)))))
      (pss_cons (ps_set (i := 4) sc_law_list.nd rfl (Or.inr rfl) (pe_call (ok_law_take T) (hr.mono (by decide)) (by rfl) T.g_law_take T.F_law_take.kp T.b_law_take .nil pass0 (pa_cons (pv 0) (pa_cons pe_int pa_nil))))
      (pss_one (ps_ret (pe_lc (own := [("k", 5)]) (g := gName 5) (tt := tYes) rfl sc_law_list.nd (pi_range1 rfl T.z_range (pa_cons (pv 1) pa_nil)) (blkOk_by (own := [("k", 5)]) (N := ["purse", "many", "large", "period", "shift", "k", "weights"]) (sc := defScope s_law_list) (by decide +kernel)) (fun _ _ _ _ _ => (pg_name (i := 5) sc_law_list.nd rfl (Or.inl rfl))) (fun _ _ _ _ _ => pts_nil) (fun _ _ _ _ _ => (pe_op op_add pe_int (pe_op op_mod (pe_callTy oc_int_i (by rfl) T.z_int PyProof.Rows.boot_int (pa_cons (pe_op op_fdiv (pe_op op_add (pv 5) (pv 4)) (pv 3)) pa_nil)) pe_int)))))))))
      pss_nil)
      (pss_cons (ps_set (i := 6) sc_law_list.nd rfl (Or.inl rfl) (pe_lst pa_nil))
      (pss_cons (ps_for PassesOwn.never rfl (pi_range1 rfl T.z_range (pa_cons (pv 1) pa_nil)) (pg_name (i := 5) sc_law_list.nd rfl (Or.inl rfl))
      (pss_one (ps_expr (pe_bm PySem.F.plainAttrs_list PySem.F.slot_list_append PySem.F.type_list_append oc_appendI (pv 6) (pa_cons (pe_op op_add pe_int (pe_call (ok_law_take T) (hr.mono (by decide)) (by rfl) T.g_law_take T.F_law_take.kp T.b_law_take .nil pass0 (pa_cons (pv 0) (pa_cons pe_int pa_nil)))) pa_nil)))))
      (pss_one (ps_ret (pv 6))))))))), ?_⟩
  walk_at "go"
  rename_i m0 H0 m00 m01 S0 la H1 l0 l1 S1
  refine ⟨fun σ H => ∃ (n lv : Int) (v : Option V), σ = [some (.ref p), some (.int n), some (.int lv), none, none, none, none] ∧ 2 ≤ n ∧ n ≤ 200 ∧ Sts (purse p :: F) H, ?_, ?_⟩
  · walk_at "go"
    with_reducible refine ifB (fun c => ?_) (fun c => ?_)
    · walk_at "go"
      exact ⟨_, _, none, rfl, by omega, by omega, by walk_at "fp"⟩
    · walk_at "go"
      exact ⟨_, _, none, rfl, by omega, by omega, by walk_at "fp"⟩
  rintro σ H ⟨n, lv, _, rfl, hn, hn2, S⟩
  refine ⟨fun σ H => ∃ (n : Int) (v w x : Option V), σ = [some (.ref p), some (.int n), v, w, x, none, none] ∧ 2 ≤ n ∧ n ≤ 200 ∧ Sts (purse p :: F) H, ?_, ?_⟩
  · walk_at "go"
    with_reducible refine ifB (fun c => ?_) (fun c => ?_)
    · walk_at "go"
      with_reducible refine ifB (fun c => ?_) (fun c => ?_)
      · walk_at "go"
        rename_i u U u0 u1 Su m H2 m0 m1 S2 pe H3 p0 p1 S3 sh H4 s0 s1 S4 D H5 S5
        refine lc_pureR (fun k => .int (1 + (k + sh) / (1 + pe) % 2)) S5 (by omega) (fun _ => rfl) (fun i H Q' hi S q => ?_) (fun H S => ?_)
        · walk_at "go"
          exact q
        · refine q _ ((List.range (61 + m).toNat).map fun i => 1 + (((0 : Int) + (i : Nat)) + sh) / (1 + pe) % 2) _ (turns_good _ _ _) (by rw [List.length_map, List.length_range]; omega) (by rw [List.length_map, List.length_range]; omega) ?_
          rw [List.map_map]
          exact S
      · walk_at "go"
        exact ⟨_, _, _, _, rfl, by omega, by omega, by walk_at "fp"⟩
    · walk_at "go"
      exact ⟨_, _, _, _, rfl, by omega, by omega, by walk_at "fp"⟩
  rintro σ H ⟨n, v, w, x, rfl, hn, hn2, S⟩
  walk_at "go"
  rename_i D H2 S2
  refine for_range (lo := 0) (n := n.toNat) (fun i σ H => ∃ (ws : List Int) (k : Option V), σ = [some (.ref p), some (.int n), v, w, x, k, some (.ref D)] ∧ Good ws ∧ ws.length = i ∧ Sts (pto D (.lst (ws.map V.int)) :: purse p :: F) H) ⟨[], none, rfl, (fun _ h => nomatch h), rfl, S2⟩ ?_ ?_
  · rintro i σ H hi ⟨ws, k, rfl, hg, hl, S⟩
    walk_at "go"
    rename_i d Hd d0 d1 Sd H' S'
    exact ⟨ws ++ [1 + d], _, rfl, good_snoc hg (by omega), by rw [List.length_append, hl]; rfl, S'⟩
  · rintro σ H ⟨ws, k, rfl, hg, hl, S⟩
    walk_at "go"
    exact q _ ws _ hg (by omega) (by omega) S
def spCuts : Sp := fun vs H Q _ => ∃ (a : Addr) (ws : List Int) (F : List Asr), vs = [.ref a] ∧ (Good ws ∧ 2 ≤ ws.length) ∧ Sts (pto a (.lst (ws.map V.int)) :: F) H ∧ ∀ H', Sts (pto a (.lst (ws.map V.int)) :: F) H' → Q (.bl true) H'
local macro_rules | `(tactic| walk_at "go1") => `(tactic| (refine ⟨_, _, _, rfl, (Oc.pr (by walk_at "fr1") : Oc.Sts (Oc.pto _ (HO.lst (List.map V.int _)) :: _) _), fun oc oh or os => ?_⟩; subst or))
theorem ok_law_cuts (T : Txt K mg) : FnOk P w K mg base CX0 2 T.f_law_cuts T.fd_law_cuts ["weights"] spCuts := by
  refine T.F_law_cuts.ok sc_law_cuts (fun vs H Q E h => by obtain ⟨a, ws, F, rfl, _⟩ := h; rfl) (fun cdv A outer s H vs Q E hr h => ?_)
  obtain ⟨a, ws, F, rfl, ⟨hg, h2⟩, S, q⟩ := h
  refine ⟨_, (pss_cons (ps_set (i := 1) sc_law_cuts.nd rfl (Or.inl rfl) (pe_callTy (oc_list (K := K) rfl) (by rfl) T.z_list PyProof.Rows.boot_list (pa_cons (pv 0) pa_nil)))
      (pss_cons (ps_set (i := 2) sc_law_cuts.nd rfl (Or.inl rfl) (pe_call (ok_cut_of T) (hr.mono (by decide)) (by rfl) T.g_cut_of T.F_cut_of.kp T.b_cut_of .nil pass0 (pa_cons (pv 1) pa_nil)))
      (pss_cons (ps_if (PW.pt (pw_or (pt_not (pt_val (pe_callB oc_isi_ii (by rfl) T.z_isinstance PyProof.Rows.boot_isinstance (pa_cons (pv 2) (pa_cons (pe_bltn (v := .ty "int") (by rfl) T.z_int PyProof.Rows.boot_int rfl) pa_nil))))) (pw_or (pt_val (pe_callB oc_isi_ib (by rfl) T.z_isinstance PyProof.Rows.boot_isinstance (pa_cons (pv 2) (pa_cons (pe_bltn (v := .ty "bool") (by rfl) T.z_bool PyProof.Rows.boot_bool rfl) pa_nil)))) (pw_or1 (pt_cmpR (oc_ne_ints (K := K) rfl hr.units) (pv 1) (pv 0) (nomark _))))))
      (pss_one (ps_ret pe_bl))
      pss_nil)
      (pss_cons (ps_if (PW.pt (pw_or (pt_cmpR op_ne (pv 2) (pe_call (ok_law_due T) (hr.mono (by decide)) (by rfl) T.g_law_due T.F_law_due.kp T.b_law_due .nil pass0 (pa_cons (pv 0) pa_nil)) (nomark _)) (pw_or1 (pt_cmpR op_ne (pe_call (ok_cut_of T) (hr.mono (by decide)) (by rfl) T.g_cut_of T.F_cut_of.kp T.b_cut_of .nil pass0 (pa_cons (pv 1) pa_nil)) (pv 2) (nomark _)))))
      (pss_one (ps_ret pe_bl))
      pss_nil)
      (pss_cons (ps_if (PW.pt (pw_and (pt_cmpR op_ge (pe_callB (oc_sum (K := K) rfl rfl) (by rfl) T.z_sum PyProof.Rows.boot_sum (pa_cons (pv 0) pa_nil)) pe_int (nomark _)) (pw_and1 (PW.pt (pw_or (pt_cmpR op_lt (pe_callB (oc_sum (K := K) rfl rfl) (by rfl) T.z_sum PyProof.Rows.boot_sum (pa_cons (pe_slice (oc_slI (K := K) rfl) (pv 0) po_none (po_some (pv 2))) pa_nil)) pe_int (nomark _)) (pw_or1 (pt_cmpR op_lt (pe_callB (oc_sum (K := K) rfl rfl) (by rfl) T.z_sum PyProof.Rows.boot_sum (pa_cons (pe_slice (oc_slI (K := K) rfl) (pv 0) (po_some (pv 2)) po_none) pa_nil)) pe_int (nomark _))))))))
      (pss_one (ps_ret pe_bl))
      pss_nil)
      (pss_one (ps_ret pe_bl))))))), ?_⟩
  walk_at "go"
  with_reducible refine ifB (fun c5 => ?_) (fun c5 => ?_)
  · walk_at "go"
    rename_i e He Se
    rw [cutL_take ws (cut_nn ws)]
    have cg := cut_good ws hg h2 (of_decide_eq_true c5)
    refine ifF (decide_eq_false (by omega)) ?_
    walk_at "go"
    rw [cutL_drop ws (cut_nn ws)]
    refine ifF (decide_eq_false (by omega)) ?_
    walk_at "go"
    exact q _ (by walk_at "fp")
  · walk_at "go"
    exact q _ (by walk_at "fp")
def spLaw (K : PySem.W.Frag) : Sp := fun vs H Q _ => ∃ (a : Addr) (ns : List Int), vs = [.ref a] ∧ SqL K H a (ns.map V.int) ∧ ns.length ≤ 63 ∧ ∀ H', Q (.bl true) H'
local macro_rules | `(tactic| walk_at "go1") => `(tactic| refine ⟨_, _, _, rfl, (Oc.pr (by walk_at "fr1") : Oc.Sts (Oc.sqc _ _ _ :: _) _), fun or oh os => ?_⟩)
local macro_rules | `(tactic| walk_at "go1") => `(tactic| refine ⟨_, _, rfl, (Oc.pr (by walk_at "fr1") : Oc.Sts (K35.purse _ :: _) _), fun oa ows oh og ol om os => ?_⟩)
local macro_rules | `(tactic| walk_at "go1") => `(tactic| refine ⟨_, _, _, _, _, rfl, Oc.pr (by walk_at "side"), (Oc.pr (by walk_at "fr1") : Oc.Sts (Oc.sqc _ _ _ :: _) _), fun op oh os => ?_⟩)
theorem ok_law (T : Txt K mg) : FnOk P w K mg base CX0 3 T.f_law T.fd_law ["script"] (spLaw K) := by
  refine T.F_law.ok sc_law (fun vs H Q E h => by obtain ⟨a, ns, rfl, _⟩ := h; rfl) (fun cdv A outer s H vs Q E hr h => ?_)
  obtain ⟨a, ns, rfl, hS, hlen, q⟩ := h
  have S := sts_script hS
  refine ⟨_, (pss_cons (ps_set (i := 1) sc_law.nd rfl (Or.inl rfl) (pe_call (ok_law_fold T) (hr.mono (by decide)) (by rfl) T.g_law_fold T.F_law_fold.kp T.b_law_fold .nil pass0 (pa_cons (pv 0) pa_nil)))
      (pss_cons (ps_set (i := 2) sc_law.nd rfl (Or.inr rfl) (pe_call (ok_law_list T) (hr.mono (by decide)) (by rfl) T.g_law_list T.F_law_list.kp T.b_law_list .nil pass0 (pa_cons (pe_call (ok_law_purse T) (hr.mono (by decide)) (by rfl) T.g_law_purse T.F_law_purse.kp T.b_law_purse .nil pass0 (pa_cons (pv 0) (pa_cons pe_int (pa_cons (pv 1) pa_nil)))) pa_nil)))
      (pss_cons (ps_set (i := 3) sc_law.nd rfl (Or.inr rfl) (pe_callB (oc_lenI (K := K) rfl) (by rfl) T.z_len PySem.boot_len (pa_cons (pv 2) pa_nil)))
      (pss_cons (ps_set (i := 4) sc_law.nd rfl (Or.inl rfl) (pe_call (ok_law_purse T) (hr.mono (by decide)) (by rfl) T.g_law_purse T.F_law_purse.kp T.b_law_purse .nil pass0 (pa_cons (pv 0) (pa_cons pe_int (pa_cons (pv 1) pa_nil)))))
      (pss_cons (ps_set (i := 5) sc_law.nd rfl (Or.inl rfl) (pe_call (ok_law_take T) (hr.mono (by decide)) (by rfl) T.g_law_take T.F_law_take.kp T.b_law_take .nil pass0 (pa_cons (pv 4) (pa_cons (pv 3) pa_nil))))
      (pss_cons (ps_set (i := 6) sc_law.nd rfl (Or.inl rfl) (pe_callTy (oc_list (K := K) rfl) (by rfl) T.z_list PyProof.Rows.boot_list (pa_cons (pv 2) pa_nil)))
      (pss_cons (ps_asg (pe_op op_sub pe_int (pe_ix (oc_ixI (K := K) rfl) (pv 6) (pv 5) (fun _ _ => rfl))) (pg_sub (pv 6) (pv 5) oc_setI))
      (pss_cons (ps_set (i := 7) sc_law.nd rfl (Or.inl rfl) (pe_lst (pa_cons (pv 2) (pa_cons (pv 6) pa_nil))))
      (pss_cons (ps_expr (pe_bm PySem.F.plainAttrs_list PySem.F.slot_list_append PySem.F.type_list_append oc_append (pv 7) (pa_cons (pe_lc (own := [("k", 9)]) (g := gName 9) (tt := tYes) rfl sc_law.nd (pi_range1 rfl T.z_range (pa_cons (pv 3) pa_nil)) (blkOk_by (own := [("k", 9)]) (N := ["script", "seed", "weights", "many", "purse", "at", "other", "lists", "one", "k", "weight"]) (sc := defScope s_law) (by decide +kernel)) (fun _ _ _ _ _ => (pg_name (i := 9) sc_law.nd rfl (Or.inl rfl))) (fun _ _ _ _ _ => pts_nil) (fun _ _ _ _ _ => (pe_ix (oc_ixI (K := K) rfl) (pv 2) (pe_op op_sub (pe_op op_sub (pv 3) pe_int) (pv 9)) (fun _ _ => rfl)))) pa_nil)))
      (pss_cons (ps_expr (pe_bm PySem.F.plainAttrs_list PySem.F.slot_list_append PySem.F.type_list_append oc_append (pv 7) (pa_cons (pe_lc (own := [("weight", 10)]) (g := gName 10) (tt := tYes) rfl sc_law.nd (pi_list (pv 2)) (blkOk_by (own := [("weight", 10)]) (N := ["script", "seed", "weights", "many", "purse", "at", "other", "lists", "one", "k", "weight"]) (sc := defScope s_law) (by decide +kernel)) (fun _ _ _ _ _ => (pg_name (i := 10) sc_law.nd rfl (Or.inl rfl))) (fun _ _ _ _ _ => pts_nil) (fun _ _ _ _ _ => (pe_op op_sub pe_int (pv 10)))) pa_nil)))
      (pss_cons (ps_expr (pe_bm PySem.F.plainAttrs_list PySem.F.slot_list_append PySem.F.type_list_append oc_append (pv 7) (pa_cons (pe_op oc_catI (pv 2) (pe_lst (pa_cons (pe_op op_add pe_int (pe_call (ok_law_take T) (hr.mono (by decide)) (by rfl) T.g_law_take T.F_law_take.kp T.b_law_take .nil pass0 (pa_cons (pv 4) (pa_cons pe_int pa_nil)))) pa_nil))) pa_nil)))
      (pss_cons (ps_expr (pe_bm PySem.F.plainAttrs_list PySem.F.slot_list_append PySem.F.type_list_append oc_append (pv 7) (pa_cons (pe_op oc_catI (pe_lst (pa_cons (pe_op op_add pe_int (pe_call (ok_law_take T) (hr.mono (by decide)) (by rfl) T.g_law_take T.F_law_take.kp T.b_law_take .nil pass0 (pa_cons (pv 4) (pa_cons pe_int pa_nil)))) pa_nil)) (pv 2)) pa_nil)))
      (pss_cons (ps_expr (pe_bm PySem.F.plainAttrs_list PySem.F.slot_list_append PySem.F.type_list_append oc_append (pv 7) (pa_cons (pe_slice (oc_slI (K := K) rfl) (pv 2) po_none (po_some pe_int)) pa_nil)))
      (pss_cons (ps_expr (pe_bm PySem.F.plainAttrs_list PySem.F.slot_list_append PySem.F.type_list_append oc_append (pv 7) (pa_cons (pe_slice (oc_slI (K := K) rfl) (pe_op oc_catI (pv 2) (pv 2)) po_none (po_some pe_int)) pa_nil)))
      (pss_cons (ps_for PassesOwn.never rfl (pi_list (pv 7)) (pg_name (i := 8) sc_law.nd rfl (Or.inl rfl))
      (pss_one (ps_if (pt_not (pt_val (pe_call (ok_law_cuts T) (hr.mono (by decide)) (by rfl) T.g_law_cuts T.F_law_cuts.kp T.b_law_cuts .nil pass0 (pa_cons (pv 8) pa_nil))))
      (pss_one (ps_ret pe_bl))
      pss_nil)))
      (pss_one (ps_ret pe_bl))))))))))))))))), ?_⟩
  walk_at "go"
  rename_i sd H1 S1 p0 H2 S2 wa ws H3 hg h2 h200 S3 p1 H4 S4 at_ H5 a0 a1 S5 ob H6 S6 H7 S7 lb H8 S8 D1 H9 S9
  refine lc_RI (fun k => gI ws ((ws.length : Int) - 1 - k)) S9 (by omega) (fun _ => rfl) (fun i H Q' hi S q => ?_) (fun H10 S10 => ?_)
  · walk_at "go"
    exact q
  walk_at "go"
  rename_i H11 S11 D2 H12 S12
  refine lc_II ws (fun x => 3 - x) S12 (fun H S => by walk_at "sq") (by omega) (fun _ => rfl) (fun x H Q' hx S q => ?_) (fun H13 S13 => ?_)
  · walk_at "go"
    exact q
  walk_at "go"
  rename_i _ _ d1 _ c0 c1 _ q1 _ _ q2 _ _ _ _ d2 _ e0 e1 _ q3 _ _ q4 _ _ _ _ q5 _ _ _ _ q6 _ _ q7 _ _ Hf Sf
  rw [cutL_take _ (by decide), cutL_take _ (by decide)] at Sf
  obtain ⟨L, SL, Sl, pick⟩ : ∃ L : List Asr, Sts L Hf ∧ (∀ H, Sts L H → SqL K H lb [.ref wa, .ref ob, .ref D1, .ref D2, .ref q2, .ref q4, .ref q5, .ref q7]) ∧
      ∀ (i : Nat) x, ([.ref wa, .ref ob, .ref D1, .ref D2, .ref q2, .ref q4, .ref q5, .ref q7] : List V)[i]? = some x → ∃ b vs M, x = .ref b ∧ (Good vs ∧ 2 ≤ vs.length) ∧
        (∀ H, Sts L H → Sts (pto b (.lst (vs.map V.int)) :: M) H) ∧ (∀ H, Sts (pto b (.lst (vs.map V.int)) :: M) H → Sts L H) := by
    refine ⟨_, Sf, fun H S => by walk_at "sq", fun i x h => ?_⟩
    match i, h with
    | 0, h => cases h; exact ⟨_, ws, _, rfl, ⟨hg, h2⟩, fun H S => by walk_at "fr1", fun H S => by walk_at "fp"⟩
    | 1, h => cases h; exact ⟨_, ws.set at_.toNat (3 - gI ws at_), _, rfl, ⟨good_set hg (by have := gI_good hg a0 a1; omega), by rw [List.length_set]; exact h2⟩, fun H S => by walk_at "fr1", fun H S => by walk_at "fp"⟩
    | 2, h => cases h; exact ⟨_, _, _, rfl, good_back ws hg h2, fun H S => by walk_at "fr1", fun H S => by walk_at "fp"⟩
    | 3, h => cases h; exact ⟨_, _, _, rfl, good_other ws hg h2, fun H S => by walk_at "fr1", fun H S => by walk_at "fp"⟩
    | 4, h => cases h; exact ⟨_, ws ++ [1 + d1], _, rfl, ⟨good_snoc hg (by omega), by rw [List.length_append]; omega⟩, fun H S => by walk_at "fr1", fun H S => by walk_at "fp"⟩
    | 5, h => cases h; exact ⟨_, [1 + d2] ++ ws, _, rfl, ⟨good_cons hg (by omega), by rw [List.length_append]; omega⟩, fun H S => by walk_at "fr1", fun H S => by walk_at "fp"⟩
    | 6, h => cases h; exact ⟨_, ws.take (2 : Int).toNat, _, rfl, ⟨hg.take _, by rw [List.length_take]; omega⟩, fun H S => by walk_at "fr1", fun H S => by walk_at "fp"⟩
    | 7, h => cases h; exact ⟨_, (ws ++ ws).take (3 : Int).toNat, _, rfl, ⟨(good_app hg hg).take _, by rw [List.length_take, List.length_append]; omega⟩, fun H S => by walk_at "fr1", fun H S => by walk_at "fp"⟩
  refine for_list (K := K) (a := lb) (xs := [.ref wa, .ref ob, .ref D1, .ref D2, .ref q2, .ref q4, .ref q5, .ref q7]) (fun i σ H => ∃ o, σ = [some (.ref a), some (.int sd), some (.ref wa), some (.int ws.length), some (.ref p1), some (.int at_), some (.ref ob), some (.ref lb), o, none, none] ∧ Sts L H)
    ⟨none, rfl, SL⟩ (fun i σ H _ ⟨_, _, S⟩ => Sl H S) ?_ ?_
  · rintro i x σ H hx ⟨o, rfl, S⟩
    obtain ⟨b, vs, M, rfl, hv, o1, o2⟩ := pick i x hx
    walk_at "go"
    refine ⟨_, vs, _, rfl, hv, o1 _ S, fun H' S' => ?_⟩
    walk_at "go"
    exact o2 _ S'
  · rintro σ H ⟨o, rfl, S⟩
    walk_at "go"
    exact q _
end
/-! ### what the top has written; the law's own head -/
theorem all_mk {l : PySem.W.OpenLaw} {w : World} {K : PySem.W.Frag} {h : Heap} {mg : Str → Option Value} {fa : Addr} (X : K.In h) (G : h.Ns mainGlobals mg) (hfa : mg "law" = some (.ref fa))
    {f0 : Addr} {od0 an0 : Option Addr} {sl0 : Array (Option Value)} {oc0 kV0 dc0 pm0 cd0 ct0 : Value}
    {f1 : Addr} {od1 an1 : Option Addr} {sl1 : Array (Option Value)} {oc1 kV1 dc1 pm1 cd1 ct1 : Value}
    {f2 : Addr} {od2 an2 : Option Addr} {sl2 : Array (Option Value)} {oc2 kV2 dc2 pm2 cd2 ct2 : Value}
    {f3 : Addr} {od3 an3 : Option Addr} {sl3 : Array (Option Value)} {oc3 kV3 dc3 pm3 cd3 ct3 : Value}
    {f4 : Addr} {od4 an4 : Option Addr} {sl4 : Array (Option Value)} {oc4 kV4 dc4 pm4 cd4 ct4 : Value}
    {f5 : Addr} {od5 an5 : Option Addr} {sl5 : Array (Option Value)} {oc5 kV5 dc5 pm5 cd5 ct5 : Value}
    {f6 : Addr} {od6 an6 : Option Addr} {sl6 : Array (Option Value)} {oc6 kV6 dc6 pm6 cd6 ct6 : Value}
    {f7 : Addr} {od7 an7 : Option Addr} {sl7 : Array (Option Value)} {oc7 kV7 dc7 pm7 cd7 ct7 : Value}
    (a0 : PySem.W.nsIn K mainGlobals "cut_of" = some (some (.ref f0)))
    (l0 : K.lookup f0 = some ⟨oc0, od0, .func (PySem.W.fnOf "cut_of" "cut_of" (defArgs s_cut_of) (defBody s_cut_of) (defScope s_cut_of) .none kV0 dc0 pm0 an0 cd0 ct0), sl0⟩) (c0 : PySem.W.codeIn K cd0 "cut_of" = true) (k0 : PySem.W.keepIn K (.ref f0) = true)
    (a1 : PySem.W.nsIn K mainGlobals "_law_fold" = some (some (.ref f1)))
    (l1 : K.lookup f1 = some ⟨oc1, od1, .func (PySem.W.fnOf "_law_fold" "_law_fold" (defArgs s_law_fold) (defBody s_law_fold) (defScope s_law_fold) .none kV1 dc1 pm1 an1 cd1 ct1), sl1⟩) (c1 : PySem.W.codeIn K cd1 "_law_fold" = true) (k1 : PySem.W.keepIn K (.ref f1) = true)
    (a2 : PySem.W.nsIn K mainGlobals "_law_purse" = some (some (.ref f2)))
    (l2 : K.lookup f2 = some ⟨oc2, od2, .func (PySem.W.fnOf "_law_purse" "_law_purse" (defArgs s_law_purse) (defBody s_law_purse) (defScope s_law_purse) .none kV2 dc2 pm2 an2 cd2 ct2), sl2⟩) (c2 : PySem.W.codeIn K cd2 "_law_purse" = true) (k2 : PySem.W.keepIn K (.ref f2) = true)
    (a3 : PySem.W.nsIn K mainGlobals "_law_take" = some (some (.ref f3)))
    (l3 : K.lookup f3 = some ⟨oc3, od3, .func (PySem.W.fnOf "_law_take" "_law_take" (defArgs s_law_take) (defBody s_law_take) (defScope s_law_take) .none kV3 dc3 pm3 an3 cd3 ct3), sl3⟩) (c3 : PySem.W.codeIn K cd3 "_law_take" = true) (k3 : PySem.W.keepIn K (.ref f3) = true)
    (a4 : PySem.W.nsIn K mainGlobals "_law_list" = some (some (.ref f4)))
    (l4 : K.lookup f4 = some ⟨oc4, od4, .func (PySem.W.fnOf "_law_list" "_law_list" (defArgs s_law_list) (defBody s_law_list) (defScope s_law_list) .none kV4 dc4 pm4 an4 cd4 ct4), sl4⟩) (c4 : PySem.W.codeIn K cd4 "_law_list" = true) (k4 : PySem.W.keepIn K (.ref f4) = true)
    (a5 : PySem.W.nsIn K mainGlobals "_law_due" = some (some (.ref f5)))
    (l5 : K.lookup f5 = some ⟨oc5, od5, .func (PySem.W.fnOf "_law_due" "_law_due" (defArgs s_law_due) (defBody s_law_due) (defScope s_law_due) .none kV5 dc5 pm5 an5 cd5 ct5), sl5⟩) (c5 : PySem.W.codeIn K cd5 "_law_due" = true) (k5 : PySem.W.keepIn K (.ref f5) = true)
    (a6 : PySem.W.nsIn K mainGlobals "_law_cuts" = some (some (.ref f6)))
    (l6 : K.lookup f6 = some ⟨oc6, od6, .func (PySem.W.fnOf "_law_cuts" "_law_cuts" (defArgs s_law_cuts) (defBody s_law_cuts) (defScope s_law_cuts) .none kV6 dc6 pm6 an6 cd6 ct6), sl6⟩) (c6 : PySem.W.codeIn K cd6 "_law_cuts" = true) (k6 : PySem.W.keepIn K (.ref f6) = true)
    (a7 : PySem.W.nsIn K mainGlobals "law" = some (some (.ref f7)))
    (l7 : K.lookup f7 = some ⟨oc7, od7, .func (PySem.W.fnOf "law" "law" (defArgs s_law) (defBody s_law) (defScope s_law) .none kV7 dc7 pm7 an7 cd7 ct7), sl7⟩) (c7 : PySem.W.codeIn K cd7 "law" = true) (k7 : PySem.W.keepIn K (.ref f7) = true)
    (z_abs : PySem.W.nsIn K mainGlobals "abs" = some none)
    (z_bool : PySem.W.nsIn K mainGlobals "bool" = some none)
    (z_int : PySem.W.nsIn K mainGlobals "int" = some none)
    (z_isinstance : PySem.W.nsIn K mainGlobals "isinstance" = some none)
    (z_len : PySem.W.nsIn K mainGlobals "len" = some none)
    (z_list : PySem.W.nsIn K mainGlobals "list" = some none)
    (z_min : PySem.W.nsIn K mainGlobals "min" = some none)
    (z_range : PySem.W.nsIn K mainGlobals "range" = some none)
    (z_sum : PySem.W.nsIn K mainGlobals "sum" = some none) :
    ∃ fd : FuncData, (∀ (s : Shared) (v : Value), BindsTo s fd ⟨[v], []⟩ [("script", v)]) ∧ ∀ base : Heap, K.In base → base.Ns mainGlobals mg → FnOk l.prog w K mg base CX0 3 fa fd ["script"] (spLaw K) := by
  have e := hfa.symm.trans (PySem.W.mg_of X G a7)
  cases e
  let T : Txt K mg := { f_cut_of := f0, fd_cut_of := _, F_cut_of := fun_mk (st := s_cut_of) l0 c0 k0, g_cut_of := PySem.W.mg_of X G a0, b_cut_of := (fun_mk (st := s_cut_of) l0 c0 k0).binds (ps := ["weights"]) (fun _ _ _ _ _ _ us hl => match us, hl with | [_], _ => rfl), f_law_fold := f1, fd_law_fold := _, F_law_fold := fun_mk (st := s_law_fold) l1 c1 k1, g_law_fold := PySem.W.mg_of X G a1, b_law_fold := (fun_mk (st := s_law_fold) l1 c1 k1).binds (ps := ["script"]) (fun _ _ _ _ _ _ us hl => match us, hl with | [_], _ => rfl), f_law_purse := f2, fd_law_purse := _, F_law_purse := fun_mk (st := s_law_purse) l2 c2 k2, g_law_purse := PySem.W.mg_of X G a2, b_law_purse := (fun_mk (st := s_law_purse) l2 c2 k2).binds (ps := ["script", "k", "seed"]) (fun _ _ _ _ _ _ us hl => match us, hl with | [_, _, _], _ => rfl), f_law_take := f3, fd_law_take := _, F_law_take := fun_mk (st := s_law_take) l3 c3 k3, g_law_take := PySem.W.mg_of X G a3, b_law_take := (fun_mk (st := s_law_take) l3 c3 k3).binds (ps := ["purse", "many"]) (fun _ _ _ _ _ _ us hl => match us, hl with | [_, _], _ => rfl), f_law_list := f4, fd_law_list := _, F_law_list := fun_mk (st := s_law_list) l4 c4 k4, g_law_list := PySem.W.mg_of X G a4, b_law_list := (fun_mk (st := s_law_list) l4 c4 k4).binds (ps := ["purse"]) (fun _ _ _ _ _ _ us hl => match us, hl with | [_], _ => rfl), f_law_due := f5, fd_law_due := _, F_law_due := fun_mk (st := s_law_due) l5 c5 k5, g_law_due := PySem.W.mg_of X G a5, b_law_due := (fun_mk (st := s_law_due) l5 c5 k5).binds (ps := ["weights"]) (fun _ _ _ _ _ _ us hl => match us, hl with | [_], _ => rfl), f_law_cuts := f6, fd_law_cuts := _, F_law_cuts := fun_mk (st := s_law_cuts) l6 c6 k6, g_law_cuts := PySem.W.mg_of X G a6, b_law_cuts := (fun_mk (st := s_law_cuts) l6 c6 k6).binds (ps := ["weights"]) (fun _ _ _ _ _ _ us hl => match us, hl with | [_], _ => rfl), f_law := _, fd_law := _, F_law := fun_mk (st := s_law) l7 c7 k7, g_law := PySem.W.mg_of X G a7, b_law := (fun_mk (st := s_law) l7 c7 k7).binds (ps := ["script"]) (fun _ _ _ _ _ _ us hl => match us, hl with | [_], _ => rfl), z_abs := PySem.W.mg_none_of X G z_abs, z_bool := PySem.W.mg_none_of X G z_bool, z_int := PySem.W.mg_none_of X G z_int, z_isinstance := PySem.W.mg_none_of X G z_isinstance, z_len := PySem.W.mg_none_of X G z_len, z_list := PySem.W.mg_none_of X G z_list, z_min := PySem.W.mg_none_of X G z_min, z_range := PySem.W.mg_none_of X G z_range, z_sum := PySem.W.mg_none_of X G z_sum }
  exact ⟨T.fd_law, fun s v => .of_eq rfl, fun base _ _ => ok_law T⟩
end K35
open PySem PySem.W PyProof.Rows
set_option maxRecDepth 100000 in
set_option maxHeartbeats 0 in
theorem PySem.Challenge.cw_onecopy_k35_cut_holds : PySem.Challenge.rw_onecopy_k35_cut.Holds := by
  w_on; o_law; k_head; (case hw => w_witness2)
  k_fill
  refine L2.walk_of (l := PySem.Challenge.rw_onecopy_k35_cut) (n := 63) (k := 3) (x := "script") (CX := fun _ => L2.CX0) (sp := fun w => K35.spLaw _) rfl (by decide) rfl ⟨rfl, by decide, by decide⟩ (fun w h Y => PySem.W.kIn_of Y) ?F (fun _ _ a ns hl _ hS => ⟨a, ns, rfl, hS, hl, fun _ => rfl⟩) (fun _ _ _ _ _ h => h)
  case F =>
    intro w mg fa h KX G hmg
    refine' K35.all_mk KX G hmg ?a0 ?l0 ?c0 ?k0 ?a1 ?l1 ?c1 ?k1 ?a2 ?l2 ?c2 ?k2 ?a3 ?l3 ?c3 ?k3 ?a4 ?l4 ?c4 ?k4 ?a5 ?l5 ?c5 ?k5 ?a6 ?l6 ?c6 ?k6 ?a7 ?l7 ?c7 ?k7 ?z_abs ?z_bool ?z_int ?z_isinstance ?z_len ?z_list ?z_min ?z_range ?z_sum
    (case a0 => k_is); (case l0 => k_is); (case c0 => k_is); (case k0 => k_is); (case a1 => k_is); (case l1 => k_is); (case c1 => k_is); (case k1 => k_is); (case a2 => k_is); (case l2 => k_is); (case c2 => k_is); (case k2 => k_is); (case a3 => k_is); (case l3 => k_is); (case c3 => k_is); (case k3 => k_is); (case a4 => k_is); (case l4 => k_is); (case c4 => k_is); (case k4 => k_is); (case a5 => k_is); (case l5 => k_is); (case c5 => k_is); (case k5 => k_is); (case a6 => k_is); (case l6 => k_is); (case c6 => k_is); (case k6 => k_is); (case a7 => k_is); (case l7 => k_is); (case c7 => k_is); (case k7 => k_is); (case z_abs => k_is); (case z_bool => k_is); (case z_int => k_is); (case z_isinstance => k_is); (case z_len => k_is); (case z_list => k_is); (case z_min => k_is); (case z_range => k_is); (case z_sum => k_is)