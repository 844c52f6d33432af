import PyProof.Rows.All
import Wide.All
import OpenK.AllK
import Wide.FinOn
import HandS.ForMost
import HandS.IsInst
import HandS.Style
import HandS.Sort
import HandS.RevRange
import PySem.Challenge.RW_onecopy_k27_whole_attack
set_option Elab.async false
set_option linter.all false
set_option maxRecDepth 100000
/-! A small separation logic over the abstract heap: a list of chunks that stand apart. -/
namespace Oc
open PySem L2

/-- what a part of the heap holds -/
abbrev Asr := Hp → Prop
def Subh (h H : Hp) : Prop := ∀ a o, h a = some o → H a = some o
def cutH (H h : Hp) : Hp := fun a => match h a with | some _ => none | none => H a
def one (a : Addr) (o : HO) : Hp := fun b => if b = a then some o else none
def pto (a : Addr) (o : HO) : Asr := fun h => h = one a o
def Sts : List Asr → Hp → Prop
  | [], _ => True
  | A :: L, H => ∃ h, Subh h H ∧ A h ∧ Sts L (cutH H h)

theorem Subh.refl (h : Hp) : Subh h h := fun _ _ e => e
theorem Subh.trans {h k l : Hp} (a : Subh h k) (b : Subh k l) : Subh h l := fun x o e => b x o (a x o e)
theorem cutH_some {H h : Hp} {a : Addr} {o : HO} : cutH H h a = some o ↔ h a = none ∧ H a = some o := by
  unfold cutH
  cases h a with
  | none => exact ⟨fun e => ⟨rfl, e⟩, fun e => e.2⟩
  | some u => exact ⟨(fun e => nomatch e), (fun e => nomatch e.1)⟩
theorem cutH_sub (H h : Hp) : Subh (cutH H h) H := fun _ _ e => (cutH_some.mp e).2
theorem cutH_mono {H K : Hp} (h : Hp) (s : Subh H K) : Subh (cutH H h) (cutH K h) := fun _ _ e =>
  have q := cutH_some.mp e
  cutH_some.mpr ⟨q.1, s _ _ q.2⟩
theorem Sts.mono : ∀ {L : List Asr} {H K : Hp}, Sts L H → Subh H K → Sts L K
  | [], _, _, _, _ => trivial
  | _ :: _, _, _, ⟨h, s, a, t⟩, q => ⟨h, s.trans q, a, t.mono (cutH_mono h q)⟩
theorem cut_swap {H h k : Hp} (s : Subh k (cutH H h)) : Subh h (cutH H k) ↔ Subh h H := by
  constructor
  · exact fun q => q.trans (cutH_sub _ _)
  · intro q a o e
    refine cutH_some.mpr ⟨?_, q _ _ e⟩
    cases r : k a with
    | none => rfl
    | some u =>
      have z := (cutH_some.mp (s _ _ r)).1
      rw [e] at z
      cases z
theorem cut_comm (H h k : Hp) : cutH (cutH H h) k = cutH (cutH H k) h := by
  funext a
  unfold cutH
  cases h a <;> cases k a <;> rfl
theorem Sts.swap {A B : Asr} {L : List Asr} {H : Hp} (S : Sts (A :: B :: L) H) : Sts (B :: A :: L) H := by
  obtain ⟨h, s, a, k, t, b, S⟩ := S
  exact ⟨k, t.trans (cutH_sub _ _), b, h, (cut_swap t).mpr s, a, by rw [cut_comm]; exact S⟩
theorem Sts.under {A : Asr} {L M : List Asr} {H : Hp} (f : ∀ K, Sts L K → Sts M K) (S : Sts (A :: L) H) : Sts (A :: M) H := by
  obtain ⟨h, s, a, S⟩ := S
  exact ⟨h, s, a, f _ S⟩
theorem Sts.perm {L M : List Asr} (p : L.Perm M) : ∀ {H : Hp}, Sts L H → Sts M H := by
  induction p with
  | nil => exact fun S => S
  | cons x _ ih => exact fun S => S.under fun _ => ih
  | swap x y l => exact fun S => S.swap
  | trans _ _ ih1 ih2 => exact fun S => ih2 (ih1 S)
theorem Sts.tail {A : Asr} {L : List Asr} {H : Hp} (S : Sts (A :: L) H) : Sts L H := by
  obtain ⟨h, s, a, S⟩ := S
  exact S.mono (cutH_sub _ _)
theorem Sts.imp {A B : Asr} {L : List Asr} {H : Hp} (S : Sts (A :: L) H) (f : ∀ h, A h → B h) : Sts (B :: L) H := by
  obtain ⟨h, s, a, S⟩ := S
  exact ⟨h, s, f h a, S⟩
theorem Sts.app_right : ∀ {L M : List Asr} {H : Hp}, Sts (L ++ M) H → Sts M H
  | [], _, _, S => S
  | _ :: L, _, _, S => Sts.app_right (L := L) S.tail
theorem Sts.app_left : ∀ {L M : List Asr} {H : Hp}, Sts (L ++ M) H → Sts L H
  | [], _, _, _ => trivial
  | _ :: L, _, _, S => S.under fun _ T => Sts.app_left T

/-- several chunks as one -/
def star (L : List Asr) : Asr := fun h => Sts L h
theorem Sts.join : ∀ {L M : List Asr} {h H : Hp}, Sts L h → Subh h H → Sts M (cutH H h) → Sts (L ++ M) H
  | [], _, _, _, _, _, T => T.mono (cutH_sub _ _)
  | _ :: L, M, h, H, ⟨k, s, a, S⟩, q, T => by
    refine ⟨k, s.trans q, a, Sts.join (h := cutH h k) S (cutH_mono k q) ?_⟩
    have e : cutH (cutH H k) (cutH h k) = cutH H h := by
      funext x
      unfold cutH
      cases r : k x with
      | none => cases h x <;> rfl
      | some u => rw [s _ _ r]
    rw [e]
    exact T
theorem Sts.open_star {L M : List Asr} {H : Hp} (S : Sts (star L :: M) H) : Sts (L ++ M) H := by
  obtain ⟨h, s, a, S⟩ := S
  exact Sts.join a s S
theorem cut_cut_sub (H h : Hp) : ∀ k, Subh k (cutH H h) → cutH H h = cutH H h := fun _ _ => rfl
theorem Sts.close_star : ∀ {L M : List Asr} {H : Hp}, Sts (L ++ M) H → Sts (star L :: M) H
  | [], M, H, S => ⟨fun _ => none, (fun _ _ e => nomatch e), trivial, S.mono fun a o e => cutH_some.mpr ⟨rfl, e⟩⟩
  | A :: L, M, H, ⟨k, s, a, S⟩ => by
    obtain ⟨h, t, b, S⟩ := Sts.close_star (L := L) S
    let g : Hp := fun x => match k x with | some o => some o | none => h x
    have e1 : cutH H g = cutH (cutH H k) h := by
      funext x
      show (match (match k x with | some o => some o | none => h x) with | some _ => none | none => H x) = (match h x with | some _ => none | none => (match k x with | some _ => none | none => H x))
      cases k x <;> cases h x <;> rfl
    refine ⟨g, fun x o e => ?_, ⟨k, fun x o e => ?_, a, ?_⟩, by rw [e1]; exact S⟩
    · have e' : (match k x with | some o => some o | none => h x) = some o := e
      cases r : k x with
      | none =>
        rw [r] at e'
        exact cutH_sub _ _ _ _ (t _ _ e')
      | some u =>
        rw [r] at e'
        rw [← e']
        exact s _ _ r
    · show (match k x with | some o => some o | none => h x) = some o
      rw [e]
    · have e2 : cutH g k = h := by
        funext x
        show (match k x with | some _ => none | none => (match k x with | some o => some o | none => h x)) = h x
        cases r : k x with
        | none => rfl
        | some u =>
          cases q : h x with
          | none => rfl
          | some v =>
            have z := (cutH_some.mp (t _ _ q)).1
            rw [r] at z
            cases z
      rw [e2]
      exact b
theorem Sts.ex {α : Type} {f : α → Asr} {L : List Asr} {H : Hp} (S : Sts ((fun h => ∃ x, f x h) :: L) H) : ∃ x, Sts (f x :: L) H := by
  obtain ⟨h, s, ⟨x, a⟩, S⟩ := S
  exact ⟨x, h, s, a, S⟩
theorem Sts.pur {P : Prop} {A : Asr} {L : List Asr} {H : Hp} (S : Sts ((fun h => P ∧ A h) :: L) H) : P ∧ Sts (A :: L) H := by
  obtain ⟨h, s, ⟨p, a⟩, S⟩ := S
  exact ⟨p, h, s, a, S⟩

/-! ### one object -/
theorem one_self (a : Addr) (o : HO) : one a o a = some o := by
  unfold one
  rw [if_pos rfl]
theorem one_iff {a b : Addr} {o u : HO} : one a o b = some u ↔ b = a ∧ o = u := by
  unfold one
  by_cases e : b = a
  · rw [if_pos e]
    exact ⟨fun q => ⟨e, Option.some.inj q⟩, fun q => by rw [q.2]⟩
  · rw [if_neg e]
    exact ⟨(fun q => nomatch q), (fun q => absurd q.1 e)⟩
theorem Sts.hd {a : Addr} {o : HO} {L : List Asr} {H : Hp} (S : Sts (pto a o :: L) H) : H a = some o := by
  obtain ⟨h, s, rfl, _⟩ := S
  exact s _ _ (one_self a o)
theorem Sts.new {L : List Asr} {H : Hp} (S : Sts L H) {p : Addr} (o : HO) (np : H p = none) : Sts (pto p o :: L) (upd H p o) := by
  refine ⟨one p o, fun a u e => ?_, rfl, S.mono fun a u e => cutH_some.mpr ⟨?_, ?_⟩⟩
  · obtain ⟨rfl, rfl⟩ := one_iff.mp e
    exact upd_same
  · have ne : a ≠ p := ne_of_none e np
    unfold one
    rw [if_neg ne]
  · rw [upd_ne (ne_of_none e np)]
    exact e
theorem Sts.put {a : Addr} {o : HO} {L : List Asr} {H : Hp} (S : Sts (pto a o :: L) H) (u : HO) : Sts (pto a u :: L) (upd H a u) := by
  obtain ⟨h, s, rfl, S⟩ := S
  refine ⟨one a u, fun b v e => ?_, rfl, S.mono fun b v e => ?_⟩
  · obtain ⟨rfl, rfl⟩ := one_iff.mp e
    exact upd_same
  · obtain ⟨e1, e2⟩ := cutH_some.mp e
    have ne : b ≠ a := fun z => by
      rw [z, one_self] at e1
      cases e1
    refine cutH_some.mpr ⟨?_, ?_⟩
    · unfold one
      rw [if_neg ne]
    · rw [upd_ne ne]
      exact e2
theorem Sts.apart {a b : Addr} {o u : HO} {L : List Asr} {H : Hp} (S : Sts (pto a o :: pto b u :: L) H) : a ≠ b := by
  obtain ⟨h, s, rfl, k, t, rfl, S⟩ := S
  intro e
  have z := (cutH_some.mp (t _ _ (one_self b u))).1
  rw [← e, one_self] at z
  cases z
theorem Sts.none_ne {a p : Addr} {o : HO} {L : List Asr} {H : Hp} (S : Sts (pto a o :: L) H) (np : H p = none) : a ≠ p := ne_of_none S.hd np

/-! ### a chunk to the front -/
section
variable {A0 A1 A2 A3 A4 A5 A6 A7 A8 A9 A10 A11 A12 A13 A14 A15 A16 A17 A18 A19 A20 A21 A22 A23 A24 : Asr} {L : List Asr} {H : Hp}
theorem Sts.to0 (S : Sts (A0 :: L) H) : Sts (A0 :: L) H := S
theorem Sts.to1 (S : Sts (A0 :: A1 :: L) H) : Sts (A1 :: A0 :: L) H := S.swap
theorem Sts.to2 (S : Sts (A0 :: A1 :: A2 :: L) H) : Sts (A2 :: A0 :: A1 :: L) H := (S.under fun _ T => T.to1).swap
theorem Sts.to3 (S : Sts (A0 :: A1 :: A2 :: A3 :: L) H) : Sts (A3 :: A0 :: A1 :: A2 :: L) H := (S.under fun _ T => T.to2).swap
theorem Sts.to4 (S : Sts (A0 :: A1 :: A2 :: A3 :: A4 :: L) H) : Sts (A4 :: A0 :: A1 :: A2 :: A3 :: L) H := (S.under fun _ T => T.to3).swap
theorem Sts.to5 (S : Sts (A0 :: A1 :: A2 :: A3 :: A4 :: A5 :: L) H) : Sts (A5 :: A0 :: A1 :: A2 :: A3 :: A4 :: L) H := (S.under fun _ T => T.to4).swap
theorem Sts.to6 (S : Sts (A0 :: A1 :: A2 :: A3 :: A4 :: A5 :: A6 :: L) H) : Sts (A6 :: A0 :: A1 :: A2 :: A3 :: A4 :: A5 :: L) H := (S.under fun _ T => T.to5).swap
theorem Sts.to7 (S : Sts (A0 :: A1 :: A2 :: A3 :: A4 :: A5 :: A6 :: A7 :: L) H) : Sts (A7 :: A0 :: A1 :: A2 :: A3 :: A4 :: A5 :: A6 :: L) H := (S.under fun _ T => T.to6).swap
theorem Sts.to8 (S : Sts (A0 :: A1 :: A2 :: A3 :: A4 :: A5 :: A6 :: A7 :: A8 :: L) H) : Sts (A8 :: A0 :: A1 :: A2 :: A3 :: A4 :: A5 :: A6 :: A7 :: L) H := (S.under fun _ T => T.to7).swap
theorem Sts.to9 (S : Sts (A0 :: A1 :: A2 :: A3 :: A4 :: A5 :: A6 :: A7 :: A8 :: A9 :: L) H) : Sts (A9 :: A0 :: A1 :: A2 :: A3 :: A4 :: A5 :: A6 :: A7 :: A8 :: L) H := (S.under fun _ T => T.to8).swap
theorem Sts.to10 (S : Sts (A0 :: A1 :: A2 :: A3 :: A4 :: A5 :: A6 :: A7 :: A8 :: A9 :: A10 :: L) H) : Sts (A10 :: A0 :: A1 :: A2 :: A3 :: A4 :: A5 :: A6 :: A7 :: A8 :: A9 :: L) H := (S.under fun _ T => T.to9).swap
theorem Sts.to11 (S : Sts (A0 :: A1 :: A2 :: A3 :: A4 :: A5 :: A6 :: A7 :: A8 :: A9 :: A10 :: A11 :: L) H) : Sts (A11 :: A0 :: A1 :: A2 :: A3 :: A4 :: A5 :: A6 :: A7 :: A8 :: A9 :: A10 :: L) H := (S.under fun _ T => T.to10).swap
theorem Sts.to12 (S : Sts (A0 :: A1 :: A2 :: A3 :: A4 :: A5 :: A6 :: A7 :: A8 :: A9 :: A10 :: A11 :: A12 :: L) H) : Sts (A12 :: A0 :: A1 :: A2 :: A3 :: A4 :: A5 :: A6 :: A7 :: A8 :: A9 :: A10 :: A11 :: L) H := (S.under fun _ T => T.to11).swap
theorem Sts.to13 (S : Sts (A0 :: A1 :: A2 :: A3 :: A4 :: A5 :: A6 :: A7 :: A8 :: A9 :: A10 :: A11 :: A12 :: A13 :: L) H) : Sts (A13 :: A0 :: A1 :: A2 :: A3 :: A4 :: A5 :: A6 :: A7 :: A8 :: A9 :: A10 :: A11 :: A12 :: L) H := (S.under fun _ T => T.to12).swap
theorem Sts.to14 (S : Sts (A0 :: A1 :: A2 :: A3 :: A4 :: A5 :: A6 :: A7 :: A8 :: A9 :: A10 :: A11 :: A12 :: A13 :: A14 :: L) H) : Sts (A14 :: A0 :: A1 :: A2 :: A3 :: A4 :: A5 :: A6 :: A7 :: A8 :: A9 :: A10 :: A11 :: A12 :: A13 :: L) H := (S.under fun _ T => T.to13).swap
theorem Sts.to15 (S : Sts (A0 :: A1 :: A2 :: A3 :: A4 :: A5 :: A6 :: A7 :: A8 :: A9 :: A10 :: A11 :: A12 :: A13 :: A14 :: A15 :: L) H) : Sts (A15 :: A0 :: A1 :: A2 :: A3 :: A4 :: A5 :: A6 :: A7 :: A8 :: A9 :: A10 :: A11 :: A12 :: A13 :: A14 :: L) H := (S.under fun _ T => T.to14).swap
theorem Sts.to16 (S : Sts (A0 :: A1 :: A2 :: A3 :: A4 :: A5 :: A6 :: A7 :: A8 :: A9 :: A10 :: A11 :: A12 :: A13 :: A14 :: A15 :: A16 :: L) H) : Sts (A16 :: A0 :: A1 :: A2 :: A3 :: A4 :: A5 :: A6 :: A7 :: A8 :: A9 :: A10 :: A11 :: A12 :: A13 :: A14 :: A15 :: L) H := (S.under fun _ T => T.to15).swap
theorem Sts.to17 (S : Sts (A0 :: A1 :: A2 :: A3 :: A4 :: A5 :: A6 :: A7 :: A8 :: A9 :: A10 :: A11 :: A12 :: A13 :: A14 :: A15 :: A16 :: A17 :: L) H) : Sts (A17 :: A0 :: A1 :: A2 :: A3 :: A4 :: A5 :: A6 :: A7 :: A8 :: A9 :: A10 :: A11 :: A12 :: A13 :: A14 :: A15 :: A16 :: L) H := (S.under fun _ T => T.to16).swap
theorem Sts.to18 (S : Sts (A0 :: A1 :: A2 :: A3 :: A4 :: A5 :: A6 :: A7 :: A8 :: A9 :: A10 :: A11 :: A12 :: A13 :: A14 :: A15 :: A16 :: A17 :: A18 :: L) H) : Sts (A18 :: A0 :: A1 :: A2 :: A3 :: A4 :: A5 :: A6 :: A7 :: A8 :: A9 :: A10 :: A11 :: A12 :: A13 :: A14 :: A15 :: A16 :: A17 :: L) H := (S.under fun _ T => T.to17).swap
theorem Sts.to19 (S : Sts (A0 :: A1 :: A2 :: A3 :: A4 :: A5 :: A6 :: A7 :: A8 :: A9 :: A10 :: A11 :: A12 :: A13 :: A14 :: A15 :: A16 :: A17 :: A18 :: A19 :: L) H) : Sts (A19 :: A0 :: A1 :: A2 :: A3 :: A4 :: A5 :: A6 :: A7 :: A8 :: A9 :: A10 :: A11 :: A12 :: A13 :: A14 :: A15 :: A16 :: A17 :: A18 :: L) H := (S.under fun _ T => T.to18).swap
theorem Sts.to20 (S : Sts (A0 :: A1 :: A2 :: A3 :: A4 :: A5 :: A6 :: A7 :: A8 :: A9 :: A10 :: A11 :: A12 :: A13 :: A14 :: A15 :: A16 :: A17 :: A18 :: A19 :: A20 :: L) H) : Sts (A20 :: A0 :: A1 :: A2 :: A3 :: A4 :: A5 :: A6 :: A7 :: A8 :: A9 :: A10 :: A11 :: A12 :: A13 :: A14 :: A15 :: A16 :: A17 :: A18 :: A19 :: L) H := (S.under fun _ T => T.to19).swap
theorem Sts.to21 (S : Sts (A0 :: A1 :: A2 :: A3 :: A4 :: A5 :: A6 :: A7 :: A8 :: A9 :: A10 :: A11 :: A12 :: A13 :: A14 :: A15 :: A16 :: A17 :: A18 :: A19 :: A20 :: A21 :: L) H) : Sts (A21 :: A0 :: A1 :: A2 :: A3 :: A4 :: A5 :: A6 :: A7 :: A8 :: A9 :: A10 :: A11 :: A12 :: A13 :: A14 :: A15 :: A16 :: A17 :: A18 :: A19 :: A20 :: L) H := (S.under fun _ T => T.to20).swap
theorem Sts.to22 (S : Sts (A0 :: A1 :: A2 :: A3 :: A4 :: A5 :: A6 :: A7 :: A8 :: A9 :: A10 :: A11 :: A12 :: A13 :: A14 :: A15 :: A16 :: A17 :: A18 :: A19 :: A20 :: A21 :: A22 :: L) H) : Sts (A22 :: A0 :: A1 :: A2 :: A3 :: A4 :: A5 :: A6 :: A7 :: A8 :: A9 :: A10 :: A11 :: A12 :: A13 :: A14 :: A15 :: A16 :: A17 :: A18 :: A19 :: A20 :: A21 :: L) H := (S.under fun _ T => T.to21).swap
theorem Sts.to23 (S : Sts (A0 :: A1 :: A2 :: A3 :: A4 :: A5 :: A6 :: A7 :: A8 :: A9 :: A10 :: A11 :: A12 :: A13 :: A14 :: A15 :: A16 :: A17 :: A18 :: A19 :: A20 :: A21 :: A22 :: A23 :: L) H) : Sts (A23 :: A0 :: A1 :: A2 :: A3 :: A4 :: A5 :: A6 :: A7 :: A8 :: A9 :: A10 :: A11 :: A12 :: A13 :: A14 :: A15 :: A16 :: A17 :: A18 :: A19 :: A20 :: A21 :: A22 :: L) H := (S.under fun _ T => T.to22).swap
theorem Sts.to24 (S : Sts (A0 :: A1 :: A2 :: A3 :: A4 :: A5 :: A6 :: A7 :: A8 :: A9 :: A10 :: A11 :: A12 :: A13 :: A14 :: A15 :: A16 :: A17 :: A18 :: A19 :: A20 :: A21 :: A22 :: A23 :: A24 :: L) H) : Sts (A24 :: A0 :: A1 :: A2 :: A3 :: A4 :: A5 :: A6 :: A7 :: A8 :: A9 :: A10 :: A11 :: A12 :: A13 :: A14 :: A15 :: A16 :: A17 :: A18 :: A19 :: A20 :: A21 :: A22 :: A23 :: L) H := (S.under fun _ T => T.to23).swap
end

/-! ### the script -/
def sqc (K : PySem.W.Frag) (a : Addr) (xs : List V) : Asr := fun h => SqL K h a xs
theorem sqc_sub {K : PySem.W.Frag} {a : Addr} {xs : List V} {h H : Hp} (x : SqL K h a xs) (s : Subh h H) : SqL K H a xs := by
  rcases x with (x | ⟨o, x⟩) | x
  · exact .inl (.inl (s _ _ x))
  · exact .inl (.inr ⟨o, s _ _ x⟩)
  · exact .inr x
theorem Sts.sq {K : PySem.W.Frag} {a : Addr} {xs : List V} {L : List Asr} {H : Hp} (S : Sts (sqc K a xs :: L) H) : SqL K H a xs := by
  obtain ⟨h, s, x, S⟩ := S
  exact sqc_sub x s
theorem sts_script {K : PySem.W.Frag} {a : Addr} {xs : List V} {H : Hp} (x : SqL K H a xs) : Sts [sqc K a xs] H := ⟨H, Subh.refl H, x, trivial⟩
end Oc
/-! ### rules by values, in the forms that the proofs use -/
namespace Oc
open PySem PySem.Spec PyProof.Rows L2

theorem pr {p : Prop} (h : p) : p := h
/-- the i-th of a list of ints, 0 outside -/
def gI (ns : List Int) (i : Int) : Int := ns.getD i.toNat 0
theorem atI_of {xs : List V} {i : Int} {v : V} (h0 : 0 ≤ i) (h : xs[i.toNat]? = some v) : atI xs i = some v := by
  have e : i = ((i.toNat : Nat) : Int) := by omega
  rw [e]
  exact atI_nat h
theorem atI_ints {ns : List Int} {i : Int} (h0 : 0 ≤ i) (h1 : i < ns.length) : atI (ns.map V.int) i = some (.int (gI ns i)) := by
  refine atI_of h0 ?_
  have hl : i.toNat < ns.length := by omega
  rw [List.getElem?_map, List.getElem?_eq_getElem hl]
  unfold gI
  rw [List.getD_eq_getElem?_getD, List.getElem?_eq_getElem hl]
  rfl
theorem gI_mem {ns : List Int} {i : Int} (h0 : 0 ≤ i) (h1 : i < ns.length) : gI ns i ∈ ns := by
  have hl : i.toNat < ns.length := by omega
  unfold gI
  rw [List.getD_eq_getElem?_getD, List.getElem?_eq_getElem hl]
  exact List.getElem_mem hl
theorem ixN_of {n : Nat} {i : Int} (h0 : 0 ≤ i) (h1 : i < n) : ixN n i = some i.toNat := by
  unfold ixN
  rw [if_pos h0, if_pos h1]
/-- a slice of any list -/
def cutL {α : Type} (xs : List α) (lo hi : Option Int) : List α := (xs.drop (HT.sIx xs.length 0 lo)).take (HT.sIx xs.length xs.length hi - HT.sIx xs.length 0 lo)
theorem cutV_map {α : Type} (f : α → V) (xs : List α) (lo hi : Option Int) : cutV (xs.map f) lo hi = (cutL xs lo hi).map f := by
  unfold cutV cutL
  rw [List.length_map, List.map_take, List.map_drop]
theorem sIx_int (n d : Nat) {i : Int} (h : 0 ≤ i) : HT.sIx n d (some i) = min i.toNat n := by
  have e : i = ((i.toNat : Nat) : Int) := by omega
  rw [e, HT.sIx_nat, Int.toNat_natCast]
theorem cutL_take {α : Type} (xs : List α) {i : Int} (h : 0 ≤ i) : cutL xs none (some i) = xs.take i.toNat := by
  unfold cutL
  rw [HT.sIx_none, sIx_int _ _ h, List.drop_zero, Nat.sub_zero]
  by_cases q : i.toNat ≤ xs.length
  · rw [Nat.min_eq_left q]
  · rw [Nat.min_eq_right (by omega), List.take_length, List.take_of_length_le (by omega)]
theorem cutL_drop {α : Type} (xs : List α) {i : Int} (h : 0 ≤ i) : cutL xs (some i) none = xs.drop i.toNat := by
  unfold cutL
  rw [HT.sIx_none, sIx_int _ _ h]
  by_cases q : i.toNat ≤ xs.length
  · rw [Nat.min_eq_left q, List.take_of_length_le (by rw [List.length_drop]; exact Nat.le_refl _)]
  · rw [Nat.min_eq_right (by omega), List.drop_length, List.drop_of_length_le (by omega), List.take_nil]
theorem cutL_mid {α : Type} (xs : List α) {i j : Int} (h : 0 ≤ i) (hj : 0 ≤ j) : cutL xs (some i) (some j) = (xs.drop i.toNat).take (j.toNat - i.toNat) := by
  unfold cutL
  rw [sIx_int _ _ h, sIx_int _ _ hj]
  by_cases q : i.toNat ≤ xs.length
  · rw [Nat.min_eq_left q]
    by_cases r : j.toNat ≤ xs.length
    · rw [Nat.min_eq_left r]
    · rw [Nat.min_eq_right (show xs.length ≤ j.toNat by omega), List.take_of_length_le (by rw [List.length_drop]; exact Nat.le_refl _), List.take_of_length_le (by rw [List.length_drop]; omega)]
  · rw [Nat.min_eq_right (show xs.length ≤ i.toNat by omega), List.drop_length, List.drop_of_length_le (show xs.length ≤ i.toNat by omega), List.take_nil, List.take_nil]
theorem cutL_all {α : Type} (xs : List α) : cutL xs none none = xs := by
  unfold cutL
  rw [HT.sIx_none, HT.sIx_none, List.drop_zero, Nat.sub_zero, List.take_length]
theorem dci (a b : Int) : decide (V.int a = V.int b) = decide (a = b) := by
  by_cases h : a = b
  · rw [h, decide_eq_true rfl, decide_eq_true rfl]
  · rw [decide_eq_false h, decide_eq_false fun e => h (V.int.inj e)]

section
variable {X : Cx}
theorem oc_int_i : CallR X (.type "int") (fun xs H Q => ∃ i, xs = [.int i] ∧ Q (.int i) H) := fun pins s σ H xs us Q I r h => call_int1 pins s σ H xs us Q I r (.inl h)
theorem oc_int_b : CallR X (.type "int") (fun xs H Q => ∃ k, xs = [.bl k] ∧ Q (.int (if k then 1 else 0)) H) := fun pins s σ H xs us Q I r h => call_int1 pins s σ H xs us Q I r (.inr h)
/-- a written power -/
theorem oc_powc (i j r : Int) (h : CPow i j) (e : i ^ j.toNat = r) : OpR X (binaryOp .Pow) (fun x y H Q => x = .int i ∧ y = .int j ∧ Q (.int r) H) := fun pins s σ H x y v u Q I rx ry ⟨e1, e2, q⟩ =>
  op_pow pins s σ H x y v u Q I rx ry ⟨i, j, e1, e2, h, by show Q (.int (i ^ j.toNat)) H; rw [e]; exact q⟩
theorem oc_min2 (hc : X.calm = true) : CallR X (.builtin "min") (fun xs H Q => ∃ i j, xs = [.int i, .int j] ∧ Q (.int (min i j)) H) := fun pins s σ H xs us Q I r ⟨i, j, e, q⟩ => call_min2 hc pins s σ H xs us Q I r ⟨i, j, e, by
  have h : (if j < i then j else i) = min i j := by split <;> omega
  rw [h]
  exact q⟩
theorem oc_max2 (hc : X.calm = true) : CallR X (.builtin "max") (fun xs H Q => ∃ i j, xs = [.int i, .int j] ∧ Q (.int (max i j)) H) := fun pins s σ H xs us Q I r ⟨i, j, e, q⟩ => call_max2 hc pins s σ H xs us Q I r ⟨i, j, e, by
  have h : (if j > i then j else i) = max i j := by split <;> omega
  rw [h]
  exact q⟩
theorem oc_abs : CallR X (.builtin "abs") (fun xs H Q => ∃ i : Int, xs = [.int i] ∧ Q (.int (i.natAbs : Nat)) H) := fun pins s σ H xs us Q I r ⟨i, e, q⟩ => call_abs pins s σ H xs us Q I r ⟨i, e, by
  have h : (if i < 0 then -i else i) = ((i.natAbs : Nat) : Int) := by split <;> omega
  rw [h]
  exact q⟩
section
variable {K : PySem.W.Frag} (hK : X.K = K)
include hK
theorem oc_len : CallR X (.builtin "len") (fun xs H Q => ∃ p ys, xs = [.ref p] ∧ SqL K H p ys ∧ Q (.int ys.length) H) := fun pins s σ H xs us Q I r ⟨p, ys, e, h, q⟩ => call_len_seq pins s σ H xs us Q I r ⟨p, ys, e, .inl (hK ▸ h), q⟩
theorem oc_lenT : CallR X (.builtin "len") (fun xs H Q => ∃ p ys, xs = [.ref p] ∧ SqT K H p ys ∧ Q (.int ys.length) H) := fun pins s σ H xs us Q I r ⟨p, ys, e, h, q⟩ => call_len_seq pins s σ H xs us Q I r ⟨p, ys, e, .inr (hK ▸ h), q⟩
theorem oc_lenI : CallR X (.builtin "len") (fun xs H Q => ∃ p, ∃ ns : List Int, xs = [.ref p] ∧ SqL K H p (ns.map V.int) ∧ Q (.int ns.length) H) := fun pins s σ H xs us Q I r ⟨p, ns, e, h, q⟩ => call_len_seq pins s σ H xs us Q I r ⟨p, _, e, .inl (hK ▸ h), by rw [List.length_map]; exact q⟩
theorem oc_list : CallR X (.type "list") (fun xs H Q => ∃ p ys, xs = [.ref p] ∧ SqL K H p ys ∧ ∀ l, H l = none → Q (.ref l) (upd H l (.lst ys))) := fun pins s σ H xs us Q I r ⟨p, ys, e, h, q⟩ => call_list_of pins s σ H xs us Q I r ⟨p, ys, e, .inl (hK ▸ h), q⟩
theorem oc_listT : CallR X (.type "list") (fun xs H Q => ∃ p ys, xs = [.ref p] ∧ SqT K H p ys ∧ ∀ l, H l = none → Q (.ref l) (upd H l (.lst ys))) := fun pins s σ H xs us Q I r ⟨p, ys, e, h, q⟩ => call_list_of pins s σ H xs us Q I r ⟨p, ys, e, .inr (hK ▸ h), q⟩
theorem oc_tuple : CallR X (.type "tuple") (fun xs H Q => ∃ p ys, xs = [.ref p] ∧ SqL K H p ys ∧ ∀ l, H l = none → Q (.ref l) (upd H l (.tup ys))) := fun pins s σ H xs us Q I r ⟨p, ys, e, h, q⟩ => call_tuple_of pins s σ H xs us Q I r ⟨p, ys, e, .inl ⟨hK ▸ h, q⟩⟩
theorem oc_sum (hc : X.calm = true) : CallR X (.builtin "sum") (rSum K) := hK ▸ cr_sum hc
theorem oc_anyB (hc : X.calm = true) : CallR X (.builtin "any") (rAny K) := hK ▸ cr_any hc
theorem oc_allB (hc : X.calm = true) : CallR X (.builtin "all") (rAll K) := hK ▸ cr_all hc
/-- xs[i], any list -/
theorem oc_ix : IxR X (fun x y H Q => ∃ p xs i v, x = .ref p ∧ y = .int i ∧ SqL K H p xs ∧ atI xs i = some v ∧ Q v H) := hK ▸ ix_list
theorem oc_ixT : IxR X (fun x y H Q => ∃ p xs i v, x = .ref p ∧ y = .int i ∧ SqT K H p xs ∧ atI xs i = some v ∧ Q v H) := hK ▸ ix_tup
/-- xs[i], a list of ints -/
theorem oc_ixI : IxR X (fun x y H Q => ∃ p, ∃ (ns : List Int) (i : Int), x = .ref p ∧ y = .int i ∧ SqL K H p (ns.map V.int) ∧ (0 ≤ i ∧ i < ns.length) ∧ Q (.int (gI ns i)) H) := fun va sl pins s σ H x y v u Q I rx ry ⟨p, ns, i, e1, e2, h, b, q⟩ hs =>
  ix_list va sl pins s σ H x y v u Q I rx ry ⟨p, _, i, _, e1, e2, hK ▸ h, atI_ints b.1 b.2, q⟩ hs
/-- xs[i:j], a list of ints; any list -/
theorem oc_slI : SlR X (fun x lo hi H Q => ∃ a, ∃ ns : List Int, x = .ref a ∧ SqL K H a (ns.map V.int) ∧ ∀ p, H p = none → Q (.ref p) (upd H p (.lst ((cutL ns lo hi).map V.int)))) := by
  intro pins s σ H x v vl vu lo hi sl Q I rx hs pl pu ⟨a, ns, e, h, q⟩
  exact sl_list pins s σ H x v vl vu lo hi sl Q I rx hs pl pu ⟨a, _, e, hK ▸ h, fun p np => by rw [cutV_map]; exact q p np⟩
theorem oc_sl : SlR X (fun x lo hi H Q => ∃ a xs, x = .ref a ∧ SqL K H a xs ∧ ∀ p, H p = none → Q (.ref p) (upd H p (.lst (cutV xs lo hi)))) := hK ▸ sl_list
end
theorem dp_ints {K : PySem.W.Frag} {H : Hp} : ∀ ns : List Int, DpAll K H (ns.map V.int) (ns.map PyData.int)
  | [] => .nil
  | n :: ns => .cons (.int n) (dp_ints ns)
theorem eqv_ints : ∀ ns ms : List Int, PyData.eqvAll (ns.map PyData.int) (ms.map PyData.int) = decide (ns = ms)
  | [], [] => by simp [PyData.eqvAll]
  | [], _ :: _ => by simp [PyData.eqvAll]
  | _ :: _, [] => by simp [PyData.eqvAll]
  | n :: ns, m :: ms => by
    simp only [List.map_cons, PyData.eqvAll, PyData.eqv, eqv_ints ns ms]
    by_cases h1 : n = m <;> by_cases h2 : ns = ms <;> simp [h1, h2]
theorem lay_ints : ∀ ns : List Int, PyData.canLayAll0 (ns.map PyData.int) = true
  | [] => by simp [PyData.canLayAll0]
  | n :: ns => by simp [PyData.canLayAll0, PyData.canLay0, lay_ints ns]
theorem depth_ints : ∀ ns : List Int, PyData.depthAll (ns.map PyData.int) = 0
  | [] => by simp [PyData.depthAll]
  | n :: ns => by simp [PyData.depthAll, PyData.depth, depth_ints ns]
theorem shaped_ints (ns : List Int) : SeqAt.shaped (.list (ns.map PyData.int)) = true := by
  unfold SeqAt.shaped
  simp [PyData.canLay0, lay_ints, PyData.depth, depth_ints]
theorem oc_ne_ints {K : PySem.W.Frag} (hK : X.K = K) (hu : X.A.units + 64 < cLine) : OpR X (compareOp .NotEq) (fun x y H Q => ∃ a b, ∃ ns ms : List Int, x = .ref a ∧ y = .ref b ∧ SqL K H a (ns.map V.int) ∧ SqL K H b (ms.map V.int) ∧ Q (.bl (!decide (ns = ms))) H) := fun pins s σ H x y v u Q I rx ry ⟨a, b, ns, ms, e1, e2, h1, h2, q⟩ =>
  op_neD hu pins s σ H x y v u Q I rx ry ⟨.list (ns.map PyData.int), .list (ms.map PyData.int), e1 ▸ .lst (hK ▸ h1) (dp_ints ns), e2 ▸ .lst (hK ▸ h2) (dp_ints ms), shaped_ints ns, shaped_ints ms, by
    have e : PyData.eqv (.list (ns.map PyData.int)) (.list (ms.map PyData.int)) = decide (ns = ms) := by
      rw [← eqv_ints]
      simp only [PyData.eqv]
    rw [e]
    exact q⟩
theorem oc_eq_ints {K : PySem.W.Frag} (hK : X.K = K) (hu : X.A.units + 64 < cLine) : OpR X (compareOp .Eq) (fun x y H Q => ∃ a b, ∃ ns ms : List Int, x = .ref a ∧ y = .ref b ∧ SqL K H a (ns.map V.int) ∧ SqL K H b (ms.map V.int) ∧ Q (.bl (decide (ns = ms))) H) := fun pins s σ H x y v u Q I rx ry ⟨a, b, ns, ms, e1, e2, h1, h2, q⟩ =>
  op_eqD hu pins s σ H x y v u Q I rx ry ⟨.list (ns.map PyData.int), .list (ms.map PyData.int), e1 ▸ .lst (hK ▸ h1) (dp_ints ns), e2 ▸ .lst (hK ▸ h2) (dp_ints ms), shaped_ints ns, shaped_ints ms, by
    have e : PyData.eqv (.list (ns.map PyData.int)) (.list (ms.map PyData.int)) = decide (ns = ms) := by
      rw [← eqv_ints]
      simp only [PyData.eqv]
    rw [e]
    exact q⟩
/-! isinstance, by what is known of the value -/
theorem oc_isi_ty {T U : String} {r : Bool} (h : kitB T U = some r) : CallR X (.builtin "isinstance") (fun xs H Q => ∃ x, xs = [x, .ty U] ∧ TyX X.K H x (.type T) ∧ Q (.bl r) H) := fun pins s σ H xs us Q I rr ⟨x, e, t, q⟩ =>
  call_isi pins s σ H xs us Q I rr ⟨x, _, _, _, r, e, .ty U, t, kit_ty h, q⟩
theorem oc_isi_ii : CallR X (.builtin "isinstance") (fun xs H Q => ∃ i, xs = [.int i, .ty "int"] ∧ Q (.bl true) H) := fun pins s σ H xs us Q I rr ⟨i, e, q⟩ =>
  call_isi pins s σ H xs us Q I rr ⟨_, _, _, _, true, e, .ty "int", .base (.int i), kit_ty (by decide +kernel), q⟩
theorem oc_isi_ib : CallR X (.builtin "isinstance") (fun xs H Q => ∃ i, xs = [.int i, .ty "bool"] ∧ Q (.bl false) H) := fun pins s σ H xs us Q I rr ⟨i, e, q⟩ =>
  call_isi pins s σ H xs us Q I rr ⟨_, _, _, _, false, e, .ty "bool", .base (.int i), kit_ty (by decide +kernel), q⟩
theorem oc_isi_bb : CallR X (.builtin "isinstance") (fun xs H Q => ∃ i, xs = [.bl i, .ty "bool"] ∧ Q (.bl true) H) := fun pins s σ H xs us Q I rr ⟨i, e, q⟩ =>
  call_isi pins s σ H xs us Q I rr ⟨_, _, _, _, true, e, .ty "bool", .base (.bl i), kit_ty (by decide +kernel), q⟩
theorem oc_isi_ll : CallR X (.builtin "isinstance") (fun xs H Q => ∃ a ys, xs = [.ref a, .ty "list"] ∧ H a = some (.lst ys) ∧ Q (.bl true) H) := fun pins s σ H xs us Q I rr ⟨a, ys, e, h, q⟩ =>
  call_isi pins s σ H xs us Q I rr ⟨_, _, _, _, true, e, .ty "list", .base (.lst h), kit_ty (by decide +kernel), q⟩
end

/-! ### the heap's changes, in chunks -/
theorem small {n : Nat} (h : n ≤ 1000000) : n < sizeLine := Nat.lt_of_le_of_lt h (by decide)
theorem small' {n : Nat} (h : n ≤ 1000000) : n ≤ sizeLine := Nat.le_of_lt (small h)
theorem Sts.newE {L : List Asr} {H H' : Hp} {p : Addr} {o : HO} (S : Sts L H) (np : H p = none) (e : upd H p o = H') : Sts (pto p o :: L) H' := e ▸ S.new o np
theorem Sts.putE {L : List Asr} {H H' : Hp} {a : Addr} {o u : HO} (S : Sts (pto a o :: L) H) (e : upd H a u = H') : Sts (pto a u :: L) H' := e ▸ S.put u
section
variable {X : Cx}
theorem oc_append : MtR X "list.append" (fun x vs H Q => ∃ l y, x = .ref l ∧ vs = [y] ∧ ∃ xs L, Sts (pto l (.lst xs) :: L) H ∧ xs.length < sizeLine ∧ ∀ H', Sts (pto l (.lst (xs ++ [y])) :: L) H' → Q .non H') := fun pins s σ H x xs v us Q I rx rs ⟨l, y, e1, e2, ys, L, S, hl, q⟩ =>
  mt_append pins s σ H x xs v us Q I rx rs ⟨l, ys, y, e1, e2, S.hd, hl, q _ (S.put _)⟩
theorem oc_extend : MtR X "list.extend" (fun x vs H Q => ∃ l b, x = .ref l ∧ vs = [.ref b] ∧ ∃ xs zs L, Sts (pto l (.lst xs) :: L) H ∧ H b = some (.lst zs) ∧ xs.length + zs.length ≤ sizeLine ∧ ∀ H', Sts (pto l (.lst (xs ++ zs)) :: L) H' → Q .non H') := fun pins s σ H x xs v us Q I rx rs ⟨l, b, e1, e2, ys, zs, L, S, hb, hl, q⟩ =>
  mt_extend pins s σ H x xs v us Q I rx rs ⟨l, b, ys, zs, e1, e2, S.hd, hb, hl, q _ (S.put _)⟩
theorem oc_setL : PSet X (fun o i v H Q => ∃ p k, o = .ref p ∧ i = .int k ∧ ∃ xs L, Sts (pto p (.lst xs) :: L) H ∧ (0 ≤ k ∧ k < xs.length) ∧ ∀ H', Sts (pto p (.lst (xs.set k.toNat v)) :: L) H' → Q H') := fun pins s σ H o i v ov iv u Q I ro ri rv ⟨p, k, e1, e2, xs, L, S, b, q⟩ =>
  set_list pins s σ H o i v ov iv u Q I ro ri rv ⟨p, xs, k, k.toNat, e1, e2, S.hd, ixN_of b.1 b.2, q _ (S.put _)⟩
theorem oc_setI : PSet X (fun o i v H Q => ∃ p k j, o = .ref p ∧ i = .int k ∧ v = .int j ∧ ∃ (ns : List Int) (L : List Asr), Sts (pto p (.lst (ns.map V.int)) :: L) H ∧ (0 ≤ k ∧ k < ns.length) ∧ ∀ H', Sts (pto p (.lst ((ns.set k.toNat j).map V.int)) :: L) H' → Q H') := fun pins s σ H o i v ov iv u Q I ro ri rv ⟨p, k, j, e1, e2, e3, ns, L, S, b, q⟩ =>
  set_list pins s σ H o i v ov iv u Q I ro ri rv ⟨p, _, k, k.toNat, e1, e2, S.hd, ixN_of b.1 (by rw [List.length_map]; exact b.2), by
    refine q _ ?_
    rw [List.map_set, e3]
    exact S.put _⟩
theorem oc_appendI : MtR X "list.append" (fun x vs H Q => ∃ l j, x = .ref l ∧ vs = [.int j] ∧ ∃ (ns : List Int) (L : List Asr), Sts (pto l (.lst (ns.map V.int)) :: L) H ∧ ns.length ≤ 1000000 ∧ ∀ H', Sts (pto l (.lst ((ns ++ [j]).map V.int)) :: L) H' → Q .non H') := fun pins s σ H x xs v us Q I rx rs ⟨l, j, e1, e2, ns, L, S, hl, q⟩ =>
  mt_append pins s σ H x xs v us Q I rx rs ⟨l, _, .int j, e1, e2, S.hd, small (by rw [List.length_map]; exact hl), q _ (by rw [List.map_append]; exact S.put _)⟩
theorem oc_catI : OpR X (binaryOp .Add) (fun x y H Q => ∃ l b, ∃ (ns ms : List Int), x = .ref l ∧ y = .ref b ∧ H l = some (.lst (ns.map V.int)) ∧ H b = some (.lst (ms.map V.int)) ∧ ns.length + ms.length ≤ 1000000 ∧ ∀ p, H p = none → Q (.ref p) (upd H p (.lst ((ns ++ ms).map V.int)))) := fun pins s σ H x y v u Q I rx ry ⟨l, b, ns, ms, e1, e2, h1, h2, hl, q⟩ =>
  op_cat pins s σ H x y v u Q I rx ry ⟨l, b, _, _, e1, e2, h1, h2, small' (by rw [List.length_map, List.length_map]; exact hl), by rw [← List.map_append]; exact q⟩
end

/-! ### tests -/
theorem dt {p : Prop} [Decidable p] (h : p) : decide p = true := decide_eq_true h
theorem df {p : Prop} [Decidable p] (h : ¬ p) : decide p = false := decide_eq_false h
theorem nd {p : Prop} [Decidable p] (h : p) : (!decide p) = false := by rw [decide_eq_true h]; rfl
theorem nt {p : Prop} [Decidable p] (h : ¬ p) : (!decide p) = true := by rw [decide_eq_false h]; rfl
theorem odt {p : Prop} [Decidable p] (h : decide p = true) : p := of_decide_eq_true h
theorem odf {p : Prop} [Decidable p] (h : decide p = false) : ¬ p := of_decide_eq_false h
theorem ont {p : Prop} [Decidable p] (h : (!decide p) = true) : ¬ p := fun q => by rw [decide_eq_true q] at h; cases h
theorem onf {p : Prop} [Decidable p] (h : (!decide p) = false) : p := Decidable.byContradiction fun q => by rw [decide_eq_false q] at h; cases h
theorem vi {a b : Int} (h : V.int a = V.int b) : a = b := V.int.inj h
theorem ifB {b : Bool} {A B : Prop} (h1 : b = true → A) (h2 : b = false → B) : if b = true then A else B := by
  cases b with
  | true => exact iteT (h1 rfl)
  | false => exact iteF (h2 rfl)
theorem ifT {b : Bool} {A B : Prop} (h : b = true) (k : A) : if b = true then A else B := by
  subst h
  exact iteT k
theorem ifF {b : Bool} {A B : Prop} (h : b = false) (k : B) : if b = true then A else B := by
  subst h
  exact iteF k

theorem ifTT {A B : Prop} (k : A) : if true = true then A else B := iteT k
theorem ifFF {A B : Prop} (k : B) : if false = true then A else B := iteF k
theorem ifNT {A B : Prop} (k : B) : if (!true) = true then A else B := ifF rfl k
theorem ifNF {A B : Prop} (k : A) : if (!false) = true then A else B := ifT rfl k
theorem ifDE {α : Type} {x : α} [Decidable (x = x)] {A B : Prop} (k : A) : if decide (x = x) = true then A else B := ifT (dt rfl) k
theorem ifNE {α : Type} {x : α} [Decidable (x = x)] {A B : Prop} (k : B) : if (!decide (x = x)) = true then A else B := ifF (nd rfl) k
/-! ### comprehensions, behind the making of their list at D -/
theorem oc_lcR {lo : Int} {n : Nat} {g : TG} {tt : TT} {te : TE} {vs : List Nat} {σ : L2.St} {H0 : Hp} {D : Addr} {Qd : Hp → Prop} (Pv : Nat → Hp → Prop) (h0 : Pv 0 H0)
    (hs : ∀ i H, i < n → Pv i H → g (.int (lo + (i : Nat))) (wipe σ vs) H fun σ2 H2 => wipe σ2 vs = wipe σ vs ∧ tt σ2 H2 fun b H3 =>
      if b = true then te σ2 H3 fun y H4 => ∃ acc, H4 D = some (.lst acc) ∧ acc.length < sizeLine ∧ Pv (i + 1) (upd H4 D (.lst (acc ++ [y]))) else Pv (i + 1) H3) (hd : ∀ H, Pv n H → Qd H) :
    ∃ W : Nat → Nat → Hp → Prop, (∃ m, W 0 m H0) ∧ ∀ i m H, W i m H →
      ((Itr lo n).stop i H ∧ Qd H) ∨ ((Itr lo n).go i H ∧ ∃ Nx : Hp → Prop, (∀ H', Nx H' → ∃ m', m' < m ∧ W (i + 1) m' H') ∧ ∀ x H', (Itr lo n).yld i H x H' → g x (wipe σ vs) H' fun σ2 H2 => wipe σ2 vs = wipe σ vs ∧ tt σ2 H2 fun b H3 =>
        if b = true then te σ2 H3 fun y H4 => ∃ acc, H4 D = some (.lst acc) ∧ acc.length < sizeLine ∧ Nx (upd H4 D (.lst (acc ++ [y]))) else Nx H3) := by
  refine ⟨fun i m H => i + m = n ∧ Pv i H, ⟨n, Nat.zero_add n, h0⟩, fun i m H h => ?_⟩
  obtain ⟨e, p⟩ := h
  cases m with
  | zero =>
    have e' : n = i := e.symm
    subst e'
    exact .inl ⟨Nat.le_refl _, hd H p⟩
  | succ m =>
    have hi : i < n := by omega
    refine .inr ⟨hi, Pv (i + 1), fun H' p' => ⟨m, Nat.lt_succ_self m, by omega, p'⟩, fun x H' y => ?_⟩
    obtain ⟨e1, e2⟩ := y
    rw [e1, e2]
    exact hs i H hi p
theorem oc_lcL {K : PySem.W.Frag} {a : Addr} {xs : List V} {g : TG} {tt : TT} {te : TE} {vs : List Nat} {σ : L2.St} {H0 : Hp} {D : Addr} {Qd : Hp → Prop} (Pv : Nat → Hp → Prop) (h0 : Pv 0 H0) (hl : ∀ i H, Pv i H → SqL K H a xs)
    (hs : ∀ i x H, xs[i]? = some x → Pv i H → g x (wipe σ vs) H fun σ2 H2 => wipe σ2 vs = wipe σ vs ∧ tt σ2 H2 fun b H3 =>
      if b = true then te σ2 H3 fun y H4 => ∃ acc, H4 D = some (.lst acc) ∧ acc.length < sizeLine ∧ Pv (i + 1) (upd H4 D (.lst (acc ++ [y]))) else Pv (i + 1) H3) (hd : ∀ H, Pv xs.length H → Qd H) :
    ∃ W : Nat → Nat → Hp → Prop, (∃ m, W 0 m H0) ∧ ∀ i m H, W i m H →
      ((Itl K a).stop i H ∧ Qd H) ∨ ((Itl K a).go i H ∧ ∃ Nx : Hp → Prop, (∀ H', Nx H' → ∃ m', m' < m ∧ W (i + 1) m' H') ∧ ∀ x H', (Itl K a).yld i H x H' → g x (wipe σ vs) H' fun σ2 H2 => wipe σ2 vs = wipe σ vs ∧ tt σ2 H2 fun b H3 =>
        if b = true then te σ2 H3 fun y H4 => ∃ acc, H4 D = some (.lst acc) ∧ acc.length < sizeLine ∧ Nx (upd H4 D (.lst (acc ++ [y]))) else Nx H3) := by
  refine ⟨fun i m H => i + m = xs.length ∧ Pv i H, ⟨xs.length, Nat.zero_add _, h0⟩, fun i m H h => ?_⟩
  obtain ⟨e, p⟩ := h
  have q := hl i H p
  cases m with
  | zero =>
    have e' : i = xs.length := e
    exact .inl ⟨⟨xs, q, by omega⟩, hd H (e' ▸ p)⟩
  | succ m =>
    have hi : i < xs.length := by omega
    refine .inr ⟨⟨xs, xs[i], q, List.getElem?_eq_getElem hi⟩, Pv (i + 1), fun H' p' => ⟨m, Nat.lt_succ_self m, by omega, p'⟩, fun x H' y => ?_⟩
    obtain ⟨e1, e2⟩ := y
    rw [e1]
    exact hs i x H (e2 xs q) p
/-- one value an item, the heap as it was -/
theorem lc_pure {K : PySem.W.Frag} {a : Addr} {k : Nat} {te : TE} {vs : List Nat} {σ : L2.St} {H0 : Hp} {Qd : Hp → Prop} {L : List Asr} {D : Addr} (xs : List V) (f : V → V) (S : Sts (pto D (.lst []) :: L) H0) (hsq : ∀ H, Sts L H → SqL K H a xs) (hl : xs.length ≤ 1000000)
    (hw : ∀ x, wipe ((wipe σ vs).set k (some x)) vs = wipe σ vs) (he : ∀ (x : V) (H : Hp) (Q' : VK), x ∈ xs → Sts L H → Q' (f x) H → te ((wipe σ vs).set k (some x)) H Q')
    (hd : ∀ H, Sts (pto D (.lst (xs.map f)) :: L) H → Qd H) :
    ∃ W : Nat → Nat → Hp → Prop, (∃ m, W 0 m H0) ∧ ∀ i m H, W i m H →
      ((Itl K a).stop i H ∧ Qd H) ∨ ((Itl K a).go i H ∧ ∃ Nx : Hp → Prop, (∀ H', Nx H' → ∃ m', m' < m ∧ W (i + 1) m' H') ∧ ∀ x H', (Itl K a).yld i H x H' → gName k x (wipe σ vs) H' fun σ2 H2 => wipe σ2 vs = wipe σ vs ∧ tYes σ2 H2 fun b H3 =>
        if b = true then te σ2 H3 fun y H4 => ∃ acc, H4 D = some (.lst acc) ∧ acc.length < sizeLine ∧ Nx (upd H4 D (.lst (acc ++ [y]))) else Nx H3) :=
  oc_lcL (K := K) (a := a) (xs := xs) (fun i H => Sts (pto D (.lst ((xs.take i).map f)) :: L) H) S (fun i H p => hsq H p.tail)
    (fun i x H hx p => by
      refine ⟨hw x, ?_⟩
      simp only [tYes, if_true]
      refine he x H _ (List.mem_of_getElem? hx) p.tail ⟨_, p.hd, small (by rw [List.length_map, List.length_take]; omega), ?_⟩
      rw [List.take_add_one, hx, List.map_append]
      exact p.put _)
    (fun H p => hd H (by rw [List.take_length] at p; exact p))
theorem lc_pureI {K : PySem.W.Frag} {a : Addr} {k : Nat} {te : TE} {vs : List Nat} {σ : L2.St} {H0 : Hp} {Qd : Hp → Prop} {L : List Asr} {D : Addr} (ns : List Int) (f : Int → V) (S : Sts (pto D (.lst []) :: L) H0) (hsq : ∀ H, Sts L H → SqL K H a (ns.map V.int)) (hl : ns.length ≤ 1000000)
    (hw : ∀ x, wipe ((wipe σ vs).set k (some x)) vs = wipe σ vs) (he : ∀ (x : Int) (H : Hp) (Q' : VK), x ∈ ns → Sts L H → Q' (f x) H → te ((wipe σ vs).set k (some (.int x))) H Q')
    (hd : ∀ H, Sts (pto D (.lst (ns.map f)) :: L) H → Qd H) :
    ∃ W : Nat → Nat → Hp → Prop, (∃ m, W 0 m H0) ∧ ∀ i m H, W i m H →
      ((Itl K a).stop i H ∧ Qd H) ∨ ((Itl K a).go i H ∧ ∃ Nx : Hp → Prop, (∀ H', Nx H' → ∃ m', m' < m ∧ W (i + 1) m' H') ∧ ∀ x H', (Itl K a).yld i H x H' → gName k x (wipe σ vs) H' fun σ2 H2 => wipe σ2 vs = wipe σ vs ∧ tYes σ2 H2 fun b H3 =>
        if b = true then te σ2 H3 fun y H4 => ∃ acc, H4 D = some (.lst acc) ∧ acc.length < sizeLine ∧ Nx (upd H4 D (.lst (acc ++ [y]))) else Nx H3) :=
  oc_lcL (K := K) (a := a) (xs := ns.map V.int) (fun i H => Sts (pto D (.lst ((ns.take i).map f)) :: L) H) S (fun i H p => hsq H p.tail)
    (fun i x H hx p => by
      rw [List.getElem?_map] at hx
      cases e : ns[i]? with
      | none =>
        rw [e] at hx
        cases hx
      | some n =>
        rw [e] at hx
        have ex : x = V.int n := (Option.some.inj hx).symm
        subst ex
        refine ⟨hw _, ?_⟩
        simp only [tYes, if_true]
        refine he n H _ (List.mem_of_getElem? e) p.tail ⟨_, p.hd, small (by rw [List.length_map, List.length_take]; omega), ?_⟩
        rw [List.take_add_one, e, List.map_append]
        exact p.put _)
    (fun H p => hd H (by rw [List.length_map, List.take_length] at p; exact p))
/-- over a range -/
theorem lc_pureR {lo : Int} {n : Nat} {k : Nat} {te : TE} {vs : List Nat} {σ : L2.St} {H0 : Hp} {Qd : Hp → Prop} {L : List Asr} {D : Addr} (f : Int → V) (S : Sts (pto D (.lst []) :: L) H0) (hl : n ≤ 1000000)
    (hw : ∀ x, wipe ((wipe σ vs).set k (some x)) vs = wipe σ vs) (he : ∀ (i : Nat) (H : Hp) (Q' : VK), i < n → Sts L H → Q' (f (lo + i)) H → te ((wipe σ vs).set k (some (.int (lo + i)))) H Q')
    (hd : ∀ H, Sts (pto D (.lst ((List.range n).map fun i => f (lo + (i : Nat)))) :: L) H → Qd H) :
    ∃ W : Nat → Nat → Hp → Prop, (∃ m, W 0 m H0) ∧ ∀ i m H, W i m H →
      ((Itr lo n).stop i H ∧ Qd H) ∨ ((Itr lo n).go i H ∧ ∃ Nx : Hp → Prop, (∀ H', Nx H' → ∃ m', m' < m ∧ W (i + 1) m' H') ∧ ∀ x H', (Itr lo n).yld i H x H' → gName k x (wipe σ vs) H' fun σ2 H2 => wipe σ2 vs = wipe σ vs ∧ tYes σ2 H2 fun b H3 =>
        if b = true then te σ2 H3 fun y H4 => ∃ acc, H4 D = some (.lst acc) ∧ acc.length < sizeLine ∧ Nx (upd H4 D (.lst (acc ++ [y]))) else Nx H3) :=
  oc_lcR (lo := lo) (n := n) (fun i H => Sts (pto D (.lst ((List.range i).map fun i => f (lo + (i : Nat)))) :: L) H) S
    (fun i H hi p => by
      refine ⟨hw _, ?_⟩
      simp only [tYes, if_true]
      refine he i H _ hi p.tail ⟨_, p.hd, small (by rw [List.length_map, List.length_range]; omega), ?_⟩
      rw [List.range_succ, List.map_append]
      exact p.put _)
    (fun H p => hd H p)
/-- lists of ints out of lists of ints and ranges -/
theorem lc_II {K : PySem.W.Frag} {a : Addr} {k : Nat} {te : TE} {vs : List Nat} {σ : L2.St} {H0 : Hp} {Qd : Hp → Prop} {L : List Asr} {D : Addr} (ns : List Int) (f : Int → Int) (S : Sts (pto D (.lst []) :: L) H0) (hsq : ∀ H, Sts L H → SqL K H a (ns.map V.int)) (hl : ns.length ≤ 1000000)
    (hw : ∀ x, wipe ((wipe σ vs).set k (some x)) vs = wipe σ vs) (he : ∀ (x : Int) (H : Hp) (Q' : VK), x ∈ ns → Sts L H → Q' (.int (f x)) H → te ((wipe σ vs).set k (some (.int x))) H Q')
    (hd : ∀ H, Sts (pto D (.lst ((ns.map f).map V.int)) :: L) H → Qd H) :
    ∃ W : Nat → Nat → Hp → Prop, (∃ m, W 0 m H0) ∧ ∀ i m H, W i m H →
      ((Itl K a).stop i H ∧ Qd H) ∨ ((Itl K a).go i H ∧ ∃ Nx : Hp → Prop, (∀ H', Nx H' → ∃ m', m' < m ∧ W (i + 1) m' H') ∧ ∀ x H', (Itl K a).yld i H x H' → gName k x (wipe σ vs) H' fun σ2 H2 => wipe σ2 vs = wipe σ vs ∧ tYes σ2 H2 fun b H3 =>
        if b = true then te σ2 H3 fun y H4 => ∃ acc, H4 D = some (.lst acc) ∧ acc.length < sizeLine ∧ Nx (upd H4 D (.lst (acc ++ [y]))) else Nx H3) :=
  lc_pureI ns (fun x => .int (f x)) S hsq hl hw he (fun H S => hd H (by rw [List.map_map]; exact S))
theorem lc_RI {lo : Int} {n : Nat} {k : Nat} {te : TE} {vs : List Nat} {σ : L2.St} {H0 : Hp} {Qd : Hp → Prop} {L : List Asr} {D : Addr} (f : Int → Int) (S : Sts (pto D (.lst []) :: L) H0) (hl : n ≤ 1000000)
    (hw : ∀ x, wipe ((wipe σ vs).set k (some x)) vs = wipe σ vs) (he : ∀ (i : Nat) (H : Hp) (Q' : VK), i < n → Sts L H → Q' (.int (f (lo + i))) H → te ((wipe σ vs).set k (some (.int (lo + i)))) H Q')
    (hd : ∀ H, Sts (pto D (.lst (((List.range n).map fun i => f (lo + (i : Nat))).map V.int)) :: L) H → Qd H) :
    ∃ W : Nat → Nat → Hp → Prop, (∃ m, W 0 m H0) ∧ ∀ i m H, W i m H →
      ((Itr lo n).stop i H ∧ Qd H) ∨ ((Itr lo n).go i H ∧ ∃ Nx : Hp → Prop, (∀ H', Nx H' → ∃ m', m' < m ∧ W (i + 1) m' H') ∧ ∀ x H', (Itr lo n).yld i H x H' → gName k x (wipe σ vs) H' fun σ2 H2 => wipe σ2 vs = wipe σ vs ∧ tYes σ2 H2 fun b H3 =>
        if b = true then te σ2 H3 fun y H4 => ∃ acc, H4 D = some (.lst acc) ∧ acc.length < sizeLine ∧ Nx (upd H4 D (.lst (acc ++ [y]))) else Nx H3) :=
  lc_pureR (fun x => .int (f x)) S hl hw he (fun H S => hd H (by rw [List.map_map]; exact S))
/-- the end of a turn of any comprehension -/
theorem lc_end {D : Addr} {acc : List V} {y : V} {L : List Asr} {H : Hp} {N : Hp → Prop} (S : Sts (pto D (.lst acc) :: L) H) (hl : acc.length ≤ 1000000) (k : ∀ H', Sts (pto D (.lst (acc ++ [y])) :: L) H' → N H') :
    ∃ acc, H D = some (.lst acc) ∧ acc.length < sizeLine ∧ N (upd H D (.lst (acc ++ [y]))) := ⟨acc, S.hd, small hl, k _ (S.put _)⟩
/-- a block cut behind its first statement: what holds between -/
def tCutO (t u : TS) : TS := fun D σ H => ∃ Mid : L2.St → Hp → Prop, t { D with nx := Mid } σ H ∧ ∀ σ' H', Mid σ' H' → u D σ' H'
theorem oc_cut {X : Cx} {st : Stmt} {rest : List Stmt} {t u : TS} (h1 : PS X st t) (h2 : PSs X rest u) : PSs X (st :: rest) (tCutO t u) := by
  refine ⟨fun pins s σ H D I ⟨Mid, a, b⟩ => ?_⟩
  refine wpAny_execs_cons (thn (h1.run pins s σ H { D with nx := Mid } I a) fun f s1 q => ?_)
  cases f with
  | next =>
    obtain ⟨σ', H', I', q⟩ := q
    exact h2.run pins s1 σ' H' D I' (b _ _ q)
  | ret v => exact q
  | brk => exact q
  | cont => exact q
end Oc
namespace Oc
open PySem PySem.Spec PyProof.Rows L2
/-! ### any over ints -/
theorem vals_int : ∀ {ns : List Int} {its : List Value} {i : Nat} {u : Value}, Vals (ns.map V.int) its → its[i]? = some u → ∃ n t, ns[i]? = some n ∧ u = .int n t
  | [], _, _, _, r, e => by
    cases r
    cases e
  | n :: ns, _, 0, u, r, e => by
    cases r with
    | cons a b =>
      obtain ⟨t, a⟩ := a
      exact ⟨n, t, rfl, (Option.some.inj e).symm.trans a⟩
  | n :: ns, _, i + 1, u, r, e => by
    cases r with
    | cons a b => exact vals_int (ns := ns) b e
theorem anyI_range : ∀ ns : List Int, (List.range ns.length).any (fun i => decide (ns.getD i 0 ≠ 0)) = ns.any fun n => decide (n ≠ 0)
  | [] => rfl
  | n :: ns => by
    have ih := anyI_range ns
    rw [List.length_cons, List.range_succ_eq_map, List.any_cons, List.any_map, List.any_cons, ← ih]
    rfl
theorem oc_anyI {X : Cx} {K : PySem.W.Frag} (hK : X.K = K) (hc : X.calm = true) : CallR X (.builtin "any") (fun xs H Q => ∃ a, ∃ ns : List Int, xs = [.ref a] ∧ SqL K H a (ns.map V.int) ∧ Q (.bl (ns.any fun n => decide (n ≠ 0))) H) := by
  subst hK
  intro pins s σ H xs us Q I rr ⟨a, ns, e, hS, q⟩
  subst e
  obtain ⟨its, rv, hl, _⟩ := I.list hS
  rw [Vals.ref1 rr]
  have hlen : ns.length = its.length := by
    have z := rv.length
    rwa [List.length_map] at z
  refine call_any_walk (iter_any hl.isList fun s2 es st ne => ?_)
  subst es
  refine ⟨_, _, _, _, _, _, fun i => decide (ns.getD i 0 ≠ 0), rfl, Walks.list (A := X.A.in1) (I.ok.hd hc) _ a ne its.toArray, st, fun i v t R E hv hq => ?_, fun h' tk hk => ?_⟩
  · have hv' : its[i]? = some v := by simpa using hv
    obtain ⟨n, u, hn, rfl⟩ := vals_int rv hv'
    have eg : ns.getD i 0 = n := by
      rw [List.getD_eq_getElem?_getD, hn]
      rfl
    dsimp only at hq
    rw [eg] at hq
    refine PyProof.Rows.truthy_int ?_
    have ez : (n != 0) = decide (n ≠ 0) := by
      by_cases z : n = 0 <;> simp [z]
    rw [ez]
    exact hq
  · refine ⟨.bl _, H, I.kept fun b o eo => hk b o (fun hm => ?_) (Heap.get?_push_of_some _ eo), ?_, q⟩
    · rcases List.mem_cons.mp hm with z | hm
      · exact absurd (z ▸ Heap.lt_size eo) (Nat.lt_irrefl _)
      · cases hm
    · show Value.bool _ = Value.bool _
      rw [← anyI_range, hlen, List.size_toArray]
end Oc
namespace Oc
open PySem PySem.Spec PyProof.Rows L2
/-- a comprehension over anything: n turns -/
theorem oc_lc {J : It} {n : Nat} {g : TG} {tt : TT} {te : TE} {vs : List Nat} {σ : L2.St} {H0 : Hp} {D : Addr} {Qd : Hp → Prop} (Pv : Nat → Hp → Prop) (h0 : Pv 0 H0) (hgo : ∀ i H, i < n → Pv i H → J.go i H) (hst : ∀ H, Pv n H → J.stop n H)
    (hs : ∀ i x H H', i < n → Pv i H → J.yld i H x H' → g x (wipe σ vs) H' fun σ2 H2 => wipe σ2 vs = wipe σ vs ∧ tt σ2 H2 fun b H3 =>
      if b = true then te σ2 H3 fun y H4 => ∃ acc, H4 D = some (.lst acc) ∧ acc.length < sizeLine ∧ Pv (i + 1) (upd H4 D (.lst (acc ++ [y]))) else Pv (i + 1) H3) (hd : ∀ H, Pv n H → Qd H) :
    ∃ W : Nat → Nat → Hp → Prop, (∃ m, W 0 m H0) ∧ ∀ i m H, W i m H →
      (J.stop i H ∧ Qd H) ∨ (J.go i H ∧ ∃ Nx : Hp → Prop, (∀ H', Nx H' → ∃ m', m' < m ∧ W (i + 1) m' H') ∧ ∀ x H', J.yld i H x H' → g x (wipe σ vs) H' fun σ2 H2 => wipe σ2 vs = wipe σ vs ∧ tt σ2 H2 fun b H3 =>
        if b = true then te σ2 H3 fun y H4 => ∃ acc, H4 D = some (.lst acc) ∧ acc.length < sizeLine ∧ Nx (upd H4 D (.lst (acc ++ [y]))) else Nx H3) := by
  refine ⟨fun i m H => i + m = n ∧ Pv i H, ⟨n, Nat.zero_add _, h0⟩, fun i m H h => ?_⟩
  obtain ⟨e, p⟩ := h
  cases m with
  | zero =>
    have e' : i = n := e
    subst e'
    exact .inl ⟨hst H p, hd H p⟩
  | succ m =>
    have hi : i < n := by omega
    exact .inr ⟨hgo i H hi p, Pv (i + 1), fun H' p' => ⟨m, Nat.lt_succ_self m, by omega, p'⟩, fun x H' y => hs i x H H' hi p y⟩
/-- a for over anything: n turns -/
theorem oc_for {J : It} {n : Nat} {g : TG} {tb : TS} {D : Ends} {σ : L2.St} {H : Hp} (Pv : Nat → L2.St → Hp → Prop) (h0 : Pv 0 σ H) (hgo : ∀ i σ H, i < n → Pv i σ H → J.go i H) (hst : ∀ σ H, Pv n σ H → J.stop n H)
    (hs : ∀ i x σ H H', i < n → Pv i σ H → J.yld i H x H' → g x σ H' fun σ2 H2 => tb { D with nx := Pv (i + 1), ct := Pv (i + 1), bk := D.nx } σ2 H2) (hd : ∀ σ H, Pv n σ H → D.nx σ H) :
    ∃ W : Nat → Nat → L2.St → Hp → Prop, (∃ m, W 0 m σ H) ∧ ∀ i m σ H, W i m σ H →
      (J.stop i H ∧ D.nx σ H) ∨ (J.go i H ∧ ∃ N : L2.St → Hp → Prop, (∀ σ' H', N σ' H' → ∃ m', m' < m ∧ W (i + 1) m' σ' H') ∧ ∀ x H', J.yld i H x H' → g x σ H' fun σ2 H2 => tb { D with nx := N, ct := N, bk := D.nx } σ2 H2) := by
  refine ⟨fun i m σ H => i + m = n ∧ Pv i σ H, ⟨n, Nat.zero_add _, h0⟩, fun i m σ H h => ?_⟩
  obtain ⟨e, p⟩ := h
  cases m with
  | zero =>
    have e' : i = n := e
    subst e'
    exact .inl ⟨hst σ H p, hd σ H p⟩
  | succ m =>
    have hi : i < n := by omega
    exact .inr ⟨hgo i σ H hi p, Pv (i + 1), fun σ' H' p' => ⟨m, Nat.lt_succ_self m, by omega, p'⟩, fun x H' y => hs i x σ H H' hi p y⟩
section
variable {X : Cx} {K : PySem.W.Frag} (hK : X.K = K)
include hK
theorem oc_pg_tup {es : List Expr} {k : Nat} {t : TGs} {n : Nat} {pos : Pos} (hc : X.calm = true) (h : PGs X es t)
    (hn : (assignEach es X.env).length = n := by rfl) (hst : (assignEach es X.env).findIdx? (·.1) = none := by rfl) : PG X (.Tuple es k pos) (gTup K n t) := hK ▸ pg_tup hc h hn hst
end
theorem rep_map {α : Type} (f : α → V) (k : Nat) (xs : List α) : (List.replicate k (xs.map f)).flatten = ((List.replicate k xs).flatten).map f := by
  induction k with
  | zero => rfl
  | succ k ih => rw [List.replicate_succ, List.replicate_succ, List.flatten_cons, List.flatten_cons, ih, List.map_append]
theorem len_rep {α : Type} (k : Nat) (xs : List α) : (List.replicate k xs).flatten.length = k * xs.length := by
  induction k with
  | zero => simp
  | succ k ih => rw [List.replicate_succ, List.flatten_cons, List.length_append, ih, Nat.succ_mul, Nat.add_comm]
theorem oc_repI {X : Cx} : OpR X (binaryOp .Mult) (fun x y H Q => ∃ l k, ∃ ns : List Int, x = .ref l ∧ y = .int k ∧ H l = some (.lst (ns.map V.int)) ∧ (k < 1000000 ∧ -1000000 < k ∧ ns.length * k.toNat ≤ 1000000) ∧ ∀ p, H p = none → Q (.ref p) (upd H p (.lst ((List.replicate k.toNat ns).flatten.map V.int)))) := fun pins s σ H x y v u Q I rx ry ⟨l, k, ns, e1, e2, h1, ⟨b1, b2, b3⟩, q⟩ =>
  op_rep pins s σ H x y v u Q I rx ry ⟨l, k, _, e1, e2, h1, by omega, by omega, small' (by rw [List.length_map]; exact b3), by rw [rep_map]; exact q⟩
end Oc
namespace Oc
open PySem PySem.Spec PyProof.Rows L2
/-- an int or None -/
def ov : Option Int → V
  | none => .non
  | some i => .int i
theorem ov_none (o : Option Int) : decide (ov o = V.non) = o.isNone := by
  cases o <;> rfl
/-- xs[-1], a list of ints that is not empty -/
theorem oc_ixLast {X : Cx} {K : PySem.W.Frag} (hK : X.K = K) : IxR X (fun x y H Q => ∃ p, ∃ ns : List Int, x = .ref p ∧ y = .int (-1) ∧ SqL K H p (ns.map V.int) ∧ ∃ i, ns.getLast? = some i ∧ Q (.int i) H) := fun va sl pins s σ H x y v u Q I rx ry ⟨p, ns, e1, e2, h, i, b, q⟩ hs =>
  ix_list va sl pins s σ H x y v u Q I rx ry ⟨p, _, -1, .int i, e1, e2, hK ▸ h, by
    have e : ns = ns.dropLast ++ [i] := by
      have z := List.getLast?_eq_some_iff.mp b
      obtain ⟨ys, rfl⟩ := z
      simp
    rw [e, List.map_append]
    exact atI_last _ _, q⟩ hs
theorem isEmpty_pos {ns : List Int} (h : (!(ns.map V.int).isEmpty) = true) : 0 < ns.length := by
  cases ns with
  | nil => cases h
  | cons a b => simp
theorem isEmpty_nil {ns : List Int} (h : (!(ns.map V.int).isEmpty) = false) : ns = [] := by
  cases ns with
  | nil => rfl
  | cons a b => cases h
theorem len_lt {ns : List Int} {i : Nat} {x : V} (h : (ns.map V.int)[i]? = some x) : i < ns.length := by
  have z := (List.getElem?_eq_some_iff.mp h).1
  rwa [List.length_map] at z
theorem at_int {ns : List Int} {i : Nat} {x : V} (h : (ns.map V.int)[i]? = some x) : ∃ n, ns[i]? = some n ∧ x = .int n := by
  rw [List.getElem?_map] at h
  cases e : ns[i]? with
  | none =>
    rw [e] at h
    cases h
  | some n =>
    rw [e] at h
    exact ⟨n, rfl, (Option.some.inj h).symm⟩
/-- the list from behind: one item more -/
theorem rev_step {ns : List Int} {i : Nat} {x : Int} (h : ns.reverse[i]? = some x) : ns.drop (ns.length - (i + 1)) = x :: ns.drop (ns.length - i) := by
  have hi : i < ns.length := by
    have z := (List.getElem?_eq_some_iff.mp h).1
    rwa [List.length_reverse] at z
  rw [List.getElem?_reverse hi] at h
  have e : ns.length - i = (ns.length - (i + 1)) + 1 := by omega
  have h2 : ns[ns.length - (i + 1)]? = some x := by
    rw [← h]
    congr 1
    omega
  obtain ⟨hl, hv⟩ := List.getElem?_eq_some_iff.mp h2
  rw [e, List.drop_eq_getElem_cons hl, hv]
end Oc
namespace Oc
open PySem PySem.Spec PyProof.Rows L2
theorem oc_lcE {K : PySem.W.Frag} {a : Addr} {g : TG} {tt : TT} {te : TE} {vs : List Nat} {σ : L2.St} {H0 : Hp} {D : Addr} {Qd : Hp → Prop} (xs : List V) (Pv : Nat → Hp → Prop) (h0 : Pv 0 H0) (hl : ∀ i H, Pv i H → SqL K H a xs)
    (hs : ∀ i x T H H', xs[i]? = some x → Pv i H → H T = none → upd H T (.tup [.int (i : Nat), x]) = H' → g (.ref T) (wipe σ vs) H' fun σ2 H2 => wipe σ2 vs = wipe σ vs ∧ tt σ2 H2 fun b H3 =>
      if b = true then te σ2 H3 fun y H4 => ∃ acc, H4 D = some (.lst acc) ∧ acc.length < sizeLine ∧ Pv (i + 1) (upd H4 D (.lst (acc ++ [y]))) else Pv (i + 1) H3) (hd : ∀ H, Pv xs.length H → Qd H) :
    ∃ W : Nat → Nat → Hp → Prop, (∃ m, W 0 m H0) ∧ ∀ i m H, W i m H →
      ((Ite K a).stop i H ∧ Qd H) ∨ ((Ite K a).go i H ∧ ∃ Nx : Hp → Prop, (∀ H', Nx H' → ∃ m', m' < m ∧ W (i + 1) m' H') ∧ ∀ x H', (Ite K a).yld i H x H' → g x (wipe σ vs) H' fun σ2 H2 => wipe σ2 vs = wipe σ vs ∧ tt σ2 H2 fun b H3 =>
        if b = true then te σ2 H3 fun y H4 => ∃ acc, H4 D = some (.lst acc) ∧ acc.length < sizeLine ∧ Nx (upd H4 D (.lst (acc ++ [y]))) else Nx H3) :=
  oc_lc (n := xs.length) Pv h0 (fun i H hi p => ⟨xs, xs[i], hl i H p, List.getElem?_eq_getElem hi⟩) (fun H p => ⟨xs, hl _ H p, Nat.le_refl _⟩)
    (fun i x H H' hi p y => by
      obtain ⟨T, z, e1, e2, e3, e4⟩ := y
      rw [e1]
      exact hs i z T H H' (e4 xs (hl i H p)) p e2 e3.symm) hd
end Oc
theorem Oc.mulb {a b : Nat} (A B : Nat) {C : Nat} (ha : a ≤ A) (hb : b ≤ B) (h : A * B ≤ C) : a * b ≤ C := Nat.le_trans (Nat.mul_le_mul ha hb) h
namespace Oc
open PySem PySem.Spec PyProof.Rows L2
/-! ### guards: what kind of chunk, what form of list -/
theorem hI0 {H : Hp} {a : Addr} (h : H a = some (.lst [])) : H a = some (.lst (List.map V.int [])) := h
theorem hI1 {H : Hp} {a : Addr} {x : Int} (h : H a = some (.lst [V.int x])) : H a = some (.lst (List.map V.int [x])) := h
theorem hI2 {H : Hp} {a : Addr} {x y : Int} (h : H a = some (.lst [V.int x, V.int y])) : H a = some (.lst (List.map V.int [x, y])) := h
theorem hI3 {H : Hp} {a : Addr} {x y z : Int} (h : H a = some (.lst [V.int x, V.int y, V.int z])) : H a = some (.lst (List.map V.int [x, y, z])) := h
theorem gS {H : Hp} {a : Addr} {o : HO} {L : List Asr} (h : Sts (pto a o :: L) H) : Sts (pto a o :: L) H := h
theorem gL {H : Hp} {a : Addr} {ns : List Int} {L : List Asr} (h : Sts (pto a (.lst (ns.map V.int)) :: L) H) : Sts (pto a (.lst (ns.map V.int)) :: L) H := h
theorem gI0 {H : Hp} {a : Addr} {L : List Asr} (h : Sts (pto a (.lst []) :: L) H) : Sts (pto a (.lst (List.map V.int [])) :: L) H := h
theorem gI1 {H : Hp} {a : Addr} {x : Int} {L : List Asr} (h : Sts (pto a (.lst [V.int x]) :: L) H) : Sts (pto a (.lst (List.map V.int [x])) :: L) H := h
theorem gI2 {H : Hp} {a : Addr} {x y : Int} {L : List Asr} (h : Sts (pto a (.lst [V.int x, V.int y]) :: L) H) : Sts (pto a (.lst (List.map V.int [x, y])) :: L) H := h
theorem gQ {K : PySem.W.Frag} {H : Hp} {a : Addr} {xs : List V} {L : List Asr} (h : Sts (sqc K a xs :: L) H) : Sts (sqc K a xs :: L) H := h
end Oc
theorem Oc.cutL_len {α : Type} (xs : List α) (lo hi : Option Int) : (Oc.cutL xs lo hi).length ≤ xs.length := by
  unfold Oc.cutL
  rw [List.length_take, List.length_drop]
  omega
theorem Oc.le_cut2 {α : Type} {xs ys : List α} {lo hi lo' hi' : Option Int} {n : Nat} (h : xs.length + ys.length ≤ n) : (Oc.cutL xs lo hi).length + (Oc.cutL ys lo' hi').length ≤ n := Nat.le_trans (Nat.add_le_add (Oc.cutL_len _ _ _) (Oc.cutL_len _ _ _)) h
namespace Oc
open PySem PySem.Spec PyProof.Rows L2
/-! ### dicts with int keys -/
section
variable {α : Type}
def dM (f : α → V) (ps : List (Int × α)) : List (Key × V) := ps.map fun p => (Sum.inl p.1, f p.2)
def getP (ps : List (Int × α)) (k : Int) : Option α := (ps.find? fun p => decide (p.1 = k)).map (·.2)
def putP (ps : List (Int × α)) (k : Int) (v : α) : List (Int × α) := if (ps.any fun p => decide (p.1 = k)) = true then ps.map (fun p => if p.1 = k then (p.1, v) else p) else ps ++ [(k, v)]
theorem keyeq (a b : Int) : decide ((Sum.inl a : Key) = Sum.inl b) = decide (a = b) := by
  by_cases h : a = b
  · rw [h, decide_eq_true rfl, decide_eq_true rfl]
  · rw [decide_eq_false h, decide_eq_false fun e => h (Sum.inl.inj e)]
theorem getP_pos {p : Int × α} {r : List (Int × α)} {k : Int} (e : p.1 = k) : getP (p :: r) k = some p.2 := by simp [getP, List.find?_cons, e]
theorem getP_neg {p : Int × α} {r : List (Int × α)} {k : Int} (e : ¬ p.1 = k) : getP (p :: r) k = getP r k := by simp [getP, List.find?_cons, e]
theorem valV_dM (f : α → V) (k : Int) : ∀ ps : List (Int × α), valV (dM f ps) (.inl k) = (getP ps k).map f
  | [] => rfl
  | p :: r => by
    by_cases e : p.1 = k
    · rw [getP_pos e]
      exact valV_pos (p := (Sum.inl p.1, f p.2)) (by rw [e])
    · rw [getP_neg e, ← valV_dM f k r]
      exact valV_neg (p := (Sum.inl p.1, f p.2)) (fun z => e (Sum.inl.inj z))
theorem putK_dM (f : α → V) (ps : List (Int × α)) (k : Int) (v : α) : putK (dM f ps) (.inl k) (f v) = dM f (putP ps k v) := by
  unfold putK putP
  have e : ((dM f ps).any fun kv => decide (kv.1 = Sum.inl k)) = ps.any fun p => decide (p.1 = k) := by
    unfold dM
    rw [List.any_map]
    congr 1
    funext p
    exact keyeq p.1 k
  rw [e]
  split
  · unfold dM
    rw [List.map_map, List.map_map]
    congr 1
    funext p
    show (if (Sum.inl p.1 : Key) = Sum.inl k then ((Sum.inl p.1 : Key), f v) else (Sum.inl p.1, f p.2)) = (Sum.inl (if p.1 = k then (p.1, v) else p).1, f (if p.1 = k then (p.1, v) else p).2)
    by_cases h : p.1 = k
    · rw [if_pos h, if_pos (by rw [h])]
    · rw [if_neg h, if_neg fun z => h (Sum.inl.inj z)]
  · unfold dM
    rw [List.map_append]
    rfl
theorem getP_any (k : Int) : ∀ ps : List (Int × α), (ps.any fun p => decide (p.1 = k)) = (getP ps k).isSome
  | [] => rfl
  | p :: r => by
    rw [List.any_cons]
    by_cases e : p.1 = k
    · rw [getP_pos e, decide_eq_true e]
      rfl
    · rw [getP_neg e, decide_eq_false e, Bool.false_or]
      exact getP_any k r
theorem getP_mem {k : Int} {v : α} : ∀ {ps : List (Int × α)}, getP ps k = some v → (k, v) ∈ ps
  | [], h => nomatch h
  | p :: r, h => by
    by_cases e : p.1 = k
    · rw [getP_pos e] at h
      cases h
      rw [← e]
      exact List.mem_cons_self
    · rw [getP_neg e] at h
      exact List.mem_cons_of_mem _ (getP_mem h)
theorem getP_none {k : Int} {ps : List (Int × α)} (h : getP ps k = none) : ∀ p ∈ ps, p.1 ≠ k := fun p hp e => by
  have z := getP_any k ps
  rw [h] at z
  exact absurd (decide_eq_true e) (by simpa using (List.any_eq_false.mp z p hp))
theorem keys_put (ps : List (Int × α)) (k : Int) (v : α) : (putP ps k v).map (·.1) = if (getP ps k).isSome = true then ps.map (·.1) else ps.map (·.1) ++ [k] := by
  unfold putP
  rw [getP_any]
  split
  · rw [List.map_map]
    congr 1
    funext p
    show (if p.1 = k then (p.1, v) else p).1 = p.1
    split <;> rfl
  · rw [List.map_append]
    rfl
theorem nodup_put {ps : List (Int × α)} {k : Int} {v : α} (h : (ps.map (·.1)).Nodup) : ((putP ps k v).map (·.1)).Nodup := by
  rw [keys_put]
  split
  · exact h
  · rename_i g
    refine List.nodup_append.mpr ⟨h, List.nodup_cons.mpr ⟨List.not_mem_nil, List.nodup_nil⟩, fun a ha b hb e => ?_⟩
    have hb : b = k := by simpa using hb
    obtain ⟨p, hp, ep⟩ := List.mem_map.mp ha
    refine getP_none (ps := ps) (k := k) ?_ p hp (by rw [ep, e, hb])
    cases q : getP ps k with
    | none => rfl
    | some _ => rw [q] at g; exact absurd rfl g
theorem key_put {ps : List (Int × α)} {k : Int} {v : α} {P : Int → Prop} (h : ∀ p ∈ ps, P p.1) (hk : P k) : ∀ p ∈ putP ps k v, P p.1 := fun p hp => by
  have e : p.1 ∈ (putP ps k v).map (·.1) := List.mem_map_of_mem hp
  rw [keys_put] at e
  split at e
  · obtain ⟨q, hq, eq⟩ := List.mem_map.mp e
    rw [← eq]
    exact h q hq
  · rcases List.mem_append.mp e with e | e
    · obtain ⟨q, hq, eq⟩ := List.mem_map.mp e
      rw [← eq]
      exact h q hq
    · have e : p.1 = k := by simpa using e
      rw [e]
      exact hk
/-- a weight over a dict of ints -/
def wS (g : Int → Int) (ps : List (Int × Int)) : Int := (ps.map fun p => p.2 * g p.1).sum
theorem wS_app (g : Int → Int) (ps qs : List (Int × Int)) : wS g (ps ++ qs) = wS g ps + wS g qs := by
  unfold wS
  rw [List.map_append, List.sum_append]
theorem wS_put (g : Int → Int) (k v : Int) : ∀ {ps : List (Int × Int)}, (ps.map (·.1)).Nodup → wS g (putP ps k v) = wS g ps + (v - (getP ps k).getD 0) * g k
  | [], _ => by
    show wS g [(k, v)] = wS g [] + (v - 0) * g k
    unfold wS
    simp
  | p :: r, h => by
    obtain ⟨h1, h2⟩ := List.nodup_cons.mp h
    by_cases e : p.1 = k
    · rw [getP_pos e]
      have hr : ∀ q ∈ r, q.1 ≠ k := fun q hq z => h1 (by show p.1 ∈ _; rw [e, ← z]; exact List.mem_map_of_mem (f := fun x : Int × Int => x.1) hq)
      have e1 : putP (p :: r) k v = (k, v) :: r := by
        unfold putP
        rw [List.any_cons, decide_eq_true e, Bool.true_or, if_pos rfl, List.map_cons, if_pos e, e]
        congr 1
        refine (List.map_congr_left fun q hq => ?_).trans (List.map_id r)
        rw [if_neg (hr q hq)]
        rfl
      rw [e1]
      show ((k, v) :: r |>.map fun p => p.2 * g p.1).sum = ((p :: r).map fun p => p.2 * g p.1).sum + _
      rw [List.map_cons, List.map_cons, List.sum_cons, List.sum_cons, e]
      show v * g k + _ = p.2 * g k + _ + (v - p.2) * g k
      rw [Int.sub_mul]
      omega
    · rw [getP_neg e]
      have ih := wS_put g k v (ps := r) h2
      have e1 : putP (p :: r) k v = p :: putP r k v := by
        unfold putP
        rw [List.any_cons, decide_eq_false e, Bool.false_or]
        split
        · rw [List.map_cons, if_neg e]
        · rfl
      rw [e1]
      have c1 : ∀ l : List (Int × Int), wS g (p :: l) = p.2 * g p.1 + wS g l := fun l => by
        unfold wS
        rw [List.map_cons, List.sum_cons]
      rw [c1, c1, ih]
      omega
end
theorem gD {α : Type} {f : α → V} {H : Hp} {a : Addr} {ps : List (Int × α)} {L : List Asr} (h : Sts (pto a (.dK (dM f ps)) :: L) H) : Sts (pto a (.dK (dM f ps)) :: L) H := h
theorem gD0 {α : Type} (f : α → V) {H : Hp} {a : Addr} {L : List Asr} (h : Sts (pto a (.dK []) :: L) H) : Sts (pto a (.dK (dM f [])) :: L) H := h
theorem gDx {H : Hp} {a : Addr} {kvs : List (Key × V)} {L : List Asr} (h : Sts (pto a (.dK kvs) :: L) H) : Sts (pto a (.dK kvs) :: L) H := h
def tGetD {α : Type} (f : α → V) (td ty tx : TE) : TE := fun σ H Q => td σ H fun x H1 => ∃ a, x = .ref a ∧ (∃ kvs L, Sts (pto a (.dK kvs) :: L) H1) ∧ ty σ H1 fun y H2 => tx σ H2 fun z H3 =>
  ∃ k j, y = .int k ∧ z = f j ∧ ∃ ps L, Sts (pto a (.dK (dM f ps)) :: L) H3 ∧ Q (f ((getP ps k).getD j)) H3
section
variable {X : Cx} {o e g : Expr} {apos cpos pos p : Pos} {td ty tx : TE}
theorem oc_dget2 {α : Type} (f : α → V) (hu : X.A.units + 1 < cLine) (ho : PE X o td) (he : PE X e ty) (hg : PE X g tx) (m : M2 X o "get" apos e g cpos) : PE X (.Call (.Attribute o "get" apos) [e, g] [] cpos) (tGetD f td ty tx) := by
  refine ⟨fun pn s0 σ H Q J h => wpAny_Call_method m.base m.few m.line PySem.F.plainAttrs_dict PySem.F.slot_dict_get PySem.F.type_dict_get ?_⟩
  refine thn (ho.run pn s0 σ H _ J h) fun u s1 ⟨x, H1, J1, rx, a, ex, ⟨kvs, L, S⟩, q1⟩ => ?_
  subst ex
  obtain rfl : u = Value.ref a := rx
  obtain ⟨t1, t2, _⟩ := isD_at J1 (.inl ⟨kvs, .inl S.hd⟩)
  refine ⟨t1, t2, ?_⟩
  rw [m.trees]
  refine Calls.callWith_builtin rfl (Calls.evalArgs_plain (Calls.spliced_cons (thn (he.run pn s1 σ H1 _ J1 q1) fun iv s2 ⟨y, H2, J2, ry, q2⟩ => ?_)))
  refine Calls.spliced_cons (thn (hg.run pn s2 σ H2 _ J2 q2) fun fv s3 ⟨z, H3, J3, rz, k, j, ey, ez, ps, M, T, q3⟩ => Calls.spliced_nil ?_)
  subst ey ez
  refine d_get2 hu J3 (.inl ⟨dM f ps, .inl k, .inl T.hd, rfl, rfl⟩) ry rz fun w' s4 J4 rw' => ⟨_, H3, J4, ?_, q3⟩
  rw [valV_dM] at rw'
  cases q : getP ps k with
  | none =>
    rw [q] at rw'
    exact rw'
  | some v =>
    rw [q] at rw'
    exact rw'
theorem oc_setD {α : Type} (f : α → V) (hu : X.A.units + 1 < cLine) : PSet X (fun o i v H Q => ∃ p k, o = .ref p ∧ i = .int k ∧ ∃ j, v = f j ∧ ∃ ps L, Sts (pto p (.dK (dM f ps)) :: L) H ∧ ps.length ≤ 1000000 ∧
    ∀ H', Sts (pto p (.dK (dM f (putP ps k j))) :: L) H' → Q H') := by
  intro pn s0 σ H o i v ov iv u Q J ro ri rv ⟨p, k, eo, ei, j, ev, ps, L, S, hl, q⟩
  subst eo ei ev
  cases ro
  refine d_setItem hu J (.inl ⟨dM f ps, .inl k, S.hd, rfl, small (by unfold dM; rw [List.length_map]; exact hl), rfl⟩) ri rv fun s1 J1 => ⟨_, J1, q _ ?_⟩
  rw [putK_dM]
  exact S.put _
def tSumVals (td : TE) : TE := fun σ H Q => td σ H fun x H1 => ∃ a, x = .ref a ∧ ∃ ps L, Sts (pto a (.dK (dM V.int ps)) :: L) H1 ∧ Q (.int (ps.map (·.2)).sum) H1
theorem preS (f : Nat → Int) : ∀ (l : List Int) (n : Nat), (∀ i, l.getD i 0 = f (n + i)) → preSum f (n + l.length) = preSum f n + l.sum
  | [], n, _ => by simp
  | x :: l, n, h => by
    have h0 : x = f n := by simpa using h 0
    have ih := preS f l (n + 1) fun i => by
      have z := h (i + 1)
      rw [show n + 1 + i = n + (i + 1) by omega, ← z]
      rfl
    have e : preSum f (n + 1) = preSum f n + f n := rfl
    rw [List.length_cons, show n + (l.length + 1) = n + 1 + l.length by omega, ih, e, List.sum_cons, h0]
    omega
theorem oc_sumVals (hc : X.calm = true) (hg : Gl X "sum") (hm : X.mg "sum" = none) (hd : PE X o td) (hbase : attributeBase o "values" X.env (eval o X.env) = eval o X.env := by rfl) (hline : (apos.endLine == cpos.line) = true := by rfl)
    (hse : starEach [Expr.Call (.Attribute o "values" apos) [] [] cpos] X.env = [(false, eval (Expr.Call (.Attribute o "values" apos) [] [] cpos) X.env)] := by rfl) :
    PE X (.Call (.Name "sum" p) [.Call (.Attribute o "values" apos) [] [] cpos] [] pos) (tSumVals td) := by
  refine ⟨fun pn s0 σ H Q J h => wpAny_Call_Name_kw (ld_blt J hg hm (u := .builtin "sum") (by first | rfl | decide +kernel) ?_ (by first | decide +kernel | decide) (by first | decide +kernel | decide))⟩
  rw [hse]
  refine PySem.callWith_builtin1 (wpAny_Call_method0_late hbase hline (thn (hd.run pn s0 σ H _ J h) fun v s1 ⟨x, H1, J1, r1, a, ex, ps, L, S, q⟩ => ?_))
  subst ex
  obtain rfl : v = Value.ref a := r1
  obtain ⟨_, hsys, vs, rel, dof⟩ := dk_of J1.hok S.hd
  obtain ⟨ep, dat⟩ := dof.dictAt
  have dat' := dat
  obtain ⟨ob, es, ho, ex, hdat, hko, hpr, hnd⟩ := dat'
  refine ⟨"dict", "dict.values", F.plainAttrs_dict, F.slot_dict_values, F.type_dict_values, ⟨ob, ho, ex.1⟩, fun b e => ?_, Calls.callWith_builtin rfl (PySem.evalArgs_none ?_)⟩
  · cases e
    exact ⟨ob, ho, ex.2.1⟩
  refine call_meetsIn F.slot_dict_values ⟨ob, ho, ex.1⟩ F.entry_dict_values (F.args_dict_values_1 _) (meets_dict_values (mixKind X.prog X.w) a hsys) ⟨⟨vs, dof⟩, ?_⟩
  have k1 : ∀ b u, s1.heap.get? b = some u → (s1.heap.push { cls := .type "dict_values", data := .fields #[.ref a] }).get? b = some u := fun b u => Heap.get?_push_of_some _
  have dat1 := dat.keep k1
  have hlv : vs.length = ps.length := by
    have z := KV.length rel
    unfold dM at z
    rw [List.length_map] at z
    exact z.symm
  have hval : ∀ (i : Nat) (v : Value), (∃ k, vs[i]? = some (k, v)) → ∃ t, v = Value.int ((ps.map (·.2)).getD i 0) t := fun i v ⟨k, hk⟩ => by
    obtain ⟨x, h1, h2⟩ := KV.at' rel hk
    unfold dM at h1
    rw [List.getElem?_map] at h1
    obtain ⟨j, hj, e2⟩ := Option.map_eq_some_iff.mp h1
    have e3 : x = V.int j.2 := (congrArg Prod.snd e2).symm
    subst e3
    obtain ⟨t, e4⟩ := h2
    exact ⟨t, by rw [e4, List.getD_eq_getElem?_getD, List.getElem?_map, hj]; rfl⟩
  refine call_sum_walkG (wpAny_pyIter_values (v := s1.heap.objs.size) (d := a) ⟨_, Heap.get?_push_size _ rfl, rfl, rfl⟩ dat1 ?_)
  have hlt : a < s1.heap.objs.size := Heap.lt_size ho
  have hsz : (s1.heap.push { cls := .type "dict_values", data := .fields #[.ref a] }).objs.size = s1.heap.objs.size + 1 := Heap.size_push _ _
  refine ⟨_, _, _, _, _, _, _, rfl, Walks.dictValues (knd := mixKind X.prog X.w) (A := X.A.in1) (J.ok.hd hc) (s1.heap.push { cls := .type "dict_values", data := .fields #[.ref a] }).objs.size a (by rw [hsz]; exact Nat.ne_of_lt (Nat.lt_succ_of_lt hlt)) vs ep,
    ⟨⟨_, Heap.get?_push_size _ rfl, rfl, rfl⟩, dat1.keep fun b u e => Heap.get?_push_of_some _ e⟩, fun b hb => ?_, hval, fun h' tk t' hk => ?_⟩
  · show b < ((s1.heap.push _).push _).objs.size
    rw [Heap.size_push, Heap.size_push]
    rw [hsz] at hb
    have l1 := Nat.lt_succ_of_lt hlt
    refine (List.mem_cons.mp hb).elim (fun e => e ▸ Nat.lt_succ_self _) fun hb => ?_
    rw [show b = a from List.mem_singleton.mp hb]
    exact Nat.lt_succ_of_lt l1
  · have es : preSum (fun i => (ps.map (·.2)).getD i 0) vs.length = (ps.map (·.2)).sum := by
      have z := preS (fun i => (ps.map (·.2)).getD i 0) (ps.map (·.2)) 0 fun i => by rw [Nat.zero_add]
      have z0 : preSum (fun i => (ps.map (·.2)).getD i 0) 0 = 0 := rfl
      rw [Nat.zero_add, List.length_map, z0, Int.zero_add] at z
      rw [hlv]
      exact z
    rw [es]
    refine ⟨.int _, H1, J1.kept (t' := tk) fun b u e => hk b u (fun hmem => ?_) (Heap.get?_push_of_some _ (k1 b u e)), ⟨t', rfl⟩, q⟩
    have e1 := List.mem_singleton.mp hmem
    have e2 := Heap.lt_size e
    rw [e1, hsz] at e2
    exact Nat.lt_irrefl _ (Nat.lt_of_succ_lt e2)
/-- a statement that runs while a dict or list is locked -/
def tLockO (t : TS) : TS := fun D σ H => ∃ d u L, Sts (pto d u :: L) H ∧ Mut (some u) ∧ ∀ od H1, Sts (pto d (.frz od u) :: L) H1 → t
  ⟨fun σ' H' => ∃ M, Sts (pto d (.frz od u) :: M) H' ∧ ∀ H2, Sts (pto d u :: M) H2 → D.nx σ' H2, fun v H' => ∃ M, Sts (pto d (.frz od u) :: M) H' ∧ ∀ H2, Sts (pto d u :: M) H2 → D.rt v H2,
   fun σ' H' => ∃ M, Sts (pto d (.frz od u) :: M) H' ∧ ∀ H2, Sts (pto d u :: M) H2 → D.bk σ' H2, fun σ' H' => ∃ M, Sts (pto d (.frz od u) :: M) H' ∧ ∀ H2, Sts (pto d u :: M) H2 → D.ct σ' H2⟩ σ H1
theorem oc_lock {st : Stmt} {t : TS} (h : PS X st t) : PS X st (tLockO t) := by
  refine ⟨fun pn s0 σ H D J ⟨d, u, L, S, mu, hw⟩ => ?_⟩
  obtain ⟨od, J1⟩ := J.lock S.hd mu
  refine thn (h.run pn s0 σ _ _ J1 (hw od _ (S.put _))) fun f s1 q => ?_
  cases f with
  | next =>
    obtain ⟨σ', H', J2, M, S2, q⟩ := q
    exact ⟨σ', _, J2.unlock S2.hd (J.nofrz S.hd mu), q _ (S2.put u)⟩
  | brk =>
    obtain ⟨σ', H', J2, M, S2, q⟩ := q
    exact ⟨σ', _, J2.unlock S2.hd (J.nofrz S.hd mu), q _ (S2.put u)⟩
  | cont =>
    obtain ⟨σ', H', J2, M, S2, q⟩ := q
    exact ⟨σ', _, J2.unlock S2.hd (J.nofrz S.hd mu), q _ (S2.put u)⟩
  | ret v =>
    obtain ⟨x, σ', H', J2, r, M, S2, q⟩ := q
    exact ⟨x, σ', _, J2.unlock S2.hd (J.nofrz S.hd mu), r, q _ (S2.put u)⟩
end
/-- for k, v in d.items() -/
theorem for_items {α : Type} {f : α → V} {d : Addr} {od : Obj} {g : TG} {tb : TS} {D : Ends} {σ : L2.St} {H : Hp} (ps : List (Int × α)) (Pv : Nat → L2.St → Hp → Prop) (h0 : Pv 0 σ H) (hl : ∀ i σ H, Pv i σ H → ∃ L, Sts (pto d (.frz od (.dK (dM f ps))) :: L) H)
    (hs : ∀ i k v T σ H H', ps[i]? = some (k, v) → Pv i σ H → H T = none → upd H T (.tup [.int k, f v]) = H' → g (.ref T) σ H' fun σ2 H2 => tb { D with nx := Pv (i + 1), ct := Pv (i + 1), bk := D.nx } σ2 H2) (hd : ∀ σ H, Pv ps.length σ H → D.nx σ H) :
    ∃ W : Nat → Nat → L2.St → Hp → Prop, (∃ m, W 0 m σ H) ∧ ∀ i m σ H, W i m σ H →
      ((Iti d od (dM f ps)).stop i H ∧ D.nx σ H) ∨ ((Iti d od (dM f ps)).go i H ∧ ∃ N : L2.St → Hp → Prop, (∀ σ' H', N σ' H' → ∃ m', m' < m ∧ W (i + 1) m' σ' H') ∧ ∀ x H', (Iti d od (dM f ps)).yld i H x H' → g x σ H' fun σ2 H2 => tb { D with nx := N, ct := N, bk := D.nx } σ2 H2) := by
  have el : (dM f ps).length = ps.length := by
    unfold dM
    rw [List.length_map]
  refine oc_for (n := ps.length) Pv h0 (fun i σ H hi p => ?_) (fun σ H p => ?_) (fun i x σ H H' hi p y => ?_) hd
  · obtain ⟨L, S⟩ := hl i σ H p
    exact ⟨S.hd, by rw [el]; exact hi⟩
  · obtain ⟨L, S⟩ := hl _ σ H p
    exact ⟨S.hd, by rw [el]; exact Nat.le_refl _⟩
  · obtain ⟨T, k, v, h1, h2, h3, h4⟩ := y
    unfold dM at h1
    rw [List.getElem?_map] at h1
    obtain ⟨j, hj, e⟩ := Option.map_eq_some_iff.mp h1
    cases e
    rw [h2]
    exact hs i j.1 j.2 T σ H H' hj p h3 h4.symm
end Oc
namespace Oc
open PySem PySem.Spec PyProof.Rows L2
theorem atI_last2 (l : List Int) (i j : Int) : atI ((l ++ [i, j]).map V.int) (-2) = some (.int i) := by
  have hl : ((l ++ [i, j]).map V.int).length = l.length + 2 := by simp
  unfold atI ixN
  rw [hl, if_neg (by decide), if_pos (by omega)]
  show ((l ++ [i, j]).map V.int)[(-2 + ((l.length + 2 : Nat) : Int)).toNat]? = _
  rw [show (-2 + ((l.length + 2 : Nat) : Int)).toNat = l.length by omega]
  simp
/-- xs[-2], a list of ints that ends with i, j -/
theorem oc_ixLast2 {X : Cx} {K : PySem.W.Frag} (hK : X.K = K) : IxR X (fun x y H Q => ∃ p, ∃ ns : List Int, x = .ref p ∧ y = .int (-2) ∧ SqL K H p (ns.map V.int) ∧ ∃ l i j, ns = l ++ [i, j] ∧ Q (.int i) H) := fun va sl pins s σ H x y v u Q I rx ry ⟨p, ns, e1, e2, h, l, i, j, b, q⟩ hs =>
  ix_list va sl pins s σ H x y v u Q I rx ry ⟨p, _, -2, .int i, e1, e2, hK ▸ h, by
    rw [b]
    exact atI_last2 l i j, q⟩ hs
theorem hI7 {H : Hp} {a : Addr} {x y z u v w t : Int} (h : H a = some (.lst [V.int x, V.int y, V.int z, V.int u, V.int v, V.int w, V.int t])) : H a = some (.lst (List.map V.int [x, y, z, u, v, w, t])) := h
theorem hI4 {H : Hp} {a : Addr} {x y z u : Int} (h : H a = some (.lst [V.int x, V.int y, V.int z, V.int u])) : H a = some (.lst (List.map V.int [x, y, z, u])) := h
theorem lc_BI {K : PySem.W.Frag} {a : Addr} {k : Nat} {te : TE} {vs : List Nat} {σ : L2.St} {H0 : Hp} {Qd : Hp → Prop} {L : List Asr} {D : Addr} (ns : List Int) (f : Int → Bool) (S : Sts (pto D (.lst []) :: L) H0) (hsq : ∀ H, Sts L H → SqL K H a (ns.map V.int)) (hl : ns.length ≤ 1000000)
    (hw : ∀ x, wipe ((wipe σ vs).set k (some x)) vs = wipe σ vs) (he : ∀ (x : Int) (H : Hp) (Q' : VK), x ∈ ns → Sts L H → Q' (.bl (f x)) H → te ((wipe σ vs).set k (some (.int x))) H Q')
    (hd : ∀ H, Sts (pto D (.lst ((ns.map f).map V.bl)) :: L) H → Qd H) :
    ∃ W : Nat → Nat → Hp → Prop, (∃ m, W 0 m H0) ∧ ∀ i m H, W i m H →
      ((Itl K a).stop i H ∧ Qd H) ∨ ((Itl K a).go i H ∧ ∃ Nx : Hp → Prop, (∀ H', Nx H' → ∃ m', m' < m ∧ W (i + 1) m' H') ∧ ∀ x H', (Itl K a).yld i H x H' → gName k x (wipe σ vs) H' fun σ2 H2 => wipe σ2 vs = wipe σ vs ∧ tYes σ2 H2 fun b H3 =>
        if b = true then te σ2 H3 fun y H4 => ∃ acc, H4 D = some (.lst acc) ∧ acc.length < sizeLine ∧ Nx (upd H4 D (.lst (acc ++ [y]))) else Nx H3) :=
  lc_pureI ns (fun x => .bl (f x)) S hsq hl hw he (fun H S => hd H (by rw [List.map_map]; exact S))
theorem all_yes (ns : List Int) : (ns.map fun _ => true).all id = true := by simp
theorem deq {α : Type} [DecidableEq α] (a : α) : decide (a = a) = true := decide_eq_true rfl
/-- int(b), in facts -/
theorem oc_int_bA {X : Cx} : CallR X (.type "int") (fun xs H Q => ∃ k, xs = [.bl k] ∧ ∀ o : Int, 0 ≤ o → o ≤ 1 → (o = 1 ↔ k = true) → Q (.int o) H) := fun pins s σ H xs us Q I r ⟨k, e, q⟩ =>
  call_int1 pins s σ H xs us Q I r (.inr ⟨k, e, q _ (by cases k <;> decide) (by cases k <;> decide) (by cases k <;> decide)⟩)
theorem gI_get {L : List Int} {k : Int} (h0 : 0 ≤ k) (h1 : k < L.length) : L[k.toNat]? = some (gI L k) := by
  have h : k.toNat < L.length := by omega
  rw [List.getElem?_eq_getElem h]
  unfold gI
  rw [List.getD_eq_getElem?_getD, List.getElem?_eq_getElem h]
  rfl
theorem rep0 (k : Nat) (x : Int) : (List.replicate k [x]).flatten = List.replicate k x := by
  induction k with
  | zero => rfl
  | succ k ih => rw [List.replicate_succ, List.flatten_cons, ih, List.replicate_succ]; rfl
end Oc
namespace Oc
open PySem PySem.Spec PyProof.Rows L2
theorem in_ints (i : Int) : ∀ ns : List Int, inV (.int i) (ns.map V.int) = decide (i ∈ ns)
  | [] => rfl
  | n :: ns => by
    have ih := in_ints i ns
    have e : inV (.int i) ((n :: ns).map V.int) = (eqV (.int n) (.int i) || inV (.int i) (ns.map V.int)) := rfl
    rw [e, ih]
    have e2 : eqV (.int n) (.int i) = decide (i = n) := by
      show (n == i) = decide (i = n)
      by_cases h : i = n
      · rw [h, decide_eq_true rfl]
        exact beq_self_eq_true n
      · rw [decide_eq_false h]
        exact beq_eq_false_iff_ne.mpr fun e => h e.symm
    rw [e2]
    by_cases h1 : i = n <;> by_cases h2 : i ∈ ns <;> simp [h1, h2]
theorem flat_ints : ∀ ns : List Int, (ns.map V.int).all flatV = true
  | [] => rfl
  | n :: ns => by
    rw [List.map_cons, List.all_cons, flat_ints ns]
    rfl
theorem oc_in_ints {X : Cx} {K : PySem.W.Frag} (hK : X.K = K) : OpR X (compareOp .In) (fun x y H Q => ∃ i p, ∃ ns : List Int, x = .int i ∧ y = .ref p ∧ SqL K H p (ns.map V.int) ∧ Q (.bl (decide (i ∈ ns))) H) := fun pins s σ H x y v u Q I rx ry ⟨i, p, ns, e1, e2, h, q⟩ =>
  op_in_seq pins s σ H x y v u Q I rx ry ⟨p, _, e2, .inl (hK ▸ h), by rw [e1]; rfl, flat_ints ns, by rw [e1, in_ints]; exact q⟩
theorem oc_and1 {X : Cx} : OpR X (binaryOp .BitAnd) (fun x y H Q => ∃ i, x = .int i ∧ y = .int 1 ∧ Q (.int (i % 2)) H) := fun pins s σ H x y v u Q I rx ry ⟨i, e1, e2, q⟩ =>
  op_and pins s σ H x y v u Q I rx ry ⟨i, 1, e1, e2, by
    show Q (.int (Builtin.bitAnd i 1)) H
    rw [PyProof.Rows.bitAnd_m1]
    exact q⟩
/-- list(range(i, j, c)) -/
def tLstRg3 (ta : TA) : TE := fun σ H Q => ta σ H fun vs H1 => ∃ (i j c : Int) (n : Nat), vs = [.int i, .int j, .int c] ∧ RgC i j c n ∧ n ≤ 1000000 ∧ ∀ q, H1 q = none → Q (.ref q) (upd H1 q (.lst (((List.range n).map fun k => i + (k : Nat) * c).map V.int)))
theorem oc_listRg3 {X : Cx} {a b c : Expr} {ta : TA} {p p2 pos pos2 : Pos} (hc : X.calm = true) (hg : Gl X "list") (hm : X.mg "list" = none) (hg2 : Gl X "range") (hm2 : X.mg "range" = none) (ha : PA X [a, b, c] ta)
    (na : starEach [Expr.Call (.Name "range" p2) [a, b, c] [] pos2] X.env = (false, eval (Expr.Call (.Name "range" p2) [a, b, c] [] pos2) X.env) :: starEach [] X.env := by rfl)
    (hs : starEach [a, b, c] X.env = (false, eval a X.env) :: starEach [b, c] X.env := by rfl) (hpl : (backTo pos2 (starEach [b, c] X.env)).any (·.1) = false := by rfl) :
    PE X (.Call (.Name "list" p) [.Call (.Name "range" p2) [a, b, c] [] pos2] [] pos) (tLstRg3 ta) := by
  refine ⟨fun pn s0 σ H Q J h => Call_ (ld_blt J hg hm boot_list (PyProof.Rows.callWith_type1 (args_cons ?_ na) na))⟩
  refine Call_ (ld_blt J hg2 hm2 boot_range (PyProof.Rows.callWith_type1 (thn (ha.run pos2 pn s0 σ H _ J h) fun us s1 ⟨vs, H1, J1, r1, i, j, k, n, e, ⟨c0, c1, c2, c3⟩, nl, q⟩ => ?_) hs hpl))
  subst e
  cases r1 with
  | cons r rr =>
    cases rr with
    | cons r' rr =>
      cases rr with
      | cons r'' rr =>
        cases rr
        obtain ⟨t, rfl⟩ := r
        obtain ⟨t', rfl⟩ := r'
        obtain ⟨t'', rfl⟩ := r''
        refine call_range_3 c0 (args_nil ?_) (.inl (PyProof.noPylong_small c1))
        have J2 : Inv X pn σ H1 { s1 with heap := s1.heap.push { cls := .type "range", data := .fields #[.int i t, .int j t', .int k t''] } } := J1.kept (t' := s1.toks) fun b o => Heap.get?_push_of_some _
        refine call_list_range (n := n) (J2.ok.hd hc) (IsRange.new ..) c2 c3 (by omega) fun h' tk acc ck hk e' hi => ?_
        have hv : Vals (((List.range n).map fun x => i + (x : Nat) * k).map V.int) acc.toList := by
          have el : acc.toList.length = n := by rw [Array.length_toList]; exact hi.1
          rw [← el, List.map_map]
          refine vals_of_get acc.toList _ fun x u hx => ?_
          obtain ⟨t, rfl⟩ := hi.2 x u (by rw [← hx, Array.getElem?_toList])
          exact ⟨t, rfl⟩
        refine ⟨.ref _, upd H1 _ (.lst (((List.range n).map fun x => i + (x : Nat) * k).map V.int)), J2.laid hk (Nat.le_refl _) (show ObjOk X.prog X.w _ _ _ (.lst (((List.range n).map fun x => i + (x : Nat) * k).map V.int)) from ⟨?_, acc.toList, ck, hv, ?_⟩), rfl, q _ (J2.hok.fresh (Nat.le_refl _))⟩
        · rw [List.length_map, List.length_map, List.length_range, sizeLine_eq]
          omega
        · rw [Array.toArray_toList]
          exact e'
theorem rgc_down {f g w : Nat} (hw : 1 ≤ w) (hw2 : w ≤ 1000) (hl : f + (g + 1) * w ≤ 1000000) : RgC ((f + (g + 1) * w : Nat) : Int) f (-(w : Int)) (g + 1) := by
  have m2 : (g + 1) * w = g * w + w := Nat.succ_mul g w
  have e : Builtin.Range.rangeSize ((f + (g + 1) * w : Nat) : Int) f (-(w : Int)) = ((g + 1 : Nat) : Int) := by
    unfold Builtin.Range.rangeSize
    rw [if_neg (by omega), if_pos (by omega), Int.neg_neg]
    have e1 : ((f + (g + 1) * w : Nat) : Int) - f - 1 = ((g * w + (w - 1) : Nat) : Int) := by omega
    have e2 : (((g * w + (w - 1) : Nat) : Int) / (w : Int)) = ((g : Nat) : Int) := by
      rw [← Int.natCast_ediv, Nat.add_comm, Nat.add_mul_div_right _ _ (by omega), Nat.div_eq_of_lt (by omega), Nat.zero_add]
    rw [e1, e2]
    rfl
  refine ⟨by omega, by omega, ?_, e⟩
  unfold Builtin.Range.small Builtin.Range.rangeFitsLong
  have gl : g + 1 ≤ 1000000 := by
    have := Nat.mul_le_mul_left (g + 1) hw
    omega
  rw [e, if_neg (by omega)]
  simp only [Bool.and_eq_true, Bool.or_eq_true, decide_eq_true_eq, beq_iff_eq]
  omega
/-- any, all over a range's turns -/
theorem lc_RB {lo : Int} {n : Nat} {k : Nat} {te : TE} {vs : List Nat} {σ : L2.St} {H0 : Hp} {Qd : Hp → Prop} {L : List Asr} {D : Addr} (f : Int → Bool) (S : Sts (pto D (.lst []) :: L) H0) (hl : n ≤ 1000000)
    (hw : ∀ x, wipe ((wipe σ vs).set k (some x)) vs = wipe σ vs) (he : ∀ (i : Nat) (H : Hp) (Q' : VK), i < n → Sts L H → Q' (.bl (f (lo + i))) H → te ((wipe σ vs).set k (some (.int (lo + i)))) H Q')
    (hd : ∀ H, Sts (pto D (.lst (((List.range n).map fun i => f (lo + (i : Nat))).map V.bl)) :: L) H → Qd H) :
    ∃ W : Nat → Nat → Hp → Prop, (∃ m, W 0 m H0) ∧ ∀ i m H, W i m H →
      ((Itr lo n).stop i H ∧ Qd H) ∨ ((Itr lo n).go i H ∧ ∃ Nx : Hp → Prop, (∀ H', Nx H' → ∃ m', m' < m ∧ W (i + 1) m' H') ∧ ∀ x H', (Itr lo n).yld i H x H' → gName k x (wipe σ vs) H' fun σ2 H2 => wipe σ2 vs = wipe σ vs ∧ tYes σ2 H2 fun b H3 =>
        if b = true then te σ2 H3 fun y H4 => ∃ acc, H4 D = some (.lst acc) ∧ acc.length < sizeLine ∧ Nx (upd H4 D (.lst (acc ++ [y]))) else Nx H3) :=
  lc_pureR (fun x => .bl (f x)) S hl hw he (fun H S => hd H (by rw [List.map_map]; exact S))
end Oc
namespace Oc
open PySem L2
section
variable {p : Prop} [Decidable p] {A B : Prop} {a b : Int}
theorem idT (h : p) (k : A) : if decide p = true then A else B := ifT (dt h) k
theorem idF (h : ¬ p) (k : B) : if decide p = true then A else B := ifF (df h) k
theorem inT (h : ¬ p) (k : A) : if (!decide p) = true then A else B := ifT (nt h) k
theorem inF (h : p) (k : B) : if (!decide p) = true then A else B := ifF (nd h) k
theorem ivT (h : a = b) (k : A) : if decide (V.int a = V.int b) = true then A else B := ifT (dt (congrArg V.int h)) k
theorem ivF (h : a ≠ b) (k : B) : if decide (V.int a = V.int b) = true then A else B := ifF (df fun e => h (V.int.inj e)) k
theorem iwT (h : a ≠ b) (k : A) : if (!decide (V.int a = V.int b)) = true then A else B := ifT (nt fun e => h (V.int.inj e)) k
theorem iwF (h : a = b) (k : B) : if (!decide (V.int a = V.int b)) = true then A else B := ifF (nd (congrArg V.int h)) k
end
end Oc
theorem Oc.gLL {H : L2.Hp} {a b : PySem.Addr} {ns ms : List Int} {L : List Oc.Asr} (h : Oc.Sts (Oc.pto a (.lst (ns.map L2.V.int)) :: Oc.pto b (.lst (ms.map L2.V.int)) :: L) H) : Oc.Sts (Oc.pto a (.lst (ns.map L2.V.int)) :: Oc.pto b (.lst (ms.map L2.V.int)) :: L) H := h
/-! ### short tactics -/
local macro_rules | `(tactic| walk_at "fr1") => `(tactic| first | exact Oc.Sts.to0 (by assumption) | exact Oc.Sts.to1 (by assumption) | exact Oc.Sts.to2 (by assumption) | exact Oc.Sts.to3 (by assumption) | exact Oc.Sts.to4 (by assumption) | exact Oc.Sts.to5 (by assumption) | exact Oc.Sts.to6 (by assumption) | exact Oc.Sts.to7 (by assumption) | exact Oc.Sts.to8 (by assumption) | exact Oc.Sts.to9 (by assumption) | exact Oc.Sts.to10 (by assumption) | exact Oc.Sts.to11 (by assumption) | exact Oc.Sts.to12 (by assumption) | exact Oc.Sts.to13 (by assumption) | exact Oc.Sts.to14 (by assumption) | exact Oc.Sts.to15 (by assumption) | exact Oc.Sts.to16 (by assumption) | exact Oc.Sts.to17 (by assumption) | exact Oc.Sts.to18 (by assumption) | exact Oc.Sts.to19 (by assumption) | exact Oc.Sts.to20 (by assumption) | exact Oc.Sts.to21 (by assumption) | exact Oc.Sts.to22 (by assumption) | exact Oc.Sts.to23 (by assumption) | exact Oc.Sts.to24 (by assumption))
local macro_rules | `(tactic| walk_at "hp") => `(tactic| first | exact Oc.Sts.hd (Oc.Sts.to0 (by assumption)) | exact Oc.Sts.hd (Oc.Sts.to1 (by assumption)) | exact Oc.Sts.hd (Oc.Sts.to2 (by assumption)) | exact Oc.Sts.hd (Oc.Sts.to3 (by assumption)) | exact Oc.Sts.hd (Oc.Sts.to4 (by assumption)) | exact Oc.Sts.hd (Oc.Sts.to5 (by assumption)) | exact Oc.Sts.hd (Oc.Sts.to6 (by assumption)) | exact Oc.Sts.hd (Oc.Sts.to7 (by assumption)) | exact Oc.Sts.hd (Oc.Sts.to8 (by assumption)) | exact Oc.Sts.hd (Oc.Sts.to9 (by assumption)) | exact Oc.Sts.hd (Oc.Sts.to10 (by assumption)) | exact Oc.Sts.hd (Oc.Sts.to11 (by assumption)) | exact Oc.Sts.hd (Oc.Sts.to12 (by assumption)) | exact Oc.Sts.hd (Oc.Sts.to13 (by assumption)) | exact Oc.Sts.hd (Oc.Sts.to14 (by assumption)) | exact Oc.Sts.hd (Oc.Sts.to15 (by assumption)) | exact Oc.Sts.hd (Oc.Sts.to16 (by assumption)) | exact Oc.Sts.hd (Oc.Sts.to17 (by assumption)) | exact Oc.Sts.hd (Oc.Sts.to18 (by assumption)) | exact Oc.Sts.hd (Oc.Sts.to19 (by assumption)) | exact Oc.Sts.hd (Oc.Sts.to20 (by assumption)) | exact Oc.Sts.hd (Oc.Sts.to21 (by assumption)) | exact Oc.Sts.hd (Oc.Sts.to22 (by assumption)) | exact Oc.Sts.hd (Oc.Sts.to23 (by assumption)) | exact Oc.Sts.hd (Oc.Sts.to24 (by assumption)))
local macro_rules | `(tactic| walk_at "sq") => `(tactic| first | exact L2.SqL.of (by walk_at "hp") | exact Oc.Sts.sq (by walk_at "fr1") | exact L2.SqL.of (Oc.hI1 (by walk_at "hp")) | exact L2.SqL.of (Oc.hI0 (by walk_at "hp")) | exact L2.SqL.of (Oc.hI2 (by walk_at "hp")) | exact L2.SqL.of (Oc.hI3 (by walk_at "hp")) | exact L2.SqL.of (Oc.hI7 (by walk_at "hp")) | exact L2.SqL.of (Oc.hI4 (by walk_at "hp")))
local macro_rules | `(tactic| walk_at "hpI") => `(tactic| first | walk_at "hp" | exact Oc.hI1 (by walk_at "hp") | exact Oc.hI0 (by walk_at "hp") | exact Oc.hI2 (by walk_at "hp") | exact Oc.hI3 (by walk_at "hp") | exact Oc.hI7 (by walk_at "hp") | exact Oc.hI4 (by walk_at "hp"))
local macro_rules | `(tactic| walk_at "frI") => `(tactic| first | walk_at "fr1" | exact Oc.gI0 (by walk_at "fr1") | exact Oc.gI1 (by walk_at "fr1") | exact Oc.gI2 (by walk_at "fr1"))
local macro_rules | `(tactic| walk_at "fr2") => `(tactic| first | (refine Oc.Sts.under (fun _ ot => ?_) (Oc.Sts.to0 (by assumption)); walk_at "fr1") | (refine Oc.Sts.under (fun _ ot => ?_) (Oc.Sts.to1 (by assumption)); walk_at "fr1") | (refine Oc.Sts.under (fun _ ot => ?_) (Oc.Sts.to2 (by assumption)); walk_at "fr1") | (refine Oc.Sts.under (fun _ ot => ?_) (Oc.Sts.to3 (by assumption)); walk_at "fr1") | (refine Oc.Sts.under (fun _ ot => ?_) (Oc.Sts.to4 (by assumption)); walk_at "fr1") | (refine Oc.Sts.under (fun _ ot => ?_) (Oc.Sts.to5 (by assumption)); walk_at "fr1") | (refine Oc.Sts.under (fun _ ot => ?_) (Oc.Sts.to6 (by assumption)); walk_at "fr1") | (refine Oc.Sts.under (fun _ ot => ?_) (Oc.Sts.to7 (by assumption)); walk_at "fr1") | (refine Oc.Sts.under (fun _ ot => ?_) (Oc.Sts.to8 (by assumption)); walk_at "fr1") | (refine Oc.Sts.under (fun _ ot => ?_) (Oc.Sts.to9 (by assumption)); walk_at "fr1") | (refine Oc.Sts.under (fun _ ot => ?_) (Oc.Sts.to10 (by assumption)); walk_at "fr1") | (refine Oc.Sts.under (fun _ ot => ?_) (Oc.Sts.to11 (by assumption)); walk_at "fr1") | (refine Oc.Sts.under (fun _ ot => ?_) (Oc.Sts.to12 (by assumption)); walk_at "fr1") | (refine Oc.Sts.under (fun _ ot => ?_) (Oc.Sts.to13 (by assumption)); walk_at "fr1") | (refine Oc.Sts.under (fun _ ot => ?_) (Oc.Sts.to14 (by assumption)); walk_at "fr1") | (refine Oc.Sts.under (fun _ ot => ?_) (Oc.Sts.to15 (by assumption)); walk_at "fr1") | (refine Oc.Sts.under (fun _ ot => ?_) (Oc.Sts.to16 (by assumption)); walk_at "fr1") | (refine Oc.Sts.under (fun _ ot => ?_) (Oc.Sts.to17 (by assumption)); walk_at "fr1") | (refine Oc.Sts.under (fun _ ot => ?_) (Oc.Sts.to18 (by assumption)); walk_at "fr1") | (refine Oc.Sts.under (fun _ ot => ?_) (Oc.Sts.to19 (by assumption)); walk_at "fr1") | (refine Oc.Sts.under (fun _ ot => ?_) (Oc.Sts.to20 (by assumption)); walk_at "fr1") | (refine Oc.Sts.under (fun _ ot => ?_) (Oc.Sts.to21 (by assumption)); walk_at "fr1") | (refine Oc.Sts.under (fun _ ot => ?_) (Oc.Sts.to22 (by assumption)); walk_at "fr1") | (refine Oc.Sts.under (fun _ ot => ?_) (Oc.Sts.to23 (by assumption)); walk_at "fr1") | (refine Oc.Sts.under (fun _ ot => ?_) (Oc.Sts.to24 (by assumption)); walk_at "fr1"))
local macro_rules | `(tactic| walk_at "fr3") => `(tactic| first | (refine Oc.Sts.under (fun _ ot => ?_) (Oc.Sts.to0 (by assumption)); walk_at "fr2") | (refine Oc.Sts.under (fun _ ot => ?_) (Oc.Sts.to1 (by assumption)); walk_at "fr2") | (refine Oc.Sts.under (fun _ ot => ?_) (Oc.Sts.to2 (by assumption)); walk_at "fr2") | (refine Oc.Sts.under (fun _ ot => ?_) (Oc.Sts.to3 (by assumption)); walk_at "fr2") | (refine Oc.Sts.under (fun _ ot => ?_) (Oc.Sts.to4 (by assumption)); walk_at "fr2") | (refine Oc.Sts.under (fun _ ot => ?_) (Oc.Sts.to5 (by assumption)); walk_at "fr2") | (refine Oc.Sts.under (fun _ ot => ?_) (Oc.Sts.to6 (by assumption)); walk_at "fr2") | (refine Oc.Sts.under (fun _ ot => ?_) (Oc.Sts.to7 (by assumption)); walk_at "fr2") | (refine Oc.Sts.under (fun _ ot => ?_) (Oc.Sts.to8 (by assumption)); walk_at "fr2") | (refine Oc.Sts.under (fun _ ot => ?_) (Oc.Sts.to9 (by assumption)); walk_at "fr2") | (refine Oc.Sts.under (fun _ ot => ?_) (Oc.Sts.to10 (by assumption)); walk_at "fr2") | (refine Oc.Sts.under (fun _ ot => ?_) (Oc.Sts.to11 (by assumption)); walk_at "fr2") | (refine Oc.Sts.under (fun _ ot => ?_) (Oc.Sts.to12 (by assumption)); walk_at "fr2") | (refine Oc.Sts.under (fun _ ot => ?_) (Oc.Sts.to13 (by assumption)); walk_at "fr2") | (refine Oc.Sts.under (fun _ ot => ?_) (Oc.Sts.to14 (by assumption)); walk_at "fr2") | (refine Oc.Sts.under (fun _ ot => ?_) (Oc.Sts.to15 (by assumption)); walk_at "fr2") | (refine Oc.Sts.under (fun _ ot => ?_) (Oc.Sts.to16 (by assumption)); walk_at "fr2") | (refine Oc.Sts.under (fun _ ot => ?_) (Oc.Sts.to17 (by assumption)); walk_at "fr2") | (refine Oc.Sts.under (fun _ ot => ?_) (Oc.Sts.to18 (by assumption)); walk_at "fr2") | (refine Oc.Sts.under (fun _ ot => ?_) (Oc.Sts.to19 (by assumption)); walk_at "fr2") | (refine Oc.Sts.under (fun _ ot => ?_) (Oc.Sts.to20 (by assumption)); walk_at "fr2") | (refine Oc.Sts.under (fun _ ot => ?_) (Oc.Sts.to21 (by assumption)); walk_at "fr2") | (refine Oc.Sts.under (fun _ ot => ?_) (Oc.Sts.to22 (by assumption)); walk_at "fr2") | (refine Oc.Sts.under (fun _ ot => ?_) (Oc.Sts.to23 (by assumption)); walk_at "fr2") | (refine Oc.Sts.under (fun _ ot => ?_) (Oc.Sts.to24 (by assumption)); walk_at "fr2"))
local macro_rules | `(tactic| walk_at "fp") => `(tactic| first | assumption | exact trivial | exact Oc.Sts.tail (by assumption) | exact Oc.Sts.tail (Oc.Sts.tail (by assumption)) | exact Oc.Sts.tail (Oc.Sts.tail (Oc.Sts.tail (by assumption))) | exact Oc.Sts.tail (Oc.Sts.tail (Oc.Sts.tail (Oc.Sts.tail (by assumption)))) | exact Oc.Sts.tail (Oc.Sts.tail (Oc.Sts.tail (Oc.Sts.tail (Oc.Sts.tail (by assumption))))) | exact Oc.Sts.tail (Oc.Sts.tail (Oc.Sts.tail (Oc.Sts.tail (Oc.Sts.tail (Oc.Sts.tail (by assumption)))))) | exact Oc.Sts.tail (Oc.Sts.tail (Oc.Sts.tail (Oc.Sts.tail (Oc.Sts.tail (Oc.Sts.tail (Oc.Sts.tail (by assumption))))))) | exact Oc.Sts.tail (Oc.Sts.tail (Oc.Sts.tail (Oc.Sts.tail (Oc.Sts.tail (Oc.Sts.tail (Oc.Sts.tail (Oc.Sts.tail (by assumption)))))))) | exact Oc.Sts.tail (Oc.Sts.tail (Oc.Sts.tail (Oc.Sts.tail (Oc.Sts.tail (Oc.Sts.tail (Oc.Sts.tail (Oc.Sts.tail (Oc.Sts.tail (by assumption))))))))) | exact Oc.Sts.tail (Oc.Sts.tail (Oc.Sts.tail (Oc.Sts.tail (Oc.Sts.tail (Oc.Sts.tail (Oc.Sts.tail (Oc.Sts.tail (Oc.Sts.tail (Oc.Sts.tail (by assumption)))))))))) | exact Oc.Sts.tail (Oc.Sts.tail (Oc.Sts.tail (Oc.Sts.tail (Oc.Sts.tail (Oc.Sts.tail (Oc.Sts.tail (Oc.Sts.tail (Oc.Sts.tail (Oc.Sts.tail (Oc.Sts.tail (by assumption))))))))))) | exact Oc.Sts.tail (Oc.Sts.tail (Oc.Sts.tail (Oc.Sts.tail (Oc.Sts.tail (Oc.Sts.tail (Oc.Sts.tail (Oc.Sts.tail (Oc.Sts.tail (Oc.Sts.tail (Oc.Sts.tail (Oc.Sts.tail (by assumption)))))))))))) | exact Oc.Sts.tail (Oc.Sts.tail (Oc.Sts.tail (Oc.Sts.tail (Oc.Sts.tail (Oc.Sts.tail (Oc.Sts.tail (Oc.Sts.tail (Oc.Sts.tail (Oc.Sts.tail (Oc.Sts.tail (Oc.Sts.tail (Oc.Sts.tail (by assumption))))))))))))) | exact Oc.Sts.tail (Oc.Sts.tail (Oc.Sts.tail (Oc.Sts.tail (Oc.Sts.tail (Oc.Sts.tail (Oc.Sts.tail (Oc.Sts.tail (Oc.Sts.tail (Oc.Sts.tail (Oc.Sts.tail (Oc.Sts.tail (Oc.Sts.tail (Oc.Sts.tail (by assumption)))))))))))))) | exact Oc.Sts.tail (Oc.Sts.tail (Oc.Sts.tail (Oc.Sts.tail (Oc.Sts.tail (Oc.Sts.tail (Oc.Sts.tail (Oc.Sts.tail (Oc.Sts.tail (Oc.Sts.tail (Oc.Sts.tail (Oc.Sts.tail (Oc.Sts.tail (Oc.Sts.tail (Oc.Sts.tail (by assumption))))))))))))))) | exact Oc.Sts.tail (Oc.Sts.tail (Oc.Sts.tail (Oc.Sts.tail (Oc.Sts.tail (Oc.Sts.tail (Oc.Sts.tail (Oc.Sts.tail (Oc.Sts.tail (Oc.Sts.tail (Oc.Sts.tail (Oc.Sts.tail (Oc.Sts.tail (Oc.Sts.tail (Oc.Sts.tail (Oc.Sts.tail (by assumption)))))))))))))))) | exact Oc.Sts.tail (Oc.Sts.tail (Oc.Sts.tail (Oc.Sts.tail (Oc.Sts.tail (Oc.Sts.tail (Oc.Sts.tail (Oc.Sts.tail (Oc.Sts.tail (Oc.Sts.tail (Oc.Sts.tail (Oc.Sts.tail (Oc.Sts.tail (Oc.Sts.tail (Oc.Sts.tail (Oc.Sts.tail (Oc.Sts.tail (by assumption))))))))))))))))) | exact Oc.Sts.tail (Oc.Sts.tail (Oc.Sts.tail (Oc.Sts.tail (Oc.Sts.tail (Oc.Sts.tail (Oc.Sts.tail (Oc.Sts.tail (Oc.Sts.tail (Oc.Sts.tail (Oc.Sts.tail (Oc.Sts.tail (Oc.Sts.tail (Oc.Sts.tail (Oc.Sts.tail (Oc.Sts.tail (Oc.Sts.tail (Oc.Sts.tail (by assumption)))))))))))))))))) | exact Oc.Sts.tail (Oc.Sts.tail (Oc.Sts.tail (Oc.Sts.tail (Oc.Sts.tail (Oc.Sts.tail (Oc.Sts.tail (Oc.Sts.tail (Oc.Sts.tail (Oc.Sts.tail (Oc.Sts.tail (Oc.Sts.tail (Oc.Sts.tail (Oc.Sts.tail (Oc.Sts.tail (Oc.Sts.tail (Oc.Sts.tail (Oc.Sts.tail (Oc.Sts.tail (by assumption))))))))))))))))))) | exact Oc.Sts.tail (Oc.Sts.tail (Oc.Sts.tail (Oc.Sts.tail (Oc.Sts.tail (Oc.Sts.tail (Oc.Sts.tail (Oc.Sts.tail (Oc.Sts.tail (Oc.Sts.tail (Oc.Sts.tail (Oc.Sts.tail (Oc.Sts.tail (Oc.Sts.tail (Oc.Sts.tail (Oc.Sts.tail (Oc.Sts.tail (Oc.Sts.tail (Oc.Sts.tail (Oc.Sts.tail (by assumption)))))))))))))))))))) | (refine Oc.Sts.under (fun _ ot => ?_) (Oc.Sts.to0 (by assumption)); walk_at "fp") | (refine Oc.Sts.under (fun _ ot => ?_) (Oc.Sts.to1 (by assumption)); walk_at "fp") | (refine Oc.Sts.under (fun _ ot => ?_) (Oc.Sts.to2 (by assumption)); walk_at "fp") | (refine Oc.Sts.under (fun _ ot => ?_) (Oc.Sts.to3 (by assumption)); walk_at "fp") | (refine Oc.Sts.under (fun _ ot => ?_) (Oc.Sts.to4 (by assumption)); walk_at "fp") | (refine Oc.Sts.under (fun _ ot => ?_) (Oc.Sts.to5 (by assumption)); walk_at "fp") | (refine Oc.Sts.under (fun _ ot => ?_) (Oc.Sts.to6 (by assumption)); walk_at "fp") | (refine Oc.Sts.under (fun _ ot => ?_) (Oc.Sts.to7 (by assumption)); walk_at "fp") | (refine Oc.Sts.under (fun _ ot => ?_) (Oc.Sts.to8 (by assumption)); walk_at "fp") | (refine Oc.Sts.under (fun _ ot => ?_) (Oc.Sts.to9 (by assumption)); walk_at "fp") | (refine Oc.Sts.under (fun _ ot => ?_) (Oc.Sts.to10 (by assumption)); walk_at "fp") | (refine Oc.Sts.under (fun _ ot => ?_) (Oc.Sts.to11 (by assumption)); walk_at "fp") | (refine Oc.Sts.under (fun _ ot => ?_) (Oc.Sts.to12 (by assumption)); walk_at "fp") | (refine Oc.Sts.under (fun _ ot => ?_) (Oc.Sts.to13 (by assumption)); walk_at "fp") | (refine Oc.Sts.under (fun _ ot => ?_) (Oc.Sts.to14 (by assumption)); walk_at "fp") | (refine Oc.Sts.under (fun _ ot => ?_) (Oc.Sts.to15 (by assumption)); walk_at "fp") | (refine Oc.Sts.under (fun _ ot => ?_) (Oc.Sts.to16 (by assumption)); walk_at "fp") | (refine Oc.Sts.under (fun _ ot => ?_) (Oc.Sts.to17 (by assumption)); walk_at "fp") | (refine Oc.Sts.under (fun _ ot => ?_) (Oc.Sts.to18 (by assumption)); walk_at "fp") | (refine Oc.Sts.under (fun _ ot => ?_) (Oc.Sts.to19 (by assumption)); walk_at "fp") | (refine Oc.Sts.under (fun _ ot => ?_) (Oc.Sts.to20 (by assumption)); walk_at "fp") | (refine Oc.Sts.under (fun _ ot => ?_) (Oc.Sts.to21 (by assumption)); walk_at "fp") | (refine Oc.Sts.under (fun _ ot => ?_) (Oc.Sts.to22 (by assumption)); walk_at "fp") | (refine Oc.Sts.under (fun _ ot => ?_) (Oc.Sts.to23 (by assumption)); walk_at "fp") | (refine Oc.Sts.under (fun _ ot => ?_) (Oc.Sts.to24 (by assumption)); walk_at "fp"))
local macro_rules | `(tactic| walk_at "side") => `(tactic| first | omega | (dsimp only; omega) | exact Oc.le_cut2 (by omega) | exact Or.inr ⟨by omega, by omega⟩ | exact Or.inl ⟨by omega, by omega⟩ | exact ⟨by omega, by omega⟩ | exact ⟨by omega, by omega, by decide⟩ | exact Oc.small (by simp only [List.length_map, List.length_append, List.length_cons, List.length_nil, List.length_set, List.length_range, Oc.len_rep]; omega) | exact Oc.small' (by simp only [List.length_map, List.length_append, List.length_cons, List.length_nil, List.length_set, List.length_range, Oc.len_rep]; omega) | (simp only [List.length_map, List.length_append, List.length_cons, List.length_nil, List.length_set, List.length_range, Oc.len_rep]; omega))
local macro_rules | `(tactic| walk_at "go1") => `(tactic| first
  | refine ⟨_, rfl, fun (oo : Int) o0 o1 ob => ?_⟩
  | refine ⟨_, rfl, ?_⟩
  | refine ⟨_, _, rfl, rfl, _, _, Oc.pr (by walk_at "fr1"), Oc.pr (by walk_at "side"), fun oh os => ?_⟩
  | refine ⟨_, _, rfl, rfl, _, _, Oc.pr (by walk_at "frI"), Oc.pr (by walk_at "side"), fun oh os => ?_⟩
  | refine ⟨_, _, _, rfl, rfl, rfl, _, _, Oc.pr (by walk_at "frI"), Oc.pr (by walk_at "side"), fun oh os => ?_⟩
  | refine ⟨_, _, rfl, rfl, Oc.pr (by walk_at "side"), ?_⟩
  | refine ⟨_, _, rfl, rfl, ?_⟩
  | refine ⟨rfl, rfl, ?_⟩
  | refine ⟨rfl, ?_⟩
  | refine ⟨(by omega : -(2 ^ 62 : Int) ≤ _), (by omega : _ < (2 ^ 62 : Int)), ?_⟩
  | refine ⟨_, _, rfl, Oc.pr (by walk_at "sq"), ?_⟩
  | refine ⟨⟨_, Oc.pr (by walk_at "sq")⟩, ?_⟩
  | refine ⟨_, _, _, rfl, rfl, Oc.pr (by walk_at "sq"), Oc.pr (by walk_at "side"), ?_⟩
  | refine ⟨_, _, _, rfl, rfl, Oc.pr (by walk_at "hpI"), Oc.pr (by walk_at "side"), ?_⟩
  | refine ⟨_, _, _, rfl, rfl, Oc.pr (by walk_at "sq"), Oc.pr (by rfl), ?_⟩
  | refine ⟨(_ : Int), _, _, rfl, rfl, Oc.pr (by walk_at "sq"), ?_⟩
  | refine ⟨_, _, _, _, rfl, rfl, Oc.pr (by walk_at "sq"), Oc.pr (by walk_at "sq"), ?_⟩
  | refine ⟨_, _, _, _, rfl, rfl, Oc.pr (by walk_at "hpI"), Oc.pr (by walk_at "hpI"), Oc.pr (by walk_at "side"), ?_⟩
  | refine ⟨_, _, _, _, rfl, rfl, Oc.pr (by walk_at "sq"), rfl, ?_⟩
  | refine ⟨.inl ⟨rfl, _, L2.SqL.of (by walk_at "hp")⟩, ?_⟩
  | refine ⟨(Oc.pr (by first | exact Oc.small' (by decide) | walk_at "side") : _ ≤ PySem.sizeLine), ?_⟩
  | (intro op np; generalize hG : L2.upd _ op _ = oh; have os := Oc.Sts.newE (by assumption) np hG; clear hG np)
  | refine ⟨_, _, rfl, L2.SqT.of (by walk_at "hp"), rfl, ?_⟩
  | refine ⟨(_ : L2.V), (_ : List L2.V), rfl, ?_⟩
  | refine ⟨_, .inl ⟨_, Oc.pr (by walk_at "sq"), rfl⟩, ?_⟩
  | refine ⟨_, _, rfl, Oc.pr (by walk_at "hp"), ?_⟩
  | refine ⟨⟨_, _, Oc.gDx (by walk_at "fr1")⟩, ?_⟩
  | refine ⟨_, _, Oc.pr (by first | exact Oc.gD (by walk_at "fr1") | exact Oc.gD0 _ (by walk_at "fr1")), Oc.pr (by walk_at "side"), fun oh os => ?_⟩
  | refine ⟨_, _, Oc.pr (by first | exact Oc.gD (by walk_at "fr1") | exact Oc.gD0 _ (by walk_at "fr1")), ?_⟩
  | refine ⟨_, rfl, fun (oo : Int) o0 o1 ob => ?_⟩
  | refine ⟨(_ : Int), (_ : Int), rfl, ?_⟩)
local macro_rules | `(tactic| walk_at "ife") => `(tactic| with_reducible first | refine Oc.ifTT ?_ | refine Oc.ifFF ?_ | refine Oc.ifNT ?_ | refine Oc.ifNF ?_ | refine Oc.ifDE ?_ | refine Oc.ifNE ?_)
local macro_rules | `(tactic| walk_at "go") => `(tactic| repeat (first | walk_at "ife" | ((fail_if_success (with_reducible refine Oc.ifB (fun _ => ?_) (fun _ => ?_))); walk_at "go1")))
local macro_rules | `(tactic| walk_at "lce") => `(tactic| (refine ⟨_, (by walk_at "hp"), Oc.small (by simp only [List.length_map, List.length_append, List.length_cons, List.length_nil, List.length_set, List.length_range, Oc.len_rep]; omega), ?_⟩; generalize hw : L2.upd _ _ _ = oh; have os := Oc.Sts.putE (by walk_at "fr1") hw; clear hw))
local macro_rules | `(tactic| walk_at "ifd") => `(tactic| first
  | ((with_reducible refine Oc.ivT ?c ?_); case c => omega)
  | ((with_reducible refine Oc.ivF ?c ?_); case c => omega)
  | ((with_reducible refine Oc.iwT ?c ?_); case c => omega)
  | ((with_reducible refine Oc.iwF ?c ?_); case c => omega)
  | ((with_reducible refine Oc.idT ?c ?_); case c => omega)
  | ((with_reducible refine Oc.idF ?c ?_); case c => omega)
  | ((with_reducible refine Oc.inT ?c ?_); case c => omega)
  | ((with_reducible refine Oc.inF ?c ?_); case c => omega))
local macro_rules | `(tactic| walk_at "gd") => `(tactic| repeat (first | walk_at "ife" | walk_at "ifd" | ((fail_if_success (with_reducible refine Oc.ifB (fun _ => ?_) (fun _ => ?_))); walk_at "go1")))

/-! ### chains: heights, the stretch (plain lists) -/
namespace Ch
def hAb (c b w : Int) : Int := if c = 0 then b + 1 else if c = 1 ∧ b ≥ w then 1 else 0
/-- the height of the first page -/
def hgt (w : Int) : List Int → Int
  | [] => 0
  | c :: r => hAb c (hgt w r) w
/-- the heights of all pages -/
def hts (w : Int) : List Int → List Int
  | [] => []
  | c :: r => hgt w (c :: r) :: hts w r
theorem hts_len (w : Int) : ∀ L : List Int, (hts w L).length = L.length
  | [] => rfl
  | _ :: r => by rw [hts, List.length_cons, List.length_cons, hts_len w r]
theorem hgt_nn (w : Int) : ∀ L : List Int, 0 ≤ hgt w L
  | [] => Int.le_refl 0
  | c :: r => by
    have ih := hgt_nn w r
    unfold hgt hAb
    split
    · omega
    · split <;> omega
/-- some height is too great -/
def Lost (w : Int) : List Int → Prop
  | [] => False
  | c :: r => w < hgt w (c :: r) ∨ Lost w r
theorem lost_any (w : Int) : ∀ L : List Int, Lost w L ↔ ∃ h ∈ hts w L, w < h
  | [] => ⟨fun h => h.elim, fun ⟨_, h, _⟩ => by cases h⟩
  | c :: r => by
    have ih := lost_any w r
    constructor
    · intro h
      rcases h with h | h
      · exact ⟨_, List.mem_cons_self, h⟩
      · obtain ⟨x, hx, h⟩ := ih.mp h
        exact ⟨x, List.mem_cons_of_mem _ hx, h⟩
    · rintro ⟨x, hx, h⟩
      rcases List.mem_cons.mp hx with e | hx
      · exact .inl (e ▸ h)
      · exact .inr (ih.mpr ⟨x, hx, h⟩)
def Nn (L : List Int) : Prop := ∀ x ∈ L, 0 ≤ x
def AllZ (L : List Int) : Prop := ∀ x ∈ L, x = 0
/-- the reading from a page on: k groups are looked at -/
def scan (w : Nat) : Nat → List Int → Prop
  | 0, _ => False
  | _ + 1, [] => False
  | k + 1, c :: r => c ≤ 1 ∧ (c = 0 ∨ (AllZ (r.take (w - 1)) ∧ scan w k (r.drop (w - 1))))
def Stretch (w : Nat) (L : List Int) : Prop := ∃ s, s + w < L.length ∧ AllZ ((L.drop s).take w) ∧ scan w L.length (L.drop (s + w))
theorem hgt_zeros (w : Int) : ∀ (k : Nat) (L : List Int), AllZ (L.take k) → k ≤ L.length → hgt w L = k + hgt w (L.drop k)
  | 0, L, _, _ => by simp
  | k + 1, [], _, h => absurd h (by simp)
  | k + 1, c :: r, hz, h => by
    have hc : c = 0 := hz c (by simp)
    have ih := hgt_zeros w k r (fun x hx => hz x (by simp [hx])) (by simpa using h)
    show hAb c (hgt w r) w = _
    rw [ih, hc]
    unfold hAb
    rw [if_pos rfl, List.drop_succ_cons]
    omega
theorem scan_hgt {w : Nat} (hw : 1 ≤ w) : ∀ (k : Nat) (L : List Int), Nn L → scan w k L → 1 ≤ hgt w L
  | 0, _, _, h => h.elim
  | _ + 1, [], _, h => h.elim
  | k + 1, c :: r, hn, ⟨h1, h⟩ => by
    have g := hgt_nn (w : Int) r
    show 1 ≤ hAb c (hgt w r) w
    unfold hAb
    rcases h with h | ⟨hz, h⟩
    · rw [if_pos h]
      omega
    · by_cases hc : c = 0
      · rw [if_pos hc]
        omega
      · have h0 := hn c List.mem_cons_self
        have ih := scan_hgt hw k (r.drop (w - 1)) (fun x hx => hn x (List.mem_cons_of_mem _ (List.mem_of_mem_drop hx))) h
        have hl : w - 1 ≤ r.length := by
          apply Decidable.byContradiction
          intro q
          have e : r.drop (w - 1) = [] := List.drop_of_length_le (by omega)
          rw [e] at ih
          have z : (1 : Int) ≤ 0 := ih
          omega
        have e := hgt_zeros (w : Int) (w - 1) r hz hl
        rw [if_neg hc, if_pos ⟨by omega, by omega⟩]
        omega
theorem stretch_lost {w : Nat} (hw : 1 ≤ w) {L : List Int} (hn : Nn L) (h : Stretch w L) : Lost w L := by
  obtain ⟨s, hs, hz, h⟩ := h
  have h1 := scan_hgt hw _ _ (fun x hx => hn x (List.mem_of_mem_drop hx)) h
  have e := hgt_zeros (w : Int) w (L.drop s) hz (by rw [List.length_drop]; omega)
  rw [List.drop_drop] at e
  have up : ∀ (s : Nat) (L : List Int), s < L.length → (w : Int) < hgt w (L.drop s) → Lost w L := by
    intro s
    induction s with
    | zero =>
      intro L hl q
      cases L with
      | nil => simp at hl
      | cons c r => exact .inl q
    | succ s ih =>
      intro L hl q
      cases L with
      | nil => simp at hl
      | cons c r => exact .inr (ih r (by simpa using hl) q)
  exact up s L (by omega) (by omega)
/-- a height of two or more: a page without a blank line above the height that is one less -/
theorem hgt_two {w : Int} {c : Int} {r : List Int} {k : Int} (h : hgt w (c :: r) = k) (hk : 2 ≤ k) : c = 0 ∧ hgt w r = k - 1 := by
  have h : hAb c (hgt w r) w = k := h
  unfold hAb at h
  split at h
  · exact ⟨by assumption, by omega⟩
  · split at h <;> omega
theorem hgt_down {w : Int} : ∀ (k : Nat) (L : List Int), hgt w L = k + 1 → AllZ (L.take k) ∧ k < L.length ∧ hgt w (L.drop k) = 1
  | 0, L, h => by
    refine ⟨by simp [AllZ], ?_, by simpa using h⟩
    cases L with
    | nil => have z : (0 : Int) = _ := h; simp at z
    | cons c r => simp
  | k + 1, [], h => by
    have z : (0 : Int) = _ := h
    omega
  | k + 1, c :: r, h => by
    obtain ⟨hc, hr⟩ := hgt_two h (by omega)
    obtain ⟨i1, i2, i3⟩ := hgt_down (w := w) k r (by omega)
    refine ⟨fun x hx => ?_, by simpa using i2, i3⟩
    rw [List.take_succ_cons] at hx
    rcases List.mem_cons.mp hx with e | hx
    · rw [e, hc]
    · exact i1 x hx
/-- no height further down is too great -/
theorem one_scan {w : Nat} (hw : 1 ≤ w) : ∀ (k : Nat) (L : List Int), L.length ≤ k → (∀ c r, L = c :: r → ¬ Lost w r) → hgt w L = 1 → scan w k L
  | k, [], _, _, h => by
    have z : (0 : Int) = 1 := h
    omega
  | 0, _ :: _, hl, _, _ => by simp at hl
  | k + 1, c :: r, hl, hg, h => by
    have gl := hg c r rfl
    have h : hAb c (hgt w r) w = 1 := h
    unfold hAb at h
    split at h
    · rename_i hc
      exact ⟨by omega, .inl hc⟩
    · split at h
      · rename_i hc h1
        refine ⟨by omega, .inr ?_⟩
        -- the page below has the height w
        have hr : hgt w r = (w : Int) := by
          cases r with
          | nil =>
            have z : hgt w [] = 0 := rfl
            omega
          | cons d t =>
            have : ¬ ((w : Int) < hgt w (d :: t)) := fun q => gl (.inl q)
            omega
        obtain ⟨d1, d2, d3⟩ := hgt_down (w := (w : Int)) (w - 1) r (by omega)
        refine ⟨d1, one_scan hw k (r.drop (w - 1)) (by rw [List.length_drop]; simp at hl; omega) (fun x t e => ?_) d3⟩
        intro q
        have sub : ∀ (n : Nat) (r : List Int), Lost (w : Int) (r.drop n) → Lost (w : Int) r := by
          intro n
          induction n with
          | zero => exact fun _ z => z
          | succ n ih =>
            intro r z
            cases r with
            | nil => exact z
            | cons _ _ => exact .inr (ih _ z)
        exact gl (sub (w - 1) r (e ▸ .inr q))
      · omega
theorem lost_stretch {w : Nat} (hw : 1 ≤ w) : ∀ (n : Nat) (L : List Int), Lost w L → L.length ≤ n → ∃ s, s + w < L.length ∧ AllZ ((L.drop s).take w) ∧ scan w n (L.drop (s + w))
  | _, [], h, _ => h.elim
  | n, c :: r, h, hl => by
    by_cases g : Lost w r
    · obtain ⟨s, h1, h2, h3⟩ := lost_stretch hw n r g (by simp at hl; omega)
      refine ⟨s + 1, by simp; omega, h2, ?_⟩
      rw [show s + 1 + w = (s + w) + 1 by omega]
      exact h3
    · have q : (w : Int) < hgt w (c :: r) := h.elim id fun z => absurd z g
      have e : hgt w (c :: r) = w + 1 := by
        have q' : (w : Int) < hAb c (hgt w r) w := q
        show hAb c (hgt w r) w = w + 1
        have gr : hgt w r ≤ w := by
          cases r with
          | nil =>
            have z : hgt (w : Int) [] = 0 := rfl
            omega
          | cons d t => exact Int.not_lt.mp fun z => g (.inl z)
        unfold hAb at q' ⊢
        split at q'
        · omega
        · split at q' <;> omega
      obtain ⟨d1, d2, d3⟩ := hgt_down (w := (w : Int)) w (c :: r) e
      refine ⟨0, by omega, d1, ?_⟩
      rw [Nat.zero_add]
      refine one_scan hw n _ (by rw [List.length_drop]; omega) (fun x t e q => ?_) d3
      have sub : ∀ (n : Nat) (r : List Int), Lost (w : Int) (r.drop n) → Lost (w : Int) r := by
        intro n
        induction n with
        | zero => exact fun _ z => z
        | succ n ih =>
          intro r z
          cases r with
          | nil => exact z
          | cons _ _ => exact .inr (ih _ z)
      obtain ⟨m, em⟩ : ∃ m, w = m + 1 := ⟨w - 1, by omega⟩
      have e' : r.drop (w - 1) = x :: t := by
        rw [← e]
        rw [em, List.drop_succ_cons]
        rfl
      exact g (sub (w - 1) r (e' ▸ .inr q))
theorem lost_iff {w : Nat} (hw : 1 ≤ w) {L : List Int} (hn : Nn L) : Lost w L ↔ Stretch w L := ⟨fun h => lost_stretch hw L.length L h (Nat.le_refl _), stretch_lost hw hn⟩
end Ch

/-! ### the foe's row on a chain (plain lists) -/
namespace At
open Ch
theorem hts_get (w : Int) : ∀ (L : List Int) (f : Nat), f < L.length → (hts w L)[f]? = some (hgt w (L.drop f))
  | [], f, h => absurd h (Nat.not_lt_zero f)
  | c :: r, 0, _ => rfl
  | c :: r, f + 1, h => by
    have ih := hts_get w r f (by simpa using h)
    show (hts w r)[f]? = _
    rw [ih]
    rfl
theorem hts_mem {w : Int} {L : List Int} {x : Int} (h : x ∈ hts w L) : ∃ f, f < L.length ∧ x = hgt w (L.drop f) := by
  obtain ⟨f, hf, e⟩ := List.getElem_of_mem h
  have hf' : f < L.length := by rwa [hts_len] at hf
  have z := hts_get w L f hf'
  rw [List.getElem?_eq_getElem hf, e] at z
  exact ⟨f, hf', Option.some.inj z⟩
theorem lost_drop {w : Int} : ∀ (n : Nat) (r : List Int), Lost w (r.drop n) → Lost w r
  | 0, _, z => z
  | n + 1, [], z => z
  | n + 1, _ :: r, z => .inr (lost_drop n r z)
theorem top_lost {w : Nat} (hw : 1 ≤ w) {L : List Int} {f : Nat} (hf : f < L.length) (h1 : (w : Int) < hgt w (L.drop f)) (h2 : ∀ j, f < j → j < L.length → ¬ (w : Int) < hgt w (L.drop j)) :
    f + w < L.length ∧ AllZ ((L.drop f).take w) ∧ scan w L.length (L.drop (f + w)) := by
  have g : ¬ Lost (w : Int) (L.drop (f + 1)) := fun h => by
    obtain ⟨x, hx, hlt⟩ := (lost_any _ _).mp h
    obtain ⟨j, hj, e⟩ := hts_mem hx
    rw [List.length_drop] at hj
    rw [List.drop_drop] at e
    exact h2 (f + 1 + j) (by omega) (by omega) (e ▸ hlt)
  have ed : L.drop f = L[f] :: L.drop (f + 1) := List.drop_eq_getElem_cons hf
  have e : hgt (w : Int) (L.drop f) = w + 1 := by
    rw [ed] at h1 ⊢
    have q' : (w : Int) < hAb L[f] (hgt w (L.drop (f + 1))) w := h1
    show hAb L[f] (hgt w (L.drop (f + 1))) w = w + 1
    have gr : hgt w (L.drop (f + 1)) ≤ w := by
      revert g
      cases L.drop (f + 1) with
      | nil =>
        intro _
        have z : hgt (w : Int) [] = 0 := rfl
        omega
      | cons d t => exact fun g => Int.not_lt.mp fun z => g (.inl z)
    unfold hAb at q' ⊢
    split at q'
    · omega
    · split at q' <;> omega
  obtain ⟨d1, d2, d3⟩ := hgt_down (w := (w : Int)) w (L.drop f) e
  rw [List.length_drop] at d2
  rw [List.drop_drop] at d3
  refine ⟨by omega, d1, one_scan hw _ _ (by rw [List.length_drop]; omega) (fun x t et q => ?_) d3⟩
  have e2 : L.drop (f + w + 1) = t := by
    rw [← List.drop_drop, et]
    rfl
  rw [← e2, show f + w + 1 = (f + 1) + w by omega, ← List.drop_drop] at q
  exact g (lost_drop w _ q)
/-- what stands from f on, before the j-th turn -/
def PR (w : Nat) (L : List Int) (f j : Nat) : Prop := ∀ p, f ≤ p → p < f + (j + 1) * w → L.getD p 0 = if p ≠ f ∧ (p - f) % w = 0 then 1 else 0
def Reads (w : Nat) (L : List Int) (f g : Nat) : Prop := f + (g + 1) * w < L.length ∧ ∀ p, f ≤ p → p ≤ f + (g + 1) * w → L.getD p 0 = if p ≠ f ∧ p ≠ f + (g + 1) * w ∧ (p - f) % w = 0 then 1 else 0
theorem allZ_getD {L : List Int} {a n p : Nat} (h : AllZ ((L.drop a).take n)) (h1 : a ≤ p) (h2 : p < a + n) : L.getD p 0 = 0 := by
  by_cases hp : p < L.length
  · rw [List.getD_eq_getElem?_getD, List.getElem?_eq_getElem hp]
    refine h _ ?_
    refine List.mem_of_getElem? (i := p - a) ?_
    rw [List.getElem?_take, if_pos (by omega), List.getElem?_drop, show a + (p - a) = p by omega, List.getElem?_eq_getElem hp]
    rfl
  · rw [List.getD_eq_getElem?_getD, List.getElem?_eq_none (by omega)]
    rfl
theorem pr_zero {w : Nat} {L : List Int} {f : Nat} (h : AllZ ((L.drop f).take w)) : PR w L f 0 := fun p h1 h2 => by
  rw [Nat.zero_add, Nat.one_mul] at h2
  rw [allZ_getD h h1 h2, if_neg]
  rintro ⟨h3, h4⟩
  rw [Nat.mod_eq_of_lt (by omega)] at h4
  omega
theorem pr_step {w : Nat} (hw : 1 ≤ w) {L : List Int} {f j : Nat} (h : PR w L f j) (h1 : L.getD (f + (j + 1) * w) 0 = 1) (hz : AllZ ((L.drop (f + (j + 1) * w + 1)).take (w - 1))) : PR w L f (j + 1) := fun p a b => by
  rw [Nat.succ_mul (j + 1)] at b
  by_cases c : p < f + (j + 1) * w
  · exact h p a c
  · by_cases d : p = f + (j + 1) * w
    · rw [d, h1, if_pos]
      have q : 1 ≤ (j + 1) * w := Nat.mul_pos (by omega) (by omega)
      refine ⟨by omega, ?_⟩
      rw [show f + (j + 1) * w - f = (j + 1) * w by omega]
      exact Nat.mul_mod_left _ _
    · rw [allZ_getD hz (by omega) (by omega), if_neg]
      rintro ⟨_, h4⟩
      rw [show p - f = (p - f - (j + 1) * w) + (j + 1) * w by omega, Nat.add_mul_mod_self_right, Nat.mod_eq_of_lt (by omega)] at h4
      omega
theorem pr_end {w : Nat} {L : List Int} {f j : Nat} (h : PR w L f j) (h1 : L.getD (f + (j + 1) * w) 0 = 0) (hl : f + (j + 1) * w < L.length) : Reads w L f j := ⟨hl, fun p a b => by
  by_cases d : p = f + (j + 1) * w
  · rw [d, h1, if_neg fun z => z.2.1 rfl]
  · rw [h p a (by omega)]
    by_cases c : p ≠ f ∧ (p - f) % w = 0
    · rw [if_pos c, if_pos ⟨c.1, d, c.2⟩]
    · rw [if_neg c, if_neg fun z => c ⟨z.1, z.2.2⟩]⟩
def rowOf (w f g : Nat) : List Int := (List.range (g + 1)).map fun j => ((f + (g + 1 - j) * w : Nat) : Int)
theorem rowOf_len (w f g : Nat) : (rowOf w f g).length = g + 1 := by
  unfold rowOf
  rw [List.length_map, List.length_range]
theorem rowOf_get {w f g j : Nat} (h : j < g + 1) : (rowOf w f g)[j]? = some ((f + (g + 1 - j) * w : Nat) : Int) := by
  unfold rowOf
  rw [List.getElem?_map, List.getElem?_range h]
  rfl
/-! closing a set of copied pages -/
def cl (pg : Int) (W : List Int) : Nat → List Int → List Int × Bool
  | _, [] => ([], false)
  | i, c :: r => (if (decide ((i : Int) ∈ W) || decide ((if (i : Int) = pg then (1 : Int) else 0) + (if (cl pg W (i + 1) r).2 = true then 1 else 0) > c)) = true then (i : Int) :: (cl pg W (i + 1) r).1 else (cl pg W (i + 1) r).1,
    decide ((i : Int) ∈ W) || decide ((if (i : Int) = pg then (1 : Int) else 0) + (if (cl pg W (i + 1) r).2 = true then 1 else 0) > c))
/-- from the page i on -/
def ca (pg : Int) (W L : List Int) (i : Nat) : List Int × Bool := cl pg W i (L.drop i)
theorem ca_end (pg : Int) (W L : List Int) : ca pg W L L.length = ([], false) := by
  unfold ca
  rw [List.drop_length]
  rfl
theorem ca_step (pg : Int) (W L : List Int) {i : Nat} (h : i < L.length) : (ca pg W L i).2 = (decide ((i : Int) ∈ W) || decide ((if (i : Int) = pg then (1 : Int) else 0) + (if (ca pg W L (i + 1)).2 = true then 1 else 0) > L.getD i 0)) ∧
    (ca pg W L i).1 = if (ca pg W L i).2 = true then (i : Int) :: (ca pg W L (i + 1)).1 else (ca pg W L (i + 1)).1 := by
  have e : L.drop i = L.getD i 0 :: L.drop (i + 1) := by
    rw [List.drop_eq_getElem_cons h, List.getD_eq_getElem?_getD, List.getElem?_eq_getElem h]
    rfl
  have e2 : ca pg W L i = cl pg W i (L.getD i 0 :: L.drop (i + 1)) := by
    unfold ca
    rw [← e]
  rw [e2]
  exact ⟨rfl, rfl⟩
theorem ca_pre (pg : Int) (W L : List Int) : ∀ (d i : Nat), i + d ≤ L.length → ∃ X, (ca pg W L i).1 = X ++ (ca pg W L (i + d)).1
  | 0, i, _ => ⟨[], rfl⟩
  | d + 1, i, h => by
    obtain ⟨X, e⟩ := ca_pre pg W L d (i + 1) (by omega)
    rw [show i + (d + 1) = i + 1 + d by omega]
    have s := (ca_step pg W L (i := i) (by omega)).2
    split at s
    · exact ⟨i :: X, by rw [s, e]; rfl⟩
    · exact ⟨X, by rw [s, e]⟩
theorem Reads.mid {w : Nat} (hw : 1 ≤ w) {L : List Int} {f g : Nat} (R : Reads w L f g) {d : Nat} (h1 : d < w) : L.getD (f + (g + 1) * w - d) 0 = 0 := by
  have m : (g + 1) * w = g * w + w := Nat.succ_mul g w
  rw [R.2 _ (by omega) (by omega), if_neg]
  rintro ⟨_, h3, h4⟩
  have hd : 0 < d := by omega
  rw [show f + (g + 1) * w - d - f = (w - d) + g * w by omega, Nat.add_mul_mod_self_right, Nat.mod_eq_of_lt (by omega)] at h4
  omega
/-- the pages that an update of the last one copies -/
def blockOf (w last : Nat) : List Int := (List.range w).map fun j => ((last - w + 1 + j : Nat) : Int)
theorem ca_block {w : Nat} (hw : 1 ≤ w) {L : List Int} {f g : Nat} (R : Reads w L f g) (W : List Int) : ∀ d, d < w →
    (ca (f + (g + 1) * w : Nat) W L (f + (g + 1) * w - d)).2 = true ∧ (ca (f + (g + 1) * w : Nat) W L (f + (g + 1) * w - d)).1 = ((List.range (d + 1)).map fun j => ((f + (g + 1) * w - d + j : Nat) : Int)) ++ (ca (f + (g + 1) * w : Nat) W L (f + (g + 1) * w + 1)).1
  | 0, h => by
    have hl := R.1
    obtain ⟨s1, s2⟩ := ca_step ((f + (g + 1) * w : Nat) : Int) W L (i := f + (g + 1) * w) hl
    have m := R.mid hw h
    have b : (ca (f + (g + 1) * w : Nat) W L (f + (g + 1) * w - 0)).2 = true := by
      rw [Nat.sub_zero] at m ⊢
      rw [s1, m, if_pos rfl]
      split <;> simp
    refine ⟨b, ?_⟩
    rw [Nat.sub_zero] at b ⊢
    rw [s2, if_pos b]
    rfl
  | d + 1, h => by
    have m2 : (g + 1) * w = g * w + w := Nat.succ_mul g w
    obtain ⟨b, e⟩ := ca_block hw R W d (by omega)
    have hl := R.1
    have m := R.mid hw h
    have e1 : f + (g + 1) * w - (d + 1) + 1 = f + (g + 1) * w - d := by omega
    obtain ⟨s1, s2⟩ := ca_step ((f + (g + 1) * w : Nat) : Int) W L (i := f + (g + 1) * w - (d + 1)) (by omega)
    rw [e1] at s1 s2
    have b2 : (ca (f + (g + 1) * w : Nat) W L (f + (g + 1) * w - (d + 1))).2 = true := by
      rw [s1, m, b, if_neg (by omega)]
      simp
    refine ⟨b2, ?_⟩
    rw [s2, if_pos b2, e, show List.range (d + 1 + 1) = 0 :: (List.range (d + 1)).map Nat.succ from List.range_succ_eq_map, List.map_cons, List.map_map, List.cons_append]
    congr 2
    refine List.map_congr_left fun j _ => ?_
    show ((f + (g + 1) * w - d + j : Nat) : Int) = ((f + (g + 1) * w - (d + 1) + (j + 1) : Nat) : Int)
    congr 1
    omega
theorem forced {w : Nat} (hw : 1 ≤ w) {L : List Int} {f g : Nat} (R : Reads w L f g) (W : List Int) (h : (ca (f + (g + 1) * w : Nat) W L 0).1.length ≤ w) :
    1 ≤ g ∧ (ca (f + (g + 1) * w : Nat) W L 0).1 = blockOf w (f + (g + 1) * w) := by
  have m2 : (g + 1) * w = g * w + w := Nat.succ_mul g w
  have hl := R.1
  obtain ⟨d, rfl⟩ : ∃ d, w = d + 1 := ⟨w - 1, by omega⟩
  obtain ⟨b, e⟩ := ca_block hw R W d (by omega)
  by_cases g0 : g = 0
  · exfalso
    subst g0
    obtain ⟨s1, s2⟩ := ca_step ((f + (0 + 1) * (d + 1) : Nat) : Int) W L (i := f) (by omega)
    rw [show f + (0 + 1) * (d + 1) - d = f + 1 by omega] at b e
    have z : L.getD f 0 = 0 := by
      rw [R.2 f (by omega) (by omega), if_neg fun q => q.1 rfl]
    rw [if_pos (by rw [s1, z, b, if_neg (by omega)]; simp)] at s2
    obtain ⟨X, ex⟩ := ca_pre ((f + (0 + 1) * (d + 1) : Nat) : Int) W L f 0 (by omega)
    rw [show 0 + f = f from Nat.zero_add f] at ex
    rw [ex, s2, e] at h
    simp only [List.length_append, List.length_cons, List.length_map, List.length_range] at h
    omega
  · refine ⟨by omega, ?_⟩
    obtain ⟨X, ex⟩ := ca_pre ((f + (g + 1) * (d + 1) : Nat) : Int) W L (f + (g + 1) * (d + 1) - d) 0 (by omega)
    rw [show ∀ x, 0 + x = x from Nat.zero_add, e] at ex
    rw [ex] at h ⊢
    simp only [List.length_append, List.length_map, List.length_range] at h
    have x0 : X = [] := List.length_eq_zero_iff.mp (by omega)
    have y0 : (ca (f + (g + 1) * (d + 1) : Nat) W L (f + (g + 1) * (d + 1) + 1)).1 = [] := List.length_eq_zero_iff.mp (by omega)
    rw [x0, y0, List.append_nil, List.nil_append]
    unfold blockOf
    refine List.map_congr_left fun j _ => ?_
    congr 1
    omega
/-! the chain after an update -/
def afv (l pg : Int) (C L : List Int) (p : Nat) : Int := if (p : Int) ∈ C then l else L.getD p 0 - (if (p : Int) = pg then 1 else 0) - (if (p : Int) + 1 ∈ C then 1 else 0)
def aft (l pg : Int) (C L : List Int) : List Int := (List.range L.length).map (afv l pg C L)
theorem aft_len (l pg : Int) (C L : List Int) : (aft l pg C L).length = L.length := by
  unfold aft
  rw [List.length_map, List.length_range]
theorem aft_get (l pg : Int) (C L : List Int) {p : Nat} (h : p < L.length) : (aft l pg C L).getD p 0 = afv l pg C L p := by
  unfold aft
  rw [List.getD_eq_getElem?_getD, List.getElem?_map, List.getElem?_range h]
  rfl
theorem mem_block {w last : Nat} (hl : w ≤ last) (p : Nat) : (p : Int) ∈ blockOf w last ↔ last - w < p ∧ p ≤ last := by
  unfold blockOf
  rw [List.mem_map]
  constructor
  · rintro ⟨j, hj, e⟩
    have := List.mem_range.mp hj
    omega
  · rintro ⟨h1, h2⟩
    exact ⟨p - (last - w + 1), List.mem_range.mpr (by omega), by omega⟩
theorem Reads.next {w : Nat} (hw : 1 ≤ w) {L : List Int} {f g : Nat} (R : Reads w L f (g + 1)) (l : Int) : Reads w (aft l (f + (g + 1 + 1) * w : Nat) (blockOf w (f + (g + 1 + 1) * w)) L) f g := by
  have m2 : (g + 1 + 1) * w = (g + 1) * w + w := Nat.succ_mul (g + 1) w
  have m3 : (g + 1) * w = g * w + w := Nat.succ_mul g w
  have hl := R.1
  refine ⟨by rw [aft_len]; omega, fun p h1 h2 => ?_⟩
  rw [aft_get _ _ _ _ (by omega)]
  unfold afv
  rw [if_neg (fun z => by have := (mem_block (by omega) p).mp z; omega), if_neg (by omega)]
  have mb := mem_block (w := w) (last := f + (g + 1 + 1) * w) (by omega) (p + 1)
  rw [show ((p + 1 : Nat) : Int) = (p : Int) + 1 by omega] at mb
  by_cases c : p = f + (g + 1) * w
  · have v : L.getD p 0 = 1 := by
      rw [R.2 p h1 (by omega), if_pos]
      refine ⟨by omega, by omega, ?_⟩
      rw [c, show f + (g + 1) * w - f = (g + 1) * w by omega]
      exact Nat.mul_mod_left _ _
    rw [v, if_pos (mb.mpr (by omega)), if_neg (fun z => z.2.1 c)]
    omega
  · rw [if_neg fun z : (p : Int) + 1 ∈ blockOf w (f + (g + 1 + 1) * w) => by have := mb.mp z; omega]
    rw [R.2 p h1 (by omega)]
    by_cases e : p ≠ f ∧ (p - f) % w = 0
    · rw [if_pos ⟨e.1, by omega, e.2⟩, if_pos ⟨e.1, c, e.2⟩]
      omega
    · rw [if_neg fun z : p ≠ f ∧ p ≠ f + (g + 1 + 1) * w ∧ (p - f) % w = 0 => e ⟨z.1, z.2.2⟩, if_neg fun z => e ⟨z.1, z.2.2⟩]
      omega
/-! the bits of a number -/
def bitsOf (n m : Nat) : List Int := ((List.range n).filter fun p => decide (m / 2 ^ p % 2 = 1)).map fun p => ((p : Nat) : Int)
theorem bits_inj {n a b : Nat} (ha : a < 2 ^ n) (hb : b < 2 ^ n) (h : bitsOf n a = bitsOf n b) : a = b := by
  have key : ∀ m p, p < n → ((p : Int) ∈ bitsOf n m ↔ m / 2 ^ p % 2 = 1) := fun m p hp => by
    unfold bitsOf
    rw [List.mem_map]
    constructor
    · rintro ⟨q, hq, e⟩
      have e' : q = p := by omega
      rw [e'] at hq
      exact of_decide_eq_true (List.mem_filter.mp hq).2
    · exact fun h => ⟨p, List.mem_filter.mpr ⟨List.mem_range.mpr hp, decide_eq_true h⟩, rfl⟩
  refine Nat.eq_of_testBit_eq fun p => ?_
  by_cases hp : p < n
  · have k1 := key a p hp
    have k2 := key b p hp
    rw [h] at k1
    have k := k1.symm.trans k2
    rw [Nat.testBit_eq_decide_div_mod_eq, Nat.testBit_eq_decide_div_mod_eq]
    by_cases q : a / 2 ^ p % 2 = 1
    · rw [decide_eq_true q, decide_eq_true (k.mp q)]
    · rw [decide_eq_false q, decide_eq_false fun z => q (k.mpr z)]
  · rw [Nat.testBit_lt_two_pow (Nat.lt_of_lt_of_le ha (Nat.pow_le_pow_right (by decide) (by omega))), Nat.testBit_lt_two_pow (Nat.lt_of_lt_of_le hb (Nat.pow_le_pow_right (by decide) (by omega)))]
end At

namespace K27
open PySem PySem.Spec PyProof.Rows L2 Oc Ch At
def topS (i : Nat) : Stmt := PySem.Challenge.pw_onecopy_k27_whole_attack.main.body.getD i (.Pass ⟨0, 0, 0, 0⟩)
abbrev s_height_above : Stmt := topS 1
abbrev s_heights : Stmt := topS 3
abbrev s_lowest_lost : Stmt := topS 4
abbrev s_attack_row : Stmt := topS 5
abbrev s_law_is_integer : Stmt := topS 7
abbrev s_law_bag : Stmt := topS 8
abbrev s_law_take : Stmt := topS 9
abbrev s_law_copies : Stmt := topS 10
abbrev s_law_page : Stmt := topS 11
abbrev s_law_pages : Stmt := topS 12
abbrev s_law_chain : Stmt := topS 13
abbrev s_law_has_stretch : Stmt := topS 14
abbrev s_law_reads : Stmt := topS 15
abbrev s_law_closed : Stmt := topS 16
abbrev s_law_after : Stmt := topS 17
abbrev s_law_wins : Stmt := topS 18
abbrev s_law_wins_always : Stmt := topS 19
abbrev s_law_fits : Stmt := topS 20
abbrev s_law : Stmt := topS 21
theorem sc_height_above : FnScope ["count", "below", "copies"] ["count", "below", "copies"] (defScope s_height_above) := ⟨rfl, rfl, rfl, by decide +kernel, rfl, by decide +kernel, by decide +kernel⟩
theorem sc_heights : FnScope ["blank", "copies", "found", "height", "count"] ["blank", "copies"] (defScope s_heights) := ⟨rfl, rfl, rfl, by decide +kernel, rfl, by decide +kernel, by decide +kernel⟩
theorem sc_lowest_lost : FnScope ["blank", "copies", "lost", "page", "height"] ["blank", "copies"] (defScope s_lowest_lost) := ⟨rfl, rfl, rfl, by decide +kernel, rfl, by decide +kernel, by decide +kernel⟩
theorem sc_attack_row : FnScope ["blank", "copies", "first", "last"] ["blank", "copies"] (defScope s_attack_row) := ⟨rfl, rfl, rfl, by decide +kernel, rfl, by decide +kernel, by decide +kernel⟩
theorem sc_law_is_integer : FnScope ["actual"] ["actual"] (defScope s_law_is_integer) := ⟨rfl, rfl, rfl, by decide +kernel, rfl, by decide +kernel, by decide +kernel⟩
theorem sc_law_bag : FnScope ["script", "k", "cell"] ["script", "k"] (defScope s_law_bag) := ⟨rfl, rfl, rfl, by decide +kernel, rfl, by decide +kernel, by decide +kernel⟩
theorem sc_law_take : FnScope ["bag", "size", "digit", "first", "second", "third"] ["bag", "size"] (defScope s_law_take) := ⟨rfl, rfl, rfl, by decide +kernel, rfl, by decide +kernel, by decide +kernel⟩
theorem sc_law_copies : FnScope ["bag"] ["bag"] (defScope s_law_copies) := ⟨rfl, rfl, rfl, by decide +kernel, rfl, by decide +kernel, by decide +kernel⟩
theorem sc_law_page : FnScope ["bag", "way"] ["bag"] (defScope s_law_page) := ⟨rfl, rfl, rfl, by decide +kernel, rfl, by decide +kernel, by decide +kernel⟩
theorem sc_law_pages : FnScope ["bag", "size", "place"] ["bag", "size"] (defScope s_law_pages) := ⟨rfl, rfl, rfl, by decide +kernel, rfl, by decide +kernel, by decide +kernel⟩
theorem sc_law_chain : FnScope ["bag", "copies", "way", "chain", "at", "groups", "middle", "count", "above", "below"] ["bag", "copies"] (defScope s_law_chain) := ⟨rfl, rfl, rfl, by decide +kernel, rfl, by decide +kernel, by decide +kernel⟩
theorem sc_law_has_stretch : FnScope ["chain", "copies", "start", "at", "turn"] ["chain", "copies"] (defScope s_law_has_stretch) := ⟨rfl, rfl, rfl, by decide +kernel, rfl, by decide +kernel, by decide +kernel⟩
theorem sc_law_reads : FnScope ["chain", "copies", "row", "first", "last", "place", "due", "k", "page"] ["chain", "copies", "row"] (defScope s_law_reads) := ⟨rfl, rfl, rfl, by decide +kernel, rfl, by decide +kernel, by decide +kernel⟩
theorem sc_law_closed : FnScope ["chain", "page", "wanted", "copied", "below", "place"] ["chain", "page", "wanted"] (defScope s_law_closed) := ⟨rfl, rfl, rfl, by decide +kernel, rfl, by decide +kernel, by decide +kernel⟩
theorem sc_law_after : FnScope ["chain", "lines", "page", "copied", "following", "place"] ["chain", "lines", "page", "copied"] (defScope s_law_after) := ⟨rfl, rfl, rfl, by decide +kernel, rfl, by decide +kernel, by decide +kernel⟩
theorem sc_law_wins : FnScope ["bag", "chain", "lines", "copies", "row", "state", "page", "wanted", "copied", "turn"] ["bag", "chain", "lines", "copies", "row"] (defScope s_law_wins) := ⟨rfl, rfl, rfl, by decide +kernel, rfl, by decide +kernel, by decide +kernel⟩
theorem sc_law_wins_always : FnScope ["chain", "lines", "copies", "row", "states", "page", "following", "state", "mask", "copied", "place"] ["chain", "lines", "copies", "row"] (defScope s_law_wins_always) := ⟨rfl, rfl, rfl, by decide +kernel, rfl, by decide +kernel, by decide +kernel⟩
theorem sc_law_fits : FnScope ["bag", "chain", "lines", "copies", "handed", "lost", "turn", "row"] ["bag", "chain", "lines", "copies"] (defScope s_law_fits) := ⟨rfl, rfl, rfl, by decide +kernel, rfl, by decide +kernel, by decide +kernel⟩
theorem sc_law : FnScope ["script", "copies", "chain", "bag", "other", "lines", "limit"] ["script"] (defScope s_law) := ⟨rfl, rfl, rfl, by decide +kernel, rfl, by decide +kernel, by decide +kernel⟩
structure Txt (K : PySem.W.Frag) (mg : Str → Option Value) where
  f_height_above : Addr
  fd_height_above : FuncData
  F_height_above : Fun K "height_above" "height_above" s_height_above f_height_above fd_height_above
  g_height_above : mg "height_above" = some (.ref f_height_above)
  b_height_above : Binds K fd_height_above ["count", "below", "copies"] []
  f_heights : Addr
  fd_heights : FuncData
  F_heights : Fun K "heights" "heights" s_heights f_heights fd_heights
  g_heights : mg "heights" = some (.ref f_heights)
  b_heights : Binds K fd_heights ["blank", "copies"] []
  f_lowest_lost : Addr
  fd_lowest_lost : FuncData
  F_lowest_lost : Fun K "_lowest_lost" "_lowest_lost" s_lowest_lost f_lowest_lost fd_lowest_lost
  g_lowest_lost : mg "_lowest_lost" = some (.ref f_lowest_lost)
  b_lowest_lost : Binds K fd_lowest_lost ["blank", "copies"] []
  f_attack_row : Addr
  fd_attack_row : FuncData
  F_attack_row : Fun K "attack_row" "attack_row" s_attack_row f_attack_row fd_attack_row
  g_attack_row : mg "attack_row" = some (.ref f_attack_row)
  b_attack_row : Binds K fd_attack_row ["blank", "copies"] []
  f_law_is_integer : Addr
  fd_law_is_integer : FuncData
  F_law_is_integer : Fun K "_law_is_integer" "_law_is_integer" s_law_is_integer f_law_is_integer fd_law_is_integer
  g_law_is_integer : mg "_law_is_integer" = some (.ref f_law_is_integer)
  b_law_is_integer : Binds K fd_law_is_integer ["actual"] []
  f_law_bag : Addr
  fd_law_bag : FuncData
  F_law_bag : Fun K "_law_bag" "_law_bag" s_law_bag f_law_bag fd_law_bag
  g_law_bag : mg "_law_bag" = some (.ref f_law_bag)
  b_law_bag : Binds K fd_law_bag ["script", "k"] []
  f_law_take : Addr
  fd_law_take : FuncData
  F_law_take : Fun K "_law_take" "_law_take" s_law_take f_law_take fd_law_take
  g_law_take : mg "_law_take" = some (.ref f_law_take)
  b_law_take : Binds K fd_law_take ["bag", "size"] []
  f_law_copies : Addr
  fd_law_copies : FuncData
  F_law_copies : Fun K "_law_copies" "_law_copies" s_law_copies f_law_copies fd_law_copies
  g_law_copies : mg "_law_copies" = some (.ref f_law_copies)
  b_law_copies : Binds K fd_law_copies ["bag"] []
  f_law_page : Addr
  fd_law_page : FuncData
  F_law_page : Fun K "_law_page" "_law_page" s_law_page f_law_page fd_law_page
  g_law_page : mg "_law_page" = some (.ref f_law_page)
  b_law_page : Binds K fd_law_page ["bag"] []
  f_law_pages : Addr
  fd_law_pages : FuncData
  F_law_pages : Fun K "_law_pages" "_law_pages" s_law_pages f_law_pages fd_law_pages
  g_law_pages : mg "_law_pages" = some (.ref f_law_pages)
  b_law_pages : Binds K fd_law_pages ["bag", "size"] []
  f_law_chain : Addr
  fd_law_chain : FuncData
  F_law_chain : Fun K "_law_chain" "_law_chain" s_law_chain f_law_chain fd_law_chain
  g_law_chain : mg "_law_chain" = some (.ref f_law_chain)
  b_law_chain : Binds K fd_law_chain ["bag", "copies"] []
  f_law_has_stretch : Addr
  fd_law_has_stretch : FuncData
  F_law_has_stretch : Fun K "_law_has_stretch" "_law_has_stretch" s_law_has_stretch f_law_has_stretch fd_law_has_stretch
  g_law_has_stretch : mg "_law_has_stretch" = some (.ref f_law_has_stretch)
  b_law_has_stretch : Binds K fd_law_has_stretch ["chain", "copies"] []
  f_law_reads : Addr
  fd_law_reads : FuncData
  F_law_reads : Fun K "_law_reads" "_law_reads" s_law_reads f_law_reads fd_law_reads
  g_law_reads : mg "_law_reads" = some (.ref f_law_reads)
  b_law_reads : Binds K fd_law_reads ["chain", "copies", "row"] []
  f_law_closed : Addr
  fd_law_closed : FuncData
  F_law_closed : Fun K "_law_closed" "_law_closed" s_law_closed f_law_closed fd_law_closed
  g_law_closed : mg "_law_closed" = some (.ref f_law_closed)
  b_law_closed : Binds K fd_law_closed ["chain", "page", "wanted"] []
  f_law_after : Addr
  fd_law_after : FuncData
  F_law_after : Fun K "_law_after" "_law_after" s_law_after f_law_after fd_law_after
  g_law_after : mg "_law_after" = some (.ref f_law_after)
  b_law_after : Binds K fd_law_after ["chain", "lines", "page", "copied"] []
  f_law_wins : Addr
  fd_law_wins : FuncData
  F_law_wins : Fun K "_law_wins" "_law_wins" s_law_wins f_law_wins fd_law_wins
  g_law_wins : mg "_law_wins" = some (.ref f_law_wins)
  b_law_wins : Binds K fd_law_wins ["bag", "chain", "lines", "copies", "row"] []
  f_law_wins_always : Addr
  fd_law_wins_always : FuncData
  F_law_wins_always : Fun K "_law_wins_always" "_law_wins_always" s_law_wins_always f_law_wins_always fd_law_wins_always
  g_law_wins_always : mg "_law_wins_always" = some (.ref f_law_wins_always)
  b_law_wins_always : Binds K fd_law_wins_always ["chain", "lines", "copies", "row"] []
  f_law_fits : Addr
  fd_law_fits : FuncData
  F_law_fits : Fun K "_law_fits" "_law_fits" s_law_fits f_law_fits fd_law_fits
  g_law_fits : mg "_law_fits" = some (.ref f_law_fits)
  b_law_fits : Binds K fd_law_fits ["bag", "chain", "lines", "copies"] []
  f_law : Addr
  fd_law : FuncData
  F_law : Fun K "law" "law" s_law f_law fd_law
  g_law : mg "law" = some (.ref f_law)
  b_law : Binds K fd_law ["script"] []
  z_abs : mg "abs" = none
  z_all : mg "all" = none
  z_any : mg "any" = none
  z_bool : mg "bool" = none
  z_enumerate : mg "enumerate" = none
  z_int : mg "int" = none
  z_isinstance : mg "isinstance" = none
  z_len : mg "len" = none
  z_list : mg "list" = none
  z_max : mg "max" = none
  z_min : mg "min" = none
  z_range : mg "range" = none
  z_reversed : mg "reversed" = none
section
variable {P : Program} {w : World} {K : PySem.W.Frag} {mg : Str → Option Value} {base : Heap}
set_option maxHeartbeats 4000000
/-! ### the law's draws: a bag of four numbers -/
def bag (p : Addr) : Asr := fun h => ∃ c s n k : Int, pto p (.lst [.int c, .int s, .int n, .int k]) h
theorem gB {H : Hp} {a : Addr} {L : List Asr} (h : Sts (bag a :: L) H) : Sts (bag a :: L) H := h
theorem bag_mk {p : Addr} {c s n k : Int} {L : List Asr} {H : Hp} (S : Sts (pto p (.lst [.int c, .int s, .int n, .int k]) :: L) H) : Sts (bag p :: L) H := S.imp fun _ a => ⟨c, s, n, k, a⟩
theorem bag_open {p : Addr} {L : List Asr} {H : Hp} (S : Sts (bag p :: L) H) : ∃ c s n k : Int, Sts (pto p (.lst [.int c, .int s, .int n, .int k]) :: L) H := by
  obtain ⟨c, S⟩ := S.ex
  obtain ⟨s, S⟩ := S.ex
  obtain ⟨n, S⟩ := S.ex
  obtain ⟨k, S⟩ := S.ex
  exact ⟨c, s, n, k, S⟩
def spBag (K : PySem.W.Frag) : Sp := fun vs H Q _ => ∃ (a : Addr) (ns : List Int) (k : Int) (F : List Asr), vs = [.ref a, .int k] ∧ 0 ≤ k ∧ Sts (sqc K a (ns.map V.int) :: F) H ∧ ∀ (p : Addr) (H' : Hp), Sts (bag p :: sqc K a (ns.map V.int) :: F) H' → Q (.ref p) H'
theorem ok_law_bag (T : Txt K mg) : FnOk P w K mg base CX0 1 T.f_law_bag T.fd_law_bag ["script", "k"] (spBag K) := by
  refine T.F_law_bag.ok sc_law_bag (fun vs H Q E h => by obtain ⟨a, ns, k, F, rfl, _⟩ := h; rfl) (fun cdv A outer s H vs Q E hr h => ?_)
  obtain ⟨a, ns, k, F, rfl, hk, S, q⟩ := h
  refine ⟨_, (pss_cons (ps_set (i := 2) sc_law_bag.nd rfl (Or.inl rfl) (pe_op op_add pe_int (pe_op op_mul pe_int (pv 1))))
      (oc_cut (ps_if (pt_cmpR op_lt (pv 1) (pe_callB (oc_lenI (K := K) rfl) (by rfl) T.z_len PySem.boot_len (pa_cons (pv 0) pa_nil)) (nomark _))
      (pss_one (ps_set (i := 2) sc_law_bag.nd rfl (Or.inl rfl) (pe_ix (oc_ixI (K := K) rfl) (pv 0) (pv 1) (fun _ _ => rfl))))
      (pss_one (ps_if (pt_truth (pv 0) (by intro _; rfl))
      (pss_one (ps_set (i := 2) sc_law_bag.nd rfl (Or.inl rfl) (pe_op op_add (pv 2) (pe_op op_mod (pe_callTy oc_int_i (by rfl) T.z_int PyProof.Rows.boot_int (pa_cons (pe_op op_mul (pe_ix (oc_ixI (K := K) rfl) (pv 0) pe_int (fun _ _ => rfl)) pe_int) pa_nil)) pe_int))))
      pss_nil)))
      (pss_cons (ps_if (pt_cmpR op_ge (pe_callB oc_abs (by rfl) T.z_abs PyProof.Rows.boot_abs (pa_cons (pv 2) pa_nil)) (pe_op (oc_powc 10 18 1000000000000000000 ⟨by decide, by decide, by decide⟩ (by decide +kernel)) pe_int pe_int) (nomark _))
      (pss_one (ps_ret (pe_lst (pa_cons (pe_callB oc_abs (by rfl) T.z_abs PyProof.Rows.boot_abs (pa_cons (pv 2) pa_nil)) (pa_cons (pv 2) (pa_cons pe_int (pa_cons (pv 1) pa_nil)))))))
      pss_nil)
      (pss_one (ps_ret (pe_lst (pa_cons pe_int (pa_cons (pv 2) (pa_cons pe_int (pa_cons (pv 1) pa_nil)))))))))), ?_⟩
  walk_at "go"
  refine ⟨fun σ H => ∃ c : Int, σ = [some (.ref a), some (.int k), some (.int c)] ∧ Sts (sqc K a (ns.map V.int) :: F) H, ?_, ?_⟩
  · walk_at "go"
    with_reducible refine ifB (fun c => ?_) (fun c => ?_)
    · have c := odt c
      walk_at "go"
      exact S
    · walk_at "go"
      with_reducible refine ifB (fun d => ?_) (fun d => ?_)
      · have d := isEmpty_pos d
        walk_at "go"
        exact S
      · walk_at "go"
        exact S
  rintro σ H ⟨c, rfl, S⟩
  walk_at "go"
  with_reducible refine ifB (fun d => ?_) (fun d => ?_)
  · walk_at "go"
    exact q _ _ (bag_mk (by walk_at "fp"))
  · walk_at "go"
    exact q _ _ (bag_mk (by walk_at "fp"))
def spTake : Sp := fun vs H Q _ => ∃ (p : Addr) (m : Int) (F : List Asr), vs = [.ref p, .int m] ∧ (0 < m ∧ m < 1073741824) ∧ Sts (bag p :: F) H ∧ ∀ (d : Int) (H' : Hp), 0 ≤ d → d < m → Sts (bag p :: F) H' → Q (.int d) H'
theorem ok_law_take (T : Txt K mg) : FnOk P w K mg base CX0 1 T.f_law_take T.fd_law_take ["bag", "size"] spTake := by
  refine T.F_law_take.ok sc_law_take (fun vs H Q E h => by obtain ⟨a, ns, F, rfl, _⟩ := h; rfl) (fun cdv A outer s H vs Q E hr h => ?_)
  obtain ⟨p, m, F, rfl, hm, S, q⟩ := h
  obtain ⟨c, s, n, k, S⟩ := bag_open S
  refine ⟨_, (pss_cons (ps_asg (pe_op op_add (pe_ix (oc_ix (K := K) rfl) (pv 0) pe_int (fun _ _ => rfl)) pe_int) (pg_sub (pv 0) pe_int oc_setL))
      (pss_cons (ps_if (pt_cmpR op_gt (pe_ix (oc_ix (K := K) rfl) (pv 0) pe_int (fun _ _ => rfl)) pe_int (nomark _))
      (pss_cons (ps_set (i := 2) sc_law_take.nd rfl (Or.inl rfl) (pe_op op_mod (pe_callTy oc_int_i (by rfl) T.z_int PyProof.Rows.boot_int (pa_cons (pe_ix (oc_ix (K := K) rfl) (pv 0) pe_int (fun _ _ => rfl)) pa_nil)) (pv 1)))
      (pss_cons (ps_asg (pe_op op_fdiv (pe_ix (oc_ix (K := K) rfl) (pv 0) pe_int (fun _ _ => rfl)) (pv 1)) (pg_sub (pv 0) pe_int oc_setL))
      (pss_one (ps_ret (pv 2)))))
      pss_nil)
      (pss_cons (ps_set (i := 3) sc_law_take.nd rfl (Or.inl rfl) (pe_op op_mod (pe_callTy oc_int_i (by rfl) T.z_int PyProof.Rows.boot_int (pa_cons (pe_op op_add (pe_op op_add (pe_op op_add (pe_op op_mul (pe_ix (oc_ix (K := K) rfl) (pv 0) pe_int (fun _ _ => rfl)) pe_int) (pe_op op_mul (pe_ix (oc_ix (K := K) rfl) (pv 0) pe_int (fun _ _ => rfl)) pe_int)) (pe_op op_mul (pe_ix (oc_ix (K := K) rfl) (pv 0) pe_int (fun _ _ => rfl)) pe_int)) pe_int) pa_nil)) pe_int))
      (pss_cons (ps_set (i := 4) sc_law_take.nd rfl (Or.inl rfl) (pe_op op_mod (pe_callTy oc_int_i (by rfl) T.z_int PyProof.Rows.boot_int (pa_cons (pe_op op_add (pe_op op_add (pe_op op_mul (pv 3) (pv 3)) (pe_op op_mul (pe_ix (oc_ix (K := K) rfl) (pv 0) pe_int (fun _ _ => rfl)) pe_int)) (pe_ix (oc_ix (K := K) rfl) (pv 0) pe_int (fun _ _ => rfl))) pa_nil)) pe_int))
      (pss_cons (ps_set (i := 5) sc_law_take.nd rfl (Or.inl rfl) (pe_op op_mod (pe_callTy oc_int_i (by rfl) T.z_int PyProof.Rows.boot_int (pa_cons (pe_op op_add (pe_op op_mul (pv 4) (pv 4)) (pv 3)) pa_nil)) pe_int))
      (pss_one (ps_ret (pe_op op_mod (pe_op op_fdiv (pv 5) pe_int) (pv 1))))))))), ?_⟩
  walk_at "go"
  with_reducible refine ifB (fun c => ?_) (fun c => ?_)
  · walk_at "go"
    exact q _ _ (Int.emod_nonneg _ (by omega)) (Int.emod_lt_of_pos _ hm.1) (bag_mk (by walk_at "fp"))
  · walk_at "go"
    exact q _ _ (Int.emod_nonneg _ (by omega)) (Int.emod_lt_of_pos _ hm.1) (bag_mk (by walk_at "fp"))
local macro_rules | `(tactic| walk_at "go1") => `(tactic| refine ⟨_, _, _, rfl, Oc.pr (by walk_at "side"), K27.gB (by walk_at "fr1"), fun (od : Int) (oh : L2.Hp) o0 o1 os => ?_⟩)
local macro_rules | `(tactic| walk_at "go1") => `(tactic| refine ⟨_, _, _, _, rfl, Oc.pr (by walk_at "side"), Oc.gQ (by walk_at "fr1"), fun (op : PySem.Addr) (oh : L2.Hp) os => ?_⟩)

/-! ### the chain's program -/
def spHA : Sp := fun vs H Q _ => ∃ c b w : Int, vs = [.int c, .int b, .int w] ∧ Q (.int (hAb c b w)) H
theorem ok_height_above (T : Txt K mg) : FnOk P w K mg base CX0 1 T.f_height_above T.fd_height_above ["count", "below", "copies"] spHA := by
  refine T.F_height_above.ok sc_height_above (fun vs H Q E h => by obtain ⟨c, b, w, rfl, _⟩ := h; rfl) (fun cdv A outer s H vs Q E hr h => ?_)
  obtain ⟨c, b, w, rfl, q⟩ := h
  refine ⟨_, (pss_cons (ps_if (pt_cmpR op_eq (pv 0) pe_int (nomark _))
      (pss_one (ps_ret (pe_op op_add (pv 1) pe_int)))
      pss_nil)
      (pss_cons (ps_if (PW.pt (pw_and (pt_cmpR op_eq (pv 0) pe_int (nomark _)) (pw_and1 (pt_cmpR op_ge (pv 1) (pv 2) (nomark _)))))
      (pss_one (ps_ret pe_int))
      pss_nil)
      (pss_one (ps_ret pe_int)))), ?_⟩
  unfold hAb at q
  walk_at "go"
  with_reducible refine ifB (fun h => ?_) (fun h => ?_)
  · rw [if_pos (vi (odt h))] at q
    walk_at "go"
    exact q
  · rw [if_neg fun e => odf h (congrArg V.int e)] at q
    walk_at "go"
    with_reducible refine ifB (fun h1 => ?_) (fun h1 => ?_)
    · walk_at "go"
      with_reducible refine ifB (fun h2 => ?_) (fun h2 => ?_)
      · rw [if_pos ⟨vi (odt h1), odt h2⟩] at q
        walk_at "go"
        exact q
      · rw [if_neg fun e => odf h2 e.2] at q
        walk_at "go"
        exact q
    · rw [if_neg fun e => odf h1 (congrArg V.int e.1)] at q
      walk_at "go"
      exact q
local macro_rules | `(tactic| walk_at "go1") => `(tactic| refine ⟨(_ : Int), (_ : Int), (_ : Int), rfl, ?_⟩)

def spHeights : Sp := fun vs H Q _ => ∃ (a : Addr) (w : Int) (ns : List Int) (F : List Asr), vs = [.ref a, .int w] ∧ ns.length ≤ 100000 ∧ Sts (pto a (.lst (ns.map V.int)) :: F) H ∧ ∀ (p : Addr) (H' : Hp), Sts (pto p (.lst ((hts w ns).map V.int)) :: pto a (.lst (ns.map V.int)) :: F) H' → Q (.ref p) H'
theorem ok_heights (T : Txt K mg) : FnOk P w K mg base CX0 2 T.f_heights T.fd_heights ["blank", "copies"] spHeights := by
  refine T.F_heights.ok sc_heights (fun vs H Q E h => by obtain ⟨a, w, ns, F, rfl, _⟩ := h; rfl) (fun cdv A outer s H vs Q E hr h => ?_)
  obtain ⟨a, w, ns, F, rfl, hl, S, q⟩ := h
  refine ⟨_, (pss_cons (ps_set (i := 2) sc_heights.nd rfl (Or.inl rfl) (pe_lst pa_nil))
      (pss_cons (ps_set (i := 3) sc_heights.nd rfl (Or.inl rfl) pe_int)
      (pss_cons (ps_for PassesOwn.never rfl (pi_list (pe_revL (pv 0))) (pg_name (i := 4) sc_heights.nd rfl (Or.inl rfl))
      (pss_cons (ps_set (i := 3) sc_heights.nd rfl (Or.inl rfl) (pe_call (ok_height_above T) (hr.mono (by decide)) (by rfl) T.g_height_above T.F_height_above.kp T.b_height_above .nil pass0 (pa_cons (pv 4) (pa_cons (pv 3) (pa_cons (pv 1) pa_nil)))))
      (pss_one (ps_expr (pe_bm PySem.F.plainAttrs_list PySem.F.slot_list_append PySem.F.type_list_append oc_appendI (pv 2) (pa_cons (pv 3) pa_nil))))))
      (pss_one (ps_ret (pe_revL (pv 2))))))), ?_⟩
  walk_at "go"
  rename_i f H1 S1 r H2 S2
  rw [← List.map_reverse] at S2
  refine for_list (K := K) (a := r) (xs := ns.reverse.map V.int) (fun i σ H => ∃ c : Option V, σ = [some (.ref a), some (.int w), some (.ref f), some (.int (hgt w (ns.drop (ns.length - i)))), c] ∧
    Sts (pto f (.lst ((hts w (ns.drop (ns.length - i))).reverse.map V.int)) :: pto r (.lst (ns.reverse.map V.int)) :: pto a (.lst (ns.map V.int)) :: F) H) ?_ (fun i σ H _ ⟨_, _, S⟩ => by walk_at "sq") ?_ ?_
  · rw [Nat.sub_zero, List.drop_length]
    exact ⟨none, rfl, by walk_at "fp"⟩
  · rintro i x σ H hx ⟨c, rfl, S⟩
    have hi := len_lt hx
    obtain ⟨n, hn, rfl⟩ := at_int hx
    rw [List.length_reverse] at hi
    have st := rev_step hn
    have hl2 : ((hts w (ns.drop (ns.length - i))).reverse).length ≤ 100000 := by
      rw [List.length_reverse, hts_len, List.length_drop]
      omega
    walk_at "go"
    rename_i H3 S3
    rw [st]
    refine ⟨_, rfl, ?_⟩
    rw [hts, List.reverse_cons]
    exact S3
  · rintro σ H ⟨c, rfl, S⟩
    rw [List.length_map, List.length_reverse, Nat.sub_self, List.drop_zero] at S
    walk_at "go"
    rename_i p H3 S3
    rw [← List.map_reverse, List.reverse_reverse] at S3
    exact q _ _ (by walk_at "fp")
def lostL (w : Int) (hs : List Int) : List Int := ((hs.zipIdx.filter fun p => decide (w < p.1)).map fun p => ((p.2 : Nat) : Int))
theorem lostL_snoc (w : Int) (hs : List Int) (i : Nat) (x : Int) (h : hs[i]? = some x) : lostL w (hs.take (i + 1)) = lostL w (hs.take i) ++ if w < x then [(i : Int)] else [] := by
  have hi : i < hs.length := (List.getElem?_eq_some_iff.mp h).1
  unfold lostL
  rw [List.take_add_one, h, List.zipIdx_append, List.filter_append, List.map_append]
  congr 1
  have e : (0 : Nat) + (hs.take i).length = i := by rw [List.length_take]; omega
  rw [e]
  show ((([x].zipIdx i).filter fun p => decide (w < p.1)).map fun p => ((p.2 : Nat) : Int)) = _
  by_cases g : w < x
  · rw [if_pos g]
    simp [List.zipIdx, g]
  · rw [if_neg g]
    simp [List.zipIdx, g]
theorem lostL_len (w : Int) (hs : List Int) : (lostL w hs).length ≤ hs.length := by
  unfold lostL
  rw [List.length_map]
  exact Nat.le_trans (List.length_filter_le _ _) (by rw [List.length_zipIdx]; exact Nat.le_refl _)
def lowest (w : Int) (ns : List Int) : Option Int := (lostL w (hts w ns)).getLast?
local macro_rules | `(tactic| walk_at "go1") => `(tactic| (refine ⟨_, _, _, _, rfl, ?len, Oc.gL (by walk_at "frI"), fun (op : PySem.Addr) (oh : L2.Hp) os => ?_⟩; case len => omega))
def spLowest : Sp := fun vs H Q _ => ∃ (a : Addr) (w : Int) (ns : List Int) (F : List Asr), vs = [.ref a, .int w] ∧ ns.length ≤ 100000 ∧ Sts (pto a (.lst (ns.map V.int)) :: F) H ∧ ∀ (H' : Hp), Sts (pto a (.lst (ns.map V.int)) :: F) H' → Q (ov (lowest w ns)) H'
theorem ok_lowest_lost (T : Txt K mg) : FnOk P w K mg base CX0 3 T.f_lowest_lost T.fd_lowest_lost ["blank", "copies"] spLowest := by
  refine T.F_lowest_lost.ok sc_lowest_lost (fun vs H Q E h => by obtain ⟨a, w, ns, F, rfl, _⟩ := h; rfl) (fun cdv A outer s H vs Q E hr h => ?_)
  obtain ⟨a, w, ns, F, rfl, hl, S, q⟩ := h
  refine ⟨_, (pss_cons (ps_setLc (i := 2) (own := [("page", 3), ("height", 4)]) rfl sc_lowest_lost.nd rfl rfl (sw_true rfl rfl rfl (by decide +kernel)) (pi_enum rfl T.z_enumerate (pa_cons (pe_call (ok_heights T) (hr.mono (by decide)) (by rfl) T.g_heights T.F_heights.kp T.b_heights .nil pass0 (pa_cons (pv 0) (pa_cons (pv 1) pa_nil))) pa_nil)) (blkOk_by (own := [("page", 3), ("height", 4)]) (N := ["blank", "copies", "lost", "page", "height"]) (sc := defScope s_lowest_lost) (by decide +kernel)) (fun _ _ _ _ _ => (oc_pg_tup (K := K) (n := 2) rfl rfl (pgs_cons (pg_name (i := 3) sc_lowest_lost.nd rfl (Or.inl rfl)) (pgs_cons (pg_name (i := 4) sc_lowest_lost.nd rfl (Or.inl rfl)) pgs_nil)))) (fun _ _ _ _ _ => (pts_one (pt_cmpR op_gt (pv 4) (pv 1) (nomark _)))) (fun _ _ _ _ _ => (pv 3)))
      (pss_one (ps_ret (pe_ifExp (pt_truth (pv 2) (by intro _; rfl)) (pe_ix (oc_ixLast (K := K) rfl) (pv 2) (pe_un un_neg pe_int) (fun _ _ => rfl)) pe_non)))), ?_⟩
  walk_at "go"
  rename_i h H1 S1 D H2 S2
  refine oc_lcE (K := K) ((hts w ns).map V.int) (fun i H => Sts (pto D (.lst ((lostL w ((hts w ns).take i)).map V.int)) :: pto h (.lst ((hts w ns).map V.int)) :: pto a (.lst (ns.map V.int)) :: F) H) S2 (fun i H S => by walk_at "sq") ?_ ?_
  · intro i x T H H' hx S nT e
    have hi := len_lt hx
    rw [hts_len] at hi
    obtain ⟨n, hn, rfl⟩ := at_int hx
    have S := S.newE nT e
    clear e
    have sn := lostL_snoc w _ i n hn
    have ln : (lostL w ((hts w ns).take i)).length ≤ 100000 := Nat.le_trans (lostL_len _ _) (by rw [List.length_take, hts_len]; omega)
    walk_at "go"
    with_reducible refine ifB (fun c => ?_) (fun c => ?_)
    · rw [if_pos (odt c)] at sn
      walk_at "go"
      refine lc_end (Oc.pr (by walk_at "fr1")) (by rw [List.length_map]; omega) fun H' S => ?_
      rw [sn, List.map_append]
      exact (by walk_at "fp")
    · rw [if_neg (odf c), List.append_nil] at sn
      rw [sn]
      exact (by walk_at "fp")
  · intro H S
    rw [List.length_map, List.take_length] at S
    walk_at "go"
    with_reducible refine ifB (fun c => ?_) (fun c => ?_)
    · have c := isEmpty_pos c
      obtain ⟨i, hi⟩ : ∃ i, (lostL w (hts w ns)).getLast? = some i := by
        cases z : (lostL w (hts w ns)).getLast? with
        | none =>
          have y := List.getLast?_eq_none_iff.mp z
          rw [y] at c
          simp at c
        | some i => exact ⟨i, rfl⟩
      walk_at "go"
      refine ⟨_, _, rfl, rfl, by walk_at "sq", i, hi, ?_⟩
      have r := q H (by walk_at "fp")
      unfold lowest at r
      rw [hi] at r
      exact r
    · have c := isEmpty_nil c
      walk_at "go"
      have r := q H (by walk_at "fp")
      unfold lowest at r
      rw [c] at r
      exact r
theorem lost_none (w : Int) (ns : List Int) : (lowest w ns).isNone = true ↔ ¬ Lost w ns := by
  rw [lost_any]
  unfold lowest
  have key : ∀ (hs : List Int), (lostL w hs).getLast?.isNone = true ↔ ¬ ∃ h ∈ hs, w < h := by
    intro hs
    rw [Option.isNone_iff_eq_none, List.getLast?_eq_none_iff]
    unfold lostL
    rw [List.map_eq_nil_iff, List.filter_eq_nil_iff]
    constructor
    · rintro h ⟨x, hx, g⟩
      obtain ⟨i, hi, e⟩ := List.getElem_of_mem hx
      exact h (x, i) (by rw [List.mem_zipIdx_iff_getElem?]; simp; exact e ▸ List.getElem?_eq_getElem hi) (decide_eq_true g)
    · intro h p hp g
      rw [List.mem_zipIdx_iff_getElem?] at hp
      exact h ⟨p.1, List.mem_of_getElem? hp, of_decide_eq_true g⟩
  exact key _
local macro_rules | `(tactic| walk_at "go1") => `(tactic| (refine ⟨_, _, _, _, rfl, ?len, Oc.gL (by walk_at "frI"), fun (oh : L2.Hp) os => ?_⟩; case len => omega))

/-! ### the laws' own helpers over chains -/
def spIsInt : Sp := fun vs H Q _ => ∃ i : Int, vs = [.int i] ∧ Q (.bl true) H
theorem ok_law_is_integer (T : Txt K mg) : FnOk P w K mg base CX0 1 T.f_law_is_integer T.fd_law_is_integer ["actual"] spIsInt := by
  refine T.F_law_is_integer.ok sc_law_is_integer (fun vs H Q E h => by obtain ⟨i, rfl, _⟩ := h; rfl) (fun cdv A outer s H vs Q E hr h => ?_)
  obtain ⟨i, rfl, q⟩ := h
  refine ⟨_, (pss_one (ps_ret (pe_and (pe_callB oc_isi_ii (by rfl) T.z_isinstance PyProof.Rows.boot_isinstance (pa_cons (pv 0) (pa_cons (pe_bltn (v := .ty "int") (by rfl) T.z_int PyProof.Rows.boot_int rfl) pa_nil))) (pe_one (pe_not (pe_callB oc_isi_ib (by rfl) T.z_isinstance PyProof.Rows.boot_isinstance (pa_cons (pv 0) (pa_cons (pe_bltn (v := .ty "bool") (by rfl) T.z_bool PyProof.Rows.boot_bool rfl) pa_nil)))))))), ?_⟩
  walk_at "go"
  exact q
def spCopies : Sp := fun vs H Q _ => ∃ (p : Addr) (F : List Asr), vs = [.ref p] ∧ Sts (bag p :: F) H ∧ ∀ (c : Int) (H' : Hp), 1 ≤ c → c ≤ 70 → Sts (bag p :: F) H' → Q (.int c) H'
theorem ok_law_copies (T : Txt K mg) : FnOk P w K mg base CX0 2 T.f_law_copies T.fd_law_copies ["bag"] spCopies := by
  refine T.F_law_copies.ok sc_law_copies (fun vs H Q E h => by obtain ⟨p, F, rfl, _⟩ := h; rfl) (fun cdv A outer s H vs Q E hr h => ?_)
  obtain ⟨p, F, rfl, S, q⟩ := h
  refine ⟨_, (pss_cons (ps_if (pt_cmpR op_eq (pe_call (ok_law_take T) (hr.mono (by decide)) (by rfl) T.g_law_take T.F_law_take.kp T.b_law_take .nil pass0 (pa_cons (pv 0) (pa_cons pe_int pa_nil))) pe_int (nomark _))
      (pss_one (ps_ret (pe_op op_add pe_int (pe_call (ok_law_take T) (hr.mono (by decide)) (by rfl) T.g_law_take T.F_law_take.kp T.b_law_take .nil pass0 (pa_cons (pv 0) (pa_cons pe_int pa_nil))))))
      pss_nil)
      (pss_one (ps_ret (pe_op op_add pe_int (pe_call (ok_law_take T) (hr.mono (by decide)) (by rfl) T.g_law_take T.F_law_take.kp T.b_law_take .nil pass0 (pa_cons (pv 0) (pa_cons pe_int pa_nil))))))), ?_⟩
  walk_at "go"
  with_reducible refine ifB (fun c => ?_) (fun c => ?_)
  · walk_at "go"
    exact q _ _ (by omega) (by omega) (by walk_at "fp")
  · walk_at "go"
    exact q _ _ (by omega) (by omega) (by walk_at "fp")
local macro_rules | `(tactic| walk_at "go1") => `(tactic| refine ⟨_, _, rfl, K27.gB (by walk_at "fr1"), fun (od : Int) (oh : L2.Hp) o0 o1 os => ?_⟩)

def spPage : Sp := fun vs H Q _ => ∃ (p : Addr) (F : List Asr), vs = [.ref p] ∧ Sts (bag p :: F) H ∧ ∀ (c : Int) (H' : Hp), 0 ≤ c → c ≤ 1000000 → Sts (bag p :: F) H' → Q (.int c) H'
theorem ok_law_page (T : Txt K mg) : FnOk P w K mg base CX0 2 T.f_law_page T.fd_law_page ["bag"] spPage := by
  refine T.F_law_page.ok sc_law_page (fun vs H Q E h => by obtain ⟨p, F, rfl, _⟩ := h; rfl) (fun cdv A outer s H vs Q E hr h => ?_)
  obtain ⟨p, F, rfl, S, q⟩ := h
  refine ⟨_, (pss_cons (ps_set (i := 1) sc_law_page.nd rfl (Or.inl rfl) (pe_call (ok_law_take T) (hr.mono (by decide)) (by rfl) T.g_law_take T.F_law_take.kp T.b_law_take .nil pass0 (pa_cons (pv 0) (pa_cons pe_int pa_nil))))
      (pss_cons (ps_if (pt_cmpR op_lt (pv 1) pe_int (nomark _))
      (pss_one (ps_ret pe_int))
      pss_nil)
      (pss_cons (ps_if (pt_cmpR op_lt (pv 1) pe_int (nomark _))
      (pss_one (ps_ret pe_int))
      pss_nil)
      (pss_one (ps_ret (pe_call (ok_law_take T) (hr.mono (by decide)) (by rfl) T.g_law_take T.F_law_take.kp T.b_law_take .nil pass0 (pa_cons (pv 0) (pa_cons pe_int pa_nil)))))))), ?_⟩
  walk_at "go"
  with_reducible refine ifB (fun c => ?_) (fun c => ?_)
  · walk_at "go"
    exact q _ _ (by omega) (by omega) (by walk_at "fp")
  · walk_at "go"
    with_reducible refine ifB (fun c => ?_) (fun c => ?_)
    · walk_at "go"
      exact q _ _ (by omega) (by omega) (by walk_at "fp")
    · walk_at "go"
      exact q _ _ (by omega) (by omega) (by walk_at "fp")
theorem nn_snoc {ns : List Int} {x : Int} (h : Nn ns) (hx : 0 ≤ x) : Nn (ns ++ [x]) := fun y hy => by
  rcases List.mem_append.mp hy with hy | hy
  · exact h y hy
  · have e : y = x := by simpa using hy
    rw [e]
    exact hx
theorem nn_one {x : Int} (hx : 0 ≤ x) : Nn [x] := nn_snoc (ns := []) (fun _ h => nomatch h) hx
theorem nn_app {ns ms : List Int} (h : Nn ns) (g : Nn ms) : Nn (ns ++ ms) := fun y hy => (List.mem_append.mp hy).elim (h y) (g y)
theorem nn_rep {ns : List Int} (h : Nn ns) (k : Nat) : Nn (List.replicate k ns).flatten := fun y hy => by
  obtain ⟨l, hl, hy⟩ := List.mem_flatten.mp hy
  rw [(List.mem_replicate.mp hl).2] at hy
  exact h y hy
theorem nn_set {ns : List Int} {x : Int} {i : Nat} (h : Nn ns) (hx : 0 ≤ x) : Nn (ns.set i x) := fun y hy => by
  rcases List.mem_or_eq_of_mem_set hy with q | q
  · exact h y q
  · rw [q]
    exact hx
theorem nn_take {ns : List Int} (h : Nn ns) (n : Nat) : Nn (ns.take n) := fun x hx => h x (List.mem_of_mem_take hx)
theorem nn_drop {ns : List Int} (h : Nn ns) (n : Nat) : Nn (ns.drop n) := fun x hx => h x (List.mem_of_mem_drop hx)

def spPages : Sp := fun vs H Q _ => ∃ (p : Addr) (n : Int) (F : List Asr), vs = [.ref p, .int n] ∧ (0 ≤ n ∧ n ≤ 1000) ∧ Sts (bag p :: F) H ∧ ∀ (a : Addr) (ns : List Int) (H' : Hp), Nn ns → (ns.length : Int) = n → Sts (pto a (.lst (ns.map V.int)) :: bag p :: F) H' → Q (.ref a) H'
theorem ok_law_pages (T : Txt K mg) : FnOk P w K mg base CX0 3 T.f_law_pages T.fd_law_pages ["bag", "size"] spPages := by
  refine T.F_law_pages.ok sc_law_pages (fun vs H Q E h => by obtain ⟨p, n, F, rfl, _⟩ := h; rfl) (fun cdv A outer s H vs Q E hr h => ?_)
  obtain ⟨p, n, F, rfl, ⟨h0, h1⟩, S, q⟩ := h
  refine ⟨_, (pss_one (ps_ret (pe_lc (own := [("place", 2)]) (g := gName 2) (tt := tYes) rfl sc_law_pages.nd (pi_range1 rfl T.z_range (pa_cons (pv 1) pa_nil)) (blkOk_by (own := [("place", 2)]) (N := ["bag", "size", "place"]) (sc := defScope s_law_pages) (by decide +kernel)) (fun _ _ _ _ _ => (pg_name (i := 2) sc_law_pages.nd rfl (Or.inl rfl))) (fun _ _ _ _ _ => pts_nil) (fun _ _ _ _ _ => (pe_call (ok_law_page T) (hr.mono (by decide)) (by rfl) T.g_law_page T.F_law_page.kp T.b_law_page .nil pass0 (pa_cons (pv 0) pa_nil)))))), ?_⟩
  walk_at "go"
  rename_i D H1 S1
  refine oc_lcR (n := n.toNat) (fun i H => ∃ ns : List Int, Nn ns ∧ ns.length = i ∧ Sts (pto D (.lst (ns.map V.int)) :: bag p :: F) H) ⟨[], (fun _ h => nomatch h), rfl, S1⟩ ?_ ?_
  · rintro i H hi ⟨ns, hn, hl, S⟩
    walk_at "go"
    rename_i c H2 c0 c1 S2
    walk_at "lce"
    refine ⟨ns ++ [c], nn_snoc hn c0, by rw [List.length_append, hl]; rfl, ?_⟩
    rw [List.map_append]
    walk_at "fp"
  · rintro H ⟨ns, hn, hl, S⟩
    exact q _ ns _ hn (by omega) S
local macro_rules | `(tactic| walk_at "go1") => `(tactic| refine ⟨_, _, _, rfl, Oc.pr (by walk_at "side"), K27.gB (by walk_at "fr1"), fun (oa : PySem.Addr) (ons : List Int) (oh : L2.Hp) on ol os => ?_⟩)

def spChain : Sp := fun vs H Q _ => ∃ (p : Addr) (w : Int) (F : List Asr), vs = [.ref p, .int w] ∧ (1 ≤ w ∧ w ≤ 70) ∧ Sts (bag p :: F) H ∧ ∀ (a : Addr) (ns : List Int) (H' : Hp), Nn ns → 1 ≤ ns.length ∧ ns.length ≤ 1000 → Sts (pto a (.lst (ns.map V.int)) :: bag p :: F) H' → Q (.ref a) H'
theorem ok_law_chain (T : Txt K mg) : FnOk P w K mg base CX0 4 T.f_law_chain T.fd_law_chain ["bag", "copies"] spChain := by
  refine T.F_law_chain.ok sc_law_chain (fun vs H Q E h => by obtain ⟨p, n, F, rfl, _⟩ := h; rfl) (fun cdv A outer s H vs Q E hr h => ?_)
  obtain ⟨p, w, F, rfl, ⟨h0, h1⟩, S, q⟩ := h
  refine ⟨_, (pss_cons (ps_set (i := 2) sc_law_chain.nd rfl (Or.inl rfl) (pe_call (ok_law_take T) (hr.mono (by decide)) (by rfl) T.g_law_take T.F_law_take.kp T.b_law_take .nil pass0 (pa_cons (pv 0) (pa_cons pe_int pa_nil))))
      (pss_cons (ps_if (pt_cmpR op_eq (pv 2) pe_int (nomark _))
      (pss_one (ps_ret (pe_call (ok_law_pages T) (hr.mono (by decide)) (by rfl) T.g_law_pages T.F_law_pages.kp T.b_law_pages .nil pass0 (pa_cons (pv 0) (pa_cons (pe_op op_add pe_int (pe_call (ok_law_take T) (hr.mono (by decide)) (by rfl) T.g_law_take T.F_law_take.kp T.b_law_take .nil pass0 (pa_cons (pv 0) (pa_cons pe_int pa_nil)))) pa_nil)))))
      pss_nil)
      (pss_cons (ps_if (pt_cmpR op_eq (pv 2) pe_int (nomark _))
      (pss_cons (ps_set (i := 3) sc_law_chain.nd rfl (Or.inl rfl) (pe_op oc_repI (pe_call (ok_law_pages T) (hr.mono (by decide)) (by rfl) T.g_law_pages T.F_law_pages.kp T.b_law_pages .nil pass0 (pa_cons (pv 0) (pa_cons (pe_op op_add pe_int (pe_call (ok_law_take T) (hr.mono (by decide)) (by rfl) T.g_law_take T.F_law_take.kp T.b_law_take .nil pass0 (pa_cons (pv 0) (pa_cons pe_int pa_nil)))) pa_nil))) (pe_op op_add pe_int (pe_call (ok_law_take T) (hr.mono (by decide)) (by rfl) T.g_law_take T.F_law_take.kp T.b_law_take .nil pass0 (pa_cons (pv 0) (pa_cons pe_int pa_nil))))))
      (pss_cons (ps_set (i := 4) sc_law_chain.nd rfl (Or.inl rfl) (pe_call (ok_law_take T) (hr.mono (by decide)) (by rfl) T.g_law_take T.F_law_take.kp T.b_law_take .nil pass0 (pa_cons (pv 0) (pa_cons (pe_callB (oc_lenI (K := K) rfl) (by rfl) T.z_len PySem.boot_len (pa_cons (pv 3) pa_nil)) pa_nil))))
      (pss_cons (ps_asg (pe_call (ok_law_page T) (hr.mono (by decide)) (by rfl) T.g_law_page T.F_law_page.kp T.b_law_page .nil pass0 (pa_cons (pv 0) pa_nil)) (pg_sub (pv 3) (pv 4) oc_setI))
      (pss_one (ps_ret (pv 3))))))
      pss_nil)
      (pss_cons (ps_set (i := 5) sc_law_chain.nd rfl (Or.inl rfl) (pe_call (ok_law_take T) (hr.mono (by decide)) (by rfl) T.g_law_take T.F_law_take.kp T.b_law_take .nil pass0 (pa_cons (pv 0) (pa_cons (pe_op op_add pe_int (pe_callB (oc_min2 rfl) (by rfl) T.z_min PyProof.Rows.boot_min (pa_cons pe_int (pa_cons (pe_op op_fdiv (pe_op op_sub pe_int (pv 1)) (pv 1)) pa_nil)))) pa_nil))))
      (pss_cons (ps_set (i := 6) sc_law_chain.nd rfl (Or.inl rfl) (pe_op oc_catI (pe_op oc_catI (pe_op oc_repI (pe_lst (pa_cons pe_int pa_nil)) (pv 1)) (pe_op oc_repI (pe_op oc_catI (pe_lst (pa_cons pe_int pa_nil)) (pe_op oc_repI (pe_lst (pa_cons pe_int pa_nil)) (pe_op op_sub (pv 1) pe_int))) (pv 5))) (pe_lst (pa_cons pe_int pa_nil))))
      (oc_cut (ps_if (pt_cmpR op_eq (pv 2) pe_int (nomark _))
      (pss_cons (ps_set (i := 4) sc_law_chain.nd rfl (Or.inl rfl) (pe_call (ok_law_take T) (hr.mono (by decide)) (by rfl) T.g_law_take T.F_law_take.kp T.b_law_take .nil pass0 (pa_cons (pv 0) (pa_cons (pe_callB (oc_lenI (K := K) rfl) (by rfl) T.z_len PySem.boot_len (pa_cons (pv 6) pa_nil)) pa_nil))))
      (pss_cons (ps_set (i := 7) sc_law_chain.nd rfl (Or.inl rfl) (pe_call (ok_law_take T) (hr.mono (by decide)) (by rfl) T.g_law_take T.F_law_take.kp T.b_law_take .nil pass0 (pa_cons (pv 0) (pa_cons pe_int pa_nil))))
      (pss_one (ps_if (pt_cmpR op_lt (pv 7) pe_int (nomark _))
      (pss_one (ps_asg (pv 7) (pg_sub (pv 6) (pv 4) oc_setI)))
      (pss_one (ps_set (i := 6) sc_law_chain.nd rfl (Or.inl rfl) (pe_op oc_catI (pe_slice (oc_slI (K := K) rfl) (pv 6) po_none (po_some (pv 4))) (pe_slice (oc_slI (K := K) rfl) (pv 6) (po_some (pe_op op_add (pv 4) pe_int)) po_none))))))))
      pss_nil)
      (pss_cons (ps_set (i := 8) sc_law_chain.nd rfl (Or.inl rfl) (pe_call (ok_law_pages T) (hr.mono (by decide)) (by rfl) T.g_law_pages T.F_law_pages.kp T.b_law_pages .nil pass0 (pa_cons (pv 0) (pa_cons (pe_call (ok_law_take T) (hr.mono (by decide)) (by rfl) T.g_law_take T.F_law_take.kp T.b_law_take .nil pass0 (pa_cons (pv 0) (pa_cons pe_int pa_nil))) pa_nil))))
      (pss_cons (ps_set (i := 9) sc_law_chain.nd rfl (Or.inl rfl) (pe_call (ok_law_pages T) (hr.mono (by decide)) (by rfl) T.g_law_pages T.F_law_pages.kp T.b_law_pages .nil pass0 (pa_cons (pv 0) (pa_cons (pe_call (ok_law_take T) (hr.mono (by decide)) (by rfl) T.g_law_take T.F_law_take.kp T.b_law_take .nil pass0 (pa_cons (pv 0) (pa_cons pe_int pa_nil))) pa_nil))))
      (pss_one (ps_ret (pe_op oc_catI (pe_op oc_catI (pv 8) (pv 6)) (pv 9)))))))))))), ?_⟩
  walk_at "go"
  with_reducible refine ifB (fun c => ?_) (fun c => ?_)
  · walk_at "go"
    exact q _ _ _ (by assumption) (by omega) (by walk_at "fp")
  · walk_at "go"
    with_reducible refine ifB (fun c3 => ?_) (fun c3 => ?_)
    · walk_at "go"
      refine ⟨_, _, _, rfl, rfl, Oc.pr (by walk_at "hpI"), ⟨by omega, by omega, mulb 6 32 (by omega) (by omega) (by decide)⟩, ?_⟩
      rename_i d1 _ _ _ _ _ ns _ hn hl _ d2 _ _ _ _
      have hL : 1 ≤ (List.replicate (1 + d2).toNat ns).flatten.length ∧ (List.replicate (1 + d2).toNat ns).flatten.length ≤ 192 := by
        rw [len_rep]
        exact ⟨Nat.mul_pos (by omega) (by omega), mulb 32 6 (by omega) (by omega) (by decide)⟩
      walk_at "go"
      refine q _ _ _ ?_ ?_ (by walk_at "fp")
      · exact nn_set (nn_rep hn _) (by assumption)
      · rw [List.length_set]
        omega
    · walk_at "go"
      have hd : 0 ≤ (149 - w) / w := Int.ediv_nonneg (by omega) (by omega)
      walk_at "go"
      rename_i g _ g0 g1 _ _ _ _ _ _ _ _ _ _ _ _ _ _ _ _ _ _ _
      refine ⟨_, _, _, rfl, rfl, Oc.pr (by walk_at "hpI"), ⟨by omega, by omega, mulb 70 4 (by simp only [List.length_append, List.length_cons, List.length_nil, len_rep]; omega) (by omega) (by decide)⟩, ?_⟩
      have hM : (List.replicate g.toNat (([1] : List Int) ++ (List.replicate (w - 1).toNat [0]).flatten)).flatten.length ≤ 280 := by
        rw [len_rep]
        exact mulb 4 70 (by omega) (by simp only [List.length_append, List.length_cons, List.length_nil, len_rep]; omega) (by decide)
      have n0 : Nn [0] := nn_one (Int.le_refl 0)
      have n1 : Nn [1] := nn_one (by decide)
      have nM := nn_app (nn_app (nn_rep n0 w.toNat) (nn_rep (nn_app n1 (nn_rep n0 (w - 1).toNat)) g.toNat)) n0
      generalize (List.replicate g.toNat (([1] : List Int) ++ (List.replicate (w - 1).toNat [0]).flatten)).flatten = M at *
      walk_at "go"
      rename_i md mh ms
      have hMM : ((List.replicate w.toNat ([0] : List Int)).flatten ++ M ++ [0]).length ≤ 351 := by simp only [List.length_append, List.length_cons, List.length_nil, len_rep]; omega
      have hpos : 2 ≤ ((List.replicate w.toNat ([0] : List Int)).flatten ++ M ++ [0]).length := by simp only [List.length_append, List.length_cons, List.length_nil, len_rep]; omega
      generalize (List.replicate w.toNat ([0] : List Int)).flatten ++ M ++ [0] = MM at *
      refine ⟨fun σ H => ∃ (m : Addr) (ns : List Int) (x2 x3 x4 x5 x7 : Option V), σ = [some (.ref p), some (.int w), x2, x3, x4, x5, some (.ref m), x7, none, none] ∧ Nn ns ∧ (1 ≤ ns.length ∧ ns.length ≤ 351) ∧ Sts (pto m (.lst (ns.map V.int)) :: bag p :: F) H, ?_, ?_⟩
      · walk_at "go"
        with_reducible refine ifB (fun c2 => ?_) (fun c2 => ?_)
        · walk_at "go"
          rename_i at_ _ a0 a1 _ ct _ c0 c1 _
          with_reducible refine ifB (fun c4 => ?_) (fun c4 => ?_)
          · walk_at "go"
            refine ⟨md, MM.set at_.toNat ct, _, _, _, _, _, rfl, nn_set nM c0, by rw [List.length_set]; omega, by walk_at "fp"⟩
          · walk_at "go"
            rename_i _ _ _ _ mm _ _
            rw [cutL_take _ a0, cutL_drop _ (show 0 ≤ at_ + 1 by omega)] at *
            refine ⟨mm, _, _, _, _, _, _, rfl, nn_app (nn_take nM at_.toNat) (nn_drop nM (at_ + 1).toNat), by rw [List.length_append, List.length_take, List.length_drop]; omega, by walk_at "fp"⟩
        · walk_at "go"
          exact ⟨md, MM, _, _, _, _, _, rfl, nM, by omega, by walk_at "fp"⟩
      rintro σ H ⟨m, ns, x2, x3, x4, x5, x7, rfl, hn, hl, S⟩
      walk_at "go"
      rename_i _ _ _ _ _ _ as _ ha la _ _ _ _ _ _ _ bs _ hb lb _ _ _ _ _ _ _
      refine q _ _ _ ?_ ?_ (by walk_at "fp")
      · exact nn_app (nn_app ha hn) hb
      · rw [List.length_append, List.length_append]
        omega

theorem any_z {L : List Int} : (L.any fun n => decide (n ≠ 0)) = false ↔ AllZ L := by
  rw [List.any_eq_false]
  constructor
  · intro h x hx
    exact Decidable.byContradiction fun g => h x hx (decide_eq_true g)
  · intro h x hx g
    exact of_decide_eq_true g (h x hx)
def spStretch : Sp := fun vs H Q _ => ∃ (a : Addr) (w : Int) (ns : List Int) (F : List Asr), vs = [.ref a, .int w] ∧ (1 ≤ w ∧ w ≤ 1000 ∧ Nn ns ∧ ns.length ≤ 100000) ∧ Sts (pto a (.lst (ns.map V.int)) :: F) H ∧ ∀ (b : Bool) (H' : Hp), (b = true ↔ Stretch w.toNat ns) → Sts (pto a (.lst (ns.map V.int)) :: F) H' → Q (.bl b) H'
theorem ok_law_has_stretch (T : Txt K mg) : FnOk P w K mg base CX0 1 T.f_law_has_stretch T.fd_law_has_stretch ["chain", "copies"] spStretch := by
  refine T.F_law_has_stretch.ok sc_law_has_stretch (fun vs H Q E h => by obtain ⟨a, w, ns, F, rfl, _⟩ := h; rfl) (fun cdv A outer s H vs Q E hr h => ?_)
  obtain ⟨a, w, ns, F, rfl, ⟨hw, hw2, hN, hl⟩, S, q⟩ := h
  refine ⟨_, (pss_cons (ps_for PassesOwn.never rfl (pi_range1 rfl T.z_range (pa_cons (pe_op op_sub (pe_callB (oc_lenI (K := K) rfl) (by rfl) T.z_len PySem.boot_len (pa_cons (pv 0) pa_nil)) (pv 1)) pa_nil)) (pg_name (i := 2) sc_law_has_stretch.nd rfl (Or.inl rfl))
      (pss_cons (ps_if (pt_val (pe_callB (oc_anyI (K := K) rfl rfl) (by rfl) T.z_any PyProof.Rows.boot_any (pa_cons (pe_slice (oc_slI (K := K) rfl) (pv 0) (po_some (pv 2)) (po_some (pe_op op_add (pv 2) (pv 1)))) pa_nil)))
      (pss_one ps_continue)
      pss_nil)
      (pss_cons (ps_set (i := 3) sc_law_has_stretch.nd rfl (Or.inl rfl) (pe_op op_add (pv 2) (pv 1)))
      (pss_one (ps_for PassesOwn.never rfl (pi_range1 rfl T.z_range (pa_cons (pe_callB (oc_lenI (K := K) rfl) (by rfl) T.z_len PySem.boot_len (pa_cons (pv 0) pa_nil)) pa_nil)) (pg_name (i := 4) sc_law_has_stretch.nd rfl (Or.inl rfl))
      (pss_cons (ps_if (PW.pt (pw_or (pt_cmpR op_ge (pv 3) (pe_callB (oc_lenI (K := K) rfl) (by rfl) T.z_len PySem.boot_len (pa_cons (pv 0) pa_nil)) (nomark _)) (pw_or1 (pt_cmpR op_gt (pe_ix (oc_ixI (K := K) rfl) (pv 0) (pv 3) (fun _ _ => rfl)) pe_int (nomark _)))))
      (pss_one ps_break)
      pss_nil)
      (pss_cons (ps_if (pt_cmpR op_eq (pe_ix (oc_ixI (K := K) rfl) (pv 0) (pv 3) (fun _ _ => rfl)) pe_int (nomark _))
      (pss_one (ps_ret pe_bl))
      pss_nil)
      (pss_cons (ps_if (pt_val (pe_callB (oc_anyI (K := K) rfl rfl) (by rfl) T.z_any PyProof.Rows.boot_any (pa_cons (pe_slice (oc_slI (K := K) rfl) (pv 0) (po_some (pe_op op_add (pv 3) pe_int)) (po_some (pe_op op_add (pv 3) (pv 1)))) pa_nil)))
      (pss_one ps_break)
      pss_nil)
      (pss_one (ps_set (i := 3) sc_law_has_stretch.nd rfl (Or.inl rfl) (pe_op op_add (pv 3) (pv 1))))))))))))
      (pss_one (ps_ret pe_bl))), ?_⟩
  walk_at "go"
  refine for_range (lo := 0) (n := ((ns.length : Int) - w).toNat) (fun i σ H => ∃ x2 x3 x4 : Option V, σ = [some (.ref a), some (.int w), x2, x3, x4] ∧ (∀ s, s < i → ¬ (AllZ ((ns.drop s).take w.toNat) ∧ scan w.toNat ns.length (ns.drop (s + w.toNat)))) ∧ Sts (pto a (.lst (ns.map V.int)) :: F) H) ?_ ?_ ?_
  · exact ⟨none, none, none, rfl, fun s h => absurd h (Nat.not_lt_zero s), S⟩
  · rintro i σ H hi ⟨x2, x3, x4, rfl, hb, S⟩
    have next : ∀ (H : Hp) (y2 y3 y4 : Option V), ¬ (AllZ ((ns.drop i).take w.toNat) ∧ scan w.toNat ns.length (ns.drop (i + w.toNat))) → Sts (pto a (.lst (ns.map V.int)) :: F) H →
        ∃ x2 x3 x4 : Option V, ([some (.ref a), some (.int w), y2, y3, y4] : L2.St) = [some (.ref a), some (.int w), x2, x3, x4] ∧ (∀ s, s < i + 1 → ¬ (AllZ ((ns.drop s).take w.toNat) ∧ scan w.toNat ns.length (ns.drop (s + w.toNat)))) ∧ Sts (pto a (.lst (ns.map V.int)) :: F) H :=
      fun H y2 y3 y4 h S => ⟨y2, y3, y4, rfl, fun s hs => by
        rcases Nat.lt_succ_iff_lt_or_eq.mp hs with g | g
        · exact hb s g
        · rw [g]
          exact h, S⟩
    walk_at "go"
    rename_i sl H2 S2
    rw [cutL_mid _ (by omega) (by omega)]
    have e1 : (0 + (i : Int) + w).toNat - (0 + (i : Int)).toNat = w.toNat := by omega
    have e2 : (0 + (i : Int)).toNat = i := by omega
    rw [e1, e2]
    with_reducible refine ifB (fun c => ?_) (fun c => ?_)
    · walk_at "go"
      refine next _ _ _ _ (fun z => ?_) (by walk_at "fp")
      rw [any_z.mpr z.1] at c
      cases c
    · have az := any_z.mp c
      walk_at "go"
      refine for_range (lo := 0) (n := (ns.length : Int).toNat) (fun j σ H => ∃ (at_ : Nat) (x4 : Option V), σ = [some (.ref a), some (.int w), some (.int (0 + (i : Int))), some (.int at_), x4] ∧ (scan w.toNat ns.length (ns.drop (i + w.toNat)) ↔ scan w.toNat (ns.length - j) (ns.drop at_)) ∧ Sts (pto a (.lst (ns.map V.int)) :: F) H) ?_ ?_ ?_
      · refine ⟨i + w.toNat, x4, ?_, Iff.rfl, by walk_at "fp"⟩
        show [some (V.ref a), some (V.int w), some (V.int (0 + (i : Int))), some (V.int (0 + (i : Int) + w)), x4] = _
        rw [show 0 + (i : Int) + w = ((i + w.toNat : Nat) : Int) by omega]
      · rintro j σ H hj ⟨at_, x4, rfl, eq, S⟩
        obtain ⟨k, ek⟩ : ∃ k, ns.length - j = k + 1 := ⟨ns.length - j - 1, by omega⟩
        have ek' : ns.length - (j + 1) = k := by omega
        rw [ek] at eq
        rw [ek']
        walk_at "go"
        with_reducible refine ifB (fun c1 => ?_) (fun c1 => ?_)
        · -- behind the last page
          have c1 := odt c1
          walk_at "go"
          refine next _ _ _ _ (fun z => ?_) (by walk_at "fp")
          have z2 := eq.mp z.2
          rw [List.drop_of_length_le (by omega)] at z2
          exact z2
        · have c1 := odf c1
          have hat : at_ < ns.length := by omega
          have dr : ns.drop at_ = gI ns at_ :: ns.drop (at_ + 1) := by
            rw [List.drop_eq_getElem_cons hat]
            unfold Oc.gI
            rw [Int.toNat_natCast, List.getD_eq_getElem?_getD, List.getElem?_eq_getElem hat]
            rfl
          have g0 : 0 ≤ gI ns at_ := hN _ (gI_mem (by omega) (by omega))
          rw [dr] at eq
          walk_at "go"
          with_reducible refine ifB (fun c2 => ?_) (fun c2 => ?_)
          · have c2 := odt c2
            walk_at "go"
            refine next _ _ _ _ (fun z => ?_) (by walk_at "fp")
            have z2 := (eq.mp z.2).1
            omega
          · have c2 := odf c2
            walk_at "go"
            with_reducible refine ifB (fun c3 => ?_) (fun c3 => ?_)
            · have c3 := vi (odt c3)
              walk_at "go"
              exact q true _ ⟨fun _ => ⟨i, by omega, az, eq.mpr ⟨by omega, .inl c3⟩⟩, fun _ => rfl⟩ (by walk_at "fp")
            · have c3 : ¬ gI ns at_ = 0 := fun e => odf c3 (congrArg V.int e)
              walk_at "go"
              rename_i sl H3 S3
              rw [cutL_mid _ (by omega) (by omega)]
              have e3 : ((at_ : Int) + w).toNat - ((at_ : Int) + 1).toNat = w.toNat - 1 := by omega
              have e4 : ((at_ : Int) + 1).toNat = at_ + 1 := by omega
              rw [e3, e4]
              with_reducible refine ifB (fun c4 => ?_) (fun c4 => ?_)
              · walk_at "go"
                refine next _ _ _ _ (fun z => ?_) (by walk_at "fp")
                rcases (eq.mp z.2).2 with e | e
                · exact c3 e
                · rw [any_z.mpr e.1] at c4
                  cases c4
              · have a4 := any_z.mp c4
                walk_at "go"
                refine ⟨at_ + w.toNat, some (.int (0 + (j : Int))), ?_, ?_, by walk_at "fp"⟩
                · show [some (V.ref a), some (V.int w), some (V.int (0 + (i : Int))), some (V.int ((at_ : Int) + w)), some (V.int (0 + (j : Int)))] = _
                  rw [show (at_ : Int) + w = ((at_ + w.toNat : Nat) : Int) by omega]
                · rw [eq]
                  have e5 : at_ + w.toNat = (at_ + 1) + (w.toNat - 1) := by omega
                  rw [e5, show ns.drop ((at_ + 1) + (w.toNat - 1)) = (ns.drop (at_ + 1)).drop (w.toNat - 1) by rw [List.drop_drop]]
                  constructor
                  · intro z
                    rcases z.2 with e | e
                    · exact absurd e c3
                    · exact e.2
                  · intro z
                    exact ⟨by omega, .inr ⟨a4, z⟩⟩
      · rintro σ H ⟨at_, x4, rfl, eq, S⟩
        refine next _ _ _ _ (fun z => ?_) (by walk_at "fp")
        have z2 := eq.mp z.2
        rw [Int.toNat_natCast, Nat.sub_self] at z2
        exact z2
  · rintro σ H ⟨x2, x3, x4, rfl, hb, S⟩
    walk_at "go"
    refine q false H ⟨(fun h => nomatch h), fun ⟨s, h1, h2, h3⟩ => absurd ⟨h2, h3⟩ (hb s (by omega))⟩ S
local macro_rules | `(tactic| walk_at "go1") => `(tactic| refine ⟨_, _, _, _, rfl, ⟨by omega, by omega, by assumption, by omega⟩, Oc.gL (by walk_at "frI"), fun (ob : Bool) (oh : L2.Hp) oq os => ?_⟩)

theorem low_spec {w : Int} {ns : List Int} {i : Int} (h : lowest w ns = some i) : ∃ f : Nat, i = f ∧ f < ns.length ∧ w < hgt w (ns.drop f) ∧ ∀ j, f < j → j < ns.length → ¬ w < hgt w (ns.drop j) := by
  have key : ∀ n, n ≤ ns.length → ∀ i, (lostL w ((hts w ns).take n)).getLast? = some i → ∃ f : Nat, i = f ∧ f < n ∧ w < hgt w (ns.drop f) ∧ ∀ j, f < j → j < n → ¬ w < hgt w (ns.drop j) := by
    intro n
    induction n with
    | zero =>
      intro _ i h
      rw [List.take_zero] at h
      cases h
    | succ n ih =>
      intro hn i h
      have hg := hts_get w ns n hn
      rw [lostL_snoc w _ n _ hg] at h
      by_cases c : w < hgt w (ns.drop n)
      · rw [if_pos c, List.getLast?_append] at h
        have e : i = n := by
          have z : some ((n : Nat) : Int) = some i := h
          exact (Option.some.inj z).symm
        exact ⟨n, e, Nat.lt_succ_self n, c, fun j h1 h2 => by omega⟩
      · rw [if_neg c, List.append_nil] at h
        obtain ⟨f, e, hf, h1, h2⟩ := ih (by omega) i h
        refine ⟨f, e, by omega, h1, fun j a b => ?_⟩
        by_cases q : j = n
        · rw [q]
          exact c
        · exact h2 j a (by omega)
  refine key ns.length (Nat.le_refl _) i ?_
  rw [List.take_of_length_le (by rw [hts_len]; exact Nat.le_refl _)]
  exact h
theorem low_none {w : Int} {ns : List Int} (h : lowest w ns = none) : ¬ Lost w ns := (lost_none w ns).mp (by rw [h]; rfl)
/-- what the row is -/
def Row (w : Int) (ns row : List Int) : Prop := (¬ Lost w ns ∧ row = []) ∨ ∃ f g : Nat, Lost w ns ∧ Reads w.toNat ns f g ∧ row = rowOf w.toNat f g
theorem gI_getD (ns : List Int) (p : Nat) : gI ns (p : Int) = ns.getD p 0 := by
  unfold Oc.gI
  rw [Int.toNat_natCast]
def spRow : Sp := fun vs H Q _ => ∃ (a : Addr) (w : Int) (ns : List Int) (F : List Asr), vs = [.ref a, .int w] ∧ Sts (pto a (.lst (ns.map V.int)) :: F) H ∧ (1 ≤ w ∧ w ≤ 1000 ∧ Nn ns ∧ ns.length ≤ 100000) ∧
  ∀ (p : Addr) (row : List Int) (H' : Hp), Row w ns row → Sts (pto p (.lst (row.map V.int)) :: pto a (.lst (ns.map V.int)) :: F) H' → Q (.ref p) H'
theorem ok_attack_row (T : Txt K mg) : FnOk P w K mg base CX0 4 T.f_attack_row T.fd_attack_row ["blank", "copies"] spRow := by
  refine T.F_attack_row.ok sc_attack_row (fun vs H Q E h => by obtain ⟨a, w, ns, F, rfl, _⟩ := h; rfl) (fun cdv A outer s H vs Q E hr h => ?_)
  obtain ⟨a, w, ns, F, rfl, S, ⟨hw, hw2, hN, hl⟩, q⟩ := h
  refine ⟨_, (pss_cons (ps_set (i := 2) sc_attack_row.nd rfl (Or.inl rfl) (pe_call (ok_lowest_lost T) (hr.mono (by decide)) (by rfl) T.g_lowest_lost T.F_lowest_lost.kp T.b_lowest_lost .nil pass0 (pa_cons (pv 0) (pa_cons (pv 1) pa_nil))))
      (pss_cons (ps_if (pt_cmpR op_isN (pv 2) pe_non (nomark _))
      (pss_one (ps_ret (pe_lst pa_nil)))
      pss_nil)
      (pss_cons (ps_set (i := 3) sc_attack_row.nd rfl (Or.inl rfl) (pe_op op_add (pv 2) (pv 1)))
      (pss_cons (ps_while PassesOwn.never (pt_cmpR op_eq (pe_ix (oc_ixI (K := K) rfl) (pv 0) (pv 3) (fun _ _ => rfl)) pe_int (nomark _))
      (pss_one (ps_set (i := 3) sc_attack_row.nd rfl (Or.inl rfl) (pe_op op_add (pv 3) (pv 1)))))
      (pss_one (ps_ret (oc_listRg3 rfl rfl T.z_list rfl T.z_range (pa_cons (pv 3) (pa_cons (pv 2) (pa_cons (pe_un un_neg (pv 1)) pa_nil)))))))))), ?_⟩
  walk_at "go"
  with_reducible refine ifB (fun c => ?_) (fun c => ?_)
  · have c : (lowest w ns).isNone = true := (ov_none (lowest w ns)).symm.trans c
    walk_at "go"
    refine q _ [] _ (.inl ⟨(lost_none w ns).mp c, rfl⟩) (by walk_at "fp")
  · have c : (lowest w ns).isNone = false := (ov_none (lowest w ns)).symm.trans c
    obtain ⟨i, hi⟩ : ∃ i, lowest w ns = some i := by
      cases z : lowest w ns with
      | none => rw [z] at c; cases c
      | some i => exact ⟨i, rfl⟩
    rw [hi]
    obtain ⟨f, rfl, hf, h1, h2⟩ := low_spec hi
    obtain ⟨W, rfl⟩ := Int.eq_ofNat_of_zero_le (show 0 ≤ w by omega)
    obtain ⟨t1, t2, t3⟩ := top_lost (by omega) hf h1 h2
    have lost : Lost (W : Int) ns := lost_drop f ns (by
      rw [List.drop_eq_getElem_cons hf] at h1 ⊢
      exact .inl h1)
    walk_at "go"
    refine ⟨fun m σ H => ∃ j : Nat, σ = [some (.ref a), some (.int W), some (.int f), some (.int ((f + (j + 1) * W : Nat) : Int))] ∧ PR W ns f j ∧ scan W m (ns.drop (f + (j + 1) * W)) ∧ Sts (pto a (.lst (ns.map V.int)) :: F) H, ⟨ns.length, 0, ?_, pr_zero t2, ?_, by walk_at "fp"⟩, ?_⟩
    · rw [show ((f + (0 + 1) * W : Nat) : Int) = f + W by omega]
      rfl
    · rw [show f + (0 + 1) * W = f + W by omega]
      exact t3
    · rintro m σ H ⟨j, rfl, pr, sc, S⟩
      have m2 : (j + 1 + 1) * W = (j + 1) * W + W := Nat.succ_mul (j + 1) W
      cases m with
      | zero => exact sc.elim
      | succ m =>
        by_cases ha : f + (j + 1) * W < ns.length
        · have dr : ns.drop (f + (j + 1) * W) = ns.getD (f + (j + 1) * W) 0 :: ns.drop (f + (j + 1) * W + 1) := by
            rw [List.drop_eq_getElem_cons ha, List.getD_eq_getElem?_getD, List.getElem?_eq_getElem ha]
            rfl
          rw [dr] at sc
          obtain ⟨s1, s2⟩ := sc
          have gg := gI_getD ns (f + (j + 1) * W)
          have n0 := hN _ (gI_mem (ns := ns) (i := ((f + (j + 1) * W : Nat) : Int)) (by omega) (by omega))
          walk_at "go"
          with_reducible refine ifB (fun c1 => ?_) (fun c1 => ?_)
          · have c1 := vi (odt c1)
            rw [gg] at c1
            refine ⟨fun σ' H' => ∃ m', m' < m + 1 ∧ _, fun _ _ h => h, ?_⟩
            walk_at "go"
            have s3 := s2.resolve_left (by omega)
            refine ⟨m, Nat.lt_succ_self m, j + 1, ?_, pr_step (by omega) pr c1 s3.1, ?_, by walk_at "fp"⟩
            · rw [m2, show ((f + ((j + 1) * W + W) : Nat) : Int) = ((f + (j + 1) * W : Nat) : Int) + W by omega]
              rfl
            · rw [m2, show f + ((j + 1) * W + W) = (f + (j + 1) * W + 1) + (W - 1) by omega, ← List.drop_drop]
              exact s3.2
          · have c1 : ¬ gI ns ((f + (j + 1) * W : Nat) : Int) = 1 := fun e => odf c1 (congrArg V.int e)
            have jl : j + 1 ≤ 1000000 := by
              have := Nat.mul_le_mul_left (j + 1) (show 1 ≤ W by omega)
              omega
            walk_at "go"
            refine ⟨_, _, _, j + 1, rfl, rgc_down (by omega) (by omega) (by omega), jl, ?_⟩
            walk_at "go"
            rename_i p H1 S1
            have er : (List.range (j + 1)).map (fun k => ((f + (j + 1) * W : Nat) : Int) + ((k : Nat) : Int) * -(W : Int)) = rowOf W f j := by
              unfold rowOf
              refine List.map_congr_left fun k hk => ?_
              have hk := List.mem_range.mp hk
              have m3 : (j + 1) * W = (j + 1 - k) * W + k * W := by
                rw [← Nat.add_mul, Nat.sub_add_cancel (by omega)]
              rw [Int.mul_neg, ← Int.natCast_mul]
              omega
            rw [er] at S1
            refine q _ _ _ (.inr ⟨f, j, lost, ?_, ?_⟩) (by walk_at "fp")
            · rw [Int.toNat_natCast]
              exact pr_end pr (by omega) ha
            · rw [Int.toNat_natCast]
        · rw [List.drop_of_length_le (by omega)] at sc
          exact sc.elim
local macro_rules | `(tactic| walk_at "go1") => `(tactic| (refine ⟨_, _, _, _, rfl, Oc.gL (by walk_at "frI"), Oc.pr ⟨by omega, by omega, by assumption, by omega⟩, fun (op : PySem.Addr) (orow : List Int) (oh : L2.Hp) or os => ?_⟩))

def spReads : Sp := fun vs H Q _ => ∃ (a b : Addr) (w : Int) (ns row : List Int) (F : List Asr), vs = [.ref a, .int w, .ref b] ∧ Sts (pto a (.lst (ns.map V.int)) :: pto b (.lst (row.map V.int)) :: F) H ∧ (1 ≤ w ∧ w ≤ 1000 ∧ ns.length ≤ 100000 ∧ ∃ f g : Nat, Reads w.toNat ns f g ∧ row = rowOf w.toNat f g) ∧
  ∀ (H' : Hp), Sts (pto a (.lst (ns.map V.int)) :: pto b (.lst (row.map V.int)) :: F) H' → Q (.bl true) H'
theorem ok_law_reads (T : Txt K mg) : FnOk P w K mg base CX0 2 T.f_law_reads T.fd_law_reads ["chain", "copies", "row"] spReads := by
  refine T.F_law_reads.ok sc_law_reads (fun vs H Q E h => by obtain ⟨a, b, w, ns, row, F, rfl, _⟩ := h; rfl) (fun cdv A outer s H vs Q E hr h => ?_)
  obtain ⟨a, b, w, ns, row, F, rfl, S, ⟨hw, hw2, hl, f, g, R, er⟩, q⟩ := h
  refine ⟨_, (pss_cons (ps_if (PW.pt (pw_or (pt_not (pt_val (pe_callB oc_isi_ll (by rfl) T.z_isinstance PyProof.Rows.boot_isinstance (pa_cons (pv 2) (pa_cons (pe_bltn (v := .ty "list") (by rfl) T.z_list PyProof.Rows.boot_list rfl) pa_nil))))) (pw_or (pt_cmpR (oc_eq_ints (K := K) rfl hr.units) (pv 2) (pe_lst pa_nil) (nomark _)) (pw_or1 (pt_not (pt_val (pe_callB (oc_allB (K := K) rfl rfl) (by rfl) T.z_all PyProof.Rows.boot_all (pa_cons (pe_lc (own := [("page", 8)]) (g := gName 8) (tt := tYes) rfl sc_law_reads.nd (pi_list (pv 2)) (blkOk_by (own := [("page", 8)]) (N := ["chain", "copies", "row", "first", "last", "place", "due", "k", "page"]) (sc := defScope s_law_reads) (by decide +kernel)) (fun _ _ _ _ _ => (pg_name (i := 8) sc_law_reads.nd rfl (Or.inl rfl))) (fun _ _ _ _ _ => pts_nil) (fun _ _ _ _ _ => (pe_call (ok_law_is_integer T) (hr.mono (by decide)) (by rfl) T.g_law_is_integer T.F_law_is_integer.kp T.b_law_is_integer .nil pass0 (pa_cons (pv 8) pa_nil)))) pa_nil))))))))
      (pss_one (ps_ret pe_bl))
      pss_nil)
      (pss_cons (ps_if (pt_val (pe_callB (oc_anyB (K := K) rfl rfl) (by rfl) T.z_any PyProof.Rows.boot_any (pa_cons (pe_lc (own := [("k", 7)]) (g := gName 7) (tt := tYes) rfl sc_law_reads.nd (pi_range1 rfl T.z_range (pa_cons (pe_op op_sub (pe_callB (oc_lenI (K := K) rfl) (by rfl) T.z_len PySem.boot_len (pa_cons (pv 2) pa_nil)) pe_int) pa_nil)) (blkOk_by (own := [("k", 7)]) (N := ["chain", "copies", "row", "first", "last", "place", "due", "k", "page"]) (sc := defScope s_law_reads) (by decide +kernel)) (fun _ _ _ _ _ => (pg_name (i := 7) sc_law_reads.nd rfl (Or.inl rfl))) (fun _ _ _ _ _ => pts_nil) (fun _ _ _ _ _ => (pe_cmpR op_ne (pe_op op_sub (pe_ix (oc_ixI (K := K) rfl) (pv 2) (pv 7) (fun _ _ => rfl)) (pe_ix (oc_ixI (K := K) rfl) (pv 2) (pe_op op_add (pv 7) pe_int) (fun _ _ => rfl))) (pv 1) (nomark _)))) pa_nil)))
      (pss_one (ps_ret pe_bl))
      pss_nil)
      (pss_cons (ps_set (i := 3) sc_law_reads.nd rfl (Or.inl rfl) (pe_op op_sub (pe_ix (oc_ixLast (K := K) rfl) (pv 2) (pe_un un_neg pe_int) (fun _ _ => rfl)) (pv 1)))
      (pss_cons (ps_set (i := 4) sc_law_reads.nd rfl (Or.inl rfl) (pe_ix (oc_ixI (K := K) rfl) (pv 2) pe_int (fun _ _ => rfl)))
      (pss_cons (ps_if (PW.pt (pw_or (pt_cmpR op_lt (pv 3) pe_int (nomark _)) (pw_or1 (pt_cmpR op_ge (pv 4) (pe_callB (oc_lenI (K := K) rfl) (by rfl) T.z_len PySem.boot_len (pa_cons (pv 0) pa_nil)) (nomark _)))))
      (pss_one (ps_ret pe_bl))
      pss_nil)
      (pss_cons (ps_for PassesOwn.never rfl (pi_range2 rfl T.z_range (pa_cons (pv 3) (pa_cons (pe_op op_add (pv 4) pe_int) pa_nil))) (pg_name (i := 5) sc_law_reads.nd rfl (Or.inl rfl))
      (pss_cons (ps_set (i := 6) sc_law_reads.nd rfl (Or.inl rfl) pe_int)
      (pss_cons (ps_if (PW.pt (pw_and (pt_cmpR op_ne (pv 5) (pv 3) (nomark _)) (pw_and (pt_cmpR op_ne (pv 5) (pv 4) (nomark _)) (pw_and1 (pt_cmpR op_eq (pe_op op_mod (pe_callTy oc_int_i (by rfl) T.z_int PyProof.Rows.boot_int (pa_cons (pe_op op_sub (pv 5) (pv 3)) pa_nil)) (pv 1)) pe_int (nomark _))))))
      (pss_one (ps_set (i := 6) sc_law_reads.nd rfl (Or.inl rfl) pe_int))
      pss_nil)
      (pss_one (ps_if (pt_cmpR op_ne (pe_ix (oc_ixI (K := K) rfl) (pv 0) (pv 5) (fun _ _ => rfl)) (pv 6) (nomark _))
      (pss_one (ps_ret pe_bl))
      pss_nil)))))
      (pss_one (ps_ret pe_bl)))))))), ?_⟩
  have rl := rowOf_len w.toNat f g
  rw [← er] at rl
  walk_at "go"
  rw [show decide (row = []) = false from decide_eq_false (fun e => by rw [e] at rl; simp at rl)]
  walk_at "go"
  rename_i D H2 S2
  have gl : g + 1 ≤ 100000 := by
    have := R.1
    have := Nat.mul_le_mul_left (g + 1) (show 1 ≤ w.toNat by omega)
    omega
  refine lc_BI row (fun _ => true) S2 (fun H S => by walk_at "sq") (by omega) (fun _ => rfl) (fun x H Q' hx S q => ?_) (fun H4 S4 => ?_)
  · walk_at "go"
    exact q
  walk_at "go"
  refine ifB (fun c => absurd c (by rw [all_yes]; decide)) (fun _ => ?_)
  walk_at "go"
  rename_i D2 H5 S5
  obtain ⟨W, rfl⟩ := Int.eq_ofNat_of_zero_le (show 0 ≤ w by omega)
  rw [Int.toNat_natCast] at R er
  have rg : ∀ k : Nat, k < g + 1 → gI row k = ((f + (g + 1 - k) * W : Nat) : Int) := fun k hk => by
    rw [gI_getD, er, List.getD_eq_getElem?_getD, rowOf_get hk]
    rfl
  refine lc_RB (fun k => !decide (V.int (gI row k - gI row (k + 1)) = V.int W)) S5 (by omega) (fun _ => rfl) (fun i H Q' hi S q => ?_) (fun H6 S6 => ?_)
  · walk_at "go"
    exact q
  walk_at "go"
  have an : ((List.range ((row.length : Int) - 1).toNat).map fun i => !decide (V.int (gI row (0 + (i : Nat)) - gI row (0 + (i : Nat) + 1)) = V.int (W : Int))).any id = false := by
    rw [List.any_eq_false]
    intro x hx
    obtain ⟨k, hk, rfl⟩ := List.mem_map.mp hx
    have hk := List.mem_range.mp hk
    have e1 := rg k (by omega)
    have e2 := rg (k + 1) (by omega)
    have m : (g + 1 - k) * W = (g + 1 - (k + 1)) * W + W := by
      rw [show g + 1 - k = (g + 1 - (k + 1)) + 1 by omega, Nat.add_mul, Nat.one_mul]
    have e : gI row (0 + (k : Nat)) - gI row (0 + (k : Nat) + 1) = W := by
      rw [Int.zero_add, show (k : Int) + 1 = ((k + 1 : Nat) : Int) by omega, e1, e2]
      omega
    rw [e, deq]
    decide
  refine ifB (fun c => absurd c (by rw [an]; decide)) (fun _ => ?_)
  walk_at "go"
  have m2 : (g + 1) * W = g * W + W := Nat.succ_mul g W
  have rl1 : row.getLast? = some ((f + W : Nat) : Int) := by
    rw [List.getLast?_eq_getElem?, rl, er, rowOf_get (by omega), show g + 1 - (g + 1 - 1) = 1 by omega, Nat.one_mul]
  have r0 := rg 0 (by omega)
  rw [Nat.sub_zero] at r0
  have r0 : gI row 0 = ((f + (g + 1) * W : Nat) : Int) := r0
  have Rl := R.1
  refine ⟨_, _, rfl, rfl, by walk_at "sq", _, rl1, ?_⟩
  walk_at "gd"
  have ef : ((f + W : Nat) : Int) - W = (f : Nat) := by omega
  rw [ef, r0]
  refine ⟨⟨by omega, by omega, by omega, by omega⟩, ?_⟩
  refine for_range (lo := (f : Nat)) (fun i σ H => ∃ x5 x6 : Option V, σ = [some (.ref a), some (.int W), some (.ref b), some (.int (((f + W : Nat) : Int) - W)), some (.int (f + (g + 1) * W : Nat)), x5, x6, none, none] ∧ Sts (pto a (.lst (ns.map V.int)) :: pto b (.lst (row.map V.int)) :: F) H) ⟨none, none, rfl, by walk_at "fp"⟩ ?_ ?_
  · rintro i σ H hi ⟨x5, x6, rfl, S⟩
    have ep : ((f : Nat) : Int) + i = ((f + i : Nat) : Int) := by omega
    have hv := R.2 (f + i) (by omega) (by omega)
    rw [← gI_getD] at hv
    have emod : ((i : Int) % W = 0) ↔ i % W = 0 := by
      rw [← Int.natCast_emod]
      omega
    have ei : ((f + i : Nat) : Int) - f = i := by omega
    rw [ep, ef]
    by_cases c1 : i = 0
    · rw [if_neg (fun z => z.1 (by omega))] at hv
      walk_at "gd"
      exact ⟨_, _, rfl, S⟩
    · by_cases c2 : f + i = f + (g + 1) * W
      · rw [if_neg (fun z => z.2.1 c2)] at hv
        walk_at "gd"
        exact ⟨_, _, rfl, S⟩
      · walk_at "gd"
        rw [ei]
        by_cases c3 : i % W = 0
        · rw [if_pos ⟨by omega, c2, by rw [show f + i - f = i by omega]; exact c3⟩] at hv
          refine ivT (emod.mpr c3) ?_
          walk_at "gd"
          exact ⟨_, _, rfl, S⟩
        · rw [if_neg (fun z => c3 (by rw [show f + i - f = i by omega] at z; exact z.2.2))] at hv
          refine ivF (fun z => c3 (emod.mp z)) ?_
          walk_at "gd"
          exact ⟨_, _, rfl, S⟩
  · rintro σ H ⟨x5, x6, rfl, S⟩
    walk_at "gd"
    exact q _ S
theorem cl_len (pg : Int) (W : List Int) : ∀ (L : List Int) (i : Nat), (cl pg W i L).1.length ≤ L.length
  | [], _ => Nat.le_refl 0
  | c :: r, i => by
    have ih := cl_len pg W r (i + 1)
    rw [cl]
    generalize (decide ((i : Int) ∈ W) || decide ((if (i : Int) = pg then (1 : Int) else 0) + (if (cl pg W (i + 1) r).2 = true then 1 else 0) > c)) = b
    cases b with
    | true => exact Nat.succ_le_succ ih
    | false => exact Nat.le_succ_of_le ih
theorem ca_len (pg : Int) (W L : List Int) (i : Nat) : (ca pg W L i).1.length ≤ L.length := by
  unfold ca
  have := cl_len pg W (L.drop i) i
  rw [List.length_drop] at this
  omega
def spClosed : Sp := fun vs H Q _ => ∃ (a b : Addr) (pg : Int) (ns W : List Int) (F : List Asr), vs = [.ref a, .int pg, .ref b] ∧ Sts (pto a (.lst (ns.map V.int)) :: pto b (.lst (W.map V.int)) :: F) H ∧ ns.length ≤ 100000 ∧
  ∀ (p : Addr) (H' : Hp), Sts (pto p (.lst ((ca pg W ns 0).1.map V.int)) :: pto a (.lst (ns.map V.int)) :: pto b (.lst (W.map V.int)) :: F) H' → Q (.ref p) H'
theorem ok_law_closed (T : Txt K mg) : FnOk P w K mg base CX0 1 T.f_law_closed T.fd_law_closed ["chain", "page", "wanted"] spClosed := by
  refine T.F_law_closed.ok sc_law_closed (fun vs H Q E h => by obtain ⟨a, b, pg, ns, W, F, rfl, _⟩ := h; rfl) (fun cdv A outer s H vs Q E hr h => ?_)
  obtain ⟨a, b, pg, ns, W, F, rfl, S, hl, q⟩ := h
  refine ⟨_, (pss_cons (ps_set (i := 3) sc_law_closed.nd rfl (Or.inl rfl) (pe_lst pa_nil))
      (pss_cons (ps_set (i := 4) sc_law_closed.nd rfl (Or.inl rfl) pe_bl)
      (pss_cons (ps_for PassesOwn.never rfl (pi_revR rfl T.z_reversed (prg_1 rfl T.z_range (pe_callB (oc_lenI (K := K) rfl) (by rfl) T.z_len PySem.boot_len (pa_cons (pv 0) pa_nil)))) (pg_name (i := 5) sc_law_closed.nd rfl (Or.inl rfl))
      (pss_cons (ps_set (i := 4) sc_law_closed.nd rfl (Or.inl rfl) (pe_or (pe_cmpR (oc_in_ints (K := K) rfl) (pv 5) (pv 2) (by rfl)) (pe_one (pe_cmpR op_gt (pe_op op_add (pe_callTy oc_int_bA (by rfl) T.z_int PyProof.Rows.boot_int (pa_cons (pe_cmpR op_eq (pv 5) (pv 1) (nomark _)) pa_nil)) (pe_callTy oc_int_bA (by rfl) T.z_int PyProof.Rows.boot_int (pa_cons (pv 4) pa_nil))) (pe_ix (oc_ixI (K := K) rfl) (pv 0) (pv 5) (fun _ _ => rfl)) (nomark _)))))
      (pss_one (ps_if (pt_val (pv 4))
      (pss_one (ps_expr (pe_bm PySem.F.plainAttrs_list PySem.F.slot_list_append PySem.F.type_list_append oc_appendI (pv 3) (pa_cons (pv 5) pa_nil))))
      pss_nil))))
      (pss_one (ps_ret (pe_revL (pv 3))))))), ?_⟩
  walk_at "go"
  rename_i d H1 S1
  have en : ((ns.length : Int) - 0).toNat = ns.length := by omega
  rw [en]
  refine for_rangeC (n := ns.length) (fun i σ H => ∃ x5 : Option V, σ = [some (.ref a), some (.int pg), some (.ref b), some (.ref d), some (.bl (ca pg W ns (ns.length - i)).2), x5] ∧ Sts (pto d (.lst ((ca pg W ns (ns.length - i)).1.reverse.map V.int)) :: pto a (.lst (ns.map V.int)) :: pto b (.lst (W.map V.int)) :: F) H) ?_ ?_ ?_
  · rw [Nat.sub_zero, ca_end]
    exact ⟨none, rfl, S1⟩
  · rintro i σ H hi ⟨x5, rfl, S⟩
    have ep : (0 : Int) + ((ns.length : Nat) : Int) - 1 + (i : Int) * -1 = ((ns.length - (i + 1) : Nat) : Int) := by omega
    rw [ep]
    have eq1 : ns.length - i = ns.length - (i + 1) + 1 := by omega
    rw [eq1] at S ⊢
    obtain ⟨s1, s2⟩ := ca_step pg W ns (i := ns.length - (i + 1)) (by omega)
    generalize hc : ca pg W ns (ns.length - (i + 1)) = c at *
    generalize hc' : ca pg W ns (ns.length - (i + 1) + 1) = c' at *
    have gg := gI_getD ns (ns.length - (i + 1))
    have lc : c'.1.length ≤ 100000 := by
      rw [← hc']
      exact Nat.le_trans (ca_len pg W ns _) hl
    walk_at "go"
    with_reducible refine ifB (fun c1 => ?_) (fun c1 => ?_)
    · have c1 := odt c1
      rw [decide_eq_true c1, Bool.true_or] at s1
      rw [s1, if_pos rfl] at s2
      rw [s1, s2, List.reverse_cons]
      walk_at "go"
      refine ⟨_, _, by walk_at "fr1", by rw [List.length_reverse]; omega, fun H2 S2 => ?_⟩
      exact ⟨_, rfl, S2⟩
    · have c1 := odf c1
      rw [decide_eq_false c1, Bool.false_or] at s1
      walk_at "go"
      rename_i o1 a0 a1 ab o2 b0 b1 bb
      have s3 : c.2 = decide (gI ns ((ns.length - (i + 1) : Nat) : Int) < o1 + o2) := by
        rw [s1, gg]
        have e1 : (if ((ns.length - (i + 1) : Nat) : Int) = pg then (1 : Int) else 0) = o1 := by
          by_cases z : ((ns.length - (i + 1) : Nat) : Int) = pg
          · rw [if_pos z, ab.mpr (dt (congrArg V.int z))]
          · rw [if_neg z]
            have : o1 ≠ 1 := fun y => z (vi (odt (ab.mp y)))
            omega
        have e2 : (if c'.2 = true then (1 : Int) else 0) = o2 := by
          by_cases z : c'.2 = true
          · rw [if_pos z, bb.mpr z]
          · rw [if_neg z]
            have : o2 ≠ 1 := fun y => z (bb.mp y)
            omega
        rw [e1, e2]
      rw [s3] at s2 ⊢
      with_reducible refine ifB (fun c2 => ?_) (fun c2 => ?_)
      · rw [c2, if_pos rfl] at s2
        rw [s2, List.reverse_cons]
        walk_at "go"
        refine ⟨_, _, by walk_at "fr1", by rw [List.length_reverse]; omega, fun H2 S2 => ?_⟩
        exact ⟨_, rfl, S2⟩
      · rw [c2, if_neg (by decide)] at s2
        rw [s2]
        walk_at "go"
        exact S
  · rintro σ H ⟨x5, rfl, S⟩
    rw [Nat.sub_self] at S
    walk_at "go"
    rename_i p H2 S2
    rw [← List.map_reverse, List.reverse_reverse] at S2
    exact q _ _ (by walk_at "fp")
def spAfter : Sp := fun vs H Q _ => ∃ (a b : Addr) (l pg : Int) (ns C : List Int) (F : List Asr), vs = [.ref a, .int l, .int pg, .ref b] ∧ Sts (pto a (.lst (ns.map V.int)) :: pto b (.lst (C.map V.int)) :: F) H ∧ ns.length ≤ 100000 ∧
  ∀ (p : Addr) (H' : Hp), Sts (pto p (.lst ((aft l pg C ns).map V.int)) :: pto a (.lst (ns.map V.int)) :: pto b (.lst (C.map V.int)) :: F) H' → Q (.ref p) H'
theorem ok_law_after (T : Txt K mg) : FnOk P w K mg base CX0 1 T.f_law_after T.fd_law_after ["chain", "lines", "page", "copied"] spAfter := by
  refine T.F_law_after.ok sc_law_after (fun vs H Q E h => by obtain ⟨a, b, l, pg, ns, C, F, rfl, _⟩ := h; rfl) (fun cdv A outer s H vs Q E hr h => ?_)
  obtain ⟨a, b, l, pg, ns, C, F, rfl, S, hl, q⟩ := h
  refine ⟨_, (pss_cons (ps_set (i := 4) sc_law_after.nd rfl (Or.inl rfl) (pe_lst pa_nil))
      (pss_cons (ps_for PassesOwn.never rfl (pi_range1 rfl T.z_range (pa_cons (pe_callB (oc_lenI (K := K) rfl) (by rfl) T.z_len PySem.boot_len (pa_cons (pv 0) pa_nil)) pa_nil)) (pg_name (i := 5) sc_law_after.nd rfl (Or.inl rfl))
      (pss_one (ps_if (pt_cmpR (oc_in_ints (K := K) rfl) (pv 5) (pv 3) (by rfl))
      (pss_one (ps_expr (pe_bm PySem.F.plainAttrs_list PySem.F.slot_list_append PySem.F.type_list_append oc_appendI (pv 4) (pa_cons (pv 1) pa_nil))))
      (pss_one (ps_expr (pe_bm PySem.F.plainAttrs_list PySem.F.slot_list_append PySem.F.type_list_append oc_appendI (pv 4) (pa_cons (pe_op op_sub (pe_op op_sub (pe_ix (oc_ixI (K := K) rfl) (pv 0) (pv 5) (fun _ _ => rfl)) (pe_callTy oc_int_bA (by rfl) T.z_int PyProof.Rows.boot_int (pa_cons (pe_cmpR op_eq (pv 5) (pv 2) (nomark _)) pa_nil))) (pe_callTy oc_int_bA (by rfl) T.z_int PyProof.Rows.boot_int (pa_cons (pe_cmpR (oc_in_ints (K := K) rfl) (pe_op op_add (pv 5) pe_int) (pv 3) (by rfl)) pa_nil))) pa_nil)))))))
      (pss_one (ps_ret (pv 4))))), ?_⟩
  walk_at "go"
  rename_i d H1 S1
  refine for_range (lo := 0) (n := ns.length) (fun i σ H => ∃ x5 : Option V, σ = [some (.ref a), some (.int l), some (.int pg), some (.ref b), some (.ref d), x5] ∧ Sts (pto d (.lst (((List.range i).map (afv l pg C ns)).map V.int)) :: pto a (.lst (ns.map V.int)) :: pto b (.lst (C.map V.int)) :: F) H) ⟨none, rfl, S1⟩ ?_ ?_
  · rintro i σ H hi ⟨x5, rfl, S⟩
    have sn : (List.range (i + 1)).map (afv l pg C ns) = (List.range i).map (afv l pg C ns) ++ [afv l pg C ns i] := by
      rw [List.range_succ, List.map_append]
      rfl
    have ln : ((List.range i).map (afv l pg C ns)).length = i := by rw [List.length_map, List.length_range]
    rw [sn]
    generalize (List.range i).map (afv l pg C ns) = M at *
    have gg := gI_getD ns i
    have e0 : (0 : Int) + (i : Int) = i := Int.zero_add _
    rw [e0]
    unfold afv
    walk_at "go"
    with_reducible refine ifB (fun c => ?_) (fun c => ?_)
    · have c := odt c
      rw [if_pos c]
      walk_at "go"
      walk_at "fp"
    · have c := odf c
      rw [if_neg c]
      walk_at "go"
      rename_i o1 a0 a1 ab o2 b0 b1 bb H2 S2
      have e1 : (if (i : Int) = pg then (1 : Int) else 0) = o1 := by
        by_cases z : (i : Int) = pg
        · rw [if_pos z, ab.mpr (dt (congrArg V.int z))]
        · rw [if_neg z]
          have : o1 ≠ 1 := fun y => z (vi (odt (ab.mp y)))
          omega
      have e2 : (if (i : Int) + 1 ∈ C then (1 : Int) else 0) = o2 := by
        by_cases z : (i : Int) + 1 ∈ C
        · rw [if_pos z, bb.mpr (dt z)]
        · rw [if_neg z]
          have : o2 ≠ 1 := fun y => z (odt (bb.mp y))
          omega
      rw [e1, e2, ← gg]
      exact S2
  · rintro σ H ⟨x5, rfl, S⟩
    walk_at "go"
    exact q _ _ (by walk_at "fp")

local macro_rules | `(tactic| walk_at "go1") => `(tactic| (refine ⟨_, _, _, _, ([] : List Int), _, rfl, Oc.pr (by walk_at "fr2"), ?len, fun (op : PySem.Addr) (oh : L2.Hp) os => ?_⟩; case len => omega))
local macro_rules | `(tactic| walk_at "go1") => `(tactic| (refine ⟨_, _, _, _, _, _, rfl, Oc.gLL (by walk_at "fr2"), ?len, fun (op : PySem.Addr) (oh : L2.Hp) os => ?_⟩; case len => omega))
local macro_rules | `(tactic| walk_at "go1") => `(tactic| (refine ⟨_, _, _, _, _, _, _, rfl, Oc.gLL (by walk_at "fr2"), ?len, fun (op : PySem.Addr) (oh : L2.Hp) os => ?_⟩; case len => omega))
def spWins : Sp := fun vs H Q _ => ∃ (p c r : Addr) (l w : Int) (ns row : List Int) (F : List Asr), vs = [.ref p, .ref c, .int l, .int w, .ref r] ∧ Sts (bag p :: pto c (.lst (ns.map V.int)) :: pto r (.lst (row.map V.int)) :: F) H ∧ (1 ≤ w ∧ w ≤ 1000 ∧ ns.length ≤ 100000 ∧ ∃ f g : Nat, Reads w.toNat ns f g ∧ row = rowOf w.toNat f g) ∧
  ∀ (H' : Hp), Sts (bag p :: pto c (.lst (ns.map V.int)) :: pto r (.lst (row.map V.int)) :: F) H' → Q (.bl true) H'
theorem ok_law_wins (T : Txt K mg) : FnOk P w K mg base CX0 2 T.f_law_wins T.fd_law_wins ["bag", "chain", "lines", "copies", "row"] spWins := by
  refine T.F_law_wins.ok sc_law_wins (fun vs H Q E h => by obtain ⟨p, c, r, l, w, ns, row, F, rfl, _⟩ := h; rfl) (fun cdv A outer s H vs Q E hr h => ?_)
  obtain ⟨p, c, r, l, w, ns, row, F, rfl, S, ⟨hw, hw2, hl, f, g, R, er⟩, q⟩ := h
  refine ⟨_, (pss_cons (ps_set (i := 5) sc_law_wins.nd rfl (Or.inl rfl) (pe_callTy (oc_list (K := K) rfl) (by rfl) T.z_list PyProof.Rows.boot_list (pa_cons (pv 1) pa_nil)))
      (pss_cons (ps_for PassesOwn.never rfl (pi_list (pv 4)) (pg_name (i := 6) sc_law_wins.nd rfl (Or.inl rfl))
      (pss_cons (ps_setLc (i := 7) (own := [("turn", 9)]) (g := gName 9) (tt := tYes) rfl sc_law_wins.nd rfl rfl (sw_true rfl rfl rfl (by decide +kernel)) (pi_range1 rfl T.z_range (pa_cons (pe_call (ok_law_take T) (hr.mono (by decide)) (by rfl) T.g_law_take T.F_law_take.kp T.b_law_take .nil pass0 (pa_cons (pv 0) (pa_cons (pe_op op_add pe_int (pe_callB (oc_min2 rfl) (by rfl) T.z_min PyProof.Rows.boot_min (pa_cons (pv 3) (pa_cons pe_int pa_nil)))) pa_nil))) pa_nil)) (blkOk_by (own := [("turn", 9)]) (N := ["bag", "chain", "lines", "copies", "row", "state", "page", "wanted", "copied", "turn"]) (sc := defScope s_law_wins) (by decide +kernel)) (fun _ _ _ _ _ => (pg_name (i := 9) sc_law_wins.nd rfl (Or.inl rfl))) (fun _ _ _ _ _ => pts_nil) (fun _ _ _ _ _ => (pe_call (ok_law_take T) (hr.mono (by decide)) (by rfl) T.g_law_take T.F_law_take.kp T.b_law_take .nil pass0 (pa_cons (pv 0) (pa_cons (pe_callB (oc_lenI (K := K) rfl) (by rfl) T.z_len PySem.boot_len (pa_cons (pv 1) pa_nil)) pa_nil)))))
      (pss_cons (ps_set (i := 8) sc_law_wins.nd rfl (Or.inl rfl) (pe_call (ok_law_closed T) (hr.mono (by decide)) (by rfl) T.g_law_closed T.F_law_closed.kp T.b_law_closed .nil pass0 (pa_cons (pv 5) (pa_cons (pv 6) (pa_cons (pv 7) pa_nil)))))
      (pss_cons (ps_if (pt_cmpR op_gt (pe_callB (oc_lenI (K := K) rfl) (by rfl) T.z_len PySem.boot_len (pa_cons (pv 8) pa_nil)) (pv 3) (nomark _))
      (pss_one (ps_set (i := 8) sc_law_wins.nd rfl (Or.inl rfl) (pe_call (ok_law_closed T) (hr.mono (by decide)) (by rfl) T.g_law_closed T.F_law_closed.kp T.b_law_closed .nil pass0 (pa_cons (pv 5) (pa_cons (pv 6) (pa_cons (pe_lst pa_nil) pa_nil))))))
      pss_nil)
      (pss_cons (ps_if (pt_cmpR op_gt (pe_callB (oc_lenI (K := K) rfl) (by rfl) T.z_len PySem.boot_len (pa_cons (pv 8) pa_nil)) (pv 3) (nomark _))
      (pss_one (ps_ret pe_bl))
      pss_nil)
      (pss_one (ps_set (i := 5) sc_law_wins.nd rfl (Or.inl rfl) (pe_call (ok_law_after T) (hr.mono (by decide)) (by rfl) T.g_law_after T.F_law_after.kp T.b_law_after .nil pass0 (pa_cons (pv 5) (pa_cons (pv 2) (pa_cons (pv 6) (pa_cons (pv 8) pa_nil))))))))))))
      (pss_one (ps_ret pe_bl)))), ?_⟩
  have rl := rowOf_len w.toNat f g
  rw [← er] at rl
  obtain ⟨W, rfl⟩ := Int.eq_ofNat_of_zero_le (show 0 ≤ w by omega)
  rw [Int.toNat_natCast] at R er
  walk_at "go"
  rename_i st H1 S1
  refine for_list (K := K) (a := r) (xs := row.map V.int) (fun i σ H => i ≤ g ∧ ∃ (st : Addr) (sv : List Int) (x6 x7 x8 : Option V), σ = [some (.ref p), some (.ref c), some (.int l), some (.int W), some (.ref r), some (.ref st), x6, x7, x8, none] ∧ Reads W sv f (g - i) ∧ sv.length = ns.length ∧
    Sts (pto st (.lst (sv.map V.int)) :: bag p :: pto c (.lst (ns.map V.int)) :: pto r (.lst (row.map V.int)) :: F) H) ?_ (fun i σ H _ ⟨_, _, _, _, _, _, _, _, _, S⟩ => by walk_at "sq") ?_ ?_
  · exact ⟨Nat.zero_le g, st, ns, none, none, none, rfl, R, rfl, by walk_at "fp"⟩
  · rintro i x σ H hx ⟨hi, st, sv, x6, x7, x8, rfl, R, hs, S⟩
    obtain ⟨pg, hp, rfl⟩ := at_int hx
    rw [er, rowOf_get (by omega)] at hp
    cases hp
    rw [show g + 1 - i = (g - i) + 1 by omega]
    generalize hk : g - i = k at *
    have Rl := R.1
    walk_at "gd"
    rename_i D H2 S2
    refine oc_lcR (fun j H => ∃ W' : List Int, W'.length = j ∧ Sts (pto D (.lst (W'.map V.int)) :: pto st (.lst (sv.map V.int)) :: bag p :: pto c (.lst (ns.map V.int)) :: pto r (.lst (row.map V.int)) :: F) H) ⟨[], rfl, by walk_at "fp"⟩ ?_ ?_
    · rintro j H hj ⟨W', hW', S⟩
      walk_at "gd"
      rename_i d H3 d0 d1 S3
      walk_at "lce"
      refine ⟨W' ++ [d], by rw [List.length_append, hW']; rfl, ?_⟩
      rw [List.map_append]
      walk_at "fp"
    · rintro H ⟨W', hW', S⟩
      walk_at "gd"
      rename_i cp H3 S3
      have nx : ∀ (C : List Int) (cp : Addr) (G : List Asr) (H : Hp) (x7 x8 : Option V), 1 ≤ k → C = blockOf W (f + (k + 1) * W) → ∀ (s2 : Addr), Sts (pto s2 (.lst ((aft l ((f + (k + 1) * W : Nat) : Int) C sv).map V.int)) :: bag p :: pto c (.lst (ns.map V.int)) :: pto r (.lst (row.map V.int)) :: F) H →
          i + 1 ≤ g ∧ ∃ (st : Addr) (sv : List Int) (y6 y7 y8 : Option V), ([some (.ref p), some (.ref c), some (.int l), some (.int W), some (.ref r), some (.ref s2), some (.int ((f + (k + 1) * W : Nat) : Int)), x7, x8, none] : L2.St) = [some (.ref p), some (.ref c), some (.int l), some (.int W), some (.ref r), some (.ref st), y6, y7, y8, none] ∧ Reads W sv f (g - (i + 1)) ∧ sv.length = ns.length ∧
            Sts (pto st (.lst (sv.map V.int)) :: bag p :: pto c (.lst (ns.map V.int)) :: pto r (.lst (row.map V.int)) :: F) H := by
        intro C cp G H x7 x8 hk1 hC s2 S
        obtain ⟨k', rfl⟩ : ∃ k', k = k' + 1 := ⟨k - 1, by omega⟩
        refine ⟨by omega, s2, _, _, _, _, rfl, ?_, (aft_len _ _ _ _).trans hs, S⟩
        rw [hC, show g - (i + 1) = k' by omega]
        exact R.next (by omega) l
      with_reducible refine ifB (fun c1 => ?_) (fun c1 => ?_)
      · walk_at "gd"
        rename_i e H4 S4 cq H5 S5
        with_reducible refine ifB (fun c2 => ?_) (fun c2 => ?_)
        · walk_at "gd"
          exact q _ (by walk_at "fp")
        · have c2 := odf c2
          obtain ⟨k1, fb⟩ := forced (by omega) R [] (by omega)
          walk_at "gd"
          exact nx _ cp [] _ _ _ k1 fb _ (by walk_at "fp")
      · have c1 := odf c1
        obtain ⟨k1, fb⟩ := forced (by omega) R W' (by omega)
        walk_at "gd"
        exact nx _ cp [] _ _ _ k1 fb _ (by walk_at "fp")
  · rintro σ H ⟨hi, _⟩
    rw [List.length_map] at hi
    omega

local macro_rules | `(tactic| walk_at "go1") => `(tactic| (refine ⟨_, _, _, _, _, _, _, _, rfl, Oc.pr (by walk_at "fr3"), ?len, fun (oh : L2.Hp) os => ?_⟩; case len => exact ⟨by omega, by omega, by omega, by assumption⟩))
theorem bits_len (m : Nat) : ∀ j, (bitsOf j m).length ≤ j := fun j => by
  unfold bitsOf
  rw [List.length_map]
  exact Nat.le_trans (List.length_filter_le _ _) (by rw [List.length_range]; exact Nat.le_refl _)
theorem bits_snoc (j m : Nat) : bitsOf (j + 1) m = bitsOf j m ++ if m / 2 ^ j % 2 = 1 then [(j : Int)] else [] := by
  unfold bitsOf
  rw [List.range_succ, List.filter_append, List.map_append]
  congr 1
  by_cases h : m / 2 ^ j % 2 = 1
  · rw [if_pos h]
    simp [h]
  · rw [if_neg h]
    simp [h]
theorem bit_int (k j : Nat) : ((0 + (k : Int)) / 2 ^ (0 + (j : Int)).toNat % 2 = 1) ↔ k / 2 ^ j % 2 = 1 := by
  rw [Int.zero_add, Int.zero_add, Int.toNat_natCast]
  have e : (2 : Int) ^ j = ((2 ^ j : Nat) : Int) := by
    rw [Int.natCast_pow]
    rfl
  rw [e, ← Int.natCast_ediv]
  omega
def spAllW : Sp := fun vs H Q _ => ∃ (c r : Addr) (l w : Int) (ns row : List Int) (F : List Asr), vs = [.ref c, .int l, .int w, .ref r] ∧ Sts (pto c (.lst (ns.map V.int)) :: pto r (.lst (row.map V.int)) :: F) H ∧ (1 ≤ w ∧ w ≤ 1000 ∧ ns.length ≤ 7 ∧ ∃ f g : Nat, Reads w.toNat ns f g ∧ row = rowOf w.toNat f g) ∧
  ∀ (H' : Hp), Sts (pto c (.lst (ns.map V.int)) :: pto r (.lst (row.map V.int)) :: F) H' → Q (.bl true) H'
theorem ok_law_wins_always (T : Txt K mg) : FnOk P w K mg base CX0 2 T.f_law_wins_always T.fd_law_wins_always ["chain", "lines", "copies", "row"] spAllW := by
  refine T.F_law_wins_always.ok sc_law_wins_always (fun vs H Q E h => by obtain ⟨c, r, l, w, ns, row, F, rfl, _⟩ := h; rfl) (fun cdv A outer s H vs Q E hr h => ?_)
  obtain ⟨c, r, l, w, ns, row, F, rfl, S, ⟨hw, hw2, hl, f, g, R, er⟩, q⟩ := h
  refine ⟨_, (pss_cons (ps_set (i := 4) sc_law_wins_always.nd rfl (Or.inl rfl) (pe_lst (pa_cons (pe_callTy (oc_list (K := K) rfl) (by rfl) T.z_list PyProof.Rows.boot_list (pa_cons (pv 0) pa_nil)) pa_nil)))
      (pss_cons (ps_for PassesOwn.never rfl (pi_list (pv 3)) (pg_name (i := 5) sc_law_wins_always.nd rfl (Or.inl rfl))
      (pss_cons (ps_set (i := 6) sc_law_wins_always.nd rfl (Or.inl rfl) (pe_lst pa_nil))
      (pss_cons (ps_for PassesOwn.never rfl (pi_list (pv 4)) (pg_name (i := 7) sc_law_wins_always.nd rfl (Or.inl rfl))
      (pss_one (ps_for PassesOwn.never rfl (pi_range1 rfl T.z_range (pa_cons (pe_op op_shl pe_int (pe_callB (oc_lenI (K := K) rfl) (by rfl) T.z_len PySem.boot_len (pa_cons (pv 0) pa_nil))) pa_nil)) (pg_name (i := 8) sc_law_wins_always.nd rfl (Or.inr rfl))
      (pss_cons (ps_setLc (i := 9) (own := [("place", 10)]) (g := gName 10) rfl sc_law_wins_always.nd rfl rfl (sw_true rfl rfl rfl (by decide +kernel)) (pi_range1 rfl T.z_range (pa_cons (pe_callB (oc_lenI (K := K) rfl) (by rfl) T.z_len PySem.boot_len (pa_cons (pv 0) pa_nil)) pa_nil)) (blkOk_by (own := [("place", 10)]) (N := ["chain", "lines", "copies", "row", "states", "page", "following", "state", "mask", "copied", "place"]) (sc := defScope s_law_wins_always) (by decide +kernel)) (fun _ _ _ _ _ => (pg_name (i := 10) sc_law_wins_always.nd rfl (Or.inl rfl))) (fun _ _ _ _ _ => (pts_one (pt_cmpR op_eq (pe_op oc_and1 (pe_op op_shr (pv 8) (pv 10)) pe_int) pe_int (nomark _)))) (fun _ _ _ _ _ => (pv 10)))
      (pss_one (ps_if (PW.pt (pw_and (pt_cmpR op_le (pe_callB (oc_lenI (K := K) rfl) (by rfl) T.z_len PySem.boot_len (pa_cons (pv 9) pa_nil)) (pv 2) (nomark _)) (pw_and1 (pt_cmpR (oc_eq_ints (K := K) rfl hr.units) (pv 9) (pe_call (ok_law_closed T) (hr.mono (by decide)) (by rfl) T.g_law_closed T.F_law_closed.kp T.b_law_closed .nil pass0 (pa_cons (pv 7) (pa_cons (pv 5) (pa_cons (pv 9) pa_nil)))) (nomark _)))))
      (pss_one (ps_expr (pe_bm PySem.F.plainAttrs_list PySem.F.slot_list_append PySem.F.type_list_append oc_append (pv 6) (pa_cons (pe_call (ok_law_after T) (hr.mono (by decide)) (by rfl) T.g_law_after T.F_law_after.kp T.b_law_after .nil pass0 (pa_cons (pv 7) (pa_cons (pv 1) (pa_cons (pv 5) (pa_cons (pv 9) pa_nil))))) pa_nil))))
      pss_nil))))))
      (pss_one (ps_set (i := 4) sc_law_wins_always.nd rfl (Or.inl rfl) (pv 6))))))
      (pss_one (ps_ret (pe_cmpR (oc_eq_ints (K := K) rfl hr.units) (pv 4) (pe_lst pa_nil) (nomark _)))))), ?_⟩
  have rl := rowOf_len w.toNat f g
  rw [← er] at rl
  obtain ⟨W, rfl⟩ := Int.eq_ofNat_of_zero_le (show 0 ≤ w by omega)
  rw [Int.toNat_natCast] at R er
  walk_at "gd"
  rename_i a0 H0 S0 st H1 S1
  refine for_list (K := K) (a := r) (xs := row.map V.int) (fun i σ H => ∃ (st : Addr) (xs : List V) (B : Asr) (x5 x6 x7 x8 x9 : Option V), σ = [some (.ref c), some (.int l), some (.int W), some (.ref r), some (.ref st), x5, x6, x7, x8, x9, none] ∧
    (xs = [] ∨ ∃ a sv, i ≤ g ∧ xs = [.ref a] ∧ B = pto a (.lst (sv.map V.int)) ∧ Reads W sv f (g - i) ∧ sv.length = ns.length) ∧
    Sts (pto st (.lst xs) :: B :: pto c (.lst (ns.map V.int)) :: pto r (.lst (row.map V.int)) :: F) H) ?_ (fun i σ H _ ⟨_, _, _, _, _, _, _, _, _, _, S⟩ => by walk_at "sq") ?_ ?_
  · exact ⟨st, _, _, none, none, none, none, none, rfl, .inr ⟨a0, ns, Nat.zero_le g, rfl, rfl, R, rfl⟩, by walk_at "fp"⟩
  · rintro i x σ H hx ⟨st, xs, B, x5, x6, x7, x8, x9, rfl, hxs, S⟩
    obtain ⟨pg, hp, rfl⟩ := at_int hx
    have hi : i < g + 1 := by
      have := len_lt hx
      omega
    rw [er, rowOf_get hi] at hp
    cases hp
    rw [show g + 1 - i = (g - i) + 1 by omega]
    walk_at "gd"
    rename_i fo H2 S2
    rcases hxs with rfl | ⟨a, sv, ig, rfl, rfl, R, hs⟩
    · refine for_list (K := K) (a := st) (xs := []) (fun j σ H => ∃ x7 x8 x9 : Option V, σ = [some (.ref c), some (.int l), some (.int W), some (.ref r), some (.ref st), some (.int (f + (g - i + 1) * W : Nat)), some (.ref fo), x7, x8, x9, none] ∧
        Sts (pto fo (.lst []) :: pto st (.lst []) :: B :: pto c (.lst (ns.map V.int)) :: pto r (.lst (row.map V.int)) :: F) H) ⟨_, _, _, rfl, by walk_at "fp"⟩ (fun i σ H _ ⟨_, _, _, _, S⟩ => by walk_at "sq") (fun j x σ H h => nomatch h) ?_
      rintro σ H ⟨x7, x8, x9, rfl, S⟩
      walk_at "gd"
      exact ⟨fo, [], B, _, _, _, _, _, rfl, .inl rfl, by walk_at "fp"⟩
    · generalize hk : g - i = k at *
      have pw : 2 ^ ns.length ≤ 2 ^ 7 := Nat.pow_le_pow_right (by decide) hl
      have pe : (1 : Int) * 2 ^ ((ns.length : Nat) : Int).toNat = ((2 ^ ns.length : Nat) : Int) := by
        rw [Int.toNat_natCast, Int.one_mul, Int.natCast_pow]
        rfl
      refine for_list (K := K) (a := st) (xs := [.ref a]) (fun j σ H => ∃ (xs : List V) (B : Asr) (x7 x8 x9 : Option V), σ = [some (.ref c), some (.int l), some (.int W), some (.ref r), some (.ref st), some (.int (f + (k + 1) * W : Nat)), some (.ref fo), x7, x8, x9, none] ∧
        (xs = [] ∨ (j = 1 ∧ ∃ b sv', 1 ≤ k ∧ xs = [.ref b] ∧ B = pto b (.lst (sv'.map V.int)) ∧ Reads W sv' f (k - 1) ∧ sv'.length = ns.length)) ∧
        Sts (pto fo (.lst xs) :: B :: pto st (.lst [.ref a]) :: pto a (.lst (sv.map V.int)) :: pto c (.lst (ns.map V.int)) :: pto r (.lst (row.map V.int)) :: F) H) ?_ (fun i σ H _ ⟨_, _, _, _, _, _, _, S⟩ => by walk_at "sq") ?_ ?_
      · exact ⟨[], star [], _, _, _, rfl, .inl rfl, Sts.swap (Sts.close_star (L := []) S2)⟩
      · rintro j x σ H hx ⟨xs, B, x7, x8, x9, rfl, hxs, S⟩
        obtain ⟨rfl, rfl⟩ : j = 0 ∧ x = .ref a := by
          match j, hx with
          | 0, h => cases h; exact ⟨rfl, rfl⟩
        have hxs : xs = [] := by
          rcases hxs with h | ⟨h, _⟩
          · exact h
          · cases h
        subst hxs
        walk_at "gd"
        refine ⟨by rw [pe]; exact Int.le_trans (by decide) (Int.natCast_nonneg _), by rw [pe]; exact Int.lt_of_le_of_lt (Int.ofNat_le.mpr pw) (by decide), ?_⟩
        rw [pe, Int.toNat_natCast]
        refine for_range (lo := 0) (n := 2 ^ ns.length) (fun m σ H => ∃ (xs : List V) (B : Asr) (x8 x9 : Option V), σ = [some (.ref c), some (.int l), some (.int W), some (.ref r), some (.ref st), some (.int (f + (k + 1) * W : Nat)), some (.ref fo), some (.ref a), x8, x9, none] ∧
          (xs = [] ∨ ∃ m0 b sv', m0 < m ∧ bitsOf ns.length m0 = blockOf W (f + (k + 1) * W) ∧ 1 ≤ k ∧ xs = [.ref b] ∧ B = pto b (.lst (sv'.map V.int)) ∧ Reads W sv' f (k - 1) ∧ sv'.length = ns.length) ∧
          Sts (pto fo (.lst xs) :: B :: pto st (.lst [.ref a]) :: pto a (.lst (sv.map V.int)) :: pto c (.lst (ns.map V.int)) :: pto r (.lst (row.map V.int)) :: F) H) ⟨[], B, _, _, rfl, .inl rfl, S⟩ ?_ ?_
        · rintro m σ H hm ⟨xs, B, x8, x9, rfl, hxs, S⟩
          have hxs' : xs = [] ∨ ∃ m0 b sv', m0 < m + 1 ∧ bitsOf ns.length m0 = blockOf W (f + (k + 1) * W) ∧ 1 ≤ k ∧ xs = [.ref b] ∧ B = pto b (.lst (sv'.map V.int)) ∧ Reads W sv' f (k - 1) ∧ sv'.length = ns.length := by
            rcases hxs with h | ⟨m0, b, sv', h0, h⟩
            · exact .inl h
            · exact .inr ⟨m0, b, sv', Nat.lt_succ_of_lt h0, h⟩
          have hx1 : xs.length ≤ 1 := by
            rcases hxs with h | ⟨_, _, _, _, _, _, h, _⟩ <;> rw [h] <;> simp
          walk_at "gd"
          rename_i D H3 S3
          refine oc_lcR (fun j H => Sts (pto D (.lst ((bitsOf j m).map V.int)) :: pto fo (.lst xs) :: B :: pto st (.lst [.ref a]) :: pto a (.lst (sv.map V.int)) :: pto c (.lst (ns.map V.int)) :: pto r (.lst (row.map V.int)) :: F) H) S3 ?_ ?_
          · rintro j H hj S
            have bs := bits_snoc j m
            have bl := bits_len m j
            have bi := bit_int m j
            walk_at "gd"
            with_reducible refine ifB (fun c1 => ?_) (fun c1 => ?_)
            · have c1 := bi.mp (vi (odt c1))
              rw [if_pos c1] at bs
              rw [bs]
              walk_at "gd"
              walk_at "lce"
              rename_i H4 S4
              rw [List.map_append, List.map_singleton, ← Int.zero_add (j : Int)]
              walk_at "fp"
            · have c1 : ¬ m / 2 ^ j % 2 = 1 := fun z => odf c1 (congrArg V.int (bi.mpr z))
              rw [if_neg c1, List.append_nil] at bs
              rw [bs]
              exact S
          · intro H S
            have bl := bits_len m ns.length
            rw [Int.toNat_natCast] at S
            walk_at "gd"
            with_reducible refine ifB (fun c1 => ?_) (fun c1 => ?_)
            · have c1 := odt c1
              walk_at "gd"
              with_reducible refine ifB (fun c2 => ?_) (fun c2 => ?_)
              · have c2 := odt c2
                obtain ⟨k1, fb⟩ := forced (by omega) R (bitsOf ns.length m) (by rw [← c2]; omega)
                have hx0 : xs = [] := by
                  rcases hxs with h | ⟨m0, b, sv', h0, h1, _⟩
                  · exact h
                  · have := bits_inj (Nat.lt_trans h0 hm) hm (h1.trans (c2.trans fb).symm)
                    omega
                subst hx0
                walk_at "gd"
                rename_i nb H4 S4 H5 S5
                obtain ⟨k', rfl⟩ : ∃ k', k = k' + 1 := ⟨k - 1, by omega⟩
                refine ⟨[.ref nb], pto nb (.lst ((aft l ((f + (k' + 1 + 1) * W : Nat) : Int) (bitsOf ns.length m) sv).map V.int)), _, _, rfl, .inr ⟨m, nb, _, Nat.lt_succ_self m, c2.trans fb, k1, rfl, rfl, ?_, (aft_len _ _ _ _).trans hs⟩, by walk_at "fp"⟩
                rw [c2, fb]
                exact R.next (by omega) l
              · walk_at "gd"
                exact ⟨xs, B, _, _, rfl, hxs', by walk_at "fp"⟩
            · walk_at "gd"
              exact ⟨xs, B, _, _, rfl, hxs', by walk_at "fp"⟩
        · rintro σ H ⟨xs, B, x8, x9, rfl, hxs, S⟩
          refine ⟨xs, B, _, _, _, rfl, ?_, S⟩
          rcases hxs with h | ⟨m0, b, sv', _, _, h⟩
          · exact .inl h
          · exact .inr ⟨rfl, b, sv', h⟩
      · rintro σ H ⟨xs, B, x7, x8, x9, rfl, hxs, S⟩
        walk_at "gd"
        refine ⟨fo, xs, B, _, _, _, _, _, rfl, ?_, by walk_at "fp"⟩
        rcases hxs with h | ⟨_, b, sv', k1, h1, h2, h3, h4⟩
        · exact .inl h
        · exact .inr ⟨b, sv', by omega, h1, h2, by rw [show g - (i + 1) = k - 1 by omega]; exact h3, h4⟩
  · rintro σ H ⟨st, xs, B, x5, x6, x7, x8, x9, rfl, hxs, S⟩
    have hx0 : xs = [] := by
      rcases hxs with h | ⟨_, _, hi, _⟩
      · exact h
      · rw [List.length_map] at hi
        omega
    subst hx0
    walk_at "gd"
    rw [deq]
    exact q _ (by walk_at "fp")

local macro_rules | `(tactic| walk_at "go1") => `(tactic| (refine ⟨_, _, _, _, _, _, rfl, Oc.gLL (by walk_at "fr2"), ?len, fun (oh : L2.Hp) os => ?_⟩; case len => exact ⟨by omega, by omega, by omega, by assumption⟩))
local macro_rules | `(tactic| walk_at "go1") => `(tactic| (refine ⟨_, _, _, _, _, _, _, rfl, Oc.gLL (by walk_at "fr2"), ?len, fun (oh : L2.Hp) os => ?_⟩; case len => exact ⟨by omega, by omega, by omega, by assumption⟩))
def spFits : Sp := fun vs H Q _ => ∃ (p c : Addr) (l w : Int) (ns : List Int) (F : List Asr), vs = [.ref p, .ref c, .int l, .int w] ∧ Sts (bag p :: pto c (.lst (ns.map V.int)) :: F) H ∧ (1 ≤ w ∧ w ≤ 1000 ∧ Nn ns ∧ ns.length ≤ 1000) ∧
  ∀ (H' : Hp), Sts (bag p :: pto c (.lst (ns.map V.int)) :: F) H' → Q (.bl true) H'
theorem ok_law_fits (T : Txt K mg) : FnOk P w K mg base CX0 5 T.f_law_fits T.fd_law_fits ["bag", "chain", "lines", "copies"] spFits := by
  refine T.F_law_fits.ok sc_law_fits (fun vs H Q E h => by obtain ⟨p, c, l, w, ns, F, rfl, _⟩ := h; rfl) (fun cdv A outer s H vs Q E hr h => ?_)
  obtain ⟨p, c, l, w, ns, F, rfl, S, ⟨hw, hw2, hN, hl⟩, q⟩ := h
  refine ⟨_, (pss_cons (ps_set (i := 4) sc_law_fits.nd rfl (Or.inl rfl) (pe_callTy (oc_list (K := K) rfl) (by rfl) T.z_list PyProof.Rows.boot_list (pa_cons (pv 1) pa_nil)))
      (pss_cons (ps_set (i := 5) sc_law_fits.nd rfl (Or.inl rfl) (pe_call (ok_law_has_stretch T) (hr.mono (by decide)) (by rfl) T.g_law_has_stretch T.F_law_has_stretch.kp T.b_law_has_stretch .nil pass0 (pa_cons (pv 1) (pa_cons (pv 3) pa_nil))))
      (pss_cons (ps_for PassesOwn.never rfl (pi_range1 rfl T.z_range (pa_cons pe_int pa_nil)) (pg_name (i := 6) sc_law_fits.nd rfl (Or.inl rfl))
      (pss_cons (ps_set (i := 7) sc_law_fits.nd rfl (Or.inl rfl) (pe_call (ok_attack_row T) (hr.mono (by decide)) (by rfl) T.g_attack_row T.F_attack_row.kp T.b_attack_row .nil pass0 (pa_cons (pv 4) (pa_cons (pv 3) pa_nil))))
      (pss_cons (ps_if (PW.pt (pw_or (pt_cmpR (oc_ne_ints (K := K) rfl hr.units) (pv 4) (pv 1) (nomark _)) (pw_or1 (pt_not (pt_val (pe_callB oc_isi_ll (by rfl) T.z_isinstance PyProof.Rows.boot_isinstance (pa_cons (pv 7) (pa_cons (pe_bltn (v := .ty "list") (by rfl) T.z_list PyProof.Rows.boot_list rfl) pa_nil))))))))
      (pss_one (ps_ret pe_bl))
      pss_nil)
      (pss_cons (ps_if (PW.pt (pw_and (pt_not (pt_val (pv 5))) (pw_and1 (pt_cmpR (oc_ne_ints (K := K) rfl hr.units) (pv 7) (pe_lst pa_nil) (nomark _)))))
      (pss_one (ps_ret pe_bl))
      pss_nil)
      (pss_cons (ps_if (PW.pt (pw_and (pt_val (pv 5)) (pw_and1 (pt_not (pt_val (pe_call (ok_law_reads T) (hr.mono (by decide)) (by rfl) T.g_law_reads T.F_law_reads.kp T.b_law_reads .nil pass0 (pa_cons (pv 1) (pa_cons (pv 3) (pa_cons (pv 7) pa_nil)))))))))
      (pss_one (ps_ret pe_bl))
      pss_nil)
      (pss_cons (ps_if (PW.pt (pw_and (pt_val (pv 5)) (pw_and (pt_cmpR op_le (pe_callB (oc_lenI (K := K) rfl) (by rfl) T.z_len PySem.boot_len (pa_cons (pv 1) pa_nil)) pe_int (nomark _)) (pw_and1 (pt_not (pt_val (pe_call (ok_law_wins_always T) (hr.mono (by decide)) (by rfl) T.g_law_wins_always T.F_law_wins_always.kp T.b_law_wins_always .nil pass0 (pa_cons (pv 1) (pa_cons (pv 2) (pa_cons (pv 3) (pa_cons (pv 7) pa_nil)))))))))))
      (pss_one (ps_ret pe_bl))
      pss_nil)
      (pss_cons (ps_if (PW.pt (pw_and (pt_val (pv 5)) (pw_and1 (pt_not (pt_val (pe_call (ok_law_wins T) (hr.mono (by decide)) (by rfl) T.g_law_wins T.F_law_wins.kp T.b_law_wins .nil pass0 (pa_cons (pv 0) (pa_cons (pv 1) (pa_cons (pv 2) (pa_cons (pv 3) (pa_cons (pv 7) pa_nil)))))))))))
      (pss_one (ps_ret pe_bl))
      pss_nil)
      (pss_one (ps_expr (pe_bm PySem.F.plainAttrs_list PySem.F.slot_list_append PySem.F.type_list_append oc_appendI (pv 7) (pa_cons (pe_callB (oc_lenI (K := K) rfl) (by rfl) T.z_len PySem.boot_len (pa_cons (pv 1) pa_nil)) pa_nil)))))))))))
      (pss_one (ps_ret pe_bl))))), ?_⟩
  walk_at "gd"
  rename_i hd H1 S1 b H2 hb S2
  have e3 : Lost w ns ↔ Stretch w.toNat ns := by
    have z := lost_iff (w := w.toNat) (by omega) hN
    rwa [Int.toNat_of_nonneg (by omega)] at z
  refine for_range (lo := 0) (n := 2) (fun i σ H => ∃ x6 x7 x8 : Option V, σ = [some (.ref p), some (.ref c), some (.int l), some (.int w), some (.ref hd), some (.bl b), x6, x7] ∧ Sts (pto hd (.lst (ns.map V.int)) :: bag p :: pto c (.lst (ns.map V.int)) :: F) H) ⟨none, none, none, rfl, by walk_at "fp"⟩ ?_ ?_
  · rintro i σ H hi ⟨x6, x7, x8, rfl, S⟩
    by_cases lost : Lost w ns
    · have hbt : b = true := hb.mpr (e3.mp lost)
      subst hbt
      walk_at "gd"
      rename_i rp rv H3 hr S3
      rcases hr with ⟨h, _⟩ | ⟨f, g, _, R, er⟩
      · exact absurd lost h
      have ex : ∃ f g : Nat, Reads w.toNat ns f g ∧ rv = rowOf w.toNat f g := ⟨f, g, R, er⟩
      have rl := rowOf_len w.toNat f g
      rw [← er] at rl
      have gl : g + 1 ≤ 100000 := by
        have := R.1
        have := Nat.mul_le_mul_left (g + 1) (show 1 ≤ w.toNat by omega)
        omega
      by_cases l7 : ns.length ≤ 7
      · walk_at "gd"
        exact ⟨_, _, none, rfl, by walk_at "fp"⟩
      · walk_at "gd"
        exact ⟨_, _, none, rfl, by walk_at "fp"⟩
    · have hbf : b = false := by
        cases b with
        | true => exact absurd (e3.mpr (hb.mp rfl)) lost
        | false => rfl
      subst hbf
      walk_at "gd"
      rename_i rp rv H3 hr S3 _ _ _
      rcases hr with ⟨_, rfl⟩ | ⟨_, _, h, _⟩
      · refine ifF rfl ?_
        walk_at "gd"
        exact ⟨_, _, none, rfl, by walk_at "fp"⟩
      · exact absurd h lost
  · rintro σ H ⟨x6, x7, x8, rfl, S⟩
    walk_at "gd"
    exact q _ (by walk_at "fp")

theorem nn_nil : Nn [] := fun _ h => nomatch h
local macro_rules | `(tactic| walk_at "go1") => `(tactic| (refine ⟨_, _, _, _, ([] : List Int), _, rfl, Oc.pr (by walk_at "fr2"), ?len, fun (oh : L2.Hp) os => ?_⟩; case len => exact ⟨by omega, by omega, K27.nn_nil, by decide⟩))
local macro_rules | `(tactic| walk_at "go1") => `(tactic| (refine ⟨_, _, _, _, _, _, rfl, Oc.pr (by walk_at "fr2"), ?len, fun (oh : L2.Hp) os => ?_⟩; case len => exact ⟨by omega, by omega, by assumption, by omega⟩))
local macro_rules | `(tactic| walk_at "go1") => `(tactic| (refine ⟨_, _, rfl, Oc.pr (by walk_at "sq"), Oc.pr (by omega), fun (om : Int) ox oy => ?_⟩))
def spLaw (K : PySem.W.Frag) : Sp := fun vs H Q _ => ∃ (a : Addr) (ns : List Int), vs = [.ref a] ∧ SqL K H a (ns.map V.int) ∧ ns.length ≤ 63 ∧ ∀ H', Q (.bl true) H'
theorem ok_law (T : Txt K mg) : FnOk P w K mg base CX0 6 T.f_law T.fd_law ["script"] (spLaw K) := by
  refine T.F_law.ok sc_law (fun vs H Q E h => by obtain ⟨a, ns, rfl, _⟩ := h; rfl) (fun cdv A outer s H vs Q E hr h => ?_)
  obtain ⟨a, ns, rfl, hS, hlen, q⟩ := h
  have S := sts_script hS
  refine ⟨_, (pss_cons (ps_set (i := 1) sc_law.nd rfl (Or.inl rfl) (pe_call (ok_law_copies T) (hr.mono (by decide)) (by rfl) T.g_law_copies T.F_law_copies.kp T.b_law_copies .nil pass0 (pa_cons (pe_call (ok_law_bag T) (hr.mono (by decide)) (by rfl) T.g_law_bag T.F_law_bag.kp T.b_law_bag .nil pass0 (pa_cons (pv 0) (pa_cons pe_int pa_nil))) pa_nil)))
      (pss_cons (ps_set (i := 2) sc_law.nd rfl (Or.inl rfl) (pe_call (ok_law_chain T) (hr.mono (by decide)) (by rfl) T.g_law_chain T.F_law_chain.kp T.b_law_chain .nil pass0 (pa_cons (pe_call (ok_law_bag T) (hr.mono (by decide)) (by rfl) T.g_law_bag T.F_law_bag.kp T.b_law_bag .nil pass0 (pa_cons (pv 0) (pa_cons pe_int pa_nil))) (pa_cons (pv 1) pa_nil))))
      (pss_cons (ps_set (i := 3) sc_law.nd rfl (Or.inl rfl) (pe_call (ok_law_bag T) (hr.mono (by decide)) (by rfl) T.g_law_bag T.F_law_bag.kp T.b_law_bag .nil pass0 (pa_cons (pv 0) (pa_cons pe_int pa_nil))))
      (pss_cons (ps_set (i := 4) sc_law.nd rfl (Or.inl rfl) (pe_call (ok_law_copies T) (hr.mono (by decide)) (by rfl) T.g_law_copies T.F_law_copies.kp T.b_law_copies .nil pass0 (pa_cons (pv 3) pa_nil)))
      (pss_cons (ps_set (i := 5) sc_law.nd rfl (Or.inl rfl) (pe_callB (oc_min2 rfl) (by rfl) T.z_min PyProof.Rows.boot_min (pa_cons pe_int (pa_cons (pe_op op_add (pe_callB (oc_max2 rfl) (by rfl) T.z_max PyProof.Rows.boot_max (pa_cons pe_int (pa_cons (pe_callB (cr_max rfl) (by rfl) T.z_max PyProof.Rows.boot_max (pa_cons (pv 2) pa_nil)) pa_nil))) (pe_call (ok_law_take T) (hr.mono (by decide)) (by rfl) T.g_law_take T.F_law_take.kp T.b_law_take .nil pass0 (pa_cons (pv 3) (pa_cons pe_int pa_nil)))) pa_nil))))
      (pss_cons (ps_for PassesOwn.never rfl (pi_list (pe_lst (pa_cons (pv 1) (pa_cons (pv 4) pa_nil)))) (pg_name (i := 6) sc_law.nd rfl (Or.inl rfl))
      (pss_one (ps_if (PW.pt (pw_or (pt_not (pt_val (pe_call (ok_law_fits T) (hr.mono (by decide)) (by rfl) T.g_law_fits T.F_law_fits.kp T.b_law_fits .nil pass0 (pa_cons (pv 3) (pa_cons (pv 2) (pa_cons (pv 5) (pa_cons (pv 6) pa_nil))))))) (pw_or1 (pt_not (pt_val (pe_call (ok_law_fits T) (hr.mono (by decide)) (by rfl) T.g_law_fits T.F_law_fits.kp T.b_law_fits .nil pass0 (pa_cons (pv 3) (pa_cons (pe_lst pa_nil) (pa_cons (pv 5) (pa_cons (pv 6) pa_nil))))))))))
      (pss_one (ps_ret pe_bl))
      pss_nil)))
      (pss_one (ps_ret pe_bl)))))))), ?_⟩
  walk_at "gd"
  rename_i p0 H1 S1 c H2 c0 c1 S2 p1 H3 S3 oa ms H4 hn hl S4 p2 H5 S5 o H6 o0 o1 S6 om ox oy d H7 d0 d1 S7 l H8 S8
  refine for_list (K := K) (a := l) (xs := [V.int c, V.int o]) (fun i σ H => ∃ x : Option V, σ = [some (.ref a), some (.int c), some (.ref oa), some (.ref p2), some (.int o), some (.int (min 60 (max 2 om + d))), x] ∧ Sts [pto l (.lst [V.int c, V.int o]), bag p2, pto oa (.lst (ms.map V.int))] H)
    ⟨none, rfl, by walk_at "fp"⟩ (fun i σ H _ ⟨_, _, S⟩ => by walk_at "sq") ?_ ?_
  · rintro i x σ H hx ⟨y, rfl, S⟩
    obtain ⟨j, rfl, j0, j1⟩ : ∃ j, x = .int j ∧ 1 ≤ j ∧ j ≤ 71 := by
      match i, hx with
      | 0, h => cases h; exact ⟨c, rfl, by omega, by omega⟩
      | 1, h => cases h; exact ⟨o, rfl, by omega, by omega⟩
    walk_at "gd"
    walk_at "fp"
  · rintro σ H ⟨y, rfl, S⟩
    walk_at "gd"
    exact q _

end
/-! ### what the top has written; the law's own head -/
theorem all_mk {l : PySem.W.OpenLaw} {w : World} {K : PySem.W.Frag} {h : Heap} {mg : Str → Option Value} {fa : Addr} (X : K.In h) (G : h.Ns mainGlobals mg) (hfa : mg "law" = some (.ref fa))
    {f0 : Addr} {od0 an0 : Option Addr} {sl0 : Array (Option Value)} {oc0 kV0 dc0 pm0 cd0 ct0 : Value}
    {f1 : Addr} {od1 an1 : Option Addr} {sl1 : Array (Option Value)} {oc1 kV1 dc1 pm1 cd1 ct1 : Value}
    {f2 : Addr} {od2 an2 : Option Addr} {sl2 : Array (Option Value)} {oc2 kV2 dc2 pm2 cd2 ct2 : Value}
    {f3 : Addr} {od3 an3 : Option Addr} {sl3 : Array (Option Value)} {oc3 kV3 dc3 pm3 cd3 ct3 : Value}
    {f4 : Addr} {od4 an4 : Option Addr} {sl4 : Array (Option Value)} {oc4 kV4 dc4 pm4 cd4 ct4 : Value}
    {f5 : Addr} {od5 an5 : Option Addr} {sl5 : Array (Option Value)} {oc5 kV5 dc5 pm5 cd5 ct5 : Value}
    {f6 : Addr} {od6 an6 : Option Addr} {sl6 : Array (Option Value)} {oc6 kV6 dc6 pm6 cd6 ct6 : Value}
    {f7 : Addr} {od7 an7 : Option Addr} {sl7 : Array (Option Value)} {oc7 kV7 dc7 pm7 cd7 ct7 : Value}
    {f8 : Addr} {od8 an8 : Option Addr} {sl8 : Array (Option Value)} {oc8 kV8 dc8 pm8 cd8 ct8 : Value}
    {f9 : Addr} {od9 an9 : Option Addr} {sl9 : Array (Option Value)} {oc9 kV9 dc9 pm9 cd9 ct9 : Value}
    {f10 : Addr} {od10 an10 : Option Addr} {sl10 : Array (Option Value)} {oc10 kV10 dc10 pm10 cd10 ct10 : Value}
    {f11 : Addr} {od11 an11 : Option Addr} {sl11 : Array (Option Value)} {oc11 kV11 dc11 pm11 cd11 ct11 : Value}
    {f12 : Addr} {od12 an12 : Option Addr} {sl12 : Array (Option Value)} {oc12 kV12 dc12 pm12 cd12 ct12 : Value}
    {f13 : Addr} {od13 an13 : Option Addr} {sl13 : Array (Option Value)} {oc13 kV13 dc13 pm13 cd13 ct13 : Value}
    {f14 : Addr} {od14 an14 : Option Addr} {sl14 : Array (Option Value)} {oc14 kV14 dc14 pm14 cd14 ct14 : Value}
    {f15 : Addr} {od15 an15 : Option Addr} {sl15 : Array (Option Value)} {oc15 kV15 dc15 pm15 cd15 ct15 : Value}
    {f16 : Addr} {od16 an16 : Option Addr} {sl16 : Array (Option Value)} {oc16 kV16 dc16 pm16 cd16 ct16 : Value}
    {f17 : Addr} {od17 an17 : Option Addr} {sl17 : Array (Option Value)} {oc17 kV17 dc17 pm17 cd17 ct17 : Value}
    {f18 : Addr} {od18 an18 : Option Addr} {sl18 : Array (Option Value)} {oc18 kV18 dc18 pm18 cd18 ct18 : Value}
    (a0 : PySem.W.nsIn K mainGlobals "height_above" = some (some (.ref f0)))
    (l0 : K.lookup f0 = some ⟨oc0, od0, .func (PySem.W.fnOf "height_above" "height_above" (defArgs s_height_above) (defBody s_height_above) (defScope s_height_above) .none kV0 dc0 pm0 an0 cd0 ct0), sl0⟩) (c0 : PySem.W.codeIn K cd0 "height_above" = true) (k0 : PySem.W.keepIn K (.ref f0) = true)
    (a1 : PySem.W.nsIn K mainGlobals "heights" = some (some (.ref f1)))
    (l1 : K.lookup f1 = some ⟨oc1, od1, .func (PySem.W.fnOf "heights" "heights" (defArgs s_heights) (defBody s_heights) (defScope s_heights) .none kV1 dc1 pm1 an1 cd1 ct1), sl1⟩) (c1 : PySem.W.codeIn K cd1 "heights" = true) (k1 : PySem.W.keepIn K (.ref f1) = true)
    (a2 : PySem.W.nsIn K mainGlobals "_lowest_lost" = some (some (.ref f2)))
    (l2 : K.lookup f2 = some ⟨oc2, od2, .func (PySem.W.fnOf "_lowest_lost" "_lowest_lost" (defArgs s_lowest_lost) (defBody s_lowest_lost) (defScope s_lowest_lost) .none kV2 dc2 pm2 an2 cd2 ct2), sl2⟩) (c2 : PySem.W.codeIn K cd2 "_lowest_lost" = true) (k2 : PySem.W.keepIn K (.ref f2) = true)
    (a3 : PySem.W.nsIn K mainGlobals "attack_row" = some (some (.ref f3)))
    (l3 : K.lookup f3 = some ⟨oc3, od3, .func (PySem.W.fnOf "attack_row" "attack_row" (defArgs s_attack_row) (defBody s_attack_row) (defScope s_attack_row) .none kV3 dc3 pm3 an3 cd3 ct3), sl3⟩) (c3 : PySem.W.codeIn K cd3 "attack_row" = true) (k3 : PySem.W.keepIn K (.ref f3) = true)
    (a4 : PySem.W.nsIn K mainGlobals "_law_is_integer" = some (some (.ref f4)))
    (l4 : K.lookup f4 = some ⟨oc4, od4, .func (PySem.W.fnOf "_law_is_integer" "_law_is_integer" (defArgs s_law_is_integer) (defBody s_law_is_integer) (defScope s_law_is_integer) .none kV4 dc4 pm4 an4 cd4 ct4), sl4⟩) (c4 : PySem.W.codeIn K cd4 "_law_is_integer" = true) (k4 : PySem.W.keepIn K (.ref f4) = true)
    (a5 : PySem.W.nsIn K mainGlobals "_law_bag" = some (some (.ref f5)))
    (l5 : K.lookup f5 = some ⟨oc5, od5, .func (PySem.W.fnOf "_law_bag" "_law_bag" (defArgs s_law_bag) (defBody s_law_bag) (defScope s_law_bag) .none kV5 dc5 pm5 an5 cd5 ct5), sl5⟩) (c5 : PySem.W.codeIn K cd5 "_law_bag" = true) (k5 : PySem.W.keepIn K (.ref f5) = true)
    (a6 : PySem.W.nsIn K mainGlobals "_law_take" = some (some (.ref f6)))
    (l6 : K.lookup f6 = some ⟨oc6, od6, .func (PySem.W.fnOf "_law_take" "_law_take" (defArgs s_law_take) (defBody s_law_take) (defScope s_law_take) .none kV6 dc6 pm6 an6 cd6 ct6), sl6⟩) (c6 : PySem.W.codeIn K cd6 "_law_take" = true) (k6 : PySem.W.keepIn K (.ref f6) = true)
    (a7 : PySem.W.nsIn K mainGlobals "_law_copies" = some (some (.ref f7)))
    (l7 : K.lookup f7 = some ⟨oc7, od7, .func (PySem.W.fnOf "_law_copies" "_law_copies" (defArgs s_law_copies) (defBody s_law_copies) (defScope s_law_copies) .none kV7 dc7 pm7 an7 cd7 ct7), sl7⟩) (c7 : PySem.W.codeIn K cd7 "_law_copies" = true) (k7 : PySem.W.keepIn K (.ref f7) = true)
    (a8 : PySem.W.nsIn K mainGlobals "_law_page" = some (some (.ref f8)))
    (l8 : K.lookup f8 = some ⟨oc8, od8, .func (PySem.W.fnOf "_law_page" "_law_page" (defArgs s_law_page) (defBody s_law_page) (defScope s_law_page) .none kV8 dc8 pm8 an8 cd8 ct8), sl8⟩) (c8 : PySem.W.codeIn K cd8 "_law_page" = true) (k8 : PySem.W.keepIn K (.ref f8) = true)
    (a9 : PySem.W.nsIn K mainGlobals "_law_pages" = some (some (.ref f9)))
    (l9 : K.lookup f9 = some ⟨oc9, od9, .func (PySem.W.fnOf "_law_pages" "_law_pages" (defArgs s_law_pages) (defBody s_law_pages) (defScope s_law_pages) .none kV9 dc9 pm9 an9 cd9 ct9), sl9⟩) (c9 : PySem.W.codeIn K cd9 "_law_pages" = true) (k9 : PySem.W.keepIn K (.ref f9) = true)
    (a10 : PySem.W.nsIn K mainGlobals "_law_chain" = some (some (.ref f10)))
    (l10 : K.lookup f10 = some ⟨oc10, od10, .func (PySem.W.fnOf "_law_chain" "_law_chain" (defArgs s_law_chain) (defBody s_law_chain) (defScope s_law_chain) .none kV10 dc10 pm10 an10 cd10 ct10), sl10⟩) (c10 : PySem.W.codeIn K cd10 "_law_chain" = true) (k10 : PySem.W.keepIn K (.ref f10) = true)
    (a11 : PySem.W.nsIn K mainGlobals "_law_has_stretch" = some (some (.ref f11)))
    (l11 : K.lookup f11 = some ⟨oc11, od11, .func (PySem.W.fnOf "_law_has_stretch" "_law_has_stretch" (defArgs s_law_has_stretch) (defBody s_law_has_stretch) (defScope s_law_has_stretch) .none kV11 dc11 pm11 an11 cd11 ct11), sl11⟩) (c11 : PySem.W.codeIn K cd11 "_law_has_stretch" = true) (k11 : PySem.W.keepIn K (.ref f11) = true)
    (a12 : PySem.W.nsIn K mainGlobals "_law_reads" = some (some (.ref f12)))
    (l12 : K.lookup f12 = some ⟨oc12, od12, .func (PySem.W.fnOf "_law_reads" "_law_reads" (defArgs s_law_reads) (defBody s_law_reads) (defScope s_law_reads) .none kV12 dc12 pm12 an12 cd12 ct12), sl12⟩) (c12 : PySem.W.codeIn K cd12 "_law_reads" = true) (k12 : PySem.W.keepIn K (.ref f12) = true)
    (a13 : PySem.W.nsIn K mainGlobals "_law_closed" = some (some (.ref f13)))
    (l13 : K.lookup f13 = some ⟨oc13, od13, .func (PySem.W.fnOf "_law_closed" "_law_closed" (defArgs s_law_closed) (defBody s_law_closed) (defScope s_law_closed) .none kV13 dc13 pm13 an13 cd13 ct13), sl13⟩) (c13 : PySem.W.codeIn K cd13 "_law_closed" = true) (k13 : PySem.W.keepIn K (.ref f13) = true)
    (a14 : PySem.W.nsIn K mainGlobals "_law_after" = some (some (.ref f14)))
    (l14 : K.lookup f14 = some ⟨oc14, od14, .func (PySem.W.fnOf "_law_after" "_law_after" (defArgs s_law_after) (defBody s_law_after) (defScope s_law_after) .none kV14 dc14 pm14 an14 cd14 ct14), sl14⟩) (c14 : PySem.W.codeIn K cd14 "_law_after" = true) (k14 : PySem.W.keepIn K (.ref f14) = true)
    (a15 : PySem.W.nsIn K mainGlobals "_law_wins" = some (some (.ref f15)))
    (l15 : K.lookup f15 = some ⟨oc15, od15, .func (PySem.W.fnOf "_law_wins" "_law_wins" (defArgs s_law_wins) (defBody s_law_wins) (defScope s_law_wins) .none kV15 dc15 pm15 an15 cd15 ct15), sl15⟩) (c15 : PySem.W.codeIn K cd15 "_law_wins" = true) (k15 : PySem.W.keepIn K (.ref f15) = true)
    (a16 : PySem.W.nsIn K mainGlobals "_law_wins_always" = some (some (.ref f16)))
    (l16 : K.lookup f16 = some ⟨oc16, od16, .func (PySem.W.fnOf "_law_wins_always" "_law_wins_always" (defArgs s_law_wins_always) (defBody s_law_wins_always) (defScope s_law_wins_always) .none kV16 dc16 pm16 an16 cd16 ct16), sl16⟩) (c16 : PySem.W.codeIn K cd16 "_law_wins_always" = true) (k16 : PySem.W.keepIn K (.ref f16) = true)
    (a17 : PySem.W.nsIn K mainGlobals "_law_fits" = some (some (.ref f17)))
    (l17 : K.lookup f17 = some ⟨oc17, od17, .func (PySem.W.fnOf "_law_fits" "_law_fits" (defArgs s_law_fits) (defBody s_law_fits) (defScope s_law_fits) .none kV17 dc17 pm17 an17 cd17 ct17), sl17⟩) (c17 : PySem.W.codeIn K cd17 "_law_fits" = true) (k17 : PySem.W.keepIn K (.ref f17) = true)
    (a18 : PySem.W.nsIn K mainGlobals "law" = some (some (.ref f18)))
    (l18 : K.lookup f18 = some ⟨oc18, od18, .func (PySem.W.fnOf "law" "law" (defArgs s_law) (defBody s_law) (defScope s_law) .none kV18 dc18 pm18 an18 cd18 ct18), sl18⟩) (c18 : PySem.W.codeIn K cd18 "law" = true) (k18 : PySem.W.keepIn K (.ref f18) = true)
    (z_abs : PySem.W.nsIn K mainGlobals "abs" = some none)
    (z_all : PySem.W.nsIn K mainGlobals "all" = some none)
    (z_any : PySem.W.nsIn K mainGlobals "any" = some none)
    (z_bool : PySem.W.nsIn K mainGlobals "bool" = some none)
    (z_enumerate : PySem.W.nsIn K mainGlobals "enumerate" = some none)
    (z_int : PySem.W.nsIn K mainGlobals "int" = some none)
    (z_isinstance : PySem.W.nsIn K mainGlobals "isinstance" = some none)
    (z_len : PySem.W.nsIn K mainGlobals "len" = some none)
    (z_list : PySem.W.nsIn K mainGlobals "list" = some none)
    (z_max : PySem.W.nsIn K mainGlobals "max" = some none)
    (z_min : PySem.W.nsIn K mainGlobals "min" = some none)
    (z_range : PySem.W.nsIn K mainGlobals "range" = some none)
    (z_reversed : PySem.W.nsIn K mainGlobals "reversed" = some none) :
    ∃ fd : FuncData, (∀ (s : Shared) (v : Value), BindsTo s fd ⟨[v], []⟩ [("script", v)]) ∧ ∀ base : Heap, K.In base → base.Ns mainGlobals mg → FnOk l.prog w K mg base CX0 6 fa fd ["script"] (spLaw K) := by
  have e := hfa.symm.trans (PySem.W.mg_of X G a18)
  cases e
  let T : Txt K mg := { f_height_above := f0, fd_height_above := _, F_height_above := fun_mk (st := s_height_above) l0 c0 k0, g_height_above := PySem.W.mg_of X G a0, b_height_above := (fun_mk (st := s_height_above) l0 c0 k0).binds (ps := ["count", "below", "copies"]) (fun _ _ _ _ _ _ us hl => match us, hl with | [_, _, _], _ => rfl), f_heights := f1, fd_heights := _, F_heights := fun_mk (st := s_heights) l1 c1 k1, g_heights := PySem.W.mg_of X G a1, b_heights := (fun_mk (st := s_heights) l1 c1 k1).binds (ps := ["blank", "copies"]) (fun _ _ _ _ _ _ us hl => match us, hl with | [_, _], _ => rfl), f_lowest_lost := f2, fd_lowest_lost := _, F_lowest_lost := fun_mk (st := s_lowest_lost) l2 c2 k2, g_lowest_lost := PySem.W.mg_of X G a2, b_lowest_lost := (fun_mk (st := s_lowest_lost) l2 c2 k2).binds (ps := ["blank", "copies"]) (fun _ _ _ _ _ _ us hl => match us, hl with | [_, _], _ => rfl), f_attack_row := f3, fd_attack_row := _, F_attack_row := fun_mk (st := s_attack_row) l3 c3 k3, g_attack_row := PySem.W.mg_of X G a3, b_attack_row := (fun_mk (st := s_attack_row) l3 c3 k3).binds (ps := ["blank", "copies"]) (fun _ _ _ _ _ _ us hl => match us, hl with | [_, _], _ => rfl), f_law_is_integer := f4, fd_law_is_integer := _, F_law_is_integer := fun_mk (st := s_law_is_integer) l4 c4 k4, g_law_is_integer := PySem.W.mg_of X G a4, b_law_is_integer := (fun_mk (st := s_law_is_integer) l4 c4 k4).binds (ps := ["actual"]) (fun _ _ _ _ _ _ us hl => match us, hl with | [_], _ => rfl), f_law_bag := f5, fd_law_bag := _, F_law_bag := fun_mk (st := s_law_bag) l5 c5 k5, g_law_bag := PySem.W.mg_of X G a5, b_law_bag := (fun_mk (st := s_law_bag) l5 c5 k5).binds (ps := ["script", "k"]) (fun _ _ _ _ _ _ us hl => match us, hl with | [_, _], _ => rfl), f_law_take := f6, fd_law_take := _, F_law_take := fun_mk (st := s_law_take) l6 c6 k6, g_law_take := PySem.W.mg_of X G a6, b_law_take := (fun_mk (st := s_law_take) l6 c6 k6).binds (ps := ["bag", "size"]) (fun _ _ _ _ _ _ us hl => match us, hl with | [_, _], _ => rfl), f_law_copies := f7, fd_law_copies := _, F_law_copies := fun_mk (st := s_law_copies) l7 c7 k7, g_law_copies := PySem.W.mg_of X G a7, b_law_copies := (fun_mk (st := s_law_copies) l7 c7 k7).binds (ps := ["bag"]) (fun _ _ _ _ _ _ us hl => match us, hl with | [_], _ => rfl), f_law_page := f8, fd_law_page := _, F_law_page := fun_mk (st := s_law_page) l8 c8 k8, g_law_page := PySem.W.mg_of X G a8, b_law_page := (fun_mk (st := s_law_page) l8 c8 k8).binds (ps := ["bag"]) (fun _ _ _ _ _ _ us hl => match us, hl with | [_], _ => rfl), f_law_pages := f9, fd_law_pages := _, F_law_pages := fun_mk (st := s_law_pages) l9 c9 k9, g_law_pages := PySem.W.mg_of X G a9, b_law_pages := (fun_mk (st := s_law_pages) l9 c9 k9).binds (ps := ["bag", "size"]) (fun _ _ _ _ _ _ us hl => match us, hl with | [_, _], _ => rfl), f_law_chain := f10, fd_law_chain := _, F_law_chain := fun_mk (st := s_law_chain) l10 c10 k10, g_law_chain := PySem.W.mg_of X G a10, b_law_chain := (fun_mk (st := s_law_chain) l10 c10 k10).binds (ps := ["bag", "copies"]) (fun _ _ _ _ _ _ us hl => match us, hl with | [_, _], _ => rfl), f_law_has_stretch := f11, fd_law_has_stretch := _, F_law_has_stretch := fun_mk (st := s_law_has_stretch) l11 c11 k11, g_law_has_stretch := PySem.W.mg_of X G a11, b_law_has_stretch := (fun_mk (st := s_law_has_stretch) l11 c11 k11).binds (ps := ["chain", "copies"]) (fun _ _ _ _ _ _ us hl => match us, hl with | [_, _], _ => rfl), f_law_reads := f12, fd_law_reads := _, F_law_reads := fun_mk (st := s_law_reads) l12 c12 k12, g_law_reads := PySem.W.mg_of X G a12, b_law_reads := (fun_mk (st := s_law_reads) l12 c12 k12).binds (ps := ["chain", "copies", "row"]) (fun _ _ _ _ _ _ us hl => match us, hl with | [_, _, _], _ => rfl), f_law_closed := f13, fd_law_closed := _, F_law_closed := fun_mk (st := s_law_closed) l13 c13 k13, g_law_closed := PySem.W.mg_of X G a13, b_law_closed := (fun_mk (st := s_law_closed) l13 c13 k13).binds (ps := ["chain", "page", "wanted"]) (fun _ _ _ _ _ _ us hl => match us, hl with | [_, _, _], _ => rfl), f_law_after := f14, fd_law_after := _, F_law_after := fun_mk (st := s_law_after) l14 c14 k14, g_law_after := PySem.W.mg_of X G a14, b_law_after := (fun_mk (st := s_law_after) l14 c14 k14).binds (ps := ["chain", "lines", "page", "copied"]) (fun _ _ _ _ _ _ us hl => match us, hl with | [_, _, _, _], _ => rfl), f_law_wins := f15, fd_law_wins := _, F_law_wins := fun_mk (st := s_law_wins) l15 c15 k15, g_law_wins := PySem.W.mg_of X G a15, b_law_wins := (fun_mk (st := s_law_wins) l15 c15 k15).binds (ps := ["bag", "chain", "lines", "copies", "row"]) (fun _ _ _ _ _ _ us hl => match us, hl with | [_, _, _, _, _], _ => rfl), f_law_wins_always := f16, fd_law_wins_always := _, F_law_wins_always := fun_mk (st := s_law_wins_always) l16 c16 k16, g_law_wins_always := PySem.W.mg_of X G a16, b_law_wins_always := (fun_mk (st := s_law_wins_always) l16 c16 k16).binds (ps := ["chain", "lines", "copies", "row"]) (fun _ _ _ _ _ _ us hl => match us, hl with | [_, _, _, _], _ => rfl), f_law_fits := f17, fd_law_fits := _, F_law_fits := fun_mk (st := s_law_fits) l17 c17 k17, g_law_fits := PySem.W.mg_of X G a17, b_law_fits := (fun_mk (st := s_law_fits) l17 c17 k17).binds (ps := ["bag", "chain", "lines", "copies"]) (fun _ _ _ _ _ _ us hl => match us, hl with | [_, _, _, _], _ => rfl), f_law := _, fd_law := _, F_law := fun_mk (st := s_law) l18 c18 k18, g_law := PySem.W.mg_of X G a18, b_law := (fun_mk (st := s_law) l18 c18 k18).binds (ps := ["script"]) (fun _ _ _ _ _ _ us hl => match us, hl with | [_], _ => rfl), z_abs := PySem.W.mg_none_of X G z_abs, z_all := PySem.W.mg_none_of X G z_all, z_any := PySem.W.mg_none_of X G z_any, z_bool := PySem.W.mg_none_of X G z_bool, z_enumerate := PySem.W.mg_none_of X G z_enumerate, z_int := PySem.W.mg_none_of X G z_int, z_isinstance := PySem.W.mg_none_of X G z_isinstance, z_len := PySem.W.mg_none_of X G z_len, z_list := PySem.W.mg_none_of X G z_list, z_max := PySem.W.mg_none_of X G z_max, z_min := PySem.W.mg_none_of X G z_min, z_range := PySem.W.mg_none_of X G z_range, z_reversed := PySem.W.mg_none_of X G z_reversed }
  exact ⟨T.fd_law, fun s v => .of_eq rfl, fun base _ _ => ok_law T⟩
end K27
open PySem PySem.W PyProof.Rows
set_option maxRecDepth 100000 in
set_option maxHeartbeats 0 in
theorem PySem.Challenge.cw_onecopy_k27_whole_attack_holds : PySem.Challenge.rw_onecopy_k27_whole_attack.Holds := by
  w_on; o_law; k_head; (case hw => w_witness2)
  k_fill
  refine L2.walk_of (l := PySem.Challenge.rw_onecopy_k27_whole_attack) (n := 63) (k := 6) (x := "script") (CX := fun _ => L2.CX0) (sp := fun w => K27.spLaw _) rfl (by decide) rfl ⟨rfl, by decide, by decide⟩ (fun w h Y => PySem.W.kIn_of Y) ?F (fun _ _ a ns hl _ hS => ⟨a, ns, rfl, hS, hl, fun _ => rfl⟩) (fun _ _ _ _ _ h => h)
  case F =>
    intro w mg fa h KX G hmg
    refine' K27.all_mk KX G hmg ?a0 ?l0 ?c0 ?k0 ?a1 ?l1 ?c1 ?k1 ?a2 ?l2 ?c2 ?k2 ?a3 ?l3 ?c3 ?k3 ?a4 ?l4 ?c4 ?k4 ?a5 ?l5 ?c5 ?k5 ?a6 ?l6 ?c6 ?k6 ?a7 ?l7 ?c7 ?k7 ?a8 ?l8 ?c8 ?k8 ?a9 ?l9 ?c9 ?k9 ?a10 ?l10 ?c10 ?k10 ?a11 ?l11 ?c11 ?k11 ?a12 ?l12 ?c12 ?k12 ?a13 ?l13 ?c13 ?k13 ?a14 ?l14 ?c14 ?k14 ?a15 ?l15 ?c15 ?k15 ?a16 ?l16 ?c16 ?k16 ?a17 ?l17 ?c17 ?k17 ?a18 ?l18 ?c18 ?k18 ?z_abs ?z_all ?z_any ?z_bool ?z_enumerate ?z_int ?z_isinstance ?z_len ?z_list ?z_max ?z_min ?z_range ?z_reversed
    (case a0 => k_is); (case l0 => k_is); (case c0 => k_is); (case k0 => k_is); (case a1 => k_is); (case l1 => k_is); (case c1 => k_is); (case k1 => k_is); (case a2 => k_is); (case l2 => k_is); (case c2 => k_is); (case k2 => k_is); (case a3 => k_is); (case l3 => k_is); (case c3 => k_is); (case k3 => k_is); (case a4 => k_is); (case l4 => k_is); (case c4 => k_is); (case k4 => k_is); (case a5 => k_is); (case l5 => k_is); (case c5 => k_is); (case k5 => k_is); (case a6 => k_is); (case l6 => k_is); (case c6 => k_is); (case k6 => k_is); (case a7 => k_is); (case l7 => k_is); (case c7 => k_is); (case k7 => k_is); (case a8 => k_is); (case l8 => k_is); (case c8 => k_is); (case k8 => k_is); (case a9 => k_is); (case l9 => k_is); (case c9 => k_is); (case k9 => k_is); (case a10 => k_is); (case l10 => k_is); (case c10 => k_is); (case k10 => k_is); (case a11 => k_is); (case l11 => k_is); (case c11 => k_is); (case k11 => k_is); (case a12 => k_is); (case l12 => k_is); (case c12 => k_is); (case k12 => k_is); (case a13 => k_is); (case l13 => k_is); (case c13 => k_is); (case k13 => k_is); (case a14 => k_is); (case l14 => k_is); (case c14 => k_is); (case k14 => k_is); (case a15 => k_is); (case l15 => k_is); (case c15 => k_is); (case k15 => k_is); (case a16 => k_is); (case l16 => k_is); (case c16 => k_is); (case k16 => k_is); (case a17 => k_is); (case l17 => k_is); (case c17 => k_is); (case k17 => k_is); (case a18 => k_is); (case l18 => k_is); (case c18 => k_is); (case k18 => k_is); (case z_abs => k_is); (case z_all => k_is); (case z_any => k_is); (case z_bool => k_is); (case z_enumerate => k_is); (case z_int => k_is); (case z_isinstance => k_is); (case z_len => k_is); (case z_list => k_is); (case z_max => k_is); (case z_min => k_is); (case z_range => k_is); (case z_reversed => k_is)