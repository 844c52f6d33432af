import PyProof.Rows.All
import Wide.All
import OpenK.AllK
import Wide.FinOn
import HandS.ForMost
import HandS.IsInst
import HandS.Style
import HandS.Sort
import PySem.Challenge.RW_onecopy_k30_chain_counts
set_option Elab.async false
set_option linter.all false
set_option maxRecDepth 100000
/-! A small separation logic over the abstract heap: a list of chunks that stand apart. -/
namespace Oc
open PySem L2

/-- what a part of the heap holds -/
abbrev Asr := Hp → Prop
def Subh (h H : Hp) : Prop := ∀ a o, h a = some o → H a = some o
def cutH (H h : Hp) : Hp := fun a => match h a with | some _ => none | none => H a
def one (a : Addr) (o : HO) : Hp := fun b => if b = a then some o else none
def pto (a : Addr) (o : HO) : Asr := fun h => h = one a o
def Sts : List Asr → Hp → Prop
  | [], _ => True
  | A :: L, H => ∃ h, Subh h H ∧ A h ∧ Sts L (cutH H h)

theorem Subh.refl (h : Hp) : Subh h h := fun _ _ e => e
theorem Subh.trans {h k l : Hp} (a : Subh h k) (b : Subh k l) : Subh h l := fun x o e => b x o (a x o e)
theorem cutH_some {H h : Hp} {a : Addr} {o : HO} : cutH H h a = some o ↔ h a = none ∧ H a = some o := by
  unfold cutH
  cases h a with
  | none => exact ⟨fun e => ⟨rfl, e⟩, fun e => e.2⟩
  | some u => exact ⟨(fun e => nomatch e), (fun e => nomatch e.1)⟩
theorem cutH_sub (H h : Hp) : Subh (cutH H h) H := fun _ _ e => (cutH_some.mp e).2
theorem cutH_mono {H K : Hp} (h : Hp) (s : Subh H K) : Subh (cutH H h) (cutH K h) := fun _ _ e =>
  have q := cutH_some.mp e
  cutH_some.mpr ⟨q.1, s _ _ q.2⟩
theorem Sts.mono : ∀ {L : List Asr} {H K : Hp}, Sts L H → Subh H K → Sts L K
  | [], _, _, _, _ => trivial
  | _ :: _, _, _, ⟨h, s, a, t⟩, q => ⟨h, s.trans q, a, t.mono (cutH_mono h q)⟩
theorem cut_swap {H h k : Hp} (s : Subh k (cutH H h)) : Subh h (cutH H k) ↔ Subh h H := by
  constructor
  · exact fun q => q.trans (cutH_sub _ _)
  · intro q a o e
    refine cutH_some.mpr ⟨?_, q _ _ e⟩
    cases r : k a with
    | none => rfl
    | some u =>
      have z := (cutH_some.mp (s _ _ r)).1
      rw [e] at z
      cases z
theorem cut_comm (H h k : Hp) : cutH (cutH H h) k = cutH (cutH H k) h := by
  funext a
  unfold cutH
  cases h a <;> cases k a <;> rfl
theorem Sts.swap {A B : Asr} {L : List Asr} {H : Hp} (S : Sts (A :: B :: L) H) : Sts (B :: A :: L) H := by
  obtain ⟨h, s, a, k, t, b, S⟩ := S
  exact ⟨k, t.trans (cutH_sub _ _), b, h, (cut_swap t).mpr s, a, by rw [cut_comm]; exact S⟩
theorem Sts.under {A : Asr} {L M : List Asr} {H : Hp} (f : ∀ K, Sts L K → Sts M K) (S : Sts (A :: L) H) : Sts (A :: M) H := by
  obtain ⟨h, s, a, S⟩ := S
  exact ⟨h, s, a, f _ S⟩
theorem Sts.perm {L M : List Asr} (p : L.Perm M) : ∀ {H : Hp}, Sts L H → Sts M H := by
  induction p with
  | nil => exact fun S => S
  | cons x _ ih => exact fun S => S.under fun _ => ih
  | swap x y l => exact fun S => S.swap
  | trans _ _ ih1 ih2 => exact fun S => ih2 (ih1 S)
theorem Sts.tail {A : Asr} {L : List Asr} {H : Hp} (S : Sts (A :: L) H) : Sts L H := by
  obtain ⟨h, s, a, S⟩ := S
  exact S.mono (cutH_sub _ _)
theorem Sts.imp {A B : Asr} {L : List Asr} {H : Hp} (S : Sts (A :: L) H) (f : ∀ h, A h → B h) : Sts (B :: L) H := by
  obtain ⟨h, s, a, S⟩ := S
  exact ⟨h, s, f h a, S⟩
theorem Sts.app_right : ∀ {L M : List Asr} {H : Hp}, Sts (L ++ M) H → Sts M H
  | [], _, _, S => S
  | _ :: L, _, _, S => Sts.app_right (L := L) S.tail
theorem Sts.app_left : ∀ {L M : List Asr} {H : Hp}, Sts (L ++ M) H → Sts L H
  | [], _, _, _ => trivial
  | _ :: L, _, _, S => S.under fun _ T => Sts.app_left T

/-- several chunks as one -/
def star (L : List Asr) : Asr := fun h => Sts L h
theorem Sts.join : ∀ {L M : List Asr} {h H : Hp}, Sts L h → Subh h H → Sts M (cutH H h) → Sts (L ++ M) H
  | [], _, _, _, _, _, T => T.mono (cutH_sub _ _)
  | _ :: L, M, h, H, ⟨k, s, a, S⟩, q, T => by
    refine ⟨k, s.trans q, a, Sts.join (h := cutH h k) S (cutH_mono k q) ?_⟩
    have e : cutH (cutH H k) (cutH h k) = cutH H h := by
      funext x
      unfold cutH
      cases r : k x with
      | none => cases h x <;> rfl
      | some u => rw [s _ _ r]
    rw [e]
    exact T
theorem Sts.open_star {L M : List Asr} {H : Hp} (S : Sts (star L :: M) H) : Sts (L ++ M) H := by
  obtain ⟨h, s, a, S⟩ := S
  exact Sts.join a s S
theorem cut_cut_sub (H h : Hp) : ∀ k, Subh k (cutH H h) → cutH H h = cutH H h := fun _ _ => rfl
theorem Sts.close_star : ∀ {L M : List Asr} {H : Hp}, Sts (L ++ M) H → Sts (star L :: M) H
  | [], M, H, S => ⟨fun _ => none, (fun _ _ e => nomatch e), trivial, S.mono fun a o e => cutH_some.mpr ⟨rfl, e⟩⟩
  | A :: L, M, H, ⟨k, s, a, S⟩ => by
    obtain ⟨h, t, b, S⟩ := Sts.close_star (L := L) S
    let g : Hp := fun x => match k x with | some o => some o | none => h x
    have e1 : cutH H g = cutH (cutH H k) h := by
      funext x
      show (match (match k x with | some o => some o | none => h x) with | some _ => none | none => H x) = (match h x with | some _ => none | none => (match k x with | some _ => none | none => H x))
      cases k x <;> cases h x <;> rfl
    refine ⟨g, fun x o e => ?_, ⟨k, fun x o e => ?_, a, ?_⟩, by rw [e1]; exact S⟩
    · have e' : (match k x with | some o => some o | none => h x) = some o := e
      cases r : k x with
      | none =>
        rw [r] at e'
        exact cutH_sub _ _ _ _ (t _ _ e')
      | some u =>
        rw [r] at e'
        rw [← e']
        exact s _ _ r
    · show (match k x with | some o => some o | none => h x) = some o
      rw [e]
    · have e2 : cutH g k = h := by
        funext x
        show (match k x with | some _ => none | none => (match k x with | some o => some o | none => h x)) = h x
        cases r : k x with
        | none => rfl
        | some u =>
          cases q : h x with
          | none => rfl
          | some v =>
            have z := (cutH_some.mp (t _ _ q)).1
            rw [r] at z
            cases z
      rw [e2]
      exact b
theorem Sts.ex {α : Type} {f : α → Asr} {L : List Asr} {H : Hp} (S : Sts ((fun h => ∃ x, f x h) :: L) H) : ∃ x, Sts (f x :: L) H := by
  obtain ⟨h, s, ⟨x, a⟩, S⟩ := S
  exact ⟨x, h, s, a, S⟩
theorem Sts.pur {P : Prop} {A : Asr} {L : List Asr} {H : Hp} (S : Sts ((fun h => P ∧ A h) :: L) H) : P ∧ Sts (A :: L) H := by
  obtain ⟨h, s, ⟨p, a⟩, S⟩ := S
  exact ⟨p, h, s, a, S⟩

/-! ### one object -/
theorem one_self (a : Addr) (o : HO) : one a o a = some o := by
  unfold one
  rw [if_pos rfl]
theorem one_iff {a b : Addr} {o u : HO} : one a o b = some u ↔ b = a ∧ o = u := by
  unfold one
  by_cases e : b = a
  · rw [if_pos e]
    exact ⟨fun q => ⟨e, Option.some.inj q⟩, fun q => by rw [q.2]⟩
  · rw [if_neg e]
    exact ⟨(fun q => nomatch q), (fun q => absurd q.1 e)⟩
theorem Sts.hd {a : Addr} {o : HO} {L : List Asr} {H : Hp} (S : Sts (pto a o :: L) H) : H a = some o := by
  obtain ⟨h, s, rfl, _⟩ := S
  exact s _ _ (one_self a o)
theorem Sts.new {L : List Asr} {H : Hp} (S : Sts L H) {p : Addr} (o : HO) (np : H p = none) : Sts (pto p o :: L) (upd H p o) := by
  refine ⟨one p o, fun a u e => ?_, rfl, S.mono fun a u e => cutH_some.mpr ⟨?_, ?_⟩⟩
  · obtain ⟨rfl, rfl⟩ := one_iff.mp e
    exact upd_same
  · have ne : a ≠ p := ne_of_none e np
    unfold one
    rw [if_neg ne]
  · rw [upd_ne (ne_of_none e np)]
    exact e
theorem Sts.put {a : Addr} {o : HO} {L : List Asr} {H : Hp} (S : Sts (pto a o :: L) H) (u : HO) : Sts (pto a u :: L) (upd H a u) := by
  obtain ⟨h, s, rfl, S⟩ := S
  refine ⟨one a u, fun b v e => ?_, rfl, S.mono fun b v e => ?_⟩
  · obtain ⟨rfl, rfl⟩ := one_iff.mp e
    exact upd_same
  · obtain ⟨e1, e2⟩ := cutH_some.mp e
    have ne : b ≠ a := fun z => by
      rw [z, one_self] at e1
      cases e1
    refine cutH_some.mpr ⟨?_, ?_⟩
    · unfold one
      rw [if_neg ne]
    · rw [upd_ne ne]
      exact e2
theorem Sts.apart {a b : Addr} {o u : HO} {L : List Asr} {H : Hp} (S : Sts (pto a o :: pto b u :: L) H) : a ≠ b := by
  obtain ⟨h, s, rfl, k, t, rfl, S⟩ := S
  intro e
  have z := (cutH_some.mp (t _ _ (one_self b u))).1
  rw [← e, one_self] at z
  cases z
theorem Sts.none_ne {a p : Addr} {o : HO} {L : List Asr} {H : Hp} (S : Sts (pto a o :: L) H) (np : H p = none) : a ≠ p := ne_of_none S.hd np

/-! ### a chunk to the front -/
section
variable {A0 A1 A2 A3 A4 A5 A6 A7 A8 A9 A10 A11 A12 A13 A14 A15 A16 A17 A18 A19 A20 A21 A22 A23 A24 : Asr} {L : List Asr} {H : Hp}
theorem Sts.to0 (S : Sts (A0 :: L) H) : Sts (A0 :: L) H := S
theorem Sts.to1 (S : Sts (A0 :: A1 :: L) H) : Sts (A1 :: A0 :: L) H := S.swap
theorem Sts.to2 (S : Sts (A0 :: A1 :: A2 :: L) H) : Sts (A2 :: A0 :: A1 :: L) H := (S.under fun _ T => T.to1).swap
theorem Sts.to3 (S : Sts (A0 :: A1 :: A2 :: A3 :: L) H) : Sts (A3 :: A0 :: A1 :: A2 :: L) H := (S.under fun _ T => T.to2).swap
theorem Sts.to4 (S : Sts (A0 :: A1 :: A2 :: A3 :: A4 :: L) H) : Sts (A4 :: A0 :: A1 :: A2 :: A3 :: L) H := (S.under fun _ T => T.to3).swap
theorem Sts.to5 (S : Sts (A0 :: A1 :: A2 :: A3 :: A4 :: A5 :: L) H) : Sts (A5 :: A0 :: A1 :: A2 :: A3 :: A4 :: L) H := (S.under fun _ T => T.to4).swap
theorem Sts.to6 (S : Sts (A0 :: A1 :: A2 :: A3 :: A4 :: A5 :: A6 :: L) H) : Sts (A6 :: A0 :: A1 :: A2 :: A3 :: A4 :: A5 :: L) H := (S.under fun _ T => T.to5).swap
theorem Sts.to7 (S : Sts (A0 :: A1 :: A2 :: A3 :: A4 :: A5 :: A6 :: A7 :: L) H) : Sts (A7 :: A0 :: A1 :: A2 :: A3 :: A4 :: A5 :: A6 :: L) H := (S.under fun _ T => T.to6).swap
theorem Sts.to8 (S : Sts (A0 :: A1 :: A2 :: A3 :: A4 :: A5 :: A6 :: A7 :: A8 :: L) H) : Sts (A8 :: A0 :: A1 :: A2 :: A3 :: A4 :: A5 :: A6 :: A7 :: L) H := (S.under fun _ T => T.to7).swap
theorem Sts.to9 (S : Sts (A0 :: A1 :: A2 :: A3 :: A4 :: A5 :: A6 :: A7 :: A8 :: A9 :: L) H) : Sts (A9 :: A0 :: A1 :: A2 :: A3 :: A4 :: A5 :: A6 :: A7 :: A8 :: L) H := (S.under fun _ T => T.to8).swap
theorem Sts.to10 (S : Sts (A0 :: A1 :: A2 :: A3 :: A4 :: A5 :: A6 :: A7 :: A8 :: A9 :: A10 :: L) H) : Sts (A10 :: A0 :: A1 :: A2 :: A3 :: A4 :: A5 :: A6 :: A7 :: A8 :: A9 :: L) H := (S.under fun _ T => T.to9).swap
theorem Sts.to11 (S : Sts (A0 :: A1 :: A2 :: A3 :: A4 :: A5 :: A6 :: A7 :: A8 :: A9 :: A10 :: A11 :: L) H) : Sts (A11 :: A0 :: A1 :: A2 :: A3 :: A4 :: A5 :: A6 :: A7 :: A8 :: A9 :: A10 :: L) H := (S.under fun _ T => T.to10).swap
theorem Sts.to12 (S : Sts (A0 :: A1 :: A2 :: A3 :: A4 :: A5 :: A6 :: A7 :: A8 :: A9 :: A10 :: A11 :: A12 :: L) H) : Sts (A12 :: A0 :: A1 :: A2 :: A3 :: A4 :: A5 :: A6 :: A7 :: A8 :: A9 :: A10 :: A11 :: L) H := (S.under fun _ T => T.to11).swap
theorem Sts.to13 (S : Sts (A0 :: A1 :: A2 :: A3 :: A4 :: A5 :: A6 :: A7 :: A8 :: A9 :: A10 :: A11 :: A12 :: A13 :: L) H) : Sts (A13 :: A0 :: A1 :: A2 :: A3 :: A4 :: A5 :: A6 :: A7 :: A8 :: A9 :: A10 :: A11 :: A12 :: L) H := (S.under fun _ T => T.to12).swap
theorem Sts.to14 (S : Sts (A0 :: A1 :: A2 :: A3 :: A4 :: A5 :: A6 :: A7 :: A8 :: A9 :: A10 :: A11 :: A12 :: A13 :: A14 :: L) H) : Sts (A14 :: A0 :: A1 :: A2 :: A3 :: A4 :: A5 :: A6 :: A7 :: A8 :: A9 :: A10 :: A11 :: A12 :: A13 :: L) H := (S.under fun _ T => T.to13).swap
theorem Sts.to15 (S : Sts (A0 :: A1 :: A2 :: A3 :: A4 :: A5 :: A6 :: A7 :: A8 :: A9 :: A10 :: A11 :: A12 :: A13 :: A14 :: A15 :: L) H) : Sts (A15 :: A0 :: A1 :: A2 :: A3 :: A4 :: A5 :: A6 :: A7 :: A8 :: A9 :: A10 :: A11 :: A12 :: A13 :: A14 :: L) H := (S.under fun _ T => T.to14).swap
theorem Sts.to16 (S : Sts (A0 :: A1 :: A2 :: A3 :: A4 :: A5 :: A6 :: A7 :: A8 :: A9 :: A10 :: A11 :: A12 :: A13 :: A14 :: A15 :: A16 :: L) H) : Sts (A16 :: A0 :: A1 :: A2 :: A3 :: A4 :: A5 :: A6 :: A7 :: A8 :: A9 :: A10 :: A11 :: A12 :: A13 :: A14 :: A15 :: L) H := (S.under fun _ T => T.to15).swap
theorem Sts.to17 (S : Sts (A0 :: A1 :: A2 :: A3 :: A4 :: A5 :: A6 :: A7 :: A8 :: A9 :: A10 :: A11 :: A12 :: A13 :: A14 :: A15 :: A16 :: A17 :: L) H) : Sts (A17 :: A0 :: A1 :: A2 :: A3 :: A4 :: A5 :: A6 :: A7 :: A8 :: A9 :: A10 :: A11 :: A12 :: A13 :: A14 :: A15 :: A16 :: L) H := (S.under fun _ T => T.to16).swap
theorem Sts.to18 (S : Sts (A0 :: A1 :: A2 :: A3 :: A4 :: A5 :: A6 :: A7 :: A8 :: A9 :: A10 :: A11 :: A12 :: A13 :: A14 :: A15 :: A16 :: A17 :: A18 :: L) H) : Sts (A18 :: A0 :: A1 :: A2 :: A3 :: A4 :: A5 :: A6 :: A7 :: A8 :: A9 :: A10 :: A11 :: A12 :: A13 :: A14 :: A15 :: A16 :: A17 :: L) H := (S.under fun _ T => T.to17).swap
theorem Sts.to19 (S : Sts (A0 :: A1 :: A2 :: A3 :: A4 :: A5 :: A6 :: A7 :: A8 :: A9 :: A10 :: A11 :: A12 :: A13 :: A14 :: A15 :: A16 :: A17 :: A18 :: A19 :: L) H) : Sts (A19 :: A0 :: A1 :: A2 :: A3 :: A4 :: A5 :: A6 :: A7 :: A8 :: A9 :: A10 :: A11 :: A12 :: A13 :: A14 :: A15 :: A16 :: A17 :: A18 :: L) H := (S.under fun _ T => T.to18).swap
theorem Sts.to20 (S : Sts (A0 :: A1 :: A2 :: A3 :: A4 :: A5 :: A6 :: A7 :: A8 :: A9 :: A10 :: A11 :: A12 :: A13 :: A14 :: A15 :: A16 :: A17 :: A18 :: A19 :: A20 :: L) H) : Sts (A20 :: A0 :: A1 :: A2 :: A3 :: A4 :: A5 :: A6 :: A7 :: A8 :: A9 :: A10 :: A11 :: A12 :: A13 :: A14 :: A15 :: A16 :: A17 :: A18 :: A19 :: L) H := (S.under fun _ T => T.to19).swap
theorem Sts.to21 (S : Sts (A0 :: A1 :: A2 :: A3 :: A4 :: A5 :: A6 :: A7 :: A8 :: A9 :: A10 :: A11 :: A12 :: A13 :: A14 :: A15 :: A16 :: A17 :: A18 :: A19 :: A20 :: A21 :: L) H) : Sts (A21 :: A0 :: A1 :: A2 :: A3 :: A4 :: A5 :: A6 :: A7 :: A8 :: A9 :: A10 :: A11 :: A12 :: A13 :: A14 :: A15 :: A16 :: A17 :: A18 :: A19 :: A20 :: L) H := (S.under fun _ T => T.to20).swap
theorem Sts.to22 (S : Sts (A0 :: A1 :: A2 :: A3 :: A4 :: A5 :: A6 :: A7 :: A8 :: A9 :: A10 :: A11 :: A12 :: A13 :: A14 :: A15 :: A16 :: A17 :: A18 :: A19 :: A20 :: A21 :: A22 :: L) H) : Sts (A22 :: A0 :: A1 :: A2 :: A3 :: A4 :: A5 :: A6 :: A7 :: A8 :: A9 :: A10 :: A11 :: A12 :: A13 :: A14 :: A15 :: A16 :: A17 :: A18 :: A19 :: A20 :: A21 :: L) H := (S.under fun _ T => T.to21).swap
theorem Sts.to23 (S : Sts (A0 :: A1 :: A2 :: A3 :: A4 :: A5 :: A6 :: A7 :: A8 :: A9 :: A10 :: A11 :: A12 :: A13 :: A14 :: A15 :: A16 :: A17 :: A18 :: A19 :: A20 :: A21 :: A22 :: A23 :: L) H) : Sts (A23 :: A0 :: A1 :: A2 :: A3 :: A4 :: A5 :: A6 :: A7 :: A8 :: A9 :: A10 :: A11 :: A12 :: A13 :: A14 :: A15 :: A16 :: A17 :: A18 :: A19 :: A20 :: A21 :: A22 :: L) H := (S.under fun _ T => T.to22).swap
theorem Sts.to24 (S : Sts (A0 :: A1 :: A2 :: A3 :: A4 :: A5 :: A6 :: A7 :: A8 :: A9 :: A10 :: A11 :: A12 :: A13 :: A14 :: A15 :: A16 :: A17 :: A18 :: A19 :: A20 :: A21 :: A22 :: A23 :: A24 :: L) H) : Sts (A24 :: A0 :: A1 :: A2 :: A3 :: A4 :: A5 :: A6 :: A7 :: A8 :: A9 :: A10 :: A11 :: A12 :: A13 :: A14 :: A15 :: A16 :: A17 :: A18 :: A19 :: A20 :: A21 :: A22 :: A23 :: L) H := (S.under fun _ T => T.to23).swap
end

/-! ### the script -/
def sqc (K : PySem.W.Frag) (a : Addr) (xs : List V) : Asr := fun h => SqL K h a xs
theorem sqc_sub {K : PySem.W.Frag} {a : Addr} {xs : List V} {h H : Hp} (x : SqL K h a xs) (s : Subh h H) : SqL K H a xs := by
  rcases x with (x | ⟨o, x⟩) | x
  · exact .inl (.inl (s _ _ x))
  · exact .inl (.inr ⟨o, s _ _ x⟩)
  · exact .inr x
theorem Sts.sq {K : PySem.W.Frag} {a : Addr} {xs : List V} {L : List Asr} {H : Hp} (S : Sts (sqc K a xs :: L) H) : SqL K H a xs := by
  obtain ⟨h, s, x, S⟩ := S
  exact sqc_sub x s
theorem sts_script {K : PySem.W.Frag} {a : Addr} {xs : List V} {H : Hp} (x : SqL K H a xs) : Sts [sqc K a xs] H := ⟨H, Subh.refl H, x, trivial⟩
end Oc
/-! ### rules by values, in the forms that the proofs use -/
namespace Oc
open PySem PySem.Spec PyProof.Rows L2

theorem pr {p : Prop} (h : p) : p := h
/-- the i-th of a list of ints, 0 outside -/
def gI (ns : List Int) (i : Int) : Int := ns.getD i.toNat 0
theorem atI_of {xs : List V} {i : Int} {v : V} (h0 : 0 ≤ i) (h : xs[i.toNat]? = some v) : atI xs i = some v := by
  have e : i = ((i.toNat : Nat) : Int) := by omega
  rw [e]
  exact atI_nat h
theorem atI_ints {ns : List Int} {i : Int} (h0 : 0 ≤ i) (h1 : i < ns.length) : atI (ns.map V.int) i = some (.int (gI ns i)) := by
  refine atI_of h0 ?_
  have hl : i.toNat < ns.length := by omega
  rw [List.getElem?_map, List.getElem?_eq_getElem hl]
  unfold gI
  rw [List.getD_eq_getElem?_getD, List.getElem?_eq_getElem hl]
  rfl
theorem gI_mem {ns : List Int} {i : Int} (h0 : 0 ≤ i) (h1 : i < ns.length) : gI ns i ∈ ns := by
  have hl : i.toNat < ns.length := by omega
  unfold gI
  rw [List.getD_eq_getElem?_getD, List.getElem?_eq_getElem hl]
  exact List.getElem_mem hl
theorem ixN_of {n : Nat} {i : Int} (h0 : 0 ≤ i) (h1 : i < n) : ixN n i = some i.toNat := by
  unfold ixN
  rw [if_pos h0, if_pos h1]
/-- a slice of any list -/
def cutL {α : Type} (xs : List α) (lo hi : Option Int) : List α := (xs.drop (HT.sIx xs.length 0 lo)).take (HT.sIx xs.length xs.length hi - HT.sIx xs.length 0 lo)
theorem cutV_map {α : Type} (f : α → V) (xs : List α) (lo hi : Option Int) : cutV (xs.map f) lo hi = (cutL xs lo hi).map f := by
  unfold cutV cutL
  rw [List.length_map, List.map_take, List.map_drop]
theorem sIx_int (n d : Nat) {i : Int} (h : 0 ≤ i) : HT.sIx n d (some i) = min i.toNat n := by
  have e : i = ((i.toNat : Nat) : Int) := by omega
  rw [e, HT.sIx_nat, Int.toNat_natCast]
theorem cutL_take {α : Type} (xs : List α) {i : Int} (h : 0 ≤ i) : cutL xs none (some i) = xs.take i.toNat := by
  unfold cutL
  rw [HT.sIx_none, sIx_int _ _ h, List.drop_zero, Nat.sub_zero]
  by_cases q : i.toNat ≤ xs.length
  · rw [Nat.min_eq_left q]
  · rw [Nat.min_eq_right (by omega), List.take_length, List.take_of_length_le (by omega)]
theorem cutL_drop {α : Type} (xs : List α) {i : Int} (h : 0 ≤ i) : cutL xs (some i) none = xs.drop i.toNat := by
  unfold cutL
  rw [HT.sIx_none, sIx_int _ _ h]
  by_cases q : i.toNat ≤ xs.length
  · rw [Nat.min_eq_left q, List.take_of_length_le (by rw [List.length_drop]; exact Nat.le_refl _)]
  · rw [Nat.min_eq_right (by omega), List.drop_length, List.drop_of_length_le (by omega), List.take_nil]
theorem cutL_mid {α : Type} (xs : List α) {i j : Int} (h : 0 ≤ i) (hj : 0 ≤ j) : cutL xs (some i) (some j) = (xs.drop i.toNat).take (j.toNat - i.toNat) := by
  unfold cutL
  rw [sIx_int _ _ h, sIx_int _ _ hj]
  by_cases q : i.toNat ≤ xs.length
  · rw [Nat.min_eq_left q]
    by_cases r : j.toNat ≤ xs.length
    · rw [Nat.min_eq_left r]
    · rw [Nat.min_eq_right (show xs.length ≤ j.toNat by omega), List.take_of_length_le (by rw [List.length_drop]; exact Nat.le_refl _), List.take_of_length_le (by rw [List.length_drop]; omega)]
  · rw [Nat.min_eq_right (show xs.length ≤ i.toNat by omega), List.drop_length, List.drop_of_length_le (show xs.length ≤ i.toNat by omega), List.take_nil, List.take_nil]
theorem cutL_all {α : Type} (xs : List α) : cutL xs none none = xs := by
  unfold cutL
  rw [HT.sIx_none, HT.sIx_none, List.drop_zero, Nat.sub_zero, List.take_length]
theorem dci (a b : Int) : decide (V.int a = V.int b) = decide (a = b) := by
  by_cases h : a = b
  · rw [h, decide_eq_true rfl, decide_eq_true rfl]
  · rw [decide_eq_false h, decide_eq_false fun e => h (V.int.inj e)]

section
variable {X : Cx}
theorem oc_int_i : CallR X (.type "int") (fun xs H Q => ∃ i, xs = [.int i] ∧ Q (.int i) H) := fun pins s σ H xs us Q I r h => call_int1 pins s σ H xs us Q I r (.inl h)
theorem oc_int_b : CallR X (.type "int") (fun xs H Q => ∃ k, xs = [.bl k] ∧ Q (.int (if k then 1 else 0)) H) := fun pins s σ H xs us Q I r h => call_int1 pins s σ H xs us Q I r (.inr h)
/-- a written power -/
theorem oc_powc (i j r : Int) (h : CPow i j) (e : i ^ j.toNat = r) : OpR X (binaryOp .Pow) (fun x y H Q => x = .int i ∧ y = .int j ∧ Q (.int r) H) := fun pins s σ H x y v u Q I rx ry ⟨e1, e2, q⟩ =>
  op_pow pins s σ H x y v u Q I rx ry ⟨i, j, e1, e2, h, by show Q (.int (i ^ j.toNat)) H; rw [e]; exact q⟩
theorem oc_min2 (hc : X.calm = true) : CallR X (.builtin "min") (fun xs H Q => ∃ i j, xs = [.int i, .int j] ∧ Q (.int (min i j)) H) := fun pins s σ H xs us Q I r ⟨i, j, e, q⟩ => call_min2 hc pins s σ H xs us Q I r ⟨i, j, e, by
  have h : (if j < i then j else i) = min i j := by split <;> omega
  rw [h]
  exact q⟩
theorem oc_max2 (hc : X.calm = true) : CallR X (.builtin "max") (fun xs H Q => ∃ i j, xs = [.int i, .int j] ∧ Q (.int (max i j)) H) := fun pins s σ H xs us Q I r ⟨i, j, e, q⟩ => call_max2 hc pins s σ H xs us Q I r ⟨i, j, e, by
  have h : (if j > i then j else i) = max i j := by split <;> omega
  rw [h]
  exact q⟩
theorem oc_abs : CallR X (.builtin "abs") (fun xs H Q => ∃ i : Int, xs = [.int i] ∧ Q (.int (i.natAbs : Nat)) H) := fun pins s σ H xs us Q I r ⟨i, e, q⟩ => call_abs pins s σ H xs us Q I r ⟨i, e, by
  have h : (if i < 0 then -i else i) = ((i.natAbs : Nat) : Int) := by split <;> omega
  rw [h]
  exact q⟩
section
variable {K : PySem.W.Frag} (hK : X.K = K)
include hK
theorem oc_len : CallR X (.builtin "len") (fun xs H Q => ∃ p ys, xs = [.ref p] ∧ SqL K H p ys ∧ Q (.int ys.length) H) := fun pins s σ H xs us Q I r ⟨p, ys, e, h, q⟩ => call_len_seq pins s σ H xs us Q I r ⟨p, ys, e, .inl (hK ▸ h), q⟩
theorem oc_lenT : CallR X (.builtin "len") (fun xs H Q => ∃ p ys, xs = [.ref p] ∧ SqT K H p ys ∧ Q (.int ys.length) H) := fun pins s σ H xs us Q I r ⟨p, ys, e, h, q⟩ => call_len_seq pins s σ H xs us Q I r ⟨p, ys, e, .inr (hK ▸ h), q⟩
theorem oc_lenI : CallR X (.builtin "len") (fun xs H Q => ∃ p, ∃ ns : List Int, xs = [.ref p] ∧ SqL K H p (ns.map V.int) ∧ Q (.int ns.length) H) := fun pins s σ H xs us Q I r ⟨p, ns, e, h, q⟩ => call_len_seq pins s σ H xs us Q I r ⟨p, _, e, .inl (hK ▸ h), by rw [List.length_map]; exact q⟩
theorem oc_list : CallR X (.type "list") (fun xs H Q => ∃ p ys, xs = [.ref p] ∧ SqL K H p ys ∧ ∀ l, H l = none → Q (.ref l) (upd H l (.lst ys))) := fun pins s σ H xs us Q I r ⟨p, ys, e, h, q⟩ => call_list_of pins s σ H xs us Q I r ⟨p, ys, e, .inl (hK ▸ h), q⟩
theorem oc_listT : CallR X (.type "list") (fun xs H Q => ∃ p ys, xs = [.ref p] ∧ SqT K H p ys ∧ ∀ l, H l = none → Q (.ref l) (upd H l (.lst ys))) := fun pins s σ H xs us Q I r ⟨p, ys, e, h, q⟩ => call_list_of pins s σ H xs us Q I r ⟨p, ys, e, .inr (hK ▸ h), q⟩
theorem oc_tuple : CallR X (.type "tuple") (fun xs H Q => ∃ p ys, xs = [.ref p] ∧ SqL K H p ys ∧ ∀ l, H l = none → Q (.ref l) (upd H l (.tup ys))) := fun pins s σ H xs us Q I r ⟨p, ys, e, h, q⟩ => call_tuple_of pins s σ H xs us Q I r ⟨p, ys, e, .inl ⟨hK ▸ h, q⟩⟩
theorem oc_sum (hc : X.calm = true) : CallR X (.builtin "sum") (rSum K) := hK ▸ cr_sum hc
theorem oc_anyB (hc : X.calm = true) : CallR X (.builtin "any") (rAny K) := hK ▸ cr_any hc
theorem oc_allB (hc : X.calm = true) : CallR X (.builtin "all") (rAll K) := hK ▸ cr_all hc
/-- xs[i], any list -/
theorem oc_ix : IxR X (fun x y H Q => ∃ p xs i v, x = .ref p ∧ y = .int i ∧ SqL K H p xs ∧ atI xs i = some v ∧ Q v H) := hK ▸ ix_list
theorem oc_ixT : IxR X (fun x y H Q => ∃ p xs i v, x = .ref p ∧ y = .int i ∧ SqT K H p xs ∧ atI xs i = some v ∧ Q v H) := hK ▸ ix_tup
/-- xs[i], a list of ints -/
theorem oc_ixI : IxR X (fun x y H Q => ∃ p, ∃ (ns : List Int) (i : Int), x = .ref p ∧ y = .int i ∧ SqL K H p (ns.map V.int) ∧ (0 ≤ i ∧ i < ns.length) ∧ Q (.int (gI ns i)) H) := fun va sl pins s σ H x y v u Q I rx ry ⟨p, ns, i, e1, e2, h, b, q⟩ hs =>
  ix_list va sl pins s σ H x y v u Q I rx ry ⟨p, _, i, _, e1, e2, hK ▸ h, atI_ints b.1 b.2, q⟩ hs
/-- xs[i:j], a list of ints; any list -/
theorem oc_slI : SlR X (fun x lo hi H Q => ∃ a, ∃ ns : List Int, x = .ref a ∧ SqL K H a (ns.map V.int) ∧ ∀ p, H p = none → Q (.ref p) (upd H p (.lst ((cutL ns lo hi).map V.int)))) := by
  intro pins s σ H x v vl vu lo hi sl Q I rx hs pl pu ⟨a, ns, e, h, q⟩
  exact sl_list pins s σ H x v vl vu lo hi sl Q I rx hs pl pu ⟨a, _, e, hK ▸ h, fun p np => by rw [cutV_map]; exact q p np⟩
theorem oc_sl : SlR X (fun x lo hi H Q => ∃ a xs, x = .ref a ∧ SqL K H a xs ∧ ∀ p, H p = none → Q (.ref p) (upd H p (.lst (cutV xs lo hi)))) := hK ▸ sl_list
end
theorem dp_ints {K : PySem.W.Frag} {H : Hp} : ∀ ns : List Int, DpAll K H (ns.map V.int) (ns.map PyData.int)
  | [] => .nil
  | n :: ns => .cons (.int n) (dp_ints ns)
theorem eqv_ints : ∀ ns ms : List Int, PyData.eqvAll (ns.map PyData.int) (ms.map PyData.int) = decide (ns = ms)
  | [], [] => by simp [PyData.eqvAll]
  | [], _ :: _ => by simp [PyData.eqvAll]
  | _ :: _, [] => by simp [PyData.eqvAll]
  | n :: ns, m :: ms => by
    simp only [List.map_cons, PyData.eqvAll, PyData.eqv, eqv_ints ns ms]
    by_cases h1 : n = m <;> by_cases h2 : ns = ms <;> simp [h1, h2]
theorem lay_ints : ∀ ns : List Int, PyData.canLayAll0 (ns.map PyData.int) = true
  | [] => by simp [PyData.canLayAll0]
  | n :: ns => by simp [PyData.canLayAll0, PyData.canLay0, lay_ints ns]
theorem depth_ints : ∀ ns : List Int, PyData.depthAll (ns.map PyData.int) = 0
  | [] => by simp [PyData.depthAll]
  | n :: ns => by simp [PyData.depthAll, PyData.depth, depth_ints ns]
theorem shaped_ints (ns : List Int) : SeqAt.shaped (.list (ns.map PyData.int)) = true := by
  unfold SeqAt.shaped
  simp [PyData.canLay0, lay_ints, PyData.depth, depth_ints]
theorem oc_ne_ints {K : PySem.W.Frag} (hK : X.K = K) (hu : X.A.units + 64 < cLine) : OpR X (compareOp .NotEq) (fun x y H Q => ∃ a b, ∃ ns ms : List Int, x = .ref a ∧ y = .ref b ∧ SqL K H a (ns.map V.int) ∧ SqL K H b (ms.map V.int) ∧ Q (.bl (!decide (ns = ms))) H) := fun pins s σ H x y v u Q I rx ry ⟨a, b, ns, ms, e1, e2, h1, h2, q⟩ =>
  op_neD hu pins s σ H x y v u Q I rx ry ⟨.list (ns.map PyData.int), .list (ms.map PyData.int), e1 ▸ .lst (hK ▸ h1) (dp_ints ns), e2 ▸ .lst (hK ▸ h2) (dp_ints ms), shaped_ints ns, shaped_ints ms, by
    have e : PyData.eqv (.list (ns.map PyData.int)) (.list (ms.map PyData.int)) = decide (ns = ms) := by
      rw [← eqv_ints]
      simp only [PyData.eqv]
    rw [e]
    exact q⟩
theorem oc_eq_ints {K : PySem.W.Frag} (hK : X.K = K) (hu : X.A.units + 64 < cLine) : OpR X (compareOp .Eq) (fun x y H Q => ∃ a b, ∃ ns ms : List Int, x = .ref a ∧ y = .ref b ∧ SqL K H a (ns.map V.int) ∧ SqL K H b (ms.map V.int) ∧ Q (.bl (decide (ns = ms))) H) := fun pins s σ H x y v u Q I rx ry ⟨a, b, ns, ms, e1, e2, h1, h2, q⟩ =>
  op_eqD hu pins s σ H x y v u Q I rx ry ⟨.list (ns.map PyData.int), .list (ms.map PyData.int), e1 ▸ .lst (hK ▸ h1) (dp_ints ns), e2 ▸ .lst (hK ▸ h2) (dp_ints ms), shaped_ints ns, shaped_ints ms, by
    have e : PyData.eqv (.list (ns.map PyData.int)) (.list (ms.map PyData.int)) = decide (ns = ms) := by
      rw [← eqv_ints]
      simp only [PyData.eqv]
    rw [e]
    exact q⟩
/-! isinstance, by what is known of the value -/
theorem oc_isi_ty {T U : String} {r : Bool} (h : kitB T U = some r) : CallR X (.builtin "isinstance") (fun xs H Q => ∃ x, xs = [x, .ty U] ∧ TyX X.K H x (.type T) ∧ Q (.bl r) H) := fun pins s σ H xs us Q I rr ⟨x, e, t, q⟩ =>
  call_isi pins s σ H xs us Q I rr ⟨x, _, _, _, r, e, .ty U, t, kit_ty h, q⟩
theorem oc_isi_ii : CallR X (.builtin "isinstance") (fun xs H Q => ∃ i, xs = [.int i, .ty "int"] ∧ Q (.bl true) H) := fun pins s σ H xs us Q I rr ⟨i, e, q⟩ =>
  call_isi pins s σ H xs us Q I rr ⟨_, _, _, _, true, e, .ty "int", .base (.int i), kit_ty (by decide +kernel), q⟩
theorem oc_isi_ib : CallR X (.builtin "isinstance") (fun xs H Q => ∃ i, xs = [.int i, .ty "bool"] ∧ Q (.bl false) H) := fun pins s σ H xs us Q I rr ⟨i, e, q⟩ =>
  call_isi pins s σ H xs us Q I rr ⟨_, _, _, _, false, e, .ty "bool", .base (.int i), kit_ty (by decide +kernel), q⟩
theorem oc_isi_bb : CallR X (.builtin "isinstance") (fun xs H Q => ∃ i, xs = [.bl i, .ty "bool"] ∧ Q (.bl true) H) := fun pins s σ H xs us Q I rr ⟨i, e, q⟩ =>
  call_isi pins s σ H xs us Q I rr ⟨_, _, _, _, true, e, .ty "bool", .base (.bl i), kit_ty (by decide +kernel), q⟩
theorem oc_isi_ll : CallR X (.builtin "isinstance") (fun xs H Q => ∃ a ys, xs = [.ref a, .ty "list"] ∧ H a = some (.lst ys) ∧ Q (.bl true) H) := fun pins s σ H xs us Q I rr ⟨a, ys, e, h, q⟩ =>
  call_isi pins s σ H xs us Q I rr ⟨_, _, _, _, true, e, .ty "list", .base (.lst h), kit_ty (by decide +kernel), q⟩
end

/-! ### the heap's changes, in chunks -/
theorem small {n : Nat} (h : n ≤ 1000000) : n < sizeLine := Nat.lt_of_le_of_lt h (by decide)
theorem small' {n : Nat} (h : n ≤ 1000000) : n ≤ sizeLine := Nat.le_of_lt (small h)
theorem Sts.newE {L : List Asr} {H H' : Hp} {p : Addr} {o : HO} (S : Sts L H) (np : H p = none) (e : upd H p o = H') : Sts (pto p o :: L) H' := e ▸ S.new o np
theorem Sts.putE {L : List Asr} {H H' : Hp} {a : Addr} {o u : HO} (S : Sts (pto a o :: L) H) (e : upd H a u = H') : Sts (pto a u :: L) H' := e ▸ S.put u
section
variable {X : Cx}
theorem oc_append : MtR X "list.append" (fun x vs H Q => ∃ l y, x = .ref l ∧ vs = [y] ∧ ∃ xs L, Sts (pto l (.lst xs) :: L) H ∧ xs.length < sizeLine ∧ ∀ H', Sts (pto l (.lst (xs ++ [y])) :: L) H' → Q .non H') := fun pins s σ H x xs v us Q I rx rs ⟨l, y, e1, e2, ys, L, S, hl, q⟩ =>
  mt_append pins s σ H x xs v us Q I rx rs ⟨l, ys, y, e1, e2, S.hd, hl, q _ (S.put _)⟩
theorem oc_extend : MtR X "list.extend" (fun x vs H Q => ∃ l b, x = .ref l ∧ vs = [.ref b] ∧ ∃ xs zs L, Sts (pto l (.lst xs) :: L) H ∧ H b = some (.lst zs) ∧ xs.length + zs.length ≤ sizeLine ∧ ∀ H', Sts (pto l (.lst (xs ++ zs)) :: L) H' → Q .non H') := fun pins s σ H x xs v us Q I rx rs ⟨l, b, e1, e2, ys, zs, L, S, hb, hl, q⟩ =>
  mt_extend pins s σ H x xs v us Q I rx rs ⟨l, b, ys, zs, e1, e2, S.hd, hb, hl, q _ (S.put _)⟩
theorem oc_setL : PSet X (fun o i v H Q => ∃ p k, o = .ref p ∧ i = .int k ∧ ∃ xs L, Sts (pto p (.lst xs) :: L) H ∧ (0 ≤ k ∧ k < xs.length) ∧ ∀ H', Sts (pto p (.lst (xs.set k.toNat v)) :: L) H' → Q H') := fun pins s σ H o i v ov iv u Q I ro ri rv ⟨p, k, e1, e2, xs, L, S, b, q⟩ =>
  set_list pins s σ H o i v ov iv u Q I ro ri rv ⟨p, xs, k, k.toNat, e1, e2, S.hd, ixN_of b.1 b.2, q _ (S.put _)⟩
theorem oc_setI : PSet X (fun o i v H Q => ∃ p k j, o = .ref p ∧ i = .int k ∧ v = .int j ∧ ∃ (ns : List Int) (L : List Asr), Sts (pto p (.lst (ns.map V.int)) :: L) H ∧ (0 ≤ k ∧ k < ns.length) ∧ ∀ H', Sts (pto p (.lst ((ns.set k.toNat j).map V.int)) :: L) H' → Q H') := fun pins s σ H o i v ov iv u Q I ro ri rv ⟨p, k, j, e1, e2, e3, ns, L, S, b, q⟩ =>
  set_list pins s σ H o i v ov iv u Q I ro ri rv ⟨p, _, k, k.toNat, e1, e2, S.hd, ixN_of b.1 (by rw [List.length_map]; exact b.2), by
    refine q _ ?_
    rw [List.map_set, e3]
    exact S.put _⟩
theorem oc_appendI : MtR X "list.append" (fun x vs H Q => ∃ l j, x = .ref l ∧ vs = [.int j] ∧ ∃ (ns : List Int) (L : List Asr), Sts (pto l (.lst (ns.map V.int)) :: L) H ∧ ns.length ≤ 1000000 ∧ ∀ H', Sts (pto l (.lst ((ns ++ [j]).map V.int)) :: L) H' → Q .non H') := fun pins s σ H x xs v us Q I rx rs ⟨l, j, e1, e2, ns, L, S, hl, q⟩ =>
  mt_append pins s σ H x xs v us Q I rx rs ⟨l, _, .int j, e1, e2, S.hd, small (by rw [List.length_map]; exact hl), q _ (by rw [List.map_append]; exact S.put _)⟩
theorem oc_catI : OpR X (binaryOp .Add) (fun x y H Q => ∃ l b, ∃ (ns ms : List Int), x = .ref l ∧ y = .ref b ∧ H l = some (.lst (ns.map V.int)) ∧ H b = some (.lst (ms.map V.int)) ∧ ns.length + ms.length ≤ 1000000 ∧ ∀ p, H p = none → Q (.ref p) (upd H p (.lst ((ns ++ ms).map V.int)))) := fun pins s σ H x y v u Q I rx ry ⟨l, b, ns, ms, e1, e2, h1, h2, hl, q⟩ =>
  op_cat pins s σ H x y v u Q I rx ry ⟨l, b, _, _, e1, e2, h1, h2, small' (by rw [List.length_map, List.length_map]; exact hl), by rw [← List.map_append]; exact q⟩
end

/-! ### tests -/
theorem dt {p : Prop} [Decidable p] (h : p) : decide p = true := decide_eq_true h
theorem df {p : Prop} [Decidable p] (h : ¬ p) : decide p = false := decide_eq_false h
theorem nd {p : Prop} [Decidable p] (h : p) : (!decide p) = false := by rw [decide_eq_true h]; rfl
theorem nt {p : Prop} [Decidable p] (h : ¬ p) : (!decide p) = true := by rw [decide_eq_false h]; rfl
theorem odt {p : Prop} [Decidable p] (h : decide p = true) : p := of_decide_eq_true h
theorem odf {p : Prop} [Decidable p] (h : decide p = false) : ¬ p := of_decide_eq_false h
theorem ont {p : Prop} [Decidable p] (h : (!decide p) = true) : ¬ p := fun q => by rw [decide_eq_true q] at h; cases h
theorem onf {p : Prop} [Decidable p] (h : (!decide p) = false) : p := Decidable.byContradiction fun q => by rw [decide_eq_false q] at h; cases h
theorem vi {a b : Int} (h : V.int a = V.int b) : a = b := V.int.inj h
theorem ifB {b : Bool} {A B : Prop} (h1 : b = true → A) (h2 : b = false → B) : if b = true then A else B := by
  cases b with
  | true => exact iteT (h1 rfl)
  | false => exact iteF (h2 rfl)
theorem ifT {b : Bool} {A B : Prop} (h : b = true) (k : A) : if b = true then A else B := by
  subst h
  exact iteT k
theorem ifF {b : Bool} {A B : Prop} (h : b = false) (k : B) : if b = true then A else B := by
  subst h
  exact iteF k

theorem ifTT {A B : Prop} (k : A) : if true = true then A else B := iteT k
theorem ifFF {A B : Prop} (k : B) : if false = true then A else B := iteF k
theorem ifNT {A B : Prop} (k : B) : if (!true) = true then A else B := ifF rfl k
theorem ifNF {A B : Prop} (k : A) : if (!false) = true then A else B := ifT rfl k
theorem ifDE {α : Type} {x : α} [Decidable (x = x)] {A B : Prop} (k : A) : if decide (x = x) = true then A else B := ifT (dt rfl) k
theorem ifNE {α : Type} {x : α} [Decidable (x = x)] {A B : Prop} (k : B) : if (!decide (x = x)) = true then A else B := ifF (nd rfl) k
/-! ### comprehensions, behind the making of their list at D -/
theorem oc_lcR {lo : Int} {n : Nat} {g : TG} {tt : TT} {te : TE} {vs : List Nat} {σ : L2.St} {H0 : Hp} {D : Addr} {Qd : Hp → Prop} (Pv : Nat → Hp → Prop) (h0 : Pv 0 H0)
    (hs : ∀ i H, i < n → Pv i H → g (.int (lo + (i : Nat))) (wipe σ vs) H fun σ2 H2 => wipe σ2 vs = wipe σ vs ∧ tt σ2 H2 fun b H3 =>
      if b = true then te σ2 H3 fun y H4 => ∃ acc, H4 D = some (.lst acc) ∧ acc.length < sizeLine ∧ Pv (i + 1) (upd H4 D (.lst (acc ++ [y]))) else Pv (i + 1) H3) (hd : ∀ H, Pv n H → Qd H) :
    ∃ W : Nat → Nat → Hp → Prop, (∃ m, W 0 m H0) ∧ ∀ i m H, W i m H →
      ((Itr lo n).stop i H ∧ Qd H) ∨ ((Itr lo n).go i H ∧ ∃ Nx : Hp → Prop, (∀ H', Nx H' → ∃ m', m' < m ∧ W (i + 1) m' H') ∧ ∀ x H', (Itr lo n).yld i H x H' → g x (wipe σ vs) H' fun σ2 H2 => wipe σ2 vs = wipe σ vs ∧ tt σ2 H2 fun b H3 =>
        if b = true then te σ2 H3 fun y H4 => ∃ acc, H4 D = some (.lst acc) ∧ acc.length < sizeLine ∧ Nx (upd H4 D (.lst (acc ++ [y]))) else Nx H3) := by
  refine ⟨fun i m H => i + m = n ∧ Pv i H, ⟨n, Nat.zero_add n, h0⟩, fun i m H h => ?_⟩
  obtain ⟨e, p⟩ := h
  cases m with
  | zero =>
    have e' : n = i := e.symm
    subst e'
    exact .inl ⟨Nat.le_refl _, hd H p⟩
  | succ m =>
    have hi : i < n := by omega
    refine .inr ⟨hi, Pv (i + 1), fun H' p' => ⟨m, Nat.lt_succ_self m, by omega, p'⟩, fun x H' y => ?_⟩
    obtain ⟨e1, e2⟩ := y
    rw [e1, e2]
    exact hs i H hi p
theorem oc_lcL {K : PySem.W.Frag} {a : Addr} {xs : List V} {g : TG} {tt : TT} {te : TE} {vs : List Nat} {σ : L2.St} {H0 : Hp} {D : Addr} {Qd : Hp → Prop} (Pv : Nat → Hp → Prop) (h0 : Pv 0 H0) (hl : ∀ i H, Pv i H → SqL K H a xs)
    (hs : ∀ i x H, xs[i]? = some x → Pv i H → g x (wipe σ vs) H fun σ2 H2 => wipe σ2 vs = wipe σ vs ∧ tt σ2 H2 fun b H3 =>
      if b = true then te σ2 H3 fun y H4 => ∃ acc, H4 D = some (.lst acc) ∧ acc.length < sizeLine ∧ Pv (i + 1) (upd H4 D (.lst (acc ++ [y]))) else Pv (i + 1) H3) (hd : ∀ H, Pv xs.length H → Qd H) :
    ∃ W : Nat → Nat → Hp → Prop, (∃ m, W 0 m H0) ∧ ∀ i m H, W i m H →
      ((Itl K a).stop i H ∧ Qd H) ∨ ((Itl K a).go i H ∧ ∃ Nx : Hp → Prop, (∀ H', Nx H' → ∃ m', m' < m ∧ W (i + 1) m' H') ∧ ∀ x H', (Itl K a).yld i H x H' → g x (wipe σ vs) H' fun σ2 H2 => wipe σ2 vs = wipe σ vs ∧ tt σ2 H2 fun b H3 =>
        if b = true then te σ2 H3 fun y H4 => ∃ acc, H4 D = some (.lst acc) ∧ acc.length < sizeLine ∧ Nx (upd H4 D (.lst (acc ++ [y]))) else Nx H3) := by
  refine ⟨fun i m H => i + m = xs.length ∧ Pv i H, ⟨xs.length, Nat.zero_add _, h0⟩, fun i m H h => ?_⟩
  obtain ⟨e, p⟩ := h
  have q := hl i H p
  cases m with
  | zero =>
    have e' : i = xs.length := e
    exact .inl ⟨⟨xs, q, by omega⟩, hd H (e' ▸ p)⟩
  | succ m =>
    have hi : i < xs.length := by omega
    refine .inr ⟨⟨xs, xs[i], q, List.getElem?_eq_getElem hi⟩, Pv (i + 1), fun H' p' => ⟨m, Nat.lt_succ_self m, by omega, p'⟩, fun x H' y => ?_⟩
    obtain ⟨e1, e2⟩ := y
    rw [e1]
    exact hs i x H (e2 xs q) p
/-- one value an item, the heap as it was -/
theorem lc_pure {K : PySem.W.Frag} {a : Addr} {k : Nat} {te : TE} {vs : List Nat} {σ : L2.St} {H0 : Hp} {Qd : Hp → Prop} {L : List Asr} {D : Addr} (xs : List V) (f : V → V) (S : Sts (pto D (.lst []) :: L) H0) (hsq : ∀ H, Sts L H → SqL K H a xs) (hl : xs.length ≤ 1000000)
    (hw : ∀ x, wipe ((wipe σ vs).set k (some x)) vs = wipe σ vs) (he : ∀ (x : V) (H : Hp) (Q' : VK), x ∈ xs → Sts L H → Q' (f x) H → te ((wipe σ vs).set k (some x)) H Q')
    (hd : ∀ H, Sts (pto D (.lst (xs.map f)) :: L) H → Qd H) :
    ∃ W : Nat → Nat → Hp → Prop, (∃ m, W 0 m H0) ∧ ∀ i m H, W i m H →
      ((Itl K a).stop i H ∧ Qd H) ∨ ((Itl K a).go i H ∧ ∃ Nx : Hp → Prop, (∀ H', Nx H' → ∃ m', m' < m ∧ W (i + 1) m' H') ∧ ∀ x H', (Itl K a).yld i H x H' → gName k x (wipe σ vs) H' fun σ2 H2 => wipe σ2 vs = wipe σ vs ∧ tYes σ2 H2 fun b H3 =>
        if b = true then te σ2 H3 fun y H4 => ∃ acc, H4 D = some (.lst acc) ∧ acc.length < sizeLine ∧ Nx (upd H4 D (.lst (acc ++ [y]))) else Nx H3) :=
  oc_lcL (K := K) (a := a) (xs := xs) (fun i H => Sts (pto D (.lst ((xs.take i).map f)) :: L) H) S (fun i H p => hsq H p.tail)
    (fun i x H hx p => by
      refine ⟨hw x, ?_⟩
      simp only [tYes, if_true]
      refine he x H _ (List.mem_of_getElem? hx) p.tail ⟨_, p.hd, small (by rw [List.length_map, List.length_take]; omega), ?_⟩
      rw [List.take_add_one, hx, List.map_append]
      exact p.put _)
    (fun H p => hd H (by rw [List.take_length] at p; exact p))
theorem lc_pureI {K : PySem.W.Frag} {a : Addr} {k : Nat} {te : TE} {vs : List Nat} {σ : L2.St} {H0 : Hp} {Qd : Hp → Prop} {L : List Asr} {D : Addr} (ns : List Int) (f : Int → V) (S : Sts (pto D (.lst []) :: L) H0) (hsq : ∀ H, Sts L H → SqL K H a (ns.map V.int)) (hl : ns.length ≤ 1000000)
    (hw : ∀ x, wipe ((wipe σ vs).set k (some x)) vs = wipe σ vs) (he : ∀ (x : Int) (H : Hp) (Q' : VK), x ∈ ns → Sts L H → Q' (f x) H → te ((wipe σ vs).set k (some (.int x))) H Q')
    (hd : ∀ H, Sts (pto D (.lst (ns.map f)) :: L) H → Qd H) :
    ∃ W : Nat → Nat → Hp → Prop, (∃ m, W 0 m H0) ∧ ∀ i m H, W i m H →
      ((Itl K a).stop i H ∧ Qd H) ∨ ((Itl K a).go i H ∧ ∃ Nx : Hp → Prop, (∀ H', Nx H' → ∃ m', m' < m ∧ W (i + 1) m' H') ∧ ∀ x H', (Itl K a).yld i H x H' → gName k x (wipe σ vs) H' fun σ2 H2 => wipe σ2 vs = wipe σ vs ∧ tYes σ2 H2 fun b H3 =>
        if b = true then te σ2 H3 fun y H4 => ∃ acc, H4 D = some (.lst acc) ∧ acc.length < sizeLine ∧ Nx (upd H4 D (.lst (acc ++ [y]))) else Nx H3) :=
  oc_lcL (K := K) (a := a) (xs := ns.map V.int) (fun i H => Sts (pto D (.lst ((ns.take i).map f)) :: L) H) S (fun i H p => hsq H p.tail)
    (fun i x H hx p => by
      rw [List.getElem?_map] at hx
      cases e : ns[i]? with
      | none =>
        rw [e] at hx
        cases hx
      | some n =>
        rw [e] at hx
        have ex : x = V.int n := (Option.some.inj hx).symm
        subst ex
        refine ⟨hw _, ?_⟩
        simp only [tYes, if_true]
        refine he n H _ (List.mem_of_getElem? e) p.tail ⟨_, p.hd, small (by rw [List.length_map, List.length_take]; omega), ?_⟩
        rw [List.take_add_one, e, List.map_append]
        exact p.put _)
    (fun H p => hd H (by rw [List.length_map, List.take_length] at p; exact p))
/-- over a range -/
theorem lc_pureR {lo : Int} {n : Nat} {k : Nat} {te : TE} {vs : List Nat} {σ : L2.St} {H0 : Hp} {Qd : Hp → Prop} {L : List Asr} {D : Addr} (f : Int → V) (S : Sts (pto D (.lst []) :: L) H0) (hl : n ≤ 1000000)
    (hw : ∀ x, wipe ((wipe σ vs).set k (some x)) vs = wipe σ vs) (he : ∀ (i : Nat) (H : Hp) (Q' : VK), i < n → Sts L H → Q' (f (lo + i)) H → te ((wipe σ vs).set k (some (.int (lo + i)))) H Q')
    (hd : ∀ H, Sts (pto D (.lst ((List.range n).map fun i => f (lo + (i : Nat)))) :: L) H → Qd H) :
    ∃ W : Nat → Nat → Hp → Prop, (∃ m, W 0 m H0) ∧ ∀ i m H, W i m H →
      ((Itr lo n).stop i H ∧ Qd H) ∨ ((Itr lo n).go i H ∧ ∃ Nx : Hp → Prop, (∀ H', Nx H' → ∃ m', m' < m ∧ W (i + 1) m' H') ∧ ∀ x H', (Itr lo n).yld i H x H' → gName k x (wipe σ vs) H' fun σ2 H2 => wipe σ2 vs = wipe σ vs ∧ tYes σ2 H2 fun b H3 =>
        if b = true then te σ2 H3 fun y H4 => ∃ acc, H4 D = some (.lst acc) ∧ acc.length < sizeLine ∧ Nx (upd H4 D (.lst (acc ++ [y]))) else Nx H3) :=
  oc_lcR (lo := lo) (n := n) (fun i H => Sts (pto D (.lst ((List.range i).map fun i => f (lo + (i : Nat)))) :: L) H) S
    (fun i H hi p => by
      refine ⟨hw _, ?_⟩
      simp only [tYes, if_true]
      refine he i H _ hi p.tail ⟨_, p.hd, small (by rw [List.length_map, List.length_range]; omega), ?_⟩
      rw [List.range_succ, List.map_append]
      exact p.put _)
    (fun H p => hd H p)
/-- lists of ints out of lists of ints and ranges -/
theorem lc_II {K : PySem.W.Frag} {a : Addr} {k : Nat} {te : TE} {vs : List Nat} {σ : L2.St} {H0 : Hp} {Qd : Hp → Prop} {L : List Asr} {D : Addr} (ns : List Int) (f : Int → Int) (S : Sts (pto D (.lst []) :: L) H0) (hsq : ∀ H, Sts L H → SqL K H a (ns.map V.int)) (hl : ns.length ≤ 1000000)
    (hw : ∀ x, wipe ((wipe σ vs).set k (some x)) vs = wipe σ vs) (he : ∀ (x : Int) (H : Hp) (Q' : VK), x ∈ ns → Sts L H → Q' (.int (f x)) H → te ((wipe σ vs).set k (some (.int x))) H Q')
    (hd : ∀ H, Sts (pto D (.lst ((ns.map f).map V.int)) :: L) H → Qd H) :
    ∃ W : Nat → Nat → Hp → Prop, (∃ m, W 0 m H0) ∧ ∀ i m H, W i m H →
      ((Itl K a).stop i H ∧ Qd H) ∨ ((Itl K a).go i H ∧ ∃ Nx : Hp → Prop, (∀ H', Nx H' → ∃ m', m' < m ∧ W (i + 1) m' H') ∧ ∀ x H', (Itl K a).yld i H x H' → gName k x (wipe σ vs) H' fun σ2 H2 => wipe σ2 vs = wipe σ vs ∧ tYes σ2 H2 fun b H3 =>
        if b = true then te σ2 H3 fun y H4 => ∃ acc, H4 D = some (.lst acc) ∧ acc.length < sizeLine ∧ Nx (upd H4 D (.lst (acc ++ [y]))) else Nx H3) :=
  lc_pureI ns (fun x => .int (f x)) S hsq hl hw he (fun H S => hd H (by rw [List.map_map]; exact S))
theorem lc_RI {lo : Int} {n : Nat} {k : Nat} {te : TE} {vs : List Nat} {σ : L2.St} {H0 : Hp} {Qd : Hp → Prop} {L : List Asr} {D : Addr} (f : Int → Int) (S : Sts (pto D (.lst []) :: L) H0) (hl : n ≤ 1000000)
    (hw : ∀ x, wipe ((wipe σ vs).set k (some x)) vs = wipe σ vs) (he : ∀ (i : Nat) (H : Hp) (Q' : VK), i < n → Sts L H → Q' (.int (f (lo + i))) H → te ((wipe σ vs).set k (some (.int (lo + i)))) H Q')
    (hd : ∀ H, Sts (pto D (.lst (((List.range n).map fun i => f (lo + (i : Nat))).map V.int)) :: L) H → Qd H) :
    ∃ W : Nat → Nat → Hp → Prop, (∃ m, W 0 m H0) ∧ ∀ i m H, W i m H →
      ((Itr lo n).stop i H ∧ Qd H) ∨ ((Itr lo n).go i H ∧ ∃ Nx : Hp → Prop, (∀ H', Nx H' → ∃ m', m' < m ∧ W (i + 1) m' H') ∧ ∀ x H', (Itr lo n).yld i H x H' → gName k x (wipe σ vs) H' fun σ2 H2 => wipe σ2 vs = wipe σ vs ∧ tYes σ2 H2 fun b H3 =>
        if b = true then te σ2 H3 fun y H4 => ∃ acc, H4 D = some (.lst acc) ∧ acc.length < sizeLine ∧ Nx (upd H4 D (.lst (acc ++ [y]))) else Nx H3) :=
  lc_pureR (fun x => .int (f x)) S hl hw he (fun H S => hd H (by rw [List.map_map]; exact S))
/-- the end of a turn of any comprehension -/
theorem lc_end {D : Addr} {acc : List V} {y : V} {L : List Asr} {H : Hp} {N : Hp → Prop} (S : Sts (pto D (.lst acc) :: L) H) (hl : acc.length ≤ 1000000) (k : ∀ H', Sts (pto D (.lst (acc ++ [y])) :: L) H' → N H') :
    ∃ acc, H D = some (.lst acc) ∧ acc.length < sizeLine ∧ N (upd H D (.lst (acc ++ [y]))) := ⟨acc, S.hd, small hl, k _ (S.put _)⟩
/-- a block cut behind its first statement: what holds between -/
def tCutO (t u : TS) : TS := fun D σ H => ∃ Mid : L2.St → Hp → Prop, t { D with nx := Mid } σ H ∧ ∀ σ' H', Mid σ' H' → u D σ' H'
theorem oc_cut {X : Cx} {st : Stmt} {rest : List Stmt} {t u : TS} (h1 : PS X st t) (h2 : PSs X rest u) : PSs X (st :: rest) (tCutO t u) := by
  refine ⟨fun pins s σ H D I ⟨Mid, a, b⟩ => ?_⟩
  refine wpAny_execs_cons (thn (h1.run pins s σ H { D with nx := Mid } I a) fun f s1 q => ?_)
  cases f with
  | next =>
    obtain ⟨σ', H', I', q⟩ := q
    exact h2.run pins s1 σ' H' D I' (b _ _ q)
  | ret v => exact q
  | brk => exact q
  | cont => exact q
end Oc
namespace Oc
open PySem PySem.Spec PyProof.Rows L2
/-! ### any over ints -/
theorem vals_int : ∀ {ns : List Int} {its : List Value} {i : Nat} {u : Value}, Vals (ns.map V.int) its → its[i]? = some u → ∃ n t, ns[i]? = some n ∧ u = .int n t
  | [], _, _, _, r, e => by
    cases r
    cases e
  | n :: ns, _, 0, u, r, e => by
    cases r with
    | cons a b =>
      obtain ⟨t, a⟩ := a
      exact ⟨n, t, rfl, (Option.some.inj e).symm.trans a⟩
  | n :: ns, _, i + 1, u, r, e => by
    cases r with
    | cons a b => exact vals_int (ns := ns) b e
theorem anyI_range : ∀ ns : List Int, (List.range ns.length).any (fun i => decide (ns.getD i 0 ≠ 0)) = ns.any fun n => decide (n ≠ 0)
  | [] => rfl
  | n :: ns => by
    have ih := anyI_range ns
    rw [List.length_cons, List.range_succ_eq_map, List.any_cons, List.any_map, List.any_cons, ← ih]
    rfl
theorem oc_anyI {X : Cx} {K : PySem.W.Frag} (hK : X.K = K) (hc : X.calm = true) : CallR X (.builtin "any") (fun xs H Q => ∃ a, ∃ ns : List Int, xs = [.ref a] ∧ SqL K H a (ns.map V.int) ∧ Q (.bl (ns.any fun n => decide (n ≠ 0))) H) := by
  subst hK
  intro pins s σ H xs us Q I rr ⟨a, ns, e, hS, q⟩
  subst e
  obtain ⟨its, rv, hl, _⟩ := I.list hS
  rw [Vals.ref1 rr]
  have hlen : ns.length = its.length := by
    have z := rv.length
    rwa [List.length_map] at z
  refine call_any_walk (iter_any hl.isList fun s2 es st ne => ?_)
  subst es
  refine ⟨_, _, _, _, _, _, fun i => decide (ns.getD i 0 ≠ 0), rfl, Walks.list (A := X.A.in1) (I.ok.hd hc) _ a ne its.toArray, st, fun i v t R E hv hq => ?_, fun h' tk hk => ?_⟩
  · have hv' : its[i]? = some v := by simpa using hv
    obtain ⟨n, u, hn, rfl⟩ := vals_int rv hv'
    have eg : ns.getD i 0 = n := by
      rw [List.getD_eq_getElem?_getD, hn]
      rfl
    dsimp only at hq
    rw [eg] at hq
    refine PyProof.Rows.truthy_int ?_
    have ez : (n != 0) = decide (n ≠ 0) := by
      by_cases z : n = 0 <;> simp [z]
    rw [ez]
    exact hq
  · refine ⟨.bl _, H, I.kept fun b o eo => hk b o (fun hm => ?_) (Heap.get?_push_of_some _ eo), ?_, q⟩
    · rcases List.mem_cons.mp hm with z | hm
      · exact absurd (z ▸ Heap.lt_size eo) (Nat.lt_irrefl _)
      · cases hm
    · show Value.bool _ = Value.bool _
      rw [← anyI_range, hlen, List.size_toArray]
end Oc
namespace Oc
open PySem PySem.Spec PyProof.Rows L2
/-- a comprehension over anything: n turns -/
theorem oc_lc {J : It} {n : Nat} {g : TG} {tt : TT} {te : TE} {vs : List Nat} {σ : L2.St} {H0 : Hp} {D : Addr} {Qd : Hp → Prop} (Pv : Nat → Hp → Prop) (h0 : Pv 0 H0) (hgo : ∀ i H, i < n → Pv i H → J.go i H) (hst : ∀ H, Pv n H → J.stop n H)
    (hs : ∀ i x H H', i < n → Pv i H → J.yld i H x H' → g x (wipe σ vs) H' fun σ2 H2 => wipe σ2 vs = wipe σ vs ∧ tt σ2 H2 fun b H3 =>
      if b = true then te σ2 H3 fun y H4 => ∃ acc, H4 D = some (.lst acc) ∧ acc.length < sizeLine ∧ Pv (i + 1) (upd H4 D (.lst (acc ++ [y]))) else Pv (i + 1) H3) (hd : ∀ H, Pv n H → Qd H) :
    ∃ W : Nat → Nat → Hp → Prop, (∃ m, W 0 m H0) ∧ ∀ i m H, W i m H →
      (J.stop i H ∧ Qd H) ∨ (J.go i H ∧ ∃ Nx : Hp → Prop, (∀ H', Nx H' → ∃ m', m' < m ∧ W (i + 1) m' H') ∧ ∀ x H', J.yld i H x H' → g x (wipe σ vs) H' fun σ2 H2 => wipe σ2 vs = wipe σ vs ∧ tt σ2 H2 fun b H3 =>
        if b = true then te σ2 H3 fun y H4 => ∃ acc, H4 D = some (.lst acc) ∧ acc.length < sizeLine ∧ Nx (upd H4 D (.lst (acc ++ [y]))) else Nx H3) := by
  refine ⟨fun i m H => i + m = n ∧ Pv i H, ⟨n, Nat.zero_add _, h0⟩, fun i m H h => ?_⟩
  obtain ⟨e, p⟩ := h
  cases m with
  | zero =>
    have e' : i = n := e
    subst e'
    exact .inl ⟨hst H p, hd H p⟩
  | succ m =>
    have hi : i < n := by omega
    exact .inr ⟨hgo i H hi p, Pv (i + 1), fun H' p' => ⟨m, Nat.lt_succ_self m, by omega, p'⟩, fun x H' y => hs i x H H' hi p y⟩
/-- a for over anything: n turns -/
theorem oc_for {J : It} {n : Nat} {g : TG} {tb : TS} {D : Ends} {σ : L2.St} {H : Hp} (Pv : Nat → L2.St → Hp → Prop) (h0 : Pv 0 σ H) (hgo : ∀ i σ H, i < n → Pv i σ H → J.go i H) (hst : ∀ σ H, Pv n σ H → J.stop n H)
    (hs : ∀ i x σ H H', i < n → Pv i σ H → J.yld i H x H' → g x σ H' fun σ2 H2 => tb { D with nx := Pv (i + 1), ct := Pv (i + 1), bk := D.nx } σ2 H2) (hd : ∀ σ H, Pv n σ H → D.nx σ H) :
    ∃ W : Nat → Nat → L2.St → Hp → Prop, (∃ m, W 0 m σ H) ∧ ∀ i m σ H, W i m σ H →
      (J.stop i H ∧ D.nx σ H) ∨ (J.go i H ∧ ∃ N : L2.St → Hp → Prop, (∀ σ' H', N σ' H' → ∃ m', m' < m ∧ W (i + 1) m' σ' H') ∧ ∀ x H', J.yld i H x H' → g x σ H' fun σ2 H2 => tb { D with nx := N, ct := N, bk := D.nx } σ2 H2) := by
  refine ⟨fun i m σ H => i + m = n ∧ Pv i σ H, ⟨n, Nat.zero_add _, h0⟩, fun i m σ H h => ?_⟩
  obtain ⟨e, p⟩ := h
  cases m with
  | zero =>
    have e' : i = n := e
    subst e'
    exact .inl ⟨hst σ H p, hd σ H p⟩
  | succ m =>
    have hi : i < n := by omega
    exact .inr ⟨hgo i σ H hi p, Pv (i + 1), fun σ' H' p' => ⟨m, Nat.lt_succ_self m, by omega, p'⟩, fun x H' y => hs i x σ H H' hi p y⟩
section
variable {X : Cx} {K : PySem.W.Frag} (hK : X.K = K)
include hK
theorem oc_pg_tup {es : List Expr} {k : Nat} {t : TGs} {n : Nat} {pos : Pos} (hc : X.calm = true) (h : PGs X es t)
    (hn : (assignEach es X.env).length = n := by rfl) (hst : (assignEach es X.env).findIdx? (·.1) = none := by rfl) : PG X (.Tuple es k pos) (gTup K n t) := hK ▸ pg_tup hc h hn hst
end
theorem rep_map {α : Type} (f : α → V) (k : Nat) (xs : List α) : (List.replicate k (xs.map f)).flatten = ((List.replicate k xs).flatten).map f := by
  induction k with
  | zero => rfl
  | succ k ih => rw [List.replicate_succ, List.replicate_succ, List.flatten_cons, List.flatten_cons, ih, List.map_append]
theorem len_rep {α : Type} (k : Nat) (xs : List α) : (List.replicate k xs).flatten.length = k * xs.length := by
  induction k with
  | zero => simp
  | succ k ih => rw [List.replicate_succ, List.flatten_cons, List.length_append, ih, Nat.succ_mul, Nat.add_comm]
theorem oc_repI {X : Cx} : OpR X (binaryOp .Mult) (fun x y H Q => ∃ l k, ∃ ns : List Int, x = .ref l ∧ y = .int k ∧ H l = some (.lst (ns.map V.int)) ∧ (k < 1000000 ∧ -1000000 < k ∧ ns.length * k.toNat ≤ 1000000) ∧ ∀ p, H p = none → Q (.ref p) (upd H p (.lst ((List.replicate k.toNat ns).flatten.map V.int)))) := fun pins s σ H x y v u Q I rx ry ⟨l, k, ns, e1, e2, h1, ⟨b1, b2, b3⟩, q⟩ =>
  op_rep pins s σ H x y v u Q I rx ry ⟨l, k, _, e1, e2, h1, by omega, by omega, small' (by rw [List.length_map]; exact b3), by rw [rep_map]; exact q⟩
end Oc
namespace Oc
open PySem PySem.Spec PyProof.Rows L2
/-- an int or None -/
def ov : Option Int → V
  | none => .non
  | some i => .int i
theorem ov_none (o : Option Int) : decide (ov o = V.non) = o.isNone := by
  cases o <;> rfl
/-- xs[-1], a list of ints that is not empty -/
theorem oc_ixLast {X : Cx} {K : PySem.W.Frag} (hK : X.K = K) : IxR X (fun x y H Q => ∃ p, ∃ ns : List Int, x = .ref p ∧ y = .int (-1) ∧ SqL K H p (ns.map V.int) ∧ ∃ i, ns.getLast? = some i ∧ Q (.int i) H) := fun va sl pins s σ H x y v u Q I rx ry ⟨p, ns, e1, e2, h, i, b, q⟩ hs =>
  ix_list va sl pins s σ H x y v u Q I rx ry ⟨p, _, -1, .int i, e1, e2, hK ▸ h, by
    have e : ns = ns.dropLast ++ [i] := by
      have z := List.getLast?_eq_some_iff.mp b
      obtain ⟨ys, rfl⟩ := z
      simp
    rw [e, List.map_append]
    exact atI_last _ _, q⟩ hs
theorem isEmpty_pos {ns : List Int} (h : (!(ns.map V.int).isEmpty) = true) : 0 < ns.length := by
  cases ns with
  | nil => cases h
  | cons a b => simp
theorem isEmpty_nil {ns : List Int} (h : (!(ns.map V.int).isEmpty) = false) : ns = [] := by
  cases ns with
  | nil => rfl
  | cons a b => cases h
theorem len_lt {ns : List Int} {i : Nat} {x : V} (h : (ns.map V.int)[i]? = some x) : i < ns.length := by
  have z := (List.getElem?_eq_some_iff.mp h).1
  rwa [List.length_map] at z
theorem at_int {ns : List Int} {i : Nat} {x : V} (h : (ns.map V.int)[i]? = some x) : ∃ n, ns[i]? = some n ∧ x = .int n := by
  rw [List.getElem?_map] at h
  cases e : ns[i]? with
  | none =>
    rw [e] at h
    cases h
  | some n =>
    rw [e] at h
    exact ⟨n, rfl, (Option.some.inj h).symm⟩
/-- the list from behind: one item more -/
theorem rev_step {ns : List Int} {i : Nat} {x : Int} (h : ns.reverse[i]? = some x) : ns.drop (ns.length - (i + 1)) = x :: ns.drop (ns.length - i) := by
  have hi : i < ns.length := by
    have z := (List.getElem?_eq_some_iff.mp h).1
    rwa [List.length_reverse] at z
  rw [List.getElem?_reverse hi] at h
  have e : ns.length - i = (ns.length - (i + 1)) + 1 := by omega
  have h2 : ns[ns.length - (i + 1)]? = some x := by
    rw [← h]
    congr 1
    omega
  obtain ⟨hl, hv⟩ := List.getElem?_eq_some_iff.mp h2
  rw [e, List.drop_eq_getElem_cons hl, hv]
end Oc
namespace Oc
open PySem PySem.Spec PyProof.Rows L2
theorem oc_lcE {K : PySem.W.Frag} {a : Addr} {g : TG} {tt : TT} {te : TE} {vs : List Nat} {σ : L2.St} {H0 : Hp} {D : Addr} {Qd : Hp → Prop} (xs : List V) (Pv : Nat → Hp → Prop) (h0 : Pv 0 H0) (hl : ∀ i H, Pv i H → SqL K H a xs)
    (hs : ∀ i x T H H', xs[i]? = some x → Pv i H → H T = none → upd H T (.tup [.int (i : Nat), x]) = H' → g (.ref T) (wipe σ vs) H' fun σ2 H2 => wipe σ2 vs = wipe σ vs ∧ tt σ2 H2 fun b H3 =>
      if b = true then te σ2 H3 fun y H4 => ∃ acc, H4 D = some (.lst acc) ∧ acc.length < sizeLine ∧ Pv (i + 1) (upd H4 D (.lst (acc ++ [y]))) else Pv (i + 1) H3) (hd : ∀ H, Pv xs.length H → Qd H) :
    ∃ W : Nat → Nat → Hp → Prop, (∃ m, W 0 m H0) ∧ ∀ i m H, W i m H →
      ((Ite K a).stop i H ∧ Qd H) ∨ ((Ite K a).go i H ∧ ∃ Nx : Hp → Prop, (∀ H', Nx H' → ∃ m', m' < m ∧ W (i + 1) m' H') ∧ ∀ x H', (Ite K a).yld i H x H' → g x (wipe σ vs) H' fun σ2 H2 => wipe σ2 vs = wipe σ vs ∧ tt σ2 H2 fun b H3 =>
        if b = true then te σ2 H3 fun y H4 => ∃ acc, H4 D = some (.lst acc) ∧ acc.length < sizeLine ∧ Nx (upd H4 D (.lst (acc ++ [y]))) else Nx H3) :=
  oc_lc (n := xs.length) Pv h0 (fun i H hi p => ⟨xs, xs[i], hl i H p, List.getElem?_eq_getElem hi⟩) (fun H p => ⟨xs, hl _ H p, Nat.le_refl _⟩)
    (fun i x H H' hi p y => by
      obtain ⟨T, z, e1, e2, e3, e4⟩ := y
      rw [e1]
      exact hs i z T H H' (e4 xs (hl i H p)) p e2 e3.symm) hd
end Oc
theorem Oc.mulb {a b : Nat} (A B : Nat) {C : Nat} (ha : a ≤ A) (hb : b ≤ B) (h : A * B ≤ C) : a * b ≤ C := Nat.le_trans (Nat.mul_le_mul ha hb) h
namespace Oc
open PySem PySem.Spec PyProof.Rows L2
/-! ### guards: what kind of chunk, what form of list -/
theorem hI0 {H : Hp} {a : Addr} (h : H a = some (.lst [])) : H a = some (.lst (List.map V.int [])) := h
theorem hI1 {H : Hp} {a : Addr} {x : Int} (h : H a = some (.lst [V.int x])) : H a = some (.lst (List.map V.int [x])) := h
theorem hI2 {H : Hp} {a : Addr} {x y : Int} (h : H a = some (.lst [V.int x, V.int y])) : H a = some (.lst (List.map V.int [x, y])) := h
theorem hI3 {H : Hp} {a : Addr} {x y z : Int} (h : H a = some (.lst [V.int x, V.int y, V.int z])) : H a = some (.lst (List.map V.int [x, y, z])) := h
theorem gS {H : Hp} {a : Addr} {o : HO} {L : List Asr} (h : Sts (pto a o :: L) H) : Sts (pto a o :: L) H := h
theorem gL {H : Hp} {a : Addr} {ns : List Int} {L : List Asr} (h : Sts (pto a (.lst (ns.map V.int)) :: L) H) : Sts (pto a (.lst (ns.map V.int)) :: L) H := h
theorem gI0 {H : Hp} {a : Addr} {L : List Asr} (h : Sts (pto a (.lst []) :: L) H) : Sts (pto a (.lst (List.map V.int [])) :: L) H := h
theorem gI1 {H : Hp} {a : Addr} {x : Int} {L : List Asr} (h : Sts (pto a (.lst [V.int x]) :: L) H) : Sts (pto a (.lst (List.map V.int [x])) :: L) H := h
theorem gI2 {H : Hp} {a : Addr} {x y : Int} {L : List Asr} (h : Sts (pto a (.lst [V.int x, V.int y]) :: L) H) : Sts (pto a (.lst (List.map V.int [x, y])) :: L) H := h
theorem gQ {K : PySem.W.Frag} {H : Hp} {a : Addr} {xs : List V} {L : List Asr} (h : Sts (sqc K a xs :: L) H) : Sts (sqc K a xs :: L) H := h
end Oc
theorem Oc.cutL_len {α : Type} (xs : List α) (lo hi : Option Int) : (Oc.cutL xs lo hi).length ≤ xs.length := by
  unfold Oc.cutL
  rw [List.length_take, List.length_drop]
  omega
theorem Oc.le_cut2 {α : Type} {xs ys : List α} {lo hi lo' hi' : Option Int} {n : Nat} (h : xs.length + ys.length ≤ n) : (Oc.cutL xs lo hi).length + (Oc.cutL ys lo' hi').length ≤ n := Nat.le_trans (Nat.add_le_add (Oc.cutL_len _ _ _) (Oc.cutL_len _ _ _)) h
namespace Oc
open PySem PySem.Spec PyProof.Rows L2
/-! ### dicts with int keys -/
section
variable {α : Type}
def dM (f : α → V) (ps : List (Int × α)) : List (Key × V) := ps.map fun p => (Sum.inl p.1, f p.2)
def getP (ps : List (Int × α)) (k : Int) : Option α := (ps.find? fun p => decide (p.1 = k)).map (·.2)
def putP (ps : List (Int × α)) (k : Int) (v : α) : List (Int × α) := if (ps.any fun p => decide (p.1 = k)) = true then ps.map (fun p => if p.1 = k then (p.1, v) else p) else ps ++ [(k, v)]
theorem keyeq (a b : Int) : decide ((Sum.inl a : Key) = Sum.inl b) = decide (a = b) := by
  by_cases h : a = b
  · rw [h, decide_eq_true rfl, decide_eq_true rfl]
  · rw [decide_eq_false h, decide_eq_false fun e => h (Sum.inl.inj e)]
theorem getP_pos {p : Int × α} {r : List (Int × α)} {k : Int} (e : p.1 = k) : getP (p :: r) k = some p.2 := by simp [getP, List.find?_cons, e]
theorem getP_neg {p : Int × α} {r : List (Int × α)} {k : Int} (e : ¬ p.1 = k) : getP (p :: r) k = getP r k := by simp [getP, List.find?_cons, e]
theorem valV_dM (f : α → V) (k : Int) : ∀ ps : List (Int × α), valV (dM f ps) (.inl k) = (getP ps k).map f
  | [] => rfl
  | p :: r => by
    by_cases e : p.1 = k
    · rw [getP_pos e]
      exact valV_pos (p := (Sum.inl p.1, f p.2)) (by rw [e])
    · rw [getP_neg e, ← valV_dM f k r]
      exact valV_neg (p := (Sum.inl p.1, f p.2)) (fun z => e (Sum.inl.inj z))
theorem putK_dM (f : α → V) (ps : List (Int × α)) (k : Int) (v : α) : putK (dM f ps) (.inl k) (f v) = dM f (putP ps k v) := by
  unfold putK putP
  have e : ((dM f ps).any fun kv => decide (kv.1 = Sum.inl k)) = ps.any fun p => decide (p.1 = k) := by
    unfold dM
    rw [List.any_map]
    congr 1
    funext p
    exact keyeq p.1 k
  rw [e]
  split
  · unfold dM
    rw [List.map_map, List.map_map]
    congr 1
    funext p
    show (if (Sum.inl p.1 : Key) = Sum.inl k then ((Sum.inl p.1 : Key), f v) else (Sum.inl p.1, f p.2)) = (Sum.inl (if p.1 = k then (p.1, v) else p).1, f (if p.1 = k then (p.1, v) else p).2)
    by_cases h : p.1 = k
    · rw [if_pos h, if_pos (by rw [h])]
    · rw [if_neg h, if_neg fun z => h (Sum.inl.inj z)]
  · unfold dM
    rw [List.map_append]
    rfl
theorem getP_any (k : Int) : ∀ ps : List (Int × α), (ps.any fun p => decide (p.1 = k)) = (getP ps k).isSome
  | [] => rfl
  | p :: r => by
    rw [List.any_cons]
    by_cases e : p.1 = k
    · rw [getP_pos e, decide_eq_true e]
      rfl
    · rw [getP_neg e, decide_eq_false e, Bool.false_or]
      exact getP_any k r
theorem getP_mem {k : Int} {v : α} : ∀ {ps : List (Int × α)}, getP ps k = some v → (k, v) ∈ ps
  | [], h => nomatch h
  | p :: r, h => by
    by_cases e : p.1 = k
    · rw [getP_pos e] at h
      cases h
      rw [← e]
      exact List.mem_cons_self
    · rw [getP_neg e] at h
      exact List.mem_cons_of_mem _ (getP_mem h)
theorem getP_none {k : Int} {ps : List (Int × α)} (h : getP ps k = none) : ∀ p ∈ ps, p.1 ≠ k := fun p hp e => by
  have z := getP_any k ps
  rw [h] at z
  exact absurd (decide_eq_true e) (by simpa using (List.any_eq_false.mp z p hp))
theorem keys_put (ps : List (Int × α)) (k : Int) (v : α) : (putP ps k v).map (·.1) = if (getP ps k).isSome = true then ps.map (·.1) else ps.map (·.1) ++ [k] := by
  unfold putP
  rw [getP_any]
  split
  · rw [List.map_map]
    congr 1
    funext p
    show (if p.1 = k then (p.1, v) else p).1 = p.1
    split <;> rfl
  · rw [List.map_append]
    rfl
theorem nodup_put {ps : List (Int × α)} {k : Int} {v : α} (h : (ps.map (·.1)).Nodup) : ((putP ps k v).map (·.1)).Nodup := by
  rw [keys_put]
  split
  · exact h
  · rename_i g
    refine List.nodup_append.mpr ⟨h, List.nodup_cons.mpr ⟨List.not_mem_nil, List.nodup_nil⟩, fun a ha b hb e => ?_⟩
    have hb : b = k := by simpa using hb
    obtain ⟨p, hp, ep⟩ := List.mem_map.mp ha
    refine getP_none (ps := ps) (k := k) ?_ p hp (by rw [ep, e, hb])
    cases q : getP ps k with
    | none => rfl
    | some _ => rw [q] at g; exact absurd rfl g
theorem key_put {ps : List (Int × α)} {k : Int} {v : α} {P : Int → Prop} (h : ∀ p ∈ ps, P p.1) (hk : P k) : ∀ p ∈ putP ps k v, P p.1 := fun p hp => by
  have e : p.1 ∈ (putP ps k v).map (·.1) := List.mem_map_of_mem hp
  rw [keys_put] at e
  split at e
  · obtain ⟨q, hq, eq⟩ := List.mem_map.mp e
    rw [← eq]
    exact h q hq
  · rcases List.mem_append.mp e with e | e
    · obtain ⟨q, hq, eq⟩ := List.mem_map.mp e
      rw [← eq]
      exact h q hq
    · have e : p.1 = k := by simpa using e
      rw [e]
      exact hk
/-- a weight over a dict of ints -/
def wS (g : Int → Int) (ps : List (Int × Int)) : Int := (ps.map fun p => p.2 * g p.1).sum
theorem wS_app (g : Int → Int) (ps qs : List (Int × Int)) : wS g (ps ++ qs) = wS g ps + wS g qs := by
  unfold wS
  rw [List.map_append, List.sum_append]
theorem wS_put (g : Int → Int) (k v : Int) : ∀ {ps : List (Int × Int)}, (ps.map (·.1)).Nodup → wS g (putP ps k v) = wS g ps + (v - (getP ps k).getD 0) * g k
  | [], _ => by
    show wS g [(k, v)] = wS g [] + (v - 0) * g k
    unfold wS
    simp
  | p :: r, h => by
    obtain ⟨h1, h2⟩ := List.nodup_cons.mp h
    by_cases e : p.1 = k
    · rw [getP_pos e]
      have hr : ∀ q ∈ r, q.1 ≠ k := fun q hq z => h1 (by show p.1 ∈ _; rw [e, ← z]; exact List.mem_map_of_mem (f := fun x : Int × Int => x.1) hq)
      have e1 : putP (p :: r) k v = (k, v) :: r := by
        unfold putP
        rw [List.any_cons, decide_eq_true e, Bool.true_or, if_pos rfl, List.map_cons, if_pos e, e]
        congr 1
        refine (List.map_congr_left fun q hq => ?_).trans (List.map_id r)
        rw [if_neg (hr q hq)]
        rfl
      rw [e1]
      show ((k, v) :: r |>.map fun p => p.2 * g p.1).sum = ((p :: r).map fun p => p.2 * g p.1).sum + _
      rw [List.map_cons, List.map_cons, List.sum_cons, List.sum_cons, e]
      show v * g k + _ = p.2 * g k + _ + (v - p.2) * g k
      rw [Int.sub_mul]
      omega
    · rw [getP_neg e]
      have ih := wS_put g k v (ps := r) h2
      have e1 : putP (p :: r) k v = p :: putP r k v := by
        unfold putP
        rw [List.any_cons, decide_eq_false e, Bool.false_or]
        split
        · rw [List.map_cons, if_neg e]
        · rfl
      rw [e1]
      have c1 : ∀ l : List (Int × Int), wS g (p :: l) = p.2 * g p.1 + wS g l := fun l => by
        unfold wS
        rw [List.map_cons, List.sum_cons]
      rw [c1, c1, ih]
      omega
end
theorem gD {α : Type} {f : α → V} {H : Hp} {a : Addr} {ps : List (Int × α)} {L : List Asr} (h : Sts (pto a (.dK (dM f ps)) :: L) H) : Sts (pto a (.dK (dM f ps)) :: L) H := h
theorem gD0 {α : Type} (f : α → V) {H : Hp} {a : Addr} {L : List Asr} (h : Sts (pto a (.dK []) :: L) H) : Sts (pto a (.dK (dM f [])) :: L) H := h
theorem gDx {H : Hp} {a : Addr} {kvs : List (Key × V)} {L : List Asr} (h : Sts (pto a (.dK kvs) :: L) H) : Sts (pto a (.dK kvs) :: L) H := h
def tGetD {α : Type} (f : α → V) (td ty tx : TE) : TE := fun σ H Q => td σ H fun x H1 => ∃ a, x = .ref a ∧ (∃ kvs L, Sts (pto a (.dK kvs) :: L) H1) ∧ ty σ H1 fun y H2 => tx σ H2 fun z H3 =>
  ∃ k j, y = .int k ∧ z = f j ∧ ∃ ps L, Sts (pto a (.dK (dM f ps)) :: L) H3 ∧ Q (f ((getP ps k).getD j)) H3
section
variable {X : Cx} {o e g : Expr} {apos cpos pos p : Pos} {td ty tx : TE}
theorem oc_dget2 {α : Type} (f : α → V) (hu : X.A.units + 1 < cLine) (ho : PE X o td) (he : PE X e ty) (hg : PE X g tx) (m : M2 X o "get" apos e g cpos) : PE X (.Call (.Attribute o "get" apos) [e, g] [] cpos) (tGetD f td ty tx) := by
  refine ⟨fun pn s0 σ H Q J h => wpAny_Call_method m.base m.few m.line PySem.F.plainAttrs_dict PySem.F.slot_dict_get PySem.F.type_dict_get ?_⟩
  refine thn (ho.run pn s0 σ H _ J h) fun u s1 ⟨x, H1, J1, rx, a, ex, ⟨kvs, L, S⟩, q1⟩ => ?_
  subst ex
  obtain rfl : u = Value.ref a := rx
  obtain ⟨t1, t2, _⟩ := isD_at J1 (.inl ⟨kvs, .inl S.hd⟩)
  refine ⟨t1, t2, ?_⟩
  rw [m.trees]
  refine Calls.callWith_builtin rfl (Calls.evalArgs_plain (Calls.spliced_cons (thn (he.run pn s1 σ H1 _ J1 q1) fun iv s2 ⟨y, H2, J2, ry, q2⟩ => ?_)))
  refine Calls.spliced_cons (thn (hg.run pn s2 σ H2 _ J2 q2) fun fv s3 ⟨z, H3, J3, rz, k, j, ey, ez, ps, M, T, q3⟩ => Calls.spliced_nil ?_)
  subst ey ez
  refine d_get2 hu J3 (.inl ⟨dM f ps, .inl k, .inl T.hd, rfl, rfl⟩) ry rz fun w' s4 J4 rw' => ⟨_, H3, J4, ?_, q3⟩
  rw [valV_dM] at rw'
  cases q : getP ps k with
  | none =>
    rw [q] at rw'
    exact rw'
  | some v =>
    rw [q] at rw'
    exact rw'
theorem oc_setD {α : Type} (f : α → V) (hu : X.A.units + 1 < cLine) : PSet X (fun o i v H Q => ∃ p k, o = .ref p ∧ i = .int k ∧ ∃ j, v = f j ∧ ∃ ps L, Sts (pto p (.dK (dM f ps)) :: L) H ∧ ps.length ≤ 1000000 ∧
    ∀ H', Sts (pto p (.dK (dM f (putP ps k j))) :: L) H' → Q H') := by
  intro pn s0 σ H o i v ov iv u Q J ro ri rv ⟨p, k, eo, ei, j, ev, ps, L, S, hl, q⟩
  subst eo ei ev
  cases ro
  refine d_setItem hu J (.inl ⟨dM f ps, .inl k, S.hd, rfl, small (by unfold dM; rw [List.length_map]; exact hl), rfl⟩) ri rv fun s1 J1 => ⟨_, J1, q _ ?_⟩
  rw [putK_dM]
  exact S.put _
def tSumVals (td : TE) : TE := fun σ H Q => td σ H fun x H1 => ∃ a, x = .ref a ∧ ∃ ps L, Sts (pto a (.dK (dM V.int ps)) :: L) H1 ∧ Q (.int (ps.map (·.2)).sum) H1
theorem preS (f : Nat → Int) : ∀ (l : List Int) (n : Nat), (∀ i, l.getD i 0 = f (n + i)) → preSum f (n + l.length) = preSum f n + l.sum
  | [], n, _ => by simp
  | x :: l, n, h => by
    have h0 : x = f n := by simpa using h 0
    have ih := preS f l (n + 1) fun i => by
      have z := h (i + 1)
      rw [show n + 1 + i = n + (i + 1) by omega, ← z]
      rfl
    have e : preSum f (n + 1) = preSum f n + f n := rfl
    rw [List.length_cons, show n + (l.length + 1) = n + 1 + l.length by omega, ih, e, List.sum_cons, h0]
    omega
theorem oc_sumVals (hc : X.calm = true) (hg : Gl X "sum") (hm : X.mg "sum" = none) (hd : PE X o td) (hbase : attributeBase o "values" X.env (eval o X.env) = eval o X.env := by rfl) (hline : (apos.endLine == cpos.line) = true := by rfl)
    (hse : starEach [Expr.Call (.Attribute o "values" apos) [] [] cpos] X.env = [(false, eval (Expr.Call (.Attribute o "values" apos) [] [] cpos) X.env)] := by rfl) :
    PE X (.Call (.Name "sum" p) [.Call (.Attribute o "values" apos) [] [] cpos] [] pos) (tSumVals td) := by
  refine ⟨fun pn s0 σ H Q J h => wpAny_Call_Name_kw (ld_blt J hg hm (u := .builtin "sum") (by first | rfl | decide +kernel) ?_ (by first | decide +kernel | decide) (by first | decide +kernel | decide))⟩
  rw [hse]
  refine PySem.callWith_builtin1 (wpAny_Call_method0_late hbase hline (thn (hd.run pn s0 σ H _ J h) fun v s1 ⟨x, H1, J1, r1, a, ex, ps, L, S, q⟩ => ?_))
  subst ex
  obtain rfl : v = Value.ref a := r1
  obtain ⟨_, hsys, vs, rel, dof⟩ := dk_of J1.hok S.hd
  obtain ⟨ep, dat⟩ := dof.dictAt
  have dat' := dat
  obtain ⟨ob, es, ho, ex, hdat, hko, hpr, hnd⟩ := dat'
  refine ⟨"dict", "dict.values", F.plainAttrs_dict, F.slot_dict_values, F.type_dict_values, ⟨ob, ho, ex.1⟩, fun b e => ?_, Calls.callWith_builtin rfl (PySem.evalArgs_none ?_)⟩
  · cases e
    exact ⟨ob, ho, ex.2.1⟩
  refine call_meetsIn F.slot_dict_values ⟨ob, ho, ex.1⟩ F.entry_dict_values (F.args_dict_values_1 _) (meets_dict_values (mixKind X.prog X.w) a hsys) ⟨⟨vs, dof⟩, ?_⟩
  have k1 : ∀ b u, s1.heap.get? b = some u → (s1.heap.push { cls := .type "dict_values", data := .fields #[.ref a] }).get? b = some u := fun b u => Heap.get?_push_of_some _
  have dat1 := dat.keep k1
  have hlv : vs.length = ps.length := by
    have z := KV.length rel
    unfold dM at z
    rw [List.length_map] at z
    exact z.symm
  have hval : ∀ (i : Nat) (v : Value), (∃ k, vs[i]? = some (k, v)) → ∃ t, v = Value.int ((ps.map (·.2)).getD i 0) t := fun i v ⟨k, hk⟩ => by
    obtain ⟨x, h1, h2⟩ := KV.at' rel hk
    unfold dM at h1
    rw [List.getElem?_map] at h1
    obtain ⟨j, hj, e2⟩ := Option.map_eq_some_iff.mp h1
    have e3 : x = V.int j.2 := (congrArg Prod.snd e2).symm
    subst e3
    obtain ⟨t, e4⟩ := h2
    exact ⟨t, by rw [e4, List.getD_eq_getElem?_getD, List.getElem?_map, hj]; rfl⟩
  refine call_sum_walkG (wpAny_pyIter_values (v := s1.heap.objs.size) (d := a) ⟨_, Heap.get?_push_size _ rfl, rfl, rfl⟩ dat1 ?_)
  have hlt : a < s1.heap.objs.size := Heap.lt_size ho
  have hsz : (s1.heap.push { cls := .type "dict_values", data := .fields #[.ref a] }).objs.size = s1.heap.objs.size + 1 := Heap.size_push _ _
  refine ⟨_, _, _, _, _, _, _, rfl, Walks.dictValues (knd := mixKind X.prog X.w) (A := X.A.in1) (J.ok.hd hc) (s1.heap.push { cls := .type "dict_values", data := .fields #[.ref a] }).objs.size a (by rw [hsz]; exact Nat.ne_of_lt (Nat.lt_succ_of_lt hlt)) vs ep,
    ⟨⟨_, Heap.get?_push_size _ rfl, rfl, rfl⟩, dat1.keep fun b u e => Heap.get?_push_of_some _ e⟩, fun b hb => ?_, hval, fun h' tk t' hk => ?_⟩
  · show b < ((s1.heap.push _).push _).objs.size
    rw [Heap.size_push, Heap.size_push]
    rw [hsz] at hb
    have l1 := Nat.lt_succ_of_lt hlt
    refine (List.mem_cons.mp hb).elim (fun e => e ▸ Nat.lt_succ_self _) fun hb => ?_
    rw [show b = a from List.mem_singleton.mp hb]
    exact Nat.lt_succ_of_lt l1
  · have es : preSum (fun i => (ps.map (·.2)).getD i 0) vs.length = (ps.map (·.2)).sum := by
      have z := preS (fun i => (ps.map (·.2)).getD i 0) (ps.map (·.2)) 0 fun i => by rw [Nat.zero_add]
      have z0 : preSum (fun i => (ps.map (·.2)).getD i 0) 0 = 0 := rfl
      rw [Nat.zero_add, List.length_map, z0, Int.zero_add] at z
      rw [hlv]
      exact z
    rw [es]
    refine ⟨.int _, H1, J1.kept (t' := tk) fun b u e => hk b u (fun hmem => ?_) (Heap.get?_push_of_some _ (k1 b u e)), ⟨t', rfl⟩, q⟩
    have e1 := List.mem_singleton.mp hmem
    have e2 := Heap.lt_size e
    rw [e1, hsz] at e2
    exact Nat.lt_irrefl _ (Nat.lt_of_succ_lt e2)
/-- a statement that runs while a dict or list is locked -/
def tLockO (t : TS) : TS := fun D σ H => ∃ d u L, Sts (pto d u :: L) H ∧ Mut (some u) ∧ ∀ od H1, Sts (pto d (.frz od u) :: L) H1 → t
  ⟨fun σ' H' => ∃ M, Sts (pto d (.frz od u) :: M) H' ∧ ∀ H2, Sts (pto d u :: M) H2 → D.nx σ' H2, fun v H' => ∃ M, Sts (pto d (.frz od u) :: M) H' ∧ ∀ H2, Sts (pto d u :: M) H2 → D.rt v H2,
   fun σ' H' => ∃ M, Sts (pto d (.frz od u) :: M) H' ∧ ∀ H2, Sts (pto d u :: M) H2 → D.bk σ' H2, fun σ' H' => ∃ M, Sts (pto d (.frz od u) :: M) H' ∧ ∀ H2, Sts (pto d u :: M) H2 → D.ct σ' H2⟩ σ H1
theorem oc_lock {st : Stmt} {t : TS} (h : PS X st t) : PS X st (tLockO t) := by
  refine ⟨fun pn s0 σ H D J ⟨d, u, L, S, mu, hw⟩ => ?_⟩
  obtain ⟨od, J1⟩ := J.lock S.hd mu
  refine thn (h.run pn s0 σ _ _ J1 (hw od _ (S.put _))) fun f s1 q => ?_
  cases f with
  | next =>
    obtain ⟨σ', H', J2, M, S2, q⟩ := q
    exact ⟨σ', _, J2.unlock S2.hd (J.nofrz S.hd mu), q _ (S2.put u)⟩
  | brk =>
    obtain ⟨σ', H', J2, M, S2, q⟩ := q
    exact ⟨σ', _, J2.unlock S2.hd (J.nofrz S.hd mu), q _ (S2.put u)⟩
  | cont =>
    obtain ⟨σ', H', J2, M, S2, q⟩ := q
    exact ⟨σ', _, J2.unlock S2.hd (J.nofrz S.hd mu), q _ (S2.put u)⟩
  | ret v =>
    obtain ⟨x, σ', H', J2, r, M, S2, q⟩ := q
    exact ⟨x, σ', _, J2.unlock S2.hd (J.nofrz S.hd mu), r, q _ (S2.put u)⟩
end
/-- for k, v in d.items() -/
theorem for_items {α : Type} {f : α → V} {d : Addr} {od : Obj} {g : TG} {tb : TS} {D : Ends} {σ : L2.St} {H : Hp} (ps : List (Int × α)) (Pv : Nat → L2.St → Hp → Prop) (h0 : Pv 0 σ H) (hl : ∀ i σ H, Pv i σ H → ∃ L, Sts (pto d (.frz od (.dK (dM f ps))) :: L) H)
    (hs : ∀ i k v T σ H H', ps[i]? = some (k, v) → Pv i σ H → H T = none → upd H T (.tup [.int k, f v]) = H' → g (.ref T) σ H' fun σ2 H2 => tb { D with nx := Pv (i + 1), ct := Pv (i + 1), bk := D.nx } σ2 H2) (hd : ∀ σ H, Pv ps.length σ H → D.nx σ H) :
    ∃ W : Nat → Nat → L2.St → Hp → Prop, (∃ m, W 0 m σ H) ∧ ∀ i m σ H, W i m σ H →
      ((Iti d od (dM f ps)).stop i H ∧ D.nx σ H) ∨ ((Iti d od (dM f ps)).go i H ∧ ∃ N : L2.St → Hp → Prop, (∀ σ' H', N σ' H' → ∃ m', m' < m ∧ W (i + 1) m' σ' H') ∧ ∀ x H', (Iti d od (dM f ps)).yld i H x H' → g x σ H' fun σ2 H2 => tb { D with nx := N, ct := N, bk := D.nx } σ2 H2) := by
  have el : (dM f ps).length = ps.length := by
    unfold dM
    rw [List.length_map]
  refine oc_for (n := ps.length) Pv h0 (fun i σ H hi p => ?_) (fun σ H p => ?_) (fun i x σ H H' hi p y => ?_) hd
  · obtain ⟨L, S⟩ := hl i σ H p
    exact ⟨S.hd, by rw [el]; exact hi⟩
  · obtain ⟨L, S⟩ := hl _ σ H p
    exact ⟨S.hd, by rw [el]; exact Nat.le_refl _⟩
  · obtain ⟨T, k, v, h1, h2, h3, h4⟩ := y
    unfold dM at h1
    rw [List.getElem?_map] at h1
    obtain ⟨j, hj, e⟩ := Option.map_eq_some_iff.mp h1
    cases e
    rw [h2]
    exact hs i j.1 j.2 T σ H H' hj p h3 h4.symm
end Oc
namespace Oc
open PySem PySem.Spec PyProof.Rows L2
theorem atI_last2 (l : List Int) (i j : Int) : atI ((l ++ [i, j]).map V.int) (-2) = some (.int i) := by
  have hl : ((l ++ [i, j]).map V.int).length = l.length + 2 := by simp
  unfold atI ixN
  rw [hl, if_neg (by decide), if_pos (by omega)]
  show ((l ++ [i, j]).map V.int)[(-2 + ((l.length + 2 : Nat) : Int)).toNat]? = _
  rw [show (-2 + ((l.length + 2 : Nat) : Int)).toNat = l.length by omega]
  simp
/-- xs[-2], a list of ints that ends with i, j -/
theorem oc_ixLast2 {X : Cx} {K : PySem.W.Frag} (hK : X.K = K) : IxR X (fun x y H Q => ∃ p, ∃ ns : List Int, x = .ref p ∧ y = .int (-2) ∧ SqL K H p (ns.map V.int) ∧ ∃ l i j, ns = l ++ [i, j] ∧ Q (.int i) H) := fun va sl pins s σ H x y v u Q I rx ry ⟨p, ns, e1, e2, h, l, i, j, b, q⟩ hs =>
  ix_list va sl pins s σ H x y v u Q I rx ry ⟨p, _, -2, .int i, e1, e2, hK ▸ h, by
    rw [b]
    exact atI_last2 l i j, q⟩ hs
theorem hI7 {H : Hp} {a : Addr} {x y z u v w t : Int} (h : H a = some (.lst [V.int x, V.int y, V.int z, V.int u, V.int v, V.int w, V.int t])) : H a = some (.lst (List.map V.int [x, y, z, u, v, w, t])) := h
theorem hI4 {H : Hp} {a : Addr} {x y z u : Int} (h : H a = some (.lst [V.int x, V.int y, V.int z, V.int u])) : H a = some (.lst (List.map V.int [x, y, z, u])) := h
theorem lc_BI {K : PySem.W.Frag} {a : Addr} {k : Nat} {te : TE} {vs : List Nat} {σ : L2.St} {H0 : Hp} {Qd : Hp → Prop} {L : List Asr} {D : Addr} (ns : List Int) (f : Int → Bool) (S : Sts (pto D (.lst []) :: L) H0) (hsq : ∀ H, Sts L H → SqL K H a (ns.map V.int)) (hl : ns.length ≤ 1000000)
    (hw : ∀ x, wipe ((wipe σ vs).set k (some x)) vs = wipe σ vs) (he : ∀ (x : Int) (H : Hp) (Q' : VK), x ∈ ns → Sts L H → Q' (.bl (f x)) H → te ((wipe σ vs).set k (some (.int x))) H Q')
    (hd : ∀ H, Sts (pto D (.lst ((ns.map f).map V.bl)) :: L) H → Qd H) :
    ∃ W : Nat → Nat → Hp → Prop, (∃ m, W 0 m H0) ∧ ∀ i m H, W i m H →
      ((Itl K a).stop i H ∧ Qd H) ∨ ((Itl K a).go i H ∧ ∃ Nx : Hp → Prop, (∀ H', Nx H' → ∃ m', m' < m ∧ W (i + 1) m' H') ∧ ∀ x H', (Itl K a).yld i H x H' → gName k x (wipe σ vs) H' fun σ2 H2 => wipe σ2 vs = wipe σ vs ∧ tYes σ2 H2 fun b H3 =>
        if b = true then te σ2 H3 fun y H4 => ∃ acc, H4 D = some (.lst acc) ∧ acc.length < sizeLine ∧ Nx (upd H4 D (.lst (acc ++ [y]))) else Nx H3) :=
  lc_pureI ns (fun x => .bl (f x)) S hsq hl hw he (fun H S => hd H (by rw [List.map_map]; exact S))
theorem all_yes (ns : List Int) : (ns.map fun _ => true).all id = true := by simp
theorem deq {α : Type} [DecidableEq α] (a : α) : decide (a = a) = true := decide_eq_true rfl
/-- int(b), in facts -/
theorem oc_int_bA {X : Cx} : CallR X (.type "int") (fun xs H Q => ∃ k, xs = [.bl k] ∧ ∀ o : Int, 0 ≤ o → o ≤ 1 → (o = 1 ↔ k = true) → Q (.int o) H) := fun pins s σ H xs us Q I r ⟨k, e, q⟩ =>
  call_int1 pins s σ H xs us Q I r (.inr ⟨k, e, q _ (by cases k <;> decide) (by cases k <;> decide) (by cases k <;> decide)⟩)
theorem gI_get {L : List Int} {k : Int} (h0 : 0 ≤ k) (h1 : k < L.length) : L[k.toNat]? = some (gI L k) := by
  have h : k.toNat < L.length := by omega
  rw [List.getElem?_eq_getElem h]
  unfold gI
  rw [List.getD_eq_getElem?_getD, List.getElem?_eq_getElem h]
  rfl
theorem rep0 (k : Nat) (x : Int) : (List.replicate k [x]).flatten = List.replicate k x := by
  induction k with
  | zero => rfl
  | succ k ih => rw [List.replicate_succ, List.flatten_cons, ih, List.replicate_succ]; rfl
end Oc
/-! ### short tactics -/
local macro_rules | `(tactic| walk_at "fr1") => `(tactic| first | exact Oc.Sts.to0 (by assumption) | exact Oc.Sts.to1 (by assumption) | exact Oc.Sts.to2 (by assumption) | exact Oc.Sts.to3 (by assumption) | exact Oc.Sts.to4 (by assumption) | exact Oc.Sts.to5 (by assumption) | exact Oc.Sts.to6 (by assumption) | exact Oc.Sts.to7 (by assumption) | exact Oc.Sts.to8 (by assumption) | exact Oc.Sts.to9 (by assumption) | exact Oc.Sts.to10 (by assumption) | exact Oc.Sts.to11 (by assumption) | exact Oc.Sts.to12 (by assumption) | exact Oc.Sts.to13 (by assumption) | exact Oc.Sts.to14 (by assumption) | exact Oc.Sts.to15 (by assumption) | exact Oc.Sts.to16 (by assumption) | exact Oc.Sts.to17 (by assumption) | exact Oc.Sts.to18 (by assumption) | exact Oc.Sts.to19 (by assumption) | exact Oc.Sts.to20 (by assumption) | exact Oc.Sts.to21 (by assumption) | exact Oc.Sts.to22 (by assumption) | exact Oc.Sts.to23 (by assumption) | exact Oc.Sts.to24 (by assumption))
local macro_rules | `(tactic| walk_at "hp") => `(tactic| first | exact Oc.Sts.hd (Oc.Sts.to0 (by assumption)) | exact Oc.Sts.hd (Oc.Sts.to1 (by assumption)) | exact Oc.Sts.hd (Oc.Sts.to2 (by assumption)) | exact Oc.Sts.hd (Oc.Sts.to3 (by assumption)) | exact Oc.Sts.hd (Oc.Sts.to4 (by assumption)) | exact Oc.Sts.hd (Oc.Sts.to5 (by assumption)) | exact Oc.Sts.hd (Oc.Sts.to6 (by assumption)) | exact Oc.Sts.hd (Oc.Sts.to7 (by assumption)) | exact Oc.Sts.hd (Oc.Sts.to8 (by assumption)) | exact Oc.Sts.hd (Oc.Sts.to9 (by assumption)) | exact Oc.Sts.hd (Oc.Sts.to10 (by assumption)) | exact Oc.Sts.hd (Oc.Sts.to11 (by assumption)) | exact Oc.Sts.hd (Oc.Sts.to12 (by assumption)) | exact Oc.Sts.hd (Oc.Sts.to13 (by assumption)) | exact Oc.Sts.hd (Oc.Sts.to14 (by assumption)) | exact Oc.Sts.hd (Oc.Sts.to15 (by assumption)) | exact Oc.Sts.hd (Oc.Sts.to16 (by assumption)) | exact Oc.Sts.hd (Oc.Sts.to17 (by assumption)) | exact Oc.Sts.hd (Oc.Sts.to18 (by assumption)) | exact Oc.Sts.hd (Oc.Sts.to19 (by assumption)) | exact Oc.Sts.hd (Oc.Sts.to20 (by assumption)) | exact Oc.Sts.hd (Oc.Sts.to21 (by assumption)) | exact Oc.Sts.hd (Oc.Sts.to22 (by assumption)) | exact Oc.Sts.hd (Oc.Sts.to23 (by assumption)) | exact Oc.Sts.hd (Oc.Sts.to24 (by assumption)))
local macro_rules | `(tactic| walk_at "sq") => `(tactic| first | exact L2.SqL.of (by walk_at "hp") | exact Oc.Sts.sq (by walk_at "fr1") | exact L2.SqL.of (Oc.hI1 (by walk_at "hp")) | exact L2.SqL.of (Oc.hI0 (by walk_at "hp")) | exact L2.SqL.of (Oc.hI2 (by walk_at "hp")) | exact L2.SqL.of (Oc.hI3 (by walk_at "hp")) | exact L2.SqL.of (Oc.hI7 (by walk_at "hp")) | exact L2.SqL.of (Oc.hI4 (by walk_at "hp")))
local macro_rules | `(tactic| walk_at "hpI") => `(tactic| first | walk_at "hp" | exact Oc.hI1 (by walk_at "hp") | exact Oc.hI0 (by walk_at "hp") | exact Oc.hI2 (by walk_at "hp") | exact Oc.hI3 (by walk_at "hp") | exact Oc.hI7 (by walk_at "hp") | exact Oc.hI4 (by walk_at "hp"))
local macro_rules | `(tactic| walk_at "frI") => `(tactic| first | walk_at "fr1" | exact Oc.gI0 (by walk_at "fr1") | exact Oc.gI1 (by walk_at "fr1") | exact Oc.gI2 (by walk_at "fr1"))
local macro_rules | `(tactic| walk_at "fr2") => `(tactic| first | (refine Oc.Sts.under (fun _ ot => ?_) (Oc.Sts.to0 (by assumption)); walk_at "fr1") | (refine Oc.Sts.under (fun _ ot => ?_) (Oc.Sts.to1 (by assumption)); walk_at "fr1") | (refine Oc.Sts.under (fun _ ot => ?_) (Oc.Sts.to2 (by assumption)); walk_at "fr1") | (refine Oc.Sts.under (fun _ ot => ?_) (Oc.Sts.to3 (by assumption)); walk_at "fr1") | (refine Oc.Sts.under (fun _ ot => ?_) (Oc.Sts.to4 (by assumption)); walk_at "fr1") | (refine Oc.Sts.under (fun _ ot => ?_) (Oc.Sts.to5 (by assumption)); walk_at "fr1") | (refine Oc.Sts.under (fun _ ot => ?_) (Oc.Sts.to6 (by assumption)); walk_at "fr1") | (refine Oc.Sts.under (fun _ ot => ?_) (Oc.Sts.to7 (by assumption)); walk_at "fr1") | (refine Oc.Sts.under (fun _ ot => ?_) (Oc.Sts.to8 (by assumption)); walk_at "fr1") | (refine Oc.Sts.under (fun _ ot => ?_) (Oc.Sts.to9 (by assumption)); walk_at "fr1") | (refine Oc.Sts.under (fun _ ot => ?_) (Oc.Sts.to10 (by assumption)); walk_at "fr1") | (refine Oc.Sts.under (fun _ ot => ?_) (Oc.Sts.to11 (by assumption)); walk_at "fr1") | (refine Oc.Sts.under (fun _ ot => ?_) (Oc.Sts.to12 (by assumption)); walk_at "fr1") | (refine Oc.Sts.under (fun _ ot => ?_) (Oc.Sts.to13 (by assumption)); walk_at "fr1") | (refine Oc.Sts.under (fun _ ot => ?_) (Oc.Sts.to14 (by assumption)); walk_at "fr1") | (refine Oc.Sts.under (fun _ ot => ?_) (Oc.Sts.to15 (by assumption)); walk_at "fr1") | (refine Oc.Sts.under (fun _ ot => ?_) (Oc.Sts.to16 (by assumption)); walk_at "fr1") | (refine Oc.Sts.under (fun _ ot => ?_) (Oc.Sts.to17 (by assumption)); walk_at "fr1") | (refine Oc.Sts.under (fun _ ot => ?_) (Oc.Sts.to18 (by assumption)); walk_at "fr1") | (refine Oc.Sts.under (fun _ ot => ?_) (Oc.Sts.to19 (by assumption)); walk_at "fr1") | (refine Oc.Sts.under (fun _ ot => ?_) (Oc.Sts.to20 (by assumption)); walk_at "fr1") | (refine Oc.Sts.under (fun _ ot => ?_) (Oc.Sts.to21 (by assumption)); walk_at "fr1") | (refine Oc.Sts.under (fun _ ot => ?_) (Oc.Sts.to22 (by assumption)); walk_at "fr1") | (refine Oc.Sts.under (fun _ ot => ?_) (Oc.Sts.to23 (by assumption)); walk_at "fr1") | (refine Oc.Sts.under (fun _ ot => ?_) (Oc.Sts.to24 (by assumption)); walk_at "fr1"))
local macro_rules | `(tactic| walk_at "fr3") => `(tactic| first | (refine Oc.Sts.under (fun _ ot => ?_) (Oc.Sts.to0 (by assumption)); walk_at "fr2") | (refine Oc.Sts.under (fun _ ot => ?_) (Oc.Sts.to1 (by assumption)); walk_at "fr2") | (refine Oc.Sts.under (fun _ ot => ?_) (Oc.Sts.to2 (by assumption)); walk_at "fr2") | (refine Oc.Sts.under (fun _ ot => ?_) (Oc.Sts.to3 (by assumption)); walk_at "fr2") | (refine Oc.Sts.under (fun _ ot => ?_) (Oc.Sts.to4 (by assumption)); walk_at "fr2") | (refine Oc.Sts.under (fun _ ot => ?_) (Oc.Sts.to5 (by assumption)); walk_at "fr2") | (refine Oc.Sts.under (fun _ ot => ?_) (Oc.Sts.to6 (by assumption)); walk_at "fr2") | (refine Oc.Sts.under (fun _ ot => ?_) (Oc.Sts.to7 (by assumption)); walk_at "fr2") | (refine Oc.Sts.under (fun _ ot => ?_) (Oc.Sts.to8 (by assumption)); walk_at "fr2") | (refine Oc.Sts.under (fun _ ot => ?_) (Oc.Sts.to9 (by assumption)); walk_at "fr2") | (refine Oc.Sts.under (fun _ ot => ?_) (Oc.Sts.to10 (by assumption)); walk_at "fr2") | (refine Oc.Sts.under (fun _ ot => ?_) (Oc.Sts.to11 (by assumption)); walk_at "fr2") | (refine Oc.Sts.under (fun _ ot => ?_) (Oc.Sts.to12 (by assumption)); walk_at "fr2") | (refine Oc.Sts.under (fun _ ot => ?_) (Oc.Sts.to13 (by assumption)); walk_at "fr2") | (refine Oc.Sts.under (fun _ ot => ?_) (Oc.Sts.to14 (by assumption)); walk_at "fr2") | (refine Oc.Sts.under (fun _ ot => ?_) (Oc.Sts.to15 (by assumption)); walk_at "fr2") | (refine Oc.Sts.under (fun _ ot => ?_) (Oc.Sts.to16 (by assumption)); walk_at "fr2") | (refine Oc.Sts.under (fun _ ot => ?_) (Oc.Sts.to17 (by assumption)); walk_at "fr2") | (refine Oc.Sts.under (fun _ ot => ?_) (Oc.Sts.to18 (by assumption)); walk_at "fr2") | (refine Oc.Sts.under (fun _ ot => ?_) (Oc.Sts.to19 (by assumption)); walk_at "fr2") | (refine Oc.Sts.under (fun _ ot => ?_) (Oc.Sts.to20 (by assumption)); walk_at "fr2") | (refine Oc.Sts.under (fun _ ot => ?_) (Oc.Sts.to21 (by assumption)); walk_at "fr2") | (refine Oc.Sts.under (fun _ ot => ?_) (Oc.Sts.to22 (by assumption)); walk_at "fr2") | (refine Oc.Sts.under (fun _ ot => ?_) (Oc.Sts.to23 (by assumption)); walk_at "fr2") | (refine Oc.Sts.under (fun _ ot => ?_) (Oc.Sts.to24 (by assumption)); walk_at "fr2"))
local macro_rules | `(tactic| walk_at "fp") => `(tactic| first | assumption | exact trivial | exact Oc.Sts.tail (by assumption) | exact Oc.Sts.tail (Oc.Sts.tail (by assumption)) | exact Oc.Sts.tail (Oc.Sts.tail (Oc.Sts.tail (by assumption))) | exact Oc.Sts.tail (Oc.Sts.tail (Oc.Sts.tail (Oc.Sts.tail (by assumption)))) | exact Oc.Sts.tail (Oc.Sts.tail (Oc.Sts.tail (Oc.Sts.tail (Oc.Sts.tail (by assumption))))) | exact Oc.Sts.tail (Oc.Sts.tail (Oc.Sts.tail (Oc.Sts.tail (Oc.Sts.tail (Oc.Sts.tail (by assumption)))))) | exact Oc.Sts.tail (Oc.Sts.tail (Oc.Sts.tail (Oc.Sts.tail (Oc.Sts.tail (Oc.Sts.tail (Oc.Sts.tail (by assumption))))))) | exact Oc.Sts.tail (Oc.Sts.tail (Oc.Sts.tail (Oc.Sts.tail (Oc.Sts.tail (Oc.Sts.tail (Oc.Sts.tail (Oc.Sts.tail (by assumption)))))))) | exact Oc.Sts.tail (Oc.Sts.tail (Oc.Sts.tail (Oc.Sts.tail (Oc.Sts.tail (Oc.Sts.tail (Oc.Sts.tail (Oc.Sts.tail (Oc.Sts.tail (by assumption))))))))) | exact Oc.Sts.tail (Oc.Sts.tail (Oc.Sts.tail (Oc.Sts.tail (Oc.Sts.tail (Oc.Sts.tail (Oc.Sts.tail (Oc.Sts.tail (Oc.Sts.tail (Oc.Sts.tail (by assumption)))))))))) | exact Oc.Sts.tail (Oc.Sts.tail (Oc.Sts.tail (Oc.Sts.tail (Oc.Sts.tail (Oc.Sts.tail (Oc.Sts.tail (Oc.Sts.tail (Oc.Sts.tail (Oc.Sts.tail (Oc.Sts.tail (by assumption))))))))))) | exact Oc.Sts.tail (Oc.Sts.tail (Oc.Sts.tail (Oc.Sts.tail (Oc.Sts.tail (Oc.Sts.tail (Oc.Sts.tail (Oc.Sts.tail (Oc.Sts.tail (Oc.Sts.tail (Oc.Sts.tail (Oc.Sts.tail (by assumption)))))))))))) | exact Oc.Sts.tail (Oc.Sts.tail (Oc.Sts.tail (Oc.Sts.tail (Oc.Sts.tail (Oc.Sts.tail (Oc.Sts.tail (Oc.Sts.tail (Oc.Sts.tail (Oc.Sts.tail (Oc.Sts.tail (Oc.Sts.tail (Oc.Sts.tail (by assumption))))))))))))) | exact Oc.Sts.tail (Oc.Sts.tail (Oc.Sts.tail (Oc.Sts.tail (Oc.Sts.tail (Oc.Sts.tail (Oc.Sts.tail (Oc.Sts.tail (Oc.Sts.tail (Oc.Sts.tail (Oc.Sts.tail (Oc.Sts.tail (Oc.Sts.tail (Oc.Sts.tail (by assumption)))))))))))))) | exact Oc.Sts.tail (Oc.Sts.tail (Oc.Sts.tail (Oc.Sts.tail (Oc.Sts.tail (Oc.Sts.tail (Oc.Sts.tail (Oc.Sts.tail (Oc.Sts.tail (Oc.Sts.tail (Oc.Sts.tail (Oc.Sts.tail (Oc.Sts.tail (Oc.Sts.tail (Oc.Sts.tail (by assumption))))))))))))))) | exact Oc.Sts.tail (Oc.Sts.tail (Oc.Sts.tail (Oc.Sts.tail (Oc.Sts.tail (Oc.Sts.tail (Oc.Sts.tail (Oc.Sts.tail (Oc.Sts.tail (Oc.Sts.tail (Oc.Sts.tail (Oc.Sts.tail (Oc.Sts.tail (Oc.Sts.tail (Oc.Sts.tail (Oc.Sts.tail (by assumption)))))))))))))))) | exact Oc.Sts.tail (Oc.Sts.tail (Oc.Sts.tail (Oc.Sts.tail (Oc.Sts.tail (Oc.Sts.tail (Oc.Sts.tail (Oc.Sts.tail (Oc.Sts.tail (Oc.Sts.tail (Oc.Sts.tail (Oc.Sts.tail (Oc.Sts.tail (Oc.Sts.tail (Oc.Sts.tail (Oc.Sts.tail (Oc.Sts.tail (by assumption))))))))))))))))) | exact Oc.Sts.tail (Oc.Sts.tail (Oc.Sts.tail (Oc.Sts.tail (Oc.Sts.tail (Oc.Sts.tail (Oc.Sts.tail (Oc.Sts.tail (Oc.Sts.tail (Oc.Sts.tail (Oc.Sts.tail (Oc.Sts.tail (Oc.Sts.tail (Oc.Sts.tail (Oc.Sts.tail (Oc.Sts.tail (Oc.Sts.tail (Oc.Sts.tail (by assumption)))))))))))))))))) | exact Oc.Sts.tail (Oc.Sts.tail (Oc.Sts.tail (Oc.Sts.tail (Oc.Sts.tail (Oc.Sts.tail (Oc.Sts.tail (Oc.Sts.tail (Oc.Sts.tail (Oc.Sts.tail (Oc.Sts.tail (Oc.Sts.tail (Oc.Sts.tail (Oc.Sts.tail (Oc.Sts.tail (Oc.Sts.tail (Oc.Sts.tail (Oc.Sts.tail (Oc.Sts.tail (by assumption))))))))))))))))))) | exact Oc.Sts.tail (Oc.Sts.tail (Oc.Sts.tail (Oc.Sts.tail (Oc.Sts.tail (Oc.Sts.tail (Oc.Sts.tail (Oc.Sts.tail (Oc.Sts.tail (Oc.Sts.tail (Oc.Sts.tail (Oc.Sts.tail (Oc.Sts.tail (Oc.Sts.tail (Oc.Sts.tail (Oc.Sts.tail (Oc.Sts.tail (Oc.Sts.tail (Oc.Sts.tail (Oc.Sts.tail (by assumption)))))))))))))))))))) | (refine Oc.Sts.under (fun _ ot => ?_) (Oc.Sts.to0 (by assumption)); walk_at "fp") | (refine Oc.Sts.under (fun _ ot => ?_) (Oc.Sts.to1 (by assumption)); walk_at "fp") | (refine Oc.Sts.under (fun _ ot => ?_) (Oc.Sts.to2 (by assumption)); walk_at "fp") | (refine Oc.Sts.under (fun _ ot => ?_) (Oc.Sts.to3 (by assumption)); walk_at "fp") | (refine Oc.Sts.under (fun _ ot => ?_) (Oc.Sts.to4 (by assumption)); walk_at "fp") | (refine Oc.Sts.under (fun _ ot => ?_) (Oc.Sts.to5 (by assumption)); walk_at "fp") | (refine Oc.Sts.under (fun _ ot => ?_) (Oc.Sts.to6 (by assumption)); walk_at "fp") | (refine Oc.Sts.under (fun _ ot => ?_) (Oc.Sts.to7 (by assumption)); walk_at "fp") | (refine Oc.Sts.under (fun _ ot => ?_) (Oc.Sts.to8 (by assumption)); walk_at "fp") | (refine Oc.Sts.under (fun _ ot => ?_) (Oc.Sts.to9 (by assumption)); walk_at "fp") | (refine Oc.Sts.under (fun _ ot => ?_) (Oc.Sts.to10 (by assumption)); walk_at "fp") | (refine Oc.Sts.under (fun _ ot => ?_) (Oc.Sts.to11 (by assumption)); walk_at "fp") | (refine Oc.Sts.under (fun _ ot => ?_) (Oc.Sts.to12 (by assumption)); walk_at "fp") | (refine Oc.Sts.under (fun _ ot => ?_) (Oc.Sts.to13 (by assumption)); walk_at "fp") | (refine Oc.Sts.under (fun _ ot => ?_) (Oc.Sts.to14 (by assumption)); walk_at "fp") | (refine Oc.Sts.under (fun _ ot => ?_) (Oc.Sts.to15 (by assumption)); walk_at "fp") | (refine Oc.Sts.under (fun _ ot => ?_) (Oc.Sts.to16 (by assumption)); walk_at "fp") | (refine Oc.Sts.under (fun _ ot => ?_) (Oc.Sts.to17 (by assumption)); walk_at "fp") | (refine Oc.Sts.under (fun _ ot => ?_) (Oc.Sts.to18 (by assumption)); walk_at "fp") | (refine Oc.Sts.under (fun _ ot => ?_) (Oc.Sts.to19 (by assumption)); walk_at "fp") | (refine Oc.Sts.under (fun _ ot => ?_) (Oc.Sts.to20 (by assumption)); walk_at "fp") | (refine Oc.Sts.under (fun _ ot => ?_) (Oc.Sts.to21 (by assumption)); walk_at "fp") | (refine Oc.Sts.under (fun _ ot => ?_) (Oc.Sts.to22 (by assumption)); walk_at "fp") | (refine Oc.Sts.under (fun _ ot => ?_) (Oc.Sts.to23 (by assumption)); walk_at "fp") | (refine Oc.Sts.under (fun _ ot => ?_) (Oc.Sts.to24 (by assumption)); walk_at "fp"))
local macro_rules | `(tactic| walk_at "side") => `(tactic| first | omega | (dsimp only; omega) | exact Oc.le_cut2 (by omega) | exact Or.inr ⟨by omega, by omega⟩ | exact Or.inl ⟨by omega, by omega⟩ | exact ⟨by omega, by omega⟩ | exact ⟨by omega, by omega, by decide⟩ | exact Oc.small (by simp only [List.length_map, List.length_append, List.length_cons, List.length_nil, List.length_set, List.length_range, Oc.len_rep]; omega) | exact Oc.small' (by simp only [List.length_map, List.length_append, List.length_cons, List.length_nil, List.length_set, List.length_range, Oc.len_rep]; omega) | (simp only [List.length_map, List.length_append, List.length_cons, List.length_nil, List.length_set, List.length_range, Oc.len_rep]; omega))
local macro_rules | `(tactic| walk_at "go1") => `(tactic| first
  | refine ⟨_, rfl, fun (oo : Int) o0 o1 ob => ?_⟩
  | refine ⟨_, rfl, ?_⟩
  | refine ⟨_, _, rfl, rfl, _, _, Oc.pr (by walk_at "fr1"), Oc.pr (by walk_at "side"), fun oh os => ?_⟩
  | refine ⟨_, _, rfl, rfl, _, _, Oc.pr (by walk_at "frI"), Oc.pr (by walk_at "side"), fun oh os => ?_⟩
  | refine ⟨_, _, _, rfl, rfl, rfl, _, _, Oc.pr (by walk_at "frI"), Oc.pr (by walk_at "side"), fun oh os => ?_⟩
  | refine ⟨_, _, rfl, rfl, Oc.pr (by walk_at "side"), ?_⟩
  | refine ⟨_, _, rfl, rfl, ?_⟩
  | refine ⟨rfl, rfl, ?_⟩
  | refine ⟨rfl, ?_⟩
  | refine ⟨(by omega : -(2 ^ 62 : Int) ≤ _), (by omega : _ < (2 ^ 62 : Int)), ?_⟩
  | refine ⟨_, _, rfl, Oc.pr (by walk_at "sq"), ?_⟩
  | refine ⟨⟨_, Oc.pr (by walk_at "sq")⟩, ?_⟩
  | refine ⟨_, _, _, rfl, rfl, Oc.pr (by walk_at "sq"), Oc.pr (by walk_at "side"), ?_⟩
  | refine ⟨_, _, _, rfl, rfl, Oc.pr (by walk_at "hpI"), Oc.pr (by walk_at "side"), ?_⟩
  | refine ⟨_, _, _, _, rfl, rfl, Oc.pr (by walk_at "sq"), Oc.pr (by walk_at "sq"), ?_⟩
  | refine ⟨_, _, _, _, rfl, rfl, Oc.pr (by walk_at "hpI"), Oc.pr (by walk_at "hpI"), Oc.pr (by walk_at "side"), ?_⟩
  | refine ⟨_, _, _, _, rfl, rfl, Oc.pr (by walk_at "sq"), rfl, ?_⟩
  | refine ⟨.inl ⟨rfl, _, L2.SqL.of (by walk_at "hp")⟩, ?_⟩
  | refine ⟨(Oc.pr (by first | exact Oc.small' (by decide) | walk_at "side") : _ ≤ PySem.sizeLine), ?_⟩
  | (intro op np; generalize hG : L2.upd _ op _ = oh; have os := Oc.Sts.newE (by assumption) np hG; clear hG np)
  | refine ⟨_, _, rfl, L2.SqT.of (by walk_at "hp"), rfl, ?_⟩
  | refine ⟨(_ : L2.V), (_ : List L2.V), rfl, ?_⟩
  | refine ⟨_, .inl ⟨_, Oc.pr (by walk_at "sq"), rfl⟩, ?_⟩
  | refine ⟨_, _, rfl, Oc.pr (by walk_at "hp"), ?_⟩
  | refine ⟨⟨_, _, Oc.gDx (by walk_at "fr1")⟩, ?_⟩
  | refine ⟨_, _, Oc.pr (by first | exact Oc.gD (by walk_at "fr1") | exact Oc.gD0 _ (by walk_at "fr1")), Oc.pr (by walk_at "side"), fun oh os => ?_⟩
  | refine ⟨_, _, Oc.pr (by first | exact Oc.gD (by walk_at "fr1") | exact Oc.gD0 _ (by walk_at "fr1")), ?_⟩
  | refine ⟨_, rfl, fun (oo : Int) o0 o1 ob => ?_⟩
  | refine ⟨(_ : Int), (_ : Int), rfl, ?_⟩)
local macro_rules | `(tactic| walk_at "ife") => `(tactic| with_reducible first | refine Oc.ifTT ?_ | refine Oc.ifFF ?_ | refine Oc.ifNT ?_ | refine Oc.ifNF ?_ | refine Oc.ifDE ?_ | refine Oc.ifNE ?_)
local macro_rules | `(tactic| walk_at "go") => `(tactic| repeat (first | walk_at "ife" | ((fail_if_success (with_reducible refine Oc.ifB (fun _ => ?_) (fun _ => ?_))); walk_at "go1")))
local macro_rules | `(tactic| walk_at "lce") => `(tactic| (refine ⟨_, (by walk_at "hp"), Oc.small (by simp only [List.length_map, List.length_append, List.length_cons, List.length_nil, List.length_set, List.length_range, Oc.len_rep]; omega), ?_⟩; generalize hw : L2.upd _ _ _ = oh; have os := Oc.Sts.putE (by walk_at "fr1") hw; clear hw))

/-! ### chains: heights, the stretch (plain lists) -/
namespace Ch
def hAb (c b w : Int) : Int := if c = 0 then b + 1 else if c = 1 ∧ b ≥ w then 1 else 0
/-- the height of the first page -/
def hgt (w : Int) : List Int → Int
  | [] => 0
  | c :: r => hAb c (hgt w r) w
/-- the heights of all pages -/
def hts (w : Int) : List Int → List Int
  | [] => []
  | c :: r => hgt w (c :: r) :: hts w r
theorem hts_len (w : Int) : ∀ L : List Int, (hts w L).length = L.length
  | [] => rfl
  | _ :: r => by rw [hts, List.length_cons, List.length_cons, hts_len w r]
theorem hgt_nn (w : Int) : ∀ L : List Int, 0 ≤ hgt w L
  | [] => Int.le_refl 0
  | c :: r => by
    have ih := hgt_nn w r
    unfold hgt hAb
    split
    · omega
    · split <;> omega
/-- some height is too great -/
def Lost (w : Int) : List Int → Prop
  | [] => False
  | c :: r => w < hgt w (c :: r) ∨ Lost w r
theorem lost_any (w : Int) : ∀ L : List Int, Lost w L ↔ ∃ h ∈ hts w L, w < h
  | [] => ⟨fun h => h.elim, fun ⟨_, h, _⟩ => by cases h⟩
  | c :: r => by
    have ih := lost_any w r
    constructor
    · intro h
      rcases h with h | h
      · exact ⟨_, List.mem_cons_self, h⟩
      · obtain ⟨x, hx, h⟩ := ih.mp h
        exact ⟨x, List.mem_cons_of_mem _ hx, h⟩
    · rintro ⟨x, hx, h⟩
      rcases List.mem_cons.mp hx with e | hx
      · exact .inl (e ▸ h)
      · exact .inr (ih.mpr ⟨x, hx, h⟩)
def Nn (L : List Int) : Prop := ∀ x ∈ L, 0 ≤ x
def AllZ (L : List Int) : Prop := ∀ x ∈ L, x = 0
/-- the reading from a page on: k groups are looked at -/
def scan (w : Nat) : Nat → List Int → Prop
  | 0, _ => False
  | _ + 1, [] => False
  | k + 1, c :: r => c ≤ 1 ∧ (c = 0 ∨ (AllZ (r.take (w - 1)) ∧ scan w k (r.drop (w - 1))))
def Stretch (w : Nat) (L : List Int) : Prop := ∃ s, s + w < L.length ∧ AllZ ((L.drop s).take w) ∧ scan w L.length (L.drop (s + w))
theorem hgt_zeros (w : Int) : ∀ (k : Nat) (L : List Int), AllZ (L.take k) → k ≤ L.length → hgt w L = k + hgt w (L.drop k)
  | 0, L, _, _ => by simp
  | k + 1, [], _, h => absurd h (by simp)
  | k + 1, c :: r, hz, h => by
    have hc : c = 0 := hz c (by simp)
    have ih := hgt_zeros w k r (fun x hx => hz x (by simp [hx])) (by simpa using h)
    show hAb c (hgt w r) w = _
    rw [ih, hc]
    unfold hAb
    rw [if_pos rfl, List.drop_succ_cons]
    omega
theorem scan_hgt {w : Nat} (hw : 1 ≤ w) : ∀ (k : Nat) (L : List Int), Nn L → scan w k L → 1 ≤ hgt w L
  | 0, _, _, h => h.elim
  | _ + 1, [], _, h => h.elim
  | k + 1, c :: r, hn, ⟨h1, h⟩ => by
    have g := hgt_nn (w : Int) r
    show 1 ≤ hAb c (hgt w r) w
    unfold hAb
    rcases h with h | ⟨hz, h⟩
    · rw [if_pos h]
      omega
    · by_cases hc : c = 0
      · rw [if_pos hc]
        omega
      · have h0 := hn c List.mem_cons_self
        have ih := scan_hgt hw k (r.drop (w - 1)) (fun x hx => hn x (List.mem_cons_of_mem _ (List.mem_of_mem_drop hx))) h
        have hl : w - 1 ≤ r.length := by
          apply Decidable.byContradiction
          intro q
          have e : r.drop (w - 1) = [] := List.drop_of_length_le (by omega)
          rw [e] at ih
          have z : (1 : Int) ≤ 0 := ih
          omega
        have e := hgt_zeros (w : Int) (w - 1) r hz hl
        rw [if_neg hc, if_pos ⟨by omega, by omega⟩]
        omega
theorem stretch_lost {w : Nat} (hw : 1 ≤ w) {L : List Int} (hn : Nn L) (h : Stretch w L) : Lost w L := by
  obtain ⟨s, hs, hz, h⟩ := h
  have h1 := scan_hgt hw _ _ (fun x hx => hn x (List.mem_of_mem_drop hx)) h
  have e := hgt_zeros (w : Int) w (L.drop s) hz (by rw [List.length_drop]; omega)
  rw [List.drop_drop] at e
  have up : ∀ (s : Nat) (L : List Int), s < L.length → (w : Int) < hgt w (L.drop s) → Lost w L := by
    intro s
    induction s with
    | zero =>
      intro L hl q
      cases L with
      | nil => simp at hl
      | cons c r => exact .inl q
    | succ s ih =>
      intro L hl q
      cases L with
      | nil => simp at hl
      | cons c r => exact .inr (ih r (by simpa using hl) q)
  exact up s L (by omega) (by omega)
/-- a height of two or more: a page without a blank line above the height that is one less -/
theorem hgt_two {w : Int} {c : Int} {r : List Int} {k : Int} (h : hgt w (c :: r) = k) (hk : 2 ≤ k) : c = 0 ∧ hgt w r = k - 1 := by
  have h : hAb c (hgt w r) w = k := h
  unfold hAb at h
  split at h
  · exact ⟨by assumption, by omega⟩
  · split at h <;> omega
theorem hgt_down {w : Int} : ∀ (k : Nat) (L : List Int), hgt w L = k + 1 → AllZ (L.take k) ∧ k < L.length ∧ hgt w (L.drop k) = 1
  | 0, L, h => by
    refine ⟨by simp [AllZ], ?_, by simpa using h⟩
    cases L with
    | nil => have z : (0 : Int) = _ := h; simp at z
    | cons c r => simp
  | k + 1, [], h => by
    have z : (0 : Int) = _ := h
    omega
  | k + 1, c :: r, h => by
    obtain ⟨hc, hr⟩ := hgt_two h (by omega)
    obtain ⟨i1, i2, i3⟩ := hgt_down (w := w) k r (by omega)
    refine ⟨fun x hx => ?_, by simpa using i2, i3⟩
    rw [List.take_succ_cons] at hx
    rcases List.mem_cons.mp hx with e | hx
    · rw [e, hc]
    · exact i1 x hx
/-- no height further down is too great -/
theorem one_scan {w : Nat} (hw : 1 ≤ w) : ∀ (k : Nat) (L : List Int), L.length ≤ k → (∀ c r, L = c :: r → ¬ Lost w r) → hgt w L = 1 → scan w k L
  | k, [], _, _, h => by
    have z : (0 : Int) = 1 := h
    omega
  | 0, _ :: _, hl, _, _ => by simp at hl
  | k + 1, c :: r, hl, hg, h => by
    have gl := hg c r rfl
    have h : hAb c (hgt w r) w = 1 := h
    unfold hAb at h
    split at h
    · rename_i hc
      exact ⟨by omega, .inl hc⟩
    · split at h
      · rename_i hc h1
        refine ⟨by omega, .inr ?_⟩
        -- the page below has the height w
        have hr : hgt w r = (w : Int) := by
          cases r with
          | nil =>
            have z : hgt w [] = 0 := rfl
            omega
          | cons d t =>
            have : ¬ ((w : Int) < hgt w (d :: t)) := fun q => gl (.inl q)
            omega
        obtain ⟨d1, d2, d3⟩ := hgt_down (w := (w : Int)) (w - 1) r (by omega)
        refine ⟨d1, one_scan hw k (r.drop (w - 1)) (by rw [List.length_drop]; simp at hl; omega) (fun x t e => ?_) d3⟩
        intro q
        have sub : ∀ (n : Nat) (r : List Int), Lost (w : Int) (r.drop n) → Lost (w : Int) r := by
          intro n
          induction n with
          | zero => exact fun _ z => z
          | succ n ih =>
            intro r z
            cases r with
            | nil => exact z
            | cons _ _ => exact .inr (ih _ z)
        exact gl (sub (w - 1) r (e ▸ .inr q))
      · omega
theorem lost_stretch {w : Nat} (hw : 1 ≤ w) : ∀ (n : Nat) (L : List Int), Lost w L → L.length ≤ n → ∃ s, s + w < L.length ∧ AllZ ((L.drop s).take w) ∧ scan w n (L.drop (s + w))
  | _, [], h, _ => h.elim
  | n, c :: r, h, hl => by
    by_cases g : Lost w r
    · obtain ⟨s, h1, h2, h3⟩ := lost_stretch hw n r g (by simp at hl; omega)
      refine ⟨s + 1, by simp; omega, h2, ?_⟩
      rw [show s + 1 + w = (s + w) + 1 by omega]
      exact h3
    · have q : (w : Int) < hgt w (c :: r) := h.elim id fun z => absurd z g
      have e : hgt w (c :: r) = w + 1 := by
        have q' : (w : Int) < hAb c (hgt w r) w := q
        show hAb c (hgt w r) w = w + 1
        have gr : hgt w r ≤ w := by
          cases r with
          | nil =>
            have z : hgt (w : Int) [] = 0 := rfl
            omega
          | cons d t => exact Int.not_lt.mp fun z => g (.inl z)
        unfold hAb at q' ⊢
        split at q'
        · omega
        · split at q' <;> omega
      obtain ⟨d1, d2, d3⟩ := hgt_down (w := (w : Int)) w (c :: r) e
      refine ⟨0, by omega, d1, ?_⟩
      rw [Nat.zero_add]
      refine one_scan hw n _ (by rw [List.length_drop]; omega) (fun x t e q => ?_) d3
      have sub : ∀ (n : Nat) (r : List Int), Lost (w : Int) (r.drop n) → Lost (w : Int) r := by
        intro n
        induction n with
        | zero => exact fun _ z => z
        | succ n ih =>
          intro r z
          cases r with
          | nil => exact z
          | cons _ _ => exact .inr (ih _ z)
      obtain ⟨m, em⟩ : ∃ m, w = m + 1 := ⟨w - 1, by omega⟩
      have e' : r.drop (w - 1) = x :: t := by
        rw [← e]
        rw [em, List.drop_succ_cons]
        rfl
      exact g (sub (w - 1) r (e' ▸ .inr q))
theorem lost_iff {w : Nat} (hw : 1 ≤ w) {L : List Int} (hn : Nn L) : Lost w L ↔ Stretch w L := ⟨fun h => lost_stretch hw L.length L h (Nat.le_refl _), stretch_lost hw hn⟩
end Ch

/-! ### counts of chains, the dual way: weights are carried up -/
namespace Cn
open Ch
/-- the weights below one more page -/
def Tw (l w : Int) (g : Int → Int) : Int → Int := fun b =>
  (if hAb 0 b w ≤ w then g (hAb 0 b w) else 0) + (if hAb 1 b w ≤ w then g (hAb 1 b w) else 0) + (l - 1) * (if hAb 2 b w ≤ w then g (hAb 2 b w) else 0)
def Tn (l w : Int) : Nat → (Int → Int) → Int → Int
  | 0, g => g
  | n + 1, g => Tw l w (Tn l w n g)
theorem Tn_succ (l w : Int) : ∀ (n : Nat) (g : Int → Int), Tn l w (n + 1) g = Tn l w n (Tw l w g)
  | 0, _ => rfl
  | n + 1, g => by
    show Tw l w (Tn l w (n + 1) g) = Tw l w (Tn l w n (Tw l w g))
    rw [Tn_succ l w n g]
/-- the number of keepable chains -/
def kcn (n : Nat) (l w : Int) : Int := Tn l w n (fun _ => 1) 0
theorem h0 (b w : Int) : hAb 0 b w = b + 1 := by
  unfold hAb
  rw [if_pos rfl]
theorem h1 (b w : Int) : hAb 1 b w = if b ≥ w then 1 else 0 := by
  unfold hAb
  rw [if_neg (by decide)]
  by_cases h : b ≥ w
  · rw [if_pos ⟨rfl, h⟩, if_pos h]
  · rw [if_neg (fun z => h z.2), if_neg h]
theorem h2 (b w : Int) : hAb 2 b w = 0 := by
  unfold hAb
  rw [if_neg (by decide), if_neg (fun z => absurd z.1 (by decide))]
theorem hge {c b w : Int} (h : 2 ≤ c) : hAb c b w = 0 := by
  unfold hAb
  rw [if_neg (by omega), if_neg (fun z => by omega)]
theorem Tw_low {l w : Int} (g : Int → Int) {b : Int} (hw : 0 ≤ w) (h : b < w) : Tw l w g b = g (b + 1) + l * g 0 := by
  unfold Tw
  rw [h0, h1, h2, if_pos (by omega : b + 1 ≤ w), if_neg (by omega : ¬ b ≥ w), if_pos hw]
  rw [Int.sub_mul]
  omega
theorem Tw_top {l w : Int} (g : Int → Int) (hw : 1 ≤ w) : Tw l w g w = g 1 + (l - 1) * g 0 := by
  unfold Tw
  rw [h0, h1, h2, if_neg (by omega : ¬ w + 1 ≤ w), if_pos (by omega : w ≥ w), if_pos hw, if_pos (by omega : 0 ≤ w)]
  omega
theorem few {l w : Int} (hw : 0 ≤ w) : ∀ (k : Nat) (b : Int), 0 ≤ b → b + k ≤ w → Tn l w k (fun _ => 1) b = (l + 1) ^ k
  | 0, _, _, _ => by
    show (1 : Int) = (l + 1) ^ 0
    rw [Int.pow_zero]
  | k + 1, b, hb, h => by
    show Tw l w (Tn l w k fun _ => 1) b = _
    rw [Tw_low _ hw (by omega), few hw k (b + 1) (by omega) (by omega), few hw k 0 (by omega) (by omega), Int.pow_succ, Int.mul_add, Int.mul_comm l, Int.mul_one]
    omega
theorem few1 {l w : Int} (hw : 1 ≤ w) : ∀ (k : Nat) (b : Int), 0 ≤ b → b + k = w → Tn l w (k + 1) (fun _ => 1) b = (l + 1) ^ (k + 1) - 1
  | 0, b, _, h => by
    have e : b = w := by omega
    show Tw l w (fun _ => 1) b = _
    rw [e, Tw_top _ hw, Int.pow_succ, Int.pow_zero]
    omega
  | k + 1, b, hb, h => by
    show Tw l w (Tn l w (k + 1) fun _ => 1) b = _
    rw [Tw_low _ (by omega) (by omega), few1 hw k (b + 1) (by omega) (by omega), few (by omega) (k + 1) 0 (by omega) (by omega), Int.pow_succ _ (k + 1), Int.mul_add, Int.mul_comm l, Int.mul_one]
    omega
theorem cnt_few {n : Nat} {l w : Int} (hw : 0 ≤ w) (h : n ≤ w) : kcn n l w = (l + 1) ^ n := few hw n 0 (Int.le_refl 0) (by omega)
theorem cnt_one {n : Nat} {l w : Int} (hw : 1 ≤ w) (h : (n : Int) = w) : kcn (n + 1) l w = (l + 1) ^ (n + 1) - 1 := few1 hw n 0 (Int.le_refl 0) (by omega)
/-- one copy: the recurrence -/
theorem path {l : Int} (n : Nat) : kcn (n + 2) l 1 = (l + 1) * kcn (n + 1) l 1 - kcn n l 1 := by
  have a : ∀ k : Nat, Tn l 1 (k + 1) (fun _ => 1) 0 = Tn l 1 k (fun _ => 1) 1 + l * Tn l 1 k (fun _ => 1) 0 := fun k => Tw_low _ (by decide) (by decide)
  have b : ∀ k : Nat, Tn l 1 (k + 1) (fun _ => 1) 1 = Tn l 1 k (fun _ => 1) 1 + (l - 1) * Tn l 1 k (fun _ => 1) 0 := fun k => Tw_top _ (by decide)
  unfold kcn
  have a1 := a (n + 1)
  have a0 := a n
  have b0 := b n
  rw [show n + 1 + 1 = n + 2 from rfl] at a1
  rw [a1, b0]
  rw [a0]
  generalize Tn l 1 n (fun _ => 1) 0 = x
  generalize Tn l 1 n (fun _ => 1) 1 = y
  rw [Int.mul_add, Int.mul_add, Int.add_mul, Int.add_mul, Int.sub_mul]
  omega
/-! all lists -/
def digits (l : Nat) : Nat → Nat → List Int
  | 0, _ => []
  | n + 1, m => ((m % (l + 1) : Nat) : Int) :: digits l n (m / (l + 1))
/-- the sum over the first so many numbers -/
def sm (f : Nat → Int) : Nat → Int
  | 0 => 0
  | n + 1 => sm f n + f n
theorem sm_add (f g : Nat → Int) : ∀ n, sm (fun i => f i + g i) n = sm f n + sm g n
  | 0 => rfl
  | n + 1 => by
    show sm (fun i => f i + g i) n + (f n + g n) = sm f n + f n + (sm g n + g n)
    rw [sm_add f g n]
    omega
theorem sm_congr {f g : Nat → Int} : ∀ n, (∀ i, i < n → f i = g i) → sm f n = sm g n
  | 0, _ => rfl
  | n + 1, h => by
    show sm f n + f n = sm g n + g n
    rw [sm_congr n fun i hi => h i (by omega), h n (by omega)]
theorem sm_app (f : Nat → Int) (a : Nat) : ∀ b, sm f (a + b) = sm f a + sm (fun i => f (a + i)) b
  | 0 => by
    show sm f a = sm f a + 0
    omega
  | b + 1 => by
    show sm f (a + b) + f (a + b) = sm f a + (sm (fun i => f (a + i)) b + f (a + b))
    rw [sm_app f a b]
    omega
theorem sm_mul (f : Nat → Int) (b : Nat) : ∀ a, sm f (a * b) = sm (fun i => sm (fun j => f (i * b + j)) b) a
  | 0 => by
    rw [Nat.zero_mul]
    rfl
  | a + 1 => by
    rw [Nat.succ_mul, sm_app, sm_mul f b a]
    rfl
theorem sm_scale (c : Int) (f : Nat → Int) : ∀ n, sm (fun i => c * f i) n = c * sm f n
  | 0 => by
    show 0 = c * 0
    omega
  | n + 1 => by
    show sm (fun i => c * f i) n + c * f n = c * (sm f n + f n)
    rw [sm_scale c f n, Int.mul_add]
theorem sm_const (c : Int) : ∀ n : Nat, sm (fun _ => c) n = n * c
  | 0 => by
    show 0 = ((0 : Nat) : Int) * c
    omega
  | n + 1 => by
    show sm (fun _ => c) n + c = _
    rw [sm_const c n, show ((n + 1 : Nat) : Int) = n + 1 by omega, Int.add_mul]
    omega
open Classical in
/-- the weight of a chain that is kept -/
noncomputable def wt (w : Int) (g : Int → Int) (L : List Int) : Int := if Lost w L then 0 else g (hgt w L)
theorem wt_cons (w : Int) (g : Int → Int) (c : Int) (L : List Int) : wt w g (c :: L) = wt w (fun b => if hAb c b w ≤ w then g (hAb c b w) else 0) L := by
  unfold wt
  by_cases h : Lost w L
  · rw [if_pos h, if_pos (show Lost w (c :: L) from .inr h)]
  · rw [if_neg h]
    have e : hgt w (c :: L) = hAb c (hgt w L) w := rfl
    dsimp only
    by_cases g : hAb c (hgt w L) w ≤ w
    · rw [if_pos g, if_neg (fun z : Lost w (c :: L) => z.elim (fun z => by rw [e] at z; omega) h), e]
    · rw [if_neg g, if_pos (show Lost w (c :: L) from .inl (by rw [e]; omega))]
theorem wt_add (w : Int) (f g : Int → Int) (L : List Int) : wt w (fun b => f b + g b) L = wt w f L + wt w g L := by
  unfold wt
  split
  · omega
  · rfl
theorem wt_scale (w c : Int) (f : Int → Int) (L : List Int) : wt w (fun b => c * f b) L = c * wt w f L := by
  unfold wt
  split
  · omega
  · rfl
theorem sm_top {l : Nat} (hl : 1 ≤ l) (w : Int) (g : Int → Int) (L : List Int) : sm (fun c => wt w g ((c : Int) :: L)) (l + 1) = wt w (Tw l w g) L := by
  obtain ⟨k, rfl⟩ : ∃ k, l = k + 1 := ⟨l - 1, by omega⟩
  rw [show k + 1 + 1 = 2 + k by omega, sm_app]
  have e2 : sm (fun c => wt w g ((c : Int) :: L)) 2 = wt w g ((0 : Int) :: L) + wt w g ((1 : Int) :: L) := by
    show 0 + wt w g (((0 : Nat) : Int) :: L) + wt w g (((1 : Nat) : Int) :: L) = _
    rw [Int.zero_add]
    rfl
  have e3 : sm (fun c => wt w g (((2 + c : Nat) : Int) :: L)) k = k * wt w g ((2 : Int) :: L) := by
    rw [← sm_const]
    refine sm_congr k fun i _ => ?_
    show wt w g (((2 + i : Nat) : Int) :: L) = wt w g (2 :: L)
    rw [wt_cons, wt_cons]
    congr 1
    funext b
    rw [hge (show (2 : Int) ≤ ((2 + i : Nat) : Int) by omega), h2]
  rw [e2, e3, wt_cons, wt_cons, wt_cons, ← wt_scale, ← wt_add, ← wt_add]
  unfold Tw
  rw [show (((k + 1 : Nat) : Int) - 1) = k by omega]
theorem sm_lists {l : Nat} (hl : 1 ≤ l) (w : Int) : ∀ (n : Nat) (g : Int → Int), sm (fun m => wt w g (digits l n m)) ((l + 1) ^ n) = Tn l w n g 0
  | 0, g => by
    show 0 + wt w g [] = g 0
    unfold wt
    rw [if_neg (fun z : Lost w [] => z), Int.zero_add]
    rfl
  | n + 1, g => by
    rw [Nat.pow_succ, sm_mul]
    have e : ∀ i, i < (l + 1) ^ n → sm (fun j => wt w g (digits l (n + 1) (i * (l + 1) + j))) (l + 1) = wt w (Tw l w g) (digits l n i) := fun i _ => by
      rw [← sm_top hl]
      refine sm_congr _ fun j hj => ?_
      show wt w g ((((i * (l + 1) + j) % (l + 1) : Nat) : Int) :: digits l n ((i * (l + 1) + j) / (l + 1))) = _
      have e1 : (i * (l + 1) + j) % (l + 1) = j := by rw [Nat.add_comm, Nat.add_mul_mod_self_right, Nat.mod_eq_of_lt hj]
      have e2 : (i * (l + 1) + j) / (l + 1) = i := by rw [Nat.add_comm, Nat.add_mul_div_right _ _ (by omega), Nat.div_eq_of_lt hj, Nat.zero_add]
      rw [e1, e2]
    rw [sm_congr _ e, sm_lists hl w n, Tn_succ]
/-! rows: lists by the height -/
def wR (g : Int → Int) : Nat → List Int → Int
  | _, [] => 0
  | i, x :: r => x * g i + wR g (i + 1) r
theorem wR_set (g : Int → Int) (y : Int) : ∀ (L : List Int) (i k : Nat) (x : Int), L[k]? = some x → wR g i (L.set k y) = wR g i L + (y - x) * g (i + k : Nat)
  | [], _, _, _, h => by simp at h
  | z :: r, i, 0, x, h => by
    have e : z = x := by simpa using h
    show y * g i + wR g (i + 1) r = z * g i + wR g (i + 1) r + (y - x) * g (i + 0 : Nat)
    simp only [Nat.add_zero]
    rw [e, Int.sub_mul]
    omega
  | z :: r, i, k + 1, x, h => by
    have ih := wR_set g y r (i + 1) k x (by simpa using h)
    show z * g i + wR g (i + 1) (r.set k y) = z * g i + wR g (i + 1) r + _
    rw [ih, show i + 1 + k = i + (k + 1) by omega]
    omega
theorem wR_zero (g : Int → Int) : ∀ (k i : Nat), wR g i (List.replicate k 0) = 0
  | 0, _ => rfl
  | k + 1, i => by
    rw [List.replicate_succ]
    show 0 * g i + wR g (i + 1) _ = 0
    rw [wR_zero g k]
    omega
theorem wR_app (g : Int → Int) : ∀ (L M : List Int) (i : Nat), wR g i (L ++ M) = wR g i L + wR g (i + L.length) M
  | [], M, i => by
    show wR g i M = 0 + wR g (i + 0) M
    rw [Nat.add_zero]
    omega
  | x :: r, M, i => by
    show x * g i + wR g (i + 1) (r ++ M) = x * g i + wR g (i + 1) r + wR g (i + (r.length + 1)) M
    rw [wR_app g r M (i + 1), show i + 1 + r.length = i + (r.length + 1) by omega]
    omega
theorem wR_one : ∀ (L : List Int) (i : Nat), wR (fun _ => 1) i L = L.sum
  | [], _ => rfl
  | x :: r, i => by
    show x * 1 + wR (fun _ => 1) (i + 1) r = (x :: r).sum
    rw [wR_one r, List.sum_cons]
    omega
theorem wR_take (g : Int → Int) (L : List Int) (k : Nat) (x : Int) (h : L[k]? = some x) : wR g 0 (L.take (k + 1)) = wR g 0 (L.take k) + x * g k := by
  have hk : k < L.length := (List.getElem?_eq_some_iff.mp h).1
  rw [List.take_add_one, h, wR_app, List.length_take, Nat.min_eq_left (by omega), Nat.zero_add]
  show _ + (x * g k + 0) = _
  omega
end Cn

namespace K30
open PySem PySem.Spec PyProof.Rows L2 Oc Ch Cn
def topS (i : Nat) : Stmt := PySem.Challenge.pw_onecopy_k30_chain_counts.main.body.getD i (.Pass ⟨0, 0, 0, 0⟩)
abbrev s_height_above : Stmt := topS 1
abbrev s_count_chains : Stmt := topS 3
abbrev s_counts_above : Stmt := topS 4
abbrev s_law_is_integer : Stmt := topS 6
abbrev s_law_bag : Stmt := topS 7
abbrev s_law_take : Stmt := topS 8
abbrev s_law_copies : Stmt := topS 9
abbrev s_law_has_stretch : Stmt := topS 10
abbrev s_law_all_lists : Stmt := topS 11
abbrev s_law_list : Stmt := topS 12
abbrev s_law_small : Stmt := topS 13
abbrev s_law_table : Stmt := topS 14
abbrev s_law_path : Stmt := topS 15
abbrev s_law_fits : Stmt := topS 16
abbrev s_law_long : Stmt := topS 17
abbrev s_law : Stmt := topS 18
theorem sc_height_above : FnScope ["count", "below", "copies"] ["count", "below", "copies"] (defScope s_height_above) := ⟨rfl, rfl, rfl, by decide +kernel, rfl, by decide +kernel, by decide +kernel⟩
theorem sc_count_chains : FnScope ["pages", "lines", "copies", "table", "_"] ["pages", "lines", "copies"] (defScope s_count_chains) := ⟨rfl, rfl, rfl, by decide +kernel, rfl, by decide +kernel, by decide +kernel⟩
theorem sc_counts_above : FnScope ["table", "lines", "copies", "above", "below", "number", "count", "choices", "height"] ["table", "lines", "copies"] (defScope s_counts_above) := ⟨rfl, rfl, rfl, by decide +kernel, rfl, by decide +kernel, by decide +kernel⟩
theorem sc_law_is_integer : FnScope ["actual"] ["actual"] (defScope s_law_is_integer) := ⟨rfl, rfl, rfl, by decide +kernel, rfl, by decide +kernel, by decide +kernel⟩
theorem sc_law_bag : FnScope ["script", "k", "cell"] ["script", "k"] (defScope s_law_bag) := ⟨rfl, rfl, rfl, by decide +kernel, rfl, by decide +kernel, by decide +kernel⟩
theorem sc_law_take : FnScope ["bag", "size", "digit", "first", "second", "third"] ["bag", "size"] (defScope s_law_take) := ⟨rfl, rfl, rfl, by decide +kernel, rfl, by decide +kernel, by decide +kernel⟩
theorem sc_law_copies : FnScope ["bag"] ["bag"] (defScope s_law_copies) := ⟨rfl, rfl, rfl, by decide +kernel, rfl, by decide +kernel, by decide +kernel⟩
theorem sc_law_has_stretch : FnScope ["chain", "copies", "start", "at", "turn"] ["chain", "copies"] (defScope s_law_has_stretch) := ⟨rfl, rfl, rfl, by decide +kernel, rfl, by decide +kernel, by decide +kernel⟩
theorem sc_law_all_lists : FnScope ["pages", "lines", "total", "place"] ["pages", "lines"] (defScope s_law_all_lists) := ⟨rfl, rfl, rfl, by decide +kernel, rfl, by decide +kernel, by decide +kernel⟩
theorem sc_law_list : FnScope ["number", "pages", "lines", "blank", "place"] ["number", "pages", "lines"] (defScope s_law_list) := ⟨rfl, rfl, rfl, by decide +kernel, rfl, by decide +kernel, by decide +kernel⟩
theorem sc_law_small : FnScope ["pages", "lines", "copies", "found", "number"] ["pages", "lines", "copies"] (defScope s_law_small) := ⟨rfl, rfl, rfl, by decide +kernel, rfl, by decide +kernel, by decide +kernel⟩
theorem sc_law_table : FnScope ["pages", "lines", "copies", "row", "place", "above", "below", "one"] ["pages", "lines", "copies"] (defScope s_law_table) := ⟨rfl, rfl, rfl, by decide +kernel, rfl, by decide +kernel, by decide +kernel⟩
theorem sc_law_path : FnScope ["pages", "lines", "row", "place"] ["pages", "lines"] (defScope s_law_path) := ⟨rfl, rfl, rfl, by decide +kernel, rfl, by decide +kernel, by decide +kernel⟩
theorem sc_law_fits : FnScope ["pages", "lines", "copies", "due", "told"] ["pages", "lines", "copies", "due"] (defScope s_law_fits) := ⟨rfl, rfl, rfl, by decide +kernel, rfl, by decide +kernel, by decide +kernel⟩
theorem sc_law_long : FnScope ["bag", "pages", "lines"] ["bag"] (defScope s_law_long) := ⟨rfl, rfl, rfl, by decide +kernel, rfl, by decide +kernel, by decide +kernel⟩
theorem sc_law : FnScope ["script", "bag", "pages", "lines", "copies", "size", "fewer"] ["script"] (defScope s_law) := ⟨rfl, rfl, rfl, by decide +kernel, rfl, by decide +kernel, by decide +kernel⟩
structure Txt (K : PySem.W.Frag) (mg : Str → Option Value) where
  f_height_above : Addr
  fd_height_above : FuncData
  F_height_above : Fun K "height_above" "height_above" s_height_above f_height_above fd_height_above
  g_height_above : mg "height_above" = some (.ref f_height_above)
  b_height_above : Binds K fd_height_above ["count", "below", "copies"] []
  f_count_chains : Addr
  fd_count_chains : FuncData
  F_count_chains : Fun K "count_chains" "count_chains" s_count_chains f_count_chains fd_count_chains
  g_count_chains : mg "count_chains" = some (.ref f_count_chains)
  b_count_chains : Binds K fd_count_chains ["pages", "lines", "copies"] []
  f_counts_above : Addr
  fd_counts_above : FuncData
  F_counts_above : Fun K "_counts_above" "_counts_above" s_counts_above f_counts_above fd_counts_above
  g_counts_above : mg "_counts_above" = some (.ref f_counts_above)
  b_counts_above : Binds K fd_counts_above ["table", "lines", "copies"] []
  f_law_is_integer : Addr
  fd_law_is_integer : FuncData
  F_law_is_integer : Fun K "_law_is_integer" "_law_is_integer" s_law_is_integer f_law_is_integer fd_law_is_integer
  g_law_is_integer : mg "_law_is_integer" = some (.ref f_law_is_integer)
  b_law_is_integer : Binds K fd_law_is_integer ["actual"] []
  f_law_bag : Addr
  fd_law_bag : FuncData
  F_law_bag : Fun K "_law_bag" "_law_bag" s_law_bag f_law_bag fd_law_bag
  g_law_bag : mg "_law_bag" = some (.ref f_law_bag)
  b_law_bag : Binds K fd_law_bag ["script", "k"] []
  f_law_take : Addr
  fd_law_take : FuncData
  F_law_take : Fun K "_law_take" "_law_take" s_law_take f_law_take fd_law_take
  g_law_take : mg "_law_take" = some (.ref f_law_take)
  b_law_take : Binds K fd_law_take ["bag", "size"] []
  f_law_copies : Addr
  fd_law_copies : FuncData
  F_law_copies : Fun K "_law_copies" "_law_copies" s_law_copies f_law_copies fd_law_copies
  g_law_copies : mg "_law_copies" = some (.ref f_law_copies)
  b_law_copies : Binds K fd_law_copies ["bag"] []
  f_law_has_stretch : Addr
  fd_law_has_stretch : FuncData
  F_law_has_stretch : Fun K "_law_has_stretch" "_law_has_stretch" s_law_has_stretch f_law_has_stretch fd_law_has_stretch
  g_law_has_stretch : mg "_law_has_stretch" = some (.ref f_law_has_stretch)
  b_law_has_stretch : Binds K fd_law_has_stretch ["chain", "copies"] []
  f_law_all_lists : Addr
  fd_law_all_lists : FuncData
  F_law_all_lists : Fun K "_law_all_lists" "_law_all_lists" s_law_all_lists f_law_all_lists fd_law_all_lists
  g_law_all_lists : mg "_law_all_lists" = some (.ref f_law_all_lists)
  b_law_all_lists : Binds K fd_law_all_lists ["pages", "lines"] []
  f_law_list : Addr
  fd_law_list : FuncData
  F_law_list : Fun K "_law_list" "_law_list" s_law_list f_law_list fd_law_list
  g_law_list : mg "_law_list" = some (.ref f_law_list)
  b_law_list : Binds K fd_law_list ["number", "pages", "lines"] []
  f_law_small : Addr
  fd_law_small : FuncData
  F_law_small : Fun K "_law_small" "_law_small" s_law_small f_law_small fd_law_small
  g_law_small : mg "_law_small" = some (.ref f_law_small)
  b_law_small : Binds K fd_law_small ["pages", "lines", "copies"] []
  f_law_table : Addr
  fd_law_table : FuncData
  F_law_table : Fun K "_law_table" "_law_table" s_law_table f_law_table fd_law_table
  g_law_table : mg "_law_table" = some (.ref f_law_table)
  b_law_table : Binds K fd_law_table ["pages", "lines", "copies"] []
  f_law_path : Addr
  fd_law_path : FuncData
  F_law_path : Fun K "_law_path" "_law_path" s_law_path f_law_path fd_law_path
  g_law_path : mg "_law_path" = some (.ref f_law_path)
  b_law_path : Binds K fd_law_path ["pages", "lines"] []
  f_law_fits : Addr
  fd_law_fits : FuncData
  F_law_fits : Fun K "_law_fits" "_law_fits" s_law_fits f_law_fits fd_law_fits
  g_law_fits : mg "_law_fits" = some (.ref f_law_fits)
  b_law_fits : Binds K fd_law_fits ["pages", "lines", "copies", "due"] []
  f_law_long : Addr
  fd_law_long : FuncData
  F_law_long : Fun K "_law_long" "_law_long" s_law_long f_law_long fd_law_long
  g_law_long : mg "_law_long" = some (.ref f_law_long)
  b_law_long : Binds K fd_law_long ["bag"] []
  f_law : Addr
  fd_law : FuncData
  F_law : Fun K "law" "law" s_law f_law fd_law
  g_law : mg "law" = some (.ref f_law)
  b_law : Binds K fd_law ["script"] []
  z_abs : mg "abs" = none
  z_any : mg "any" = none
  z_bool : mg "bool" = none
  z_int : mg "int" = none
  z_isinstance : mg "isinstance" = none
  z_len : mg "len" = none
  z_range : mg "range" = none
  z_sum : mg "sum" = none
section
variable {P : Program} {w : World} {K : PySem.W.Frag} {mg : Str → Option Value} {base : Heap}
set_option maxHeartbeats 4000000
/-! ### the law's draws: a bag of four numbers -/
def bag (p : Addr) : Asr := fun h => ∃ c s n k : Int, pto p (.lst [.int c, .int s, .int n, .int k]) h
theorem gB {H : Hp} {a : Addr} {L : List Asr} (h : Sts (bag a :: L) H) : Sts (bag a :: L) H := h
theorem bag_mk {p : Addr} {c s n k : Int} {L : List Asr} {H : Hp} (S : Sts (pto p (.lst [.int c, .int s, .int n, .int k]) :: L) H) : Sts (bag p :: L) H := S.imp fun _ a => ⟨c, s, n, k, a⟩
theorem bag_open {p : Addr} {L : List Asr} {H : Hp} (S : Sts (bag p :: L) H) : ∃ c s n k : Int, Sts (pto p (.lst [.int c, .int s, .int n, .int k]) :: L) H := by
  obtain ⟨c, S⟩ := S.ex
  obtain ⟨s, S⟩ := S.ex
  obtain ⟨n, S⟩ := S.ex
  obtain ⟨k, S⟩ := S.ex
  exact ⟨c, s, n, k, S⟩
def spBag (K : PySem.W.Frag) : Sp := fun vs H Q _ => ∃ (a : Addr) (ns : List Int) (k : Int) (F : List Asr), vs = [.ref a, .int k] ∧ 0 ≤ k ∧ Sts (sqc K a (ns.map V.int) :: F) H ∧ ∀ (p : Addr) (H' : Hp), Sts (bag p :: sqc K a (ns.map V.int) :: F) H' → Q (.ref p) H'
theorem ok_law_bag (T : Txt K mg) : FnOk P w K mg base CX0 1 T.f_law_bag T.fd_law_bag ["script", "k"] (spBag K) := by
  refine T.F_law_bag.ok sc_law_bag (fun vs H Q E h => by obtain ⟨a, ns, k, F, rfl, _⟩ := h; rfl) (fun cdv A outer s H vs Q E hr h => ?_)
  obtain ⟨a, ns, k, F, rfl, hk, S, q⟩ := h
  refine ⟨_, (pss_cons (ps_set (i := 2) sc_law_bag.nd rfl (Or.inl rfl) (pe_op op_add pe_int (pe_op op_mul pe_int (pv 1))))
      (oc_cut (ps_if (pt_cmpR op_lt (pv 1) (pe_callB (oc_lenI (K := K) rfl) (by rfl) T.z_len PySem.boot_len (pa_cons (pv 0) pa_nil)) (nomark _))
      (pss_one (ps_set (i := 2) sc_law_bag.nd rfl (Or.inl rfl) (pe_ix (oc_ixI (K := K) rfl) (pv 0) (pv 1) (fun _ _ => rfl))))
      (pss_one (ps_if (pt_truth (pv 0) (by intro _; rfl))
      (pss_one (ps_set (i := 2) sc_law_bag.nd rfl (Or.inl rfl) (pe_op op_add (pv 2) (pe_op op_mod (pe_callTy oc_int_i (by rfl) T.z_int PyProof.Rows.boot_int (pa_cons (pe_op op_mul (pe_ix (oc_ixI (K := K) rfl) (pv 0) pe_int (fun _ _ => rfl)) pe_int) pa_nil)) pe_int))))
      pss_nil)))
      (pss_cons (ps_if (pt_cmpR op_ge (pe_callB oc_abs (by rfl) T.z_abs PyProof.Rows.boot_abs (pa_cons (pv 2) pa_nil)) (pe_op (oc_powc 10 18 1000000000000000000 ⟨by decide, by decide, by decide⟩ (by decide +kernel)) pe_int pe_int) (nomark _))
      (pss_one (ps_ret (pe_lst (pa_cons (pe_callB oc_abs (by rfl) T.z_abs PyProof.Rows.boot_abs (pa_cons (pv 2) pa_nil)) (pa_cons (pv 2) (pa_cons pe_int (pa_cons (pv 1) pa_nil)))))))
      pss_nil)
      (pss_one (ps_ret (pe_lst (pa_cons pe_int (pa_cons (pv 2) (pa_cons pe_int (pa_cons (pv 1) pa_nil)))))))))), ?_⟩
  walk_at "go"
  refine ⟨fun σ H => ∃ c : Int, σ = [some (.ref a), some (.int k), some (.int c)] ∧ Sts (sqc K a (ns.map V.int) :: F) H, ?_, ?_⟩
  · walk_at "go"
    with_reducible refine ifB (fun c => ?_) (fun c => ?_)
    · have c := odt c
      walk_at "go"
      exact S
    · walk_at "go"
      with_reducible refine ifB (fun d => ?_) (fun d => ?_)
      · have d := isEmpty_pos d
        walk_at "go"
        exact S
      · walk_at "go"
        exact S
  rintro σ H ⟨c, rfl, S⟩
  walk_at "go"
  with_reducible refine ifB (fun d => ?_) (fun d => ?_)
  · walk_at "go"
    exact q _ _ (bag_mk (by walk_at "fp"))
  · walk_at "go"
    exact q _ _ (bag_mk (by walk_at "fp"))
def spTake : Sp := fun vs H Q _ => ∃ (p : Addr) (m : Int) (F : List Asr), vs = [.ref p, .int m] ∧ (0 < m ∧ m < 1073741824) ∧ Sts (bag p :: F) H ∧ ∀ (d : Int) (H' : Hp), 0 ≤ d → d < m → Sts (bag p :: F) H' → Q (.int d) H'
theorem ok_law_take (T : Txt K mg) : FnOk P w K mg base CX0 1 T.f_law_take T.fd_law_take ["bag", "size"] spTake := by
  refine T.F_law_take.ok sc_law_take (fun vs H Q E h => by obtain ⟨a, ns, F, rfl, _⟩ := h; rfl) (fun cdv A outer s H vs Q E hr h => ?_)
  obtain ⟨p, m, F, rfl, hm, S, q⟩ := h
  obtain ⟨c, s, n, k, S⟩ := bag_open S
  refine ⟨_, (pss_cons (ps_asg (pe_op op_add (pe_ix (oc_ix (K := K) rfl) (pv 0) pe_int (fun _ _ => rfl)) pe_int) (pg_sub (pv 0) pe_int oc_setL))
      (pss_cons (ps_if (pt_cmpR op_gt (pe_ix (oc_ix (K := K) rfl) (pv 0) pe_int (fun _ _ => rfl)) pe_int (nomark _))
      (pss_cons (ps_set (i := 2) sc_law_take.nd rfl (Or.inl rfl) (pe_op op_mod (pe_callTy oc_int_i (by rfl) T.z_int PyProof.Rows.boot_int (pa_cons (pe_ix (oc_ix (K := K) rfl) (pv 0) pe_int (fun _ _ => rfl)) pa_nil)) (pv 1)))
      (pss_cons (ps_asg (pe_op op_fdiv (pe_ix (oc_ix (K := K) rfl) (pv 0) pe_int (fun _ _ => rfl)) (pv 1)) (pg_sub (pv 0) pe_int oc_setL))
      (pss_one (ps_ret (pv 2)))))
      pss_nil)
      (pss_cons (ps_set (i := 3) sc_law_take.nd rfl (Or.inl rfl) (pe_op op_mod (pe_callTy oc_int_i (by rfl) T.z_int PyProof.Rows.boot_int (pa_cons (pe_op op_add (pe_op op_add (pe_op op_add (pe_op op_mul (pe_ix (oc_ix (K := K) rfl) (pv 0) pe_int (fun _ _ => rfl)) pe_int) (pe_op op_mul (pe_ix (oc_ix (K := K) rfl) (pv 0) pe_int (fun _ _ => rfl)) pe_int)) (pe_op op_mul (pe_ix (oc_ix (K := K) rfl) (pv 0) pe_int (fun _ _ => rfl)) pe_int)) pe_int) pa_nil)) pe_int))
      (pss_cons (ps_set (i := 4) sc_law_take.nd rfl (Or.inl rfl) (pe_op op_mod (pe_callTy oc_int_i (by rfl) T.z_int PyProof.Rows.boot_int (pa_cons (pe_op op_add (pe_op op_add (pe_op op_mul (pv 3) (pv 3)) (pe_op op_mul (pe_ix (oc_ix (K := K) rfl) (pv 0) pe_int (fun _ _ => rfl)) pe_int)) (pe_ix (oc_ix (K := K) rfl) (pv 0) pe_int (fun _ _ => rfl))) pa_nil)) pe_int))
      (pss_cons (ps_set (i := 5) sc_law_take.nd rfl (Or.inl rfl) (pe_op op_mod (pe_callTy oc_int_i (by rfl) T.z_int PyProof.Rows.boot_int (pa_cons (pe_op op_add (pe_op op_mul (pv 4) (pv 4)) (pv 3)) pa_nil)) pe_int))
      (pss_one (ps_ret (pe_op op_mod (pe_op op_fdiv (pv 5) pe_int) (pv 1))))))))), ?_⟩
  walk_at "go"
  with_reducible refine ifB (fun c => ?_) (fun c => ?_)
  · walk_at "go"
    exact q _ _ (Int.emod_nonneg _ (by omega)) (Int.emod_lt_of_pos _ hm.1) (bag_mk (by walk_at "fp"))
  · walk_at "go"
    exact q _ _ (Int.emod_nonneg _ (by omega)) (Int.emod_lt_of_pos _ hm.1) (bag_mk (by walk_at "fp"))
local macro_rules | `(tactic| walk_at "go1") => `(tactic| refine ⟨_, _, _, rfl, Oc.pr (by walk_at "side"), K30.gB (by walk_at "fr1"), fun (od : Int) (oh : L2.Hp) o0 o1 os => ?_⟩)
local macro_rules | `(tactic| walk_at "go1") => `(tactic| refine ⟨_, _, _, _, rfl, Oc.pr (by walk_at "side"), Oc.gQ (by walk_at "fr1"), fun (op : PySem.Addr) (oh : L2.Hp) os => ?_⟩)

/-! ### the chain's program -/
def spHA : Sp := fun vs H Q _ => ∃ c b w : Int, vs = [.int c, .int b, .int w] ∧ Q (.int (hAb c b w)) H
theorem ok_height_above (T : Txt K mg) : FnOk P w K mg base CX0 1 T.f_height_above T.fd_height_above ["count", "below", "copies"] spHA := by
  refine T.F_height_above.ok sc_height_above (fun vs H Q E h => by obtain ⟨c, b, w, rfl, _⟩ := h; rfl) (fun cdv A outer s H vs Q E hr h => ?_)
  obtain ⟨c, b, w, rfl, q⟩ := h
  refine ⟨_, (pss_cons (ps_if (pt_cmpR op_eq (pv 0) pe_int (nomark _))
      (pss_one (ps_ret (pe_op op_add (pv 1) pe_int)))
      pss_nil)
      (pss_cons (ps_if (PW.pt (pw_and (pt_cmpR op_eq (pv 0) pe_int (nomark _)) (pw_and1 (pt_cmpR op_ge (pv 1) (pv 2) (nomark _)))))
      (pss_one (ps_ret pe_int))
      pss_nil)
      (pss_one (ps_ret pe_int)))), ?_⟩
  unfold hAb at q
  walk_at "go"
  with_reducible refine ifB (fun h => ?_) (fun h => ?_)
  · rw [if_pos (vi (odt h))] at q
    walk_at "go"
    exact q
  · rw [if_neg fun e => odf h (congrArg V.int e)] at q
    walk_at "go"
    with_reducible refine ifB (fun h1 => ?_) (fun h1 => ?_)
    · walk_at "go"
      with_reducible refine ifB (fun h2 => ?_) (fun h2 => ?_)
      · rw [if_pos ⟨vi (odt h1), odt h2⟩] at q
        walk_at "go"
        exact q
      · rw [if_neg fun e => odf h2 e.2] at q
        walk_at "go"
        exact q
    · rw [if_neg fun e => odf h1 (congrArg V.int e.1)] at q
      walk_at "go"
      exact q
local macro_rules | `(tactic| walk_at "go1") => `(tactic| refine ⟨(_ : Int), (_ : Int), (_ : Int), rfl, ?_⟩)

/-! ### the laws' own helpers over chains -/
def spIsInt : Sp := fun vs H Q _ => ∃ i : Int, vs = [.int i] ∧ Q (.bl true) H
theorem ok_law_is_integer (T : Txt K mg) : FnOk P w K mg base CX0 1 T.f_law_is_integer T.fd_law_is_integer ["actual"] spIsInt := by
  refine T.F_law_is_integer.ok sc_law_is_integer (fun vs H Q E h => by obtain ⟨i, rfl, _⟩ := h; rfl) (fun cdv A outer s H vs Q E hr h => ?_)
  obtain ⟨i, rfl, q⟩ := h
  refine ⟨_, (pss_one (ps_ret (pe_and (pe_callB oc_isi_ii (by rfl) T.z_isinstance PyProof.Rows.boot_isinstance (pa_cons (pv 0) (pa_cons (pe_bltn (v := .ty "int") (by rfl) T.z_int PyProof.Rows.boot_int rfl) pa_nil))) (pe_one (pe_not (pe_callB oc_isi_ib (by rfl) T.z_isinstance PyProof.Rows.boot_isinstance (pa_cons (pv 0) (pa_cons (pe_bltn (v := .ty "bool") (by rfl) T.z_bool PyProof.Rows.boot_bool rfl) pa_nil)))))))), ?_⟩
  walk_at "go"
  exact q
def spCopies : Sp := fun vs H Q _ => ∃ (p : Addr) (F : List Asr), vs = [.ref p] ∧ Sts (bag p :: F) H ∧ ∀ (c : Int) (H' : Hp), 1 ≤ c → c ≤ 70 → Sts (bag p :: F) H' → Q (.int c) H'
theorem ok_law_copies (T : Txt K mg) : FnOk P w K mg base CX0 2 T.f_law_copies T.fd_law_copies ["bag"] spCopies := by
  refine T.F_law_copies.ok sc_law_copies (fun vs H Q E h => by obtain ⟨p, F, rfl, _⟩ := h; rfl) (fun cdv A outer s H vs Q E hr h => ?_)
  obtain ⟨p, F, rfl, S, q⟩ := h
  refine ⟨_, (pss_cons (ps_if (pt_cmpR op_eq (pe_call (ok_law_take T) (hr.mono (by decide)) (by rfl) T.g_law_take T.F_law_take.kp T.b_law_take .nil pass0 (pa_cons (pv 0) (pa_cons pe_int pa_nil))) pe_int (nomark _))
      (pss_one (ps_ret (pe_op op_add pe_int (pe_call (ok_law_take T) (hr.mono (by decide)) (by rfl) T.g_law_take T.F_law_take.kp T.b_law_take .nil pass0 (pa_cons (pv 0) (pa_cons pe_int pa_nil))))))
      pss_nil)
      (pss_one (ps_ret (pe_op op_add pe_int (pe_call (ok_law_take T) (hr.mono (by decide)) (by rfl) T.g_law_take T.F_law_take.kp T.b_law_take .nil pass0 (pa_cons (pv 0) (pa_cons pe_int pa_nil))))))), ?_⟩
  walk_at "go"
  with_reducible refine ifB (fun c => ?_) (fun c => ?_)
  · walk_at "go"
    exact q _ _ (by omega) (by omega) (by walk_at "fp")
  · walk_at "go"
    exact q _ _ (by omega) (by omega) (by walk_at "fp")
local macro_rules | `(tactic| walk_at "go1") => `(tactic| refine ⟨_, _, rfl, K30.gB (by walk_at "fr1"), fun (od : Int) (oh : L2.Hp) o0 o1 os => ?_⟩)

theorem nn_snoc {ns : List Int} {x : Int} (h : Nn ns) (hx : 0 ≤ x) : Nn (ns ++ [x]) := fun y hy => by
  rcases List.mem_append.mp hy with hy | hy
  · exact h y hy
  · have e : y = x := by simpa using hy
    rw [e]
    exact hx
theorem nn_one {x : Int} (hx : 0 ≤ x) : Nn [x] := nn_snoc (ns := []) (fun _ h => nomatch h) hx
theorem nn_app {ns ms : List Int} (h : Nn ns) (g : Nn ms) : Nn (ns ++ ms) := fun y hy => (List.mem_append.mp hy).elim (h y) (g y)
theorem nn_rep {ns : List Int} (h : Nn ns) (k : Nat) : Nn (List.replicate k ns).flatten := fun y hy => by
  obtain ⟨l, hl, hy⟩ := List.mem_flatten.mp hy
  rw [(List.mem_replicate.mp hl).2] at hy
  exact h y hy
theorem nn_set {ns : List Int} {x : Int} {i : Nat} (h : Nn ns) (hx : 0 ≤ x) : Nn (ns.set i x) := fun y hy => by
  rcases List.mem_or_eq_of_mem_set hy with q | q
  · exact h y q
  · rw [q]
    exact hx
theorem nn_take {ns : List Int} (h : Nn ns) (n : Nat) : Nn (ns.take n) := fun x hx => h x (List.mem_of_mem_take hx)
theorem nn_drop {ns : List Int} (h : Nn ns) (n : Nat) : Nn (ns.drop n) := fun x hx => h x (List.mem_of_mem_drop hx)

theorem any_z {L : List Int} : (L.any fun n => decide (n ≠ 0)) = false ↔ AllZ L := by
  rw [List.any_eq_false]
  constructor
  · intro h x hx
    exact Decidable.byContradiction fun g => h x hx (decide_eq_true g)
  · intro h x hx g
    exact of_decide_eq_true g (h x hx)
def spStretch : Sp := fun vs H Q _ => ∃ (a : Addr) (w : Int) (ns : List Int) (F : List Asr), vs = [.ref a, .int w] ∧ (1 ≤ w ∧ w ≤ 1000 ∧ Nn ns ∧ ns.length ≤ 100000) ∧ Sts (pto a (.lst (ns.map V.int)) :: F) H ∧ ∀ (b : Bool) (H' : Hp), (b = true ↔ Stretch w.toNat ns) → Sts (pto a (.lst (ns.map V.int)) :: F) H' → Q (.bl b) H'
theorem ok_law_has_stretch (T : Txt K mg) : FnOk P w K mg base CX0 1 T.f_law_has_stretch T.fd_law_has_stretch ["chain", "copies"] spStretch := by
  refine T.F_law_has_stretch.ok sc_law_has_stretch (fun vs H Q E h => by obtain ⟨a, w, ns, F, rfl, _⟩ := h; rfl) (fun cdv A outer s H vs Q E hr h => ?_)
  obtain ⟨a, w, ns, F, rfl, ⟨hw, hw2, hN, hl⟩, S, q⟩ := h
  refine ⟨_, (pss_cons (ps_for PassesOwn.never rfl (pi_range1 rfl T.z_range (pa_cons (pe_op op_sub (pe_callB (oc_lenI (K := K) rfl) (by rfl) T.z_len PySem.boot_len (pa_cons (pv 0) pa_nil)) (pv 1)) pa_nil)) (pg_name (i := 2) sc_law_has_stretch.nd rfl (Or.inl rfl))
      (pss_cons (ps_if (pt_val (pe_callB (oc_anyI (K := K) rfl rfl) (by rfl) T.z_any PyProof.Rows.boot_any (pa_cons (pe_slice (oc_slI (K := K) rfl) (pv 0) (po_some (pv 2)) (po_some (pe_op op_add (pv 2) (pv 1)))) pa_nil)))
      (pss_one ps_continue)
      pss_nil)
      (pss_cons (ps_set (i := 3) sc_law_has_stretch.nd rfl (Or.inl rfl) (pe_op op_add (pv 2) (pv 1)))
      (pss_one (ps_for PassesOwn.never rfl (pi_range1 rfl T.z_range (pa_cons (pe_callB (oc_lenI (K := K) rfl) (by rfl) T.z_len PySem.boot_len (pa_cons (pv 0) pa_nil)) pa_nil)) (pg_name (i := 4) sc_law_has_stretch.nd rfl (Or.inl rfl))
      (pss_cons (ps_if (PW.pt (pw_or (pt_cmpR op_ge (pv 3) (pe_callB (oc_lenI (K := K) rfl) (by rfl) T.z_len PySem.boot_len (pa_cons (pv 0) pa_nil)) (nomark _)) (pw_or1 (pt_cmpR op_gt (pe_ix (oc_ixI (K := K) rfl) (pv 0) (pv 3) (fun _ _ => rfl)) pe_int (nomark _)))))
      (pss_one ps_break)
      pss_nil)
      (pss_cons (ps_if (pt_cmpR op_eq (pe_ix (oc_ixI (K := K) rfl) (pv 0) (pv 3) (fun _ _ => rfl)) pe_int (nomark _))
      (pss_one (ps_ret pe_bl))
      pss_nil)
      (pss_cons (ps_if (pt_val (pe_callB (oc_anyI (K := K) rfl rfl) (by rfl) T.z_any PyProof.Rows.boot_any (pa_cons (pe_slice (oc_slI (K := K) rfl) (pv 0) (po_some (pe_op op_add (pv 3) pe_int)) (po_some (pe_op op_add (pv 3) (pv 1)))) pa_nil)))
      (pss_one ps_break)
      pss_nil)
      (pss_one (ps_set (i := 3) sc_law_has_stretch.nd rfl (Or.inl rfl) (pe_op op_add (pv 3) (pv 1))))))))))))
      (pss_one (ps_ret pe_bl))), ?_⟩
  walk_at "go"
  refine for_range (lo := 0) (n := ((ns.length : Int) - w).toNat) (fun i σ H => ∃ x2 x3 x4 : Option V, σ = [some (.ref a), some (.int w), x2, x3, x4] ∧ (∀ s, s < i → ¬ (AllZ ((ns.drop s).take w.toNat) ∧ scan w.toNat ns.length (ns.drop (s + w.toNat)))) ∧ Sts (pto a (.lst (ns.map V.int)) :: F) H) ?_ ?_ ?_
  · exact ⟨none, none, none, rfl, fun s h => absurd h (Nat.not_lt_zero s), S⟩
  · rintro i σ H hi ⟨x2, x3, x4, rfl, hb, S⟩
    have next : ∀ (H : Hp) (y2 y3 y4 : Option V), ¬ (AllZ ((ns.drop i).take w.toNat) ∧ scan w.toNat ns.length (ns.drop (i + w.toNat))) → Sts (pto a (.lst (ns.map V.int)) :: F) H →
        ∃ x2 x3 x4 : Option V, ([some (.ref a), some (.int w), y2, y3, y4] : L2.St) = [some (.ref a), some (.int w), x2, x3, x4] ∧ (∀ s, s < i + 1 → ¬ (AllZ ((ns.drop s).take w.toNat) ∧ scan w.toNat ns.length (ns.drop (s + w.toNat)))) ∧ Sts (pto a (.lst (ns.map V.int)) :: F) H :=
      fun H y2 y3 y4 h S => ⟨y2, y3, y4, rfl, fun s hs => by
        rcases Nat.lt_succ_iff_lt_or_eq.mp hs with g | g
        · exact hb s g
        · rw [g]
          exact h, S⟩
    walk_at "go"
    rename_i sl H2 S2
    rw [cutL_mid _ (by omega) (by omega)]
    have e1 : (0 + (i : Int) + w).toNat - (0 + (i : Int)).toNat = w.toNat := by omega
    have e2 : (0 + (i : Int)).toNat = i := by omega
    rw [e1, e2]
    with_reducible refine ifB (fun c => ?_) (fun c => ?_)
    · walk_at "go"
      refine next _ _ _ _ (fun z => ?_) (by walk_at "fp")
      rw [any_z.mpr z.1] at c
      cases c
    · have az := any_z.mp c
      walk_at "go"
      refine for_range (lo := 0) (n := (ns.length : Int).toNat) (fun j σ H => ∃ (at_ : Nat) (x4 : Option V), σ = [some (.ref a), some (.int w), some (.int (0 + (i : Int))), some (.int at_), x4] ∧ (scan w.toNat ns.length (ns.drop (i + w.toNat)) ↔ scan w.toNat (ns.length - j) (ns.drop at_)) ∧ Sts (pto a (.lst (ns.map V.int)) :: F) H) ?_ ?_ ?_
      · refine ⟨i + w.toNat, x4, ?_, Iff.rfl, by walk_at "fp"⟩
        show [some (V.ref a), some (V.int w), some (V.int (0 + (i : Int))), some (V.int (0 + (i : Int) + w)), x4] = _
        rw [show 0 + (i : Int) + w = ((i + w.toNat : Nat) : Int) by omega]
      · rintro j σ H hj ⟨at_, x4, rfl, eq, S⟩
        obtain ⟨k, ek⟩ : ∃ k, ns.length - j = k + 1 := ⟨ns.length - j - 1, by omega⟩
        have ek' : ns.length - (j + 1) = k := by omega
        rw [ek] at eq
        rw [ek']
        walk_at "go"
        with_reducible refine ifB (fun c1 => ?_) (fun c1 => ?_)
        · -- behind the last page
          have c1 := odt c1
          walk_at "go"
          refine next _ _ _ _ (fun z => ?_) (by walk_at "fp")
          have z2 := eq.mp z.2
          rw [List.drop_of_length_le (by omega)] at z2
          exact z2
        · have c1 := odf c1
          have hat : at_ < ns.length := by omega
          have dr : ns.drop at_ = gI ns at_ :: ns.drop (at_ + 1) := by
            rw [List.drop_eq_getElem_cons hat]
            unfold Oc.gI
            rw [Int.toNat_natCast, List.getD_eq_getElem?_getD, List.getElem?_eq_getElem hat]
            rfl
          have g0 : 0 ≤ gI ns at_ := hN _ (gI_mem (by omega) (by omega))
          rw [dr] at eq
          walk_at "go"
          with_reducible refine ifB (fun c2 => ?_) (fun c2 => ?_)
          · have c2 := odt c2
            walk_at "go"
            refine next _ _ _ _ (fun z => ?_) (by walk_at "fp")
            have z2 := (eq.mp z.2).1
            omega
          · have c2 := odf c2
            walk_at "go"
            with_reducible refine ifB (fun c3 => ?_) (fun c3 => ?_)
            · have c3 := vi (odt c3)
              walk_at "go"
              exact q true _ ⟨fun _ => ⟨i, by omega, az, eq.mpr ⟨by omega, .inl c3⟩⟩, fun _ => rfl⟩ (by walk_at "fp")
            · have c3 : ¬ gI ns at_ = 0 := fun e => odf c3 (congrArg V.int e)
              walk_at "go"
              rename_i sl H3 S3
              rw [cutL_mid _ (by omega) (by omega)]
              have e3 : ((at_ : Int) + w).toNat - ((at_ : Int) + 1).toNat = w.toNat - 1 := by omega
              have e4 : ((at_ : Int) + 1).toNat = at_ + 1 := by omega
              rw [e3, e4]
              with_reducible refine ifB (fun c4 => ?_) (fun c4 => ?_)
              · walk_at "go"
                refine next _ _ _ _ (fun z => ?_) (by walk_at "fp")
                rcases (eq.mp z.2).2 with e | e
                · exact c3 e
                · rw [any_z.mpr e.1] at c4
                  cases c4
              · have a4 := any_z.mp c4
                walk_at "go"
                refine ⟨at_ + w.toNat, some (.int (0 + (j : Int))), ?_, ?_, by walk_at "fp"⟩
                · show [some (V.ref a), some (V.int w), some (V.int (0 + (i : Int))), some (V.int ((at_ : Int) + w)), some (V.int (0 + (j : Int)))] = _
                  rw [show (at_ : Int) + w = ((at_ + w.toNat : Nat) : Int) by omega]
                · rw [eq]
                  have e5 : at_ + w.toNat = (at_ + 1) + (w.toNat - 1) := by omega
                  rw [e5, show ns.drop ((at_ + 1) + (w.toNat - 1)) = (ns.drop (at_ + 1)).drop (w.toNat - 1) by rw [List.drop_drop]]
                  constructor
                  · intro z
                    rcases z.2 with e | e
                    · exact absurd e c3
                    · exact e.2
                  · intro z
                    exact ⟨by omega, .inr ⟨a4, z⟩⟩
      · rintro σ H ⟨at_, x4, rfl, eq, S⟩
        refine next _ _ _ _ (fun z => ?_) (by walk_at "fp")
        have z2 := eq.mp z.2
        rw [Int.toNat_natCast, Nat.sub_self] at z2
        exact z2
  · rintro σ H ⟨x2, x3, x4, rfl, hb, S⟩
    walk_at "go"
    refine q false H ⟨(fun h => nomatch h), fun ⟨s, h1, h2, h3⟩ => absurd ⟨h2, h3⟩ (hb s (by omega))⟩ S
local macro_rules | `(tactic| walk_at "go1") => `(tactic| refine ⟨_, _, _, _, rfl, ⟨by omega, by omega, by assumption, by omega⟩, Oc.gL (by walk_at "frI"), fun (ob : Bool) (oh : L2.Hp) oq os => ?_⟩)

theorem pig : ∀ (n : Nat) (L : List Nat), L.Nodup → (∀ x ∈ L, x < n) → L.length ≤ n
  | 0, [], _, _ => Nat.le_refl 0
  | 0, x :: _, _, h => absurd (h x List.mem_cons_self) (Nat.not_lt_zero x)
  | n + 1, L, hn, h => by
    have ih := pig n (L.erase n) (hn.erase n) fun x hx => by
      have a := h x (List.mem_of_mem_erase hx)
      have b : x ≠ n := ((hn.mem_erase_iff).mp hx).1
      omega
    have e := List.length_erase (a := n) (l := L)
    split at e <;> omega
def GoodD (w : Int) (ps : List (Int × Int)) : Prop := (ps.map (·.1)).Nodup ∧ ∀ p ∈ ps, 0 ≤ p.1 ∧ p.1 ≤ w
theorem good_len {w : Int} {ps : List (Int × Int)} (h : GoodD w ps) (hw : 0 ≤ w) : ps.length ≤ (w + 1).toNat := by
  have z := pig (w + 1).toNat ((ps.map (·.1)).map Int.toNat) ?_ ?_
  · rwa [List.length_map, List.length_map] at z
  · refine List.pairwise_map.mpr (List.Pairwise.imp_of_mem (fun {a b} ha hb hne e => hne ?_) h.1)
    obtain ⟨p, hp, rfl⟩ := List.mem_map.mp ha
    obtain ⟨q, hq, rfl⟩ := List.mem_map.mp hb
    have a1 := h.2 p hp
    have b1 := h.2 q hq
    omega
  · intro x hx
    obtain ⟨y, hy, rfl⟩ := List.mem_map.mp hx
    obtain ⟨p, hp, rfl⟩ := List.mem_map.mp hy
    have a1 := h.2 p hp
    omega
theorem good_put {w k v : Int} {ps : List (Int × Int)} (h : GoodD w ps) (h0 : 0 ≤ k) (h1 : k ≤ w) : GoodD w (putP ps k v) := ⟨nodup_put h.1, key_put (P := fun x => 0 ≤ x ∧ x ≤ w) h.2 ⟨h0, h1⟩⟩
/-- what the first j kinds of pages give -/
def prt (l w : Int) (g : Int → Int) (b : Int) : Nat → Int
  | 0 => 0
  | 1 => if hAb 0 b w ≤ w then g (hAb 0 b w) else 0
  | 2 => (if hAb 0 b w ≤ w then g (hAb 0 b w) else 0) + (if hAb 1 b w ≤ w then g (hAb 1 b w) else 0)
  | _ => Tw l w g b
theorem hAb_nn {c b w : Int} (hb : 0 ≤ b) : 0 ≤ hAb c b w := by
  unfold hAb
  split
  · omega
  · split <;> omega
def spCA : Sp := fun vs H Q _ => ∃ (a : Addr) (l w : Int) (ps : List (Int × Int)) (F : List Asr), vs = [.ref a, .int l, .int w] ∧ (1 ≤ w ∧ w ≤ 1000 ∧ 1 ≤ l ∧ l ≤ 1000 ∧ GoodD w ps) ∧ Sts (pto a (.dK (dM V.int ps)) :: F) H ∧
  ∀ (p : Addr) (qs : List (Int × Int)) (H' : Hp), GoodD w qs → (∀ g, wS g qs = wS (Tw l w g) ps) → Sts (pto p (.dK (dM V.int qs)) :: F) H' → Q (.ref p) H'
theorem ok_counts_above (T : Txt K mg) : FnOk P w K mg base CX0 2 T.f_counts_above T.fd_counts_above ["table", "lines", "copies"] spCA := by
  refine T.F_counts_above.ok sc_counts_above (fun vs H Q E h => by obtain ⟨a, l, w, ps, F, rfl, _⟩ := h; rfl) (fun cdv A outer s H vs Q E hr h => ?_)
  obtain ⟨a, l, w, ps, F, rfl, ⟨hw, hw2, hl, hl2, hg⟩, S, q⟩ := h
  refine ⟨_, (pss_cons (ps_set (i := 3) sc_counts_above.nd rfl (Or.inl rfl) pe_dnewK)
      (pss_cons (oc_lock (ps_for PassesOwn.never rfl (pi_items (pv 0)) (oc_pg_tup (K := K) (n := 2) rfl rfl (pgs_cons (pg_name (i := 4) sc_counts_above.nd rfl (Or.inl rfl)) (pgs_cons (pg_name (i := 5) sc_counts_above.nd rfl (Or.inl rfl)) pgs_nil)))
      (pss_one (ps_for PassesOwn.never rfl (pi_tup (pe_tup (pa_cons (pe_tup (pa_cons pe_int (pa_cons pe_int pa_nil))) (pa_cons (pe_tup (pa_cons pe_int (pa_cons pe_int pa_nil))) (pa_cons (pe_tup (pa_cons pe_int (pa_cons (pe_op op_sub (pv 1) pe_int) pa_nil))) pa_nil))))) (oc_pg_tup (K := K) (n := 2) rfl rfl (pgs_cons (pg_name (i := 6) sc_counts_above.nd rfl (Or.inl rfl)) (pgs_cons (pg_name (i := 7) sc_counts_above.nd rfl (Or.inl rfl)) pgs_nil)))
      (pss_cons (ps_set (i := 8) sc_counts_above.nd rfl (Or.inl rfl) (pe_call (ok_height_above T) (hr.mono (by decide)) (by rfl) T.g_height_above T.F_height_above.kp T.b_height_above .nil pass0 (pa_cons (pv 6) (pa_cons (pv 4) (pa_cons (pv 2) pa_nil)))))
      (pss_one (ps_if (pt_cmpR op_le (pv 8) (pv 2) (nomark _))
      (pss_one (ps_asg (pe_op op_add (oc_dget2 V.int (hu_of hr) (pv 3) (pv 8) pe_int ⟨by rfl, by rfl, by rfl, by rfl⟩) (pe_op op_mul (pv 5) (pv 7))) (pg_sub (pv 3) (pv 8) (oc_setD V.int (hu_of hr)))))
      pss_nil)))))))
      (pss_one (ps_ret (pv 3))))), ?_⟩
  walk_at "go"
  rename_i d H1 S1
  refine ⟨a, _, _, S1.to1, True.intro, fun od H2 S2 => ?_⟩
  walk_at "go"
  refine ⟨_, _, _, rfl, by walk_at "hp", ?_⟩
  refine for_items (f := V.int) ps (fun i σ H => ∃ (qs : List (Int × Int)) (x4 x5 x6 x7 x8 : Option V), σ = [some (.ref a), some (.int l), some (.int w), some (.ref d), x4, x5, x6, x7, x8] ∧ GoodD w qs ∧ (∀ g, wS g qs = wS (Tw l w g) (ps.take i)) ∧
    Sts (pto d (.dK (dM V.int qs)) :: pto a (.frz od (.dK (dM V.int ps))) :: F) H) ?_ (fun i σ H ⟨_, _, _, _, _, _, _, _, _, S⟩ => ⟨_, S.to1⟩) ?_ ?_
  · exact ⟨[], _, _, _, _, _, rfl, ⟨List.nodup_nil, (fun _ h => nomatch h)⟩, fun g => rfl, by walk_at "fp"⟩
  · rintro i b n t σ H H' hi ⟨qs, x4, x5, x6, x7, x8, rfl, hq, hs, S⟩ ht eH
    have S := S.newE ht eH
    clear eH
    obtain ⟨hb0, hb1⟩ := hg.2 (b, n) (List.mem_of_getElem? hi)
    have hb0 : 0 ≤ b := hb0
    have hb1 : b ≤ w := hb1
    have tk : ∀ g, wS (Tw l w g) (ps.take (i + 1)) = wS (Tw l w g) (ps.take i) + n * Tw l w g b := fun g => by
      rw [List.take_add_one, hi, wS_app]
      show _ + (n * Tw l w g b + 0) = _
      omega
    walk_at "go"
    rename_i t0 _ _ t1 _ _ t2 _ _ tt H3 S3
    refine ⟨⟨_, .of (by walk_at "hp")⟩, ?_⟩
    refine for_tup (K := K) (a := tt) (xs := [.ref t0, .ref t1, .ref t2]) (fun j σ H => ∃ (qs : List (Int × Int)) (x6 x7 x8 : Option V), σ = [some (.ref a), some (.int l), some (.int w), some (.ref d), some (.int b), some (.int n), x6, x7, x8] ∧ GoodD w qs ∧
      (∀ g, wS g qs = wS (Tw l w g) (ps.take i) + n * prt l w g b j) ∧
      Sts (pto tt (.tup [.ref t0, .ref t1, .ref t2]) :: pto t0 (.tup [.int 0, .int 1]) :: pto t1 (.tup [.int 1, .int 1]) :: pto t2 (.tup [.int 2, .int (l - 1)]) :: pto d (.dK (dM V.int qs)) :: pto a (.frz od (.dK (dM V.int ps))) :: F) H)
      ⟨qs, _, _, _, rfl, hq, fun g => by rw [hs]; show _ = _ + n * 0; omega, by walk_at "fp"⟩ (fun i σ H _ ⟨_, _, _, _, _, _, _, S⟩ => .of (by walk_at "hp")) ?_ ?_
    · rintro j x σ H hx ⟨qs, x6, x7, x8, rfl, hq, hs, S⟩
      obtain ⟨c, ch, t, rfl, hc, hc2, ht, hp⟩ : ∃ (c ch : Int) (t : Addr), x = .ref t ∧ (0 ≤ ch ∧ ch ≤ 1000) ∧ 0 ≤ hAb c b w ∧ H t = some (.tup [.int c, .int ch]) ∧ ∀ g, prt l w g b (j + 1) = prt l w g b j + ch * (if hAb c b w ≤ w then g (hAb c b w) else 0) := by
        match j, hx with
        | 0, h => cases h; exact ⟨0, 1, t0, rfl, by omega, hAb_nn hb0, by walk_at "hp", fun g => by simp only [prt]; omega⟩
        | 1, h => cases h; exact ⟨1, 1, t1, rfl, by omega, hAb_nn hb0, by walk_at "hp", fun g => by simp only [prt]; omega⟩
        | 2, h => cases h; exact ⟨2, l - 1, t2, rfl, by omega, hAb_nn hb0, by walk_at "hp", fun g => rfl⟩
      have hq2 : ∀ g, wS g qs + n * (ch * (if hAb c b w ≤ w then g (hAb c b w) else 0)) = wS (Tw l w g) (ps.take i) + n * prt l w g b (j + 1) := fun g => by
        rw [hs, hp, Int.mul_add]
        omega
      have gl := good_len hq (by omega)
      refine ⟨_, _, rfl, .of ht, rfl, ?_⟩
      walk_at "go"
      with_reducible refine ifB (fun c1 => ?_) (fun c1 => ?_)
      · have c1 := odt c1
        have hq2 := fun g => (hq2 g)
        simp only [if_pos c1] at hq2
        walk_at "go"
        refine ⟨_, _, _, _, rfl, good_put hq hc2 c1, fun g => ?_, by walk_at "fp"⟩
        rw [wS_put g _ _ hq.1, ← hq2 g, ← Int.mul_assoc]
        congr 1
        congr 1
        omega
      · have c1 := odf c1
        simp only [if_neg c1, Int.mul_zero, Int.add_zero] at hq2
        walk_at "go"
        exact ⟨qs, _, _, _, rfl, hq, hq2, S⟩
    · rintro σ H ⟨qs, x6, x7, x8, rfl, hq, hs, S⟩
      refine ⟨qs, _, _, _, _, _, rfl, hq, fun g => ?_, by walk_at "fp"⟩
      rw [hs, tk]
      rfl
  · rintro σ H ⟨qs, x4, x5, x6, x7, x8, rfl, hq, hs, S⟩
    rw [List.take_length] at hs
    refine ⟨_, by walk_at "fr1", fun H2 S2 => ?_⟩
    walk_at "go"
    exact q _ qs _ hq hs (by walk_at "fp")
theorem wS_one (ps : List (Int × Int)) : (ps.map (·.2)).sum = wS (fun _ => 1) ps := by
  unfold wS
  congr 1
  exact List.map_congr_left fun p _ => (Int.mul_one p.2).symm
local macro_rules | `(tactic| walk_at "go1") => `(tactic| (refine ⟨_, _, _, _, _, rfl, ?len, Oc.gD (by walk_at "fr1"), fun (op : PySem.Addr) (oqs : List (Int × Int)) (oh : L2.Hp) og oe os => ?_⟩; case len => exact ⟨by omega, by omega, by omega, by omega, by assumption⟩))
def spCount : Sp := fun vs H Q _ => ∃ (n l w : Int) (F : List Asr), vs = [.int n, .int l, .int w] ∧ (0 ≤ n ∧ n ≤ 1000 ∧ 1 ≤ w ∧ w ≤ 1000 ∧ 1 ≤ l ∧ l ≤ 1000) ∧ Sts F H ∧ ∀ (H' : Hp), Sts F H' → Q (.int (kcn n.toNat l w)) H'
theorem ok_count_chains (T : Txt K mg) : FnOk P w K mg base CX0 3 T.f_count_chains T.fd_count_chains ["pages", "lines", "copies"] spCount := by
  refine T.F_count_chains.ok sc_count_chains (fun vs H Q E h => by obtain ⟨n, l, w, F, rfl, _⟩ := h; rfl) (fun cdv A outer s H vs Q E hr h => ?_)
  obtain ⟨n, l, w, F, rfl, ⟨hn, hn2, hw, hw2, hl, hl2⟩, S, q⟩ := h
  refine ⟨_, (pss_cons (ps_set (i := 3) sc_count_chains.nd rfl (Or.inl rfl) (pe_disp (pps_cons pe_int pe_int pps_nil) (by rfl) (by rfl) (fun z => by cases z) (by decide)))
      (pss_cons (ps_for PassesOwn.never rfl (pi_range1 rfl T.z_range (pa_cons (pv 0) pa_nil)) (pg_name (i := 4) sc_count_chains.nd rfl (Or.inl rfl))
      (pss_one (ps_set (i := 3) sc_count_chains.nd rfl (Or.inl rfl) (pe_call (ok_counts_above T) (hr.mono (by decide)) (by rfl) T.g_counts_above T.F_counts_above.kp T.b_counts_above .nil pass0 (pa_cons (pv 3) (pa_cons (pv 1) (pa_cons (pv 2) pa_nil)))))))
      (pss_one (ps_ret (oc_sumVals rfl (by rfl) T.z_sum (pv 3)))))), ?_⟩
  walk_at "go"
  rename_i d H1 S1
  refine ⟨S1.hd, [(.inl 0, .int 1)], rfl, by decide, ?_⟩
  have S2 : Sts (pto d (.dK (dM V.int [(0, 1)])) :: F) _ := S1.put _
  have e : mergeK [] [((.inl 0 : Key), V.int 1)] = dM V.int [(0, 1)] := rfl
  rw [e]
  generalize upd _ d _ = H2 at *
  walk_at "go"
  refine for_range (lo := 0) (n := n.toNat) (fun i σ H => ∃ (d : Addr) (ps : List (Int × Int)) (x4 : Option V), σ = [some (.int n), some (.int l), some (.int w), some (.ref d), x4] ∧ GoodD w ps ∧ (∀ g, wS g ps = Tn l w i g 0) ∧ Sts (pto d (.dK (dM V.int ps)) :: F) H) ?_ ?_ ?_
  · refine ⟨d, _, _, rfl, ⟨by simp, fun p hp => ?_⟩, fun g => ?_, S2⟩
    · have e : p = (0, 1) := by simpa using hp
      rw [e]
      exact ⟨Int.le_refl 0, by omega⟩
    · show 1 * g 0 + 0 = g 0
      omega
  · rintro i σ H hi ⟨d, ps, x4, rfl, hg, hs, S⟩
    walk_at "go"
    rename_i d2 qs H2 g2 s2 S2
    exact ⟨d2, qs, _, rfl, g2, fun g => by rw [s2, hs, Tn_succ], S2⟩
  · rintro σ H ⟨d, ps, x4, rfl, hg, hs, S⟩
    walk_at "go"
    have r := q H (by walk_at "fp")
    unfold kcn at r
    rw [wS_one, hs]
    exact r
local macro_rules | `(tactic| walk_at "go1") => `(tactic| (refine ⟨_, _, _, _, rfl, Oc.pr ⟨by omega, by omega, by omega, by omega, by omega, by omega⟩, Oc.pr (by assumption), fun (oh : L2.Hp) os => ?_⟩))


def spAll : Sp := fun vs H Q _ => ∃ (n l : Int), vs = [.int n, .int l] ∧ (0 ≤ n ∧ n ≤ 1000 ∧ 1 ≤ l ∧ l ≤ 1000) ∧ Q (.int ((l + 1) ^ n.toNat)) H
theorem ok_law_all_lists (T : Txt K mg) : FnOk P w K mg base CX0 1 T.f_law_all_lists T.fd_law_all_lists ["pages", "lines"] spAll := by
  refine T.F_law_all_lists.ok sc_law_all_lists (fun vs H Q E h => by obtain ⟨n, l, rfl, _⟩ := h; rfl) (fun cdv A outer s H vs Q E hr h => ?_)
  obtain ⟨n, l, rfl, ⟨hn, hn2, hl, hl2⟩, q⟩ := h
  refine ⟨_, (pss_cons (ps_set (i := 2) sc_law_all_lists.nd rfl (Or.inl rfl) pe_int)
      (pss_cons (ps_for PassesOwn.never rfl (pi_range1 rfl T.z_range (pa_cons (pv 0) pa_nil)) (pg_name (i := 3) sc_law_all_lists.nd rfl (Or.inl rfl))
      (pss_one (ps_set (i := 2) sc_law_all_lists.nd rfl (Or.inl rfl) (pe_op op_mul (pv 2) (pe_op op_add (pv 1) pe_int)))))
      (pss_one (ps_ret (pv 2))))), ?_⟩
  walk_at "go"
  refine for_range (lo := 0) (n := n.toNat) (fun i σ H' => H' = H ∧ ∃ x3 : Option V, σ = [some (.int n), some (.int l), some (.int ((l + 1) ^ i)), x3]) ⟨rfl, none, by rw [Int.pow_zero]; rfl⟩ ?_ ?_
  · rintro i σ H hi ⟨rfl, x3, rfl⟩
    walk_at "go"
    exact ⟨_, by rw [Int.pow_succ]; rfl⟩
  · rintro σ H ⟨rfl, x3, rfl⟩
    walk_at "go"
    exact q
local macro_rules | `(tactic| walk_at "go1") => `(tactic| (refine ⟨_, _, rfl, Oc.pr ⟨by omega, by omega, by omega, by omega⟩, ?_⟩))
theorem dig_snoc (l : Nat) : ∀ (n m : Nat), digits l (n + 1) m = digits l n m ++ [((m / (l + 1) ^ n % (l + 1) : Nat) : Int)]
  | 0, m => by
    show [((m % (l + 1) : Nat) : Int)] = [] ++ [((m / (l + 1) ^ 0 % (l + 1) : Nat) : Int)]
    rw [Nat.pow_zero, Nat.div_one]
    rfl
  | n + 1, m => by
    show ((m % (l + 1) : Nat) : Int) :: digits l (n + 1) (m / (l + 1)) = ((m % (l + 1) : Nat) : Int) :: digits l n (m / (l + 1)) ++ _
    rw [dig_snoc l n, Nat.div_div_eq_div_mul, Nat.pow_succ, Nat.mul_comm]
    rfl
theorem dig_len (l : Nat) : ∀ (n m : Nat), (digits l n m).length = n
  | 0, _ => rfl
  | n + 1, m => congrArg (· + 1) (dig_len l n _)
theorem dig_nn (l : Nat) : ∀ (n m : Nat), Nn (digits l n m)
  | 0, _ => (fun _ h => nomatch h)
  | n + 1, m => fun x hx => by
    rcases List.mem_cons.mp hx with e | hx
    · rw [e]
      exact Int.natCast_nonneg _
    · exact dig_nn l n _ x hx
def spList : Sp := fun vs H Q _ => ∃ (m n l : Int) (F : List Asr), vs = [.int m, .int n, .int l] ∧ Sts F H ∧ (0 ≤ n ∧ n ≤ 1000 ∧ 0 ≤ l ∧ l ≤ 1000 ∧ 0 ≤ m ∧ m ≤ 1000000) ∧
  ∀ (p : Addr) (H' : Hp), Sts (pto p (.lst ((digits l.toNat n.toNat m.toNat).map V.int)) :: F) H' → Q (.ref p) H'
theorem ok_law_list (T : Txt K mg) : FnOk P w K mg base CX0 1 T.f_law_list T.fd_law_list ["number", "pages", "lines"] spList := by
  refine T.F_law_list.ok sc_law_list (fun vs H Q E h => by obtain ⟨m, n, l, F, rfl, _⟩ := h; rfl) (fun cdv A outer s H vs Q E hr h => ?_)
  obtain ⟨m, n, l, F, rfl, S, ⟨hn0, hn, hl0, hl, hm0, hm⟩, q⟩ := h
  obtain ⟨m, rfl⟩ := Int.eq_ofNat_of_zero_le hm0
  obtain ⟨n, rfl⟩ := Int.eq_ofNat_of_zero_le hn0
  obtain ⟨l, rfl⟩ := Int.eq_ofNat_of_zero_le hl0
  rw [Int.toNat_natCast, Int.toNat_natCast, Int.toNat_natCast] at q
  refine ⟨_, (pss_cons (ps_set (i := 3) sc_law_list.nd rfl (Or.inl rfl) (pe_lst pa_nil))
      (pss_cons (ps_for PassesOwn.never rfl (pi_range1 rfl T.z_range (pa_cons (pv 1) pa_nil)) (pg_name (i := 4) sc_law_list.nd rfl (Or.inl rfl))
      (pss_cons (ps_expr (pe_bm PySem.F.plainAttrs_list PySem.F.slot_list_append PySem.F.type_list_append oc_appendI (pv 3) (pa_cons (pe_op op_mod (pe_callTy oc_int_i (by rfl) T.z_int PyProof.Rows.boot_int (pa_cons (pv 0) pa_nil)) (pe_op op_add (pv 2) pe_int)) pa_nil)))
      (pss_one (ps_set (i := 0) sc_law_list.nd rfl (Or.inl rfl) (pe_op op_fdiv (pv 0) (pe_op op_add (pv 2) pe_int))))))
      (pss_one (ps_ret (pv 3))))), ?_⟩
  walk_at "go"
  rename_i d H1 S1
  refine for_range (lo := 0) (n := n) (fun i σ H => ∃ x4 : Option V, σ = [some (.int ((m / (l + 1) ^ i : Nat) : Int)), some (.int n), some (.int l), some (.ref d), x4] ∧ Sts (pto d (.lst ((digits l i m).map V.int)) :: F) H) ?_ ?_ ?_
  · refine ⟨none, ?_, S1⟩
    rw [Nat.pow_zero, Nat.div_one]
    rfl
  · rintro i σ H hi ⟨x4, rfl, S⟩
    have dl := dig_len l i m
    have ds := dig_snoc l i m
    have e1 : m / (l + 1) ^ (i + 1) = m / (l + 1) ^ i / (l + 1) := by rw [Nat.pow_succ, Nat.div_div_eq_div_mul]
    have e2 : m / (l + 1) ^ i ≤ m := Nat.div_le_self _ _
    rw [ds, e1]
    generalize m / (l + 1) ^ i = k at *
    generalize digits l i m = D at *
    walk_at "go"
    rename_i H3 S3
    rw [Int.natCast_emod]
    exact S3
  · rintro σ H ⟨x4, rfl, S⟩
    walk_at "go"
    exact q _ _ S
local macro_rules | `(tactic| walk_at "go1") => `(tactic| (refine ⟨_, _, _, _, rfl, Oc.pr (by assumption), Oc.pr ⟨by omega, by omega, by omega, by omega, by omega, by omega⟩, fun (op : PySem.Addr) (oh : L2.Hp) os => ?_⟩))
def spSmall : Sp := fun vs H Q _ => ∃ (n l w : Int) (F : List Asr), vs = [.int n, .int l, .int w] ∧ Sts F H ∧ (0 ≤ n ∧ n ≤ 1000 ∧ 1 ≤ l ∧ l ≤ 1000 ∧ 1 ≤ w ∧ w ≤ 1000 ∧ (l.toNat + 1) ^ n.toNat ≤ 1000000) ∧
  ∀ (H' : Hp), Sts F H' → Q (.int (kcn n.toNat l w)) H'
theorem ok_law_small (T : Txt K mg) : FnOk P w K mg base CX0 2 T.f_law_small T.fd_law_small ["pages", "lines", "copies"] spSmall := by
  refine T.F_law_small.ok sc_law_small (fun vs H Q E h => by obtain ⟨n, l, w, F, rfl, _⟩ := h; rfl) (fun cdv A outer s H vs Q E hr h => ?_)
  obtain ⟨n, l, w, F, rfl, S, ⟨hn0, hn, hl, hl2, hw, hw2, hp⟩, q⟩ := h
  refine ⟨_, (pss_cons (ps_set (i := 3) sc_law_small.nd rfl (Or.inl rfl) pe_int)
      (pss_cons (ps_for PassesOwn.never rfl (pi_range1 rfl T.z_range (pa_cons (pe_call (ok_law_all_lists T) (hr.mono (by decide)) (by rfl) T.g_law_all_lists T.F_law_all_lists.kp T.b_law_all_lists .nil pass0 (pa_cons (pv 0) (pa_cons (pv 1) pa_nil))) pa_nil)) (pg_name (i := 4) sc_law_small.nd rfl (Or.inl rfl))
      (pss_one (ps_if (pt_not (pt_val (pe_call (ok_law_has_stretch T) (hr.mono (by decide)) (by rfl) T.g_law_has_stretch T.F_law_has_stretch.kp T.b_law_has_stretch .nil pass0 (pa_cons (pe_call (ok_law_list T) (hr.mono (by decide)) (by rfl) T.g_law_list T.F_law_list.kp T.b_law_list .nil pass0 (pa_cons (pv 4) (pa_cons (pv 0) (pa_cons (pv 1) pa_nil)))) (pa_cons (pv 2) pa_nil)))))
      (pss_one (ps_set (i := 3) sc_law_small.nd rfl (Or.inl rfl) (pe_op op_add (pv 3) pe_int)))
      pss_nil)))
      (pss_one (ps_ret (pv 3))))), ?_⟩
  walk_at "go"
  have e : (l + 1) ^ n.toNat = (((l.toNat + 1) ^ n.toNat : Nat) : Int) := by
    rw [Int.natCast_pow, show ((l.toNat + 1 : Nat) : Int) = l + 1 by omega]
  refine ⟨by omega, by omega, ?_⟩
  rw [e, Int.toNat_natCast]
  refine for_range (lo := 0) (n := (l.toNat + 1) ^ n.toNat) (fun i σ H => ∃ x4 : Option V, σ = [some (.int n), some (.int l), some (.int w), some (.int (sm (fun m => wt w (fun _ => 1) (digits l.toNat n.toNat m)) i)), x4] ∧ Sts F H) ⟨none, rfl, S⟩ ?_ ?_
  · rintro i σ H hi ⟨x4, rfl, S⟩
    have e1 : (0 + (i : Int)).toNat = i := by omega
    have dn := dig_nn l.toNat n.toNat (0 + (i : Int)).toNat
    have dl := dig_len l.toNat n.toNat (0 + (i : Int)).toNat
    have st := lost_iff (w := w.toNat) (by omega) dn
    have wd : wt w (fun _ => 1) (digits l.toNat n.toNat i) = wt w (fun _ => 1) (digits l.toNat n.toNat (0 + (i : Int)).toNat) := by rw [e1]
    have sx : sm (fun m => wt w (fun _ => 1) (digits l.toNat n.toNat m)) (i + 1) = sm (fun m => wt w (fun _ => 1) (digits l.toNat n.toNat m)) i + wt w (fun _ => 1) (digits l.toNat n.toNat i) := rfl
    rw [Int.toNat_of_nonneg (by omega)] at st
    rw [sx, wd]
    generalize sm (fun m => wt w (fun _ => 1) (digits l.toNat n.toNat m)) i = z at *
    walk_at "go"
    rename_i b H2 sb S2
    with_reducible refine ifB (fun c => ?_) (fun c => ?_)
    · have wv : wt w (fun _ => 1) (digits l.toNat n.toNat (0 + (i : Int)).toNat) = 1 := if_neg fun h => by
        rw [sb.mpr (st.mp h)] at c
        cases c
      rw [wv]
      walk_at "go"
      walk_at "fp"
    · have wv : wt w (fun _ => 1) (digits l.toNat n.toNat (0 + (i : Int)).toNat) = 0 := if_pos (by
        refine st.mpr (sb.mp ?_)
        cases b with
        | true => rfl
        | false => cases c)
      rw [wv, Int.add_zero]
      walk_at "go"
      walk_at "fp"
  · rintro σ H ⟨x4, rfl, S⟩
    rw [sm_lists (by omega), show ((l.toNat : Nat) : Int) = l by omega]
    walk_at "go"
    exact q _ S
local macro_rules | `(tactic| walk_at "go1") => `(tactic| (refine ⟨_, _, _, _, rfl, Oc.pr (by assumption), Oc.pr ⟨by omega, by omega, by omega, by omega, by omega, by omega, by assumption⟩, fun (oh : L2.Hp) os => ?_⟩))
theorem wR_add (g : Int → Int) {L : List Int} {k d : Int} (h0 : 0 ≤ k) (h1 : k < L.length) : wR g 0 (L.set k.toNat (gI L k + d)) = wR g 0 L + d * g k := by
  rw [wR_set g _ L 0 k.toNat _ (gI_get h0 h1), show gI L k + d - gI L k = d by omega, show ((0 + k.toNat : Nat) : Int) = k by omega]
theorem Tw_row {l w b o : Int} (g : Int → Int) (hb : 0 ≤ b) (hbw : b ≤ w) (hw : 1 ≤ w) (ho0 : 0 ≤ o) (ho1 : o ≤ 1) (ho : o = 1 ↔ w ≤ b) : Tw l w g b = (if b < w then g (b + 1) else 0) + (g o + (l - 1) * g 0) := by
  by_cases h : b < w
  · have e : o = 0 := by omega
    rw [if_pos h, e, Tw_low _ (by omega) h, Int.sub_mul]
    omega
  · have e : o = 1 := by omega
    have e2 : b = w := by omega
    rw [if_neg h, e, e2, Tw_top _ hw]
    omega
def spTable : Sp := fun vs H Q _ => ∃ (n l w : Int) (F : List Asr), vs = [.int n, .int l, .int w] ∧ (0 ≤ n ∧ n ≤ 1000 ∧ 1 ≤ w ∧ w ≤ 1000 ∧ 1 ≤ l ∧ l ≤ 1000) ∧ Sts F H ∧ ∀ (H' : Hp), Sts F H' → Q (.int (kcn n.toNat l w)) H'
theorem ok_law_table (T : Txt K mg) : FnOk P w K mg base CX0 1 T.f_law_table T.fd_law_table ["pages", "lines", "copies"] spTable := by
  refine T.F_law_table.ok sc_law_table (fun vs H Q E h => by obtain ⟨n, l, w, F, rfl, _⟩ := h; rfl) (fun cdv A outer s H vs Q E hr h => ?_)
  obtain ⟨n, l, w, F, rfl, ⟨hn, hn2, hw, hw2, hl, hl2⟩, S, q⟩ := h
  refine ⟨_, (pss_cons (ps_set (i := 3) sc_law_table.nd rfl (Or.inl rfl) (pe_op oc_catI (pe_lst (pa_cons pe_int pa_nil)) (pe_op oc_repI (pe_lst (pa_cons pe_int pa_nil)) (pv 2))))
      (pss_cons (ps_for PassesOwn.never rfl (pi_range1 rfl T.z_range (pa_cons (pv 0) pa_nil)) (pg_name (i := 4) sc_law_table.nd rfl (Or.inl rfl))
      (pss_cons (ps_set (i := 5) sc_law_table.nd rfl (Or.inl rfl) (pe_op oc_repI (pe_lst (pa_cons pe_int pa_nil)) (pe_op op_add (pv 2) pe_int)))
      (pss_cons (ps_for PassesOwn.never rfl (pi_range1 rfl T.z_range (pa_cons (pe_op op_add (pv 2) pe_int) pa_nil)) (pg_name (i := 6) sc_law_table.nd rfl (Or.inl rfl))
      (pss_cons (ps_asg (pe_op op_add (pe_ix (oc_ixI (K := K) rfl) (pv 5) pe_int (fun _ _ => rfl)) (pe_op op_mul (pe_op op_sub (pv 1) pe_int) (pe_ix (oc_ixI (K := K) rfl) (pv 3) (pv 6) (fun _ _ => rfl)))) (pg_sub (pv 5) pe_int oc_setI))
      (pss_cons (ps_set (i := 7) sc_law_table.nd rfl (Or.inl rfl) (pe_callTy oc_int_bA (by rfl) T.z_int PyProof.Rows.boot_int (pa_cons (pe_cmpR op_ge (pv 6) (pv 2) (nomark _)) pa_nil)))
      (pss_cons (ps_asg (pe_op op_add (pe_ix (oc_ixI (K := K) rfl) (pv 5) (pv 7) (fun _ _ => rfl)) (pe_ix (oc_ixI (K := K) rfl) (pv 3) (pv 6) (fun _ _ => rfl))) (pg_sub (pv 5) (pv 7) oc_setI))
      (pss_one (ps_if (pt_cmpR op_lt (pv 6) (pv 2) (nomark _))
      (pss_one (ps_asg (pe_op op_add (pe_ix (oc_ixI (K := K) rfl) (pv 5) (pe_op op_add (pv 6) pe_int) (fun _ _ => rfl)) (pe_ix (oc_ixI (K := K) rfl) (pv 3) (pv 6) (fun _ _ => rfl))) (pg_sub (pv 5) (pe_op op_add (pv 6) pe_int) oc_setI)))
      pss_nil))))))
      (pss_one (ps_set (i := 3) sc_law_table.nd rfl (Or.inl rfl) (pv 5))))))
      (pss_one (ps_ret (pe_callB (oc_sum (K := K) rfl rfl) (by rfl) T.z_sum PyProof.Rows.boot_sum (pa_cons (pv 3) pa_nil)))))), ?_⟩
  walk_at "go"
  rename_i r H1 S1
  refine for_range (lo := 0) (n := n.toNat) (fun i σ H => ∃ (r : Addr) (row : List Int) (x4 x5 x6 x7 : Option V), σ = [some (.int n), some (.int l), some (.int w), some (.ref r), x4, x5, x6, x7] ∧ row.length = w.toNat + 1 ∧ (∀ g, wR g 0 row = Tn l w i g 0) ∧ Sts (pto r (.lst (row.map V.int)) :: F) H) ?_ ?_ ?_
  · refine ⟨r, _, none, none, none, none, rfl, ?_, fun g => ?_, by walk_at "fp"⟩
    · rw [rep0, List.length_append, List.length_replicate]
      show 1 + w.toNat = w.toNat + 1
      omega
    · rw [rep0, wR_app, wR_zero]
      show 1 * g 0 + 0 + 0 = g 0
      omega
  · rintro i σ H hi ⟨r, row, x4, x5, x6, x7, rfl, hl3, hr3, S⟩
    walk_at "go"
    rename_i ab H2 S2
    refine for_range (lo := 0) (n := (w + 1).toNat) (fun j σ H => ∃ (abv : List Int) (x6 x7 : Option V), σ = [some (.int n), some (.int l), some (.int w), some (.ref r), some (.int (0 + (i : Int))), some (.ref ab), x6, x7] ∧ abv.length = w.toNat + 1 ∧
      (∀ g, wR g 0 abv = wR (Tw l w g) 0 (row.take j)) ∧ Sts (pto ab (.lst (abv.map V.int)) :: pto r (.lst (row.map V.int)) :: F) H) ?_ ?_ ?_
    · refine ⟨_, _, _, rfl, ?_, fun g => ?_, by walk_at "fp"⟩
      · rw [rep0, List.length_replicate]
        omega
      · rw [rep0, wR_zero]
        rfl
    · rintro j σ H hj ⟨abv, x6, x7, rfl, hl4, hr4, S⟩
      have gr : row[j]? = some (gI row (0 + (j : Int))) := by
        have z := gI_get (L := row) (k := 0 + (j : Int)) (by omega) (by omega)
        rwa [show (0 + (j : Int)).toNat = j by omega] at z
      have tk : ∀ g, wR (Tw l w g) 0 (row.take (j + 1)) = wR (Tw l w g) 0 (row.take j) + gI row (0 + (j : Int)) * Tw l w g (0 + (j : Int)) := fun g => by
        rw [wR_take _ _ _ _ gr, Int.zero_add]
      walk_at "go"
      rename_i oo o0 o1 ob H4 S4
      have ob : oo = 1 ↔ w ≤ 0 + (j : Int) := ob.trans decide_eq_true_iff
      have tw := fun g => Tw_row (l := l) g (w := w) (b := 0 + (j : Int)) (o := oo) (by omega) (by omega) (by omega) o0 o1 ob
      have f1 := fun g => wR_add g (L := abv) (k := 0) (d := (l - 1) * gI row (0 + (j : Int))) (by omega) (by omega)
      have f2 := fun g => wR_add g (L := abv.set (Int.toNat 0) (gI abv 0 + (l - 1) * gI row (0 + (j : Int)))) (k := oo) (d := gI row (0 + (j : Int))) o0 (by rw [List.length_set]; omega)
      have l2 : ((abv.set (Int.toNat 0) (gI abv 0 + (l - 1) * gI row (0 + (j : Int)))).set oo.toNat (gI (abv.set (Int.toNat 0) (gI abv 0 + (l - 1) * gI row (0 + (j : Int)))) oo + gI row (0 + (j : Int)))).length = w.toNat + 1 := by
        rw [List.length_set, List.length_set]
        exact hl4
      have fe : ∀ g : Int → Int, wR g 0 ((abv.set (Int.toNat 0) (gI abv 0 + (l - 1) * gI row (0 + (j : Int)))).set oo.toNat (gI (abv.set (Int.toNat 0) (gI abv 0 + (l - 1) * gI row (0 + (j : Int)))) oo + gI row (0 + (j : Int)))) =
          wR (Tw l w g) 0 (row.take j) + gI row (0 + (j : Int)) * (g oo + (l - 1) * g 0) := fun g => by
        rw [f2, f1, hr4, Int.mul_add, Int.mul_comm (l - 1), Int.mul_assoc]
        omega
      clear f1 f2
      generalize (abv.set (Int.toNat 0) (gI abv 0 + (l - 1) * gI row (0 + (j : Int)))).set oo.toNat (gI (abv.set (Int.toNat 0) (gI abv 0 + (l - 1) * gI row (0 + (j : Int)))) oo + gI row (0 + (j : Int))) = B at *
      with_reducible refine ifB (fun c => ?_) (fun c => ?_)
      · have c := odt c
        walk_at "go"
        refine ⟨B.set (0 + (j : Int) + 1).toNat (gI B (0 + (j : Int) + 1) + gI row (0 + (j : Int))), _, _, rfl, by rw [List.length_set]; exact l2, fun g => ?_, by walk_at "fp"⟩
        rw [wR_add g (k := 0 + (j : Int) + 1) (by omega) (by omega), fe, tk, tw, if_pos c]
        rw [Int.mul_add _ (g (0 + (j : Int) + 1))]
        omega
      · have c := odf c
        walk_at "go"
        refine ⟨B, _, _, rfl, l2, fun g => ?_, by walk_at "fp"⟩
        have z : (0 : Int) + (g oo + (l - 1) * g 0) = g oo + (l - 1) * g 0 := Int.zero_add _
        rw [fe, tk, tw, if_neg c, z]
    · rintro σ H ⟨abv, x6, x7, rfl, hl4, hr4, S⟩
      walk_at "go"
      refine ⟨ab, abv, _, _, _, _, rfl, hl4, fun g => ?_, by walk_at "fp"⟩
      rw [hr4, List.take_of_length_le (by omega), hr3, Tn_succ]
  · rintro σ H ⟨r, row, x4, x5, x6, x7, rfl, hl3, hr3, S⟩
    walk_at "go"
    have z := hr3 (fun _ => 1)
    rw [wR_one] at z
    rw [z]
    exact q _ (by walk_at "fp")
def pl (l : Int) (i : Nat) : List Int := (List.range (i + 2)).map fun k => kcn k l 1
theorem pl_snoc (l : Int) (i : Nat) : pl l (i + 1) = pl l i ++ [(l + 1) * kcn (i + 1) l 1 - kcn i l 1] := by
  unfold pl
  rw [show i + 1 + 2 = (i + 2) + 1 by omega, List.range_succ, List.map_append]
  congr 1
  show [kcn (i + 2) l 1] = _
  rw [path]
theorem pl_end (l : Int) (i : Nat) : pl l i = (List.range i).map (fun k => kcn k l 1) ++ [kcn i l 1, kcn (i + 1) l 1] := by
  unfold pl
  rw [List.range_succ, List.range_succ, List.map_append, List.map_append, List.append_assoc]
  rfl
theorem pl_len (l : Int) (i : Nat) : (pl l i).length = i + 2 := by
  unfold pl
  rw [List.length_map, List.length_range]
def spPath : Sp := fun vs H Q _ => ∃ (n l : Int) (F : List Asr), vs = [.int n, .int l] ∧ (0 ≤ n ∧ n ≤ 1000 ∧ 1 ≤ l ∧ l ≤ 1000) ∧ Sts F H ∧ ∀ (H' : Hp), Sts F H' → Q (.int (kcn n.toNat l 1)) H'
theorem ok_law_path (T : Txt K mg) : FnOk P w K mg base CX0 1 T.f_law_path T.fd_law_path ["pages", "lines"] spPath := by
  refine T.F_law_path.ok sc_law_path (fun vs H Q E h => by obtain ⟨n, l, F, rfl, _⟩ := h; rfl) (fun cdv A outer s H vs Q E hr h => ?_)
  obtain ⟨n, l, F, rfl, ⟨hn, hn2, hl, hl2⟩, S, q⟩ := h
  refine ⟨_, (pss_cons (ps_set (i := 2) sc_law_path.nd rfl (Or.inl rfl) (pe_lst (pa_cons pe_int (pa_cons (pe_op op_add (pv 1) pe_int) pa_nil))))
      (pss_cons (ps_for PassesOwn.never rfl (pi_range1 rfl T.z_range (pa_cons (pv 0) pa_nil)) (pg_name (i := 3) sc_law_path.nd rfl (Or.inl rfl))
      (pss_one (ps_expr (pe_bm PySem.F.plainAttrs_list PySem.F.slot_list_append PySem.F.type_list_append oc_appendI (pv 2) (pa_cons (pe_op op_sub (pe_op op_mul (pe_op op_add (pv 1) pe_int) (pe_ix (oc_ixLast (K := K) rfl) (pv 2) (pe_un un_neg pe_int) (fun _ _ => rfl))) (pe_ix (oc_ixLast2 (K := K) rfl) (pv 2) (pe_un un_neg pe_int) (fun _ _ => rfl))) pa_nil)))))
      (pss_one (ps_ret (pe_ix (oc_ixI (K := K) rfl) (pv 2) (pv 0) (fun _ _ => rfl)))))), ?_⟩
  walk_at "go"
  rename_i d H1 S1
  refine for_range (lo := 0) (n := n.toNat) (fun i σ H => ∃ x3 : Option V, σ = [some (.int n), some (.int l), some (.ref d), x3] ∧ Sts (pto d (.lst ((pl l i).map V.int)) :: F) H) ?_ ?_ ?_
  · refine ⟨none, rfl, ?_⟩
    rw [pl_end, show kcn 0 l 1 = 1 from rfl, cnt_few (n := 1) (by decide) (by decide), Int.pow_succ, Int.pow_zero, Int.one_mul]
    exact S1
  · rintro i σ H hi ⟨x3, rfl, S⟩
    have ll := pl_len l i
    walk_at "go"
    refine ⟨_, _, rfl, rfl, by walk_at "sq", kcn (i + 1) l 1, by rw [pl_end]; simp, ?_⟩
    walk_at "go"
    refine ⟨_, _, rfl, rfl, by walk_at "sq", _, kcn i l 1, _, pl_end l i, ?_⟩
    walk_at "go"
    rename_i H3 S3
    rw [pl_snoc]
    exact S3
  · rintro σ H ⟨x3, rfl, S⟩
    have ll := pl_len l n.toNat
    walk_at "go"
    have e : gI (pl l n.toNat) n = kcn n.toNat l 1 := by
      unfold gI pl
      rw [List.getD_eq_getElem?_getD, List.getElem?_map, List.getElem?_range (by omega)]
      rfl
    rw [e]
    exact q _ (by walk_at "fp")
def spFits : Sp := fun vs H Q _ => ∃ (n l w i : Int) (F : List Asr), vs = [.int n, .int l, .int w, .int i] ∧ (0 ≤ n ∧ n ≤ 1000 ∧ 1 ≤ w ∧ w ≤ 1000 ∧ 1 ≤ l ∧ l ≤ 1000) ∧ i = kcn n.toNat l w ∧ Sts F H ∧ ∀ (H' : Hp), Sts F H' → Q (.bl true) H'
theorem ok_law_fits (T : Txt K mg) : FnOk P w K mg base CX0 4 T.f_law_fits T.fd_law_fits ["pages", "lines", "copies", "due"] spFits := by
  refine T.F_law_fits.ok sc_law_fits (fun vs H Q E h => by obtain ⟨n, l, w, i, F, rfl, _⟩ := h; rfl) (fun cdv A outer s H vs Q E hr h => ?_)
  obtain ⟨n, l, w, i, F, rfl, ⟨hn, hn2, hw, hw2, hl, hl2⟩, hi, S, q⟩ := h
  refine ⟨_, (pss_cons (ps_set (i := 4) sc_law_fits.nd rfl (Or.inl rfl) (pe_call (ok_count_chains T) (hr.mono (by decide)) (by rfl) T.g_count_chains T.F_count_chains.kp T.b_count_chains .nil pass0 (pa_cons (pv 0) (pa_cons (pv 1) (pa_cons (pv 2) pa_nil)))))
      (pss_one (ps_ret (pe_and (pe_call (ok_law_is_integer T) (hr.mono (by decide)) (by rfl) T.g_law_is_integer T.F_law_is_integer.kp T.b_law_is_integer .nil pass0 (pa_cons (pv 4) pa_nil)) (pe_one (pe_cmpR op_eq (pv 4) (pv 3) (nomark _))))))), ?_⟩
  walk_at "go"
  rw [hi, deq]
  exact q _ (by assumption)
local macro_rules | `(tactic| walk_at "go1") => `(tactic| (refine ⟨_, _, _, rfl, Oc.pr ⟨by omega, by omega, by omega, by omega⟩, Oc.pr (by assumption), fun (oh : L2.Hp) os => ?_⟩))
local macro_rules | `(tactic| walk_at "go1") => `(tactic| (refine ⟨_, _, _, _, _, rfl, Oc.pr ⟨by omega, by omega, by omega, by omega, by omega, by omega⟩, rfl, Oc.pr (by assumption), fun (oh : L2.Hp) os => ?_⟩))
def spLong : Sp := fun vs H Q _ => ∃ (p : Addr) (F : List Asr), vs = [.ref p] ∧ Sts (bag p :: F) H ∧ ∀ (a : Addr) (n l : Int) (H' : Hp), 0 ≤ n → n ≤ 300 → 2 ≤ l → l ≤ 60 → Sts (pto a (.lst [.int n, .int l]) :: bag p :: F) H' → Q (.ref a) H'
theorem ok_law_long (T : Txt K mg) : FnOk P w K mg base CX0 2 T.f_law_long T.fd_law_long ["bag"] spLong := by
  refine T.F_law_long.ok sc_law_long (fun vs H Q E h => by obtain ⟨p, F, rfl, _⟩ := h; rfl) (fun cdv A outer s H vs Q E hr h => ?_)
  obtain ⟨p, F, rfl, S, q⟩ := h
  refine ⟨_, (pss_cons (ps_set (i := 1) sc_law_long.nd rfl (Or.inl rfl) (pe_call (ok_law_take T) (hr.mono (by decide)) (by rfl) T.g_law_take T.F_law_take.kp T.b_law_take .nil pass0 (pa_cons (pv 0) (pa_cons pe_int pa_nil))))
      (pss_cons (ps_if (pt_cmpR op_eq (pe_call (ok_law_take T) (hr.mono (by decide)) (by rfl) T.g_law_take T.F_law_take.kp T.b_law_take .nil pass0 (pa_cons (pv 0) (pa_cons pe_int pa_nil))) pe_int (nomark _))
      (pss_one (ps_set (i := 1) sc_law_long.nd rfl (Or.inl rfl) (pe_op op_add pe_int (pe_call (ok_law_take T) (hr.mono (by decide)) (by rfl) T.g_law_take T.F_law_take.kp T.b_law_take .nil pass0 (pa_cons (pv 0) (pa_cons pe_int pa_nil))))))
      pss_nil)
      (pss_cons (ps_set (i := 2) sc_law_long.nd rfl (Or.inl rfl) (pe_op op_add pe_int (pe_call (ok_law_take T) (hr.mono (by decide)) (by rfl) T.g_law_take T.F_law_take.kp T.b_law_take .nil pass0 (pa_cons (pv 0) (pa_cons pe_int pa_nil)))))
      (pss_cons (ps_if (pt_cmpR op_eq (pe_call (ok_law_take T) (hr.mono (by decide)) (by rfl) T.g_law_take T.F_law_take.kp T.b_law_take .nil pass0 (pa_cons (pv 0) (pa_cons pe_int pa_nil))) pe_int (nomark _))
      (pss_one (ps_set (i := 2) sc_law_long.nd rfl (Or.inl rfl) (pe_op op_add pe_int (pe_call (ok_law_take T) (hr.mono (by decide)) (by rfl) T.g_law_take T.F_law_take.kp T.b_law_take .nil pass0 (pa_cons (pv 0) (pa_cons pe_int pa_nil))))))
      pss_nil)
      (pss_one (ps_ret (pe_lst (pa_cons (pv 1) (pa_cons (pv 2) pa_nil))))))))), ?_⟩
  walk_at "go"
  with_reducible refine ifB (fun c => ?_) (fun c => ?_)
  · walk_at "go"
    with_reducible refine ifB (fun c2 => ?_) (fun c2 => ?_)
    · walk_at "go"
      refine q _ _ _ _ ?_ ?_ ?_ ?_ (by walk_at "fp") <;> omega
    · walk_at "go"
      refine q _ _ _ _ ?_ ?_ ?_ ?_ (by walk_at "fp") <;> omega
  · walk_at "go"
    with_reducible refine ifB (fun c2 => ?_) (fun c2 => ?_)
    · walk_at "go"
      refine q _ _ _ _ ?_ ?_ ?_ ?_ (by walk_at "fp") <;> omega
    · walk_at "go"
      refine q _ _ _ _ ?_ ?_ ?_ ?_ (by walk_at "fp") <;> omega
local macro_rules | `(tactic| walk_at "go1") => `(tactic| refine ⟨_, _, rfl, K30.gB (by walk_at "fr1"), fun (oa : PySem.Addr) (on ol : Int) (oh : L2.Hp) o0 o1 o2 o3 os => ?_⟩)
theorem small7 (p : Int) (h0 : 0 ≤ p) (h1 : p < 7) : 2 ≤ gI [60, 60, 15, 5, 3, 2, 2] p ∧ gI [60, 60, 15, 5, 3, 2, 2] p ≤ 60 ∧ ∀ l : Int, 2 ≤ l → l ≤ gI [60, 60, 15, 5, 3, 2, 2] p → (l.toNat + 1) ^ p.toNat ≤ 1000000 := by
  have key : ∀ (v : Int) (k m : Nat), (v.toNat + 1) ^ k ≤ 1000000 → ∀ l : Int, 2 ≤ l → l ≤ v → (l.toNat + 1) ^ k ≤ 1000000 := fun v k m h l h2 h3 => Nat.le_trans (Nat.pow_le_pow_left (by omega) k) h
  rcases (by omega : p = 0 ∨ p = 1 ∨ p = 2 ∨ p = 3 ∨ p = 4 ∨ p = 5 ∨ p = 6) with rfl | rfl | rfl | rfl | rfl | rfl | rfl
  · exact ⟨by decide, by decide, key 60 0 0 (by decide)⟩
  · exact ⟨by decide, by decide, key 60 1 0 (by decide)⟩
  · exact ⟨by decide, by decide, key 15 2 0 (by decide)⟩
  · exact ⟨by decide, by decide, key 5 3 0 (by decide)⟩
  · exact ⟨by decide, by decide, key 3 4 0 (by decide)⟩
  · exact ⟨by decide, by decide, key 2 5 0 (by decide)⟩
  · exact ⟨by decide, by decide, key 2 6 0 (by decide)⟩
def spLaw (K : PySem.W.Frag) : Sp := fun vs H Q _ => ∃ (a : Addr) (ns : List Int), vs = [.ref a] ∧ SqL K H a (ns.map V.int) ∧ ns.length ≤ 63 ∧ ∀ H', Q (.bl true) H'
theorem ok_law (T : Txt K mg) : FnOk P w K mg base CX0 5 T.f_law T.fd_law ["script"] (spLaw K) := by
  refine T.F_law.ok sc_law (fun vs H Q E h => by obtain ⟨a, ns, rfl, _⟩ := h; rfl) (fun cdv A outer s H vs Q E hr h => ?_)
  obtain ⟨a, ns, rfl, hS, hlen, q⟩ := h
  have S := sts_script hS
  refine ⟨_, (pss_cons (ps_set (i := 1) sc_law.nd rfl (Or.inl rfl) (pe_call (ok_law_bag T) (hr.mono (by decide)) (by rfl) T.g_law_bag T.F_law_bag.kp T.b_law_bag .nil pass0 (pa_cons (pv 0) (pa_cons pe_int pa_nil))))
      (pss_cons (ps_set (i := 2) sc_law.nd rfl (Or.inl rfl) (pe_call (ok_law_take T) (hr.mono (by decide)) (by rfl) T.g_law_take T.F_law_take.kp T.b_law_take .nil pass0 (pa_cons (pv 1) (pa_cons pe_int pa_nil))))
      (pss_cons (ps_set (i := 3) sc_law.nd rfl (Or.inl rfl) (pe_op op_add pe_int (pe_call (ok_law_take T) (hr.mono (by decide)) (by rfl) T.g_law_take T.F_law_take.kp T.b_law_take .nil pass0 (pa_cons (pv 1) (pa_cons (pe_op op_sub (pe_ix (oc_ixI (K := K) rfl) (pe_lst (pa_cons pe_int (pa_cons pe_int (pa_cons pe_int (pa_cons pe_int (pa_cons pe_int (pa_cons pe_int (pa_cons pe_int pa_nil)))))))) (pv 2) (fun _ _ => rfl)) pe_int) pa_nil)))))
      (pss_cons (ps_set (i := 4) sc_law.nd rfl (Or.inl rfl) (pe_op op_add pe_int (pe_call (ok_law_take T) (hr.mono (by decide)) (by rfl) T.g_law_take T.F_law_take.kp T.b_law_take .nil pass0 (pa_cons (pv 1) (pa_cons pe_int pa_nil)))))
      (pss_cons (ps_if (pt_not (pt_val (pe_call (ok_law_fits T) (hr.mono (by decide)) (by rfl) T.g_law_fits T.F_law_fits.kp T.b_law_fits .nil pass0 (pa_cons (pv 2) (pa_cons (pv 3) (pa_cons (pv 4) (pa_cons (pe_call (ok_law_small T) (hr.mono (by decide)) (by rfl) T.g_law_small T.F_law_small.kp T.b_law_small .nil pass0 (pa_cons (pv 2) (pa_cons (pv 3) (pa_cons (pv 4) pa_nil)))) pa_nil)))))))
      (pss_one (ps_ret pe_bl))
      pss_nil)
      (pss_cons (ps_set (i := 1) sc_law.nd rfl (Or.inl rfl) (pe_call (ok_law_bag T) (hr.mono (by decide)) (by rfl) T.g_law_bag T.F_law_bag.kp T.b_law_bag .nil pass0 (pa_cons (pv 0) (pa_cons pe_int pa_nil))))
      (pss_cons (ps_set (i := 5) sc_law.nd rfl (Or.inl rfl) (pe_call (ok_law_long T) (hr.mono (by decide)) (by rfl) T.g_law_long T.F_law_long.kp T.b_law_long .nil pass0 (pa_cons (pv 1) pa_nil)))
      (pss_cons (ps_set (i := 4) sc_law.nd rfl (Or.inl rfl) (pe_call (ok_law_copies T) (hr.mono (by decide)) (by rfl) T.g_law_copies T.F_law_copies.kp T.b_law_copies .nil pass0 (pa_cons (pv 1) pa_nil)))
      (pss_cons (ps_if (pt_not (pt_val (pe_call (ok_law_fits T) (hr.mono (by decide)) (by rfl) T.g_law_fits T.F_law_fits.kp T.b_law_fits .nil pass0 (pa_cons (pe_ix (oc_ix (K := K) rfl) (pv 5) pe_int (fun _ _ => rfl)) (pa_cons (pe_ix (oc_ix (K := K) rfl) (pv 5) pe_int (fun _ _ => rfl)) (pa_cons (pv 4) (pa_cons (pe_call (ok_law_table T) (hr.mono (by decide)) (by rfl) T.g_law_table T.F_law_table.kp T.b_law_table .nil pass0 (pa_cons (pe_ix (oc_ix (K := K) rfl) (pv 5) pe_int (fun _ _ => rfl)) (pa_cons (pe_ix (oc_ix (K := K) rfl) (pv 5) pe_int (fun _ _ => rfl)) (pa_cons (pv 4) pa_nil)))) pa_nil)))))))
      (pss_one (ps_ret pe_bl))
      pss_nil)
      (pss_cons (ps_set (i := 6) sc_law.nd rfl (Or.inl rfl) (pe_call (ok_law_take T) (hr.mono (by decide)) (by rfl) T.g_law_take T.F_law_take.kp T.b_law_take .nil pass0 (pa_cons (pv 1) (pa_cons (pe_op op_add (pv 4) pe_int) pa_nil))))
      (pss_cons (ps_if (pt_not (pt_val (pe_call (ok_law_fits T) (hr.mono (by decide)) (by rfl) T.g_law_fits T.F_law_fits.kp T.b_law_fits .nil pass0 (pa_cons (pv 6) (pa_cons (pe_ix (oc_ix (K := K) rfl) (pv 5) pe_int (fun _ _ => rfl)) (pa_cons (pv 4) (pa_cons (pe_call (ok_law_all_lists T) (hr.mono (by decide)) (by rfl) T.g_law_all_lists T.F_law_all_lists.kp T.b_law_all_lists .nil pass0 (pa_cons (pv 6) (pa_cons (pe_ix (oc_ix (K := K) rfl) (pv 5) pe_int (fun _ _ => rfl)) pa_nil))) pa_nil)))))))
      (pss_one (ps_ret pe_bl))
      pss_nil)
      (pss_cons (ps_if (pt_not (pt_val (pe_call (ok_law_fits T) (hr.mono (by decide)) (by rfl) T.g_law_fits T.F_law_fits.kp T.b_law_fits .nil pass0 (pa_cons (pe_op op_add (pv 4) pe_int) (pa_cons (pe_ix (oc_ix (K := K) rfl) (pv 5) pe_int (fun _ _ => rfl)) (pa_cons (pv 4) (pa_cons (pe_op op_sub (pe_call (ok_law_all_lists T) (hr.mono (by decide)) (by rfl) T.g_law_all_lists T.F_law_all_lists.kp T.b_law_all_lists .nil pass0 (pa_cons (pe_op op_add (pv 4) pe_int) (pa_cons (pe_ix (oc_ix (K := K) rfl) (pv 5) pe_int (fun _ _ => rfl)) pa_nil))) pe_int) pa_nil)))))))
      (pss_one (ps_ret pe_bl))
      pss_nil)
      (pss_cons (ps_set (i := 5) sc_law.nd rfl (Or.inl rfl) (pe_call (ok_law_long T) (hr.mono (by decide)) (by rfl) T.g_law_long T.F_law_long.kp T.b_law_long .nil pass0 (pa_cons (pe_call (ok_law_bag T) (hr.mono (by decide)) (by rfl) T.g_law_bag T.F_law_bag.kp T.b_law_bag .nil pass0 (pa_cons (pv 0) (pa_cons pe_int pa_nil))) pa_nil)))
      (pss_one (ps_ret (pe_call (ok_law_fits T) (hr.mono (by decide)) (by rfl) T.g_law_fits T.F_law_fits.kp T.b_law_fits .nil pass0 (pa_cons (pe_ix (oc_ix (K := K) rfl) (pv 5) pe_int (fun _ _ => rfl)) (pa_cons (pe_ix (oc_ix (K := K) rfl) (pv 5) pe_int (fun _ _ => rfl)) (pa_cons pe_int (pa_cons (pe_call (ok_law_path T) (hr.mono (by decide)) (by rfl) T.g_law_path T.F_law_path.kp T.b_law_path .nil pass0 (pa_cons (pe_ix (oc_ix (K := K) rfl) (pv 5) pe_int (fun _ _ => rfl)) (pa_cons (pe_ix (oc_ix (K := K) rfl) (pv 5) pe_int (fun _ _ => rfl)) pa_nil))) pa_nil)))))))))))))))))))), ?_⟩
  walk_at "go"
  rename_i _ _ _ p _ p0 p1 _ _ _ _
  obtain ⟨v2, v60, vl⟩ := small7 p p0 p1
  generalize gI [60, 60, 15, 5, 3, 2, 2] p = v at *
  walk_at "go"
  rename_i d1 _ d0 _ _ d2 _ _ _ _
  have hl := vl (2 + d1) (by omega) (by omega)
  walk_at "go"
  rename_i oa n2 l2 _ n0 n1 l0 l1 _ c2 _ c0 c1 _ _ _ _ _ fw _ f0 f1 S5
  refine ⟨_, _, _, _, _, rfl, ⟨by omega, by omega, by omega, by omega, by omega, by omega⟩, (cnt_few (by omega) (by omega)).symm, Oc.pr (by assumption), fun H1 S1 => ?_⟩
  walk_at "go"
  refine ⟨_, _, _, _, _, rfl, ⟨by omega, by omega, by omega, by omega, by omega, by omega⟩, ?_, Oc.pr (by assumption), fun H2 S2 => ?_⟩
  · rw [show (c2 + 1).toNat = c2.toNat + 1 by omega]
    exact (cnt_one (by omega) (by omega)).symm
  walk_at "go"
  exact q _

end
/-! ### what the top has written; the law's own head -/
theorem all_mk {l : PySem.W.OpenLaw} {w : World} {K : PySem.W.Frag} {h : Heap} {mg : Str → Option Value} {fa : Addr} (X : K.In h) (G : h.Ns mainGlobals mg) (hfa : mg "law" = some (.ref fa))
    {f0 : Addr} {od0 an0 : Option Addr} {sl0 : Array (Option Value)} {oc0 kV0 dc0 pm0 cd0 ct0 : Value}
    {f1 : Addr} {od1 an1 : Option Addr} {sl1 : Array (Option Value)} {oc1 kV1 dc1 pm1 cd1 ct1 : Value}
    {f2 : Addr} {od2 an2 : Option Addr} {sl2 : Array (Option Value)} {oc2 kV2 dc2 pm2 cd2 ct2 : Value}
    {f3 : Addr} {od3 an3 : Option Addr} {sl3 : Array (Option Value)} {oc3 kV3 dc3 pm3 cd3 ct3 : Value}
    {f4 : Addr} {od4 an4 : Option Addr} {sl4 : Array (Option Value)} {oc4 kV4 dc4 pm4 cd4 ct4 : Value}
    {f5 : Addr} {od5 an5 : Option Addr} {sl5 : Array (Option Value)} {oc5 kV5 dc5 pm5 cd5 ct5 : Value}
    {f6 : Addr} {od6 an6 : Option Addr} {sl6 : Array (Option Value)} {oc6 kV6 dc6 pm6 cd6 ct6 : Value}
    {f7 : Addr} {od7 an7 : Option Addr} {sl7 : Array (Option Value)} {oc7 kV7 dc7 pm7 cd7 ct7 : Value}
    {f8 : Addr} {od8 an8 : Option Addr} {sl8 : Array (Option Value)} {oc8 kV8 dc8 pm8 cd8 ct8 : Value}
    {f9 : Addr} {od9 an9 : Option Addr} {sl9 : Array (Option Value)} {oc9 kV9 dc9 pm9 cd9 ct9 : Value}
    {f10 : Addr} {od10 an10 : Option Addr} {sl10 : Array (Option Value)} {oc10 kV10 dc10 pm10 cd10 ct10 : Value}
    {f11 : Addr} {od11 an11 : Option Addr} {sl11 : Array (Option Value)} {oc11 kV11 dc11 pm11 cd11 ct11 : Value}
    {f12 : Addr} {od12 an12 : Option Addr} {sl12 : Array (Option Value)} {oc12 kV12 dc12 pm12 cd12 ct12 : Value}
    {f13 : Addr} {od13 an13 : Option Addr} {sl13 : Array (Option Value)} {oc13 kV13 dc13 pm13 cd13 ct13 : Value}
    {f14 : Addr} {od14 an14 : Option Addr} {sl14 : Array (Option Value)} {oc14 kV14 dc14 pm14 cd14 ct14 : Value}
    {f15 : Addr} {od15 an15 : Option Addr} {sl15 : Array (Option Value)} {oc15 kV15 dc15 pm15 cd15 ct15 : Value}
    (a0 : PySem.W.nsIn K mainGlobals "height_above" = some (some (.ref f0)))
    (l0 : K.lookup f0 = some ⟨oc0, od0, .func (PySem.W.fnOf "height_above" "height_above" (defArgs s_height_above) (defBody s_height_above) (defScope s_height_above) .none kV0 dc0 pm0 an0 cd0 ct0), sl0⟩) (c0 : PySem.W.codeIn K cd0 "height_above" = true) (k0 : PySem.W.keepIn K (.ref f0) = true)
    (a1 : PySem.W.nsIn K mainGlobals "count_chains" = some (some (.ref f1)))
    (l1 : K.lookup f1 = some ⟨oc1, od1, .func (PySem.W.fnOf "count_chains" "count_chains" (defArgs s_count_chains) (defBody s_count_chains) (defScope s_count_chains) .none kV1 dc1 pm1 an1 cd1 ct1), sl1⟩) (c1 : PySem.W.codeIn K cd1 "count_chains" = true) (k1 : PySem.W.keepIn K (.ref f1) = true)
    (a2 : PySem.W.nsIn K mainGlobals "_counts_above" = some (some (.ref f2)))
    (l2 : K.lookup f2 = some ⟨oc2, od2, .func (PySem.W.fnOf "_counts_above" "_counts_above" (defArgs s_counts_above) (defBody s_counts_above) (defScope s_counts_above) .none kV2 dc2 pm2 an2 cd2 ct2), sl2⟩) (c2 : PySem.W.codeIn K cd2 "_counts_above" = true) (k2 : PySem.W.keepIn K (.ref f2) = true)
    (a3 : PySem.W.nsIn K mainGlobals "_law_is_integer" = some (some (.ref f3)))
    (l3 : K.lookup f3 = some ⟨oc3, od3, .func (PySem.W.fnOf "_law_is_integer" "_law_is_integer" (defArgs s_law_is_integer) (defBody s_law_is_integer) (defScope s_law_is_integer) .none kV3 dc3 pm3 an3 cd3 ct3), sl3⟩) (c3 : PySem.W.codeIn K cd3 "_law_is_integer" = true) (k3 : PySem.W.keepIn K (.ref f3) = true)
    (a4 : PySem.W.nsIn K mainGlobals "_law_bag" = some (some (.ref f4)))
    (l4 : K.lookup f4 = some ⟨oc4, od4, .func (PySem.W.fnOf "_law_bag" "_law_bag" (defArgs s_law_bag) (defBody s_law_bag) (defScope s_law_bag) .none kV4 dc4 pm4 an4 cd4 ct4), sl4⟩) (c4 : PySem.W.codeIn K cd4 "_law_bag" = true) (k4 : PySem.W.keepIn K (.ref f4) = true)
    (a5 : PySem.W.nsIn K mainGlobals "_law_take" = some (some (.ref f5)))
    (l5 : K.lookup f5 = some ⟨oc5, od5, .func (PySem.W.fnOf "_law_take" "_law_take" (defArgs s_law_take) (defBody s_law_take) (defScope s_law_take) .none kV5 dc5 pm5 an5 cd5 ct5), sl5⟩) (c5 : PySem.W.codeIn K cd5 "_law_take" = true) (k5 : PySem.W.keepIn K (.ref f5) = true)
    (a6 : PySem.W.nsIn K mainGlobals "_law_copies" = some (some (.ref f6)))
    (l6 : K.lookup f6 = some ⟨oc6, od6, .func (PySem.W.fnOf "_law_copies" "_law_copies" (defArgs s_law_copies) (defBody s_law_copies) (defScope s_law_copies) .none kV6 dc6 pm6 an6 cd6 ct6), sl6⟩) (c6 : PySem.W.codeIn K cd6 "_law_copies" = true) (k6 : PySem.W.keepIn K (.ref f6) = true)
    (a7 : PySem.W.nsIn K mainGlobals "_law_has_stretch" = some (some (.ref f7)))
    (l7 : K.lookup f7 = some ⟨oc7, od7, .func (PySem.W.fnOf "_law_has_stretch" "_law_has_stretch" (defArgs s_law_has_stretch) (defBody s_law_has_stretch) (defScope s_law_has_stretch) .none kV7 dc7 pm7 an7 cd7 ct7), sl7⟩) (c7 : PySem.W.codeIn K cd7 "_law_has_stretch" = true) (k7 : PySem.W.keepIn K (.ref f7) = true)
    (a8 : PySem.W.nsIn K mainGlobals "_law_all_lists" = some (some (.ref f8)))
    (l8 : K.lookup f8 = some ⟨oc8, od8, .func (PySem.W.fnOf "_law_all_lists" "_law_all_lists" (defArgs s_law_all_lists) (defBody s_law_all_lists) (defScope s_law_all_lists) .none kV8 dc8 pm8 an8 cd8 ct8), sl8⟩) (c8 : PySem.W.codeIn K cd8 "_law_all_lists" = true) (k8 : PySem.W.keepIn K (.ref f8) = true)
    (a9 : PySem.W.nsIn K mainGlobals "_law_list" = some (some (.ref f9)))
    (l9 : K.lookup f9 = some ⟨oc9, od9, .func (PySem.W.fnOf "_law_list" "_law_list" (defArgs s_law_list) (defBody s_law_list) (defScope s_law_list) .none kV9 dc9 pm9 an9 cd9 ct9), sl9⟩) (c9 : PySem.W.codeIn K cd9 "_law_list" = true) (k9 : PySem.W.keepIn K (.ref f9) = true)
    (a10 : PySem.W.nsIn K mainGlobals "_law_small" = some (some (.ref f10)))
    (l10 : K.lookup f10 = some ⟨oc10, od10, .func (PySem.W.fnOf "_law_small" "_law_small" (defArgs s_law_small) (defBody s_law_small) (defScope s_law_small) .none kV10 dc10 pm10 an10 cd10 ct10), sl10⟩) (c10 : PySem.W.codeIn K cd10 "_law_small" = true) (k10 : PySem.W.keepIn K (.ref f10) = true)
    (a11 : PySem.W.nsIn K mainGlobals "_law_table" = some (some (.ref f11)))
    (l11 : K.lookup f11 = some ⟨oc11, od11, .func (PySem.W.fnOf "_law_table" "_law_table" (defArgs s_law_table) (defBody s_law_table) (defScope s_law_table) .none kV11 dc11 pm11 an11 cd11 ct11), sl11⟩) (c11 : PySem.W.codeIn K cd11 "_law_table" = true) (k11 : PySem.W.keepIn K (.ref f11) = true)
    (a12 : PySem.W.nsIn K mainGlobals "_law_path" = some (some (.ref f12)))
    (l12 : K.lookup f12 = some ⟨oc12, od12, .func (PySem.W.fnOf "_law_path" "_law_path" (defArgs s_law_path) (defBody s_law_path) (defScope s_law_path) .none kV12 dc12 pm12 an12 cd12 ct12), sl12⟩) (c12 : PySem.W.codeIn K cd12 "_law_path" = true) (k12 : PySem.W.keepIn K (.ref f12) = true)
    (a13 : PySem.W.nsIn K mainGlobals "_law_fits" = some (some (.ref f13)))
    (l13 : K.lookup f13 = some ⟨oc13, od13, .func (PySem.W.fnOf "_law_fits" "_law_fits" (defArgs s_law_fits) (defBody s_law_fits) (defScope s_law_fits) .none kV13 dc13 pm13 an13 cd13 ct13), sl13⟩) (c13 : PySem.W.codeIn K cd13 "_law_fits" = true) (k13 : PySem.W.keepIn K (.ref f13) = true)
    (a14 : PySem.W.nsIn K mainGlobals "_law_long" = some (some (.ref f14)))
    (l14 : K.lookup f14 = some ⟨oc14, od14, .func (PySem.W.fnOf "_law_long" "_law_long" (defArgs s_law_long) (defBody s_law_long) (defScope s_law_long) .none kV14 dc14 pm14 an14 cd14 ct14), sl14⟩) (c14 : PySem.W.codeIn K cd14 "_law_long" = true) (k14 : PySem.W.keepIn K (.ref f14) = true)
    (a15 : PySem.W.nsIn K mainGlobals "law" = some (some (.ref f15)))
    (l15 : K.lookup f15 = some ⟨oc15, od15, .func (PySem.W.fnOf "law" "law" (defArgs s_law) (defBody s_law) (defScope s_law) .none kV15 dc15 pm15 an15 cd15 ct15), sl15⟩) (c15 : PySem.W.codeIn K cd15 "law" = true) (k15 : PySem.W.keepIn K (.ref f15) = true)
    (z_abs : PySem.W.nsIn K mainGlobals "abs" = some none)
    (z_any : PySem.W.nsIn K mainGlobals "any" = some none)
    (z_bool : PySem.W.nsIn K mainGlobals "bool" = some none)
    (z_int : PySem.W.nsIn K mainGlobals "int" = some none)
    (z_isinstance : PySem.W.nsIn K mainGlobals "isinstance" = some none)
    (z_len : PySem.W.nsIn K mainGlobals "len" = some none)
    (z_range : PySem.W.nsIn K mainGlobals "range" = some none)
    (z_sum : PySem.W.nsIn K mainGlobals "sum" = some none) :
    ∃ fd : FuncData, (∀ (s : Shared) (v : Value), BindsTo s fd ⟨[v], []⟩ [("script", v)]) ∧ ∀ base : Heap, K.In base → base.Ns mainGlobals mg → FnOk l.prog w K mg base CX0 5 fa fd ["script"] (spLaw K) := by
  have e := hfa.symm.trans (PySem.W.mg_of X G a15)
  cases e
  let T : Txt K mg := { f_height_above := f0, fd_height_above := _, F_height_above := fun_mk (st := s_height_above) l0 c0 k0, g_height_above := PySem.W.mg_of X G a0, b_height_above := (fun_mk (st := s_height_above) l0 c0 k0).binds (ps := ["count", "below", "copies"]) (fun _ _ _ _ _ _ us hl => match us, hl with | [_, _, _], _ => rfl), f_count_chains := f1, fd_count_chains := _, F_count_chains := fun_mk (st := s_count_chains) l1 c1 k1, g_count_chains := PySem.W.mg_of X G a1, b_count_chains := (fun_mk (st := s_count_chains) l1 c1 k1).binds (ps := ["pages", "lines", "copies"]) (fun _ _ _ _ _ _ us hl => match us, hl with | [_, _, _], _ => rfl), f_counts_above := f2, fd_counts_above := _, F_counts_above := fun_mk (st := s_counts_above) l2 c2 k2, g_counts_above := PySem.W.mg_of X G a2, b_counts_above := (fun_mk (st := s_counts_above) l2 c2 k2).binds (ps := ["table", "lines", "copies"]) (fun _ _ _ _ _ _ us hl => match us, hl with | [_, _, _], _ => rfl), f_law_is_integer := f3, fd_law_is_integer := _, F_law_is_integer := fun_mk (st := s_law_is_integer) l3 c3 k3, g_law_is_integer := PySem.W.mg_of X G a3, b_law_is_integer := (fun_mk (st := s_law_is_integer) l3 c3 k3).binds (ps := ["actual"]) (fun _ _ _ _ _ _ us hl => match us, hl with | [_], _ => rfl), f_law_bag := f4, fd_law_bag := _, F_law_bag := fun_mk (st := s_law_bag) l4 c4 k4, g_law_bag := PySem.W.mg_of X G a4, b_law_bag := (fun_mk (st := s_law_bag) l4 c4 k4).binds (ps := ["script", "k"]) (fun _ _ _ _ _ _ us hl => match us, hl with | [_, _], _ => rfl), f_law_take := f5, fd_law_take := _, F_law_take := fun_mk (st := s_law_take) l5 c5 k5, g_law_take := PySem.W.mg_of X G a5, b_law_take := (fun_mk (st := s_law_take) l5 c5 k5).binds (ps := ["bag", "size"]) (fun _ _ _ _ _ _ us hl => match us, hl with | [_, _], _ => rfl), f_law_copies := f6, fd_law_copies := _, F_law_copies := fun_mk (st := s_law_copies) l6 c6 k6, g_law_copies := PySem.W.mg_of X G a6, b_law_copies := (fun_mk (st := s_law_copies) l6 c6 k6).binds (ps := ["bag"]) (fun _ _ _ _ _ _ us hl => match us, hl with | [_], _ => rfl), f_law_has_stretch := f7, fd_law_has_stretch := _, F_law_has_stretch := fun_mk (st := s_law_has_stretch) l7 c7 k7, g_law_has_stretch := PySem.W.mg_of X G a7, b_law_has_stretch := (fun_mk (st := s_law_has_stretch) l7 c7 k7).binds (ps := ["chain", "copies"]) (fun _ _ _ _ _ _ us hl => match us, hl with | [_, _], _ => rfl), f_law_all_lists := f8, fd_law_all_lists := _, F_law_all_lists := fun_mk (st := s_law_all_lists) l8 c8 k8, g_law_all_lists := PySem.W.mg_of X G a8, b_law_all_lists := (fun_mk (st := s_law_all_lists) l8 c8 k8).binds (ps := ["pages", "lines"]) (fun _ _ _ _ _ _ us hl => match us, hl with | [_, _], _ => rfl), f_law_list := f9, fd_law_list := _, F_law_list := fun_mk (st := s_law_list) l9 c9 k9, g_law_list := PySem.W.mg_of X G a9, b_law_list := (fun_mk (st := s_law_list) l9 c9 k9).binds (ps := ["number", "pages", "lines"]) (fun _ _ _ _ _ _ us hl => match us, hl with | [_, _, _], _ => rfl), f_law_small := f10, fd_law_small := _, F_law_small := fun_mk (st := s_law_small) l10 c10 k10, g_law_small := PySem.W.mg_of X G a10, b_law_small := (fun_mk (st := s_law_small) l10 c10 k10).binds (ps := ["pages", "lines", "copies"]) (fun _ _ _ _ _ _ us hl => match us, hl with | [_, _, _], _ => rfl), f_law_table := f11, fd_law_table := _, F_law_table := fun_mk (st := s_law_table) l11 c11 k11, g_law_table := PySem.W.mg_of X G a11, b_law_table := (fun_mk (st := s_law_table) l11 c11 k11).binds (ps := ["pages", "lines", "copies"]) (fun _ _ _ _ _ _ us hl => match us, hl with | [_, _, _], _ => rfl), f_law_path := f12, fd_law_path := _, F_law_path := fun_mk (st := s_law_path) l12 c12 k12, g_law_path := PySem.W.mg_of X G a12, b_law_path := (fun_mk (st := s_law_path) l12 c12 k12).binds (ps := ["pages", "lines"]) (fun _ _ _ _ _ _ us hl => match us, hl with | [_, _], _ => rfl), f_law_fits := f13, fd_law_fits := _, F_law_fits := fun_mk (st := s_law_fits) l13 c13 k13, g_law_fits := PySem.W.mg_of X G a13, b_law_fits := (fun_mk (st := s_law_fits) l13 c13 k13).binds (ps := ["pages", "lines", "copies", "due"]) (fun _ _ _ _ _ _ us hl => match us, hl with | [_, _, _, _], _ => rfl), f_law_long := f14, fd_law_long := _, F_law_long := fun_mk (st := s_law_long) l14 c14 k14, g_law_long := PySem.W.mg_of X G a14, b_law_long := (fun_mk (st := s_law_long) l14 c14 k14).binds (ps := ["bag"]) (fun _ _ _ _ _ _ us hl => match us, hl with | [_], _ => rfl), f_law := _, fd_law := _, F_law := fun_mk (st := s_law) l15 c15 k15, g_law := PySem.W.mg_of X G a15, b_law := (fun_mk (st := s_law) l15 c15 k15).binds (ps := ["script"]) (fun _ _ _ _ _ _ us hl => match us, hl with | [_], _ => rfl), z_abs := PySem.W.mg_none_of X G z_abs, z_any := PySem.W.mg_none_of X G z_any, z_bool := PySem.W.mg_none_of X G z_bool, z_int := PySem.W.mg_none_of X G z_int, z_isinstance := PySem.W.mg_none_of X G z_isinstance, z_len := PySem.W.mg_none_of X G z_len, z_range := PySem.W.mg_none_of X G z_range, z_sum := PySem.W.mg_none_of X G z_sum }
  exact ⟨T.fd_law, fun s v => .of_eq rfl, fun base _ _ => ok_law T⟩
end K30
open PySem PySem.W PyProof.Rows
set_option maxRecDepth 100000 in
set_option maxHeartbeats 0 in
theorem PySem.Challenge.cw_onecopy_k30_chain_counts_holds : PySem.Challenge.rw_onecopy_k30_chain_counts.Holds := by
  w_on; o_law; k_head; (case hw => w_witness2)
  k_fill
  refine L2.walk_of (l := PySem.Challenge.rw_onecopy_k30_chain_counts) (n := 63) (k := 5) (x := "script") (CX := fun _ => L2.CX0) (sp := fun w => K30.spLaw _) rfl (by decide) rfl ⟨rfl, by decide, by decide⟩ (fun w h Y => PySem.W.kIn_of Y) ?F (fun _ _ a ns hl _ hS => ⟨a, ns, rfl, hS, hl, fun _ => rfl⟩) (fun _ _ _ _ _ h => h)
  case F =>
    intro w mg fa h KX G hmg
    refine' K30.all_mk KX G hmg ?a0 ?l0 ?c0 ?k0 ?a1 ?l1 ?c1 ?k1 ?a2 ?l2 ?c2 ?k2 ?a3 ?l3 ?c3 ?k3 ?a4 ?l4 ?c4 ?k4 ?a5 ?l5 ?c5 ?k5 ?a6 ?l6 ?c6 ?k6 ?a7 ?l7 ?c7 ?k7 ?a8 ?l8 ?c8 ?k8 ?a9 ?l9 ?c9 ?k9 ?a10 ?l10 ?c10 ?k10 ?a11 ?l11 ?c11 ?k11 ?a12 ?l12 ?c12 ?k12 ?a13 ?l13 ?c13 ?k13 ?a14 ?l14 ?c14 ?k14 ?a15 ?l15 ?c15 ?k15 ?z_abs ?z_any ?z_bool ?z_int ?z_isinstance ?z_len ?z_range ?z_sum
    (case a0 => k_is); (case l0 => k_is); (case c0 => k_is); (case k0 => k_is); (case a1 => k_is); (case l1 => k_is); (case c1 => k_is); (case k1 => k_is); (case a2 => k_is); (case l2 => k_is); (case c2 => k_is); (case k2 => k_is); (case a3 => k_is); (case l3 => k_is); (case c3 => k_is); (case k3 => k_is); (case a4 => k_is); (case l4 => k_is); (case c4 => k_is); (case k4 => k_is); (case a5 => k_is); (case l5 => k_is); (case c5 => k_is); (case k5 => k_is); (case a6 => k_is); (case l6 => k_is); (case c6 => k_is); (case k6 => k_is); (case a7 => k_is); (case l7 => k_is); (case c7 => k_is); (case k7 => k_is); (case a8 => k_is); (case l8 => k_is); (case c8 => k_is); (case k8 => k_is); (case a9 => k_is); (case l9 => k_is); (case c9 => k_is); (case k9 => k_is); (case a10 => k_is); (case l10 => k_is); (case c10 => k_is); (case k10 => k_is); (case a11 => k_is); (case l11 => k_is); (case c11 => k_is); (case k11 => k_is); (case a12 => k_is); (case l12 => k_is); (case c12 => k_is); (case k12 => k_is); (case a13 => k_is); (case l13 => k_is); (case c13 => k_is); (case k13 => k_is); (case a14 => k_is); (case l14 => k_is); (case c14 => k_is); (case k14 => k_is); (case a15 => k_is); (case l15 => k_is); (case c15 => k_is); (case k15 => k_is); (case z_abs => k_is); (case z_any => k_is); (case z_bool => k_is); (case z_int => k_is); (case z_isinstance => k_is); (case z_len => k_is); (case z_range => k_is); (case z_sum => k_is)