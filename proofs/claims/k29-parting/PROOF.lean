import PyProof.Rows.All
import Wide.All
import OpenK.AllK
import Wide.FinOn
import HandS.ForMost
import HandS.IsInst
import HandS.Style
import HandS.Sort
import HandS.RevRange
import HandS.Nested
import HandS.ExcInit
import HandS.ExcIs
import HandS.ExcField
import HandS.Exc
import HandS.WordsExc
import HandS.ExcOwn
import HandS.Codes
import HandS.Defaults
import HandS.MakeKwOnly
import KE.KExcSuper
import HandS.ExcCtx
import HandS.HotCalls
import HandS.ExcInitHot
import KE.KExcIs
import HandS.SortRule
import HandS.SortInts
import HandS.Conv
import HandS.More
import HandS.Flow
import HandS.Deep
import HandS.SetFor
import PySem.Challenge.RW_onecopy_k29_whole_parting
set_option Elab.async false
set_option linter.all false
set_option maxRecDepth 100000
/-! A small separation logic over the abstract heap: a list of chunks that stand apart; tuples are known, not owned. -/
namespace Oc
open PySem L2

def Subh (h H : Hp) : Prop := ∀ a o, h a = some o → H a = some o
def cutH (H h : Hp) : Hp := fun a => match h a with | some _ => none | none => H a
def one (a : Addr) (o : HO) : Hp := fun b => if b = a then some o else none
/-- what tuples are known -/
abbrev Tmap := Addr → Option (List V)
/-- a part of the heap: one object; a shape; tuples that are known (nobody owns a tuple) -/
inductive Asr where
  | pto (a : Addr) (o : HO)
  | own (A : Hp → Prop)
  | im (τ : Tmap)
abbrev pto (a : Addr) (o : HO) : Asr := .pto a o
abbrev im (τ : Tmap) : Asr := .im τ
instance : Coe (Hp → Prop) Asr := ⟨.own⟩
def Asr.sem : Asr → Hp → Prop
  | .pto a o, h => h = one a o
  | .own A, h => A h
  | .im _, _ => True
def St : Hp → List Asr → Prop
  | _, [] => True
  | H, A :: L => ∃ h, Subh h H ∧ A.sem h ∧ St (cutH H h) L

theorem Subh.refl (h : Hp) : Subh h h := fun _ _ e => e
theorem Subh.trans {h k l : Hp} (a : Subh h k) (b : Subh k l) : Subh h l := fun x o e => b x o (a x o e)
theorem cutH_some {H h : Hp} {a : Addr} {o : HO} : cutH H h a = some o ↔ h a = none ∧ H a = some o := by
  unfold cutH
  cases h a with
  | none => exact ⟨fun e => ⟨rfl, e⟩, fun e => e.2⟩
  | some u => exact ⟨(fun e => nomatch e), (fun e => nomatch e.1)⟩
theorem cutH_sub (H h : Hp) : Subh (cutH H h) H := fun _ _ e => (cutH_some.mp e).2
theorem cutH_mono {H K : Hp} (h : Hp) (s : Subh H K) : Subh (cutH H h) (cutH K h) := fun _ _ e =>
  have q := cutH_some.mp e
  cutH_some.mpr ⟨q.1, s _ _ q.2⟩
theorem St.mono : ∀ {L : List Asr} {H K : Hp}, St H L → Subh H K → St K L
  | [], _, _, _, _ => trivial
  | _ :: _, _, _, ⟨h, s, a, t⟩, q => ⟨h, s.trans q, a, t.mono (cutH_mono h q)⟩
theorem cut_swap {H h k : Hp} (s : Subh k (cutH H h)) : Subh h (cutH H k) ↔ Subh h H := by
  constructor
  · exact fun q => q.trans (cutH_sub _ _)
  · intro q a o e
    refine cutH_some.mpr ⟨?_, q _ _ e⟩
    cases r : k a with
    | none => rfl
    | some u =>
      have z := (cutH_some.mp (s _ _ r)).1
      rw [e] at z
      cases z
theorem cut_comm (H h k : Hp) : cutH (cutH H h) k = cutH (cutH H k) h := by
  funext a
  unfold cutH
  cases h a <;> cases k a <;> rfl
theorem St.swap {A B : Asr} {L : List Asr} {H : Hp} (S : St H (A :: B :: L)) : St H (B :: A :: L) := by
  obtain ⟨h, s, a, k, t, b, S⟩ := S
  exact ⟨k, t.trans (cutH_sub _ _), b, h, (cut_swap t).mpr s, a, by rw [cut_comm]; exact S⟩
theorem St.under {A : Asr} {L M : List Asr} {H : Hp} (f : ∀ K, St K L → St K M) (S : St H (A :: L)) : St H (A :: M) := by
  obtain ⟨h, s, a, S⟩ := S
  exact ⟨h, s, a, f _ S⟩
theorem St.perm {L M : List Asr} (p : L.Perm M) : ∀ {H : Hp}, St H L → St H M := by
  induction p with
  | nil => exact fun S => S
  | cons x _ ih => exact fun S => S.under fun _ => ih
  | swap x y l => exact fun S => S.swap
  | trans _ _ ih1 ih2 => exact fun S => ih2 (ih1 S)
theorem St.tail {A : Asr} {L : List Asr} {H : Hp} (S : St H (A :: L)) : St H L := by
  obtain ⟨h, s, a, S⟩ := S
  exact S.mono (cutH_sub _ _)
theorem St.imp {A B : Asr} {L : List Asr} {H : Hp} (S : St H (A :: L)) (f : ∀ h, A.sem h → B.sem h) : St H (B :: L) := by
  obtain ⟨h, s, a, S⟩ := S
  exact ⟨h, s, f h a, S⟩
theorem St.app_right : ∀ {L M : List Asr} {H : Hp}, St H (L ++ M) → St H M
  | [], _, _, S => S
  | _ :: L, _, _, S => St.app_right (L := L) S.tail
theorem St.app_left : ∀ {L M : List Asr} {H : Hp}, St H (L ++ M) → St H L
  | [], _, _, _ => trivial
  | _ :: L, _, _, S => S.under fun _ T => St.app_left T

/-- several chunks as one -/
def star (L : List Asr) : Asr := .own fun h => St h L
theorem St.join : ∀ {L M : List Asr} {h H : Hp}, St h L → Subh h H → St (cutH H h) M → St H (L ++ M)
  | [], _, _, _, _, _, T => T.mono (cutH_sub _ _)
  | _ :: L, M, h, H, ⟨k, s, a, S⟩, q, T => by
    refine ⟨k, s.trans q, a, St.join (h := cutH h k) S (cutH_mono k q) ?_⟩
    have e : cutH (cutH H k) (cutH h k) = cutH H h := by
      funext x
      unfold cutH
      cases r : k x with
      | none => cases h x <;> rfl
      | some u => rw [s _ _ r]
    rw [e]
    exact T
theorem St.open_star {L M : List Asr} {H : Hp} (S : St H (star L :: M)) : St H (L ++ M) := by
  obtain ⟨h, s, a, S⟩ := S
  exact St.join a s S
theorem cut_cut_sub (H h : Hp) : ∀ k, Subh k (cutH H h) → cutH H h = cutH H h := fun _ _ => rfl
theorem St.close_star : ∀ {L M : List Asr} {H : Hp}, St H (L ++ M) → St H (star L :: M)
  | [], M, H, S => ⟨fun _ => none, (fun _ _ e => nomatch e), trivial, S.mono fun a o e => cutH_some.mpr ⟨rfl, e⟩⟩
  | A :: L, M, H, ⟨k, s, a, S⟩ => by
    obtain ⟨h, t, b, S⟩ := St.close_star (L := L) S
    let g : Hp := fun x => match k x with | some o => some o | none => h x
    have e1 : cutH H g = cutH (cutH H k) h := by
      funext x
      show (match (match k x with | some o => some o | none => h x) with | some _ => none | none => H x) = (match h x with | some _ => none | none => (match k x with | some _ => none | none => H x))
      cases k x <;> cases h x <;> rfl
    refine ⟨g, fun x o e => ?_, ⟨k, fun x o e => ?_, a, ?_⟩, by rw [e1]; exact S⟩
    · have e' : (match k x with | some o => some o | none => h x) = some o := e
      cases r : k x with
      | none =>
        rw [r] at e'
        exact cutH_sub _ _ _ _ (t _ _ e')
      | some u =>
        rw [r] at e'
        rw [← e']
        exact s _ _ r
    · show (match k x with | some o => some o | none => h x) = some o
      rw [e]
    · have e2 : cutH g k = h := by
        funext x
        show (match k x with | some _ => none | none => (match k x with | some o => some o | none => h x)) = h x
        cases r : k x with
        | none => rfl
        | some u =>
          cases q : h x with
          | none => rfl
          | some v =>
            have z := (cutH_some.mp (t _ _ q)).1
            rw [r] at z
            cases z
      rw [e2]
      exact b
/-! ### tuples set aside -/
def isT : HO → Bool
  | .tup _ => true
  | _ => false
def noT (H : Hp) : Hp := fun a => match H a with | some o => if isT o = true then none else some o | none => none
theorem noT_some {H : Hp} {a : Addr} {o : HO} : noT H a = some o ↔ isT o = false ∧ H a = some o := by
  unfold noT
  cases H a with
  | none => exact ⟨(fun e => nomatch e), (fun e => nomatch e.2)⟩
  | some u =>
    cases h : isT u with
    | true =>
      constructor
      · intro e
        simp [h] at e
      · rintro ⟨e, e2⟩
        cases e2
        rw [h] at e
        cases e
    | false =>
      constructor
      · intro e
        simp [h] at e
        subst e
        exact ⟨h, rfl⟩
      · rintro ⟨e, e2⟩
        cases e2
        simp [h]
theorem noT_sub (H : Hp) : Subh (noT H) H := fun _ _ e => (noT_some.mp e).2
theorem noT_upd {H : Hp} {p : Addr} {o : HO} (h : isT o = false) : noT (upd H p o) = upd (noT H) p o := by
  funext a
  by_cases e : a = p
  · subst e
    rw [upd_same]
    exact noT_some.mpr ⟨h, upd_same⟩
  · rw [upd_ne e]
    unfold noT
    rw [upd_ne e]
theorem noT_updT {H : Hp} {p : Addr} {vs : List V} (np : H p = none) : noT (upd H p (.tup vs)) = noT H := by
  funext a
  by_cases e : a = p
  · subst e
    unfold noT
    rw [upd_same, np]
    rfl
  · unfold noT
    rw [upd_ne e]
def Tk (τ : Tmap) (H : Hp) : Prop := ∀ a vs, τ a = some vs → H a = some (.tup vs)
structure Sts (H : Hp) (L : List Asr) : Prop where
  st : St (noT H) L
  tk : ∀ τ, Asr.im τ ∈ L → Tk τ H
theorem Sts.perm {L M : List Asr} (p : L.Perm M) {H : Hp} (S : Sts H L) : Sts H M := ⟨S.st.perm p, fun τ h => S.tk τ (p.mem_iff.mpr h)⟩
theorem Sts.swap {A B : Asr} {L : List Asr} {H : Hp} (S : Sts H (A :: B :: L)) : Sts H (B :: A :: L) := S.perm (.swap B A L)
theorem Sts.tail {A : Asr} {L : List Asr} {H : Hp} (S : Sts H (A :: L)) : Sts H L := ⟨S.st.tail, fun τ h => S.tk τ (List.mem_cons_of_mem _ h)⟩
theorem Sts.app_right {L M : List Asr} {H : Hp} (S : Sts H (L ++ M)) : Sts H M := ⟨S.st.app_right, fun τ h => S.tk τ (List.mem_append_right _ h)⟩
theorem Sts.app_left {L M : List Asr} {H : Hp} (S : Sts H (L ++ M)) : Sts H L := ⟨S.st.app_left, fun τ h => S.tk τ (List.mem_append_left _ h)⟩
/-- the tuples of one heap, the rest of another one -/
def wT (H K : Hp) : Hp := fun a => match H a with | some o => if isT o = true then some o else K a | none => K a
theorem wT_T {H K : Hp} {a : Addr} {vs : List V} (e : H a = some (.tup vs)) : wT H K a = some (.tup vs) := by
  unfold wT
  rw [e]
  rfl
theorem noT_wT {H K : Hp} (h : Subh K (noT H)) : noT (wT H K) = K := by
  funext a
  cases e : K a with
  | none =>
    unfold noT wT
    cases q : H a with
    | none =>
      show (match K a with | some o => if isT o = true then none else some o | none => none) = none
      rw [e]
    | some o =>
      cases t : isT o with
      | true => simp [t]
      | false => simp [t, e]
  | some o =>
    obtain ⟨n, e2⟩ := noT_some.mp (h a o e)
    refine noT_some.mpr ⟨n, ?_⟩
    unfold wT
    rw [e2]
    simp [n, e]
theorem Sts.under {A : Asr} {L M : List Asr} {H : Hp} (f : ∀ K, Sts K L → Sts K M) (S : Sts H (A :: L)) : Sts H (A :: M) := by
  obtain ⟨⟨h, s, a, T⟩, tk⟩ := S
  have hk : Subh (cutH (noT H) h) (noT H) := cutH_sub _ _
  have T2 : Sts (wT H (cutH (noT H) h)) L := ⟨by rw [noT_wT hk]; exact T, fun τ hm b vs e => wT_T (tk τ (List.mem_cons_of_mem _ hm) b vs e)⟩
  have T3 := f _ T2
  refine ⟨⟨h, s, a, by have z := T3.st; rwa [noT_wT hk] at z⟩, fun τ hm b vs e => ?_⟩
  rcases List.mem_cons.mp hm with q | hm
  · exact tk τ (by rw [q]; exact List.mem_cons_self) b vs e
  · have z := T3.tk τ hm b vs e
    unfold wT at z
    cases q : H b with
    | none =>
      rw [q] at z
      have z : cutH (noT H) h b = some (.tup vs) := z
      have y := (noT_some.mp (hk _ _ z)).1
      cases y
    | some o =>
      rw [q] at z
      cases t : isT o with
      | true => simpa [t] using z
      | false =>
        have z : cutH (noT H) h b = some (.tup vs) := by simpa [t] using z
        have y := (noT_some.mp (hk _ _ z)).1
        cases y
/-- one owned chunk for another -/
theorem Sts.impS {A B : Asr} {L : List Asr} {H : Hp} (S : Sts H (A :: L)) (f : ∀ h, A.sem h → B.sem h) (n : ∀ τ, B ≠ .im τ) : Sts H (B :: L) := ⟨S.st.imp f, fun τ h => by
  rcases List.mem_cons.mp h with q | h
  · exact absurd q.symm (n τ)
  · exact S.tk τ (List.mem_cons_of_mem _ h)⟩
theorem Sts.imp {A B : Hp → Prop} {L : List Asr} {H : Hp} (S : Sts H (.own A :: L)) (f : ∀ h, A h → B h) : Sts H (.own B :: L) := S.impS f (fun _ e => nomatch e)
/-- a shape opened: some objects -/
theorem Sts.opn {α : Type} {A : Hp → Prop} {f : α → List Asr} {L : List Asr} {H : Hp} (S : Sts H (.own A :: L)) (g : ∀ h, A h → ∃ x, St h (f x)) (n : ∀ x τ, Asr.im τ ∉ f x) : ∃ x, Sts H (f x ++ L) := by
  obtain ⟨⟨h, s, a, T⟩, tk⟩ := S
  obtain ⟨x, b⟩ := g h a
  refine ⟨x, St.join b s T, fun τ hm => ?_⟩
  rcases List.mem_append.mp hm with q | q
  · exact absurd q (n x τ)
  · exact tk τ (List.mem_cons_of_mem _ q)
/-- .. and closed -/
theorem Sts.cls {A : Hp → Prop} {M L : List Asr} {H : Hp} (S : Sts H (M ++ L)) (g : ∀ h, St h M → A h) : Sts H (.own A :: L) := by
  obtain ⟨h, s, a, T⟩ := St.close_star S.st
  exact ⟨⟨h, s, g h a, T⟩, fun τ hm => S.tk τ (List.mem_append_right _ ((List.mem_cons.mp hm).resolve_left (fun e => nomatch e)))⟩
theorem Sts.ex {α : Type} {f : α → Hp → Prop} {L : List Asr} {H : Hp} (S : Sts H (.own (fun h => ∃ x, f x h) :: L)) : ∃ x, Sts H (.own (f x) :: L) := by
  obtain ⟨⟨h, s, ⟨x, a⟩, T⟩, tk⟩ := S
  exact ⟨x, ⟨h, s, a, T⟩, fun τ hm => tk τ (List.mem_cons_of_mem _ ((List.mem_cons.mp hm).resolve_left (fun e => nomatch e)))⟩
theorem Sts.pur {P : Prop} {A : Hp → Prop} {L : List Asr} {H : Hp} (S : Sts H (.own (fun h => P ∧ A h) :: L)) : P ∧ Sts H (.own A :: L) := by
  obtain ⟨⟨h, s, ⟨p, a⟩, T⟩, tk⟩ := S
  exact ⟨p, ⟨h, s, a, T⟩, fun τ hm => tk τ (List.mem_cons_of_mem _ ((List.mem_cons.mp hm).resolve_left (fun e => nomatch e)))⟩
/-! ### tuples -/
def Le (τ υ : Tmap) : Prop := ∀ a vs, τ a = some vs → υ a = some vs
theorem Le.refl (τ : Tmap) : Le τ τ := fun _ _ e => e
theorem Le.trans {τ υ φ : Tmap} (a : Le τ υ) (b : Le υ φ) : Le τ φ := fun x o e => b x o (a x o e)
def addT (τ : Tmap) (p : Addr) (vs : List V) : Tmap := fun a => if a = p then some vs else τ a
theorem addT_same {τ : Tmap} {p : Addr} {vs : List V} : addT τ p vs p = some vs := if_pos rfl
theorem Sts.tp {τ : Tmap} {L : List Asr} {H : Hp} {t : Addr} {vs : List V} (S : Sts H (.im τ :: L)) (e : τ t = some vs) : H t = some (.tup vs) := S.tk τ List.mem_cons_self t vs e
theorem Sts.imW {τ υ : Tmap} {L : List Asr} {H : Hp} (S : Sts H (.im τ :: L)) (k : Tk υ H) : Sts H (.im υ :: L) := ⟨by
  obtain ⟨h, s, _, T⟩ := S.st
  exact ⟨h, s, trivial, T⟩, fun φ hm => by
  rcases List.mem_cons.mp hm with q | q
  · cases q
    exact k
  · exact S.tk φ (List.mem_cons_of_mem _ q)⟩
/-- what stands in the heap as a tuple is known from then on -/
theorem Sts.learn {τ : Tmap} {L : List Asr} {H : Hp} {t : Addr} {vs : List V} (S : Sts H (.im τ :: L)) (e : H t = some (.tup vs)) : ∃ υ, Le τ υ ∧ υ t = some vs ∧ Sts H (.im υ :: L) := by
  have k := S.tk τ List.mem_cons_self
  refine ⟨addT τ t vs, fun a us h => ?_, addT_same, S.imW fun a us h => ?_⟩
  · unfold addT
    by_cases q : a = t
    · subst q
      rw [if_pos rfl]
      have z := (k _ _ h).symm.trans e
      cases z
      rfl
    · rw [if_neg q]
      exact h
  · unfold addT at h
    by_cases q : a = t
    · rw [if_pos q] at h
      cases h
      rw [q]
      exact e
    · rw [if_neg q] at h
      exact k _ _ h
theorem Sts.im0 {L : List Asr} {H : Hp} (S : Sts H L) : Sts H (.im (fun _ => none) :: L) := ⟨⟨fun _ => none, (fun _ _ e => nomatch e), trivial, S.st.mono fun a o e => cutH_some.mpr ⟨rfl, e⟩⟩, fun τ hm => by
  rcases List.mem_cons.mp hm with q | q
  · cases q
    exact fun _ _ e => nomatch e
  · exact S.tk τ q⟩

/-! ### one object -/
theorem one_self (a : Addr) (o : HO) : one a o a = some o := by
  unfold one
  rw [if_pos rfl]
theorem one_iff {a b : Addr} {o u : HO} : one a o b = some u ↔ b = a ∧ o = u := by
  unfold one
  by_cases e : b = a
  · rw [if_pos e]
    exact ⟨fun q => ⟨e, Option.some.inj q⟩, fun q => by rw [q.2]⟩
  · rw [if_neg e]
    exact ⟨(fun q => nomatch q), (fun q => absurd q.1 e)⟩
theorem Sts.hdN {a : Addr} {o : HO} {L : List Asr} {H : Hp} (S : Sts H (pto a o :: L)) : noT H a = some o := by
  obtain ⟨⟨h, s, rfl, _⟩, _⟩ := S
  exact s _ _ (one_self a o)
theorem Sts.hd {a : Addr} {o : HO} {L : List Asr} {H : Hp} (S : Sts H (pto a o :: L)) : H a = some o := (noT_some.mp S.hdN).2
theorem Sts.hdT {a : Addr} {o : HO} {L : List Asr} {H : Hp} (S : Sts H (pto a o :: L)) : isT o = false := (noT_some.mp S.hdN).1
theorem Sts.mem_pto {a : Addr} {o : HO} {L : List Asr} {τ : Tmap} (h : Asr.im τ ∈ pto a o :: L) : Asr.im τ ∈ L := (List.mem_cons.mp h).resolve_left (fun e => nomatch e)
theorem Sts.new {L : List Asr} {H : Hp} (S : Sts H L) {p : Addr} (o : HO) (np : H p = none) (ho : isT o = false := by rfl) : Sts (upd H p o) (pto p o :: L) := by
  have nn : noT H p = none := by
    unfold noT
    rw [np]
  refine ⟨⟨one p o, fun a u e => ?_, rfl, S.st.mono fun a u e => cutH_some.mpr ⟨?_, ?_⟩⟩, fun τ hm a vs e => ?_⟩
  · obtain ⟨rfl, rfl⟩ := one_iff.mp e
    rw [noT_upd ho]
    exact upd_same
  · have ne : a ≠ p := ne_of_none e nn
    unfold one
    rw [if_neg ne]
  · rw [noT_upd ho, upd_ne (ne_of_none e nn)]
    exact e
  · have z := S.tk τ (Sts.mem_pto hm) a vs e
    rw [upd_ne (ne_of_none z np)]
    exact z
theorem Sts.newT {L : List Asr} {H : Hp} {τ : Tmap} (S : Sts H (.im τ :: L)) {p : Addr} (vs : List V) (np : H p = none) : ∃ υ, Le τ υ ∧ υ p = some vs ∧ Sts (upd H p (.tup vs)) (.im υ :: L) := by
  have S2 : Sts (upd H p (.tup vs)) (.im τ :: L) := ⟨by rw [noT_updT np]; exact S.st, fun φ hm a us e => by
    have z := S.tk φ hm a us e
    rw [upd_ne (ne_of_none z np)]
    exact z⟩
  exact S2.learn upd_same
theorem Sts.newT0 {L : List Asr} {H : Hp} (S : Sts H L) {p : Addr} (vs : List V) (np : H p = none) : Sts (upd H p (.tup vs)) L := ⟨by rw [noT_updT np]; exact S.st, fun φ hm a us e => by
    have z := S.tk φ hm a us e
    rw [upd_ne (ne_of_none z np)]
    exact z⟩
theorem Sts.put {a : Addr} {o : HO} {L : List Asr} {H : Hp} (S : Sts H (pto a o :: L)) (u : HO) (hu : isT u = false := by rfl) : Sts (upd H a u) (pto a u :: L) := by
  have ho := S.hdT
  have hh := S.hd
  obtain ⟨⟨h, s, rfl, T⟩, tk⟩ := S
  refine ⟨⟨one a u, fun b v e => ?_, rfl, T.mono fun b v e => ?_⟩, fun τ hm b vs e => ?_⟩
  · obtain ⟨rfl, rfl⟩ := one_iff.mp e
    rw [noT_upd hu]
    exact upd_same
  · obtain ⟨e1, e2⟩ := cutH_some.mp e
    have ne : b ≠ a := fun z => by
      rw [z, one_self] at e1
      cases e1
    refine cutH_some.mpr ⟨?_, ?_⟩
    · unfold one
      rw [if_neg ne]
    · rw [noT_upd hu, upd_ne ne]
      exact e2
  · have z := tk τ (List.mem_cons_of_mem _ (Sts.mem_pto hm)) b vs e
    have ne : b ≠ a := fun q => by
      rw [q, hh] at z
      cases z
      cases ho
    rw [upd_ne ne]
    exact z
theorem Sts.apart {a b : Addr} {o u : HO} {L : List Asr} {H : Hp} (S : Sts H (pto a o :: pto b u :: L)) : a ≠ b := by
  obtain ⟨⟨h, s, rfl, k, t, rfl, _⟩, _⟩ := S
  intro e
  have z := (cutH_some.mp (t _ _ (one_self b u))).1
  rw [← e, one_self] at z
  cases z
theorem Sts.none_ne {a p : Addr} {o : HO} {L : List Asr} {H : Hp} (S : Sts H (pto a o :: L)) (np : H p = none) : a ≠ p := ne_of_none S.hd np

/-! ### a chunk to the front -/
section
variable {A0 A1 A2 A3 A4 A5 A6 A7 A8 A9 A10 A11 A12 A13 A14 A15 A16 A17 A18 A19 A20 A21 A22 A23 A24 : Asr} {L : List Asr} {H : Hp}
theorem Sts.to0 (S : Sts H (A0 :: L)) : Sts H (A0 :: L) := S
theorem Sts.to1 (S : Sts H (A0 :: A1 :: L)) : Sts H (A1 :: A0 :: L) := S.swap
theorem Sts.to2 (S : Sts H (A0 :: A1 :: A2 :: L)) : Sts H (A2 :: A0 :: A1 :: L) := (S.under fun _ T => T.to1).swap
theorem Sts.to3 (S : Sts H (A0 :: A1 :: A2 :: A3 :: L)) : Sts H (A3 :: A0 :: A1 :: A2 :: L) := (S.under fun _ T => T.to2).swap
theorem Sts.to4 (S : Sts H (A0 :: A1 :: A2 :: A3 :: A4 :: L)) : Sts H (A4 :: A0 :: A1 :: A2 :: A3 :: L) := (S.under fun _ T => T.to3).swap
theorem Sts.to5 (S : Sts H (A0 :: A1 :: A2 :: A3 :: A4 :: A5 :: L)) : Sts H (A5 :: A0 :: A1 :: A2 :: A3 :: A4 :: L) := (S.under fun _ T => T.to4).swap
theorem Sts.to6 (S : Sts H (A0 :: A1 :: A2 :: A3 :: A4 :: A5 :: A6 :: L)) : Sts H (A6 :: A0 :: A1 :: A2 :: A3 :: A4 :: A5 :: L) := (S.under fun _ T => T.to5).swap
theorem Sts.to7 (S : Sts H (A0 :: A1 :: A2 :: A3 :: A4 :: A5 :: A6 :: A7 :: L)) : Sts H (A7 :: A0 :: A1 :: A2 :: A3 :: A4 :: A5 :: A6 :: L) := (S.under fun _ T => T.to6).swap
theorem Sts.to8 (S : Sts H (A0 :: A1 :: A2 :: A3 :: A4 :: A5 :: A6 :: A7 :: A8 :: L)) : Sts H (A8 :: A0 :: A1 :: A2 :: A3 :: A4 :: A5 :: A6 :: A7 :: L) := (S.under fun _ T => T.to7).swap
theorem Sts.to9 (S : Sts H (A0 :: A1 :: A2 :: A3 :: A4 :: A5 :: A6 :: A7 :: A8 :: A9 :: L)) : Sts H (A9 :: A0 :: A1 :: A2 :: A3 :: A4 :: A5 :: A6 :: A7 :: A8 :: L) := (S.under fun _ T => T.to8).swap
theorem Sts.to10 (S : Sts H (A0 :: A1 :: A2 :: A3 :: A4 :: A5 :: A6 :: A7 :: A8 :: A9 :: A10 :: L)) : Sts H (A10 :: A0 :: A1 :: A2 :: A3 :: A4 :: A5 :: A6 :: A7 :: A8 :: A9 :: L) := (S.under fun _ T => T.to9).swap
theorem Sts.to11 (S : Sts H (A0 :: A1 :: A2 :: A3 :: A4 :: A5 :: A6 :: A7 :: A8 :: A9 :: A10 :: A11 :: L)) : Sts H (A11 :: A0 :: A1 :: A2 :: A3 :: A4 :: A5 :: A6 :: A7 :: A8 :: A9 :: A10 :: L) := (S.under fun _ T => T.to10).swap
theorem Sts.to12 (S : Sts H (A0 :: A1 :: A2 :: A3 :: A4 :: A5 :: A6 :: A7 :: A8 :: A9 :: A10 :: A11 :: A12 :: L)) : Sts H (A12 :: A0 :: A1 :: A2 :: A3 :: A4 :: A5 :: A6 :: A7 :: A8 :: A9 :: A10 :: A11 :: L) := (S.under fun _ T => T.to11).swap
theorem Sts.to13 (S : Sts H (A0 :: A1 :: A2 :: A3 :: A4 :: A5 :: A6 :: A7 :: A8 :: A9 :: A10 :: A11 :: A12 :: A13 :: L)) : Sts H (A13 :: A0 :: A1 :: A2 :: A3 :: A4 :: A5 :: A6 :: A7 :: A8 :: A9 :: A10 :: A11 :: A12 :: L) := (S.under fun _ T => T.to12).swap
theorem Sts.to14 (S : Sts H (A0 :: A1 :: A2 :: A3 :: A4 :: A5 :: A6 :: A7 :: A8 :: A9 :: A10 :: A11 :: A12 :: A13 :: A14 :: L)) : Sts H (A14 :: A0 :: A1 :: A2 :: A3 :: A4 :: A5 :: A6 :: A7 :: A8 :: A9 :: A10 :: A11 :: A12 :: A13 :: L) := (S.under fun _ T => T.to13).swap
theorem Sts.to15 (S : Sts H (A0 :: A1 :: A2 :: A3 :: A4 :: A5 :: A6 :: A7 :: A8 :: A9 :: A10 :: A11 :: A12 :: A13 :: A14 :: A15 :: L)) : Sts H (A15 :: A0 :: A1 :: A2 :: A3 :: A4 :: A5 :: A6 :: A7 :: A8 :: A9 :: A10 :: A11 :: A12 :: A13 :: A14 :: L) := (S.under fun _ T => T.to14).swap
theorem Sts.to16 (S : Sts H (A0 :: A1 :: A2 :: A3 :: A4 :: A5 :: A6 :: A7 :: A8 :: A9 :: A10 :: A11 :: A12 :: A13 :: A14 :: A15 :: A16 :: L)) : Sts H (A16 :: A0 :: A1 :: A2 :: A3 :: A4 :: A5 :: A6 :: A7 :: A8 :: A9 :: A10 :: A11 :: A12 :: A13 :: A14 :: A15 :: L) := (S.under fun _ T => T.to15).swap
theorem Sts.to17 (S : Sts H (A0 :: A1 :: A2 :: A3 :: A4 :: A5 :: A6 :: A7 :: A8 :: A9 :: A10 :: A11 :: A12 :: A13 :: A14 :: A15 :: A16 :: A17 :: L)) : Sts H (A17 :: A0 :: A1 :: A2 :: A3 :: A4 :: A5 :: A6 :: A7 :: A8 :: A9 :: A10 :: A11 :: A12 :: A13 :: A14 :: A15 :: A16 :: L) := (S.under fun _ T => T.to16).swap
theorem Sts.to18 (S : Sts H (A0 :: A1 :: A2 :: A3 :: A4 :: A5 :: A6 :: A7 :: A8 :: A9 :: A10 :: A11 :: A12 :: A13 :: A14 :: A15 :: A16 :: A17 :: A18 :: L)) : Sts H (A18 :: A0 :: A1 :: A2 :: A3 :: A4 :: A5 :: A6 :: A7 :: A8 :: A9 :: A10 :: A11 :: A12 :: A13 :: A14 :: A15 :: A16 :: A17 :: L) := (S.under fun _ T => T.to17).swap
theorem Sts.to19 (S : Sts H (A0 :: A1 :: A2 :: A3 :: A4 :: A5 :: A6 :: A7 :: A8 :: A9 :: A10 :: A11 :: A12 :: A13 :: A14 :: A15 :: A16 :: A17 :: A18 :: A19 :: L)) : Sts H (A19 :: A0 :: A1 :: A2 :: A3 :: A4 :: A5 :: A6 :: A7 :: A8 :: A9 :: A10 :: A11 :: A12 :: A13 :: A14 :: A15 :: A16 :: A17 :: A18 :: L) := (S.under fun _ T => T.to18).swap
theorem Sts.to20 (S : Sts H (A0 :: A1 :: A2 :: A3 :: A4 :: A5 :: A6 :: A7 :: A8 :: A9 :: A10 :: A11 :: A12 :: A13 :: A14 :: A15 :: A16 :: A17 :: A18 :: A19 :: A20 :: L)) : Sts H (A20 :: A0 :: A1 :: A2 :: A3 :: A4 :: A5 :: A6 :: A7 :: A8 :: A9 :: A10 :: A11 :: A12 :: A13 :: A14 :: A15 :: A16 :: A17 :: A18 :: A19 :: L) := (S.under fun _ T => T.to19).swap
theorem Sts.to21 (S : Sts H (A0 :: A1 :: A2 :: A3 :: A4 :: A5 :: A6 :: A7 :: A8 :: A9 :: A10 :: A11 :: A12 :: A13 :: A14 :: A15 :: A16 :: A17 :: A18 :: A19 :: A20 :: A21 :: L)) : Sts H (A21 :: A0 :: A1 :: A2 :: A3 :: A4 :: A5 :: A6 :: A7 :: A8 :: A9 :: A10 :: A11 :: A12 :: A13 :: A14 :: A15 :: A16 :: A17 :: A18 :: A19 :: A20 :: L) := (S.under fun _ T => T.to20).swap
theorem Sts.to22 (S : Sts H (A0 :: A1 :: A2 :: A3 :: A4 :: A5 :: A6 :: A7 :: A8 :: A9 :: A10 :: A11 :: A12 :: A13 :: A14 :: A15 :: A16 :: A17 :: A18 :: A19 :: A20 :: A21 :: A22 :: L)) : Sts H (A22 :: A0 :: A1 :: A2 :: A3 :: A4 :: A5 :: A6 :: A7 :: A8 :: A9 :: A10 :: A11 :: A12 :: A13 :: A14 :: A15 :: A16 :: A17 :: A18 :: A19 :: A20 :: A21 :: L) := (S.under fun _ T => T.to21).swap
theorem Sts.to23 (S : Sts H (A0 :: A1 :: A2 :: A3 :: A4 :: A5 :: A6 :: A7 :: A8 :: A9 :: A10 :: A11 :: A12 :: A13 :: A14 :: A15 :: A16 :: A17 :: A18 :: A19 :: A20 :: A21 :: A22 :: A23 :: L)) : Sts H (A23 :: A0 :: A1 :: A2 :: A3 :: A4 :: A5 :: A6 :: A7 :: A8 :: A9 :: A10 :: A11 :: A12 :: A13 :: A14 :: A15 :: A16 :: A17 :: A18 :: A19 :: A20 :: A21 :: A22 :: L) := (S.under fun _ T => T.to22).swap
theorem Sts.to24 (S : Sts H (A0 :: A1 :: A2 :: A3 :: A4 :: A5 :: A6 :: A7 :: A8 :: A9 :: A10 :: A11 :: A12 :: A13 :: A14 :: A15 :: A16 :: A17 :: A18 :: A19 :: A20 :: A21 :: A22 :: A23 :: A24 :: L)) : Sts H (A24 :: A0 :: A1 :: A2 :: A3 :: A4 :: A5 :: A6 :: A7 :: A8 :: A9 :: A10 :: A11 :: A12 :: A13 :: A14 :: A15 :: A16 :: A17 :: A18 :: A19 :: A20 :: A21 :: A22 :: A23 :: L) := (S.under fun _ T => T.to23).swap
end

/-! ### the script -/
structure sqc (K : PySem.W.Frag) (a : Addr) (xs : List V) (h : Hp) : Prop where
  sq : SqL K h a xs
theorem sqc_sub {K : PySem.W.Frag} {a : Addr} {xs : List V} {h H : Hp} (x : SqL K h a xs) (s : Subh h H) : SqL K H a xs := by
  rcases x with (x | ⟨o, x⟩) | x
  · exact .inl (.inl (s _ _ x))
  · exact .inl (.inr ⟨o, s _ _ x⟩)
  · exact .inr x
theorem Sts.sq {K : PySem.W.Frag} {a : Addr} {xs : List V} {L : List Asr} {H : Hp} (S : Sts H (.own (sqc K a xs) :: L)) : SqL K H a xs := by
  obtain ⟨⟨h, s, x, _⟩, _⟩ := S
  exact sqc_sub x.sq (s.trans (noT_sub H))
theorem sqc_noT {K : PySem.W.Frag} {a : Addr} {xs : List V} {H : Hp} (x : SqL K H a xs) : SqL K (noT H) a xs := by
  rcases x with (x | ⟨o, x⟩) | x
  · exact .inl (.inl (noT_some.mpr ⟨rfl, x⟩))
  · exact .inl (.inr ⟨o, noT_some.mpr ⟨rfl, x⟩⟩)
  · exact .inr x
theorem sts_script {K : PySem.W.Frag} {a : Addr} {xs : List V} {H : Hp} (x : SqL K H a xs) : Sts H [.own (sqc K a xs)] := ⟨⟨noT H, Subh.refl _, ⟨sqc_noT x⟩, trivial⟩, fun τ h => by simp at h⟩
end Oc
/-! ### rules by values, in the forms that the proofs use -/
namespace Oc
open PySem PySem.Spec PyProof.Rows L2

theorem pr {p : Prop} (h : p) : p := h
/-- the i-th of a list of ints, 0 outside -/
def gI (ns : List Int) (i : Int) : Int := ns.getD i.toNat 0
theorem atI_of {xs : List V} {i : Int} {v : V} (h0 : 0 ≤ i) (h : xs[i.toNat]? = some v) : atI xs i = some v := by
  have e : i = ((i.toNat : Nat) : Int) := by omega
  rw [e]
  exact atI_nat h
theorem atI_ints {ns : List Int} {i : Int} (h0 : 0 ≤ i) (h1 : i < ns.length) : atI (ns.map V.int) i = some (.int (gI ns i)) := by
  refine atI_of h0 ?_
  have hl : i.toNat < ns.length := by omega
  rw [List.getElem?_map, List.getElem?_eq_getElem hl]
  unfold gI
  rw [List.getD_eq_getElem?_getD, List.getElem?_eq_getElem hl]
  rfl
theorem gI_mem {ns : List Int} {i : Int} (h0 : 0 ≤ i) (h1 : i < ns.length) : gI ns i ∈ ns := by
  have hl : i.toNat < ns.length := by omega
  unfold gI
  rw [List.getD_eq_getElem?_getD, List.getElem?_eq_getElem hl]
  exact List.getElem_mem hl
theorem ixN_of {n : Nat} {i : Int} (h0 : 0 ≤ i) (h1 : i < n) : ixN n i = some i.toNat := by
  unfold ixN
  rw [if_pos h0, if_pos h1]
/-- a slice of any list -/
def cutL {α : Type} (xs : List α) (lo hi : Option Int) : List α := (xs.drop (HT.sIx xs.length 0 lo)).take (HT.sIx xs.length xs.length hi - HT.sIx xs.length 0 lo)
theorem cutV_map {α : Type} (f : α → V) (xs : List α) (lo hi : Option Int) : cutV (xs.map f) lo hi = (cutL xs lo hi).map f := by
  unfold cutV cutL
  rw [List.length_map, List.map_take, List.map_drop]
theorem sIx_int (n d : Nat) {i : Int} (h : 0 ≤ i) : HT.sIx n d (some i) = min i.toNat n := by
  have e : i = ((i.toNat : Nat) : Int) := by omega
  rw [e, HT.sIx_nat, Int.toNat_natCast]
theorem cutL_take {α : Type} (xs : List α) {i : Int} (h : 0 ≤ i) : cutL xs none (some i) = xs.take i.toNat := by
  unfold cutL
  rw [HT.sIx_none, sIx_int _ _ h, List.drop_zero, Nat.sub_zero]
  by_cases q : i.toNat ≤ xs.length
  · rw [Nat.min_eq_left q]
  · rw [Nat.min_eq_right (by omega), List.take_length, List.take_of_length_le (by omega)]
theorem cutL_drop {α : Type} (xs : List α) {i : Int} (h : 0 ≤ i) : cutL xs (some i) none = xs.drop i.toNat := by
  unfold cutL
  rw [HT.sIx_none, sIx_int _ _ h]
  by_cases q : i.toNat ≤ xs.length
  · rw [Nat.min_eq_left q, List.take_of_length_le (by rw [List.length_drop]; exact Nat.le_refl _)]
  · rw [Nat.min_eq_right (by omega), List.drop_length, List.drop_of_length_le (by omega), List.take_nil]
theorem cutL_mid {α : Type} (xs : List α) {i j : Int} (h : 0 ≤ i) (hj : 0 ≤ j) : cutL xs (some i) (some j) = (xs.drop i.toNat).take (j.toNat - i.toNat) := by
  unfold cutL
  rw [sIx_int _ _ h, sIx_int _ _ hj]
  by_cases q : i.toNat ≤ xs.length
  · rw [Nat.min_eq_left q]
    by_cases r : j.toNat ≤ xs.length
    · rw [Nat.min_eq_left r]
    · rw [Nat.min_eq_right (show xs.length ≤ j.toNat by omega), List.take_of_length_le (by rw [List.length_drop]; exact Nat.le_refl _), List.take_of_length_le (by rw [List.length_drop]; omega)]
  · rw [Nat.min_eq_right (show xs.length ≤ i.toNat by omega), List.drop_length, List.drop_of_length_le (show xs.length ≤ i.toNat by omega), List.take_nil, List.take_nil]
theorem cutL_all {α : Type} (xs : List α) : cutL xs none none = xs := by
  unfold cutL
  rw [HT.sIx_none, HT.sIx_none, List.drop_zero, Nat.sub_zero, List.take_length]
theorem dci (a b : Int) : decide (V.int a = V.int b) = decide (a = b) := by
  by_cases h : a = b
  · rw [h, decide_eq_true rfl, decide_eq_true rfl]
  · rw [decide_eq_false h, decide_eq_false fun e => h (V.int.inj e)]

section
variable {X : Cx}
theorem oc_int_i : CallR X (.type "int") (fun xs H Q => ∃ i, xs = [.int i] ∧ Q (.int i) H) := fun pins s σ H xs us Q I r h => call_int1 pins s σ H xs us Q I r (.inl h)
theorem oc_int_b : CallR X (.type "int") (fun xs H Q => ∃ k, xs = [.bl k] ∧ Q (.int (if k then 1 else 0)) H) := fun pins s σ H xs us Q I r h => call_int1 pins s σ H xs us Q I r (.inr h)
/-- a written power -/
theorem oc_powc (i j r : Int) (h : CPow i j) (e : i ^ j.toNat = r) : OpR X (binaryOp .Pow) (fun x y H Q => x = .int i ∧ y = .int j ∧ Q (.int r) H) := fun pins s σ H x y v u Q I rx ry ⟨e1, e2, q⟩ =>
  op_pow pins s σ H x y v u Q I rx ry ⟨i, j, e1, e2, h, by show Q (.int (i ^ j.toNat)) H; rw [e]; exact q⟩
theorem oc_min2 (hc : X.calm = true) : CallR X (.builtin "min") (fun xs H Q => ∃ i j, xs = [.int i, .int j] ∧ Q (.int (min i j)) H) := fun pins s σ H xs us Q I r ⟨i, j, e, q⟩ => call_min2 hc pins s σ H xs us Q I r ⟨i, j, e, by
  have h : (if j < i then j else i) = min i j := by split <;> omega
  rw [h]
  exact q⟩
theorem oc_max2 (hc : X.calm = true) : CallR X (.builtin "max") (fun xs H Q => ∃ i j, xs = [.int i, .int j] ∧ Q (.int (max i j)) H) := fun pins s σ H xs us Q I r ⟨i, j, e, q⟩ => call_max2 hc pins s σ H xs us Q I r ⟨i, j, e, by
  have h : (if j > i then j else i) = max i j := by split <;> omega
  rw [h]
  exact q⟩
theorem oc_abs : CallR X (.builtin "abs") (fun xs H Q => ∃ i : Int, xs = [.int i] ∧ Q (.int (i.natAbs : Nat)) H) := fun pins s σ H xs us Q I r ⟨i, e, q⟩ => call_abs pins s σ H xs us Q I r ⟨i, e, by
  have h : (if i < 0 then -i else i) = ((i.natAbs : Nat) : Int) := by split <;> omega
  rw [h]
  exact q⟩
section
variable {K : PySem.W.Frag} (hK : X.K = K)
include hK
theorem oc_len : CallR X (.builtin "len") (fun xs H Q => ∃ p ys, xs = [.ref p] ∧ SqL K H p ys ∧ Q (.int ys.length) H) := fun pins s σ H xs us Q I r ⟨p, ys, e, h, q⟩ => call_len_seq pins s σ H xs us Q I r ⟨p, ys, e, .inl (hK ▸ h), q⟩
theorem oc_lenT : CallR X (.builtin "len") (fun xs H Q => ∃ p ys, xs = [.ref p] ∧ SqT K H p ys ∧ Q (.int ys.length) H) := fun pins s σ H xs us Q I r ⟨p, ys, e, h, q⟩ => call_len_seq pins s σ H xs us Q I r ⟨p, ys, e, .inr (hK ▸ h), q⟩
theorem oc_lenI : CallR X (.builtin "len") (fun xs H Q => ∃ p, ∃ ns : List Int, xs = [.ref p] ∧ SqL K H p (ns.map V.int) ∧ Q (.int ns.length) H) := fun pins s σ H xs us Q I r ⟨p, ns, e, h, q⟩ => call_len_seq pins s σ H xs us Q I r ⟨p, _, e, .inl (hK ▸ h), by rw [List.length_map]; exact q⟩
theorem oc_list : CallR X (.type "list") (fun xs H Q => ∃ p ys, xs = [.ref p] ∧ SqL K H p ys ∧ ∀ l, H l = none → Q (.ref l) (upd H l (.lst ys))) := fun pins s σ H xs us Q I r ⟨p, ys, e, h, q⟩ => call_list_of pins s σ H xs us Q I r ⟨p, ys, e, .inl (hK ▸ h), q⟩
theorem oc_listT : CallR X (.type "list") (fun xs H Q => ∃ p ys, xs = [.ref p] ∧ SqT K H p ys ∧ ∀ l, H l = none → Q (.ref l) (upd H l (.lst ys))) := fun pins s σ H xs us Q I r ⟨p, ys, e, h, q⟩ => call_list_of pins s σ H xs us Q I r ⟨p, ys, e, .inr (hK ▸ h), q⟩
theorem oc_tuple : CallR X (.type "tuple") (fun xs H Q => ∃ p ys, xs = [.ref p] ∧ SqL K H p ys ∧ ∀ l, H l = none → Q (.ref l) (upd H l (.tup ys))) := fun pins s σ H xs us Q I r ⟨p, ys, e, h, q⟩ => call_tuple_of pins s σ H xs us Q I r ⟨p, ys, e, .inl ⟨hK ▸ h, q⟩⟩
theorem oc_sum (hc : X.calm = true) : CallR X (.builtin "sum") (rSum K) := hK ▸ cr_sum hc
theorem oc_anyB (hc : X.calm = true) : CallR X (.builtin "any") (rAny K) := hK ▸ cr_any hc
theorem oc_allB (hc : X.calm = true) : CallR X (.builtin "all") (rAll K) := hK ▸ cr_all hc
/-- xs[i], any list -/
theorem oc_ix : IxR X (fun x y H Q => ∃ p xs i v, x = .ref p ∧ y = .int i ∧ SqL K H p xs ∧ atI xs i = some v ∧ Q v H) := hK ▸ ix_list
theorem oc_ixT : IxR X (fun x y H Q => ∃ p xs i v, x = .ref p ∧ y = .int i ∧ SqT K H p xs ∧ atI xs i = some v ∧ Q v H) := hK ▸ ix_tup
/-- xs[i], a list of ints -/
theorem oc_ixI : IxR X (fun x y H Q => ∃ p, ∃ (ns : List Int) (i : Int), x = .ref p ∧ y = .int i ∧ SqL K H p (ns.map V.int) ∧ (0 ≤ i ∧ i < ns.length) ∧ Q (.int (gI ns i)) H) := fun va sl pins s σ H x y v u Q I rx ry ⟨p, ns, i, e1, e2, h, b, q⟩ hs =>
  ix_list va sl pins s σ H x y v u Q I rx ry ⟨p, _, i, _, e1, e2, hK ▸ h, atI_ints b.1 b.2, q⟩ hs
/-- xs[i:j], a list of ints; any list -/
theorem oc_slI : SlR X (fun x lo hi H Q => ∃ a, ∃ ns : List Int, x = .ref a ∧ SqL K H a (ns.map V.int) ∧ ∀ p, H p = none → Q (.ref p) (upd H p (.lst ((cutL ns lo hi).map V.int)))) := by
  intro pins s σ H x v vl vu lo hi sl Q I rx hs pl pu ⟨a, ns, e, h, q⟩
  exact sl_list pins s σ H x v vl vu lo hi sl Q I rx hs pl pu ⟨a, _, e, hK ▸ h, fun p np => by rw [cutV_map]; exact q p np⟩
theorem oc_sl : SlR X (fun x lo hi H Q => ∃ a xs, x = .ref a ∧ SqL K H a xs ∧ ∀ p, H p = none → Q (.ref p) (upd H p (.lst (cutV xs lo hi)))) := hK ▸ sl_list
end
theorem dp_ints {K : PySem.W.Frag} {H : Hp} : ∀ ns : List Int, DpAll K H (ns.map V.int) (ns.map PyData.int)
  | [] => .nil
  | n :: ns => .cons (.int n) (dp_ints ns)
theorem eqv_ints : ∀ ns ms : List Int, PyData.eqvAll (ns.map PyData.int) (ms.map PyData.int) = decide (ns = ms)
  | [], [] => by simp [PyData.eqvAll]
  | [], _ :: _ => by simp [PyData.eqvAll]
  | _ :: _, [] => by simp [PyData.eqvAll]
  | n :: ns, m :: ms => by
    simp only [List.map_cons, PyData.eqvAll, PyData.eqv, eqv_ints ns ms]
    by_cases h1 : n = m <;> by_cases h2 : ns = ms <;> simp [h1, h2]
theorem lay_ints : ∀ ns : List Int, PyData.canLayAll0 (ns.map PyData.int) = true
  | [] => by simp [PyData.canLayAll0]
  | n :: ns => by simp [PyData.canLayAll0, PyData.canLay0, lay_ints ns]
theorem depth_ints : ∀ ns : List Int, PyData.depthAll (ns.map PyData.int) = 0
  | [] => by simp [PyData.depthAll]
  | n :: ns => by simp [PyData.depthAll, PyData.depth, depth_ints ns]
theorem shaped_ints (ns : List Int) : SeqAt.shaped (.list (ns.map PyData.int)) = true := by
  unfold SeqAt.shaped
  simp [PyData.canLay0, lay_ints, PyData.depth, depth_ints]
theorem oc_ne_ints {K : PySem.W.Frag} (hK : X.K = K) (hu : X.A.units + 64 < cLine) : OpR X (compareOp .NotEq) (fun x y H Q => ∃ a b, ∃ ns ms : List Int, x = .ref a ∧ y = .ref b ∧ SqL K H a (ns.map V.int) ∧ SqL K H b (ms.map V.int) ∧ Q (.bl (!decide (ns = ms))) H) := fun pins s σ H x y v u Q I rx ry ⟨a, b, ns, ms, e1, e2, h1, h2, q⟩ =>
  op_neD hu pins s σ H x y v u Q I rx ry ⟨.list (ns.map PyData.int), .list (ms.map PyData.int), e1 ▸ .lst (hK ▸ h1) (dp_ints ns), e2 ▸ .lst (hK ▸ h2) (dp_ints ms), shaped_ints ns, shaped_ints ms, by
    have e : PyData.eqv (.list (ns.map PyData.int)) (.list (ms.map PyData.int)) = decide (ns = ms) := by
      rw [← eqv_ints]
      simp only [PyData.eqv]
    rw [e]
    exact q⟩
theorem oc_eq_ints {K : PySem.W.Frag} (hK : X.K = K) (hu : X.A.units + 64 < cLine) : OpR X (compareOp .Eq) (fun x y H Q => ∃ a b, ∃ ns ms : List Int, x = .ref a ∧ y = .ref b ∧ SqL K H a (ns.map V.int) ∧ SqL K H b (ms.map V.int) ∧ Q (.bl (decide (ns = ms))) H) := fun pins s σ H x y v u Q I rx ry ⟨a, b, ns, ms, e1, e2, h1, h2, q⟩ =>
  op_eqD hu pins s σ H x y v u Q I rx ry ⟨.list (ns.map PyData.int), .list (ms.map PyData.int), e1 ▸ .lst (hK ▸ h1) (dp_ints ns), e2 ▸ .lst (hK ▸ h2) (dp_ints ms), shaped_ints ns, shaped_ints ms, by
    have e : PyData.eqv (.list (ns.map PyData.int)) (.list (ms.map PyData.int)) = decide (ns = ms) := by
      rw [← eqv_ints]
      simp only [PyData.eqv]
    rw [e]
    exact q⟩
/-! isinstance, by what is known of the value -/
theorem oc_isi_ty {T U : String} {r : Bool} (h : kitB T U = some r) : CallR X (.builtin "isinstance") (fun xs H Q => ∃ x, xs = [x, .ty U] ∧ TyX X.K H x (.type T) ∧ Q (.bl r) H) := fun pins s σ H xs us Q I rr ⟨x, e, t, q⟩ =>
  call_isi pins s σ H xs us Q I rr ⟨x, _, _, _, r, e, .ty U, t, kit_ty h, q⟩
theorem oc_isi_ii : CallR X (.builtin "isinstance") (fun xs H Q => ∃ i, xs = [.int i, .ty "int"] ∧ Q (.bl true) H) := fun pins s σ H xs us Q I rr ⟨i, e, q⟩ =>
  call_isi pins s σ H xs us Q I rr ⟨_, _, _, _, true, e, .ty "int", .base (.int i), kit_ty (by decide +kernel), q⟩
theorem oc_isi_ib : CallR X (.builtin "isinstance") (fun xs H Q => ∃ i, xs = [.int i, .ty "bool"] ∧ Q (.bl false) H) := fun pins s σ H xs us Q I rr ⟨i, e, q⟩ =>
  call_isi pins s σ H xs us Q I rr ⟨_, _, _, _, false, e, .ty "bool", .base (.int i), kit_ty (by decide +kernel), q⟩
theorem oc_isi_bb : CallR X (.builtin "isinstance") (fun xs H Q => ∃ i, xs = [.bl i, .ty "bool"] ∧ Q (.bl true) H) := fun pins s σ H xs us Q I rr ⟨i, e, q⟩ =>
  call_isi pins s σ H xs us Q I rr ⟨_, _, _, _, true, e, .ty "bool", .base (.bl i), kit_ty (by decide +kernel), q⟩
theorem oc_isi_ll : CallR X (.builtin "isinstance") (fun xs H Q => ∃ a ys, xs = [.ref a, .ty "list"] ∧ H a = some (.lst ys) ∧ Q (.bl true) H) := fun pins s σ H xs us Q I rr ⟨a, ys, e, h, q⟩ =>
  call_isi pins s σ H xs us Q I rr ⟨_, _, _, _, true, e, .ty "list", .base (.lst h), kit_ty (by decide +kernel), q⟩
end

/-! ### the heap's changes, in chunks -/
theorem small {n : Nat} (h : n ≤ 1000000) : n < sizeLine := Nat.lt_of_le_of_lt h (by decide)
theorem small' {n : Nat} (h : n ≤ 1000000) : n ≤ sizeLine := Nat.le_of_lt (small h)
theorem Sts.newE {L : List Asr} {H H' : Hp} {p : Addr} {o : HO} (S : Sts H L) (np : H p = none) (e : upd H p o = H') (ho : isT o = false := by rfl) : Sts H' (pto p o :: L) := e ▸ S.new o np ho
theorem Sts.putE {L : List Asr} {H H' : Hp} {a : Addr} {o u : HO} (S : Sts H (pto a o :: L)) (e : upd H a u = H') (hu : isT u = false := by rfl) : Sts H' (pto a u :: L) := e ▸ S.put u hu
section
variable {X : Cx}
theorem oc_append : MtR X "list.append" (fun x vs H Q => ∃ l y, x = .ref l ∧ vs = [y] ∧ ∃ xs L, Sts H (pto l (.lst xs) :: L) ∧ xs.length < sizeLine ∧ ∀ H', Sts H' (pto l (.lst (xs ++ [y])) :: L) → Q .non H') := fun pins s σ H x xs v us Q I rx rs ⟨l, y, e1, e2, ys, L, S, hl, q⟩ =>
  mt_append pins s σ H x xs v us Q I rx rs ⟨l, ys, y, e1, e2, S.hd, hl, q _ (S.put _)⟩
theorem oc_extend : MtR X "list.extend" (fun x vs H Q => ∃ l b, x = .ref l ∧ vs = [.ref b] ∧ ∃ xs zs L, Sts H (pto l (.lst xs) :: L) ∧ H b = some (.lst zs) ∧ xs.length + zs.length ≤ sizeLine ∧ ∀ H', Sts H' (pto l (.lst (xs ++ zs)) :: L) → Q .non H') := fun pins s σ H x xs v us Q I rx rs ⟨l, b, e1, e2, ys, zs, L, S, hb, hl, q⟩ =>
  mt_extend pins s σ H x xs v us Q I rx rs ⟨l, b, ys, zs, e1, e2, S.hd, hb, hl, q _ (S.put _)⟩
theorem oc_setL : PSet X (fun o i v H Q => ∃ p k, o = .ref p ∧ i = .int k ∧ ∃ xs L, Sts H (pto p (.lst xs) :: L) ∧ (0 ≤ k ∧ k < xs.length) ∧ ∀ H', Sts H' (pto p (.lst (xs.set k.toNat v)) :: L) → Q H') := fun pins s σ H o i v ov iv u Q I ro ri rv ⟨p, k, e1, e2, xs, L, S, b, q⟩ =>
  set_list pins s σ H o i v ov iv u Q I ro ri rv ⟨p, xs, k, k.toNat, e1, e2, S.hd, ixN_of b.1 b.2, q _ (S.put _)⟩
theorem oc_setI : PSet X (fun o i v H Q => ∃ p k j, o = .ref p ∧ i = .int k ∧ v = .int j ∧ ∃ (ns : List Int) (L : List Asr), Sts H (pto p (.lst (ns.map V.int)) :: L) ∧ (0 ≤ k ∧ k < ns.length) ∧ ∀ H', Sts H' (pto p (.lst ((ns.set k.toNat j).map V.int)) :: L) → Q H') := fun pins s σ H o i v ov iv u Q I ro ri rv ⟨p, k, j, e1, e2, e3, ns, L, S, b, q⟩ =>
  set_list pins s σ H o i v ov iv u Q I ro ri rv ⟨p, _, k, k.toNat, e1, e2, S.hd, ixN_of b.1 (by rw [List.length_map]; exact b.2), by
    refine q _ ?_
    rw [List.map_set, e3]
    exact S.put _⟩
theorem oc_appendI : MtR X "list.append" (fun x vs H Q => ∃ l j, x = .ref l ∧ vs = [.int j] ∧ ∃ (ns : List Int) (L : List Asr), Sts H (pto l (.lst (ns.map V.int)) :: L) ∧ ns.length ≤ 1000000 ∧ ∀ H', Sts H' (pto l (.lst ((ns ++ [j]).map V.int)) :: L) → Q .non H') := fun pins s σ H x xs v us Q I rx rs ⟨l, j, e1, e2, ns, L, S, hl, q⟩ =>
  mt_append pins s σ H x xs v us Q I rx rs ⟨l, _, .int j, e1, e2, S.hd, small (by rw [List.length_map]; exact hl), q _ (by rw [List.map_append]; exact S.put _)⟩
theorem oc_catI : OpR X (binaryOp .Add) (fun x y H Q => ∃ l b, ∃ (ns ms : List Int), x = .ref l ∧ y = .ref b ∧ H l = some (.lst (ns.map V.int)) ∧ H b = some (.lst (ms.map V.int)) ∧ ns.length + ms.length ≤ 1000000 ∧ ∀ p, H p = none → Q (.ref p) (upd H p (.lst ((ns ++ ms).map V.int)))) := fun pins s σ H x y v u Q I rx ry ⟨l, b, ns, ms, e1, e2, h1, h2, hl, q⟩ =>
  op_cat pins s σ H x y v u Q I rx ry ⟨l, b, _, _, e1, e2, h1, h2, small' (by rw [List.length_map, List.length_map]; exact hl), by rw [← List.map_append]; exact q⟩
end

/-! ### tests -/
theorem dt {p : Prop} [Decidable p] (h : p) : decide p = true := decide_eq_true h
theorem df {p : Prop} [Decidable p] (h : ¬ p) : decide p = false := decide_eq_false h
theorem nd {p : Prop} [Decidable p] (h : p) : (!decide p) = false := by rw [decide_eq_true h]; rfl
theorem nt {p : Prop} [Decidable p] (h : ¬ p) : (!decide p) = true := by rw [decide_eq_false h]; rfl
theorem odt {p : Prop} [Decidable p] (h : decide p = true) : p := of_decide_eq_true h
theorem odf {p : Prop} [Decidable p] (h : decide p = false) : ¬ p := of_decide_eq_false h
theorem ont {p : Prop} [Decidable p] (h : (!decide p) = true) : ¬ p := fun q => by rw [decide_eq_true q] at h; cases h
theorem onf {p : Prop} [Decidable p] (h : (!decide p) = false) : p := Decidable.byContradiction fun q => by rw [decide_eq_false q] at h; cases h
theorem vi {a b : Int} (h : V.int a = V.int b) : a = b := V.int.inj h
theorem ifB {b : Bool} {A B : Prop} (h1 : b = true → A) (h2 : b = false → B) : if b = true then A else B := by
  cases b with
  | true => exact iteT (h1 rfl)
  | false => exact iteF (h2 rfl)
theorem ifT {b : Bool} {A B : Prop} (h : b = true) (k : A) : if b = true then A else B := by
  subst h
  exact iteT k
theorem ifF {b : Bool} {A B : Prop} (h : b = false) (k : B) : if b = true then A else B := by
  subst h
  exact iteF k

theorem ifTT {A B : Prop} (k : A) : if true = true then A else B := iteT k
theorem ifFF {A B : Prop} (k : B) : if false = true then A else B := iteF k
theorem ifNT {A B : Prop} (k : B) : if (!true) = true then A else B := ifF rfl k
theorem ifNF {A B : Prop} (k : A) : if (!false) = true then A else B := ifT rfl k
theorem ifDE {α : Type} {x : α} [Decidable (x = x)] {A B : Prop} (k : A) : if decide (x = x) = true then A else B := ifT (dt rfl) k
theorem ifNE {α : Type} {x : α} [Decidable (x = x)] {A B : Prop} (k : B) : if (!decide (x = x)) = true then A else B := ifF (nd rfl) k
/-! ### comprehensions, behind the making of their list at D -/
theorem oc_lcR {lo : Int} {n : Nat} {g : TG} {tt : TT} {te : TE} {vs : List Nat} {σ : L2.St} {H0 : Hp} {D : Addr} {Qd : Hp → Prop} (Pv : Nat → Hp → Prop) (h0 : Pv 0 H0)
    (hs : ∀ i H, i < n → Pv i H → g (.int (lo + (i : Nat))) (wipe σ vs) H fun σ2 H2 => wipe σ2 vs = wipe σ vs ∧ tt σ2 H2 fun b H3 =>
      if b = true then te σ2 H3 fun y H4 => ∃ acc, H4 D = some (.lst acc) ∧ acc.length < sizeLine ∧ Pv (i + 1) (upd H4 D (.lst (acc ++ [y]))) else Pv (i + 1) H3) (hd : ∀ H, Pv n H → Qd H) :
    ∃ W : Nat → Nat → Hp → Prop, (∃ m, W 0 m H0) ∧ ∀ i m H, W i m H →
      ((Itr lo n).stop i H ∧ Qd H) ∨ ((Itr lo n).go i H ∧ ∃ Nx : Hp → Prop, (∀ H', Nx H' → ∃ m', m' < m ∧ W (i + 1) m' H') ∧ ∀ x H', (Itr lo n).yld i H x H' → g x (wipe σ vs) H' fun σ2 H2 => wipe σ2 vs = wipe σ vs ∧ tt σ2 H2 fun b H3 =>
        if b = true then te σ2 H3 fun y H4 => ∃ acc, H4 D = some (.lst acc) ∧ acc.length < sizeLine ∧ Nx (upd H4 D (.lst (acc ++ [y]))) else Nx H3) := by
  refine ⟨fun i m H => i + m = n ∧ Pv i H, ⟨n, Nat.zero_add n, h0⟩, fun i m H h => ?_⟩
  obtain ⟨e, p⟩ := h
  cases m with
  | zero =>
    have e' : n = i := e.symm
    subst e'
    exact .inl ⟨Nat.le_refl _, hd H p⟩
  | succ m =>
    have hi : i < n := by omega
    refine .inr ⟨hi, Pv (i + 1), fun H' p' => ⟨m, Nat.lt_succ_self m, by omega, p'⟩, fun x H' y => ?_⟩
    obtain ⟨e1, e2⟩ := y
    rw [e1, e2]
    exact hs i H hi p
theorem oc_lcL {K : PySem.W.Frag} {a : Addr} {xs : List V} {g : TG} {tt : TT} {te : TE} {vs : List Nat} {σ : L2.St} {H0 : Hp} {D : Addr} {Qd : Hp → Prop} (Pv : Nat → Hp → Prop) (h0 : Pv 0 H0) (hl : ∀ i H, Pv i H → SqL K H a xs)
    (hs : ∀ i x H, xs[i]? = some x → Pv i H → g x (wipe σ vs) H fun σ2 H2 => wipe σ2 vs = wipe σ vs ∧ tt σ2 H2 fun b H3 =>
      if b = true then te σ2 H3 fun y H4 => ∃ acc, H4 D = some (.lst acc) ∧ acc.length < sizeLine ∧ Pv (i + 1) (upd H4 D (.lst (acc ++ [y]))) else Pv (i + 1) H3) (hd : ∀ H, Pv xs.length H → Qd H) :
    ∃ W : Nat → Nat → Hp → Prop, (∃ m, W 0 m H0) ∧ ∀ i m H, W i m H →
      ((Itl K a).stop i H ∧ Qd H) ∨ ((Itl K a).go i H ∧ ∃ Nx : Hp → Prop, (∀ H', Nx H' → ∃ m', m' < m ∧ W (i + 1) m' H') ∧ ∀ x H', (Itl K a).yld i H x H' → g x (wipe σ vs) H' fun σ2 H2 => wipe σ2 vs = wipe σ vs ∧ tt σ2 H2 fun b H3 =>
        if b = true then te σ2 H3 fun y H4 => ∃ acc, H4 D = some (.lst acc) ∧ acc.length < sizeLine ∧ Nx (upd H4 D (.lst (acc ++ [y]))) else Nx H3) := by
  refine ⟨fun i m H => i + m = xs.length ∧ Pv i H, ⟨xs.length, Nat.zero_add _, h0⟩, fun i m H h => ?_⟩
  obtain ⟨e, p⟩ := h
  have q := hl i H p
  cases m with
  | zero =>
    have e' : i = xs.length := e
    exact .inl ⟨⟨xs, q, by omega⟩, hd H (e' ▸ p)⟩
  | succ m =>
    have hi : i < xs.length := by omega
    refine .inr ⟨⟨xs, xs[i], q, List.getElem?_eq_getElem hi⟩, Pv (i + 1), fun H' p' => ⟨m, Nat.lt_succ_self m, by omega, p'⟩, fun x H' y => ?_⟩
    obtain ⟨e1, e2⟩ := y
    rw [e1]
    exact hs i x H (e2 xs q) p
/-- one value an item, the heap as it was -/
theorem lc_pure {K : PySem.W.Frag} {a : Addr} {k : Nat} {te : TE} {vs : List Nat} {σ : L2.St} {H0 : Hp} {Qd : Hp → Prop} {L : List Asr} {D : Addr} (xs : List V) (f : V → V) (S : Sts H0 (pto D (.lst []) :: L)) (hsq : ∀ H, Sts H L → SqL K H a xs) (hl : xs.length ≤ 1000000)
    (hw : ∀ x, wipe ((wipe σ vs).set k (some x)) vs = wipe σ vs) (he : ∀ (x : V) (H : Hp) (Q' : VK), x ∈ xs → Sts H L → Q' (f x) H → te ((wipe σ vs).set k (some x)) H Q')
    (hd : ∀ H, Sts H (pto D (.lst (xs.map f)) :: L) → Qd H) :
    ∃ W : Nat → Nat → Hp → Prop, (∃ m, W 0 m H0) ∧ ∀ i m H, W i m H →
      ((Itl K a).stop i H ∧ Qd H) ∨ ((Itl K a).go i H ∧ ∃ Nx : Hp → Prop, (∀ H', Nx H' → ∃ m', m' < m ∧ W (i + 1) m' H') ∧ ∀ x H', (Itl K a).yld i H x H' → gName k x (wipe σ vs) H' fun σ2 H2 => wipe σ2 vs = wipe σ vs ∧ tYes σ2 H2 fun b H3 =>
        if b = true then te σ2 H3 fun y H4 => ∃ acc, H4 D = some (.lst acc) ∧ acc.length < sizeLine ∧ Nx (upd H4 D (.lst (acc ++ [y]))) else Nx H3) :=
  oc_lcL (K := K) (a := a) (xs := xs) (fun i H => Sts H (pto D (.lst ((xs.take i).map f)) :: L)) S (fun i H p => hsq H p.tail)
    (fun i x H hx p => by
      refine ⟨hw x, ?_⟩
      simp only [tYes, if_true]
      refine he x H _ (List.mem_of_getElem? hx) p.tail ⟨_, p.hd, small (by rw [List.length_map, List.length_take]; omega), ?_⟩
      rw [List.take_add_one, hx, List.map_append]
      exact p.put _)
    (fun H p => hd H (by rw [List.take_length] at p; exact p))
theorem lc_pureI {K : PySem.W.Frag} {a : Addr} {k : Nat} {te : TE} {vs : List Nat} {σ : L2.St} {H0 : Hp} {Qd : Hp → Prop} {L : List Asr} {D : Addr} (ns : List Int) (f : Int → V) (S : Sts H0 (pto D (.lst []) :: L)) (hsq : ∀ H, Sts H L → SqL K H a (ns.map V.int)) (hl : ns.length ≤ 1000000)
    (hw : ∀ x, wipe ((wipe σ vs).set k (some x)) vs = wipe σ vs) (he : ∀ (x : Int) (H : Hp) (Q' : VK), x ∈ ns → Sts H L → Q' (f x) H → te ((wipe σ vs).set k (some (.int x))) H Q')
    (hd : ∀ H, Sts H (pto D (.lst (ns.map f)) :: L) → Qd H) :
    ∃ W : Nat → Nat → Hp → Prop, (∃ m, W 0 m H0) ∧ ∀ i m H, W i m H →
      ((Itl K a).stop i H ∧ Qd H) ∨ ((Itl K a).go i H ∧ ∃ Nx : Hp → Prop, (∀ H', Nx H' → ∃ m', m' < m ∧ W (i + 1) m' H') ∧ ∀ x H', (Itl K a).yld i H x H' → gName k x (wipe σ vs) H' fun σ2 H2 => wipe σ2 vs = wipe σ vs ∧ tYes σ2 H2 fun b H3 =>
        if b = true then te σ2 H3 fun y H4 => ∃ acc, H4 D = some (.lst acc) ∧ acc.length < sizeLine ∧ Nx (upd H4 D (.lst (acc ++ [y]))) else Nx H3) :=
  oc_lcL (K := K) (a := a) (xs := ns.map V.int) (fun i H => Sts H (pto D (.lst ((ns.take i).map f)) :: L)) S (fun i H p => hsq H p.tail)
    (fun i x H hx p => by
      rw [List.getElem?_map] at hx
      cases e : ns[i]? with
      | none =>
        rw [e] at hx
        cases hx
      | some n =>
        rw [e] at hx
        have ex : x = V.int n := (Option.some.inj hx).symm
        subst ex
        refine ⟨hw _, ?_⟩
        simp only [tYes, if_true]
        refine he n H _ (List.mem_of_getElem? e) p.tail ⟨_, p.hd, small (by rw [List.length_map, List.length_take]; omega), ?_⟩
        rw [List.take_add_one, e, List.map_append]
        exact p.put _)
    (fun H p => hd H (by rw [List.length_map, List.take_length] at p; exact p))
/-- over a range -/
theorem lc_pureR {lo : Int} {n : Nat} {k : Nat} {te : TE} {vs : List Nat} {σ : L2.St} {H0 : Hp} {Qd : Hp → Prop} {L : List Asr} {D : Addr} (f : Int → V) (S : Sts H0 (pto D (.lst []) :: L)) (hl : n ≤ 1000000)
    (hw : ∀ x, wipe ((wipe σ vs).set k (some x)) vs = wipe σ vs) (he : ∀ (i : Nat) (H : Hp) (Q' : VK), i < n → Sts H L → Q' (f (lo + i)) H → te ((wipe σ vs).set k (some (.int (lo + i)))) H Q')
    (hd : ∀ H, Sts H (pto D (.lst ((List.range n).map fun i => f (lo + (i : Nat)))) :: L) → Qd H) :
    ∃ W : Nat → Nat → Hp → Prop, (∃ m, W 0 m H0) ∧ ∀ i m H, W i m H →
      ((Itr lo n).stop i H ∧ Qd H) ∨ ((Itr lo n).go i H ∧ ∃ Nx : Hp → Prop, (∀ H', Nx H' → ∃ m', m' < m ∧ W (i + 1) m' H') ∧ ∀ x H', (Itr lo n).yld i H x H' → gName k x (wipe σ vs) H' fun σ2 H2 => wipe σ2 vs = wipe σ vs ∧ tYes σ2 H2 fun b H3 =>
        if b = true then te σ2 H3 fun y H4 => ∃ acc, H4 D = some (.lst acc) ∧ acc.length < sizeLine ∧ Nx (upd H4 D (.lst (acc ++ [y]))) else Nx H3) :=
  oc_lcR (lo := lo) (n := n) (fun i H => Sts H (pto D (.lst ((List.range i).map fun i => f (lo + (i : Nat)))) :: L)) S
    (fun i H hi p => by
      refine ⟨hw _, ?_⟩
      simp only [tYes, if_true]
      refine he i H _ hi p.tail ⟨_, p.hd, small (by rw [List.length_map, List.length_range]; omega), ?_⟩
      rw [List.range_succ, List.map_append]
      exact p.put _)
    (fun H p => hd H p)
/-- lists of ints out of lists of ints and ranges -/
theorem lc_II {K : PySem.W.Frag} {a : Addr} {k : Nat} {te : TE} {vs : List Nat} {σ : L2.St} {H0 : Hp} {Qd : Hp → Prop} {L : List Asr} {D : Addr} (ns : List Int) (f : Int → Int) (S : Sts H0 (pto D (.lst []) :: L)) (hsq : ∀ H, Sts H L → SqL K H a (ns.map V.int)) (hl : ns.length ≤ 1000000)
    (hw : ∀ x, wipe ((wipe σ vs).set k (some x)) vs = wipe σ vs) (he : ∀ (x : Int) (H : Hp) (Q' : VK), x ∈ ns → Sts H L → Q' (.int (f x)) H → te ((wipe σ vs).set k (some (.int x))) H Q')
    (hd : ∀ H, Sts H (pto D (.lst ((ns.map f).map V.int)) :: L) → Qd H) :
    ∃ W : Nat → Nat → Hp → Prop, (∃ m, W 0 m H0) ∧ ∀ i m H, W i m H →
      ((Itl K a).stop i H ∧ Qd H) ∨ ((Itl K a).go i H ∧ ∃ Nx : Hp → Prop, (∀ H', Nx H' → ∃ m', m' < m ∧ W (i + 1) m' H') ∧ ∀ x H', (Itl K a).yld i H x H' → gName k x (wipe σ vs) H' fun σ2 H2 => wipe σ2 vs = wipe σ vs ∧ tYes σ2 H2 fun b H3 =>
        if b = true then te σ2 H3 fun y H4 => ∃ acc, H4 D = some (.lst acc) ∧ acc.length < sizeLine ∧ Nx (upd H4 D (.lst (acc ++ [y]))) else Nx H3) :=
  lc_pureI ns (fun x => .int (f x)) S hsq hl hw he (fun H S => hd H (by rw [List.map_map]; exact S))
theorem lc_RI {lo : Int} {n : Nat} {k : Nat} {te : TE} {vs : List Nat} {σ : L2.St} {H0 : Hp} {Qd : Hp → Prop} {L : List Asr} {D : Addr} (f : Int → Int) (S : Sts H0 (pto D (.lst []) :: L)) (hl : n ≤ 1000000)
    (hw : ∀ x, wipe ((wipe σ vs).set k (some x)) vs = wipe σ vs) (he : ∀ (i : Nat) (H : Hp) (Q' : VK), i < n → Sts H L → Q' (.int (f (lo + i))) H → te ((wipe σ vs).set k (some (.int (lo + i)))) H Q')
    (hd : ∀ H, Sts H (pto D (.lst (((List.range n).map fun i => f (lo + (i : Nat))).map V.int)) :: L) → Qd H) :
    ∃ W : Nat → Nat → Hp → Prop, (∃ m, W 0 m H0) ∧ ∀ i m H, W i m H →
      ((Itr lo n).stop i H ∧ Qd H) ∨ ((Itr lo n).go i H ∧ ∃ Nx : Hp → Prop, (∀ H', Nx H' → ∃ m', m' < m ∧ W (i + 1) m' H') ∧ ∀ x H', (Itr lo n).yld i H x H' → gName k x (wipe σ vs) H' fun σ2 H2 => wipe σ2 vs = wipe σ vs ∧ tYes σ2 H2 fun b H3 =>
        if b = true then te σ2 H3 fun y H4 => ∃ acc, H4 D = some (.lst acc) ∧ acc.length < sizeLine ∧ Nx (upd H4 D (.lst (acc ++ [y]))) else Nx H3) :=
  lc_pureR (fun x => .int (f x)) S hl hw he (fun H S => hd H (by rw [List.map_map]; exact S))
/-- the end of a turn of any comprehension -/
theorem lc_end {D : Addr} {acc : List V} {y : V} {L : List Asr} {H : Hp} {N : Hp → Prop} (S : Sts H (pto D (.lst acc) :: L)) (hl : acc.length ≤ 1000000) (k : ∀ H', Sts H' (pto D (.lst (acc ++ [y])) :: L) → N H') :
    ∃ acc, H D = some (.lst acc) ∧ acc.length < sizeLine ∧ N (upd H D (.lst (acc ++ [y]))) := ⟨acc, S.hd, small hl, k _ (S.put _)⟩
/-- a block cut behind its first statement: what holds between -/
def tCutO (t u : TS) : TS := fun D σ H => ∃ Mid : L2.St → Hp → Prop, t { D with nx := Mid } σ H ∧ ∀ σ' H', Mid σ' H' → u D σ' H'
theorem oc_cut {X : Cx} {st : Stmt} {rest : List Stmt} {t u : TS} (h1 : PS X st t) (h2 : PSs X rest u) : PSs X (st :: rest) (tCutO t u) := by
  refine ⟨fun pins s σ H D I ⟨Mid, a, b⟩ => ?_⟩
  refine wpAny_execs_cons (thn (h1.run pins s σ H { D with nx := Mid } I a) fun f s1 q => ?_)
  cases f with
  | next =>
    obtain ⟨σ', H', I', q⟩ := q
    exact h2.run pins s1 σ' H' D I' (b _ _ q)
  | ret v => exact q
  | brk => exact q
  | cont => exact q
end Oc
namespace Oc
open PySem PySem.Spec PyProof.Rows L2
/-! ### any over ints -/
theorem vals_int : ∀ {ns : List Int} {its : List Value} {i : Nat} {u : Value}, Vals (ns.map V.int) its → its[i]? = some u → ∃ n t, ns[i]? = some n ∧ u = .int n t
  | [], _, _, _, r, e => by
    cases r
    cases e
  | n :: ns, _, 0, u, r, e => by
    cases r with
    | cons a b =>
      obtain ⟨t, a⟩ := a
      exact ⟨n, t, rfl, (Option.some.inj e).symm.trans a⟩
  | n :: ns, _, i + 1, u, r, e => by
    cases r with
    | cons a b => exact vals_int (ns := ns) b e
theorem anyI_range : ∀ ns : List Int, (List.range ns.length).any (fun i => decide (ns.getD i 0 ≠ 0)) = ns.any fun n => decide (n ≠ 0)
  | [] => rfl
  | n :: ns => by
    have ih := anyI_range ns
    rw [List.length_cons, List.range_succ_eq_map, List.any_cons, List.any_map, List.any_cons, ← ih]
    rfl
theorem oc_anyI {X : Cx} {K : PySem.W.Frag} (hK : X.K = K) (hc : X.calm = true) : CallR X (.builtin "any") (fun xs H Q => ∃ a, ∃ ns : List Int, xs = [.ref a] ∧ SqL K H a (ns.map V.int) ∧ Q (.bl (ns.any fun n => decide (n ≠ 0))) H) := by
  subst hK
  intro pins s σ H xs us Q I rr ⟨a, ns, e, hS, q⟩
  subst e
  obtain ⟨its, rv, hl, _⟩ := I.list hS
  rw [Vals.ref1 rr]
  have hlen : ns.length = its.length := by
    have z := rv.length
    rwa [List.length_map] at z
  refine call_any_walk (iter_any hl.isList fun s2 es st ne => ?_)
  subst es
  refine ⟨_, _, _, _, _, _, fun i => decide (ns.getD i 0 ≠ 0), rfl, Walks.list (A := X.A.in1) (I.ok.hd hc) _ a ne its.toArray, st, fun i v t R E hv hq => ?_, fun h' tk hk => ?_⟩
  · have hv' : its[i]? = some v := by simpa using hv
    obtain ⟨n, u, hn, rfl⟩ := vals_int rv hv'
    have eg : ns.getD i 0 = n := by
      rw [List.getD_eq_getElem?_getD, hn]
      rfl
    dsimp only at hq
    rw [eg] at hq
    refine PyProof.Rows.truthy_int ?_
    have ez : (n != 0) = decide (n ≠ 0) := by
      by_cases z : n = 0 <;> simp [z]
    rw [ez]
    exact hq
  · refine ⟨.bl _, H, I.kept fun b o eo => hk b o (fun hm => ?_) (Heap.get?_push_of_some _ eo), ?_, q⟩
    · rcases List.mem_cons.mp hm with z | hm
      · exact absurd (z ▸ Heap.lt_size eo) (Nat.lt_irrefl _)
      · cases hm
    · show Value.bool _ = Value.bool _
      rw [← anyI_range, hlen, List.size_toArray]
end Oc
namespace Oc
open PySem PySem.Spec PyProof.Rows L2
/-- a comprehension over anything: n turns -/
theorem oc_lc {J : It} {n : Nat} {g : TG} {tt : TT} {te : TE} {vs : List Nat} {σ : L2.St} {H0 : Hp} {D : Addr} {Qd : Hp → Prop} (Pv : Nat → Hp → Prop) (h0 : Pv 0 H0) (hgo : ∀ i H, i < n → Pv i H → J.go i H) (hst : ∀ H, Pv n H → J.stop n H)
    (hs : ∀ i x H H', i < n → Pv i H → J.yld i H x H' → g x (wipe σ vs) H' fun σ2 H2 => wipe σ2 vs = wipe σ vs ∧ tt σ2 H2 fun b H3 =>
      if b = true then te σ2 H3 fun y H4 => ∃ acc, H4 D = some (.lst acc) ∧ acc.length < sizeLine ∧ Pv (i + 1) (upd H4 D (.lst (acc ++ [y]))) else Pv (i + 1) H3) (hd : ∀ H, Pv n H → Qd H) :
    ∃ W : Nat → Nat → Hp → Prop, (∃ m, W 0 m H0) ∧ ∀ i m H, W i m H →
      (J.stop i H ∧ Qd H) ∨ (J.go i H ∧ ∃ Nx : Hp → Prop, (∀ H', Nx H' → ∃ m', m' < m ∧ W (i + 1) m' H') ∧ ∀ x H', J.yld i H x H' → g x (wipe σ vs) H' fun σ2 H2 => wipe σ2 vs = wipe σ vs ∧ tt σ2 H2 fun b H3 =>
        if b = true then te σ2 H3 fun y H4 => ∃ acc, H4 D = some (.lst acc) ∧ acc.length < sizeLine ∧ Nx (upd H4 D (.lst (acc ++ [y]))) else Nx H3) := by
  refine ⟨fun i m H => i + m = n ∧ Pv i H, ⟨n, Nat.zero_add _, h0⟩, fun i m H h => ?_⟩
  obtain ⟨e, p⟩ := h
  cases m with
  | zero =>
    have e' : i = n := e
    subst e'
    exact .inl ⟨hst H p, hd H p⟩
  | succ m =>
    have hi : i < n := by omega
    exact .inr ⟨hgo i H hi p, Pv (i + 1), fun H' p' => ⟨m, Nat.lt_succ_self m, by omega, p'⟩, fun x H' y => hs i x H H' hi p y⟩
/-- a for over anything: n turns -/
theorem oc_for {J : It} {n : Nat} {g : TG} {tb : TS} {D : Ends} {σ : L2.St} {H : Hp} (Pv : Nat → L2.St → Hp → Prop) (h0 : Pv 0 σ H) (hgo : ∀ i σ H, i < n → Pv i σ H → J.go i H) (hst : ∀ σ H, Pv n σ H → J.stop n H)
    (hs : ∀ i x σ H H', i < n → Pv i σ H → J.yld i H x H' → g x σ H' fun σ2 H2 => tb { D with nx := Pv (i + 1), ct := Pv (i + 1), bk := D.nx } σ2 H2) (hd : ∀ σ H, Pv n σ H → D.nx σ H) :
    ∃ W : Nat → Nat → L2.St → Hp → Prop, (∃ m, W 0 m σ H) ∧ ∀ i m σ H, W i m σ H →
      (J.stop i H ∧ D.nx σ H) ∨ (J.go i H ∧ ∃ N : L2.St → Hp → Prop, (∀ σ' H', N σ' H' → ∃ m', m' < m ∧ W (i + 1) m' σ' H') ∧ ∀ x H', J.yld i H x H' → g x σ H' fun σ2 H2 => tb { D with nx := N, ct := N, bk := D.nx } σ2 H2) := by
  refine ⟨fun i m σ H => i + m = n ∧ Pv i σ H, ⟨n, Nat.zero_add _, h0⟩, fun i m σ H h => ?_⟩
  obtain ⟨e, p⟩ := h
  cases m with
  | zero =>
    have e' : i = n := e
    subst e'
    exact .inl ⟨hst σ H p, hd σ H p⟩
  | succ m =>
    have hi : i < n := by omega
    exact .inr ⟨hgo i σ H hi p, Pv (i + 1), fun σ' H' p' => ⟨m, Nat.lt_succ_self m, by omega, p'⟩, fun x H' y => hs i x σ H H' hi p y⟩
section
variable {X : Cx} {K : PySem.W.Frag} (hK : X.K = K)
include hK
theorem oc_pg_tup {es : List Expr} {k : Nat} {t : TGs} {n : Nat} {pos : Pos} (hc : X.calm = true) (h : PGs X es t)
    (hn : (assignEach es X.env).length = n := by rfl) (hst : (assignEach es X.env).findIdx? (·.1) = none := by rfl) : PG X (.Tuple es k pos) (gTup K n t) := hK ▸ pg_tup hc h hn hst
end
theorem rep_map {α : Type} (f : α → V) (k : Nat) (xs : List α) : (List.replicate k (xs.map f)).flatten = ((List.replicate k xs).flatten).map f := by
  induction k with
  | zero => rfl
  | succ k ih => rw [List.replicate_succ, List.replicate_succ, List.flatten_cons, List.flatten_cons, ih, List.map_append]
theorem len_rep {α : Type} (k : Nat) (xs : List α) : (List.replicate k xs).flatten.length = k * xs.length := by
  induction k with
  | zero => simp
  | succ k ih => rw [List.replicate_succ, List.flatten_cons, List.length_append, ih, Nat.succ_mul, Nat.add_comm]
theorem oc_repI {X : Cx} : OpR X (binaryOp .Mult) (fun x y H Q => ∃ l k, ∃ ns : List Int, x = .ref l ∧ y = .int k ∧ H l = some (.lst (ns.map V.int)) ∧ (k < 1000000 ∧ -1000000 < k ∧ ns.length * k.toNat ≤ 1000000) ∧ ∀ p, H p = none → Q (.ref p) (upd H p (.lst ((List.replicate k.toNat ns).flatten.map V.int)))) := fun pins s σ H x y v u Q I rx ry ⟨l, k, ns, e1, e2, h1, ⟨b1, b2, b3⟩, q⟩ =>
  op_rep pins s σ H x y v u Q I rx ry ⟨l, k, _, e1, e2, h1, by omega, by omega, small' (by rw [List.length_map]; exact b3), by rw [rep_map]; exact q⟩
end Oc
namespace Oc
open PySem PySem.Spec PyProof.Rows L2
/-- an int or None -/
def ov : Option Int → V
  | none => .non
  | some i => .int i
theorem ov_none (o : Option Int) : decide (ov o = V.non) = o.isNone := by
  cases o <;> rfl
/-- xs[-1], a list of ints that is not empty -/
theorem oc_ixLast {X : Cx} {K : PySem.W.Frag} (hK : X.K = K) : IxR X (fun x y H Q => ∃ p, ∃ ns : List Int, x = .ref p ∧ y = .int (-1) ∧ SqL K H p (ns.map V.int) ∧ ∃ i, ns.getLast? = some i ∧ Q (.int i) H) := fun va sl pins s σ H x y v u Q I rx ry ⟨p, ns, e1, e2, h, i, b, q⟩ hs =>
  ix_list va sl pins s σ H x y v u Q I rx ry ⟨p, _, -1, .int i, e1, e2, hK ▸ h, by
    have e : ns = ns.dropLast ++ [i] := by
      have z := List.getLast?_eq_some_iff.mp b
      obtain ⟨ys, rfl⟩ := z
      simp
    rw [e, List.map_append]
    exact atI_last _ _, q⟩ hs
theorem isEmpty_pos {ns : List Int} (h : (!(ns.map V.int).isEmpty) = true) : 0 < ns.length := by
  cases ns with
  | nil => cases h
  | cons a b => simp
theorem isEmpty_nil {ns : List Int} (h : (!(ns.map V.int).isEmpty) = false) : ns = [] := by
  cases ns with
  | nil => rfl
  | cons a b => cases h
theorem len_lt {ns : List Int} {i : Nat} {x : V} (h : (ns.map V.int)[i]? = some x) : i < ns.length := by
  have z := (List.getElem?_eq_some_iff.mp h).1
  rwa [List.length_map] at z
theorem at_int {ns : List Int} {i : Nat} {x : V} (h : (ns.map V.int)[i]? = some x) : ∃ n, ns[i]? = some n ∧ x = .int n := by
  rw [List.getElem?_map] at h
  cases e : ns[i]? with
  | none =>
    rw [e] at h
    cases h
  | some n =>
    rw [e] at h
    exact ⟨n, rfl, (Option.some.inj h).symm⟩
/-- the list from behind: one item more -/
theorem rev_step {ns : List Int} {i : Nat} {x : Int} (h : ns.reverse[i]? = some x) : ns.drop (ns.length - (i + 1)) = x :: ns.drop (ns.length - i) := by
  have hi : i < ns.length := by
    have z := (List.getElem?_eq_some_iff.mp h).1
    rwa [List.length_reverse] at z
  rw [List.getElem?_reverse hi] at h
  have e : ns.length - i = (ns.length - (i + 1)) + 1 := by omega
  have h2 : ns[ns.length - (i + 1)]? = some x := by
    rw [← h]
    congr 1
    omega
  obtain ⟨hl, hv⟩ := List.getElem?_eq_some_iff.mp h2
  rw [e, List.drop_eq_getElem_cons hl, hv]
end Oc
namespace Oc
open PySem PySem.Spec PyProof.Rows L2
theorem oc_lcE {K : PySem.W.Frag} {a : Addr} {g : TG} {tt : TT} {te : TE} {vs : List Nat} {σ : L2.St} {H0 : Hp} {D : Addr} {Qd : Hp → Prop} (xs : List V) (Pv : Nat → Hp → Prop) (h0 : Pv 0 H0) (hl : ∀ i H, Pv i H → SqL K H a xs)
    (hs : ∀ i x T H H', xs[i]? = some x → Pv i H → H T = none → upd H T (.tup [.int (i : Nat), x]) = H' → g (.ref T) (wipe σ vs) H' fun σ2 H2 => wipe σ2 vs = wipe σ vs ∧ tt σ2 H2 fun b H3 =>
      if b = true then te σ2 H3 fun y H4 => ∃ acc, H4 D = some (.lst acc) ∧ acc.length < sizeLine ∧ Pv (i + 1) (upd H4 D (.lst (acc ++ [y]))) else Pv (i + 1) H3) (hd : ∀ H, Pv xs.length H → Qd H) :
    ∃ W : Nat → Nat → Hp → Prop, (∃ m, W 0 m H0) ∧ ∀ i m H, W i m H →
      ((Ite K a).stop i H ∧ Qd H) ∨ ((Ite K a).go i H ∧ ∃ Nx : Hp → Prop, (∀ H', Nx H' → ∃ m', m' < m ∧ W (i + 1) m' H') ∧ ∀ x H', (Ite K a).yld i H x H' → g x (wipe σ vs) H' fun σ2 H2 => wipe σ2 vs = wipe σ vs ∧ tt σ2 H2 fun b H3 =>
        if b = true then te σ2 H3 fun y H4 => ∃ acc, H4 D = some (.lst acc) ∧ acc.length < sizeLine ∧ Nx (upd H4 D (.lst (acc ++ [y]))) else Nx H3) :=
  oc_lc (n := xs.length) Pv h0 (fun i H hi p => ⟨xs, xs[i], hl i H p, List.getElem?_eq_getElem hi⟩) (fun H p => ⟨xs, hl _ H p, Nat.le_refl _⟩)
    (fun i x H H' hi p y => by
      obtain ⟨T, z, e1, e2, e3, e4⟩ := y
      rw [e1]
      exact hs i z T H H' (e4 xs (hl i H p)) p e2 e3.symm) hd
end Oc
theorem Oc.mulb {a b : Nat} (A B : Nat) {C : Nat} (ha : a ≤ A) (hb : b ≤ B) (h : A * B ≤ C) : a * b ≤ C := Nat.le_trans (Nat.mul_le_mul ha hb) h
namespace Oc
open PySem PySem.Spec PyProof.Rows L2
/-! ### guards: what kind of chunk, what form of list -/
theorem hI0 {H : Hp} {a : Addr} (h : H a = some (.lst [])) : H a = some (.lst (List.map V.int [])) := h
theorem hI1 {H : Hp} {a : Addr} {x : Int} (h : H a = some (.lst [V.int x])) : H a = some (.lst (List.map V.int [x])) := h
theorem hI2 {H : Hp} {a : Addr} {x y : Int} (h : H a = some (.lst [V.int x, V.int y])) : H a = some (.lst (List.map V.int [x, y])) := h
theorem hI3 {H : Hp} {a : Addr} {x y z : Int} (h : H a = some (.lst [V.int x, V.int y, V.int z])) : H a = some (.lst (List.map V.int [x, y, z])) := h
theorem gS {H : Hp} {a : Addr} {o : HO} {L : List Asr} (h : Sts H (pto a o :: L)) : Sts H (pto a o :: L) := h
theorem gL {H : Hp} {a : Addr} {ns : List Int} {L : List Asr} (h : Sts H (pto a (.lst (ns.map V.int)) :: L)) : Sts H (pto a (.lst (ns.map V.int)) :: L) := h
theorem gI0 {H : Hp} {a : Addr} {L : List Asr} (h : Sts H (pto a (.lst []) :: L)) : Sts H (pto a (.lst (List.map V.int [])) :: L) := h
theorem gI1 {H : Hp} {a : Addr} {x : Int} {L : List Asr} (h : Sts H (pto a (.lst [V.int x]) :: L)) : Sts H (pto a (.lst (List.map V.int [x])) :: L) := h
theorem gI2 {H : Hp} {a : Addr} {x y : Int} {L : List Asr} (h : Sts H (pto a (.lst [V.int x, V.int y]) :: L)) : Sts H (pto a (.lst (List.map V.int [x, y])) :: L) := h
theorem gQ {K : PySem.W.Frag} {H : Hp} {a : Addr} {xs : List V} {L : List Asr} (h : Sts H (sqc K a xs :: L)) : Sts H (sqc K a xs :: L) := h
end Oc
theorem Oc.cutL_len {α : Type} (xs : List α) (lo hi : Option Int) : (Oc.cutL xs lo hi).length ≤ xs.length := by
  unfold Oc.cutL
  rw [List.length_take, List.length_drop]
  omega
theorem Oc.le_cut2 {α : Type} {xs ys : List α} {lo hi lo' hi' : Option Int} {n : Nat} (h : xs.length + ys.length ≤ n) : (Oc.cutL xs lo hi).length + (Oc.cutL ys lo' hi').length ≤ n := Nat.le_trans (Nat.add_le_add (Oc.cutL_len _ _ _) (Oc.cutL_len _ _ _)) h
namespace Oc
open PySem PySem.Spec PyProof.Rows L2
/-! ### dicts with int keys -/
section
variable {α : Type}
def dM (f : α → V) (ps : List (Int × α)) : List (Key × V) := ps.map fun p => (Sum.inl p.1, f p.2)
def getP (ps : List (Int × α)) (k : Int) : Option α := (ps.find? fun p => decide (p.1 = k)).map (·.2)
def putP (ps : List (Int × α)) (k : Int) (v : α) : List (Int × α) := if (ps.any fun p => decide (p.1 = k)) = true then ps.map (fun p => if p.1 = k then (p.1, v) else p) else ps ++ [(k, v)]
theorem keyeq (a b : Int) : decide ((Sum.inl a : Key) = Sum.inl b) = decide (a = b) := by
  by_cases h : a = b
  · rw [h, decide_eq_true rfl, decide_eq_true rfl]
  · rw [decide_eq_false h, decide_eq_false fun e => h (Sum.inl.inj e)]
theorem getP_pos {p : Int × α} {r : List (Int × α)} {k : Int} (e : p.1 = k) : getP (p :: r) k = some p.2 := by simp [getP, List.find?_cons, e]
theorem getP_neg {p : Int × α} {r : List (Int × α)} {k : Int} (e : ¬ p.1 = k) : getP (p :: r) k = getP r k := by simp [getP, List.find?_cons, e]
theorem valV_dM (f : α → V) (k : Int) : ∀ ps : List (Int × α), valV (dM f ps) (.inl k) = (getP ps k).map f
  | [] => rfl
  | p :: r => by
    by_cases e : p.1 = k
    · rw [getP_pos e]
      exact valV_pos (p := (Sum.inl p.1, f p.2)) (by rw [e])
    · rw [getP_neg e, ← valV_dM f k r]
      exact valV_neg (p := (Sum.inl p.1, f p.2)) (fun z => e (Sum.inl.inj z))
theorem putK_dM (f : α → V) (ps : List (Int × α)) (k : Int) (v : α) : putK (dM f ps) (.inl k) (f v) = dM f (putP ps k v) := by
  unfold putK putP
  have e : ((dM f ps).any fun kv => decide (kv.1 = Sum.inl k)) = ps.any fun p => decide (p.1 = k) := by
    unfold dM
    rw [List.any_map]
    congr 1
    funext p
    exact keyeq p.1 k
  rw [e]
  split
  · unfold dM
    rw [List.map_map, List.map_map]
    congr 1
    funext p
    show (if (Sum.inl p.1 : Key) = Sum.inl k then ((Sum.inl p.1 : Key), f v) else (Sum.inl p.1, f p.2)) = (Sum.inl (if p.1 = k then (p.1, v) else p).1, f (if p.1 = k then (p.1, v) else p).2)
    by_cases h : p.1 = k
    · rw [if_pos h, if_pos (by rw [h])]
    · rw [if_neg h, if_neg fun z => h (Sum.inl.inj z)]
  · unfold dM
    rw [List.map_append]
    rfl
theorem getP_any (k : Int) : ∀ ps : List (Int × α), (ps.any fun p => decide (p.1 = k)) = (getP ps k).isSome
  | [] => rfl
  | p :: r => by
    rw [List.any_cons]
    by_cases e : p.1 = k
    · rw [getP_pos e, decide_eq_true e]
      rfl
    · rw [getP_neg e, decide_eq_false e, Bool.false_or]
      exact getP_any k r
theorem getP_mem {k : Int} {v : α} : ∀ {ps : List (Int × α)}, getP ps k = some v → (k, v) ∈ ps
  | [], h => nomatch h
  | p :: r, h => by
    by_cases e : p.1 = k
    · rw [getP_pos e] at h
      cases h
      rw [← e]
      exact List.mem_cons_self
    · rw [getP_neg e] at h
      exact List.mem_cons_of_mem _ (getP_mem h)
theorem getP_none {k : Int} {ps : List (Int × α)} (h : getP ps k = none) : ∀ p ∈ ps, p.1 ≠ k := fun p hp e => by
  have z := getP_any k ps
  rw [h] at z
  exact absurd (decide_eq_true e) (by simpa using (List.any_eq_false.mp z p hp))
theorem keys_put (ps : List (Int × α)) (k : Int) (v : α) : (putP ps k v).map (·.1) = if (getP ps k).isSome = true then ps.map (·.1) else ps.map (·.1) ++ [k] := by
  unfold putP
  rw [getP_any]
  split
  · rw [List.map_map]
    congr 1
    funext p
    show (if p.1 = k then (p.1, v) else p).1 = p.1
    split <;> rfl
  · rw [List.map_append]
    rfl
theorem nodup_put {ps : List (Int × α)} {k : Int} {v : α} (h : (ps.map (·.1)).Nodup) : ((putP ps k v).map (·.1)).Nodup := by
  rw [keys_put]
  split
  · exact h
  · rename_i g
    refine List.nodup_append.mpr ⟨h, List.nodup_cons.mpr ⟨List.not_mem_nil, List.nodup_nil⟩, fun a ha b hb e => ?_⟩
    have hb : b = k := by simpa using hb
    obtain ⟨p, hp, ep⟩ := List.mem_map.mp ha
    refine getP_none (ps := ps) (k := k) ?_ p hp (by rw [ep, e, hb])
    cases q : getP ps k with
    | none => rfl
    | some _ => rw [q] at g; exact absurd rfl g
theorem key_put {ps : List (Int × α)} {k : Int} {v : α} {P : Int → Prop} (h : ∀ p ∈ ps, P p.1) (hk : P k) : ∀ p ∈ putP ps k v, P p.1 := fun p hp => by
  have e : p.1 ∈ (putP ps k v).map (·.1) := List.mem_map_of_mem hp
  rw [keys_put] at e
  split at e
  · obtain ⟨q, hq, eq⟩ := List.mem_map.mp e
    rw [← eq]
    exact h q hq
  · rcases List.mem_append.mp e with e | e
    · obtain ⟨q, hq, eq⟩ := List.mem_map.mp e
      rw [← eq]
      exact h q hq
    · have e : p.1 = k := by simpa using e
      rw [e]
      exact hk
/-- a weight over a dict of ints -/
def wS (g : Int → Int) (ps : List (Int × Int)) : Int := (ps.map fun p => p.2 * g p.1).sum
theorem wS_app (g : Int → Int) (ps qs : List (Int × Int)) : wS g (ps ++ qs) = wS g ps + wS g qs := by
  unfold wS
  rw [List.map_append, List.sum_append]
theorem wS_put (g : Int → Int) (k v : Int) : ∀ {ps : List (Int × Int)}, (ps.map (·.1)).Nodup → wS g (putP ps k v) = wS g ps + (v - (getP ps k).getD 0) * g k
  | [], _ => by
    show wS g [(k, v)] = wS g [] + (v - 0) * g k
    unfold wS
    simp
  | p :: r, h => by
    obtain ⟨h1, h2⟩ := List.nodup_cons.mp h
    by_cases e : p.1 = k
    · rw [getP_pos e]
      have hr : ∀ q ∈ r, q.1 ≠ k := fun q hq z => h1 (by show p.1 ∈ _; rw [e, ← z]; exact List.mem_map_of_mem (f := fun x : Int × Int => x.1) hq)
      have e1 : putP (p :: r) k v = (k, v) :: r := by
        unfold putP
        rw [List.any_cons, decide_eq_true e, Bool.true_or, if_pos rfl, List.map_cons, if_pos e, e]
        congr 1
        refine (List.map_congr_left fun q hq => ?_).trans (List.map_id r)
        rw [if_neg (hr q hq)]
        rfl
      rw [e1]
      show ((k, v) :: r |>.map fun p => p.2 * g p.1).sum = ((p :: r).map fun p => p.2 * g p.1).sum + _
      rw [List.map_cons, List.map_cons, List.sum_cons, List.sum_cons, e]
      show v * g k + _ = p.2 * g k + _ + (v - p.2) * g k
      rw [Int.sub_mul]
      omega
    · rw [getP_neg e]
      have ih := wS_put g k v (ps := r) h2
      have e1 : putP (p :: r) k v = p :: putP r k v := by
        unfold putP
        rw [List.any_cons, decide_eq_false e, Bool.false_or]
        split
        · rw [List.map_cons, if_neg e]
        · rfl
      rw [e1]
      have c1 : ∀ l : List (Int × Int), wS g (p :: l) = p.2 * g p.1 + wS g l := fun l => by
        unfold wS
        rw [List.map_cons, List.sum_cons]
      rw [c1, c1, ih]
      omega
end
theorem gD {α : Type} {f : α → V} {H : Hp} {a : Addr} {ps : List (Int × α)} {L : List Asr} (h : Sts H (pto a (.dK (dM f ps)) :: L)) : Sts H (pto a (.dK (dM f ps)) :: L) := h
theorem gD0 {α : Type} (f : α → V) {H : Hp} {a : Addr} {L : List Asr} (h : Sts H (pto a (.dK []) :: L)) : Sts H (pto a (.dK (dM f [])) :: L) := h
theorem gDx {H : Hp} {a : Addr} {kvs : List (Key × V)} {L : List Asr} (h : Sts H (pto a (.dK kvs) :: L)) : Sts H (pto a (.dK kvs) :: L) := h
def tGetD {α : Type} (f : α → V) (td ty tx : TE) : TE := fun σ H Q => td σ H fun x H1 => ∃ a, x = .ref a ∧ (∃ kvs L, Sts H1 (pto a (.dK kvs) :: L)) ∧ ty σ H1 fun y H2 => tx σ H2 fun z H3 =>
  ∃ k j, y = .int k ∧ z = f j ∧ ∃ ps L, Sts H3 (pto a (.dK (dM f ps)) :: L) ∧ Q (f ((getP ps k).getD j)) H3
section
variable {X : Cx} {o e g : Expr} {apos cpos pos p : Pos} {td ty tx : TE}
theorem oc_dget2 {α : Type} (f : α → V) (hu : X.A.units + 1 < cLine) (ho : PE X o td) (he : PE X e ty) (hg : PE X g tx) (m : M2 X o "get" apos e g cpos) : PE X (.Call (.Attribute o "get" apos) [e, g] [] cpos) (tGetD f td ty tx) := by
  refine ⟨fun pn s0 σ H Q J h => wpAny_Call_method m.base m.few m.line PySem.F.plainAttrs_dict PySem.F.slot_dict_get PySem.F.type_dict_get ?_⟩
  refine thn (ho.run pn s0 σ H _ J h) fun u s1 ⟨x, H1, J1, rx, a, ex, ⟨kvs, L, S⟩, q1⟩ => ?_
  subst ex
  obtain rfl : u = Value.ref a := rx
  obtain ⟨t1, t2, _⟩ := isD_at J1 (.inl ⟨kvs, .inl S.hd⟩)
  refine ⟨t1, t2, ?_⟩
  rw [m.trees]
  refine Calls.callWith_builtin rfl (Calls.evalArgs_plain (Calls.spliced_cons (thn (he.run pn s1 σ H1 _ J1 q1) fun iv s2 ⟨y, H2, J2, ry, q2⟩ => ?_)))
  refine Calls.spliced_cons (thn (hg.run pn s2 σ H2 _ J2 q2) fun fv s3 ⟨z, H3, J3, rz, k, j, ey, ez, ps, M, T, q3⟩ => Calls.spliced_nil ?_)
  subst ey ez
  refine d_get2 hu J3 (.inl ⟨dM f ps, .inl k, .inl T.hd, rfl, rfl⟩) ry rz fun w' s4 J4 rw' => ⟨_, H3, J4, ?_, q3⟩
  rw [valV_dM] at rw'
  cases q : getP ps k with
  | none =>
    rw [q] at rw'
    exact rw'
  | some v =>
    rw [q] at rw'
    exact rw'
theorem oc_setD {α : Type} (f : α → V) (hu : X.A.units + 1 < cLine) : PSet X (fun o i v H Q => ∃ p k, o = .ref p ∧ i = .int k ∧ ∃ j, v = f j ∧ ∃ ps L, Sts H (pto p (.dK (dM f ps)) :: L) ∧ ps.length ≤ 1000000 ∧
    ∀ H', Sts H' (pto p (.dK (dM f (putP ps k j))) :: L) → Q H') := by
  intro pn s0 σ H o i v ov iv u Q J ro ri rv ⟨p, k, eo, ei, j, ev, ps, L, S, hl, q⟩
  subst eo ei ev
  cases ro
  refine d_setItem hu J (.inl ⟨dM f ps, .inl k, S.hd, rfl, small (by unfold dM; rw [List.length_map]; exact hl), rfl⟩) ri rv fun s1 J1 => ⟨_, J1, q _ ?_⟩
  rw [putK_dM]
  exact S.put _
def tSumVals (td : TE) : TE := fun σ H Q => td σ H fun x H1 => ∃ a, x = .ref a ∧ ∃ ps L, Sts H1 (pto a (.dK (dM V.int ps)) :: L) ∧ Q (.int (ps.map (·.2)).sum) H1
theorem preS (f : Nat → Int) : ∀ (l : List Int) (n : Nat), (∀ i, l.getD i 0 = f (n + i)) → preSum f (n + l.length) = preSum f n + l.sum
  | [], n, _ => by simp
  | x :: l, n, h => by
    have h0 : x = f n := by simpa using h 0
    have ih := preS f l (n + 1) fun i => by
      have z := h (i + 1)
      rw [show n + 1 + i = n + (i + 1) by omega, ← z]
      rfl
    have e : preSum f (n + 1) = preSum f n + f n := rfl
    rw [List.length_cons, show n + (l.length + 1) = n + 1 + l.length by omega, ih, e, List.sum_cons, h0]
    omega
theorem oc_sumVals (hc : X.calm = true) (hg : Gl X "sum") (hm : X.mg "sum" = none) (hd : PE X o td) (hbase : attributeBase o "values" X.env (eval o X.env) = eval o X.env := by rfl) (hline : (apos.endLine == cpos.line) = true := by rfl)
    (hse : starEach [Expr.Call (.Attribute o "values" apos) [] [] cpos] X.env = [(false, eval (Expr.Call (.Attribute o "values" apos) [] [] cpos) X.env)] := by rfl) :
    PE X (.Call (.Name "sum" p) [.Call (.Attribute o "values" apos) [] [] cpos] [] pos) (tSumVals td) := by
  refine ⟨fun pn s0 σ H Q J h => wpAny_Call_Name_kw (ld_blt J hg hm (u := .builtin "sum") (by first | rfl | decide +kernel) ?_ (by first | decide +kernel | decide) (by first | decide +kernel | decide))⟩
  rw [hse]
  refine PySem.callWith_builtin1 (wpAny_Call_method0_late hbase hline (thn (hd.run pn s0 σ H _ J h) fun v s1 ⟨x, H1, J1, r1, a, ex, ps, L, S, q⟩ => ?_))
  subst ex
  obtain rfl : v = Value.ref a := r1
  obtain ⟨_, hsys, vs, rel, dof⟩ := dk_of J1.hok S.hd
  obtain ⟨ep, dat⟩ := dof.dictAt
  have dat' := dat
  obtain ⟨ob, es, ho, ex, hdat, hko, hpr, hnd⟩ := dat'
  refine ⟨"dict", "dict.values", F.plainAttrs_dict, F.slot_dict_values, F.type_dict_values, ⟨ob, ho, ex.1⟩, fun b e => ?_, Calls.callWith_builtin rfl (PySem.evalArgs_none ?_)⟩
  · cases e
    exact ⟨ob, ho, ex.2.1⟩
  refine call_meetsIn F.slot_dict_values ⟨ob, ho, ex.1⟩ F.entry_dict_values (F.args_dict_values_1 _) (meets_dict_values (mixKind X.prog X.w) a hsys) ⟨⟨vs, dof⟩, ?_⟩
  have k1 : ∀ b u, s1.heap.get? b = some u → (s1.heap.push { cls := .type "dict_values", data := .fields #[.ref a] }).get? b = some u := fun b u => Heap.get?_push_of_some _
  have dat1 := dat.keep k1
  have hlv : vs.length = ps.length := by
    have z := KV.length rel
    unfold dM at z
    rw [List.length_map] at z
    exact z.symm
  have hval : ∀ (i : Nat) (v : Value), (∃ k, vs[i]? = some (k, v)) → ∃ t, v = Value.int ((ps.map (·.2)).getD i 0) t := fun i v ⟨k, hk⟩ => by
    obtain ⟨x, h1, h2⟩ := KV.at' rel hk
    unfold dM at h1
    rw [List.getElem?_map] at h1
    obtain ⟨j, hj, e2⟩ := Option.map_eq_some_iff.mp h1
    have e3 : x = V.int j.2 := (congrArg Prod.snd e2).symm
    subst e3
    obtain ⟨t, e4⟩ := h2
    exact ⟨t, by rw [e4, List.getD_eq_getElem?_getD, List.getElem?_map, hj]; rfl⟩
  refine call_sum_walkG (wpAny_pyIter_values (v := s1.heap.objs.size) (d := a) ⟨_, Heap.get?_push_size _ rfl, rfl, rfl⟩ dat1 ?_)
  have hlt : a < s1.heap.objs.size := Heap.lt_size ho
  have hsz : (s1.heap.push { cls := .type "dict_values", data := .fields #[.ref a] }).objs.size = s1.heap.objs.size + 1 := Heap.size_push _ _
  refine ⟨_, _, _, _, _, _, _, rfl, Walks.dictValues (knd := mixKind X.prog X.w) (A := X.A.in1) (J.ok.hd hc) (s1.heap.push { cls := .type "dict_values", data := .fields #[.ref a] }).objs.size a (by rw [hsz]; exact Nat.ne_of_lt (Nat.lt_succ_of_lt hlt)) vs ep,
    ⟨⟨_, Heap.get?_push_size _ rfl, rfl, rfl⟩, dat1.keep fun b u e => Heap.get?_push_of_some _ e⟩, fun b hb => ?_, hval, fun h' tk t' hk => ?_⟩
  · show b < ((s1.heap.push _).push _).objs.size
    rw [Heap.size_push, Heap.size_push]
    rw [hsz] at hb
    have l1 := Nat.lt_succ_of_lt hlt
    refine (List.mem_cons.mp hb).elim (fun e => e ▸ Nat.lt_succ_self _) fun hb => ?_
    rw [show b = a from List.mem_singleton.mp hb]
    exact Nat.lt_succ_of_lt l1
  · have es : preSum (fun i => (ps.map (·.2)).getD i 0) vs.length = (ps.map (·.2)).sum := by
      have z := preS (fun i => (ps.map (·.2)).getD i 0) (ps.map (·.2)) 0 fun i => by rw [Nat.zero_add]
      have z0 : preSum (fun i => (ps.map (·.2)).getD i 0) 0 = 0 := rfl
      rw [Nat.zero_add, List.length_map, z0, Int.zero_add] at z
      rw [hlv]
      exact z
    rw [es]
    refine ⟨.int _, H1, J1.kept (t' := tk) fun b u e => hk b u (fun hmem => ?_) (Heap.get?_push_of_some _ (k1 b u e)), ⟨t', rfl⟩, q⟩
    have e1 := List.mem_singleton.mp hmem
    have e2 := Heap.lt_size e
    rw [e1, hsz] at e2
    exact Nat.lt_irrefl _ (Nat.lt_of_succ_lt e2)
/-- a statement that runs while a dict or list is locked -/
def tLockO (t : TS) : TS := fun D σ H => ∃ d u L, Sts H (pto d u :: L) ∧ Mut (some u) ∧ ∀ od H1, Sts H1 (pto d (.frz od u) :: L) → t
  ⟨fun σ' H' => ∃ M, Sts H' (pto d (.frz od u) :: M) ∧ ∀ H2, Sts H2 (pto d u :: M) → D.nx σ' H2, fun v H' => ∃ M, Sts H' (pto d (.frz od u) :: M) ∧ ∀ H2, Sts H2 (pto d u :: M) → D.rt v H2,
   fun σ' H' => ∃ M, Sts H' (pto d (.frz od u) :: M) ∧ ∀ H2, Sts H2 (pto d u :: M) → D.bk σ' H2, fun σ' H' => ∃ M, Sts H' (pto d (.frz od u) :: M) ∧ ∀ H2, Sts H2 (pto d u :: M) → D.ct σ' H2⟩ σ H1
theorem oc_lock {st : Stmt} {t : TS} (h : PS X st t) : PS X st (tLockO t) := by
  refine ⟨fun pn s0 σ H D J ⟨d, u, L, S, mu, hw⟩ => ?_⟩
  obtain ⟨od, J1⟩ := J.lock S.hd mu
  refine thn (h.run pn s0 σ _ _ J1 (hw od _ (S.put _))) fun f s1 q => ?_
  cases f with
  | next =>
    obtain ⟨σ', H', J2, M, S2, q⟩ := q
    exact ⟨σ', _, J2.unlock S2.hd (J.nofrz S.hd mu), q _ (S2.put u S.hdT)⟩
  | brk =>
    obtain ⟨σ', H', J2, M, S2, q⟩ := q
    exact ⟨σ', _, J2.unlock S2.hd (J.nofrz S.hd mu), q _ (S2.put u S.hdT)⟩
  | cont =>
    obtain ⟨σ', H', J2, M, S2, q⟩ := q
    exact ⟨σ', _, J2.unlock S2.hd (J.nofrz S.hd mu), q _ (S2.put u S.hdT)⟩
  | ret v =>
    obtain ⟨x, σ', H', J2, r, M, S2, q⟩ := q
    exact ⟨x, σ', _, J2.unlock S2.hd (J.nofrz S.hd mu), r, q _ (S2.put u S.hdT)⟩
end
/-- for k, v in d.items() -/
theorem for_items {α : Type} {f : α → V} {d : Addr} {od : Obj} {g : TG} {tb : TS} {D : Ends} {σ : L2.St} {H : Hp} (ps : List (Int × α)) (Pv : Nat → L2.St → Hp → Prop) (h0 : Pv 0 σ H) (hl : ∀ i σ H, Pv i σ H → ∃ L, Sts H (pto d (.frz od (.dK (dM f ps))) :: L))
    (hs : ∀ i k v T σ H H', ps[i]? = some (k, v) → Pv i σ H → H T = none → upd H T (.tup [.int k, f v]) = H' → g (.ref T) σ H' fun σ2 H2 => tb { D with nx := Pv (i + 1), ct := Pv (i + 1), bk := D.nx } σ2 H2) (hd : ∀ σ H, Pv ps.length σ H → D.nx σ H) :
    ∃ W : Nat → Nat → L2.St → Hp → Prop, (∃ m, W 0 m σ H) ∧ ∀ i m σ H, W i m σ H →
      ((Iti d od (dM f ps)).stop i H ∧ D.nx σ H) ∨ ((Iti d od (dM f ps)).go i H ∧ ∃ N : L2.St → Hp → Prop, (∀ σ' H', N σ' H' → ∃ m', m' < m ∧ W (i + 1) m' σ' H') ∧ ∀ x H', (Iti d od (dM f ps)).yld i H x H' → g x σ H' fun σ2 H2 => tb { D with nx := N, ct := N, bk := D.nx } σ2 H2) := by
  have el : (dM f ps).length = ps.length := by
    unfold dM
    rw [List.length_map]
  refine oc_for (n := ps.length) Pv h0 (fun i σ H hi p => ?_) (fun σ H p => ?_) (fun i x σ H H' hi p y => ?_) hd
  · obtain ⟨L, S⟩ := hl i σ H p
    exact ⟨S.hd, by rw [el]; exact hi⟩
  · obtain ⟨L, S⟩ := hl _ σ H p
    exact ⟨S.hd, by rw [el]; exact Nat.le_refl _⟩
  · obtain ⟨T, k, v, h1, h2, h3, h4⟩ := y
    unfold dM at h1
    rw [List.getElem?_map] at h1
    obtain ⟨j, hj, e⟩ := Option.map_eq_some_iff.mp h1
    cases e
    rw [h2]
    exact hs i j.1 j.2 T σ H H' hj p h3 h4.symm
end Oc
namespace Oc
open PySem PySem.Spec PyProof.Rows L2
theorem atI_last2 (l : List Int) (i j : Int) : atI ((l ++ [i, j]).map V.int) (-2) = some (.int i) := by
  have hl : ((l ++ [i, j]).map V.int).length = l.length + 2 := by simp
  unfold atI ixN
  rw [hl, if_neg (by decide), if_pos (by omega)]
  show ((l ++ [i, j]).map V.int)[(-2 + ((l.length + 2 : Nat) : Int)).toNat]? = _
  rw [show (-2 + ((l.length + 2 : Nat) : Int)).toNat = l.length by omega]
  simp
/-- xs[-2], a list of ints that ends with i, j -/
theorem oc_ixLast2 {X : Cx} {K : PySem.W.Frag} (hK : X.K = K) : IxR X (fun x y H Q => ∃ p, ∃ ns : List Int, x = .ref p ∧ y = .int (-2) ∧ SqL K H p (ns.map V.int) ∧ ∃ l i j, ns = l ++ [i, j] ∧ Q (.int i) H) := fun va sl pins s σ H x y v u Q I rx ry ⟨p, ns, e1, e2, h, l, i, j, b, q⟩ hs =>
  ix_list va sl pins s σ H x y v u Q I rx ry ⟨p, _, -2, .int i, e1, e2, hK ▸ h, by
    rw [b]
    exact atI_last2 l i j, q⟩ hs
theorem hI7 {H : Hp} {a : Addr} {x y z u v w t : Int} (h : H a = some (.lst [V.int x, V.int y, V.int z, V.int u, V.int v, V.int w, V.int t])) : H a = some (.lst (List.map V.int [x, y, z, u, v, w, t])) := h
theorem hI4 {H : Hp} {a : Addr} {x y z u : Int} (h : H a = some (.lst [V.int x, V.int y, V.int z, V.int u])) : H a = some (.lst (List.map V.int [x, y, z, u])) := h
theorem lc_BI {K : PySem.W.Frag} {a : Addr} {k : Nat} {te : TE} {vs : List Nat} {σ : L2.St} {H0 : Hp} {Qd : Hp → Prop} {L : List Asr} {D : Addr} (ns : List Int) (f : Int → Bool) (S : Sts H0 (pto D (.lst []) :: L)) (hsq : ∀ H, Sts H L → SqL K H a (ns.map V.int)) (hl : ns.length ≤ 1000000)
    (hw : ∀ x, wipe ((wipe σ vs).set k (some x)) vs = wipe σ vs) (he : ∀ (x : Int) (H : Hp) (Q' : VK), x ∈ ns → Sts H L → Q' (.bl (f x)) H → te ((wipe σ vs).set k (some (.int x))) H Q')
    (hd : ∀ H, Sts H (pto D (.lst ((ns.map f).map V.bl)) :: L) → Qd H) :
    ∃ W : Nat → Nat → Hp → Prop, (∃ m, W 0 m H0) ∧ ∀ i m H, W i m H →
      ((Itl K a).stop i H ∧ Qd H) ∨ ((Itl K a).go i H ∧ ∃ Nx : Hp → Prop, (∀ H', Nx H' → ∃ m', m' < m ∧ W (i + 1) m' H') ∧ ∀ x H', (Itl K a).yld i H x H' → gName k x (wipe σ vs) H' fun σ2 H2 => wipe σ2 vs = wipe σ vs ∧ tYes σ2 H2 fun b H3 =>
        if b = true then te σ2 H3 fun y H4 => ∃ acc, H4 D = some (.lst acc) ∧ acc.length < sizeLine ∧ Nx (upd H4 D (.lst (acc ++ [y]))) else Nx H3) :=
  lc_pureI ns (fun x => .bl (f x)) S hsq hl hw he (fun H S => hd H (by rw [List.map_map]; exact S))
theorem all_yes (ns : List Int) : (ns.map fun _ => true).all id = true := by simp
theorem deq {α : Type} [DecidableEq α] (a : α) : decide (a = a) = true := decide_eq_true rfl
/-- int(b), in facts -/
theorem oc_int_bA {X : Cx} : CallR X (.type "int") (fun xs H Q => ∃ k, xs = [.bl k] ∧ ∀ o : Int, 0 ≤ o → o ≤ 1 → (o = 1 ↔ k = true) → Q (.int o) H) := fun pins s σ H xs us Q I r ⟨k, e, q⟩ =>
  call_int1 pins s σ H xs us Q I r (.inr ⟨k, e, q _ (by cases k <;> decide) (by cases k <;> decide) (by cases k <;> decide)⟩)
theorem gI_get {L : List Int} {k : Int} (h0 : 0 ≤ k) (h1 : k < L.length) : L[k.toNat]? = some (gI L k) := by
  have h : k.toNat < L.length := by omega
  rw [List.getElem?_eq_getElem h]
  unfold gI
  rw [List.getD_eq_getElem?_getD, List.getElem?_eq_getElem h]
  rfl
theorem rep0 (k : Nat) (x : Int) : (List.replicate k [x]).flatten = List.replicate k x := by
  induction k with
  | zero => rfl
  | succ k ih => rw [List.replicate_succ, List.flatten_cons, ih, List.replicate_succ]; rfl
end Oc
namespace Oc
open PySem PySem.Spec PyProof.Rows L2
theorem in_ints (i : Int) : ∀ ns : List Int, inV (.int i) (ns.map V.int) = decide (i ∈ ns)
  | [] => rfl
  | n :: ns => by
    have ih := in_ints i ns
    have e : inV (.int i) ((n :: ns).map V.int) = (eqV (.int n) (.int i) || inV (.int i) (ns.map V.int)) := rfl
    rw [e, ih]
    have e2 : eqV (.int n) (.int i) = decide (i = n) := by
      show (n == i) = decide (i = n)
      by_cases h : i = n
      · rw [h, decide_eq_true rfl]
        exact beq_self_eq_true n
      · rw [decide_eq_false h]
        exact beq_eq_false_iff_ne.mpr fun e => h e.symm
    rw [e2]
    by_cases h1 : i = n <;> by_cases h2 : i ∈ ns <;> simp [h1, h2]
theorem flat_ints : ∀ ns : List Int, (ns.map V.int).all flatV = true
  | [] => rfl
  | n :: ns => by
    rw [List.map_cons, List.all_cons, flat_ints ns]
    rfl
theorem oc_in_ints {X : Cx} {K : PySem.W.Frag} (hK : X.K = K) : OpR X (compareOp .In) (fun x y H Q => ∃ i p, ∃ ns : List Int, x = .int i ∧ y = .ref p ∧ SqL K H p (ns.map V.int) ∧ Q (.bl (decide (i ∈ ns))) H) := fun pins s σ H x y v u Q I rx ry ⟨i, p, ns, e1, e2, h, q⟩ =>
  op_in_seq pins s σ H x y v u Q I rx ry ⟨p, _, e2, .inl (hK ▸ h), by rw [e1]; rfl, flat_ints ns, by rw [e1, in_ints]; exact q⟩
theorem oc_and1 {X : Cx} : OpR X (binaryOp .BitAnd) (fun x y H Q => ∃ i, x = .int i ∧ y = .int 1 ∧ Q (.int (i % 2)) H) := fun pins s σ H x y v u Q I rx ry ⟨i, e1, e2, q⟩ =>
  op_and pins s σ H x y v u Q I rx ry ⟨i, 1, e1, e2, by
    show Q (.int (Builtin.bitAnd i 1)) H
    rw [PyProof.Rows.bitAnd_m1]
    exact q⟩
/-- list(range(i, j, c)) -/
def tLstRg3 (ta : TA) : TE := fun σ H Q => ta σ H fun vs H1 => ∃ (i j c : Int) (n : Nat), vs = [.int i, .int j, .int c] ∧ RgC i j c n ∧ n ≤ 1000000 ∧ ∀ q, H1 q = none → Q (.ref q) (upd H1 q (.lst (((List.range n).map fun k => i + (k : Nat) * c).map V.int)))
theorem oc_listRg3 {X : Cx} {a b c : Expr} {ta : TA} {p p2 pos pos2 : Pos} (hc : X.calm = true) (hg : Gl X "list") (hm : X.mg "list" = none) (hg2 : Gl X "range") (hm2 : X.mg "range" = none) (ha : PA X [a, b, c] ta)
    (na : starEach [Expr.Call (.Name "range" p2) [a, b, c] [] pos2] X.env = (false, eval (Expr.Call (.Name "range" p2) [a, b, c] [] pos2) X.env) :: starEach [] X.env := by rfl)
    (hs : starEach [a, b, c] X.env = (false, eval a X.env) :: starEach [b, c] X.env := by rfl) (hpl : (backTo pos2 (starEach [b, c] X.env)).any (·.1) = false := by rfl) :
    PE X (.Call (.Name "list" p) [.Call (.Name "range" p2) [a, b, c] [] pos2] [] pos) (tLstRg3 ta) := by
  refine ⟨fun pn s0 σ H Q J h => Call_ (ld_blt J hg hm boot_list (PyProof.Rows.callWith_type1 (args_cons ?_ na) na))⟩
  refine Call_ (ld_blt J hg2 hm2 boot_range (PyProof.Rows.callWith_type1 (thn (ha.run pos2 pn s0 σ H _ J h) fun us s1 ⟨vs, H1, J1, r1, i, j, k, n, e, ⟨c0, c1, c2, c3⟩, nl, q⟩ => ?_) hs hpl))
  subst e
  cases r1 with
  | cons r rr =>
    cases rr with
    | cons r' rr =>
      cases rr with
      | cons r'' rr =>
        cases rr
        obtain ⟨t, rfl⟩ := r
        obtain ⟨t', rfl⟩ := r'
        obtain ⟨t'', rfl⟩ := r''
        refine call_range_3 c0 (args_nil ?_) (.inl (PyProof.noPylong_small c1))
        have J2 : Inv X pn σ H1 { s1 with heap := s1.heap.push { cls := .type "range", data := .fields #[.int i t, .int j t', .int k t''] } } := J1.kept (t' := s1.toks) fun b o => Heap.get?_push_of_some _
        refine call_list_range (n := n) (J2.ok.hd hc) (IsRange.new ..) c2 c3 (by omega) fun h' tk acc ck hk e' hi => ?_
        have hv : Vals (((List.range n).map fun x => i + (x : Nat) * k).map V.int) acc.toList := by
          have el : acc.toList.length = n := by rw [Array.length_toList]; exact hi.1
          rw [← el, List.map_map]
          refine vals_of_get acc.toList _ fun x u hx => ?_
          obtain ⟨t, rfl⟩ := hi.2 x u (by rw [← hx, Array.getElem?_toList])
          exact ⟨t, rfl⟩
        refine ⟨.ref _, upd H1 _ (.lst (((List.range n).map fun x => i + (x : Nat) * k).map V.int)), J2.laid hk (Nat.le_refl _) (show ObjOk X.prog X.w _ _ _ (.lst (((List.range n).map fun x => i + (x : Nat) * k).map V.int)) from ⟨?_, acc.toList, ck, hv, ?_⟩), rfl, q _ (J2.hok.fresh (Nat.le_refl _))⟩
        · rw [List.length_map, List.length_map, List.length_range, sizeLine_eq]
          omega
        · rw [Array.toArray_toList]
          exact e'
theorem rgc_down {f g w : Nat} (hw : 1 ≤ w) (hw2 : w ≤ 1000) (hl : f + (g + 1) * w ≤ 1000000) : RgC ((f + (g + 1) * w : Nat) : Int) f (-(w : Int)) (g + 1) := by
  have m2 : (g + 1) * w = g * w + w := Nat.succ_mul g w
  have e : Builtin.Range.rangeSize ((f + (g + 1) * w : Nat) : Int) f (-(w : Int)) = ((g + 1 : Nat) : Int) := by
    unfold Builtin.Range.rangeSize
    rw [if_neg (by omega), if_pos (by omega), Int.neg_neg]
    have e1 : ((f + (g + 1) * w : Nat) : Int) - f - 1 = ((g * w + (w - 1) : Nat) : Int) := by omega
    have e2 : (((g * w + (w - 1) : Nat) : Int) / (w : Int)) = ((g : Nat) : Int) := by
      rw [← Int.natCast_ediv, Nat.add_comm, Nat.add_mul_div_right _ _ (by omega), Nat.div_eq_of_lt (by omega), Nat.zero_add]
    rw [e1, e2]
    rfl
  refine ⟨by omega, by omega, ?_, e⟩
  unfold Builtin.Range.small Builtin.Range.rangeFitsLong
  have gl : g + 1 ≤ 1000000 := by
    have := Nat.mul_le_mul_left (g + 1) hw
    omega
  rw [e, if_neg (by omega)]
  simp only [Bool.and_eq_true, Bool.or_eq_true, decide_eq_true_eq, beq_iff_eq]
  omega
/-- any, all over a range's turns -/
theorem lc_RB {lo : Int} {n : Nat} {k : Nat} {te : TE} {vs : List Nat} {σ : L2.St} {H0 : Hp} {Qd : Hp → Prop} {L : List Asr} {D : Addr} (f : Int → Bool) (S : Sts H0 (pto D (.lst []) :: L)) (hl : n ≤ 1000000)
    (hw : ∀ x, wipe ((wipe σ vs).set k (some x)) vs = wipe σ vs) (he : ∀ (i : Nat) (H : Hp) (Q' : VK), i < n → Sts H L → Q' (.bl (f (lo + i))) H → te ((wipe σ vs).set k (some (.int (lo + i)))) H Q')
    (hd : ∀ H, Sts H (pto D (.lst (((List.range n).map fun i => f (lo + (i : Nat))).map V.bl)) :: L) → Qd H) :
    ∃ W : Nat → Nat → Hp → Prop, (∃ m, W 0 m H0) ∧ ∀ i m H, W i m H →
      ((Itr lo n).stop i H ∧ Qd H) ∨ ((Itr lo n).go i H ∧ ∃ Nx : Hp → Prop, (∀ H', Nx H' → ∃ m', m' < m ∧ W (i + 1) m' H') ∧ ∀ x H', (Itr lo n).yld i H x H' → gName k x (wipe σ vs) H' fun σ2 H2 => wipe σ2 vs = wipe σ vs ∧ tYes σ2 H2 fun b H3 =>
        if b = true then te σ2 H3 fun y H4 => ∃ acc, H4 D = some (.lst acc) ∧ acc.length < sizeLine ∧ Nx (upd H4 D (.lst (acc ++ [y]))) else Nx H3) :=
  lc_pureR (fun x => .bl (f x)) S hl hw he (fun H S => hd H (by rw [List.map_map]; exact S))
end Oc
namespace Oc
open PySem L2
section
variable {p : Prop} [Decidable p] {A B : Prop} {a b : Int}
theorem idT (h : p) (k : A) : if decide p = true then A else B := ifT (dt h) k
theorem idF (h : ¬ p) (k : B) : if decide p = true then A else B := ifF (df h) k
theorem inT (h : ¬ p) (k : A) : if (!decide p) = true then A else B := ifT (nt h) k
theorem inF (h : p) (k : B) : if (!decide p) = true then A else B := ifF (nd h) k
theorem ivT (h : a = b) (k : A) : if decide (V.int a = V.int b) = true then A else B := ifT (dt (congrArg V.int h)) k
theorem ivF (h : a ≠ b) (k : B) : if decide (V.int a = V.int b) = true then A else B := ifF (df fun e => h (V.int.inj e)) k
theorem iwT (h : a ≠ b) (k : A) : if (!decide (V.int a = V.int b)) = true then A else B := ifT (nt fun e => h (V.int.inj e)) k
theorem iwF (h : a = b) (k : B) : if (!decide (V.int a = V.int b)) = true then A else B := ifF (nd (congrArg V.int h)) k
end
end Oc
theorem Oc.gLL {H : L2.Hp} {a b : PySem.Addr} {ns ms : List Int} {L : List Oc.Asr} (h : Oc.Sts H (Oc.pto a (.lst (ns.map L2.V.int)) :: Oc.pto b (.lst (ms.map L2.V.int)) :: L)) : Oc.Sts H (Oc.pto a (.lst (ns.map L2.V.int)) :: Oc.pto b (.lst (ms.map L2.V.int)) :: L) := h
/-! ### readings with names of their own, a lemma for each step -/
namespace Oc
open PySem PySem.Spec PyProof.Rows L2
section
variable {K : PySem.W.Frag} {σ σ' : L2.St} {H : Hp} {Q : VK} {D : Ends} {i j : Int} {a b p : Addr} {v x y : V} {vs us : List V} {L : List Asr} {ns ms : List Int} {xs ys : List V}
/-! structure -/
def tCallX (sp : Sp) (t : TA) : TE := fun σ H Q => t σ H fun vs H1 => sp vs H1 Q E0
def qNew (H : Hp) (o : HO) (Q : VK) : Prop := ∀ p, H p = none → Q (.ref p) (upd H p o)
theorem g_new {o : HO} (S : Sts H L) (ho : isT o = false) (k : ∀ p H', Sts H' (pto p o :: L) → Q (.ref p) H') : qNew H o Q := fun p np => k p _ (S.new o np ho)
theorem g_newT {τ : Tmap} (S : Sts H (im τ :: L)) (k : ∀ p H' υ, Le τ υ → υ p = some vs → Sts H' (im υ :: L) → Q (.ref p) H') : qNew H (.tup vs) Q := fun p np => by
  obtain ⟨υ, l, e, S2⟩ := S.newT vs np
  exact k p _ υ l e S2
theorem g_newT0 (S : Sts H L) (k : ∀ p H', Sts H' L → Q (.ref p) H') : qNew H (.tup vs) Q := fun p np => k p _ (S.newT0 vs np)
theorem g_dnewT (k : qNew H (.dT []) Q) : tDNewT σ H Q := k
theorem g_dnewK (k : qNew H (.dK []) Q) : tDNewK σ H Q := k
theorem g_var {n : Nat} (h : σ[n]? = some (some v)) (k : Q v H) : tVar n σ H Q := ⟨v, h, k⟩
theorem g_c (k : Q v H) : tC v σ H Q := k
section
variable {t u : TS} {te ta tb tc : TE} {c d : TT} {g : TG} {gs : TGs} {tr : TA} {RB : Bool → Hp → Prop}
theorem g_nx {n : L2.St → Hp → Prop} {r : VK} {b c : L2.St → Hp → Prop} (k : n σ H) : (Ends.mk n r b c).nx σ H := k
theorem g_rt {n : L2.St → Hp → Prop} {r : VK} {b c : L2.St → Hp → Prop} (k : r v H) : (Ends.mk n r b c).rt v H := k
theorem g_seq (k : t { D with nx := u D } σ H) : tSeq t u D σ H := k
theorem g_next (k : D.nx σ H) : tNext D σ H := k
theorem g_brk (k : D.bk σ H) : tBreak D σ H := k
theorem g_cont (k : D.ct σ H) : tCont D σ H := k
theorem g_drop (k : te σ H fun _ H1 => D.nx σ H1) : tDrop te D σ H := k
theorem g_ret (k : te σ H D.rt) : tRet te D σ H := k
theorem g_retN (k : D.rt .non H) : tRetN D σ H := k
theorem g_ifS (k : c σ H fun b H1 => if b = true then t D σ H1 else u D σ H1) : tIfS c t u D σ H := k
theorem g_asg (k : te σ H fun x H1 => g x σ H1 D.nx) : tAsg te g D σ H := k
theorem g_aug {n : Nat} {ti : TIp} (h : σ[n]? = some (some x)) (k : te σ H fun y H1 => ti x y H1 fun z H2 => gName n z σ H2 D.nx) : tAug n te ti D σ H := ⟨x, h, k⟩
theorem g_ipI {f : Int → Int → Int} (k : Q (.int (f i j)) H) : ipI f (.int i) (.int j) H Q := ⟨i, j, rfl, rfl, k⟩
def kBl (Q : Bool → Hp → Prop) : VK := fun x H => ∃ k, x = .bl k ∧ Q k H
theorem g_bl {c : Bool} (k : RB c H) : kBl RB (.bl c) H := ⟨c, rfl, k⟩
theorem g_test (k : te σ H (kBl RB)) : tTest te σ H RB := k
theorem g_tB (k : te σ H (kBl RB)) : tB te σ H RB := k
theorem g_not (k : c σ H fun b H1 => RB (!b) H1) : tNot c σ H RB := k
theorem g_and (k : c σ H fun b H1 => if b = true then d σ H1 RB else RB false H1) : tAnd c d σ H RB := k
theorem g_or (k : c σ H fun b H1 => if b = true then RB true H1 else d σ H1 RB) : tOr c d σ H RB := k
def kAndV (tb : TE) (σ : L2.St) (Q : VK) : VK := fun x H => ∃ c, x = .bl c ∧ if c = true then tb σ H Q else Q (.bl false) H
def kOrV (tb : TE) (σ : L2.St) (Q : VK) : VK := fun x H => ∃ c, x = .bl c ∧ if c = true then Q (.bl true) H else tb σ H Q
def kNotV (Q : VK) : VK := fun x H => ∃ c, x = .bl c ∧ Q (.bl (!c)) H
theorem g_andV (k : ta σ H (kAndV tb σ Q)) : tAndV ta tb σ H Q := k
theorem g_orV (k : ta σ H (kOrV tb σ Q)) : tOrV ta tb σ H Q := k
theorem g_notV (k : ta σ H (kNotV Q)) : tNotV ta σ H Q := k
theorem g_kAndV {c : Bool} (k : if c = true then tb σ H Q else Q (.bl false) H) : kAndV tb σ Q (.bl c) H := ⟨c, rfl, k⟩
theorem g_kOrV {c : Bool} (k : if c = true then Q (.bl true) H else tb σ H Q) : kOrV tb σ Q (.bl c) H := ⟨c, rfl, k⟩
theorem g_kNotV {c : Bool} (k : Q (.bl (!c)) H) : kNotV Q (.bl c) H := ⟨c, rfl, k⟩
theorem g_if (k : c σ H fun b H1 => if b = true then ta σ H1 Q else tb σ H1 Q) : tIf c ta tb σ H Q := k
def kChain (r : R2) (y : V) (tc : TE) (σ : L2.St) (Q : VK) : VK := fun z H => ∃ k, z = .bl k ∧ (if k = true then tc σ H fun w' H4 => r y w' H4 Q else Q (.bl false) H)
theorem g_chain {r r' : R2} (k : ta σ H fun x H1 => tb σ H1 fun y H2 => r x y H2 (kChain r' y tc σ Q)) : tChain r r' ta tb tc σ H Q := k
theorem g_kChain {r : R2} {c : Bool} (k : if c = true then tc σ H fun w' H4 => r y w' H4 Q else Q (.bl false) H) : kChain r y tc σ Q (.bl c) H := ⟨c, rfl, k⟩
theorem g_cons {R : List V → Hp → Prop} (k : ta σ H fun x H1 => tr σ H1 fun xs H2 => R (x :: xs) H2) : tCons ta tr σ H R := k
theorem g_nil {R : List V → Hp → Prop} (k : R [] H) : tNil σ H R := k
theorem g_op {r : R2} (k : ta σ H fun x H1 => tb σ H1 fun y H2 => r x y H2 Q) : tOp r ta tb σ H Q := k
theorem g_un {r : V → Hp → VK → Prop} (k : ta σ H fun x H1 => r x H1 Q) : tUn r ta σ H Q := k
theorem g_cb {r : List V → Hp → VK → Prop} (k : tr σ H fun vs H1 => r vs H1 Q) : tCB r tr σ H Q := k
theorem g_call {sp : Sp} {dvs : List V} {E : XK} (k : tr σ H fun vs H1 => sp (vs ++ dvs) H1 Q E) : tCall sp dvs E tr σ H Q := k
theorem g_callX {sp : Sp} (k : tr σ H fun vs H1 => sp vs H1 Q E0) : tCallX sp tr σ H Q := k
theorem g_callS {sp : Sp} {E : L2.St → XK} (k : tr σ H fun vs H1 => sp vs H1 Q (E σ)) : tCallS sp E tr σ H Q := k
def kBM (K : PySem.W.Frag) (T : String) (r : V → List V → Hp → VK → Prop) (t : TA) (σ : L2.St) (Q : VK) : VK := fun x H1 => tyV K T x H1 ∧ t σ H1 fun xs H2 => r x xs H2 Q
theorem g_bm {T : String} {r : V → List V → Hp → VK → Prop} (k : ta σ H (kBM K T r tr σ Q)) : tBM K T r ta tr σ H Q := k
theorem g_kBML {r : V → List V → Hp → VK → Prop} (h : SqL K H a xs) (k : tr σ H fun vs H2 => r (.ref a) vs H2 Q) : kBM K "list" r tr σ Q (.ref a) H := ⟨.inl ⟨rfl, _, h⟩, k⟩
theorem g_kBMS {r : V → List V → Hp → VK → Prop} {z : Str} (k : tr σ H fun vs H2 => r (.str z) vs H2 Q) : kBM K "str" r tr σ Q (.str z) H := ⟨rfl, k⟩
def kBM0 (K : PySem.W.Frag) (T : String) (r : V → List V → Hp → VK → Prop) (Q : VK) : VK := fun x H1 => tyV K T x H1 ∧ r x [] H1 Q
theorem g_bm0 {T : String} {r : V → List V → Hp → VK → Prop} (k : ta σ H (kBM0 K T r Q)) : tBM0 K T r ta σ H Q := k
theorem g_kBM0L {r : V → List V → Hp → VK → Prop} (h : SqL K H a xs) (k : r (.ref a) [] H Q) : kBM0 K "list" r Q (.ref a) H := ⟨.inl ⟨rfl, _, h⟩, k⟩
def kLst (Q : VK) (xs : List V) (H : Hp) : Prop := xs.length ≤ sizeLine ∧ qNew H (.lst xs) Q
def kTup (Q : VK) (xs : List V) (H : Hp) : Prop := xs.length ≤ sizeLine ∧ qNew H (.tup xs) Q
theorem g_lst (k : tr σ H (kLst Q)) : tLst tr σ H Q := k
theorem g_tup (k : tr σ H (kTup Q)) : tTup tr σ H Q := k
theorem g_kLst (h : xs.length ≤ sizeLine) (k : qNew H (.lst xs) Q) : kLst Q xs H := ⟨h, k⟩
theorem g_kTup (h : xs.length ≤ sizeLine) (k : qNew H (.tup xs) Q) : kTup Q xs H := ⟨h, k⟩
def kPart (Q : Option Int → Hp → Prop) : VK := fun x H => ∃ i, x = .int i ∧ Q (some i) H
theorem g_sl {r : V → Option Int → Option Int → Hp → VK → Prop} {tl th : TO} (k : te σ H fun x H1 => tl σ H1 fun l H2 => th σ H2 fun u H3 => r x l u H3 Q) : tSl r te tl th σ H Q := k
theorem g_noPart {R : Option Int → Hp → Prop} (k : R none H) : tNoPart σ H R := k
theorem g_part {R : Option Int → Hp → Prop} (k : te σ H (kPart R)) : tPart te σ H R := k
theorem g_kPart {R : Option Int → Hp → Prop} (k : R (some i) H) : kPart R (.int i) H := ⟨i, rfl, k⟩
theorem g_gsub {to ti : TE} {ts : TSet} {R : L2.St → Hp → Prop} (k : to σ H fun o H1 => ti σ H1 fun i H2 => ts o i v H2 fun H3 => R σ H3) : gSub to ti ts v σ H R := k
theorem g_gtup {n : Nat} {R : L2.St → Hp → Prop} (h : SqT K H a xs) (e : xs.length = n) (k : gs xs σ H R) : gTup K n gs (.ref a) σ H R := ⟨a, xs, rfl, h, e, k⟩
theorem g_gcons {R : L2.St → Hp → Prop} (k : g v σ H fun σ' H' => gs xs σ' H' R) : gCons g gs (v :: xs) σ H R := ⟨v, xs, rfl, k⟩
theorem g_gnil {R : L2.St → Hp → Prop} (k : R σ H) : gNil [] σ H R := ⟨rfl, k⟩
end
section
variable {x0 x1 x2 x3 x4 x5 x6 x7 x8 x9 x10 x11 x12 x13 x14 x15 x16 x17 x18 x19 : Option V} {s : List (Option V)} {R : L2.St → Hp → Prop}
theorem g_nameG {n : Nat} {s : L2.St} (k : R (s.set n (some v)) H) : gName n v s H R := k
theorem g_name0 (k : R (some v :: s) H) : gName 0 v (x0 :: s) H R := k
theorem g_name1 (k : R (x0 :: some v :: s) H) : gName 1 v (x0 :: x1 :: s) H R := k
theorem g_name2 (k : R (x0 :: x1 :: some v :: s) H) : gName 2 v (x0 :: x1 :: x2 :: s) H R := k
theorem g_name3 (k : R (x0 :: x1 :: x2 :: some v :: s) H) : gName 3 v (x0 :: x1 :: x2 :: x3 :: s) H R := k
theorem g_name4 (k : R (x0 :: x1 :: x2 :: x3 :: some v :: s) H) : gName 4 v (x0 :: x1 :: x2 :: x3 :: x4 :: s) H R := k
theorem g_name5 (k : R (x0 :: x1 :: x2 :: x3 :: x4 :: some v :: s) H) : gName 5 v (x0 :: x1 :: x2 :: x3 :: x4 :: x5 :: s) H R := k
theorem g_name6 (k : R (x0 :: x1 :: x2 :: x3 :: x4 :: x5 :: some v :: s) H) : gName 6 v (x0 :: x1 :: x2 :: x3 :: x4 :: x5 :: x6 :: s) H R := k
theorem g_name7 (k : R (x0 :: x1 :: x2 :: x3 :: x4 :: x5 :: x6 :: some v :: s) H) : gName 7 v (x0 :: x1 :: x2 :: x3 :: x4 :: x5 :: x6 :: x7 :: s) H R := k
theorem g_name8 (k : R (x0 :: x1 :: x2 :: x3 :: x4 :: x5 :: x6 :: x7 :: some v :: s) H) : gName 8 v (x0 :: x1 :: x2 :: x3 :: x4 :: x5 :: x6 :: x7 :: x8 :: s) H R := k
theorem g_name9 (k : R (x0 :: x1 :: x2 :: x3 :: x4 :: x5 :: x6 :: x7 :: x8 :: some v :: s) H) : gName 9 v (x0 :: x1 :: x2 :: x3 :: x4 :: x5 :: x6 :: x7 :: x8 :: x9 :: s) H R := k
theorem g_name10 (k : R (x0 :: x1 :: x2 :: x3 :: x4 :: x5 :: x6 :: x7 :: x8 :: x9 :: some v :: s) H) : gName 10 v (x0 :: x1 :: x2 :: x3 :: x4 :: x5 :: x6 :: x7 :: x8 :: x9 :: x10 :: s) H R := k
theorem g_name11 (k : R (x0 :: x1 :: x2 :: x3 :: x4 :: x5 :: x6 :: x7 :: x8 :: x9 :: x10 :: some v :: s) H) : gName 11 v (x0 :: x1 :: x2 :: x3 :: x4 :: x5 :: x6 :: x7 :: x8 :: x9 :: x10 :: x11 :: s) H R := k
theorem g_name12 (k : R (x0 :: x1 :: x2 :: x3 :: x4 :: x5 :: x6 :: x7 :: x8 :: x9 :: x10 :: x11 :: some v :: s) H) : gName 12 v (x0 :: x1 :: x2 :: x3 :: x4 :: x5 :: x6 :: x7 :: x8 :: x9 :: x10 :: x11 :: x12 :: s) H R := k
theorem g_name13 (k : R (x0 :: x1 :: x2 :: x3 :: x4 :: x5 :: x6 :: x7 :: x8 :: x9 :: x10 :: x11 :: x12 :: some v :: s) H) : gName 13 v (x0 :: x1 :: x2 :: x3 :: x4 :: x5 :: x6 :: x7 :: x8 :: x9 :: x10 :: x11 :: x12 :: x13 :: s) H R := k
theorem g_name14 (k : R (x0 :: x1 :: x2 :: x3 :: x4 :: x5 :: x6 :: x7 :: x8 :: x9 :: x10 :: x11 :: x12 :: x13 :: some v :: s) H) : gName 14 v (x0 :: x1 :: x2 :: x3 :: x4 :: x5 :: x6 :: x7 :: x8 :: x9 :: x10 :: x11 :: x12 :: x13 :: x14 :: s) H R := k
theorem g_name15 (k : R (x0 :: x1 :: x2 :: x3 :: x4 :: x5 :: x6 :: x7 :: x8 :: x9 :: x10 :: x11 :: x12 :: x13 :: x14 :: some v :: s) H) : gName 15 v (x0 :: x1 :: x2 :: x3 :: x4 :: x5 :: x6 :: x7 :: x8 :: x9 :: x10 :: x11 :: x12 :: x13 :: x14 :: x15 :: s) H R := k
theorem g_name16 (k : R (x0 :: x1 :: x2 :: x3 :: x4 :: x5 :: x6 :: x7 :: x8 :: x9 :: x10 :: x11 :: x12 :: x13 :: x14 :: x15 :: some v :: s) H) : gName 16 v (x0 :: x1 :: x2 :: x3 :: x4 :: x5 :: x6 :: x7 :: x8 :: x9 :: x10 :: x11 :: x12 :: x13 :: x14 :: x15 :: x16 :: s) H R := k
theorem g_name17 (k : R (x0 :: x1 :: x2 :: x3 :: x4 :: x5 :: x6 :: x7 :: x8 :: x9 :: x10 :: x11 :: x12 :: x13 :: x14 :: x15 :: x16 :: some v :: s) H) : gName 17 v (x0 :: x1 :: x2 :: x3 :: x4 :: x5 :: x6 :: x7 :: x8 :: x9 :: x10 :: x11 :: x12 :: x13 :: x14 :: x15 :: x16 :: x17 :: s) H R := k
end
/-! what is walked -/
section
variable {te ta : TE} {tr : TA} {R : It → Hp → Prop}
def kFor (g : TG) (tb : TS) (D : Ends) (σ : L2.St) (J : It) (H1 : Hp) : Prop := ∃ W : Nat → Nat → L2.St → Hp → Prop, (∃ m, W 0 m σ H1) ∧ ∀ i m σ H, W i m σ H →
    (J.stop i H ∧ D.nx σ H) ∨ (J.go i H ∧ ∃ N : L2.St → Hp → Prop, (∀ σ1 H2, N σ1 H2 → ∃ m', m' < m ∧ W (i + 1) m' σ1 H2) ∧ ∀ x H2, J.yld i H x H2 → g x σ H2 fun σ2 H3 => tb { D with nx := N, ct := N, bk := D.nx } σ2 H3)
theorem g_for {wi : TI} {g : TG} {tb : TS} (k : wi σ H (kFor g tb D σ)) : tFor wi g tb D σ H := k
def kLw (J : It) (g : TG) (tt : TT) (te : TE) (vs : List Nat) (σ : L2.St) (Q : VK) (D : Addr) (H0 : Hp) : Prop := ∃ W : Nat → Nat → Hp → Prop, (∃ m, W 0 m H0) ∧ ∀ i m H, W i m H →
    (J.stop i H ∧ Q (.ref D) H) ∨ (J.go i H ∧ ∃ N : Hp → Prop, (∀ H1, N H1 → ∃ m', m' < m ∧ W (i + 1) m' H1) ∧ ∀ x H1, J.yld i H x H1 → g x (wipe σ vs) H1 fun σ2 H2 => wipe σ2 vs = wipe σ vs ∧ tt σ2 H2 fun b H3 =>
      if b = true then te σ2 H3 fun y H4 => ∃ acc, H4 D = some (.lst acc) ∧ acc.length < sizeLine ∧ N (upd H4 D (.lst (acc ++ [y]))) else N H3)
def kLc (g : TG) (tt : TT) (te : TE) (vs : List Nat) (σ : L2.St) (Q : VK) (J : It) (H1 : Hp) : Prop := ∀ D, H1 D = none → kLw J g tt te vs σ Q D (upd H1 D (.lst []))
theorem g_lc {wi : TI} {g : TG} {tt : TT} {vs : List Nat} (k : wi σ H (kLc g tt te vs σ Q)) : tLc wi g tt te vs σ H Q := k
theorem g_kLc {J : It} {g : TG} {tt : TT} {vs : List Nat} (S : Sts H L) (k : ∀ D H', Sts H' (pto D (.lst []) :: L) → kLw J g tt te vs σ Q D H') : kLc g tt te vs σ Q J H := fun D nd => k D _ (S.new _ nd)
def kIL (K : PySem.W.Frag) (R : It → Hp → Prop) : VK := fun x H => ∃ a, x = .ref a ∧ (∃ xs, SqL K H a xs) ∧ R (Itl K a) H
theorem g_iList (k : te σ H (kIL K R)) : iList K te σ H R := k
theorem g_kIL (h : SqL K H a xs) (k : R (Itl K a) H) : kIL K R (.ref a) H := ⟨a, rfl, ⟨xs, h⟩, k⟩
def kR1 (R : It → Hp → Prop) (vs : List V) (H : Hp) : Prop := ∃ j : Int, vs = [.int j] ∧ -(2 ^ 62) ≤ j ∧ j < 2 ^ 62 ∧ R (Itr 0 j.toNat) H
theorem g_iRng1 (k : tr σ H (kR1 R)) : iRng1 tr σ H R := k
theorem g_kR1 (h : -4000000000000000000 ≤ j ∧ j ≤ 4000000000000000000) (k : R (Itr 0 j.toNat) H) : kR1 R [.int j] H := ⟨j, rfl, by omega, by omega, k⟩
def kR2 (R : It → Hp → Prop) (vs : List V) (H : Hp) : Prop := ∃ i j : Int, vs = [.int i, .int j] ∧ (-(2 ^ 62) ≤ i ∧ i < 2 ^ 62 ∧ -(2 ^ 62) ≤ j ∧ j < 2 ^ 62) ∧ R (Itr i (j - i).toNat) H
theorem g_iRng2 (k : tr σ H (kR2 R)) : iRng2 tr σ H R := k
theorem g_kR2 (h : (-4000000000000000000 ≤ i ∧ i ≤ 4000000000000000000) ∧ -4000000000000000000 ≤ j ∧ j ≤ 4000000000000000000) (k : R (Itr i (j - i).toNat) H) : kR2 R [.int i, .int j] H := ⟨i, j, rfl, ⟨by omega, by omega, by omega, by omega⟩, k⟩
def kEn (K : PySem.W.Frag) (R : It → Hp → Prop) (vs : List V) (H : Hp) : Prop := ∃ a xs, vs = [.ref a] ∧ SqL K H a xs ∧ R (Ite K a) H
theorem g_iEnum (k : tr σ H (kEn K R)) : iEnum K tr σ H R := k
theorem g_kEn (h : SqL K H a xs) (k : R (Ite K a) H) : kEn K R [.ref a] H := ⟨a, xs, rfl, h, k⟩
def kZp (K : PySem.W.Frag) (R : It → Hp → Prop) (vs : List V) (H : Hp) : Prop := ∃ a b xs ys, vs = [.ref a, .ref b] ∧ SqL K H a xs ∧ SqL K H b ys ∧ R (Itz K a b) H
theorem g_iZip (k : tr σ H (kZp K R)) : iZip K tr σ H R := k
theorem g_kZp (h : SqL K H a xs) (h2 : SqL K H b ys) (k : R (Itz K a b) H) : kZp K R [.ref a, .ref b] H := ⟨a, b, xs, ys, rfl, h, h2, k⟩
def kRv (R : It → Hp → Prop) (i j : Int) (H : Hp) : Prop := -(2 ^ 62) ≤ i ∧ i < 2 ^ 62 ∧ -(2 ^ 62) ≤ j ∧ j < 2 ^ 62 ∧ R (Itc (i + (((j - i).toNat : Nat) : Int) - 1) (-1) (j - i).toNat) H
theorem g_iRevR {tg : L2.St → Hp → (Int → Int → Hp → Prop) → Prop} (k : tg σ H (kRv R)) : iRevR tg σ H R := k
theorem g_kRv (h : (-4000000000000000000 ≤ i ∧ i ≤ 4000000000000000000) ∧ -4000000000000000000 ≤ j ∧ j ≤ 4000000000000000000) (k : R (Itc (i + (((j - i).toNat : Nat) : Int) - 1) (-1) (j - i).toNat) H) : kRv R i j H := ⟨by omega, by omega, by omega, by omega, k⟩
def kRg1 (R : Int → Int → Hp → Prop) : VK := fun x H => ∃ n, x = .int n ∧ R 0 n H
theorem g_rg1 {R : Int → Int → Hp → Prop} (k : te σ H (kRg1 R)) : tRg1 te σ H R := k
theorem g_kRg1 {R : Int → Int → Hp → Prop} (k : R 0 j H) : kRg1 R (.int j) H := ⟨j, rfl, k⟩
def kRg2 (R : Int → Int → Hp → Prop) (x : V) : VK := fun y H => ∃ i j, x = .int i ∧ y = .int j ∧ R i j H
theorem g_rg2 {R : Int → Int → Hp → Prop} (k : te σ H fun x H1 => ta σ H1 (kRg2 R x)) : tRg2 te ta σ H R := k
theorem g_kRg2 {R : Int → Int → Hp → Prop} (k : R i j H) : kRg2 R (.int i) (.int j) H := ⟨i, j, rfl, rfl, k⟩
def kLR (Q : VK) (i j : Int) (H : Hp) : Prop := RgOk i j ∧ qNew H (.lst (rgV i j)) Q
theorem g_lstRg {tg : L2.St → Hp → (Int → Int → Hp → Prop) → Prop} (k : tg σ H (kLR Q)) : tLstRg tg σ H Q := k
/-- the ints from i up to j -/
def rgI (i j : Int) : List Int := (List.range (j - i).toNat).map fun n => i + ((n : Nat) : Int)
theorem rgV_I (i j : Int) : rgV i j = (rgI i j).map V.int := by
  unfold rgV rgI
  rw [List.map_map]
  rfl
theorem rgI_len (i j : Int) : (rgI i j).length = (j - i).toNat := by
  unfold rgI
  rw [List.length_map, List.length_range]
theorem g_kLR (h : 0 ≤ i ∧ j ≤ 16777216 ∧ i ≤ 16777216 ∧ 0 ≤ j) (k : qNew H (.lst ((rgI i j).map V.int)) Q) : kLR Q i j H := ⟨RgOk.of_le h.1 h.2.1 h.2.2.1 h.2.2.2, by rw [rgV_I]; exact k⟩
def kRev (K : PySem.W.Frag) (Q : VK) : VK := fun x H => ∃ a xs, x = .ref a ∧ SqL K H a xs ∧ qNew H (.lst xs.reverse) Q
theorem g_revL (k : te σ H (kRev K Q)) : tRevL K te σ H Q := k
theorem g_kRevI (h : SqL K H a (ns.map V.int)) (k : qNew H (.lst (ns.reverse.map V.int)) Q) : kRev K Q (.ref a) H := ⟨a, _, rfl, h, by rw [← List.map_reverse]; exact k⟩
theorem g_kRev (h : SqL K H a xs) (k : qNew H (.lst xs.reverse) Q) : kRev K Q (.ref a) H := ⟨a, xs, rfl, h, k⟩
end
/-! values -/
theorem g_I0 {g : Int → Int → V} (k : Q (g i j) H) : rI0 g (.int i) (.int j) H Q := ⟨i, j, rfl, rfl, k⟩
theorem g_I {C : Int → Int → Prop} {g : Int → Int → V} (h : C i j) (k : Q (g i j) H) : rI C g (.int i) (.int j) H Q := ⟨i, j, rfl, rfl, h, k⟩
theorem g_U {g : Int → V} (k : Q (g i) H) : rU g (.int i) H Q := ⟨i, rfl, k⟩
theorem g_eqI (k : Q (.bl (decide (i = j))) H) : rEq (.int i) (.int j) H Q := ⟨rfl, by rw [dci]; exact k⟩
theorem g_neI (k : Q (.bl (!decide (i = j))) H) : rNe (.int i) (.int j) H Q := ⟨rfl, by rw [dci]; exact k⟩
theorem dcb (a b : Bool) : decide (V.bl a = V.bl b) = decide (a = b) := by
  cases a <;> cases b <;> rfl
theorem g_eqB {c d : Bool} (k : Q (.bl (decide (c = d))) H) : rEq (.bl c) (.bl d) H Q := ⟨rfl, by rw [dcb]; exact k⟩
theorem g_neB {c d : Bool} (k : Q (.bl (!decide (c = d))) H) : rNe (.bl c) (.bl d) H Q := ⟨rfl, by rw [dcb]; exact k⟩
theorem g_eq (h : scal x y = true) (k : Q (.bl (decide (x = y))) H) : rEq x y H Q := ⟨h, k⟩
theorem g_ne (h : scal x y = true) (k : Q (.bl (!decide (x = y))) H) : rNe x y H Q := ⟨h, k⟩
theorem scal_ov : ∀ o u : Option Int, scal (ov o) (ov u) = true
  | none, none => rfl
  | none, some _ => rfl
  | some _, none => rfl
  | some _, some _ => rfl
theorem dco (o u : Option Int) : decide (ov o = ov u) = decide (o = u) := by
  cases o with
  | none => cases u <;> rfl
  | some a =>
    cases u with
    | none => rfl
    | some b => exact (dci a b).trans (by by_cases h : a = b <;> simp [h])
theorem g_eqO {o u : Option Int} (k : Q (.bl (decide (o = u))) H) : rEq (ov o) (ov u) H Q := ⟨scal_ov o u, by rw [dco]; exact k⟩
theorem g_neO {o u : Option Int} (k : Q (.bl (!decide (o = u))) H) : rNe (ov o) (ov u) H Q := ⟨scal_ov o u, by rw [dco]; exact k⟩
def qIsN : R2 := fun x y H Q => y = .non ∧ Q (.bl (decide (x = .non))) H
def qNotN : R2 := fun x y H Q => y = .non ∧ Q (.bl (!decide (x = .non))) H
theorem g_isNI (k : Q (.bl false) H) : qIsN (.int i) .non H Q := ⟨rfl, k⟩
theorem g_isNR (k : Q (.bl false) H) : qIsN (.ref a) .non H Q := ⟨rfl, k⟩
theorem g_isNN (k : Q (.bl true) H) : qIsN .non .non H Q := ⟨rfl, k⟩
theorem g_isNO {o : Option Int} (k : Q (.bl o.isNone) H) : qIsN (ov o) .non H Q := ⟨rfl, by rw [ov_none]; exact k⟩
theorem g_isN (k : Q (.bl (decide (x = .non))) H) : qIsN x .non H Q := ⟨rfl, k⟩
theorem g_notNI (k : Q (.bl true) H) : qNotN (.int i) .non H Q := ⟨rfl, k⟩
theorem g_notNR (k : Q (.bl true) H) : qNotN (.ref a) .non H Q := ⟨rfl, k⟩
theorem g_notNN (k : Q (.bl false) H) : qNotN .non .non H Q := ⟨rfl, k⟩
theorem g_notNO {o : Option Int} (k : Q (.bl o.isSome) H) : qNotN (ov o) .non H Q := ⟨rfl, by rw [ov_none, Option.not_isNone]; exact k⟩
theorem g_notN (k : Q (.bl (!decide (x = .non))) H) : qNotN x .non H Q := ⟨rfl, k⟩
def qPowc (i j r : Int) : R2 := fun x y H Q => x = .int i ∧ y = .int j ∧ Q (.int r) H
theorem g_powc {r : Int} (k : Q (.int r) H) : qPowc i j r (.int i) (.int j) H Q := ⟨rfl, rfl, k⟩
def qAnd1 : R2 := fun x y H Q => ∃ i, x = .int i ∧ y = .int 1 ∧ Q (.int (i % 2)) H
theorem g_and1 (k : Q (.int (i % 2)) H) : qAnd1 (.int i) (.int 1) H Q := ⟨i, rfl, rfl, k⟩
def qEqIs (K : PySem.W.Frag) : R2 := fun x y H Q => ∃ a b, ∃ ns ms : List Int, x = .ref a ∧ y = .ref b ∧ SqL K H a (ns.map V.int) ∧ SqL K H b (ms.map V.int) ∧ Q (.bl (decide (ns = ms))) H
def qNeIs (K : PySem.W.Frag) : R2 := fun x y H Q => ∃ a b, ∃ ns ms : List Int, x = .ref a ∧ y = .ref b ∧ SqL K H a (ns.map V.int) ∧ SqL K H b (ms.map V.int) ∧ Q (.bl (!decide (ns = ms))) H
theorem g_eqIs (h : SqL K H a (ns.map V.int)) (h2 : SqL K H b (ms.map V.int)) (k : Q (.bl (decide (ns = ms))) H) : qEqIs K (.ref a) (.ref b) H Q := ⟨a, b, ns, ms, rfl, rfl, h, h2, k⟩
theorem g_neIs (h : SqL K H a (ns.map V.int)) (h2 : SqL K H b (ms.map V.int)) (k : Q (.bl (!decide (ns = ms))) H) : qNeIs K (.ref a) (.ref b) H Q := ⟨a, b, ns, ms, rfl, rfl, h, h2, k⟩
def qInIs (K : PySem.W.Frag) : R2 := fun x y H Q => ∃ i p, ∃ ns : List Int, x = .int i ∧ y = .ref p ∧ SqL K H p (ns.map V.int) ∧ Q (.bl (decide (i ∈ ns))) H
theorem g_inIs (h : SqL K H a (ns.map V.int)) (k : Q (.bl (decide (i ∈ ns))) H) : qInIs K (.int i) (.ref a) H Q := ⟨i, a, ns, rfl, rfl, h, k⟩
def qCatI : R2 := fun x y H Q => ∃ l b, ∃ (ns ms : List Int), x = .ref l ∧ y = .ref b ∧ H l = some (.lst (ns.map V.int)) ∧ H b = some (.lst (ms.map V.int)) ∧ ns.length + ms.length ≤ 1000000 ∧ qNew H (.lst ((ns ++ ms).map V.int)) Q
theorem g_catI (h : H a = some (.lst (ns.map V.int))) (h2 : H b = some (.lst (ms.map V.int))) (l : ns.length + ms.length ≤ 1000000) (k : qNew H (.lst ((ns ++ ms).map V.int)) Q) : qCatI (.ref a) (.ref b) H Q := ⟨a, b, ns, ms, rfl, rfl, h, h2, l, k⟩
def qRepI : R2 := fun x y H Q => ∃ l k, ∃ ns : List Int, x = .ref l ∧ y = .int k ∧ H l = some (.lst (ns.map V.int)) ∧ (k < 1000000 ∧ -1000000 < k ∧ ns.length * k.toNat ≤ 1000000) ∧ qNew H (.lst ((List.replicate k.toNat ns).flatten.map V.int)) Q
theorem g_repI (h : H a = some (.lst (ns.map V.int))) (l : i < 1000000 ∧ -1000000 < i ∧ ns.length * i.toNat ≤ 1000000) (k : qNew H (.lst ((List.replicate i.toNat ns).flatten.map V.int)) Q) : qRepI (.ref a) (.int i) H Q := ⟨a, i, ns, rfl, rfl, h, l, k⟩
def qAddS : R2 := fun x y H Q => ∃ i j, x = .str i ∧ y = .str j ∧ i.length + j.length ≤ sizeLine ∧ Q (.str (i ++ j)) H
theorem g_addS {z w : Str} (l : z.length + w.length ≤ sizeLine) (k : Q (.str (z ++ w)) H) : qAddS (.str z) (.str w) H Q := ⟨z, w, rfl, rfl, l, k⟩
/-! calls of built-ins -/
def qIntI : List V → Hp → VK → Prop := fun xs H Q => ∃ i, xs = [.int i] ∧ Q (.int i) H
theorem g_intI (k : Q (.int i) H) : qIntI [.int i] H Q := ⟨i, rfl, k⟩
def qIntB : List V → Hp → VK → Prop := fun xs H Q => ∃ k, xs = [.bl k] ∧ Q (.int (if k then 1 else 0)) H
theorem g_intB {c : Bool} (k : Q (.int (if c then 1 else 0)) H) : qIntB [.bl c] H Q := ⟨c, rfl, k⟩
def qIntBA : List V → Hp → VK → Prop := fun xs H Q => ∃ k, xs = [.bl k] ∧ ∀ o : Int, 0 ≤ o → o ≤ 1 → (o = 1 ↔ k = true) → Q (.int o) H
theorem g_intBA {c : Bool} (k : ∀ o : Int, 0 ≤ o → o ≤ 1 → (o = 1 ↔ c = true) → Q (.int o) H) : qIntBA [.bl c] H Q := ⟨c, rfl, k⟩
def qMin2 : List V → Hp → VK → Prop := fun xs H Q => ∃ i j, xs = [.int i, .int j] ∧ Q (.int (min i j)) H
def qMax2 : List V → Hp → VK → Prop := fun xs H Q => ∃ i j, xs = [.int i, .int j] ∧ Q (.int (max i j)) H
theorem g_min2 (k : Q (.int (min i j)) H) : qMin2 [.int i, .int j] H Q := ⟨i, j, rfl, k⟩
theorem g_max2 (k : Q (.int (max i j)) H) : qMax2 [.int i, .int j] H Q := ⟨i, j, rfl, k⟩
def qAbs : List V → Hp → VK → Prop := fun xs H Q => ∃ i : Int, xs = [.int i] ∧ Q (.int (i.natAbs : Nat)) H
theorem g_abs (k : Q (.int (i.natAbs : Nat)) H) : qAbs [.int i] H Q := ⟨i, rfl, k⟩
def qLen (K : PySem.W.Frag) : List V → Hp → VK → Prop := fun xs H Q => ∃ p ys, xs = [.ref p] ∧ SqL K H p ys ∧ Q (.int ys.length) H
theorem g_len (h : SqL K H a xs) (k : Q (.int xs.length) H) : qLen K [.ref a] H Q := ⟨a, xs, rfl, h, k⟩
def qLenI (K : PySem.W.Frag) : List V → Hp → VK → Prop := fun xs H Q => ∃ p, ∃ ns : List Int, xs = [.ref p] ∧ SqL K H p (ns.map V.int) ∧ Q (.int ns.length) H
theorem g_lenI (h : SqL K H a (ns.map V.int)) (k : Q (.int ns.length) H) : qLenI K [.ref a] H Q := ⟨a, ns, rfl, h, k⟩
def qLenT (K : PySem.W.Frag) : List V → Hp → VK → Prop := fun xs H Q => ∃ p ys, xs = [.ref p] ∧ SqT K H p ys ∧ Q (.int ys.length) H
theorem g_lenT (h : SqT K H a xs) (k : Q (.int xs.length) H) : qLenT K [.ref a] H Q := ⟨a, xs, rfl, h, k⟩
def qList (K : PySem.W.Frag) : List V → Hp → VK → Prop := fun xs H Q => ∃ p ys, xs = [.ref p] ∧ SqL K H p ys ∧ qNew H (.lst ys) Q
theorem g_list (h : SqL K H a xs) (k : qNew H (.lst xs) Q) : qList K [.ref a] H Q := ⟨a, xs, rfl, h, k⟩
def qListT (K : PySem.W.Frag) : List V → Hp → VK → Prop := fun xs H Q => ∃ p ys, xs = [.ref p] ∧ SqT K H p ys ∧ qNew H (.lst ys) Q
theorem g_listT (h : SqT K H a xs) (k : qNew H (.lst xs) Q) : qListT K [.ref a] H Q := ⟨a, xs, rfl, h, k⟩
def qTuple (K : PySem.W.Frag) : List V → Hp → VK → Prop := fun xs H Q => ∃ p ys, xs = [.ref p] ∧ SqL K H p ys ∧ qNew H (.tup ys) Q
theorem g_tuple (h : SqL K H a xs) (k : qNew H (.tup xs) Q) : qTuple K [.ref a] H Q := ⟨a, xs, rfl, h, k⟩
theorem g_sum (h : SqL K H a (ns.map V.int)) (k : Q (.int ns.sum) H) : rSum K [.ref a] H Q := ⟨a, ns, rfl, h, k⟩
theorem g_any {bs : List Bool} (h : SqL K H a (bs.map V.bl)) (k : Q (.bl (bs.any id)) H) : rAny K [.ref a] H Q := ⟨a, bs, rfl, h, k⟩
theorem g_all {bs : List Bool} (h : SqL K H a (bs.map V.bl)) (k : Q (.bl (bs.all id)) H) : rAll K [.ref a] H Q := ⟨a, bs, rfl, h, k⟩
theorem g_max (h : SqL K H a (ns.map V.int)) (l : 0 < ns.length) (k : ∀ m, m ∈ ns → (∀ y, y ∈ ns → y ≤ m) → Q (.int m) H) : rMax K [.ref a] H Q := ⟨a, ns, rfl, h, l, k⟩
theorem g_min (h : SqL K H a (ns.map V.int)) (l : 0 < ns.length) (k : ∀ m, m ∈ ns → (∀ y, y ∈ ns → m ≤ y) → Q (.int m) H) : rMin K [.ref a] H Q := ⟨a, ns, rfl, h, l, k⟩
def qAnyI (K : PySem.W.Frag) : List V → Hp → VK → Prop := fun xs H Q => ∃ a, ∃ ns : List Int, xs = [.ref a] ∧ SqL K H a (ns.map V.int) ∧ Q (.bl (ns.any fun n => decide (n ≠ 0))) H
theorem g_anyI (h : SqL K H a (ns.map V.int)) (k : Q (.bl (ns.any fun n => decide (n ≠ 0))) H) : qAnyI K [.ref a] H Q := ⟨a, ns, rfl, h, k⟩
def qIsII : List V → Hp → VK → Prop := fun xs H Q => ∃ i, xs = [.int i, .ty "int"] ∧ Q (.bl true) H
def qIsIB : List V → Hp → VK → Prop := fun xs H Q => ∃ i, xs = [.int i, .ty "bool"] ∧ Q (.bl false) H
def qIsBB : List V → Hp → VK → Prop := fun xs H Q => ∃ i, xs = [.bl i, .ty "bool"] ∧ Q (.bl true) H
def qIsLL : List V → Hp → VK → Prop := fun xs H Q => ∃ a ys, xs = [.ref a, .ty "list"] ∧ H a = some (.lst ys) ∧ Q (.bl true) H
theorem g_isII (k : Q (.bl true) H) : qIsII [.int i, .ty "int"] H Q := ⟨i, rfl, k⟩
theorem g_isIB (k : Q (.bl false) H) : qIsIB [.int i, .ty "bool"] H Q := ⟨i, rfl, k⟩
theorem g_isBB {c : Bool} (k : Q (.bl true) H) : qIsBB [.bl c, .ty "bool"] H Q := ⟨c, rfl, k⟩
theorem g_isLL (h : H a = some (.lst xs)) (k : Q (.bl true) H) : qIsLL [.ref a, .ty "list"] H Q := ⟨a, xs, rfl, h, k⟩
/-! subscripts, slices, stores -/
def qIxI (K : PySem.W.Frag) : R2 := fun x y H Q => ∃ p, ∃ (ns : List Int) (i : Int), x = .ref p ∧ y = .int i ∧ SqL K H p (ns.map V.int) ∧ (0 ≤ i ∧ i < ns.length) ∧ Q (.int (gI ns i)) H
theorem g_ixI (h : SqL K H a (ns.map V.int)) (b : 0 ≤ i ∧ i < ns.length) (k : Q (.int (gI ns i)) H) : qIxI K (.ref a) (.int i) H Q := ⟨a, ns, i, rfl, rfl, h, b, k⟩
def qIx (K : PySem.W.Frag) : R2 := fun x y H Q => ∃ p xs i v, x = .ref p ∧ y = .int i ∧ SqL K H p xs ∧ atI xs i = some v ∧ Q v H
theorem g_ix (h : SqL K H a xs) (e : atI xs i = some v) (k : Q v H) : qIx K (.ref a) (.int i) H Q := ⟨a, xs, i, v, rfl, rfl, h, e, k⟩
def qIxT (K : PySem.W.Frag) : R2 := fun x y H Q => ∃ p xs i v, x = .ref p ∧ y = .int i ∧ SqT K H p xs ∧ atI xs i = some v ∧ Q v H
theorem g_ixT (h : SqT K H a xs) (e : atI xs i = some v) (k : Q v H) : qIxT K (.ref a) (.int i) H Q := ⟨a, xs, i, v, rfl, rfl, h, e, k⟩
def qIxLast (K : PySem.W.Frag) : R2 := fun x y H Q => ∃ p, ∃ ns : List Int, x = .ref p ∧ y = .int (-1) ∧ SqL K H p (ns.map V.int) ∧ ∃ i, ns.getLast? = some i ∧ Q (.int i) H
theorem g_ixLast (h : SqL K H a (ns.map V.int)) (e : ns.getLast? = some i) (k : Q (.int i) H) : qIxLast K (.ref a) (.int (-1)) H Q := ⟨a, ns, rfl, rfl, h, i, e, k⟩
def qSlI (K : PySem.W.Frag) : V → Option Int → Option Int → Hp → VK → Prop := fun x lo hi H Q => ∃ a, ∃ ns : List Int, x = .ref a ∧ SqL K H a (ns.map V.int) ∧ qNew H (.lst ((cutL ns lo hi).map V.int)) Q
theorem g_slI {lo hi : Option Int} (h : SqL K H a (ns.map V.int)) (k : qNew H (.lst ((cutL ns lo hi).map V.int)) Q) : qSlI K (.ref a) lo hi H Q := ⟨a, ns, rfl, h, k⟩
def qSl (K : PySem.W.Frag) : V → Option Int → Option Int → Hp → VK → Prop := fun x lo hi H Q => ∃ a xs, x = .ref a ∧ SqL K H a xs ∧ qNew H (.lst (cutV xs lo hi)) Q
theorem g_slA {lo hi : Option Int} (h : SqL K H a xs) (k : qNew H (.lst (cutV xs lo hi)) Q) : qSl K (.ref a) lo hi H Q := ⟨a, xs, rfl, h, k⟩
def qApp : V → List V → Hp → VK → Prop := fun x vs H Q => ∃ l y, x = .ref l ∧ vs = [y] ∧ ∃ xs L, Sts H (pto l (.lst xs) :: L) ∧ xs.length < sizeLine ∧ ∀ H', Sts H' (pto l (.lst (xs ++ [y])) :: L) → Q .non H'
theorem g_app (S : Sts H (pto a (.lst xs) :: L)) (l : xs.length < sizeLine) (k : ∀ H', Sts H' (pto a (.lst (xs ++ [y])) :: L) → Q .non H') : qApp (.ref a) [y] H Q := ⟨a, y, rfl, rfl, xs, L, S, l, k⟩
def qAppI : V → List V → Hp → VK → Prop := fun x vs H Q => ∃ l j, x = .ref l ∧ vs = [.int j] ∧ ∃ (ns : List Int) (L : List Asr), Sts H (pto l (.lst (ns.map V.int)) :: L) ∧ ns.length ≤ 1000000 ∧ ∀ H', Sts H' (pto l (.lst ((ns ++ [j]).map V.int)) :: L) → Q .non H'
theorem g_appI (S : Sts H (pto a (.lst (ns.map V.int)) :: L)) (l : ns.length ≤ 1000000) (k : ∀ H', Sts H' (pto a (.lst ((ns ++ [j]).map V.int)) :: L) → Q .non H') : qAppI (.ref a) [.int j] H Q := ⟨a, j, rfl, rfl, ns, L, S, l, k⟩
def qExt : V → List V → Hp → VK → Prop := fun x vs H Q => ∃ l b, x = .ref l ∧ vs = [.ref b] ∧ ∃ xs zs L, Sts H (pto l (.lst xs) :: L) ∧ H b = some (.lst zs) ∧ xs.length + zs.length ≤ sizeLine ∧ ∀ H', Sts H' (pto l (.lst (xs ++ zs)) :: L) → Q .non H'
theorem g_ext (S : Sts H (pto a (.lst xs) :: L)) (h : H b = some (.lst ys)) (l : xs.length + ys.length ≤ sizeLine) (k : ∀ H', Sts H' (pto a (.lst (xs ++ ys)) :: L) → Q .non H') : qExt (.ref a) [.ref b] H Q := ⟨a, b, rfl, rfl, xs, ys, L, S, h, l, k⟩
def qSetL : TSet := fun o i v H Q => ∃ p k, o = .ref p ∧ i = .int k ∧ ∃ xs L, Sts H (pto p (.lst xs) :: L) ∧ (0 ≤ k ∧ k < xs.length) ∧ ∀ H', Sts H' (pto p (.lst (xs.set k.toNat v)) :: L) → Q H'
theorem g_setL {R : Hp → Prop} (S : Sts H (pto a (.lst xs) :: L)) (b : 0 ≤ i ∧ i < xs.length) (k : ∀ H', Sts H' (pto a (.lst (xs.set i.toNat v)) :: L) → R H') : qSetL (.ref a) (.int i) v H R := ⟨a, i, rfl, rfl, xs, L, S, b, k⟩
def qSetI : TSet := fun o i v H Q => ∃ p k j, o = .ref p ∧ i = .int k ∧ v = .int j ∧ ∃ (ns : List Int) (L : List Asr), Sts H (pto p (.lst (ns.map V.int)) :: L) ∧ (0 ≤ k ∧ k < ns.length) ∧ ∀ H', Sts H' (pto p (.lst ((ns.set k.toNat j).map V.int)) :: L) → Q H'
theorem g_setI {R : Hp → Prop} (S : Sts H (pto a (.lst (ns.map V.int)) :: L)) (b : 0 ≤ i ∧ i < ns.length) (k : ∀ H', Sts H' (pto a (.lst ((ns.set i.toNat j).map V.int)) :: L) → R H') : qSetI (.ref a) (.int i) (.int j) H R := ⟨a, i, j, rfl, rfl, rfl, ns, L, S, b, k⟩
theorem isE_pos {α : Type} {l : List α} (h : (!l.isEmpty) = true) : 0 < l.length := by
  cases l with
  | nil => cases h
  | cons a b => simp
theorem isE_nil {α : Type} {l : List α} (h : (!l.isEmpty) = false) : l = [] := by
  cases l with
  | nil => rfl
  | cons a b => cases h
theorem g_yes {R : Bool → Hp → Prop} (k : R true H) : tYes σ H R := k
theorem g_wipe {σ2 : L2.St} {ws : List Nat} {P : Prop} (h : wipe σ2 ws = wipe σ ws) (k : P) : wipe σ2 ws = wipe σ ws ∧ P := ⟨h, k⟩
/-! truth -/
def kTru (K : PySem.W.Frag) (Q : Bool → Hp → Prop) : VK := fun x H => ∃ k, TruV K x H k ∧ Q k H
def tTruO (K : PySem.W.Frag) (ta : TE) : TT := fun σ H Q => ta σ H (kTru K Q)
section
variable {RB : Bool → Hp → Prop} {ta : TE}
theorem g_truO (k : ta σ H (kTru K RB)) : tTruO K ta σ H RB := k
theorem g_truN (k : RB false H) : kTru K RB .non H := ⟨_, rfl, k⟩
theorem g_truB {c : Bool} (k : RB c H) : kTru K RB (.bl c) H := ⟨_, rfl, k⟩
theorem g_truI (k : RB (!decide (i = 0)) H) : kTru K RB (.int i) H := ⟨_, rfl, by
  have e : (i != 0) = !decide (i = 0) := by by_cases h : i = 0 <;> simp [h]
  rw [e]
  exact k⟩
theorem isE_map {α β : Type} (f : α → β) (l : List α) : (l.map f).isEmpty = l.isEmpty := by cases l <;> rfl
theorem g_truIs (h : SqL K H a (ns.map V.int)) (k : RB (!ns.isEmpty) H) : kTru K RB (.ref a) H := ⟨_, .inl ⟨_, h, rfl⟩, by rw [isE_map]; exact k⟩
theorem g_truL (h : SqL K H a xs) (k : RB (!xs.isEmpty) H) : kTru K RB (.ref a) H := ⟨_, .inl ⟨_, h, rfl⟩, k⟩
end
end
/-! ### the rules in these readings -/
section
variable {X : Cx} {K : PySem.W.Frag}
theorem v_isN : OpR X (compareOp .Is) qIsN := op_isN
theorem v_notN : OpR X (compareOp .IsNot) qNotN := op_notN
theorem v_powc (i j r : Int) (h : CPow i j) (e : i ^ j.toNat = r) : OpR X (binaryOp .Pow) (qPowc i j r) := oc_powc i j r h e
theorem v_and1 : OpR X (binaryOp .BitAnd) qAnd1 := oc_and1
theorem v_eqIs (hK : X.K = K) (hu : X.A.units + 64 < cLine) : OpR X (compareOp .Eq) (qEqIs K) := oc_eq_ints hK hu
theorem v_neIs (hK : X.K = K) (hu : X.A.units + 64 < cLine) : OpR X (compareOp .NotEq) (qNeIs K) := oc_ne_ints hK hu
theorem v_inIs (hK : X.K = K) : OpR X (compareOp .In) (qInIs K) := oc_in_ints hK
theorem v_catI : OpR X (binaryOp .Add) qCatI := oc_catI
theorem v_repI : OpR X (binaryOp .Mult) qRepI := oc_repI
theorem v_addS : OpR X (binaryOp .Add) qAddS := op_add_str
theorem v_intI : CallR X (.type "int") qIntI := oc_int_i
theorem v_intB : CallR X (.type "int") qIntB := oc_int_b
theorem v_intBA : CallR X (.type "int") qIntBA := oc_int_bA
theorem v_min2 (hc : X.calm = true) : CallR X (.builtin "min") qMin2 := oc_min2 hc
theorem v_max2 (hc : X.calm = true) : CallR X (.builtin "max") qMax2 := oc_max2 hc
theorem v_abs : CallR X (.builtin "abs") qAbs := oc_abs
theorem v_len (hK : X.K = K) : CallR X (.builtin "len") (qLen K) := oc_len hK
theorem v_lenI (hK : X.K = K) : CallR X (.builtin "len") (qLenI K) := oc_lenI hK
theorem v_lenT (hK : X.K = K) : CallR X (.builtin "len") (qLenT K) := oc_lenT hK
theorem v_list (hK : X.K = K) : CallR X (.type "list") (qList K) := oc_list hK
theorem v_listT (hK : X.K = K) : CallR X (.type "list") (qListT K) := oc_listT hK
theorem v_tuple (hK : X.K = K) : CallR X (.type "tuple") (qTuple K) := oc_tuple hK
theorem v_anyI (hK : X.K = K) (hc : X.calm = true) : CallR X (.builtin "any") (qAnyI K) := oc_anyI hK hc
theorem v_max (hK : X.K = K) (hc : X.calm = true) : CallR X (.builtin "max") (rMax K) := hK ▸ cr_max hc
theorem v_min (hK : X.K = K) (hc : X.calm = true) : CallR X (.builtin "min") (rMin K) := hK ▸ cr_min hc
theorem v_isII : CallR X (.builtin "isinstance") qIsII := oc_isi_ii
theorem v_isIB : CallR X (.builtin "isinstance") qIsIB := oc_isi_ib
theorem v_isBB : CallR X (.builtin "isinstance") qIsBB := oc_isi_bb
theorem v_isLL : CallR X (.builtin "isinstance") qIsLL := oc_isi_ll
theorem v_ixI (hK : X.K = K) : IxR X (qIxI K) := oc_ixI hK
theorem v_ix (hK : X.K = K) : IxR X (qIx K) := oc_ix hK
theorem v_ixT (hK : X.K = K) : IxR X (qIxT K) := oc_ixT hK
theorem v_ixLast (hK : X.K = K) : IxR X (qIxLast K) := oc_ixLast hK
theorem v_slI (hK : X.K = K) : SlR X (qSlI K) := oc_slI hK
theorem v_sl (hK : X.K = K) : SlR X (qSl K) := oc_sl hK
theorem v_append : MtR X "list.append" qApp := oc_append
theorem v_appendI : MtR X "list.append" qAppI := oc_appendI
theorem v_extend : MtR X "list.extend" qExt := oc_extend
theorem v_setL : PSet X qSetL := oc_setL
theorem v_setI : PSet X qSetI := oc_setI
theorem v_truth {a : Expr} {ta : TE} (hK : X.K = K) (ha : PE X a ta) (he : ∀ whole, isTrue a X.env whole = (do let v ← whole; standAt a.pos; holding [v] (truthy v))) : PT X a (tTruO K ta) := hK ▸ pt_truth ha he
theorem v_call_eq {sp : Sp} {t : TA} : tCall sp [] E0 t = tCallX sp t := by
  funext σ H Q
  unfold tCall tCallX
  congr
  funext vs H1
  rw [List.append_nil]
theorem v_call {e : Expr} {es : List Expr} {p pos : Pos} {x : Str} {k : Nat} {f : Addr} {fd : FuncData} {ps : List Str} {sp : Sp} {t : TA} (F : FnOk X.prog X.w X.K X.mg X.base CX0 k f fd ps sp) (hr : Room k X.A) (hg : Gl X x) (hm : X.mg x = some (.ref f)) (kp : PySem.W.keepIn X.K (.ref f) = true) (hb : Binds X.K fd ps []) (ha : PA X (e :: es) t)
    (hdb : (x == ("__debug__" : Str)) = false := by decide) (he : starEach (e :: es) X.env = (false, eval e X.env) :: starEach es X.env := by rfl) (hpl : (backTo pos (starEach es X.env)).any (·.1) = false := by rfl) : PE X (.Call (.Name x p) (e :: es) [] pos) (tCallX sp t) := by
  rw [← v_call_eq]
  exact pe_call F hr hg hm kp hb .nil pass0 ha hdb he hpl
theorem v_call0 {p pos : Pos} {x : Str} {k : Nat} {f : Addr} {fd : FuncData} {ps : List Str} {sp : Sp} (F : FnOk X.prog X.w X.K X.mg X.base CX0 k f fd ps sp) (hr : Room k X.A) (hg : Gl X x) (hm : X.mg x = some (.ref f)) (kp : PySem.W.keepIn X.K (.ref f) = true) (hb : Binds X.K fd ps [])
    (hdb : (x == ("__debug__" : Str)) = false := by decide) : PE X (.Call (.Name x p) [] [] pos) (tCallX sp tNil) := by
  rw [← v_call_eq]
  exact pe_call0 F hr hg hm kp hb .nil pass0 hdb
end
end Oc
/-! ### own exceptions whose __init__ begins with super().__init__(..) -/
namespace Oc
open PySem PySem.Spec PyProof.Rows L2 NdefX PySem.W PySem.Calls
/-- what the written part says: C inherits the __init__ of D's class body, whose super() finds ValueError.__init__ -/
structure SupC (K : PySem.W.Frag) (D C : Addr) : Prop where
  oex : OexC K C
  sub : mroIn K C (.ref D) = some true
  fnd : ks_superIn K C D "__init__" = some (some (.builtin "ValueError.__init__"))
  isV : subIn K (.ref C) (.type "ValueError") = some true
  any : nsIn K cStatics "thirdparty.any" = some none
  bmB : ∃ nm q N bs bm sn sub ab col dd k0 k1 k2 k3 k5, K.lookup C = some (excClassObj nm q C N bs bm true sn sub ab col dd k0 k1 k2 k3 k5 "ValueError.__new__")
/-- .. of the def at f: its cell __class__ holds D, its code's file is the program's -/
structure SupF (P : Program) (K : PySem.W.Frag) (mg : Str → Option Value) (f : Addr) (F : NF) (D cc : Addr) : Prop where
  cl : F.cl = [(("__class__" : Str), cc)]
  cell : ∃ cl cld csl, K.lookup cc = some ⟨cl, cld, .cell (some (.ref D)), csl⟩
  isD : ∃ cdD, clsIn K D = some cdD
  file : ∃ ccl cdd vs ccs file tf, K.lookup F.c = some ⟨ccl, cdd, .fields vs, ccs⟩ ∧ vs[2]? = some (.str file tf) ∧ ((P.main.file : Str) == file) = true
  sup : mg "super" = none
  ks : F.scope.names.lookup ("super" : Str) = some .globalImplicit
  kc : F.scope.names.lookup ("__class__" : Str) = some .free
  htop : (P.main.scope.names.lookup ("super" : Str)).isSome = false
section
variable {CX : CXT} {P : Program} {w : World} {K : PySem.W.Frag} {mg : Str → Option Value} {base : Heap} {N ps : List Str} {F : NF} {f D cc : Addr} {k : Nat} {sp : Sp}
/-- a def that begins with super().__init__(..) -/
theorem fn_super {oc dV kV doc pm ct : Value} {od an : Option Addr} {osl : Array (Option Value)} {ar : Arg} {e : Expr} {es : List Expr} {rest : List Stmt} {p0 p1 p2 pos pos0 : Pos}
    (lk : K.lookup f = some ⟨oc, od, .func (fnX F.name F.qual F.params F.body F.scope F.cl dV kV doc pm an (.ref F.c) ct), osl⟩) (hcd : codeIn K (.ref F.c) F.qual = true)
    (S : NScope N ps [("__class__" : Str)] F.scope) (T : SupF P K mg f F D cc) (hp : (F.params.posonlyargs ++ F.params.args).head? = some ar) (ha : ps[0]? = some ar.arg)
    (hb : F.body = .Expr (.Call (.Attribute (.Call (.Name "super" p0) [] [] p1) "__init__" p2) (e :: es) [] pos) pos0 :: rest)
    (pl : Addr → Sem Bool) (hev : ∀ L, eval (.Call (.Attribute (.Call (.Name "super" p0) [] [] p1) "__init__" p2) (e :: es) [] pos) (envF F f L) = (do
      let ov ← attributeBase (.Call (.Name "super" p0) [] [] p1) "__init__" (envF F f L) (eval (.Call (.Name "super" p0) [] [] p1) (envF F f L))
      standAt p2.atName
      let (g, first) ← holding [ov] (getMethod ov "__init__" (pl L))
      callWith pos g first (backTo pos (starEach (e :: es) (envF F f L))) []))
    (hse : ∀ env, starEach (e :: es) env = (false, eval e env) :: starEach es env) (hpl : ∀ env, (backTo pos (starEach es env)).any (·.1) = false)
    (hsw : ∀ L, swapsWith (.Call (.Attribute (.Call (.Name "super" p0) [] [] p1) "__init__" p2) (e :: es) [] pos) none pos0.line (envF F f L) = pure false)
    (len : ∀ vs H Q E, sp vs H Q E → vs.length = ps.length)
    (hbody : ∀ (A : Around) (outer : List Env) (s : Shared) (H : Hp) (vs : List V) (Q : VK) (E : XK), Room k (A.deeper (envF F f s.heap.objs.size)) → sp vs H Q E →
      ∃ (a C : Addr) (vr : List V) (te : TA) (t : TS), vs = .ref a :: vr ∧ SupC K D C ∧ H a = some (exo a C none) ∧ PA (ncx CX P w K mg base N F f A outer s H E) (e :: es) te ∧ PSs (ncx CX P w K mg base N F f A outer s H E) rest t ∧
        te (startF N vs [some (.ref D)]) H fun us H1 => us.length ≤ 1000 ∧ H1 a = some (exo a C none) ∧ t { nx := fun _ H' => Q .non H', rt := Q } (startF N vs [some (.ref D)]) H1) :
    FnOk P w K mg base CX (k + 1) f (fnX F.name F.qual F.params F.body F.scope F.cl dV kV doc pm an (.ref F.c) ct) ps sp := by
  refine ⟨len, fun A outer s H args us vs Q E hr e0 hbd r hsp => ?_⟩
  have hl := len _ _ _ _ hsp
  have KX : K.In s.heap := e0.mod.kin.keeps fun b o e => (e0.bs b o e).1
  have lim : s.heap.NoLimit := e0.mod.nolimit.keeps fun b o e => (e0.bs b o e).1
  obtain ⟨a, C, vr, te, t, rfl, SC, ea, pa, pss, hq⟩ := hbody A outer s H vs Q E (hr.deeper _) hsp
  obtain ⟨cl0, cld, csl, hcc⟩ := T.cell
  have Kb := e0.mod.kin
  have hcell : s.heap.IsCell cc (some (.ref D)) := ⟨_, KX _ _ hcc, rfl⟩
  have hcl : ∀ y c, F.cl.lookup y = some c → y = ("__class__" : Str) ∧ c = cc := fun y c e => by
    rw [T.cl] at e
    by_cases hy : y = ("__class__" : Str)
    · subst hy
      have e' : some cc = some c := by simpa [List.lookup] using e
      exact ⟨rfl, (Option.some.inj e').symm⟩
    · have hf : (y == ("__class__" : Str)) = false := beq_eq_false_iff_ne.mpr hy
      simp [List.lookup, hf] at e
  have cells : CellsAt F.cl [("__class__" : Str)] [some (.ref D)] s.heap H := by
    refine ⟨rfl, fun y c e => ?_, fun x y c e1 e2 => ?_, fun j y e => ?_⟩
    · obtain ⟨_, rfl⟩ := hcl y c e
      exact ⟨(e0.bs _ _ (Kb _ _ hcc)).2, _, hcell⟩
    · rw [(hcl x c e1).1, (hcl y c e2).1]
    · match j, e with
      | 0, e =>
        cases e
        refine ⟨cc, by rw [T.cl]; simp [List.lookup], fun v ev => ?_⟩
        cases ev
        exact ⟨.ref D, rfl, hcell⟩
  refine ks_codeAny_call_defAt (body := F.body) (binds := ps.zip us) hr.depth (KX _ _ lk) rfl lim (codeRec_of KX hcd) rfl hbd S.nocell (fun ⟨n, _⟩ hy => S.par n (List.of_mem_zip hy).1) (fun h₁ hns kp => ?_) S.co S.gen S.kind
  have I : Inv (ncx CX P w K mg base N F f A outer s H E) [] (startF N (.ref a :: vr) [some (.ref D)]) H { s with heap := h₁, toks := s.toks + (ps.zip us).length } := inv_startN S hr.hd e0 hl r cells hns kp
  show _root_.PySem.wpAt (model P w) (A.deeper (envF F f s.heap.objs.size)) (.func F.body (envF F f s.heap.objs.size)) (execs F.body (envF F f s.heap.objs.size)) _ _ _
  have fin : ∀ {σ' : L2.St} {H' : Hp} {v : V} {u : Value} {s' : Shared}, Inv (ncx CX P w K mg base N F f A outer s H E) [] σ' H' s' → L2.RelV v u → Q v H' → CE outer P w H s Q u s' :=
    fun {σ' H' v u s'} J rv q => ⟨v, H', J.os, J.bare, J.base, J.hok, rv, q⟩
  obtain ⟨cdD, hcD⟩ := T.isD
  obtain ⟨ccl, cdd, cvs, ccs, file, tf, hco, hv2, hfile⟩ := T.file
  obtain ⟨t1, hx⟩ := exo_at I.hok ea
  have KX1 : K.In h₁ := I.kIn
  obtain ⟨oD, hD1, hD2⟩ : ∃ oD, h₁.get? D = some oD ∧ oD.data = .cls cdD := by
    unfold clsIn at hcD
    split at hcD
    · rename_i ho
      cases hcD
      exact ⟨_, KX1 _ _ ho, rfl⟩
    · cases hcD
  have selfL : F.scope.names.lookup ar.arg = some .local := S.par _ (List.mem_of_getElem? ha)
  have selfV : (ps.zip us).reverse.lookup ar.arg = some (.ref a) := by
    have ndP : ps.Nodup := by
      have q := S.nd.sublist (List.take_sublist (ps.length + 1) N)
      rw [show ps.length + 1 = ps.length + [("__class__" : Str)].length from rfl, S.pre] at q
      exact (List.nodup_append.mp q).1
    cases r with
    | cons ra rr =>
      obtain rfl := (show _ = Value.ref a from ra)
      exact zip_look (i := 0) ndP ha rfl
  obtain ⟨mb, hb1, hb2⟩ := e0.mod.blt
  rw [hb]
  refine ks_wpAt_execs_cons (ks_wpAt_Expr_any (ks_wpAt_MethodCall (pl := pl _) (ks_wpAt_super_base (f := f) (cc := F.c) (ar := ar) (file := file) (tf := tf) T.ks T.kc (by decide) rfl (kp _ _ (KX _ _ lk)) rfl hp rfl (KX1 _ _ hco) rfl hv2 hfile T.htop ?_) (hev _)) I.quiet (hsw _))
  refine ks_loadName_global S.kind T.ks (loadGlobal_builtin (I.mod.glob.keeps I.bk) T.sup (hb1.keeps I.bk) ((hb2 _ (by decide)).trans (by rfl)) ⟨rfl, ?_⟩)
  refine wpAny_loadName_free S.kind T.kc (by show F.cl.lookup _ = some cc; rw [T.cl]; simp [List.lookup]) ⟨_, KX1 _ _ hcc, rfl⟩ ?_
  refine wpAny_loadName_local S.kind selfL hns selfV ?_
  refine ks_wpAny_isType_cls hD1 hD2 ⟨rfl, ?_⟩
  obtain ⟨hh, gg, dd, tt, oss⟩ := s
  refine ks_wpAny_call_super hD1 hD2 hx rfl (fun c z => nomatch z) (looks_mroIn KX1 SC.sub) (fun h2 hso k2 => ?_)
  have I2 : Inv (ncx CX P w K mg base N F f A outer ⟨hh, gg, dd, tt, oss⟩ H E) [] (startF N (.ref a :: vr) [some (.ref D)]) H ⟨h2, gg, dd, tt + (ps.zip us).length, oss⟩ := I.kept (t' := tt + (ps.zip us).length) k2
  obtain ⟨cd, hc, hf⟩ := Option.bind_eq_some_iff.mp SC.fnd
  have inst : PySem.W.InstAt h2 a _ C none := ⟨k2 _ _ hx, rfl, rfl, trivial⟩
  have hI : Looks (model P w) h2 (isInstance (.ref a) (.type "ValueError")) true := inst.type.andThen (looks_subIn I2.kIn SC.isV)
  refine kxs_getMethod kxs_ValueError hso (looks_opaque I2.kIn SC.any) (l₀ := cd.mro) (fun A Q E s k q => wpAny_bind ((looks_clsIn I2.kIn hc) A _ E s k (wpAny_pure q))) rfl I2.kIn hf hI (ks_ne I2.kIn inst hc) (by decide) ?_
  have I3 : Inv (ncx CX P w K mg base N F f A outer ⟨hh, gg, dd, tt, oss⟩ H E) [] (startF N (.ref a :: vr) [some (.ref D)]) H ⟨h2.push (kxs_mw "ValueError.__init__" a), gg, dd, tt + (ps.zip us).length + 1, oss⟩ :=
    I2.kept (t' := tt + (ps.zip us).length + 1) fun b o z => Heap.get?_push_of_some _ z
  have I4 := I3.pins_of (pins' := [(h2.objs.size, kxs_mw "ValueError.__init__" a)]) (fun p hp => by
    have ep : p = (h2.objs.size, kxs_mw "ValueError.__init__" a) := by simpa using hp
    rw [ep]
    exact ⟨Heap.get?_push_size _ rfl, I2.hok.fresh (Nat.le_refl _), Nat.ne_of_gt I2.lt, I2.nofs (Nat.le_refl _), fun v z => nomatch z⟩)
  have run := pa.run pos _ _ _ H _ I4 hq
  rw [hse] at run
  show wpAny _ _ (callWith pos (.ref h2.objs.size) [] (backTo pos (starEach (e :: es) (envF F f hh.objs.size))) []) _ _ _
  rw [hse]
  refine kxs_callWith (i := "ValueError.__init__") (x := a) (by show (false || (backTo pos (starEach es _)).any (·.1)) = false; rw [hpl]; rfl) (evalArgs_plain (wpAny_mono run (fun ws s1 hap => ?_) fun _ _ z => z))
  obtain ⟨vs1, H1, J, rv, hlen, ea1, ht⟩ := hap
  refine ⟨(J.pin (h2.objs.size, kxs_mw "ValueError.__init__" a) (by simp)).1, ?_⟩
  have hu := (J.pin (h2.objs.size, kxs_mw "ValueError.__init__" a) (by simp)).1
  have J := J.pins_of (pins' := []) (fun p hp => by cases hp)
  obtain ⟨t2, ho⟩ := exo_at J.hok ea1
  obtain ⟨nm, q, N', bs, bm, sn, sub, ab, col, dd', k0, k1, k2', k3, k5, hC, _⟩ := SC.oex.cls
  have hC := J.kIn _ _ hC
  obtain ⟨hp1, g1, d1, tk1, os1⟩ := s1
  refine wpAny_call (codeAny_of_tree ?_)
  show wpAny _ _ (callAny (.ref h2.objs.size) ⟨ws, []⟩) _ _ _
  simp only [callAny]
  refine wpAny_bind (wpAny_load hu ?_)
  simp only [kxs_mw, show (Value.type "method-wrapper" == Value.type "method" || Value.type "method-wrapper" == Value.type "builtin_function_or_method" || Value.type "method-wrapper" == Value.type "method-wrapper") = true by decide, if_true]
  refine KFB.if_so (by decide) ?_
  refine wpAny_bind (check_bound_init PySem.F.excBase_ValueError.toExcCallFacts hC ho rfl ?_)
  refine wpAny_bind (wpAny_pure (wpAny_pure ?_))
  have hws : ws.length ≤ sizeLine := by
    rw [← Paired.length rv, sizeLine_eq]
    omega
  refine ⟨plainId_quiet PySem.F.excBase_ValueError.init.plain _, codeAny_builtin PySem.F.excBase_ValueError.initEntry (exc_init_tree (cls := .ref C) (t0 := t2) (dv := none) (c2 := .none) (c3 := .none) (b4 := .bool false) ho hws fun h5 k5 e5 _ => ?_)⟩
  have J2 := J.write (t' := tk1) (x := a) (e := a) (o := exo a C none) (by rw [ea1]; exact True.intro) (.inl rfl) k5 ⟨_, e5⟩ (exo_ok e5)
  have eu : upd H1 a (exo a C none) = H1 := by
    funext b
    by_cases hb : b = a
    · rw [hb, upd_same, ea1]
    · rw [upd_ne hb]
  rw [eu] at J2
  refine wpAt_of_wpAny (wpAny_mono (pss.run [] _ _ H1 _ J2 ht) (fun fl s' hs => ?_) fun _ _ z => z)
  cases fl with
  | ret u =>
    obtain ⟨v, σ', H', J3, rv, q⟩ := hs
    exact fin J3 rv q
  | next =>
    obtain ⟨σ', H', J3, q⟩ := hs
    exact fin (v := V.non) (u := Value.none) J3 rfl q
  | brk =>
    obtain ⟨_, _, _, q⟩ := hs
    exact False.elim q
  | cont =>
    obtain ⟨_, _, _, q⟩ := hs
    exact False.elim q
end
end Oc
/-! ### own classes: fields by chunks, + and == by an own method -/
namespace Oc
open PySem PySem.Spec PyProof.Rows L2
section
variable {X : Cx} {o e value a b : Expr} {f : Str} {pos pos' : Pos} {ta tb tv : TE} {C : Addr}
def FldAt (C : Addr) (f : Str) (H : Hp) (p : Addr) (v : V) : Prop := ∃ dx fs, H p = some (.ins C dx fs) ∧ fs.lookup f = some v
theorem fldAt_of {H : Hp} {p dx : Addr} {fs : List (Str × V)} {L : List Asr} {v : V} (S : Sts H (pto p (.ins C dx fs) :: L)) (l : fs.lookup f = some v) : FldAt C f H p v := ⟨dx, fs, S.hd, l⟩
/-- e.f -/
def tFldO (C : Addr) (f : Str) (ta : TE) : TE := fun σ H Q => ta σ H fun x H1 => ∃ p v, x = .ref p ∧ FldAt C f H1 p v ∧ Q v H1
theorem oc_fld (c : Cls X.K C) (n : NoAttr X.K C f) (he : PE X e ta) (hb : attributeBase e f X.env (eval e X.env) = eval e X.env := by rfl) : PE X (.Attribute e f pos) (tFldO C f ta) := by
  refine ⟨fun pn s0 σ H Q J h => attr_of hb (thn (he.run pn s0 σ H _ J h) fun u s1 ⟨x, H1, J1, rx, p, v, ex, ⟨dx, fs, hp, l⟩, q⟩ => ?_)⟩
  subst ex
  obtain rfl : u = Value.ref p := rx
  exact getattr_ok J1 hp c n l fun u' s2 J2 ru => ⟨v, H1, J2, ru, q⟩
/-- o.m(..) -/
def IsIns (C : Addr) (m : Str) (H : Hp) (p : Addr) : Prop := ∃ dx fs, H p = some (.ins C dx fs) ∧ fs.lookup m = none
def tMethO (C : Addr) (m : Str) (sp : Sp) (ta : TE) (t : TA) : TE := fun σ H Q => ta σ H fun x H1 => ∃ p, x = .ref p ∧ IsIns C m H1 p ∧ t σ H1 fun vs H2 => sp (.ref p :: vs) H2 Q E0
/-- o.f = value -/
def sFldO (C : Addr) (f : Str) (ta tv : TE) : TS := fun D σ H => tv σ H fun y H1 => ta σ H1 fun x H2 => ∃ p, x = .ref p ∧ ∃ dx fs L, Sts H2 (pto p (.ins C dx fs) :: L) ∧ fs.length ≤ 100 ∧ ∀ H', Sts H' (pto p (.ins C dx (putF f y fs)) :: L) → D.nx σ H'
theorem oc_fldset (c : Cls X.K C) (n : NoAttr X.K C f) (ha : PE X o ta) (hv : PE X value tv) (hs : swapsWith value (some (.Attribute o f pos')) pos.line X.env = pure false := by rfl) :
    PS X (.Assign [.Attribute o f pos'] value pos) (sFldO C f ta tv) := by
  refine ⟨fun pn s0 σ H D J h => plainObj_wpAny_Assign_Attribute (thn (hv.run pn s0 σ H _ J h) fun u s1 ⟨y, H1, J1, ry, q⟩ => thn (ha.run pn s1 σ H1 _ J1 q) fun ov s2 ⟨x, H2, J2, rx, p, ex, dx, fs, L, S, hl, q2⟩ => ?_) hs⟩
  subst ex
  obtain rfl : ov = Value.ref p := rx
  exact setattr_ok J2 S.hd c n (by omega) ry fun s3 J3 => ⟨σ, _, J3, q2 _ (S.put _)⟩
/-- an exception never leaves -/
theorem noPass {P : Program} {w : World} {X : Cx} {σ : L2.St} : PassesAt (L2.CX P w) X σ (fun _ _ _ => False) := fun _ _ _ _ _ _ ⟨_, _, _, _, _, _, _, _, _, _, _, _, z⟩ => z.elim
/-- run an own method of a on (a, b) -/
theorem run2 {CX : CXT} {k : Nat} {g : Addr} {fd : FuncData} {ps : List Str} {sp : Sp} {E : L2.St → XK} {pins : List (Addr × Obj)} {σ : L2.St} {H : Hp} {s : Shared} {Q : VK} {p q : Addr} (F : FnOk X.prog X.w X.K X.mg X.base CX k g fd ps sp) (hr : Room k X.A) (hb : Binds X.K fd ps [])
    (hx : PassesAt CX X σ (E σ)) (I : Inv X pins σ H s) (h : sp [.ref p, .ref q] H Q (E σ)) : wpAny (model X.prog X.w) X.A (call (.ref g) [.ref p, .ref q]) (PySem.W.CmpBack (EP X pins σ Q)) X.xe s :=
  wpAny_mono (run_fnS F hr hb hx I (.cons (show L2.RelV (.ref p) (.ref p) from rfl) (.cons (show L2.RelV (.ref q) (.ref q) from rfl) .nil)) h) (fun u s' z => by
    obtain ⟨v, H', J, rv, q⟩ := z
    cases v with
    | non => cases rv; exact ⟨.non, H', J, rfl, q⟩
    | bl i => cases rv; exact ⟨.bl i, H', J, rfl, q⟩
    | int i => obtain ⟨t, rfl⟩ := rv; exact ⟨.int i, H', J, ⟨t, rfl⟩, q⟩
    | str i => obtain ⟨t, rfl⟩ := rv; exact ⟨.str i, H', J, ⟨t, rfl⟩, q⟩
    | byt i => obtain ⟨t, rfl⟩ := rv; exact ⟨.byt i, H', J, ⟨t, rfl⟩, q⟩
    | flt i => obtain ⟨t, rfl⟩ := rv; exact ⟨.flt i, H', J, ⟨t, rfl⟩, q⟩
    | ref i => cases rv; exact ⟨.ref i, H', J, rfl, q⟩
    | ty i => cases rv; exact ⟨.ty i, H', J, rfl, q⟩) fun _ _ z => z
/-- a + b, a == b by the own method of a's class; b of that class too -/
def tOwn2 (C : Addr) (sp : Sp) (E : L2.St → XK) (ta tb : TE) : TE := fun σ H Q => ta σ H fun x H1 => tb σ H1 fun y H2 => ∃ p q, x = .ref p ∧ y = .ref q ∧ (∃ dx fs, H2 p = some (.ins C dx fs)) ∧ (∃ dx fs, H2 q = some (.ins C dx fs)) ∧ sp [.ref p, .ref q] H2 Q (E σ)
theorem ins_at {pins : List (Addr × Obj)} {σ : L2.St} {H : Hp} {s : Shared} {p dx : Addr} {fs : List (Str × V)} (I : Inv X pins σ H s) (h : H p = some (.ins C dx fs)) : ∃ od, PySem.W.InstAt s.heap p (PySem.W.instObj C dx) C (some od) := by
  obtain ⟨mA, J, _⟩ := ins_get I.hok h
  obtain ⟨od, J, _⟩ := J.look
  exact ⟨od, J⟩
theorem oc_addOwn {CX : CXT} {k : Nat} {g : Addr} {fd : FuncData} {ps : List Str} {sp : Sp} {E : L2.St → XK} (hc : PySem.W.selfFirst X.K C = true) (hs : PySem.W.findIn X.K (.ref C) "__add__" = some (some (.ref g))) (hf : PySem.W.isFn X.K (.ref g) = true)
    (F : FnOk X.prog X.w X.K X.mg X.base CX k g fd ps sp) (hr : Room k X.A) (hb : Binds X.K fd ps []) (hx : ∀ σ, PassesAt CX X σ (E σ)) (ha : PE X a ta) (hb2 : PE X b tb) : PE X (.BinOp a .Add b pos) (tOwn2 C sp E ta tb) := by
  refine ⟨fun pn s0 σ H Q J h => wpAny_BinOp (thn (ha.run pn s0 σ H _ J h) fun u s1 ⟨x, H1, J1, rx, q1⟩ => thn (hb2.run pn s1 σ H1 _ J1 q1) fun v s2 ⟨y, H2, J2, ry, p, q, ex, ey, ⟨dx, fs, e1⟩, ⟨dy, gs, e2⟩, h2⟩ => ?_)⟩
  subst ex ey
  obtain rfl : u = Value.ref p := rx
  obtain rfl : v = Value.ref q := ry
  obtain ⟨m, fr⟩ := J2.fr
  obtain ⟨od, i1⟩ := ins_at J2 e1
  obtain ⟨od2, i2⟩ := ins_at J2 e2
  exact PySem.W.binop_K (op := .Add) fr J2.ok.mod.kin i1 i2.type hc hs hf (run2 F hr hb (hx σ) J2 h2)
theorem oc_eqOwn {k : Nat} {g : Addr} {fd : FuncData} {ps : List Str} {sp : Sp} (hs : PySem.W.findIn X.K (.ref C) "__eq__" = some (some (.ref g))) (hf : PySem.W.isFn X.K (.ref g) = true)
    (F : FnOk X.prog X.w X.K X.mg X.base CX0 k g fd ps sp) (hr : Room k X.A) (hb : Binds X.K fd ps []) :
    OpR X (compareOp .Eq) (fun x y H Q => ∃ p q, x = .ref p ∧ y = .ref q ∧ (∃ dx fs, H p = some (.ins C dx fs)) ∧ (∃ dx fs, H q = some (.ins C dx fs)) ∧ sp [.ref p, .ref q] H Q E0) := by
  intro pn s2 σ H2 x y u v Q J2 rx ry ⟨p, q, ex, ey, ⟨dx, fs, e1⟩, ⟨dy, gs, e2⟩, h2⟩
  subst ex ey
  obtain rfl : u = Value.ref p := rx
  obtain rfl : v = Value.ref q := ry
  obtain ⟨m, fr⟩ := J2.fr
  obtain ⟨od, i1⟩ := ins_at J2 e1
  obtain ⟨od2, i2⟩ := ins_at J2 e2
  have un : X.A.units < cLine := by
    have := hr.un
    omega
  exact PySem.W.cmp_K (op := .Eq) (tb := .ref C) un fr J2.ok.mod.kin i1 i2.type (by simp [PySem.W.notFirst]) hs hf (run2 (E := fun _ => E0) F hr hb (fun _ _ _ _ _ _ z => z.elim) J2 h2)
theorem tMethO_eq {m : Str} {sp : Sp} {t : TA} : tMethO C m sp ta t = tMeth C m sp [] E0 ta t := by
  funext σ H Q
  unfold tMethO tMeth
  congr
  funext x H1
  refine propext ⟨fun ⟨p, e, ⟨dx, fs, h, l⟩, q⟩ => ⟨p, dx, fs, e, h, l, ?_⟩, fun ⟨p, dx, fs, e, h, l, q⟩ => ⟨p, e, ⟨dx, fs, h, l⟩, ?_⟩⟩
  · subst e
    simpa only [List.append_nil] using q
  · subst e
    simpa only [List.append_nil] using q
theorem oc_meth {m : Str} {g : Addr} {k : Nat} {fd : FuncData} {ps : List Str} {sp : Sp} {e1 : Expr} {es : List Expr} {t : TA} {apos : Pos} {pl : Sem Bool} (he : PE X o ta) (c : Cls X.K C) (hm : Meth X.K C m g) (F : FnOk X.prog X.w X.K X.mg X.base CX0 k g fd ps sp) (hr : Room k X.A) (hb : Binds X.K fd ps []) (ha : PA X (e1 :: es) t)
    (hst : starEach (e1 :: es) X.env = (false, eval e1 X.env) :: starEach es X.env := by rfl) (hpl : (backTo pos (starEach es X.env)).any (·.1) = false := by rfl)
    (ht : eval (.Call (.Attribute o m apos) (e1 :: es) [] pos) X.env = (do
      let ov ← eval o X.env
      standAt apos.atName
      let (f, first) ← holding [ov] (getMethod ov m pl)
      callWith pos f first (backTo pos (starEach (e1 :: es) X.env)) (backToKw pos (keywordEach [] X.env))) := by rfl) :
    PE X (.Call (.Attribute o m apos) (e1 :: es) [] pos) (tMethO C m sp ta t) := by
  rw [tMethO_eq]
  exact pe_meth (E := E0) he c hm F hr hb .nil pass0 ha hst hpl ht
theorem oc_meth0 {m : Str} {g : Addr} {k : Nat} {fd : FuncData} {ps : List Str} {sp : Sp} {apos : Pos} {pl : Sem Bool} (he : PE X o ta) (c : Cls X.K C) (hm : Meth X.K C m g) (F : FnOk X.prog X.w X.K X.mg X.base CX0 k g fd ps sp) (hr : Room k X.A) (hb : Binds X.K fd ps [])
    (ht : eval (.Call (.Attribute o m apos) [] [] pos) X.env = (do
      let ov ← eval o X.env
      standAt apos.atName
      let (f, first) ← holding [ov] (getMethod ov m pl)
      callWith pos f first (backTo pos (starEach [] X.env)) (backToKw pos (keywordEach [] X.env))) := by rfl) :
    PE X (.Call (.Attribute o m apos) [] [] pos) (tMethO C m sp ta tNil) := by
  rw [tMethO_eq]
  exact pe_meth0 (E := E0) he c hm F hr hb .nil pass0 ht
theorem noPass0 {X : Cx} {σ : L2.St} : PassesAt CX0 X σ E0 := fun _ _ _ _ _ _ z => z.elim
/-- isinstance(x, C): an instance of C -/
theorem oc_isiC (c : C8.InsC X.K C) : CallR X (.builtin "isinstance") (fun xs H Q => ∃ p, xs = [.ref p, .ref C] ∧ (∃ dx fs, H p = some (.ins C dx fs)) ∧ Q (.bl true) H) := fun pins s σ H xs us Q I r ⟨p, e, ⟨dx, fs, h⟩, q⟩ =>
  C8.call_isC c pins s σ H xs us Q I r ⟨p, dx, fs, e, h, q⟩
end
/-- a new instance, in chunks -/
theorem Sts.made {L : List Asr} {H : Hp} {x dx C : Addr} (S : Sts H L) (hx : H x = none) (hd : H dx = none) (ne : dx ≠ x) : Sts (upd (upd H dx (.own x)) x (.ins C dx [])) (pto x (.ins C dx []) :: pto dx (.own x) :: L) :=
  (S.new (.own x) hd).new _ (by rw [upd_ne (Ne.symm ne)]; exact hx)
/-- C(..), positional -/
def tMakeO (C : Addr) (sp : Sp) (dvs : List V) (t : TA) : TE := fun σ H Q => t σ H fun vs H1 => ∃ L, Sts H1 L ∧ ∀ x dx H2, Sts H2 (pto x (.ins C dx []) :: pto dx (.own x) :: L) → sp (.ref x :: (vs ++ dvs)) H2 (fun v H3 => v = .non ∧ Q (.ref x) H3) E0
theorem oc_make {X : Cx} {e : Expr} {es : List Expr} {p pos : Pos} {x : Str} {k : Nat} {C g : Addr} {fd : FuncData} {ps : List Str} {sp : Sp} {dvs : List V} {ds : List Value} {t : TA} (M : Mk X.K C g) (F : FnOk X.prog X.w X.K X.mg X.base CX0 k g fd ps sp) (hr : Room (k + 1) X.A) (hg : Gl X x) (hm : X.mg x = some (.ref C)) (hb : Binds X.K fd ps ds) (hd : Vals dvs ds)
    (ha : PA X (e :: es) t) (hdb : (x == ("__debug__" : Str)) = false := by decide) (he : starEach (e :: es) X.env = (false, eval e X.env) :: starEach es X.env := by rfl) (hpl : (backTo pos (starEach es X.env)).any (·.1) = false := by rfl) :
    PE X (.Call (.Name x p) (e :: es) [] pos) (tMakeO C sp dvs t) := by
  refine ⟨fun pn s0 σ H Q J h => ?_⟩
  refine wpAny_Call_Name_kw (ld_glob J hg hm ?_ hdb)
  refine PySem.W.callWith_K (h₀ := X.base) J.ok.mod.kin M.kp (thn (ha.run pos pn s0 σ H _ J h) fun us s1 ⟨vs, H1, J1, r, L, S, q⟩ => ⟨J1.kIn, ?_⟩) he hpl
  exact run_make M F hr hb hd pass0 J1 r fun x dx h1 h2 ne => q x dx _ (S.made h1 h2 ne)
/-- C(.., k = v) -/
def tMakeE (C : Addr) (n m : Nat) (sp : Sp) (gV : List V → List V → List V) (t tk : TA) : TE := fun σ H Q => t σ H fun vs H1 => tk σ H1 fun zs H2 => vs.length = n ∧ zs.length = m ∧ ∃ L, Sts H2 L ∧ ∀ x dx H3, Sts H3 (pto x (.ins C dx []) :: pto dx (.own x) :: L) →
  sp (gV (.ref x :: vs) zs) H3 (fun v H4 => v = .non ∧ Q (.ref x) H4) E0
theorem oc_makeK {X : Cx} {e : Expr} {es : List Expr} {p pos : Pos} {x : Str} {k n : Nat} {C f : Addr} {fd : FuncData} {ps ks : List Str} {sp : Sp} {t tk : TA} {kws : List Keyword} {g : List Value → List Value → List Value} {gV : List V → List V → List V} (M : Mk X.K C f) (F : FnOk X.prog X.w X.K X.mg X.base CX0 k f fd ps sp) (hr : Room (k + 1) X.A) (hg : Gl X x) (hm : X.mg x = some (.ref C))
    (hb : KBn X.K fd ps (n + 1) ks g gV) (ha : PA X (e :: es) t) (hkw : PK X kws tk)
    (hall : (backToKw pos (keywordEach kws X.env)).all (·.1.isSome) = true := by rfl) (hks : (backToKw pos (keywordEach kws X.env)).filterMap (·.1) = ks := by rfl) (hdb : (x == ("__debug__" : Str)) = false := by decide)
    (he : starEach (e :: es) X.env = (false, eval e X.env) :: starEach es X.env := by rfl) (hpl : ((backTo pos (starEach (e :: es) X.env)).any (·.1) || (backToKw pos (keywordEach kws X.env)).any (·.1.isNone)) = false := by rfl) :
    PE X (.Call (.Name x p) (e :: es) kws pos) (tMakeE C n ks.length sp gV t tk) := by
  refine ⟨fun pins s σ H Q I h => ?_⟩
  refine wpAny_Call_Name_kw (ld_glob I hg hm ?_ hdb)
  refine PySem.W.callWith_KW (h₀ := X.base) I.ok.mod.kin M.kp hall (thn (ha.run pos pins s σ H _ I h) fun us s1 ⟨vs, H1, I1, r, q⟩ => ?_) hpl he
  refine thn (hkw.run pos pins s1 σ H1 _ I1 q) fun ws s2 ⟨zs, H2, I2, rz, l1, l2, L, S, q2⟩ => ⟨I2.kIn, ?_⟩
  rw [hks]
  exact run_makeK M F hr hb pass0 I2 r rz l1 l2 fun x dx h1 h2 ne => q2 x dx _ (S.made h1 h2 ne)
end Oc
/-! ### raise, try, calls in an except suite -/
namespace Oc
open PySem PySem.Spec PyProof.Rows L2
section
variable {P : Program} {w : World} {K : PySem.W.Frag} {mg : Str → Option Value} {base : Heap}
/-- a def that may raise -/
theorem okN {x qual : Str} {st : Stmt} {f : Addr} {fd : FuncData} {N ps : List Str} {k : Nat} {sp : Sp} (F : Fun K x qual st f fd) (S : FnScope N ps (defScope st)) (len : ∀ vs H Q E, sp vs H Q E → vs.length = ps.length)
    (hbody : ∀ (cdv : Value) (A : Around) (outer : List Env) (s : Shared) (H : Hp) (vs : List V) (Q : VK) (E : XK), Room k (A.deeper (envOfC qual (defScope st) s.heap.objs.size f cdv)) → sp vs H Q E →
      ∃ t, PSs (cxOf (L2N.CX P w) P w K mg base N qual (defScope st) f cdv A outer s H E) (defBody st) t ∧ t { nx := fun _ H' => Q .non H', rt := Q } (start N vs) H) : FnOk P w K mg base (L2N.CX P w) (k + 1) f fd ps sp := by
  obtain ⟨oc, od, kV, doc, pm, an, cdv, ct, osl, rfl, lk, hcd⟩ := F.ex
  exact fn_of lk hcd S len fun A outer s H vs Q E hr hsp => hbody cdv A outer s H vs Q E hr hsp
/-- a def called in an except suite -/
theorem okH {x qual : Str} {st : Stmt} {f : Addr} {fd : FuncData} {N ps : List Str} {k : Nat} {sp : Sp} (F : Fun K x qual st f fd) (S : FnScope N ps (defScope st)) (len : ∀ vs H Q E, sp vs H Q E → vs.length = ps.length)
    (hbody : ∀ (cdv : Value) (A : Around) (outer : List Env) (s : Shared) (H : Hp) (vs : List V) (Q : VK) (E : XK) (p : Addr × Obj), L2H.Hot1 A p → L2H.RoomH k (A.deeper (envOfC qual (defScope st) s.heap.objs.size f cdv)) → sp vs H Q E →
      ∃ t, PSs (L2H.cxH CX0 P w K mg base N qual (defScope st) f cdv A outer s H E p) (defBody st) t ∧ t { nx := fun _ H' => Q .non H', rt := Q } (start N vs) H) : L2H.FnH P w K mg base CX0 (k + 1) f fd ps sp := by
  obtain ⟨oc, od, kV, doc, pm, an, cdv, ct, osl, rfl, lk, hcd⟩ := F.ex
  exact L2H.fn_ofH lk hcd S len fun A outer s H vs Q E p hot hr hsp => hbody cdv A outer s H vs Q E p hot hr hsp
end
/-- the whole heap as a chunk; its tuples -/
def whole (R : Hp) : Asr := .own fun h => h = noT R
def tmOf (R : Hp) : Tmap := fun a => match R a with | some (.tup vs) => some vs | _ => none
def imw (R : Hp) : Asr := .im (tmOf R)
theorem tmOf_some {R : Hp} {a : Addr} {vs : List V} : tmOf R a = some vs ↔ R a = some (.tup vs) := by
  unfold tmOf
  cases R a with
  | none => exact ⟨(fun e => nomatch e), (fun e => nomatch e)⟩
  | some o =>
    cases o with
    | tup ys => exact ⟨fun e => by cases e; rfl, fun e => by cases e; rfl⟩
    | _ => exact ⟨(fun e => nomatch e), (fun e => nomatch e)⟩
theorem sts_whole (H : Hp) : Sts H [whole H, imw H] := ⟨⟨noT H, Subh.refl _, rfl, fun _ => none, (fun _ _ e => nomatch e), trivial, trivial⟩, fun τ hm => by
  have e : τ = tmOf H := by
    rcases List.mem_cons.mp hm with q | q
    · cases q
    · have q := List.mem_singleton.mp q
      cases q
      rfl
  subst e
  exact fun a vs e => tmOf_some.mp e⟩
theorem whole_in {R H : Hp} {M L : List Asr} (S : Sts H (whole R :: imw R :: M)) (T : Sts R L) : Sts H (L ++ M) := by
  obtain ⟨⟨h, s, eh, h2, s2, _, S⟩, tk⟩ := S
  have eh : h = noT R := eh
  subst eh
  refine ⟨St.join T.st s (S.mono (cutH_sub _ _)), fun τ hm a vs e => ?_⟩
  rcases List.mem_append.mp hm with q | q
  · exact tk (tmOf R) (List.mem_cons_of_mem _ List.mem_cons_self) a vs (tmOf_some.mpr (T.tk τ q a vs e))
  · exact tk τ (List.mem_cons_of_mem _ (List.mem_cons_of_mem _ q)) a vs e
theorem whole_none {R H : Hp} {L : List Asr} {a : Addr} {o : HO} (S : Sts H (pto a o :: whole R :: imw R :: L)) : R a = none := by
  have ha := S.hd
  have hT := S.hdT
  obtain ⟨⟨h, s, rfl, k, t, ek, _⟩, tk⟩ := S
  have ek : k = noT R := ek
  subst ek
  cases e : R a with
  | none => rfl
  | some u =>
    cases hu : isT u with
    | true =>
      cases u with
      | tup vs =>
        have z := tk (tmOf R) (List.mem_cons_of_mem _ (List.mem_cons_of_mem _ List.mem_cons_self)) a vs (tmOf_some.mpr e)
        rw [ha] at z
        cases z
        cases hT
      | _ => cases hu
    | false =>
      have z := (cutH_some.mp (t _ _ (noT_some.mpr ⟨hu, e⟩))).1
      rw [one_self] at z
      cases z
/-- self.f = y, the first one, of an exception that is being made -/
def sOst1 (C : Addr) (f : Str) (to te : TE) : TS := fun D σ H => te σ H fun y H1 => to σ H1 fun x H2 => ∃ a, x = .ref a ∧ ∃ L, Sts H2 (pto a (exo a C none) :: L) ∧ ∀ dx H', Sts H' (pto a (exo a C (some dx)) :: pto dx (exd dx [(f, y)]) :: L) → D.nx σ H'
/-- .. a further one -/
def sOst2 (C : Addr) (f : Str) (to te : TE) : TS := fun D σ H => te σ H fun y H1 => to σ H1 fun x H2 => ∃ a, x = .ref a ∧ ∃ dx fs L, Sts H2 (pto a (exo a C (some dx)) :: pto dx (exd dx fs) :: L) ∧ fs.length ≤ 900 ∧ ∀ H', Sts H' (pto a (exo a C (some dx)) :: pto dx (exd dx ((f, y) :: fs)) :: L) → D.nx σ H'
section
variable {X : Cx} {o e : Expr} {es : List Expr} {to te : TE} {ta : TA} {f : Str} {p p' p1 p2 pos : Pos} {C : Addr}
theorem oc_ost1 (T : OexC X.K C) (n : PySem.W.findIn X.K (.ref C) f = some none) (ho : PE X o to) (he : PE X e te) (hs : swapsWith e (some (.Attribute o f p')) pos.line X.env = pure false := by rfl) : PS X (.Assign [.Attribute o f p'] e pos) (sOst1 C f to te) := by
  refine ⟨fun pins s σ H D I h => plainObj_wpAny_Assign_Attribute (thn (he.run pins s σ H _ I h) fun v s1 ⟨y, H1, I1, r1, q1⟩ => thn (ho.run pins s1 σ H1 _ I1 q1) fun u s2 ⟨x, H2, I2, r2, a, ex, L, S, q⟩ => ?_) hs⟩
  subst ex
  obtain rfl : u = Value.ref a := r2
  refine ost_new T I2 S.hd n r1 fun dx s' nn ne J => ⟨σ, _, J, q dx _ ?_⟩
  have S1 : Sts (upd H2 dx (exd dx [(f, y)])) (pto dx (exd dx [(f, y)]) :: pto a (exo a C none) :: L) := S.new _ nn
  exact S1.swap.put _
theorem oc_ost2 (T : OexC X.K C) (n : PySem.W.findIn X.K (.ref C) f = some none) (ho : PE X o to) (he : PE X e te) (hs : swapsWith e (some (.Attribute o f p')) pos.line X.env = pure false := by rfl) : PS X (.Assign [.Attribute o f p'] e pos) (sOst2 C f to te) := by
  refine ⟨fun pins s σ H D I h => plainObj_wpAny_Assign_Attribute (thn (he.run pins s σ H _ I h) fun v s1 ⟨y, H1, I1, r1, q1⟩ => thn (ho.run pins s1 σ H1 _ I1 q1) fun u s2 ⟨x, H2, I2, r2, a, ex, dx, fs, L, S, hl, q⟩ => ?_) hs⟩
  subst ex
  obtain rfl : u = Value.ref a := r2
  exact ost_old T I2 S.hd S.swap.hd hl n r1 fun s' J => ⟨σ, _, J, q _ (S.swap.put _).swap⟩
/-- C(e, ..), an own error with its own __init__ -/
def tMkX (C : Addr) (sp : Sp) (dvs : List V) (ta : TA) : L2.St → Hp → XK → Prop := fun σ H Q => ta σ H fun vs H1 => vs.length ≤ 1000 ∧ ∃ L, Sts H1 L ∧ ∀ a H', Sts H' (pto a (exo a C none) :: [whole H1, imw H1]) →
  sp (.ref a :: (vs ++ dvs)) H' (fun v H2 => v = .non ∧ ∃ d fs M, Sts H2 (pto a (exo a C (some d)) :: pto d (exd d fs) :: whole H1 :: imw H1 :: M) ∧ ∀ H3, Sts H3 (pto d (.xd fs) :: (L ++ M)) → Q (.ref C) (some d) H3) E0
theorem noT_del {H : Hp} {a : Addr} : noT (del H a) = del (noT H) a := by
  funext b
  by_cases e : b = a
  · subst e
    unfold noT del
    simp
  · unfold noT
    rw [del_ne e, del_ne e]
theorem sts_del {a : Addr} {o : HO} {L : List Asr} {H : Hp} (S : Sts H (pto a o :: L)) : Sts (del H a) L := by
  have ha := S.hd
  have hT := S.hdT
  obtain ⟨⟨h, s, rfl, S⟩, tk⟩ := S
  refine ⟨S.mono fun b u e => ?_, fun τ hm b vs e => ?_⟩
  · obtain ⟨e1, e2⟩ := cutH_some.mp e
    have ne : b ≠ a := fun z => by
      rw [z, one_self] at e1
      cases e1
    rw [noT_del, del_ne ne]
    exact e2
  · have z := tk τ (List.mem_cons_of_mem _ hm) b vs e
    have ne : b ≠ a := fun q => by
      rw [q, ha] at z
      cases z
      cases hT
    rw [del_ne ne]
    exact z
theorem oc_mkx {CX : CXT} {x : Str} {fI : Addr} {k : Nat} {fd : FuncData} {ps : List Str} {sp : Sp} {ds : List Value} {dvs : List V} (T : OexC X.K C) (iC : PySem.W.findIn X.K (.ref C) "__init__" = some (some (.ref fI))) (tI : PySem.W.typeIn X.K (.ref fI) = some (.type "function"))
    (F1 : FnOk X.prog X.w X.K X.mg X.base CX k fI fd ps sp) (hr : Room (k + 1) X.A) (hb : Binds X.K fd ps ds) (hd : Vals dvs ds) (hx : Passes CX X E0) (hg : Gl X x) (hm : X.mg x = some (.ref C)) (ha : PA X (e :: es) ta)
    (hdb : (x == ("__debug__" : Str)) = false := by decide) (he : starEach (e :: es) X.env = (false, eval e X.env) :: starEach es X.env := by rfl) (hpl : (backTo pos (starEach es X.env)).any (·.1) = false := by rfl) :
    L2N.PMk X (.Call (.Name x p) (e :: es) [] pos) (tMkX C sp dvs ta) := by
  intro pins s σ H Q I h
  obtain ⟨nm, q, N, bs, bm, sn, sub, ab, col, dd, k0, k1, k2, k3, k5, hC, hbm⟩ := T.cls
  refine wpAny_Call_Name_kw (ld_glob I hg hm ?_ hdb)
  refine PySem.W.callWith_K (h₀ := X.base) I.ok.mod.kin T.kC (thn (ha.run pos pins s σ H _ I h) fun us s1 ⟨vs, H1, I1, r1, hz, L, SL, q1⟩ => ⟨I1.kIn, ?_⟩) he hpl
  show wpAny _ _ (call (.ref C) us) _ _ _
  obtain ⟨hp, g, dr, tk, os⟩ := s1
  obtain ⟨A, hA⟩ : ∃ A, A = hp.objs.size + 1 := ⟨_, rfl⟩
  have hsz : hp.objs.size ≤ A := by omega
  have hn : H1 A = none := I1.hok.fresh hsz
  have hq := q1 A (upd H1 A (exo A C none)) ((sts_whole H1).new _ hn)
  have kk : ∀ b o, hp.get? b = some o → ((hp.push (PySem.W.kdv_tup us)).push (PySem.HandSPX.excO C hp.objs.size)).get? b = some o := fun b o e => Heap.get?_push_of_some _ (Heap.get?_push_of_some _ e)
  have hget : ((hp.push (PySem.W.kdv_tup us)).push (PySem.HandSPX.excO C hp.objs.size)).get? A = some (PySem.HandSPX.excO C hp.objs.size) := by rw [hA]; heap_get
  have I2 : Inv X pins σ (upd H1 A (exo A C none)) ⟨(hp.push (PySem.W.kdv_tup us)).push (PySem.HandSPX.excO C hp.objs.size), g, dr, tk, os⟩ := I1.laid (t' := tk) (a := A) (o := exo A C none) kk hsz (exo_ok hget)
  have r2 : Vals (V.ref A :: (vs ++ dvs)) (Value.ref A :: (us ++ ds)) := .cons rfl (r1.append hd)
  have hl : (Value.ref A :: us ++ ds).length = ps.length := by
    have e := r2.length
    rw [F1.len _ _ _ _ hq] at e
    exact e.symm
  have hus : us.length ≤ sizeLine := by
    rw [← Paired.length r1, sizeLine_eq]
    omega
  refine wpAny_call (PySem.HandSPX.call_own F.excBase_ValueError (fun Y => PySem.HandSPX.refsVE_contains Y bm hbm) (I1.kIn _ _ hC) (PySem.W.looks_findIn I1.kIn iC) (fun self => PySem.W.bind_fn I1.kIn self tI) hus ?_)
  rw [← hA]
  refine codeAny_mono (F1.run _ X.stack _ _ ⟨Value.ref A :: us, []⟩ (Value.ref A :: (us ++ ds)) _ _ E0 (hr.make C us []) (I2.env0.make C us []) (hb _ (Value.ref A :: us) I2.kIn hl) r2 hq) fun r s' hq' => ?_
  cases r with
  | error er => exact hx pins σ _ _ er s' I2 hq'
  | ok fl =>
    cases fl with
    | ret u =>
      obtain ⟨v, H2, os2, bare2, un2, hok2, rv, ev, d, fs, M, S2, q2⟩ := hq'
      subst ev
      obtain ⟨h2, g2, d2, t2, os'⟩ := s'
      refine ⟨rv, ?_⟩
      have hd1 : H1 d = none := by
        have S3 := S2.tail
        exact whole_none S3
      obtain ⟨t0, G, J, kG, ge, hoe, na⟩ := mk_end0 (d2 := d2) (t2 := t2) I1 hsz kk un2 hok2 os2 bare2 S2.hd S2.swap.hd hd1
      refine ⟨A, _, _, ⟨G, g2, d2, t2, os'⟩, _, .ref C, some d, rfl, J, kG, ge, hoe, ⟨rfl, rfl, fun vs e => ?_⟩, rfl, rfl, na, rfl, bare2, raises_own T.exC T.tyC, q2 _ ?_⟩
      · cases e
        rfl
      · have S4 := sts_del S2
        have S5 : Sts (upd (del H2 A) d (.xd fs)) (pto d (.xd fs) :: whole H1 :: imw H1 :: M) := S4.put _
        exact S5.under fun K T => whole_in T SL
    | next => exact False.elim hq'
    | brk => exact False.elim hq'
    | cont => exact False.elim hq'
/-- raise C(e, ..) -/
theorem oc_raise {W : WX} {t : L2.St → Hp → XK → Prop} (hc : X.calm = true) (tk : L2N.Takes X W) (he : L2N.PMk X e t) : PS X (.Raise (some e) none pos) (fun _ σ H => t σ H fun cls d H' => W cls d σ H') := L2N.ps_raise hc tk he
/-- a call in an except suite, of a def that lets nothing out -/
theorem oc_callH {x : Str} {fI : Addr} {k : Nat} {fd : FuncData} {ps : List Str} {sp : Sp} (F1 : L2H.FnH X.prog X.w X.K X.mg X.base CX0 k fI fd ps sp) (hr : L2H.RoomH k X.A) (hc : L2H.HotC X) (hg : Gl X x) (hm : X.mg x = some (.ref fI)) (hk : PySem.W.keepIn X.K (.ref fI) = true) (hb : Binds X.K fd ps []) (ha : PA X (e :: es) ta)
    (hdb : (x == ("__debug__" : Str)) = false := by decide) (he : starEach (e :: es) X.env = (false, eval e X.env) :: starEach es X.env := by rfl) (hpl : (backTo pos (starEach es X.env)).any (·.1) = false := by rfl) :
    PE X (.Call (.Name x p) (e :: es) [] pos) (tCallX sp ta) := L2H.pe_callH (E := fun _ => E0) F1 hr hc hg hm hk hb (fun _ _ _ _ _ _ _ z => z.elim) ha hdb he hpl
end
theorem takes0N {X : Cx} : L2N.Takes X (fun _ _ _ _ => False) := fun _ _ x => by
  obtain ⟨_, _, _, _, _, _, _, _, _, _, _, _, _, _, _, _, z⟩ := x
  exact z.elim
/-- isinstance(e, c), e the exception that the suite holds, with its dict -/
theorem oc_isE {X : Cx} {a D : Addr} {oe : Obj} {d : Option Addr} {cls : Value} {pn : List (Addr × Obj)} {c : V} {cv : Value} {b : Bool} (C : ExcC X.K D) (hz : Zc cls d oe) (hf : ∃ vs, oe.data = .fields vs) (hk : PySem.W.kitOne X.K (.ref D) cv = some b) (hcv : ∀ u, RelV c u → u = cv) :
    CallR (X.suite a ((a, oe) :: pn)) (.builtin "isinstance") (fun xs H Q => cls = .ref D ∧ xs = [.ref a, c] ∧ (∃ dd fs, d = some dd ∧ H dd = some (.xd fs)) ∧ Q (.bl b) H) := by
  intro pins s σ H xs us Q I r ⟨e0, e, ⟨dd, fs, ed, ea⟩, q⟩
  subst e0 e ed
  cases r with
  | cons rx rr =>
    cases rr with
    | cons rt rr =>
      cases rr
      cases rx
      have ec := hcv _ rt
      subst ec
      obtain ⟨hget, _⟩ := I.pin (a, oe) (List.mem_append.mpr (.inl List.mem_cons_self))
      obtain ⟨vs, hv⟩ := hf
      obtain ⟨mA, hns, hr⟩ := (show ObjOk X.prog X.w H s.heap dd (.xd fs) from I.hok dd _ ea)
      obtain ⟨od, ho, hl⟩ := lookIn_ns hns
      have J : PySem.W.InstAt s.heap a oe D (some od) := ⟨hget, hz.1, by unfold PySem.W.notCls; rw [hv] <;> rfl, by rw [hz.2]; exact ho⟩
      obtain ⟨cdD, hcD, _⟩ := PySem.W.any_some C.hd
      exact PySem.W.kia_one (PySem.W.kitx_exc (by rw [hcD]; rfl) C.hg C.hk C.hs C.ha C.hn C.ht C.hm) I.kIn J hk (fun z => nomatch z) fun tk => ⟨.bl b, H, I.kept (t' := tk) fun _ _ z => z, rfl, q⟩
theorem hotC {X : Cx} {a : Addr} {oe : Obj} {cls : Value} {d : Option Addr} {pn : List (Addr × Obj)} (hz : L2N.Zn cls d oe) (hf : ∃ vs, oe.data = .fields vs) : L2H.HotC (X.suite a ((a, oe) :: pn)) := by
  obtain ⟨vs, hd⟩ := hf
  exact ⟨(a, oe), ⟨rfl, vs, hd, hz.2.2 vs hd⟩, List.mem_cons_self⟩
/-- an exception never leaves -/
theorem noPassN {P : Program} {w : World} {X : Cx} {σ : L2.St} : PassesAt (L2N.CX P w) X σ E0 := fun _ _ _ _ _ _ ⟨_, _, _, _, _, _, _, _, _, _, _, _, z⟩ => z.elim
end Oc
namespace Oc
open PySem PySem.Spec PyProof.Rows L2 NdefX PySem.W PySem.Calls
/-- a method with a cell __class__ (an error's __init__ with super()) -/
structure XFun (P : Program) (K : PySem.W.Frag) (mg : Str → Option Value) (x qual : Str) (st : Stmt) (f : Addr) (fd : FuncData) (D : Addr) : Prop where
  ex : ∃ (oc : Value) (od : Option Addr) (dV kV doc pm : Value) (an : Option Addr) (cc c : Addr) (ct : Value) (osl : Array (Option Value)),
    fd = PySem.W.fnX x qual (defArgs st) (defBody st) (defScope st) [("__class__", cc)] dV kV doc pm an (.ref c) ct ∧ K.lookup f = some ⟨oc, od, .func fd, osl⟩ ∧ PySem.W.codeIn K (.ref c) qual = true ∧
    (∃ cl cld csl, K.lookup cc = some ⟨cl, cld, .cell (some (.ref D)), csl⟩) ∧ (∃ ccl cdd vs ccs file tf, K.lookup c = some ⟨ccl, cdd, .fields vs, ccs⟩ ∧ vs[2]? = some (.str file tf) ∧ ((P.main.file : Str) == file) = true)
  isD : ∃ cdD, clsIn K D = some cdD
  sup : mg "super" = none
  htop : (P.main.scope.names.lookup ("super" : Str)).isSome = false
abbrev xnf (x qual : Str) (st : Stmt) (cc c : Addr) : NF := { name := x, qual := qual, params := defArgs st, body := defBody st, scope := defScope st, cl := [("__class__", cc)], c := c }
section
variable {CX : CXT} {P : Program} {w : World} {K : PySem.W.Frag} {mg : Str → Option Value} {base : Heap} {N ps : List Str} {x qual : Str} {stm : Stmt} {f D : Addr} {fd : FuncData} {k : Nat} {sp : Sp}
theorem XFun.ok {ar : Arg} {e : Expr} {es : List Expr} {rest : List Stmt} {p0 p1 p2 pos pos0 : Pos} (F : XFun P K mg x qual stm f fd D) (S : NScope N ps [("__class__" : Str)] (defScope stm)) (ks : (defScope stm).names.lookup ("super" : Str) = some .globalImplicit)
    (hp : ((defArgs stm).posonlyargs ++ (defArgs stm).args).head? = some ar) (ha : ps[0]? = some ar.arg)
    (hb : defBody stm = .Expr (.Call (.Attribute (.Call (.Name "super" p0) [] [] p1) "__init__" p2) (e :: es) [] pos) pos0 :: rest)
    (pl : Addr → Addr → Addr → Sem Bool) (hev : ∀ cc c L, eval (.Call (.Attribute (.Call (.Name "super" p0) [] [] p1) "__init__" p2) (e :: es) [] pos) (envF (xnf x qual stm cc c) f L) = (do
      let ov ← attributeBase (.Call (.Name "super" p0) [] [] p1) "__init__" (envF (xnf x qual stm cc c) f L) (eval (.Call (.Name "super" p0) [] [] p1) (envF (xnf x qual stm cc c) f L))
      standAt p2.atName
      let (g, first) ← holding [ov] (getMethod ov "__init__" (pl cc c L))
      callWith pos g first (backTo pos (starEach (e :: es) (envF (xnf x qual stm cc c) f L))) []))
    (hse : ∀ env, starEach (e :: es) env = (false, eval e env) :: starEach es env) (hpl : ∀ env, (backTo pos (starEach es env)).any (·.1) = false)
    (hsw : ∀ cc c L, swapsWith (.Call (.Attribute (.Call (.Name "super" p0) [] [] p1) "__init__" p2) (e :: es) [] pos) none pos0.line (envF (xnf x qual stm cc c) f L) = pure false)
    (len : ∀ vs H Q E, sp vs H Q E → vs.length = ps.length)
    (hbody : ∀ (cc c : Addr) (A : Around) (outer : List Env) (s : Shared) (H : Hp) (vs : List V) (Q : VK) (E : XK), Room k (A.deeper (envF (xnf x qual stm cc c) f s.heap.objs.size)) → sp vs H Q E →
      ∃ (a C : Addr) (vr : List V) (te : TA) (t : TS), vs = .ref a :: vr ∧ SupC K D C ∧ H a = some (exo a C none) ∧ PA (ncx CX P w K mg base N (xnf x qual stm cc c) f A outer s H E) (e :: es) te ∧ PSs (ncx CX P w K mg base N (xnf x qual stm cc c) f A outer s H E) rest t ∧
        te (startF N vs [some (.ref D)]) H fun us H1 => us.length ≤ 1000 ∧ H1 a = some (exo a C none) ∧ t { nx := fun _ H' => Q .non H', rt := Q } (startF N vs [some (.ref D)]) H1) :
    FnOk P w K mg base CX (k + 1) f fd ps sp := by
  obtain ⟨oc, od, dV, kV, doc, pm, an, cc, c, ct, osl, rfl, lk, hcd, hcc, hfl⟩ := F.ex
  exact fn_super (F := xnf x qual stm cc c) lk hcd S ⟨rfl, hcc, F.isD, hfl, F.sup, ks, S.frk _ (by simp), F.htop⟩ hp ha hb (pl cc c) (hev cc c) hse hpl (hsw cc c) len fun A outer s H vs Q E hr h => hbody cc c A outer s H vs Q E hr h
end
end Oc
/-! ### lists of ints and Nones -/
namespace Oc
open PySem PySem.Spec PyProof.Rows L2
def pdo : Option Int → PyData
  | none => .none
  | some i => .int i
theorem dp_opts {K : PySem.W.Frag} {H : Hp} : ∀ ns : List (Option Int), DpAll K H (ns.map ov) (ns.map pdo)
  | [] => .nil
  | none :: ns => .cons .non (dp_opts ns)
  | some n :: ns => .cons (.int n) (dp_opts ns)
theorem eqv_opts : ∀ ns ms : List (Option Int), PyData.eqvAll (ns.map pdo) (ms.map pdo) = decide (ns = ms)
  | [], [] => by simp [PyData.eqvAll]
  | [], _ :: _ => by simp [PyData.eqvAll]
  | _ :: _, [] => by simp [PyData.eqvAll]
  | n :: ns, m :: ms => by
    have e : PyData.eqv (pdo n) (pdo m) = decide (n = m) := by
      cases n with
      | none => cases m <;> simp [pdo, PyData.eqv]
      | some a =>
        cases m with
        | none => simp [pdo, PyData.eqv]
        | some b => by_cases h : a = b <;> simp [pdo, PyData.eqv, h]
    simp only [List.map_cons, PyData.eqvAll, e, eqv_opts ns ms]
    by_cases h1 : n = m <;> by_cases h2 : ns = ms <;> simp [h1, h2]
theorem lay_opts : ∀ ns : List (Option Int), PyData.canLayAll0 (ns.map pdo) = true
  | [] => by simp [PyData.canLayAll0]
  | n :: ns => by
    have e : PyData.canLay0 (pdo n) = true := by cases n <;> simp [pdo, PyData.canLay0]
    simp [PyData.canLayAll0, e, lay_opts ns]
theorem depth_opts : ∀ ns : List (Option Int), PyData.depthAll (ns.map pdo) = 0
  | [] => by simp [PyData.depthAll]
  | n :: ns => by
    have e : PyData.depth (pdo n) = 0 := by cases n <;> simp [pdo, PyData.depth]
    simp [PyData.depthAll, e, depth_opts ns]
theorem shaped_opts (ns : List (Option Int)) : SeqAt.shaped (.list (ns.map pdo)) = true := by
  unfold SeqAt.shaped
  simp [PyData.canLay0, lay_opts, PyData.depth, depth_opts]
theorem eqv_optl (ns ms : List (Option Int)) : PyData.eqv (.list (ns.map pdo)) (.list (ms.map pdo)) = decide (ns = ms) := by
  rw [← eqv_opts]
  simp only [PyData.eqv]
section
variable {X : Cx}
theorem oc_ne_opts {K : PySem.W.Frag} (hK : X.K = K) (hu : X.A.units + 64 < cLine) : OpR X (compareOp .NotEq) (fun x y H Q => ∃ a b, ∃ ns ms : List (Option Int), x = .ref a ∧ y = .ref b ∧ SqL K H a (ns.map ov) ∧ SqL K H b (ms.map ov) ∧ Q (.bl (!decide (ns = ms))) H) := fun pins s σ H x y v u Q I rx ry ⟨a, b, ns, ms, e1, e2, h1, h2, q⟩ =>
  op_neD hu pins s σ H x y v u Q I rx ry ⟨.list (ns.map pdo), .list (ms.map pdo), e1 ▸ .lst (hK ▸ h1) (dp_opts ns), e2 ▸ .lst (hK ▸ h2) (dp_opts ms), shaped_opts ns, shaped_opts ms, by rw [eqv_optl]; exact q⟩
theorem oc_eq_opts {K : PySem.W.Frag} (hK : X.K = K) (hu : X.A.units + 64 < cLine) : OpR X (compareOp .Eq) (fun x y H Q => ∃ a b, ∃ ns ms : List (Option Int), x = .ref a ∧ y = .ref b ∧ SqL K H a (ns.map ov) ∧ SqL K H b (ms.map ov) ∧ Q (.bl (decide (ns = ms))) H) := fun pins s σ H x y v u Q I rx ry ⟨a, b, ns, ms, e1, e2, h1, h2, q⟩ =>
  op_eqD hu pins s σ H x y v u Q I rx ry ⟨.list (ns.map pdo), .list (ms.map pdo), e1 ▸ .lst (hK ▸ h1) (dp_opts ns), e2 ▸ .lst (hK ▸ h2) (dp_opts ms), shaped_opts ns, shaped_opts ms, by rw [eqv_optl]; exact q⟩
end
def gO (ns : List (Option Int)) (i : Int) : Option Int := ns.getD i.toNat none
theorem oc_ixO {X : Cx} {K : PySem.W.Frag} (hK : X.K = K) : IxR X (fun x y H Q => ∃ p, ∃ (ns : List (Option Int)) (i : Int), x = .ref p ∧ y = .int i ∧ SqL K H p (ns.map ov) ∧ (0 ≤ i ∧ i < ns.length) ∧ Q (ov (gO ns i)) H) := fun va sl pins s σ H x y v u Q I rx ry ⟨p, ns, i, e1, e2, h, b, q⟩ hs =>
  ix_list va sl pins s σ H x y v u Q I rx ry ⟨p, _, i, ov (gO ns i), e1, e2, hK ▸ h, by
    have hl : i.toNat < ns.length := by omega
    refine atI_of b.1 ?_
    rw [List.getElem?_map, List.getElem?_eq_getElem hl]
    unfold gO
    rw [List.getD_eq_getElem?_getD, List.getElem?_eq_getElem hl]
    rfl, q⟩ hs
theorem lc_pureV {α : Type} (emb : α → V) {K : PySem.W.Frag} {a : Addr} {k : Nat} {te : TE} {vs : List Nat} {σ : L2.St} {H0 : Hp} {Qd : Hp → Prop} {L : List Asr} {D : Addr} (ns : List α) (f : α → V) (S : Sts H0 (pto D (.lst []) :: L)) (hsq : ∀ H, Sts H L → SqL K H a (ns.map emb)) (hl : ns.length ≤ 1000000)
    (hw : ∀ x, wipe ((wipe σ vs).set k (some x)) vs = wipe σ vs) (he : ∀ (x : α) (H : Hp) (Q' : VK), x ∈ ns → Sts H L → Q' (f x) H → te ((wipe σ vs).set k (some (emb x))) H Q')
    (hd : ∀ H, Sts H (pto D (.lst (ns.map f)) :: L) → Qd H) :
    ∃ W : Nat → Nat → Hp → Prop, (∃ m, W 0 m H0) ∧ ∀ i m H, W i m H →
      ((Itl K a).stop i H ∧ Qd H) ∨ ((Itl K a).go i H ∧ ∃ Nx : Hp → Prop, (∀ H', Nx H' → ∃ m', m' < m ∧ W (i + 1) m' H') ∧ ∀ x H', (Itl K a).yld i H x H' → gName k x (wipe σ vs) H' fun σ2 H2 => wipe σ2 vs = wipe σ vs ∧ tYes σ2 H2 fun b H3 =>
        if b = true then te σ2 H3 fun y H4 => ∃ acc, H4 D = some (.lst acc) ∧ acc.length < sizeLine ∧ Nx (upd H4 D (.lst (acc ++ [y]))) else Nx H3) :=
  oc_lcL (K := K) (a := a) (xs := ns.map emb) (fun i H => Sts H (pto D (.lst ((ns.take i).map f)) :: L)) S (fun i H p => hsq H p.tail)
    (fun i x H hx p => by
      rw [List.getElem?_map] at hx
      cases e : ns[i]? with
      | none =>
        rw [e] at hx
        cases hx
      | some n =>
        rw [e] at hx
        have ex : x = emb n := (Option.some.inj hx).symm
        subst ex
        refine ⟨hw _, ?_⟩
        simp only [tYes, if_true]
        refine he n H _ (List.mem_of_getElem? e) p.tail ⟨_, p.hd, small (by rw [List.length_map, List.length_take]; omega), ?_⟩
        rw [List.take_add_one, e, List.map_append]
        exact p.put _)
    (fun H p => hd H (by rw [List.length_map, List.take_length] at p; exact p))
theorem gLO {H : Hp} {a : Addr} {ns : List (Option Int)} {L : List Asr} (h : Sts H (pto a (.lst (ns.map ov)) :: L)) : Sts H (pto a (.lst (ns.map ov)) :: L) := h
theorem gIns {H : Hp} {a C dx : Addr} {fs : List (Str × V)} {L : List Asr} (h : Sts H (pto a (.ins C dx fs) :: L)) : Sts H (pto a (.ins C dx fs) :: L) := h
theorem gExo2 {H : Hp} {a C dx : Addr} {fs : List (Str × V)} {L : List Asr} (h : Sts H (pto a (exo a C (some dx)) :: pto dx (exd dx fs) :: L)) : Sts H (pto a (exo a C (some dx)) :: pto dx (exd dx fs) :: L) := h
theorem gExo {H : Hp} {a C : Addr} {L : List Asr} (h : Sts H (pto a (exo a C none) :: L)) : Sts H (pto a (exo a C none) :: L) := h
/-- xs.insert(k, j), a list of ints -/
theorem oc_insertI {X : Cx} : MtR X "list.insert" (fun x vs H Q => ∃ l k j, x = .ref l ∧ vs = [.int k, .int j] ∧ ∃ (ns : List Int) (L : List Asr), Sts H (pto l (.lst (ns.map V.int)) :: L) ∧ (ns.length ≤ 1000000 ∧ 0 ≤ k ∧ k < 1000000) ∧ ∀ H', Sts H' (pto l (.lst ((ns.take k.toNat ++ [j] ++ ns.drop k.toNat).map V.int)) :: L) → Q .non H') := fun pins s σ H x xs v us Q I rx rs ⟨l, k, j, e1, e2, ns, L, S, ⟨hl, hk0, hk1⟩, q⟩ =>
  mt_insert pins s σ H x xs v us Q I rx rs ⟨l, _, k, .int j, e1, e2, S.hd, small (by rw [List.length_map]; exact hl), hk0, by omega, q _ (by rw [List.map_append, List.map_append, List.map_take, List.map_drop]; exact S.put _)⟩
end Oc
/-! ### classes: readings with names of their own -/
namespace Oc
open PySem PySem.Spec PyProof.Rows L2
section
variable {K : PySem.W.Frag} {σ : L2.St} {H : Hp} {Q : VK} {D : Ends} {i j : Int} {a b p q C : Addr} {v x y : V} {vs : List V} {L : List Asr} {ns : List Int} {ta tb tv : TE} {t : TA} {f m : Str} {sp : Sp} {fs : List (Str × V)} {dx : Addr} {os us : List (Option Int)}
def kFld (C : Addr) (f : Str) (Q : VK) : VK := fun x H => ∃ p v, x = .ref p ∧ FldAt C f H p v ∧ Q v H
theorem g_fld (k : ta σ H (kFld C f Q)) : tFldO C f ta σ H Q := k
theorem g_kFld (h : FldAt C f H p v) (k : Q v H) : kFld C f Q (.ref p) H := ⟨p, v, rfl, h, k⟩
def kMeth (C : Addr) (m : Str) (sp : Sp) (t : TA) (σ : L2.St) (Q : VK) : VK := fun x H => ∃ p, x = .ref p ∧ IsIns C m H p ∧ t σ H fun vs H2 => sp (.ref p :: vs) H2 Q E0
theorem g_meth (k : ta σ H (kMeth C m sp t σ Q)) : tMethO C m sp ta t σ H Q := k
theorem g_kMeth (h : IsIns C m H p) (k : t σ H fun vs H2 => sp (.ref p :: vs) H2 Q E0) : kMeth C m sp t σ Q (.ref p) H := ⟨p, rfl, h, k⟩
def kSet (C : Addr) (f : Str) (y : V) (R : L2.St → Hp → Prop) (σ : L2.St) : VK := fun x H => ∃ p, x = .ref p ∧ ∃ dx fs L, Sts H (pto p (.ins C dx fs) :: L) ∧ fs.length ≤ 100 ∧ ∀ H', Sts H' (pto p (.ins C dx (putF f y fs)) :: L) → R σ H'
theorem g_set (k : tv σ H fun y H1 => ta σ H1 (kSet C f y D.nx σ)) : sFldO C f ta tv D σ H := k
theorem g_kSet {R : L2.St → Hp → Prop} (S : Sts H (pto p (.ins C dx fs) :: L)) (l : fs.length ≤ 100) (k : ∀ H', Sts H' (pto p (.ins C dx (putF f y fs)) :: L) → R σ H') : kSet C f y R σ (.ref p) H := ⟨p, rfl, dx, fs, L, S, l, k⟩
def kNonR (Q : VK) (x : Addr) : VK := fun v H => v = .non ∧ Q (.ref x) H
theorem g_nonR (k : Q (.ref a) H) : kNonR Q a .non H := ⟨rfl, k⟩
def kMake (C : Addr) (sp : Sp) (dvs : List V) (Q : VK) (vs : List V) (H : Hp) : Prop := ∃ L, Sts H L ∧ ∀ x dx H2, Sts H2 (pto x (.ins C dx []) :: pto dx (.own x) :: L) → sp (.ref x :: (vs ++ dvs)) H2 (kNonR Q x) E0
theorem g_make {dvs : List V} (k : t σ H (kMake C sp dvs Q)) : tMakeO C sp dvs t σ H Q := k
theorem g_kMake {dvs : List V} (S : Sts H L) (k : ∀ x dx H2, Sts H2 (pto x (.ins C dx []) :: pto dx (.own x) :: L) → sp (.ref x :: (vs ++ dvs)) H2 (kNonR Q x) E0) : kMake C sp dvs Q vs H := ⟨L, S, k⟩
def kMakeE (C : Addr) (n m : Nat) (sp : Sp) (gV : List V → List V → List V) (Q : VK) (vs zs : List V) (H2 : Hp) : Prop := vs.length = n ∧ zs.length = m ∧ ∃ L, Sts H2 L ∧ ∀ x dx H3, Sts H3 (pto x (.ins C dx []) :: pto dx (.own x) :: L) → sp (gV (.ref x :: vs) zs) H3 (kNonR Q x) E0
theorem g_makeE {n m : Nat} {gV : List V → List V → List V} {tk : TA} (k : t σ H fun vs H1 => tk σ H1 fun zs H2 => kMakeE C n m sp gV Q vs zs H2) : tMakeE C n m sp gV t tk σ H Q := k
def IsC (C : Addr) (H : Hp) (p : Addr) : Prop := ∃ dx fs, H p = some (.ins C dx fs)
theorem isC_of (S : Sts H (pto p (.ins C dx fs) :: L)) : IsC C H p := ⟨dx, fs, S.hd⟩
def kOwn (C : Addr) (sp : Sp) (E : XK) (Q : VK) (x y : V) (H : Hp) : Prop := ∃ p q, x = .ref p ∧ y = .ref q ∧ IsC C H p ∧ IsC C H q ∧ sp [.ref p, .ref q] H Q E
theorem g_own2 {E : L2.St → XK} (k : ta σ H fun x H1 => tb σ H1 fun y H2 => kOwn C sp (E σ) Q x y H2) : tOwn2 C sp E ta tb σ H Q := k
theorem g_kOwn {E : XK} (h : IsC C H p) (h2 : IsC C H q) (k : sp [.ref p, .ref q] H Q E) : kOwn C sp E Q (.ref p) (.ref q) H := ⟨p, q, rfl, rfl, h, h2, k⟩
theorem isIns_of (S : Sts H (pto p (.ins C dx fs) :: L)) (l : fs.lookup m = none) : IsIns C m H p := ⟨dx, fs, S.hd, l⟩
def qEqOwn (C : Addr) (sp : Sp) : R2 := fun x y H Q => ∃ p q, x = .ref p ∧ y = .ref q ∧ IsC C H p ∧ IsC C H q ∧ sp [.ref p, .ref q] H Q E0
theorem g_eqOwn (h : IsC C H p) (h2 : IsC C H q) (k : sp [.ref p, .ref q] H Q E0) : qEqOwn C sp (.ref p) (.ref q) H Q := ⟨p, q, rfl, rfl, h, h2, k⟩
def qIsiC (C : Addr) : List V → Hp → VK → Prop := fun xs H Q => ∃ p, xs = [.ref p, .ref C] ∧ IsC C H p ∧ Q (.bl true) H
theorem g_isiC (h : IsC C H p) (k : Q (.bl true) H) : qIsiC C [.ref p, .ref C] H Q := ⟨p, rfl, h, k⟩
def qEqOs (K : PySem.W.Frag) : R2 := fun x y H Q => ∃ a b, ∃ ns ms : List (Option Int), x = .ref a ∧ y = .ref b ∧ SqL K H a (ns.map ov) ∧ SqL K H b (ms.map ov) ∧ Q (.bl (decide (ns = ms))) H
def qNeOs (K : PySem.W.Frag) : R2 := fun x y H Q => ∃ a b, ∃ ns ms : List (Option Int), x = .ref a ∧ y = .ref b ∧ SqL K H a (ns.map ov) ∧ SqL K H b (ms.map ov) ∧ Q (.bl (!decide (ns = ms))) H
theorem g_eqOs (h : SqL K H a (os.map ov)) (h2 : SqL K H b (us.map ov)) (k : Q (.bl (decide (os = us))) H) : qEqOs K (.ref a) (.ref b) H Q := ⟨a, b, os, us, rfl, rfl, h, h2, k⟩
theorem g_neOs (h : SqL K H a (os.map ov)) (h2 : SqL K H b (us.map ov)) (k : Q (.bl (!decide (os = us))) H) : qNeOs K (.ref a) (.ref b) H Q := ⟨a, b, os, us, rfl, rfl, h, h2, k⟩
def qIxO (K : PySem.W.Frag) : R2 := fun x y H Q => ∃ p, ∃ (ns : List (Option Int)) (i : Int), x = .ref p ∧ y = .int i ∧ SqL K H p (ns.map ov) ∧ (0 ≤ i ∧ i < ns.length) ∧ Q (ov (gO ns i)) H
theorem g_ixO (h : SqL K H a (os.map ov)) (b : 0 ≤ i ∧ i < os.length) (k : Q (ov (gO os i)) H) : qIxO K (.ref a) (.int i) H Q := ⟨a, os, i, rfl, rfl, h, b, k⟩
def qInsI : V → List V → Hp → VK → Prop := fun x vs H Q => ∃ l k j, x = .ref l ∧ vs = [.int k, .int j] ∧ ∃ (ns : List Int) (L : List Asr), Sts H (pto l (.lst (ns.map V.int)) :: L) ∧ (ns.length ≤ 1000000 ∧ 0 ≤ k ∧ k < 1000000) ∧ ∀ H', Sts H' (pto l (.lst ((ns.take k.toNat ++ [j] ++ ns.drop k.toNat).map V.int)) :: L) → Q .non H'
theorem g_insI (S : Sts H (pto a (.lst (ns.map V.int)) :: L)) (l : ns.length ≤ 1000000 ∧ 0 ≤ i ∧ i < 1000000) (k : ∀ H', Sts H' (pto a (.lst ((ns.take i.toNat ++ [j] ++ ns.drop i.toNat).map V.int)) :: L) → Q .non H') : qInsI (.ref a) [.int i, .int j] H Q := ⟨a, i, j, rfl, rfl, ns, L, S, l, k⟩
end
/-! own errors -/
section
variable {σ : L2.St} {H : Hp} {Q : VK} {D : Ends} {a d C : Addr} {y : V} {vs dvs : List V} {L M : List Asr} {f : Str} {sp : Sp} {fs : List (Str × V)} {to te : TE} {ta : TA} {R : L2.St → Hp → Prop} {E : XK}
def kOst1 (C : Addr) (f : Str) (y : V) (R : L2.St → Hp → Prop) (σ : L2.St) : VK := fun x H => ∃ a, x = .ref a ∧ ∃ L, Sts H (pto a (exo a C none) :: L) ∧ ∀ dx H', Sts H' (pto a (exo a C (some dx)) :: pto dx (exd dx [(f, y)]) :: L) → R σ H'
theorem g_ost1 (k : te σ H fun y H1 => to σ H1 (kOst1 C f y D.nx σ)) : sOst1 C f to te D σ H := k
theorem g_kOst1 (S : Sts H (pto a (exo a C none) :: L)) (k : ∀ dx H', Sts H' (pto a (exo a C (some dx)) :: pto dx (exd dx [(f, y)]) :: L) → R σ H') : kOst1 C f y R σ (.ref a) H := ⟨a, rfl, L, S, k⟩
def kOst2 (C : Addr) (f : Str) (y : V) (R : L2.St → Hp → Prop) (σ : L2.St) : VK := fun x H => ∃ a, x = .ref a ∧ ∃ dx fs L, Sts H (pto a (exo a C (some dx)) :: pto dx (exd dx fs) :: L) ∧ fs.length ≤ 900 ∧ ∀ H', Sts H' (pto a (exo a C (some dx)) :: pto dx (exd dx ((f, y) :: fs)) :: L) → R σ H'
theorem g_ost2 (k : te σ H fun y H1 => to σ H1 (kOst2 C f y D.nx σ)) : sOst2 C f to te D σ H := k
theorem g_kOst2 {dx : Addr} (S : Sts H (pto a (exo a C (some dx)) :: pto dx (exd dx fs) :: L)) (l : fs.length ≤ 900) (k : ∀ H', Sts H' (pto a (exo a C (some dx)) :: pto dx (exd dx ((f, y) :: fs)) :: L) → R σ H') : kOst2 C f y R σ (.ref a) H := ⟨a, rfl, dx, fs, L, S, l, k⟩
/-- what an error's __init__ leaves; what is raised then -/
def kXR (C : Addr) (L : List Asr) (H1 : Hp) (Q : XK) (a : Addr) : VK := fun v H2 => v = .non ∧ ∃ d fs M, Sts H2 (pto a (exo a C (some d)) :: pto d (exd d fs) :: whole H1 :: imw H1 :: M) ∧ ∀ H3, Sts H3 (pto d (.xd fs) :: (L ++ M)) → Q (.ref C) (some d) H3
def kMkX (C : Addr) (sp : Sp) (dvs : List V) (Q : XK) (vs : List V) (H1 : Hp) : Prop := vs.length ≤ 1000 ∧ ∃ L, Sts H1 L ∧ ∀ a H', Sts H' (pto a (exo a C none) :: [whole H1, imw H1]) → sp (.ref a :: (vs ++ dvs)) H' (kXR C L H1 Q a) E0
theorem g_mkX (k : ta σ H (kMkX C sp dvs E)) : tMkX C sp dvs ta σ H E := k
theorem g_kMkX (l : vs.length ≤ 1000) (S : Sts H L) (k : ∀ a H', Sts H' (pto a (exo a C none) :: [whole H, imw H]) → sp (.ref a :: (vs ++ dvs)) H' (kXR C L H E a) E0) : kMkX C sp dvs E vs H := ⟨l, L, S, k⟩
theorem g_kXR {H1 : Hp} (S : Sts H (pto a (exo a C (some d)) :: pto d (exd d fs) :: [whole H1, imw H1])) (k : ∀ H3, Sts H3 (pto d (.xd fs) :: L) → E (.ref C) (some d) H3) : kXR C L H1 E a .non H := ⟨rfl, d, fs, [], S, fun H3 T => k H3 (by rwa [List.append_nil] at T)⟩
def qIsE (D : Addr) (cls : Value) (d : Option Addr) (a : Addr) (c : V) (b : Bool) : List V → Hp → VK → Prop := fun xs H Q => cls = .ref D ∧ xs = [.ref a, c] ∧ (∃ dd fs, d = some dd ∧ H dd = some (.xd fs)) ∧ Q (.bl b) H
theorem g_isE {c : V} {b : Bool} (h : H d = some (.xd fs)) (k : Q (.bl b) H) : qIsE C (.ref C) (some d) a c b [.ref a, c] H Q := ⟨rfl, rfl, ⟨d, fs, rfl, h⟩, k⟩
def kXf (a : Addr) (cls : Value) (d : Option Addr) (C : Addr) (f : Str) (Q : VK) : VK := fun x H1 => x = .ref a ∧ cls = .ref C ∧ ∃ (dd : Addr) (fs : List (Str × V)) (v : V), d = some dd ∧ H1 dd = some (.xd fs) ∧ fs.lookup f = some v ∧ Q v H1
theorem g_xf {cls : Value} {o : Option Addr} (k : te σ H (kXf a cls o C f Q)) : tXf a cls o C f te σ H Q := k
theorem g_kXf {v : V} (h : H d = some (.xd fs)) (l : fs.lookup f = some v) (k : Q v H) : kXf a (.ref C) (some d) C f Q (.ref a) H := ⟨rfl, rfl, d, fs, v, rfl, h, l, k⟩
def sRaiseO (t : L2.St → Hp → XK → Prop) (W : WX) : TS := fun _ σ H => t σ H fun cls d H' => W cls d σ H'
theorem g_raise {t : L2.St → Hp → XK → Prop} {W : WX} (k : t σ H fun cls d H' => W cls d σ H') : sRaiseO t W D σ H := k
end
section
variable {X : Cx} {K : PySem.W.Frag} {C : Addr}
theorem v_eqOwn {k : Nat} {g : Addr} {fd : FuncData} {ps : List Str} {sp : Sp} (hs : PySem.W.findIn X.K (.ref C) "__eq__" = some (some (.ref g))) (hf : PySem.W.isFn X.K (.ref g) = true)
    (F : FnOk X.prog X.w X.K X.mg X.base CX0 k g fd ps sp) (hr : Room k X.A) (hb : Binds X.K fd ps []) : OpR X (compareOp .Eq) (qEqOwn C sp) := oc_eqOwn hs hf F hr hb
theorem v_isiC (c : C8.InsC X.K C) : CallR X (.builtin "isinstance") (qIsiC C) := oc_isiC c
theorem v_eqOs (hK : X.K = K) (hu : X.A.units + 64 < cLine) : OpR X (compareOp .Eq) (qEqOs K) := oc_eq_opts hK hu
theorem v_neOs (hK : X.K = K) (hu : X.A.units + 64 < cLine) : OpR X (compareOp .NotEq) (qNeOs K) := oc_ne_opts hK hu
theorem v_ixO (hK : X.K = K) : IxR X (qIxO K) := oc_ixO hK
theorem v_raise {W : WX} {t : L2.St → Hp → XK → Prop} {e : Expr} {pos : Pos} (hc : X.calm = true) (tk : L2N.Takes X W) (he : L2N.PMk X e t) : PS X (.Raise (some e) none pos) (sRaiseO t W) := oc_raise hc tk he
theorem v_isE {a D : Addr} {oe : Obj} {d : Option Addr} {cls : Value} {pn : List (Addr × Obj)} {c : V} {cv : Value} {b : Bool} (hC : ExcC X.K D) (hz : Zc cls d oe) (hf : ∃ vs, oe.data = .fields vs) (hk : PySem.W.kitOne X.K (.ref D) cv = some b) (hcv : ∀ u, RelV c u → u = cv) :
    CallR (X.suite a ((a, oe) :: pn)) (.builtin "isinstance") (qIsE D cls d a c b) := oc_isE hC hz hf hk hcv
theorem v_insertI : MtR X "list.insert" qInsI := oc_insertI
end
end Oc
/-! ### lists of pairs, dicts whose keys are pairs -/
namespace Oc
open PySem PySem.Spec PyProof.Rows L2
abbrev PI2 := Int × Int
abbrev pV (p : PI2) : List V := [.int p.1, .int p.2]
/-- a list of the tuples ts, the pairs ps -/
def Prs (τ : Tmap) (ts : List Addr) (ps : List PI2) : Prop := ts.map τ = ps.map fun p => some (pV p)
def PrH (H : Hp) (ts : List Addr) (ps : List PI2) : Prop := ts.map H = ps.map fun p => some (.tup (pV p))
theorem Prs.len {τ : Tmap} {ts : List Addr} {ps : List PI2} (h : Prs τ ts ps) : ts.length = ps.length := by
  have z := congrArg List.length h
  rwa [List.length_map, List.length_map] at z
theorem Prs.at {τ : Tmap} {ts : List Addr} {ps : List PI2} (h : Prs τ ts ps) {i : Nat} {t : Addr} (e : ts[i]? = some t) : ∃ p, ps[i]? = some p ∧ τ t = some (pV p) := by
  have z := congrArg (fun l => l[i]?) h
  simp only [List.getElem?_map, e] at z
  cases q : ps[i]? with
  | none =>
    rw [q] at z
    cases z
  | some p =>
    rw [q] at z
    exact ⟨p, rfl, Option.some.inj z⟩
theorem Prs.at' {τ : Tmap} {ts : List Addr} {ps : List PI2} (h : Prs τ ts ps) {i : Nat} {p : PI2} (e : ps[i]? = some p) : ∃ t, ts[i]? = some t ∧ τ t = some (pV p) := by
  have z := congrArg (fun l => l[i]?) h
  simp only [List.getElem?_map, e] at z
  cases q : ts[i]? with
  | none =>
    rw [q] at z
    cases z
  | some t =>
    rw [q] at z
    exact ⟨t, rfl, Option.some.inj z⟩
theorem Prs.mono {τ υ : Tmap} (l : Le τ υ) : ∀ {ts : List Addr} {ps : List PI2}, Prs τ ts ps → Prs υ ts ps
  | [], [], _ => rfl
  | [], _ :: _, h => by simp [Prs] at h
  | _ :: _, [], h => by simp [Prs] at h
  | t :: ts, p :: ps, h => by
    obtain ⟨h1, h2⟩ := List.cons.inj h
    have z := Prs.mono l (ts := ts) (ps := ps) h2
    show υ t :: ts.map υ = some (pV p) :: ps.map _
    rw [l t _ h1]
    exact congrArg _ z
theorem Prs.app {τ : Tmap} {ts us : List Addr} {ps qs : List PI2} (h : Prs τ ts ps) (g : Prs τ us qs) : Prs τ (ts ++ us) (ps ++ qs) := by
  unfold Prs
  rw [List.map_append, List.map_append, h, g]
theorem Prs.snoc {τ : Tmap} {ts : List Addr} {ps : List PI2} (h : Prs τ ts ps) {t : Addr} {p : PI2} (e : τ t = some (pV p)) : Prs τ (ts ++ [t]) (ps ++ [p]) := h.app (by show [τ t] = [some (pV p)]; rw [e])
theorem Prs.nil {τ : Tmap} : Prs τ [] [] := rfl
theorem Prs.take {τ : Tmap} {ts : List Addr} {ps : List PI2} (h : Prs τ ts ps) (n : Nat) : Prs τ (ts.take n) (ps.take n) := by
  unfold Prs
  rw [List.map_take, List.map_take, h]
theorem Prs.drop {τ : Tmap} {ts : List Addr} {ps : List PI2} (h : Prs τ ts ps) (n : Nat) : Prs τ (ts.drop n) (ps.drop n) := by
  unfold Prs
  rw [List.map_drop, List.map_drop, h]
theorem Sts.learnL {L : List Asr} : ∀ {τ : Tmap} {H : Hp} {ts : List Addr} {ps : List PI2}, Sts H (.im τ :: L) → PrH H ts ps → ∃ υ, Le τ υ ∧ Prs υ ts ps ∧ Sts H (.im υ :: L)
  | τ, H, [], [], S, _ => ⟨τ, Le.refl _, rfl, S⟩
  | _, _, [], _ :: _, _, h => by simp [PrH] at h
  | _, _, _ :: _, [], _, h => by simp [PrH] at h
  | τ, H, t :: ts, p :: ps, S, h => by
    obtain ⟨h1, h2⟩ := List.cons.inj h
    obtain ⟨υ, l1, e1, S1⟩ := S.learn h1
    obtain ⟨φ, l2, r, S2⟩ := S1.learnL (ts := ts) (ps := ps) h2
    refine ⟨φ, l1.trans l2, ?_, S2⟩
    show φ t :: ts.map φ = some (pV p) :: ps.map _
    rw [l2 t _ e1]
    exact congrArg _ r
/-! the order -/
def leP (p q : PI2) : Bool := decide (p.1 < q.1 ∨ (p.1 = q.1 ∧ p.2 ≤ q.2))
theorem leP_iff {p q : PI2} : leP p q = true ↔ (p.1 < q.1 ∨ (p.1 = q.1 ∧ p.2 ≤ q.2)) := decide_eq_true_iff
theorem leP_tr (p q r : PI2) (h : leP p q = true) (g : leP q r = true) : leP p r = true := by
  rw [leP_iff] at *
  omega
theorem leP_total (p q : PI2) : (leP p q || leP q p) = true := by
  rw [Bool.or_eq_true, leP_iff, leP_iff]
  omega
theorem leP_asymm {p q : PI2} (h : leP p q = true) (g : leP q p = true) : p = q := by
  rw [leP_iff] at *
  exact Prod.ext (by omega) (by omega)
def srt (ps : List PI2) : List PI2 := ps.mergeSort leP
theorem srt_perm (ps : List PI2) : (srt ps).Perm ps := List.mergeSort_perm ps leP
theorem srt_pw (ps : List PI2) : (srt ps).Pairwise fun p q => leP p q = true := List.pairwise_mergeSort leP_tr leP_total ps
theorem srt_len (ps : List PI2) : (srt ps).length = ps.length := (srt_perm ps).length_eq
theorem srt_mem {ps : List PI2} {p : PI2} : p ∈ srt ps ↔ p ∈ ps := (srt_perm ps).mem_iff
theorem pw_uniq : ∀ {l m : List PI2}, l.Perm m → (l.Pairwise fun p q => leP p q = true) → (m.Pairwise fun p q => leP p q = true) → l = m
  | [], m, h, _, _ => h.nil_eq
  | a :: l, [], h, _, _ => absurd h.length_eq (by simp)
  | a :: l, b :: m, h, hl, hm => by
    obtain ⟨ha, hl'⟩ := List.pairwise_cons.mp hl
    obtain ⟨hb, hm'⟩ := List.pairwise_cons.mp hm
    have e : a = b := by
      have h1 : a ∈ b :: m := h.mem_iff.mp List.mem_cons_self
      have h2 : b ∈ a :: l := h.mem_iff.mpr List.mem_cons_self
      rcases List.mem_cons.mp h1 with q | q
      · exact q
      · rcases List.mem_cons.mp h2 with r | r
        · exact r.symm
        · exact leP_asymm (ha b r) (hb a q)
    subst e
    rw [pw_uniq h.cons_inv hl' hm']
theorem srt_uniq {l m : List PI2} (h : l.Perm m) (p : l.Pairwise fun p q => leP p q = true) : l = srt m := pw_uniq (h.trans (srt_perm m).symm) p (srt_pw m)
theorem srt_congr {l m : List PI2} (h : l.Perm m) : srt l = srt m := srt_uniq ((srt_perm l).trans h) (srt_pw l)
theorem lexB_leP {p q : PI2} (h : SrtO.lexB q p = false) : leP p q = true := by
  have z := SrtO.lexB_no.mp h
  rw [leP_iff]
  omega
/-! a list that is sorted -/
def kP (H : Hp) : V → PI2
  | .ref t => match H t with | some (.tup [.int i, .int j]) => (i, j) | _ => (0, 0)
  | _ => (0, 0)
theorem kP_of {H : Hp} {t : Addr} {p : PI2} (e : H t = some (.tup (pV p))) : kP H (.ref t) = p := by
  show (match H t with | some (.tup [.int i, .int j]) => (i, j) | _ => (0, 0)) = p
  rw [e]
theorem PrH.at {H : Hp} {ts : List Addr} {ps : List PI2} (h : PrH H ts ps) {t : Addr} (m : t ∈ ts) : ∃ p, p ∈ ps ∧ H t = some (.tup (pV p)) := by
  have z : H t ∈ ts.map H := List.mem_map_of_mem m
  rw [h] at z
  obtain ⟨p, hp, e⟩ := List.mem_map.mp z
  exact ⟨p, hp, e.symm⟩
theorem PrH.kP {H : Hp} {ts : List Addr} {ps : List PI2} (h : PrH H ts ps) : ts.map (fun t => kP H (.ref t)) = ps := by
  unfold PrH at h
  induction ts generalizing ps with
  | nil =>
    cases ps with
    | nil => rfl
    | cons a b => simp at h
  | cons t ts ih =>
    cases ps with
    | nil => simp at h
    | cons p ps =>
      obtain ⟨h1, h2⟩ := List.cons.inj h
      rw [List.map_cons, kP_of h1, ih h2]
theorem PrH.perm {H : Hp} {ts us : List Addr} {ps : List PI2} (h : PrH H ts ps) (m : us.Perm ts) : PrH H us (us.map fun t => Oc.kP H (.ref t)) := by
  unfold PrH
  rw [List.map_map]
  refine List.map_congr_left fun t ht => ?_
  obtain ⟨p, _, e⟩ := h.at (m.mem_iff.mp ht)
  show H t = some (.tup (pV (Oc.kP H (.ref t))))
  rw [kP_of e, e]
/-- us, sorted by their pairs -/
theorem PrH.sorted {H : Hp} {ts us : List Addr} {ps : List PI2} (h : PrH H ts ps) (m : us.Perm ts) (s : us.Pairwise fun t u => SrtO.lexB (Oc.kP H (.ref u)) (Oc.kP H (.ref t)) = false) : PrH H us (srt ps) := by
  have z := h.perm m
  have e : us.map (fun t => Oc.kP H (.ref t)) = srt ps := by
    refine srt_uniq ?_ ?_
    · rw [← h.kP]
      exact m.map _
    · rw [List.pairwise_map]
      exact s.imp fun h => lexB_leP h
  rwa [e] at z
def qSortP (K : PySem.W.Frag) : List V → Hp → VK → Prop := fun vs H Q => ∃ (a : Addr) (ts : List Addr) (ps : List PI2), vs = [V.ref a] ∧ SqL K H a (ts.map V.ref) ∧ PrH H ts ps ∧ ∀ us, PrH H us (srt ps) → qNew H (.lst (us.map V.ref)) Q
theorem refs_of {ys : List V} {ts : List Addr} (h : ys.Perm (ts.map V.ref)) : ∃ us : List Addr, ys = us.map V.ref ∧ us.Perm ts := by
  have hm : ∀ y ∈ ys, ∃ t, y = V.ref t := fun y hy => by
    obtain ⟨t, _, e⟩ := List.mem_map.mp (h.mem_iff.mp hy)
    exact ⟨t, e.symm⟩
  have g : ∀ l : List V, (∀ y ∈ l, ∃ t, y = V.ref t) → ∃ us : List Addr, l = us.map V.ref := by
    intro l
    induction l with
    | nil => exact fun _ => ⟨[], rfl⟩
    | cons y l ih =>
      intro hm
      obtain ⟨t, e⟩ := hm y List.mem_cons_self
      obtain ⟨us, e2⟩ := ih fun z hz => hm z (List.mem_cons_of_mem _ hz)
      exact ⟨t :: us, by rw [e, e2]; rfl⟩
  obtain ⟨us, e⟩ := g ys hm
  refine ⟨us, e, ?_⟩
  rw [e] at h
  let f : V → Addr := fun v => match v with | .ref t => t | _ => 0
  have z := h.map f
  have e1 : ∀ l : List Addr, (l.map V.ref).map f = l := fun l => by
    rw [List.map_map]
    exact (List.map_congr_left fun t _ => rfl).trans (List.map_id l)
  rwa [e1, e1] at z
section
variable {X : Cx} {K : PySem.W.Frag}
theorem v_sortP (hK : X.K = K) : CallR X (.builtin "sorted") (qSortP K) := by
  subst hK
  intro pins s σ H vs us Q I r ⟨a, ts, ps, e, hs, hp, q⟩
  refine cr_sortedPO pins s σ H vs us Q I r ⟨a, ts.map V.ref, kP H, e, hs, fun x hx => ?_, fun ys p h1 h2 np => ?_⟩
  · obtain ⟨t, ht, rfl⟩ := List.mem_map.mp hx
    obtain ⟨p, _, e2⟩ := hp.at ht
    exact ⟨t, rfl, by rw [kP_of e2]; exact e2⟩
  · obtain ⟨us2, rfl, hperm⟩ := refs_of h2.perm
    refine q us2 (hp.sorted hperm ?_) p np
    have z := List.pairwise_map.mp h1
    exact z
/-- the keys of a dict, sorted: pairs of ints -/
def pk (p : PI2) : List Key := [.inl p.1, .inl p.2]
theorem pk_V (p : PI2) : (pk p).map kV = pV p := rfl
def qSortDT : List V → Hp → VK → Prop := fun vs H Q => ∃ (d : Addr) (kvs : List (List Key × V)) (ps : List PI2), vs = [V.ref d] ∧ H d = some (.dT kvs) ∧ kvs.map (·.1) = ps.map pk ∧ ∀ us, PrH H us (srt ps) → qNew H (.lst (us.map V.ref)) Q
theorem isKeys_PrH {H : Hp} : ∀ {kvs : List (List Key × V)} {bs : List Addr} {ps : List PI2}, IsKeys H kvs bs → kvs.map (·.1) = ps.map pk → PrH H bs ps
  | [], _, [], h, _ => by
    cases h
    rfl
  | [], _, _ :: _, _, e => by simp at e
  | _ :: _, _, [], _, e => by simp at e
  | kv :: kvs, _, p :: ps, h, e => by
    cases h with
    | cons h1 h2 =>
      obtain ⟨e1, e2⟩ := List.cons.inj e
      have z := isKeys_PrH (ps := ps) h2 e2
      have e1 : kv.1 = pk p := e1
      rw [e1] at h1
      show _ :: _ = _ :: _
      rw [h1, z]
      rfl
theorem v_sortDT (hc : X.calm = true) : CallR X (.builtin "sorted") qSortDT := by
  intro pins s σ H xs us Q I r ⟨d, kvs, ps, e, hd, hk, q⟩
  subst e
  obtain ⟨u, rfl, rx⟩ := r.one
  cases rx
  obtain ⟨z, hs, ks, pr, o, es, ep, ho, hx, hdt, he, hn⟩ := (show ObjOk X.prog X.w H s.heap d (.dT kvs) from I.hok _ _ hd)
  have l1 : es.size = ks.length := size_of_entries he
  have l2 : kvs.length = ks.length := Paired.length pr
  have hP : PrH H (ks.map fun x => x.2.1) ps := isKeys_PrH (isKeys_of pr) hk
  have h16 : es.size ≤ sizeLine := by omega
  refine Calls.call_function_entry PyProof.Rows.kind_sorted PyProof.Rows.plain_sorted PyProof.Rows.entry_sorted (PyProof.Rows.args_sorted1 _) ?_
  unfold Builtin.«sorted»
  refine wpAny_bind (m := checkCount "sorted" 1 1 _) (wpAny_pure ?_)
  refine wpAny_bind (PySem.W.kdu_collect (A := X.A.in1) (kdl_raw hs hx hdt) (I.ok.hd hc) ho h16 fun h' tk acc kp it => ?_)
  have ea : acc.toList = (ks.map fun x => x.2.1).map Value.ref := by
    rw [List.map_map]
    have hl : acc.toList.length = ks.length := by rw [Array.length_toList, it.1]; exact l1
    apply List.ext_getElem?
    intro j
    rw [List.getElem?_map]
    cases hj : acc.toList[j]? with
    | none =>
      have h1 := List.getElem?_eq_none_iff.mp hj
      rw [List.getElem?_eq_none (by omega)]
      all_goals rfl
    | some v =>
      obtain ⟨en, hen, hv⟩ := it.2 j v (by rw [← Array.getElem?_toList]; exact hj)
      have qe := entry_at he j
      rw [hen] at qe
      cases hb : ks[j]? with
      | none =>
        rw [hb] at qe
        exact nomatch (show some en = none from qe)
      | some b =>
        rw [hb] at qe
        have e2 : en = entryOfKey (tupleKind (mixKind X.prog X.w)) b := Option.some.inj qe
        rw [hv, e2]
        all_goals rfl
  have hal : acc.toList.length ≤ sizeLine := by rw [Array.length_toList, it.1]; exact h16
  generalize hbs : (ks.map fun x => x.2.1) = bs at *
  have I1 : Inv X pins σ H { s with heap := h', toks := tk } := I.kept kp
  refine wpAny_bind (wpAny_newList ?_ hal)
  have hoL : (h'.push (seqObj "list" acc.toList.toArray 0)).get? h'.objs.size = some (seqObj "list" acc.toList.toArray 0) := Heap.get?_push_size _ rfl
  have kp2 : ∀ b o, h'.get? b = some o → (h'.push (seqObj "list" acc.toList.toArray 0)).get? b = some o := fun b o q => Heap.get?_push_of_some _ q
  let kf : Value → PI2 := fun v => kP H (backV v)
  have hpair : ∀ v ∈ acc.toList, Srt.IsPair (h'.push (seqObj "list" acc.toList.toArray 0)) v (kf v).1 (kf v).2 := fun v hv => by
    rw [ea] at hv
    obtain ⟨t, ht, rfl⟩ := List.mem_map.mp hv
    obtain ⟨p, _, e2⟩ := hP.at ht
    obtain ⟨_, its2, r2, o2, ho2, hc2, n2, hd2⟩ := I1.hok _ _ e2
    obtain ⟨u1, u2, rfl, ri, rj⟩ := vals2 r2
    obtain ⟨t1, rfl⟩ := ri
    obtain ⟨t2, rfl⟩ := rj
    have ek : kf (Value.ref t) = p := kP_of e2
    rw [ek]
    exact ⟨t, o2, t1, t2, n2, rfl, kp2 _ _ ho2, hc2, hd2⟩
  show wpAny _ _ _ _ _ { s with heap := h'.push (seqObj "list" acc.toList.toArray 0), toks := tk }
  refine wpAny_bind (wpAny_holding (wpAny_call_entry PyProof.Rows.slot_list_sort ⟨_, hoL, rfl⟩ PyProof.Rows.entry_list_sort
    (SrtO.list_sort_ord (s := { s with heap := h'.push (seqObj "list" acc.toList.toArray 0), toks := tk }) (SrtO.swo_lex kf) hoL hal (fun h2 => SrtO.pairs_sortableO (k := kf) (by omega) hpair fun o e => ?_) fun out g1 g2 => ⟨_, rfl, ?_⟩) (PyProof.Rows.args_list_sort _)))
  · have e' : some o = some (seqObj "list" acc.toList.toArray 0) := e.symm.trans hoL
    cases e'
    intro c
    exact absurd (Value.type.inj c) (by decide)
  · obtain ⟨e', he'⟩ := PyProof.Rows.sortedHeap_at (vs := acc.toList) (out := out.toArray) hoL
    have hperm : out.Perm (bs.map Value.ref) := by rw [← ea]; exact g2.perm
    obtain ⟨cs, hcs, hcp⟩ : ∃ cs : List Addr, out = cs.map Value.ref ∧ cs.Perm bs := by
      have hp2 : (out.map backV).Perm (bs.map V.ref) := by
        have z := hperm.map backV
        rw [List.map_map] at z
        exact z
      obtain ⟨cs, e1, e2⟩ := refs_of hp2
      refine ⟨cs, ?_, e2⟩
      have hm : ∀ v ∈ out, ∃ t, v = Value.ref t := fun v hv => by
        obtain ⟨t, _, e⟩ := List.mem_map.mp (hperm.mem_iff.mp hv)
        exact ⟨t, e.symm⟩
      clear he' g1 g2 hperm hp2 e2
      induction out generalizing cs with
      | nil =>
        cases cs with
        | nil => rfl
        | cons a b => simp at e1
      | cons v out ih =>
        cases cs with
        | nil => simp at e1
        | cons c cs =>
          obtain ⟨f1, f2⟩ := List.cons.inj e1
          obtain ⟨t, rfl⟩ := hm v List.mem_cons_self
          have f1 : V.ref t = V.ref c := f1
          cases f1
          rw [ih cs f2 fun w hw => hm w (List.mem_cons_of_mem _ hw)]
          rfl
    subst hcs
    have hlen : (cs.map V.ref).length ≤ sizeLine := by
      rw [List.length_map, hcp.length_eq, ← List.length_map (f := Value.ref), ← ea]
      exact hal
    refine wpAny_pure ⟨_, rfl, .ref h'.objs.size, upd H h'.objs.size (.lst (cs.map V.ref)), I1.laid (t' := tk) (fun b u e => ?_) (Nat.le_refl _) ⟨hlen, cs.map Value.ref, e', vals_refs cs, he'⟩, rfl, ?_⟩
    · rw [PyProof.Rows.sortedHeap_old (Nat.ne_of_lt (Heap.lt_size e)) (by rw [size_push']; exact Nat.lt_succ_of_lt (Heap.lt_size e))]
      exact kp2 _ _ e
    · refine q cs (hP.sorted hcp ?_) _ (I1.hok.fresh (Nat.le_refl _))
      exact (List.pairwise_map.mp g1)
end
end Oc
/-! ### pairs as data: ==, in; dicts by pairs; rows -/
namespace Oc
open PySem PySem.Spec PyProof.Rows L2
def pdP (p : PI2) : PyData := .tuple [.int p.1, .int p.2]
theorem dp_pair {K : PySem.W.Frag} {H : Hp} {t : Addr} {p : PI2} (e : H t = some (.tup (pV p))) : Dp K H (.ref t) (pdP p) := .tup (SqT.of e) (.cons (.int _) (.cons (.int _) .nil))
theorem dp_pairs {K : PySem.W.Frag} {H : Hp} : ∀ {ts : List Addr} {ps : List PI2}, PrH H ts ps → DpAll K H (ts.map V.ref) (ps.map pdP)
  | [], [], _ => .nil
  | [], _ :: _, h => by simp [PrH] at h
  | _ :: _, [], h => by simp [PrH] at h
  | t :: ts, p :: ps, h => by
    obtain ⟨h1, h2⟩ := List.cons.inj h
    exact .cons (dp_pair h1) (dp_pairs (ts := ts) (ps := ps) h2)
theorem eqv_pair (p q : PI2) : PyData.eqv (pdP p) (pdP q) = decide (p = q) := by
  obtain ⟨a, b⟩ := p
  obtain ⟨c, d⟩ := q
  simp only [pdP, PyData.eqv, PyData.eqvAll]
  by_cases h1 : a = c <;> by_cases h2 : b = d <;> simp [h1, h2]
theorem eqv_pairs : ∀ ps qs : List PI2, PyData.eqvAll (ps.map pdP) (qs.map pdP) = decide (ps = qs)
  | [], [] => by simp [PyData.eqvAll]
  | [], _ :: _ => by simp [PyData.eqvAll]
  | _ :: _, [] => by simp [PyData.eqvAll]
  | p :: ps, q :: qs => by
    simp only [List.map_cons, PyData.eqvAll, eqv_pair, eqv_pairs ps qs]
    by_cases h1 : p = q <;> by_cases h2 : ps = qs <;> simp [h1, h2]
theorem lay_pair (p : PI2) : PyData.canLay0 (pdP p) = true := by simp [pdP, PyData.canLay0, PyData.canLayAll0]
theorem lay_pairs : ∀ ps : List PI2, PyData.canLayAll0 (ps.map pdP) = true
  | [] => by simp [PyData.canLayAll0]
  | p :: ps => by simp [PyData.canLayAll0, lay_pair, lay_pairs ps]
theorem depth_pair (p : PI2) : PyData.depth (pdP p) = 1 := by simp [pdP, PyData.depth, PyData.depthAll]
theorem depth_pairs : ∀ ps : List PI2, PyData.depthAll (ps.map pdP) ≤ 1
  | [] => by simp [PyData.depthAll]
  | p :: ps => by
    have := depth_pairs ps
    simp only [List.map_cons, PyData.depthAll, depth_pair]
    omega
theorem shaped_pair (p : PI2) : SeqAt.shaped (pdP p) = true := by
  unfold SeqAt.shaped
  rw [lay_pair, depth_pair]
  rfl
theorem shaped_pairs (ps : List PI2) : SeqAt.shaped (.list (ps.map pdP)) = true := by
  unfold SeqAt.shaped
  have e : PyData.canLay0 (.list (ps.map pdP)) = true := by simp [PyData.canLay0, lay_pairs]
  have d : PyData.depth (.list (ps.map pdP)) ≤ 64 := by
    have := depth_pairs ps
    simp only [PyData.depth]
    omega
  rw [e, Bool.true_and]
  exact decide_eq_true d
theorem any_pairs (ps : List PI2) (p : PI2) : ((ps.map pdP).any fun z => PyData.eqv z (pdP p)) = decide (p ∈ ps) := by
  rw [List.any_map]
  induction ps with
  | nil => rfl
  | cons q ps ih =>
    rw [List.any_cons, ih]
    show (PyData.eqv (pdP q) (pdP p) || decide (p ∈ ps)) = _
    rw [eqv_pair]
    by_cases h1 : q = p
    · subst h1
      simp
    · have h1' : ¬ p = q := fun e => h1 e.symm
      by_cases h2 : p ∈ ps <;> simp [h1, h1', h2]
def qInPs (K : PySem.W.Frag) (neg : Bool) : R2 := fun x y H Q => ∃ (t a : Addr) (ts : List Addr) (p : PI2) (ps : List PI2), x = .ref t ∧ y = .ref a ∧ H t = some (.tup (pV p)) ∧ SqL K H a (ts.map V.ref) ∧ PrH H ts ps ∧ Q (.bl (if neg then !decide (p ∈ ps) else decide (p ∈ ps))) H
def qEqPs (K : PySem.W.Frag) (neg : Bool) : R2 := fun x y H Q => ∃ (a b : Addr) (ts us : List Addr) (ps qs : List PI2), x = .ref a ∧ y = .ref b ∧ SqL K H a (ts.map V.ref) ∧ PrH H ts ps ∧ SqL K H b (us.map V.ref) ∧ PrH H us qs ∧ Q (.bl (if neg then !decide (ps = qs) else decide (ps = qs))) H
/-- i in (a, b) -/
def qInP (K : PySem.W.Frag) (neg : Bool) : R2 := fun x y H Q => ∃ (i : Int) (t : Addr) (p : PI2), x = .int i ∧ y = .ref t ∧ H t = some (.tup (pV p)) ∧ Q (.bl (if neg then !decide (i = p.1 ∨ i = p.2) else decide (i = p.1 ∨ i = p.2))) H
section
variable {X : Cx} {K : PySem.W.Frag}
theorem v_inPs (hK : X.K = K) (hu : X.A.units + 65 < cLine) : OpR X (compareOp .In) (qInPs K false) := by
  subst hK
  exact fun pins s σ H x y v u Q I rx ry ⟨t, a, ts, p, ps, e1, e2, ht, ha, hp, q⟩ => op_inD hu pins s σ H x y v u Q I rx ry ⟨pdP p, ps.map pdP, e1 ▸ dp_pair ht, e2 ▸ .lst ha (dp_pairs hp), shaped_pair p, shaped_pairs ps, by rw [any_pairs]; exact q⟩
theorem v_notInPs (hK : X.K = K) (hu : X.A.units + 65 < cLine) : OpR X (compareOp .NotIn) (qInPs K true) := by
  subst hK
  exact fun pins s σ H x y v u Q I rx ry ⟨t, a, ts, p, ps, e1, e2, ht, ha, hp, q⟩ => op_notInD hu pins s σ H x y v u Q I rx ry ⟨pdP p, ps.map pdP, e1 ▸ dp_pair ht, e2 ▸ .lst ha (dp_pairs hp), shaped_pair p, shaped_pairs ps, by rw [any_pairs]; exact q⟩
theorem v_eqPs (hK : X.K = K) (hu : X.A.units + 64 < cLine) : OpR X (compareOp .Eq) (qEqPs K false) := by
  subst hK
  exact fun pins s σ H x y v u Q I rx ry ⟨a, b, ts, us, ps, qs, e1, e2, ha, hp, hb, hq, q⟩ => op_eqD hu pins s σ H x y v u Q I rx ry ⟨.list (ps.map pdP), .list (qs.map pdP), e1 ▸ .lst ha (dp_pairs hp), e2 ▸ .lst hb (dp_pairs hq), shaped_pairs ps, shaped_pairs qs, by
    have e : PyData.eqv (.list (ps.map pdP)) (.list (qs.map pdP)) = decide (ps = qs) := by
      rw [← eqv_pairs]
      simp only [PyData.eqv]
    rw [e]
    exact q⟩
theorem v_nePs (hK : X.K = K) (hu : X.A.units + 64 < cLine) : OpR X (compareOp .NotEq) (qEqPs K true) := by
  subst hK
  exact fun pins s σ H x y v u Q I rx ry ⟨a, b, ts, us, ps, qs, e1, e2, ha, hp, hb, hq, q⟩ => op_neD hu pins s σ H x y v u Q I rx ry ⟨.list (ps.map pdP), .list (qs.map pdP), e1 ▸ .lst ha (dp_pairs hp), e2 ▸ .lst hb (dp_pairs hq), shaped_pairs ps, shaped_pairs qs, by
    have e : PyData.eqv (.list (ps.map pdP)) (.list (qs.map pdP)) = decide (ps = qs) := by
      rw [← eqv_pairs]
      simp only [PyData.eqv]
    rw [e]
    exact q⟩
theorem inV_pair (i a b : Int) : inV (.int i) [.int a, .int b] = decide (i = a ∨ i = b) := by
  have z := in_ints i [a, b]
  have z : inV (.int i) [.int a, .int b] = _ := z
  rw [z]
  by_cases h1 : i = a <;> by_cases h2 : i = b <;> simp [h1, h2]
theorem v_inP (hK : X.K = K) : OpR X (compareOp .In) (qInP K false) := fun pins s σ H x y v u Q I rx ry ⟨i, t, p, e1, e2, ht, q⟩ =>
  op_in_seq pins s σ H x y v u Q I rx ry ⟨t, pV p, e2, .inr (SqT.of ht), by rw [e1]; rfl, rfl, by rw [e1]; show Q (.bl (inV (.int i) [.int p.1, .int p.2])) H; rw [inV_pair]; exact q⟩
theorem v_notInP (hK : X.K = K) : OpR X (compareOp .NotIn) (qInP K true) := fun pins s σ H x y v u Q I rx ry ⟨i, t, p, e1, e2, ht, q⟩ =>
  op_notIn_seq pins s σ H x y v u Q I rx ry ⟨t, pV p, e2, .inr (SqT.of ht), by rw [e1]; rfl, rfl, by rw [e1]; show Q (.bl (!inV (.int i) [.int p.1, .int p.2])) H; rw [inV_pair]; exact q⟩
end
/-! dicts by pairs -/
section
variable {α : Type}
def dT (f : α → V) (ps : List (PI2 × α)) : List (List Key × V) := ps.map fun p => (pk p.1, f p.2)
def getT (ps : List (PI2 × α)) (k : PI2) : Option α := (ps.find? fun p => decide (p.1 = k)).map (·.2)
def putT (ps : List (PI2 × α)) (k : PI2) (v : α) : List (PI2 × α) := if (ps.any fun p => decide (p.1 = k)) = true then ps.map (fun p => if p.1 = k then (p.1, v) else p) else ps ++ [(k, v)]
theorem pk_inj {p q : PI2} (h : pk p = pk q) : p = q := by
  obtain ⟨h1, h2⟩ := List.cons.inj h
  obtain ⟨h2, _⟩ := List.cons.inj h2
  exact Prod.ext (Sum.inl.inj h1) (Sum.inl.inj h2)
theorem pkeq (a b : PI2) : decide (pk a = pk b) = decide (a = b) := by
  by_cases h : a = b
  · rw [h, decide_eq_true rfl, decide_eq_true rfl]
  · rw [decide_eq_false h, decide_eq_false fun e => h (pk_inj e)]
theorem getT_pos {p : PI2 × α} {r : List (PI2 × α)} {k : PI2} (e : p.1 = k) : getT (p :: r) k = some p.2 := by simp [getT, List.find?_cons, e]
theorem getT_neg {p : PI2 × α} {r : List (PI2 × α)} {k : PI2} (e : ¬ p.1 = k) : getT (p :: r) k = getT r k := by simp [getT, List.find?_cons, e]
theorem valV_dT (f : α → V) (k : PI2) : ∀ ps : List (PI2 × α), valV (dT f ps) (pk k) = (getT ps k).map f
  | [] => rfl
  | p :: r => by
    by_cases e : p.1 = k
    · rw [getT_pos e]
      exact valV_pos (p := (pk p.1, f p.2)) (by rw [e])
    · rw [getT_neg e, ← valV_dT f k r]
      exact valV_neg (p := (pk p.1, f p.2)) (fun z => e (pk_inj z))
theorem putK_dT (f : α → V) (ps : List (PI2 × α)) (k : PI2) (v : α) : putK (dT f ps) (pk k) (f v) = dT f (putT ps k v) := by
  unfold putK putT
  have e : ((dT f ps).any fun kv => decide (kv.1 = pk k)) = ps.any fun p => decide (p.1 = k) := by
    unfold dT
    rw [List.any_map]
    congr 1
    funext p
    exact pkeq p.1 k
  rw [e]
  split
  · unfold dT
    rw [List.map_map, List.map_map]
    congr 1
    funext p
    show (if pk p.1 = pk k then (pk p.1, f v) else (pk p.1, f p.2)) = (pk (if p.1 = k then (p.1, v) else p).1, f (if p.1 = k then (p.1, v) else p).2)
    by_cases h : p.1 = k
    · rw [if_pos h, if_pos (by rw [h])]
    · rw [if_neg h, if_neg fun z => h (pk_inj z)]
  · unfold dT
    rw [List.map_append]
    rfl
theorem getT_some {k : PI2} : ∀ {ps : List (PI2 × α)}, (getT ps k).isSome = decide (k ∈ ps.map (·.1))
  | [] => rfl
  | p :: r => by
    by_cases e : p.1 = k
    · rw [getT_pos e]
      simp [e]
    · rw [getT_neg e, getT_some (ps := r)]
      have e' : ¬ k = p.1 := fun z => e z.symm
      simp [e']
theorem putT_new {ps : List (PI2 × α)} {k : PI2} {v : α} (h : k ∉ ps.map (·.1)) : putT ps k v = ps ++ [(k, v)] := by
  unfold putT
  rw [if_neg]
  intro z
  obtain ⟨p, hp, e⟩ := List.any_eq_true.mp z
  exact h (List.mem_map.mpr ⟨p, hp, of_decide_eq_true e⟩)
end
def kDIn (y : V) (neg : Bool) (Q : VK) : VK := fun x H2 => ∃ a o, x = .ref a ∧ DGet H2 a y o ∧ Q (.bl (if neg then !o.isSome else o.isSome)) H2
section
variable {σ : L2.St} {H : Hp} {Q : VK} {t d : Addr} {k : PI2} {α : Type} {f : α → V} {ps : List (PI2 × α)} {ty td : TE} {L : List Asr} {D : Ends}
theorem g_din (h : ty σ H fun y H1 => td σ H1 (kDIn y false Q)) : tDIn ty td σ H Q := h
theorem g_dnotin (h : ty σ H fun y H1 => td σ H1 (kDIn y true Q)) : tDNotIn ty td σ H Q := h
theorem g_kDInT {i j : Int} (h : H d = some (.dT (dT f ps))) (e : H t = some (.tup [.int i, .int j])) (q : Q (.bl (decide ((i, j) ∈ ps.map (·.1)))) H) : kDIn (.ref t) false Q (.ref d) H :=
  ⟨d, _, rfl, DGet.t (k := pk (i, j)) h e, by
    show Q (.bl ((valV (dT f ps) (pk (i, j))).isSome)) H
    rw [valV_dT, Option.isSome_map, getT_some]; exact q⟩
theorem g_kDNotInT {i j : Int} (h : H d = some (.dT (dT f ps))) (e : H t = some (.tup [.int i, .int j])) (q : Q (.bl (!decide ((i, j) ∈ ps.map (·.1)))) H) : kDIn (.ref t) true Q (.ref d) H :=
  ⟨d, _, rfl, DGet.t (k := pk (i, j)) h e, by
    show Q (.bl (!(valV (dT f ps) (pk (i, j))).isSome)) H
    rw [valV_dT, Option.isSome_map, getT_some]
    exact q⟩
end
/-- d[k] = v, k a pair -/
def qSetT {α : Type} (f : α → V) : TSet := fun o i v H Q => ∃ p t k, o = .ref p ∧ i = .ref t ∧ H t = some (.tup (pV k)) ∧ ∃ j, v = f j ∧ ∃ ps L, Sts H (pto p (.dT (dT f ps)) :: L) ∧ ps.length ≤ 1000000 ∧ ∀ H', Sts H' (pto p (.dT (dT f (putT ps k j))) :: L) → Q H'
theorem v_setT {X : Cx} {α : Type} (f : α → V) (hu : X.A.units + 1 < cLine) : PSet X (qSetT f) := by
  intro pn s0 σ H o i v ov iv u Q J ro ri rv ⟨p, t, k, eo, ei, ht, j, ev, ps, L, S, hl, q⟩
  subst eo ei ev
  cases ro
  refine d_setItem hu J (DPut.t (k := pk k) S.hd ht (small (by unfold dT; rw [List.length_map]; exact hl))) ri rv fun s1 J1 => ⟨_, J1, q _ ?_⟩
  rw [putK_dT]
  exact S.put _
theorem g_setT {α : Type} {f : α → V} {H : Hp} {p t : Addr} {x y : Int} {j : α} {ps : List (PI2 × α)} {L : List Asr} {R : Hp → Prop} (S : Sts H (pto p (.dT (dT f ps)) :: L)) (ht : H t = some (.tup [.int x, .int y])) (hl : ps.length ≤ 1000000) (q : ∀ H', Sts H' (pto p (.dT (dT f (putT ps (x, y) j))) :: L) → R H') : qSetT f (.ref p) (.ref t) (f j) H R :=
  ⟨p, t, (x, y), rfl, rfl, ht, j, rfl, ps, L, S, hl, q⟩
/-! reading pairs -/
section
variable {H : Hp} {τ υ : Tmap} {L : List Asr} {t : Addr} {p : PI2} {ts : List Addr} {ps : List PI2}
theorem Le.ap (l : Le τ υ) {vs : List V} (e : τ t = some vs) : υ t = some vs := l t vs e
theorem Sts.prs (S : Sts H (.im τ :: L)) (h : Prs τ ts ps) : PrH H ts ps := by
  unfold PrH
  have z : ts.map H = ts.map fun t => (τ t).map HO.tup := List.map_congr_left fun t ht => by
    have m : τ t ∈ ts.map τ := List.mem_map_of_mem ht
    rw [h] at m
    obtain ⟨p, _, e⟩ := List.mem_map.mp m
    rw [← e]
    exact S.tp e.symm
  rw [z]
  have y : (ts.map fun t => (τ t).map HO.tup) = (ts.map τ).map fun o => o.map HO.tup := by
    rw [List.map_map]
    rfl
  rw [y, h, List.map_map]
  rfl
end
/-! rows: lists that stand side by side -/
abbrev RowL := Addr × List Int
def rws (rs : List RowL) : List Asr := rs.map fun q => pto q.1 (.lst (q.2.map V.int))
structure rowc (rs : List RowL) (h : Hp) : Prop where
  st : St h (rws rs)
theorem rws_im {rs : List RowL} {τ : Tmap} : Asr.im τ ∉ rws rs := fun h => by
  obtain ⟨q, _, e⟩ := List.mem_map.mp h
  cases e
theorem rowc_open {rs : List RowL} {L : List Asr} {H : Hp} (S : Sts H (rowc rs :: L)) : Sts H (rws rs ++ L) := by
  obtain ⟨_, S⟩ := S.opn (f := fun _ : Unit => rws rs) (fun h a => ⟨(), a.st⟩) (fun _ _ => rws_im)
  exact S
theorem rowc_close {rs : List RowL} {L : List Asr} {H : Hp} (S : Sts H (rws rs ++ L)) : Sts H (rowc rs :: L) := S.cls fun h a => ⟨a⟩
theorem rowc_nil {L : List Asr} {H : Hp} (S : Sts H L) : Sts H (rowc [] :: L) := rowc_close S
theorem rws_perm {rs us : List RowL} (h : rs.Perm us) : (rws rs).Perm (rws us) := h.map _
theorem rowc_add {rs : List RowL} {a : Addr} {l : List Int} {L : List Asr} {H : Hp} (S : Sts H (pto a (.lst (l.map V.int)) :: rowc rs :: L)) : Sts H (rowc (rs ++ [(a, l)]) :: L) := by
  have S2 : Sts H (pto a (.lst (l.map V.int)) :: (rws rs ++ L)) := S.under fun K T => rowc_open T
  refine rowc_close (S2.perm ?_)
  show ((rws ((a, l) :: rs)) ++ L).Perm _
  exact List.Perm.append_right L (rws_perm (List.perm_append_singleton _ _).symm)
/-- row i alone, the others -/
def rowx (rs : List RowL) (i : Nat) : Hp → Prop := rowc (rs.eraseIdx i)
theorem row_perm : ∀ {rs : List RowL} {i : Nat} {x : RowL}, rs[i]? = some x → rs.Perm (x :: rs.eraseIdx i)
  | [], i, _, e => by simp at e
  | r :: rs, 0, x, e => by
    have e : r = x := by simpa using e
    subst e
    exact List.Perm.refl _
  | r :: rs, i + 1, x, e => by
    have e : rs[i]? = some x := by simpa using e
    exact ((row_perm e).cons r).trans (List.Perm.swap x r _)
theorem rowc_take {rs : List RowL} {i : Nat} {a : Addr} {l : List Int} {L : List Asr} {H : Hp} (S : Sts H (rowc rs :: L)) (e : rs[i]? = some (a, l)) : Sts H (pto a (.lst (l.map V.int)) :: rowx rs i :: L) := by
  have S2 := (rowc_open S).perm (List.Perm.append_right L (rws_perm (row_perm e)))
  have S3 : Sts H (pto a (.lst (l.map V.int)) :: (rws (rs.eraseIdx i) ++ L)) := S2
  exact S3.under fun K T => rowc_close T
theorem rowc_put {rs : List RowL} {i : Nat} {a : Addr} {l : List Int} {L : List Asr} {H : Hp} (hi : i < rs.length) (S : Sts H (pto a (.lst (l.map V.int)) :: rowx rs i :: L)) : Sts H (rowc (rs.set i (a, l)) :: L) := by
  have S2 : Sts H (pto a (.lst (l.map V.int)) :: (rws (rs.eraseIdx i) ++ L)) := S.under fun K T => rowc_open T
  refine rowc_close (S2.perm ?_)
  have hp : (rs.set i (a, l)).Perm ((a, l) :: rs.eraseIdx i) := by
    have z := row_perm (rs := rs.set i (a, l)) (i := i) (x := (a, l)) (by rw [List.getElem?_set_self hi])
    rwa [List.eraseIdx_set_eq] at z
  show ((rws ((a, l) :: rs.eraseIdx i)) ++ L).Perm _
  exact List.Perm.append_right L (rws_perm hp.symm)
/-! loops over pairs -/
theorem for_prs {K : PySem.W.Frag} {a : Addr} {g : TG} {tb : TS} {D : Ends} {σ : L2.St} {H : Hp} {τ : Tmap} {ts : List Addr} {ps : List PI2} (hp : Prs τ ts ps) (Pv : Nat → L2.St → Hp → Prop) (h0 : Pv 0 σ H) (hl : ∀ i σ H, Pv i σ H → SqL K H a (ts.map V.ref))
    (hs : ∀ i t p σ H, ps[i]? = some p → τ t = some (pV p) → Pv i σ H → g (.ref t) σ H fun σ2 H2 => tb { D with nx := Pv (i + 1), ct := Pv (i + 1), bk := D.nx } σ2 H2) (hd : ∀ σ H, Pv ps.length σ H → D.nx σ H) :
    kFor g tb D σ (Itl K a) H := by
  refine for_list (K := K) (a := a) (xs := ts.map V.ref) Pv h0 (fun i σ H _ h2 => hl i σ H h2) (fun i x σ H hx h2 => ?_) (fun σ H h => ?_)
  · rw [List.getElem?_map] at hx
    cases e : ts[i]? with
    | none =>
      rw [e] at hx
      cases hx
    | some t =>
      rw [e] at hx
      have ex : x = V.ref t := (Option.some.inj hx).symm
      subst ex
      obtain ⟨p, e1, e2⟩ := hp.at e
      exact hs i t p σ H e1 e2 h2
  · rw [List.length_map, hp.len] at h
    exact hd σ H h
/-- for i, x in enumerate(a), pairs -/
theorem for_enumP {K : PySem.W.Frag} {a : Addr} {g : TG} {tb : TS} {D : Ends} {σ : L2.St} {H : Hp} {τ : Tmap} {ts : List Addr} {ps : List PI2} (hp : Prs τ ts ps) (Pv : Nat → L2.St → Hp → Prop) (h0 : Pv 0 σ H) (hl : ∀ i σ H, Pv i σ H → SqL K H a (ts.map V.ref))
    (hs : ∀ i t p σ H T, ps[i]? = some p → τ t = some (pV p) → Pv i σ H → H T = none → g (.ref T) σ (upd H T (.tup [.int (i : Nat), .ref t])) fun σ2 H2 => tb { D with nx := Pv (i + 1), ct := Pv (i + 1), bk := D.nx } σ2 H2) (hd : ∀ σ H, Pv ps.length σ H → D.nx σ H) :
    kFor g tb D σ (Ite K a) H := by
  have hlen : (ts.map V.ref).length = ps.length := by rw [List.length_map, hp.len]
  refine oc_for (n := ps.length) Pv h0 (fun i σ H hi p => ⟨ts.map V.ref, (ts.map V.ref)[i], hl i σ H p, List.getElem?_eq_getElem (by rw [hlen]; exact hi)⟩) (fun σ H p => ⟨ts.map V.ref, hl _ σ H p, by rw [hlen]; exact Nat.le_refl _⟩) (fun i x σ H H' hi p y => ?_) hd
  obtain ⟨T, z, e1, e2, e3, e4⟩ := y
  have hx := e4 _ (hl i σ H p)
  rw [List.getElem?_map] at hx
  cases e : ts[i]? with
  | none =>
    rw [e] at hx
    cases hx
  | some t =>
    rw [e] at hx
    have ex : z = V.ref t := (Option.some.inj hx).symm
    subst ex e1 e3
    obtain ⟨q, f1, f2⟩ := hp.at e
    exact hs i t q σ H T f1 f2 p e2
/-- a comprehension over pairs -/
theorem lc_prs {K : PySem.W.Frag} {a : Addr} {g : TG} {tt : TT} {te : TE} {vs : List Nat} {σ : L2.St} {H : Hp} {Q : VK} {D : Addr} {τ : Tmap} {ts : List Addr} {ps : List PI2} (hp : Prs τ ts ps) (Pv : Nat → Hp → Prop) (h0 : Pv 0 H) (hl : ∀ i H, Pv i H → SqL K H a (ts.map V.ref))
    (hs : ∀ i t p H, ps[i]? = some p → τ t = some (pV p) → Pv i H → g (.ref t) (wipe σ vs) H fun σ2 H2 => wipe σ2 vs = wipe σ vs ∧ tt σ2 H2 fun b H3 =>
      if b = true then te σ2 H3 fun y H4 => ∃ acc, H4 D = some (.lst acc) ∧ acc.length < sizeLine ∧ Pv (i + 1) (upd H4 D (.lst (acc ++ [y]))) else Pv (i + 1) H3) (hd : ∀ H, Pv ps.length H → Q (.ref D) H) : kLw (Itl K a) g tt te vs σ Q D H := by
  have hlen : (ts.map V.ref).length = ps.length := by rw [List.length_map, hp.len]
  refine oc_lcL (K := K) (a := a) (xs := ts.map V.ref) Pv h0 (fun i H p => hl i H p) (fun i x H hx p => ?_) (fun H p => hd H (by rw [hlen] at p; exact p))
  rw [List.getElem?_map] at hx
  cases e : ts[i]? with
  | none =>
    rw [e] at hx
    cases hx
  | some t =>
    rw [e] at hx
    have ex : x = V.ref t := (Option.some.inj hx).symm
    subst ex
    obtain ⟨q, f1, f2⟩ := hp.at e
    exact hs i t q H f1 f2 p
theorem dT_keys {α : Type} (f : α → V) (qs : List (PI2 × α)) : (dT f qs).map (·.1) = (qs.map (·.1)).map pk := by
  unfold dT
  rw [List.map_map, List.map_map]
  rfl
theorem g_sortDT {H : Hp} {Q : VK} {d : Addr} {α : Type} {f : α → V} {qs : List (PI2 × α)} (h : H d = some (.dT (dT f qs))) (k : ∀ us, PrH H us (srt (qs.map (·.1))) → qNew H (.lst (us.map V.ref)) Q) : qSortDT [.ref d] H Q := ⟨d, _, _, rfl, h, dT_keys f qs, k⟩
theorem g_sortP {K : PySem.W.Frag} {H : Hp} {Q : VK} {a : Addr} {ts : List Addr} {ps : List PI2} (h : SqL K H a (ts.map V.ref)) (e : PrH H ts ps) (k : ∀ us, PrH H us (srt ps) → qNew H (.lst (us.map V.ref)) Q) : qSortP K [.ref a] H Q := ⟨a, ts, ps, rfl, h, e, k⟩
/-- for i, x in enumerate(a), ints -/
theorem for_enumI {K : PySem.W.Frag} {a : Addr} {g : TG} {tb : TS} {D : Ends} {σ : L2.St} {H : Hp} (ns : List Int) (Pv : Nat → L2.St → Hp → Prop) (h0 : Pv 0 σ H) (hl : ∀ i σ H, Pv i σ H → SqL K H a (ns.map V.int))
    (hs : ∀ i x σ H T, ns[i]? = some x → Pv i σ H → H T = none → g (.ref T) σ (upd H T (.tup [.int (i : Nat), .int x])) fun σ2 H2 => tb { D with nx := Pv (i + 1), ct := Pv (i + 1), bk := D.nx } σ2 H2) (hd : ∀ σ H, Pv ns.length σ H → D.nx σ H) :
    kFor g tb D σ (Ite K a) H := by
  have hlen : (ns.map V.int).length = ns.length := List.length_map _
  refine oc_for (n := ns.length) Pv h0 (fun i σ H hi p => ⟨ns.map V.int, (ns.map V.int)[i], hl i σ H p, List.getElem?_eq_getElem (by rw [hlen]; exact hi)⟩) (fun σ H p => ⟨ns.map V.int, hl _ σ H p, by rw [hlen]; exact Nat.le_refl _⟩) (fun i x σ H H' hi p y => ?_) hd
  obtain ⟨T, z, e1, e2, e3, e4⟩ := y
  obtain ⟨n, f1, f2⟩ := at_int (e4 _ (hl i σ H p))
  subst f2 e1 e3
  exact hs i n σ H T f1 p e2
/-- for x, y in zip(a, b): pairs and ints, of one length -/
theorem for_zipP {K : PySem.W.Frag} {a b : Addr} {g : TG} {tb : TS} {D : Ends} {σ : L2.St} {H : Hp} {τ : Tmap} {ts : List Addr} {ps : List PI2} (hp : Prs τ ts ps) (ns : List Int) (he : ns.length = ps.length) (Pv : Nat → L2.St → Hp → Prop) (h0 : Pv 0 σ H) (hl : ∀ i σ H, Pv i σ H → SqL K H a (ts.map V.ref)) (hl2 : ∀ i σ H, Pv i σ H → SqL K H b (ns.map V.int))
    (hs : ∀ i t p x σ H T, ps[i]? = some p → τ t = some (pV p) → ns[i]? = some x → Pv i σ H → H T = none → g (.ref T) σ (upd H T (.tup [.ref t, .int x])) fun σ2 H2 => tb { D with nx := Pv (i + 1), ct := Pv (i + 1), bk := D.nx } σ2 H2) (hd : ∀ σ H, Pv ps.length σ H → D.nx σ H) :
    kFor g tb D σ (Itz K a b) H := by
  have hlen : (ts.map V.ref).length = ps.length := by rw [List.length_map, hp.len]
  have hlen2 : (ns.map V.int).length = ps.length := by rw [List.length_map, he]
  refine oc_for (n := ps.length) Pv h0 (fun i σ H hi p => ⟨ts.map V.ref, ns.map V.int, (ts.map V.ref)[i], (ns.map V.int)[i], hl i σ H p, hl2 i σ H p, List.getElem?_eq_getElem (by rw [hlen]; exact hi), List.getElem?_eq_getElem (by rw [hlen2]; exact hi)⟩) (fun σ H p => ⟨ts.map V.ref, ns.map V.int, hl _ σ H p, hl2 _ σ H p, .inl (by rw [hlen]; exact Nat.le_refl _)⟩) (fun i x σ H H' hi p y => ?_) hd
  obtain ⟨T, u, v, e1, e2, e3, e4, e5⟩ := y
  obtain ⟨n, f1, f2⟩ := at_int (e5 _ (hl2 i σ H p))
  have hx := e4 _ (hl i σ H p)
  rw [List.getElem?_map] at hx
  cases e : ts[i]? with
  | none =>
    rw [e] at hx
    cases hx
  | some t =>
    rw [e] at hx
    have ex : u = V.ref t := (Option.some.inj hx).symm
    obtain ⟨q, f3, f4⟩ := hp.at e
    subst ex f2 e1 e3
    exact hs i t q n σ H T f3 f4 f1 p e2
end Oc
/-! ### further rules: a[i] op= e, count, sorted of ints, x or y, slices from behind -/
namespace Oc
open PySem PySem.Spec PyProof.Rows L2
theorem room65 {k : Nat} {A : Around} (r : L2.Room k A) : A.units + 65 < cLine := by
  have := r.un
  omega
def qGetI (K : PySem.W.Frag) : V → V → Hp → VK → Prop := fun x y H Q => ∃ p, ∃ (ns : List Int) (i : Int), x = .ref p ∧ y = .int i ∧ SqL K H p (ns.map V.int) ∧ (0 ≤ i ∧ i < ns.length) ∧ Q (.int (gI ns i)) H
section
variable {X : Cx} {K : PySem.W.Frag}
theorem v_getI (hK : X.K = K) : PGet X (qGetI K) := by
  subst hK
  intro pins s σ H o i ov iv Q I ro ri ⟨p, ns, j, e1, e2, hq, ⟨b0, b1⟩, q⟩
  subst e1 e2
  cases ro
  obtain ⟨t, rfl⟩ := ri
  obtain ⟨its, r, pl, hz⟩ := I.list hq
  have hl := r.length
  rw [List.length_map] at hl
  have he := atI_ints (ns := ns) b0 b1
  obtain ⟨k, h1, h2, h3, h4, h5⟩ := atI_get he
  obtain ⟨w, ew, rw'⟩ := r.get h2
  have hn := line63
  have hk : j.toNat = k := by
    rw [seqIndex_of b0 h5] at h1
    exact Option.some.inj h1
  exact PyProof.Rows.getItem_listL pl.isList b0 (by omega) (by rw [hk]; exact ew) ⟨_, H, I, rw', q⟩
theorem v_countI (hK : X.K = K) : MtR X "list.count" (rCntI K) := hK ▸ mt_lcount
theorem v_sortI (hK : X.K = K) : CallR X (.builtin "sorted") (rSortedI K) := hK ▸ cr_sortedI
theorem v_orT {a b : Expr} {rest : List Expr} {pos : Pos} {ta tb : TE} (hK : X.K = K) (ha : PE X a ta) (hb : PE X (.BoolOp .Or (b :: rest) pos) tb) : PE X (.BoolOp .Or (a :: b :: rest) pos) (tOrT K ta tb) := hK ▸ pe_orT ha hb
end
section
variable {K : PySem.W.Frag} {σ : L2.St} {H : Hp} {Q : VK} {i : Int} {a : Addr} {ns : List Int} {x : V} {ta tb to ti te : TE} {D : Ends}
theorem g_getI (h : SqL K H a (ns.map V.int)) (b : 0 ≤ i ∧ i < ns.length) (k : Q (.int (gI ns i)) H) : qGetI K (.ref a) (.int i) H Q := ⟨a, ns, i, rfl, rfl, h, b, k⟩
theorem g_cntI (h : SqL K H a (ns.map V.int)) (k : Q (.int (ns.count i : Nat)) H) : rCntI K (.ref a) [.int i] H Q := ⟨a, ns, i, rfl, rfl, h, k⟩
theorem g_sortI (h : SqL K H a (ns.map V.int)) (k : ∀ ms : List Int, ms.Perm ns → ms.Pairwise (· ≤ ·) → qNew H (.lst (ms.map V.int)) Q) : rSortedI K [.ref a] H Q := ⟨a, ns, rfl, h, fun ms p h1 h2 np => k ms h1 h2 p np⟩
def kOrT (K : PySem.W.Frag) (tb : TE) (σ : L2.St) (Q : VK) : VK := fun x H1 => ∃ k, TruV K x H1 k ∧ if k = true then Q x H1 else tb σ H1 Q
theorem g_orT (k : ta σ H (kOrT K tb σ Q)) : tOrT K ta tb σ H Q := k
theorem g_kOrTI (h : SqL K H a (ns.map V.int)) (k : if (!ns.isEmpty) = true then Q (.ref a) H else tb σ H Q) : kOrT K tb σ Q (.ref a) H := ⟨_, .inl ⟨_, h, rfl⟩, by rw [isE_map]; exact k⟩
theorem g_augS {tget : V → V → Hp → VK → Prop} {tip : TIp} {tset : TSet} (k : to σ H fun o H1 => ti σ H1 fun i H2 => tget o i H2 fun x H3 => te σ H3 fun y H4 => tip x y H4 fun z H5 => tset o i z H5 fun H6 => D.nx σ H6) : tAugS to ti te tget tip tset D σ H := k
theorem g_inPT {t : Addr} {p : PI2} (h : H t = some (.tup (pV p))) (k : Q (.bl (decide (i = p.1 ∨ i = p.2))) H) : qInP K false (.int i) (.ref t) H Q := ⟨i, t, p, rfl, rfl, h, k⟩
theorem g_inPF {t : Addr} {p : PI2} (h : H t = some (.tup (pV p))) (k : Q (.bl (!decide (i = p.1 ∨ i = p.2))) H) : qInP K true (.int i) (.ref t) H Q := ⟨i, t, p, rfl, rfl, h, k⟩
theorem g_inPsT {t : Addr} {p : PI2} {ts : List Addr} {ps : List PI2} (h : H t = some (.tup (pV p))) (h2 : SqL K H a (ts.map V.ref)) (h3 : PrH H ts ps) (k : Q (.bl (decide (p ∈ ps))) H) : qInPs K false (.ref t) (.ref a) H Q := ⟨t, a, ts, p, ps, rfl, rfl, h, h2, h3, k⟩
theorem g_inPsF {t : Addr} {p : PI2} {ts : List Addr} {ps : List PI2} (h : H t = some (.tup (pV p))) (h2 : SqL K H a (ts.map V.ref)) (h3 : PrH H ts ps) (k : Q (.bl (!decide (p ∈ ps))) H) : qInPs K true (.ref t) (.ref a) H Q := ⟨t, a, ts, p, ps, rfl, rfl, h, h2, h3, k⟩
theorem g_eqPsT {b : Addr} {ts us : List Addr} {ps qs : List PI2} (h : SqL K H a (ts.map V.ref)) (h2 : PrH H ts ps) (h3 : SqL K H b (us.map V.ref)) (h4 : PrH H us qs) (k : Q (.bl (decide (ps = qs))) H) : qEqPs K false (.ref a) (.ref b) H Q := ⟨a, b, ts, us, ps, qs, rfl, rfl, h, h2, h3, h4, k⟩
theorem g_eqPsF {b : Addr} {ts us : List Addr} {ps qs : List PI2} (h : SqL K H a (ts.map V.ref)) (h2 : PrH H ts ps) (h3 : SqL K H b (us.map V.ref)) (h4 : PrH H us qs) (k : Q (.bl (!decide (ps = qs))) H) : qEqPs K true (.ref a) (.ref b) H Q := ⟨a, b, ts, us, ps, qs, rfl, rfl, h, h2, h3, h4, k⟩
theorem g_kOrTR {ts : List Addr} (h : SqL K H a (ts.map V.ref)) (k : if (!ts.isEmpty) = true then Q (.ref a) H else tb σ H Q) : kOrT K tb σ Q (.ref a) H := ⟨_, .inl ⟨_, h, rfl⟩, by cases ts <;> exact k⟩
theorem atI_ref {xs : List Addr} {ps : List PI2} {τ : Tmap} (h : Prs τ xs ps) (h0 : 0 ≤ i) (h1 : i < ps.length) : ∃ t p, ps[i.toNat]? = some p ∧ τ t = some (pV p) ∧ atI (xs.map V.ref) i = some (.ref t) := by
  have hl := h.len
  have e : ps[i.toNat]? = some (ps[i.toNat]'(by omega)) := List.getElem?_eq_getElem (by omega)
  obtain ⟨t, e1, e2⟩ := h.at' e
  exact ⟨t, _, e, e2, atI_of h0 (by rw [List.getElem?_map, e1]; rfl)⟩
end
end Oc
/-! ### enumerate(zip(a, b)) -/
namespace Oc
open PySem PySem.Spec PyProof.Rows L2
abbrev ZR (h : Heap) (z p q : Addr) (f : Value) (b : Bool) : Prop :=
  h.get? z = some { cls := .type "zip", dict := none, data := .fields #[f, .bool b, .bool false, .ref p, .ref q], slots := #[] }
/-- not handed out, or handed out -/
def ZF (f : Value) : Prop := f = .none ∨ ∃ T : Addr, f = rawInt T
structure ZS (h : Heap) (z p q i1 i2 a b : Addr) (k : Nat) : Prop where
  zr : ∃ f c, ZF f ∧ ZR h z p q f c
  tp : IsPair h p (.ref i1) (.ref i2)
  tq : ∃ x y, IsPair h q x y
  l1 : h.IsListIter i1 a k
  l2 : h.IsListIter i2 b k
theorem ZS.keep {h g : Heap} {z p q i1 i2 a b : Addr} {k : Nat} (Z : ZS h z p q i1 i2 a b k) (kk : ∀ c ∈ [z, p, q, i1, i2], ∀ o, h.get? c = some o → g.get? c = some o) : ZS g z p q i1 i2 a b k := by
  obtain ⟨⟨f, c, hf, hz⟩, hp, ⟨x, y, hq⟩, l1, l2⟩ := Z
  exact ⟨⟨f, c, hf, kk z (by simp) _ hz⟩, kk p (by simp) _ hp, ⟨x, y, kk q (by simp) _ hq⟩, l1.at fun o e => kk i1 (by simp) o e, l2.at fun o e => kk i2 (by simp) o e⟩
section
variable {prog : Program} {w : World} {A : Around} {E : Value → Shared → Prop} {s : Shared}
theorem alive_at {M : Model} {a : Addr} {Q : Option Obj → Shared → Prop} (h : Q (s.heap.get? a) s) : wpAny M A (loadIfAlive a) Q E s := fun _ _ _ => h
theorem zfree {z p q : Addr} {f : Value} {c : Bool} {Q : Bool → Shared → Prop} (hz : ZR s.heap z p q f c) (hf : ZF f)
    (k : ∀ r h' c', ZR h' z p q f c' → Heap.SameBut z s.heap h' → Q r { s with heap := h' }) :
    wpAny (model prog w) A (Builtin.SmallTypes.ownedTupleIsFree (.ref z)) Q E s := by
  unfold Builtin.SmallTypes.ownedTupleIsFree
  refine wpAny_bind (wpAny_field hz rfl (x := f) rfl ?_)
  rcases hf with rfl | ⟨T, rfl⟩
  · exact wpAny_pure (k true s.heap c hz (Heap.SameBut.refl ..))
  · simp only [rawInt]
    refine wpAny_bind (alive_at ?_)
    cases e : s.heap.get? ((T : Int)).toNat with
    | none => exact wpAny_pure (k true s.heap c hz (Heap.SameBut.refl ..))
    | some o =>
      simp only [Option.isNone_some, Bool.false_eq_true, if_false]
      refine wpAny_bind (wpAny_field hz rfl (x := .bool c) rfl ?_)
      cases c with
      | true => exact wpAny_pure (k false s.heap true hz (Heap.SameBut.refl ..))
      | false =>
        refine wpAny_bind (wpAny_setField_rec hz (by simp) fun g hg sg => ?_)
        exact wpAny_pure (k false g true hg sg)
theorem znext {z p q i1 i2 a b : Addr} {k : Nat} {xs ys : Array Value} {x y : Value} {Q : Value → Shared → Prop} (D : ZipApart z p q i1 i2 a b) (Z : ZS s.heap z p q i1 i2 a b k)
    (ha : s.heap.IsList a xs) (hb : s.heap.IsList b ys) (hx : xs[k]? = some x) (hy : ys[k]? = some y)
    (kq : ∀ h', ZS h' z p q i1 i2 a b (k + 1) → IsPair h' s.heap.objs.size x y → h'.objs.size = s.heap.objs.size + 1 → (∀ c o, c ∉ [z, p, q, i1, i2] → s.heap.get? c = some o → h'.get? c = some o) → Q (.ref s.heap.objs.size) { s with heap := h' }) :
    wpAny (model prog w) A (Builtin.SmallTypes.nextOf (.ref z)) Q E s := by
  obtain ⟨⟨f, c, hf, hz⟩, hp, ⟨u, v, hq⟩, h1, h2⟩ := Z
  have hT : s.TypeIs (.ref z) "zip" := ⟨_, hz, rfl⟩
  unfold Builtin.SmallTypes.nextOf
  refine wpAny_bind (wpAny_callSpecial?_slot (name := Str.ofString "__next__") hT F.slot_zip_next
    (wpAny_call_entry F.slot_zip_next hT F.entry_zip_next ?_ (F.args_zip_next_1 _)))
  show wpAny _ _ (field (.ref z) 2 >>= _) _ _ _
  refine wpAny_bind (wpAny_field hz rfl (x := .bool false) rfl ?_)
  show wpAny _ _ (field (.ref z) 3 >>= _) _ _ _
  refine wpAny_bind (wpAny_field hz rfl (x := .ref p) rfl ?_)
  refine wpAny_bind (wpAny_seqItems hp rfl ?_)
  show wpAny _ _ (Builtin.SmallTypes.ownedTupleIsFree (.ref z) >>= _) _ _ _
  refine wpAny_bind (zfree hz hf fun r g0 c0 z0 s0 => ?_)
  have p0 : IsPair g0 p (.ref i1) (.ref i2) := s0.extBut _ _ D.TIz hp
  have q0 : IsPair g0 q u v := s0.extBut _ _ D.TOz hq
  have a0 := ha.extBut s0.extBut D.l1z
  have b0 := hb.extBut s0.extBut D.l2z
  have j0 := h1.extBut s0.extBut D.i1z
  have m0 := h2.extBut s0.extBut D.i2z
  cases r with
  | true =>
    simp only [if_true]
    refine wpAny_bind (wpAny_rule ?_)
    refine wpAny_bind (wpAny_field z0 rfl (x := .ref q) rfl ?_)
    refine wpAny_bind (wpAny_setField_rec z0 (by simp) fun g1 z1 s1 => ?_)
    have z1 : ZR g1 z p q .ellipsis c0 := z1
    refine wpAny_bind ?_
    simp only [List.zipIdx_cons, List.zipIdx_nil, List.forIn_cons, List.forIn_nil]
    refine wpAny_bind (wpAny_bind (wpAny_onRaise ?_))
    show wpAny _ _ (Builtin.SmallTypes.nextOf (.ref i1) >>= _) _ _ _
    refine wpAny_bind (wpAny_nextOf_list_item (j0.extBut s1.extBut D.i1z) (a0.extBut s1.extBut D.l1z) hx fun g2 j2 s2 => wpAny_pure ?_)
    have q2 : IsPair g2 q u v := s2.extBut _ _ D.TOi1 (s1.extBut _ _ D.TOz q0)
    refine wpAny_bind (wpAny_seqItems q2 rfl ?_)
    refine wpAny_bind (wpAny_updateSeq_pair q2 fun g3 q3 s3 => ?_)
    have q3 : IsPair g3 q x v := q3
    refine wpAny_bind (wpAny_letGo (wpAny_pure ?_))
    refine wpAny_bind (wpAny_bind (wpAny_onRaise ?_))
    show wpAny _ _ (Builtin.SmallTypes.nextOf (.ref i2) >>= _) _ _ _
    refine wpAny_bind (wpAny_nextOf_list_item (((m0.extBut s1.extBut D.i2z).extBut s2.extBut D.i12.symm).extBut s3.extBut D.TOi2.symm)
      (((b0.extBut s1.extBut D.l2z).extBut s2.extBut D.l2i1).extBut s3.extBut D.l2TO) hy fun g4 m4 s4 => wpAny_pure ?_)
    have q4 : IsPair g4 q x v := s4.extBut _ _ D.TOi2 q3
    refine wpAny_bind (wpAny_seqItems q4 rfl ?_)
    refine wpAny_bind (wpAny_updateSeq_pair q4 fun g5 q5 s5 => ?_)
    have q5 : IsPair g5 q x y := q5
    refine wpAny_bind (wpAny_letGo (wpAny_pure (wpAny_pure ?_)))
    refine wpAny_bind (wpAny_seqItems q5 rfl ?_)
    refine wpAny_bind (wpAny_newTuple ?_)
    have m5 : g5.objs.size = s.heap.objs.size := by rw [s5.1, s4.1, s3.1, s2.1, s1.1, s0.1]
    have z5 : ZR g5 z p q .ellipsis c0 := s5.extBut _ _ D.TOz.symm (s4.extBut _ _ D.i2z.symm (s3.extBut _ _ D.TOz.symm (s2.extBut _ _ D.i1z.symm z1)))
    have k5 : ∀ c o, c ∉ [z, p, q, i1, i2] → s.heap.get? c = some o → g5.get? c = some o := fun c o hc e => by
      simp only [List.mem_cons, List.not_mem_nil, or_false, not_or] at hc
      exact s5.extBut _ _ hc.2.2.1 (s4.extBut _ _ hc.2.2.2.2 (s3.extBut _ _ hc.2.2.1 (s2.extBut _ _ hc.2.2.2.1 (s1.extBut _ _ hc.1 (s0.extBut _ _ hc.1 e)))))
    have j5 : g5.IsListIter i1 a (k + 1) := ((j2.extBut s3.extBut D.TOi1.symm).extBut s4.extBut D.i12).extBut s5.extBut D.TOi1.symm
    have m5' : g5.IsListIter i2 b (k + 1) := m4.extBut s5.extBut D.TOi2.symm
    have p5 : IsPair g5 p (.ref i1) (.ref i2) := s5.extBut _ _ D.TITO (s4.extBut _ _ D.TIi2 (s3.extBut _ _ D.TITO (s2.extBut _ _ D.TIi1 (s1.extBut _ _ D.TIz p0))))
    have zlt : z < g5.objs.size := Heap.lt_size z5
    show wpAny _ _ (Builtin.SmallTypes.ownedTupleHandOut (.ref z) (.ref g5.objs.size) >>= _) _ _ _
    refine wpAny_bind ?_
    unfold Builtin.SmallTypes.ownedTupleHandOut
    have z6 : ZR (g5.push { cls := .type "tuple", data := .seq #[x, y] }) z p q .ellipsis c0 := Heap.get?_push_of_some _ z5
    refine wpAny_bind (wpAny_setField_rec z6 (by simp) fun g7 z7 s7 => ?_)
    have z7 : ZR g7 z p q (rawInt g5.objs.size) c0 := z7
    refine wpAny_setField_rec z7 (by simp) fun g8 z8 s8 => ?_
    have z8 : ZR g8 z p q (rawInt g5.objs.size) false := z8
    have up : ∀ c o, c ≠ z → g5.get? c = some o → g8.get? c = some o := fun c o n e => s8.extBut _ _ n (s7.extBut _ _ n (Heap.get?_push_of_some _ e))
    have t8 : IsPair g8 g5.objs.size x y := s8.extBut _ _ (Nat.ne_of_gt zlt) (s7.extBut _ _ (Nat.ne_of_gt zlt) (Heap.get?_push_size _ rfl))
    have n8 : g8.objs.size = g5.objs.size + 1 := by rw [s8.1, s7.1, Heap.size_push]
    have Z8 : ZS g8 z p q i1 i2 a b (k + 1) := ⟨⟨_, _, .inr ⟨g5.objs.size, rfl⟩, z8⟩, up _ _ D.TIz p5, ⟨_, _, up _ _ D.TOz q5⟩, j5.at fun o e => up _ o D.i1z e, m5'.at fun o e => up _ o D.i2z e⟩
    rw [m5] at t8 n8
    refine wpAny_pure ⟨_, rfl, ?_⟩
    show wpAny _ _ (pure (Value.ref g5.objs.size)) _ _ _
    rw [m5]
    exact wpAny_pure (kq g8 Z8 t8 n8 fun c o hc e => up c o (fun z => hc (by simp [z])) (k5 c o hc e))
  | false =>
    simp only [Bool.false_eq_true, if_false]
    simp only [List.forIn_toArray, List.forIn_cons, List.forIn_nil]
    refine wpAny_bind (wpAny_bind (wpAny_bind (wpAny_holding ?_)))
    show wpAny _ _ (Builtin.SmallTypes.nextOf (.ref i1) >>= _) _ _ _
    refine wpAny_bind (wpAny_nextOf_list_item j0 a0 hx fun g1 j1 s1 => wpAny_pure (wpAny_pure ?_))
    refine wpAny_bind (wpAny_bind (wpAny_holding ?_))
    show wpAny _ _ (Builtin.SmallTypes.nextOf (.ref i2) >>= _) _ _ _
    refine wpAny_bind (wpAny_nextOf_list_item (m0.extBut s1.extBut D.i12.symm) (b0.extBut s1.extBut D.l2i1) hy fun g2 m2 s2 => wpAny_pure (wpAny_pure (wpAny_pure ?_)))
    refine wpAny_bind (wpAny_newTuple ?_ (by show 2 ≤ sizeLine; decide))
    have n2 : g2.objs.size = s.heap.objs.size := by rw [s2.1, s1.1, s0.1]
    have k2 : ∀ c o, c ≠ i1 → c ≠ i2 → g0.get? c = some o → g2.get? c = some o := fun c o n1 n2 e => s2.extBut _ _ n2 (s1.extBut _ _ n1 e)
    have k3 : ∀ c o, c ≠ i1 → c ≠ i2 → g0.get? c = some o → (g2.push { cls := .type "tuple", data := .seq #[x, y] }).get? c = some o := fun c o n1 n2 e => Heap.get?_push_of_some _ (k2 c o n1 n2 e)
    have t3 : IsPair (g2.push { cls := .type "tuple", data := .seq #[x, y] }) g2.objs.size x y := Heap.get?_push_size _ rfl
    have Z3 : ZS (g2.push { cls := .type "tuple", data := .seq #[x, y] }) z p q i1 i2 a b (k + 1) := by
      refine ⟨⟨_, _, hf, k3 _ _ D.i1z.symm D.i2z.symm z0⟩, k3 _ _ D.TIi1 D.TIi2 p0, ⟨_, _, k3 _ _ D.TOi1 D.TOi2 q0⟩, ?_, ?_⟩
      · exact (j1.extBut s2.extBut D.i12).at fun o e => Heap.get?_push_of_some _ e
      · exact m2.at fun o e => Heap.get?_push_of_some _ e
    refine wpAny_pure ⟨_, rfl, ?_⟩
    show wpAny _ _ (pure (Value.ref g2.objs.size)) _ _ _
    rw [n2] at t3 ⊢
    refine wpAny_pure (kq _ Z3 t3 (by rw [Heap.size_push, n2]) fun c o hc e => ?_)
    simp only [List.mem_cons, List.not_mem_nil, or_false, not_or] at hc
    exact k3 c o hc.2.2.2.1 hc.2.2.2.2 (s0.extBut _ _ hc.1 e)
/-- the lists' end: the first one's -/
theorem zstop {z p q i1 i2 a b : Addr} {k : Nat} {xs : Array Value} {Q : Value → Shared → Prop} (hh : A.handled = none) (D : ZipApart z p q i1 i2 a b) (Z : ZS s.heap z p q i1 i2 a b k)
    (ha : s.heap.IsList a xs) (hx : xs[k]? = none)
    (kE : ∀ h' e, (∀ c o, c ∉ [z, p, q, i1, i2] → s.heap.get? c = some o → h'.get? c = some o) → (∃ o, h'.get? e = some o ∧ o.cls = .type "StopIteration") → E (.ref e) { s with heap := h' }) :
    wpAny (model prog w) A (Builtin.SmallTypes.nextOf (.ref z)) Q E s := by
  obtain ⟨⟨f, c, hf, hz⟩, hp, ⟨u, v, hq⟩, h1, h2⟩ := Z
  have hT : s.TypeIs (.ref z) "zip" := ⟨_, hz, rfl⟩
  unfold Builtin.SmallTypes.nextOf
  refine wpAny_bind (wpAny_callSpecial?_slot (name := Str.ofString "__next__") hT F.slot_zip_next
    (wpAny_call_entry F.slot_zip_next hT F.entry_zip_next ?_ (F.args_zip_next_1 _)))
  show wpAny _ _ (field (.ref z) 2 >>= _) _ _ _
  refine wpAny_bind (wpAny_field hz rfl (x := .bool false) rfl ?_)
  show wpAny _ _ (field (.ref z) 3 >>= _) _ _ _
  refine wpAny_bind (wpAny_field hz rfl (x := .ref p) rfl ?_)
  refine wpAny_bind (wpAny_seqItems hp rfl ?_)
  show wpAny _ _ (Builtin.SmallTypes.ownedTupleIsFree (.ref z) >>= _) _ _ _
  refine wpAny_bind (zfree hz hf fun r g0 c0 z0 s0 => ?_)
  have p0 : IsPair g0 p (.ref i1) (.ref i2) := s0.extBut _ _ D.TIz hp
  have q0 : IsPair g0 q u v := s0.extBut _ _ D.TOz hq
  have a0 := ha.extBut s0.extBut D.l1z
  have j0 := h1.extBut s0.extBut D.i1z
  cases r with
  | true =>
    simp only [if_true]
    refine wpAny_bind (wpAny_rule ?_)
    refine wpAny_bind (wpAny_field z0 rfl (x := .ref q) rfl ?_)
    refine wpAny_bind (wpAny_setField_rec z0 (by simp) fun g1 z1 s1 => ?_)
    have z1 : ZR g1 z p q .ellipsis c0 := z1
    refine wpAny_bind ?_
    simp only [List.zipIdx_cons, List.zipIdx_nil, List.forIn_cons, List.forIn_nil]
    refine wpAny_bind (wpAny_bind (wpAny_onRaise ?_))
    show wpAny _ _ (Builtin.SmallTypes.nextOf (.ref i1) >>= _) _ _ _
    refine wpAny_bind (wpAny_nextOf_list_end hh (j0.extBut s1.extBut D.i1z) (a0.extBut s1.extBut D.l1z) hx fun g2 e s2 he => ?_)
    obtain ⟨o, ho, hc⟩ := he
    have z2 : ZR g2 z p q .ellipsis c0 := s2 _ _ D.i1z.symm z1
    have ez : e ≠ z := fun x => by
      rw [x, z2] at ho
      cases ho
      simp at hc
    refine wpAny_setField_rec z2 (by simp) fun g3 z3 s3 => kE g3 e (fun c o hc x => ?_) ⟨o, s3.extBut _ _ ez ho, hc⟩
    simp only [List.mem_cons, List.not_mem_nil, or_false, not_or] at hc
    exact s3.extBut _ _ hc.1 (s2 _ _ hc.2.2.2.1 (s1.extBut _ _ hc.1 (s0.extBut _ _ hc.1 x)))
  | false =>
    simp only [Bool.false_eq_true, if_false]
    simp only [List.forIn_toArray, List.forIn_cons, List.forIn_nil]
    refine wpAny_bind (wpAny_bind (wpAny_bind (wpAny_holding ?_)))
    show wpAny _ _ (Builtin.SmallTypes.nextOf (.ref i1) >>= _) _ _ _
    refine wpAny_bind (wpAny_nextOf_list_end hh j0 a0 hx fun g1 e s1 he => kE g1 e (fun c o hc x => ?_) he)
    simp only [List.mem_cons, List.not_mem_nil, or_false, not_or] at hc
    exact s1 _ _ hc.2.2.2.1 (s0.extBut _ _ hc.1 x)
/-- one turn of enumerate over zip -/
theorem eznext {e z p q i1 i2 a b : Addr} {k : Nat} {n : Int} {old : Value} {xs ys : Array Value} {x y : Value} {Q : Option Value → Shared → Prop} (D : ZipApart z p q i1 i2 a b) (he : IsEnum s.heap e z n old) (ne : e ∉ [z, p, q, i1, i2])
    (Z : ZS s.heap z p q i1 i2 a b k) (ha : s.heap.IsList a xs) (hb : s.heap.IsList b ys) (hx : xs[k]? = some x) (hy : ys[k]? = some y)
    (kq : ∀ h' tk, IsEnumOut h' e z (n + 1) (.ref s.heap.objs.size) (s.heap.objs.size + 1) → ZS h' z p q i1 i2 a b (k + 1) → IsPair h' s.heap.objs.size x y → IsPair h' (s.heap.objs.size + 1) (.int n tk) (.ref s.heap.objs.size) →
      (∀ c o, c ∉ [e, z, p, q, i1, i2] → s.heap.get? c = some o → h'.get? c = some o) → Q (some (.ref (s.heap.objs.size + 1))) { s with heap := h', toks := tk + 1 }) :
    wpAny (model prog w) A (pyNext (.ref e)) Q E s := by
  have hT : s.TypeIs (.ref e) "enumerate" := ⟨_, he, rfl⟩
  have elt : e < s.heap.objs.size := Heap.lt_size he
  have zlt : ∀ c ∈ [z, p, q, i1, i2], c < s.heap.objs.size := by
    obtain ⟨⟨f, c, hf, hz⟩, hp, ⟨u, v, hq⟩, ⟨o1, g1, _⟩, ⟨o2, g2, _⟩⟩ := Z
    intro c hc
    simp only [List.mem_cons, List.not_mem_nil, or_false] at hc
    rcases hc with rfl | rfl | rfl | rfl | rfl
    · exact Heap.lt_size hz
    · exact Heap.lt_size hp
    · exact Heap.lt_size hq
    · exact Heap.lt_size g1
    · exact Heap.lt_size g2
  unfold pyNext
  refine wpAny_bind (wpAny_attempt (wpAny_callSpecial?_slot (name := Str.ofString "__next__") hT F.slot_enumerate_next
    (wpAny_call_entry F.slot_enumerate_next hT F.entry_enumerate_next ?_ (F.args_enumerate_next_1 _))))
  obtain ⟨hp, gs, dr, tk, os⟩ := s
  show wpAny _ _ (field (.ref e) 2 >>= _) _ _ _
  refine wpAny_bind (wpAny_field he rfl (x := .ref z) rfl ?_)
  refine wpAny_bind (znext D Z ha hb hx hy fun g1 Z1 t1 n1 k1 => ?_)
  have e1 : IsEnum g1 e z n old := k1 _ _ ne he
  show wpAny _ _ (field (.ref e) 3 >>= _) _ _ ⟨g1, gs, dr, tk, os⟩
  refine wpAny_bind (wpAny_field e1 rfl (x := rawInt n) rfl ?_)
  show wpAny _ _ (field (.ref e) 4 >>= _) _ _ ⟨g1, gs, dr, tk, os⟩
  refine wpAny_bind (wpAny_field e1 rfl (x := .none) rfl ?_)
  show wpAny _ _ (mkInt n >>= _) _ _ ⟨g1, gs, dr, tk, os⟩
  refine wpAny_bind (wpAny_mkInt ?_)
  show wpAny _ _ (setField (.ref e) 3 (rawInt (n + 1)) >>= _) _ _ ⟨g1, gs, dr, tk + 1, os⟩
  refine wpAny_bind (wpAny_setField_rec e1 (by simp) fun g2 e2 s2 => ?_)
  have s2 : Heap.SameBut e g1 g2 := s2
  have e2 : IsEnum g2 e z (n + 1) old := e2
  show wpAny _ _ (setField (.ref e) 4 .none >>= _) _ _ ⟨g2, gs, dr, tk + 1, os⟩
  refine wpAny_bind (wpAny_setField_rec e2 (by simp) fun g3 e3 s3 => ?_)
  have s3 : Heap.SameBut e g2 g3 := s3
  have e3 : IsEnum g3 e z (n + 1) old := e3
  show wpAny _ _ (newTuple [.int n tk, .ref hp.objs.size] >>= _) _ _ ⟨g3, gs, dr, tk + 1, os⟩
  refine wpAny_bind (wpAny_newTuple ?_)
  have m3 : g3.objs.size = hp.objs.size + 1 := by rw [s3.1, s2.1]; exact n1
  have k3 : ∀ c o, c ≠ e → g1.get? c = some o → g3.get? c = some o := fun c o n x => s3.extBut c o n (s2.extBut c o n x)
  generalize g4e : g3.push { cls := .type "tuple", data := .seq [Value.int n tk, .ref hp.objs.size].toArray } = g4
  have k4 : ∀ c o, g3.get? c = some o → g4.get? c = some o := fun c o x => by rw [← g4e]; exact Heap.get?_push_of_some _ x
  have t4 : IsPair g4 (hp.objs.size + 1) (.int n tk) (.ref hp.objs.size) := by rw [← g4e, ← m3]; exact Heap.get?_push_size _ rfl
  have e4 : IsEnum g4 e z (n + 1) old := k4 _ _ e3
  show wpAny _ _ (Builtin.SmallTypes.ownedTupleIsFree (.ref e) >>= _) _ _ ⟨g4, gs, dr, tk + 1, os⟩
  rw [m3]
  clear g4e
  refine wpAny_bind ?_
  unfold Builtin.SmallTypes.ownedTupleIsFree
  refine wpAny_bind (wpAny_field e4 rfl (x := .none) rfl (wpAny_pure ?_))
  simp only [if_true]
  refine wpAny_bind (wpAny_rule ?_)
  refine wpAny_bind (wpAny_field e4 rfl (x := old) rfl ?_)
  refine wpAny_bind (wpAny_setField_rec e4 (by simp) fun g5 e5 s5 => ?_)
  have s5 : Heap.SameBut e g4 g5 := s5
  have e5 : IsEnum g5 e z (n + 1) (.ref hp.objs.size) := e5
  show wpAny _ _ (Builtin.SmallTypes.ownedTupleHandOut (.ref e) (.ref (hp.objs.size + 1)) >>= _) _ _ ⟨g5, gs, dr, tk + 1, os⟩
  refine wpAny_bind ?_
  unfold Builtin.SmallTypes.ownedTupleHandOut
  refine wpAny_bind (wpAny_setField_rec e5 (by simp) fun g6 e6 s6 => ?_)
  have s6 : Heap.SameBut e g5 g6 := s6
  have e6 : IsEnumOut g6 e z (n + 1) (.ref hp.objs.size) (hp.objs.size + 1) := e6
  refine wpAny_setField_rec e6 (by simp) fun g7 e7 s7 => ?_
  have s7 : Heap.SameBut e g6 g7 := s7
  have e7 : IsEnumOut g7 e z (n + 1) (.ref hp.objs.size) (hp.objs.size + 1) := e7
  have k7 : ∀ c o, c ≠ e → g1.get? c = some o → g7.get? c = some o := fun c o n x => s7.extBut c o n (s6.extBut c o n (s5.extBut c o n (k4 c o (k3 c o n x))))
  have elt : e < hp.objs.size := elt
  refine wpAny_bind (wpAny_letGo (wpAny_pure ⟨_, rfl, wpAny_pure (kq g7 tk e7 (Z1.keep fun c hc o x => k7 c o (fun z => ne (z ▸ hc)) x) (k7 _ _ (Nat.ne_of_gt elt) t1) ?_ fun c o hc x => ?_)⟩))
  · have nn : hp.objs.size + 1 ≠ e := Nat.ne_of_gt (Nat.lt_succ_of_lt elt)
    exact s7.extBut _ _ nn (s6.extBut _ _ nn (s5.extBut _ _ nn t4))
  · exact k7 c o (fun z => hc (by simp [z])) (k1 c o (fun z => hc (List.mem_cons_of_mem _ z)) x)
theorem ezstop {e z p q i1 i2 a b : Addr} {k : Nat} {n : Int} {old : Value} {xs : Array Value} {Q : Option Value → Shared → Prop} (hh : A.handled = none) (D : ZipApart z p q i1 i2 a b) (he : IsEnum s.heap e z n old)
    (Z : ZS s.heap z p q i1 i2 a b k) (ha : s.heap.IsList a xs) (hx : xs[k]? = none)
    (kq : ∀ h', (∀ c o, c ∉ [z, p, q, i1, i2] → s.heap.get? c = some o → h'.get? c = some o) → Q none { s with heap := h' }) :
    wpAny (model prog w) A (pyNext (.ref e)) Q E s := by
  have hT : s.TypeIs (.ref e) "enumerate" := ⟨_, he, rfl⟩
  unfold pyNext
  refine wpAny_bind (wpAny_attempt (wpAny_callSpecial?_slot (name := Str.ofString "__next__") hT F.slot_enumerate_next
    (wpAny_call_entry F.slot_enumerate_next hT F.entry_enumerate_next ?_ (F.args_enumerate_next_1 _))))
  show wpAny _ _ (field (.ref e) 2 >>= _) _ _ _
  refine wpAny_bind (wpAny_field he rfl (x := .ref z) rfl ?_)
  refine wpAny_bind (zstop hh D Z ha hx fun g x kg hx' => ?_)
  obtain ⟨o, ho, hc⟩ := hx'
  refine wpAny_bind (wpAny_isInstance (T := "StopIteration") (b := true) ⟨o, ho, hc⟩ isSubtype_stop ?_)
  exact wpAny_pure (kq _ kg)
/-- enumerate(z), z a new zip -/
theorem meets_ez (z p q : Addr) :
    Meets (Builtin.«enumerate.__new__» ⟨[.type "enumerate", .ref z], []⟩) (fun _ R s => IsZip s.heap z p q .none ∧
      R (.ok (.ret (.ref s.heap.objs.size))) { s with heap := s.heap.push { cls := .type "enumerate", data := .fields #[.none, .bool false, .ref z, rawInt 0, .none, .none] } }) :=
  .of_wp fun prog w A R s h => by
    obtain ⟨hp, g, d, tk, os⟩ := s
    obtain ⟨hz, h⟩ := h
    have hsub := sub_enumerate
    have hZ : IsZip (Shared.heap ⟨hp, g, d, tk, os⟩) z p q .none := hz
    wp_walk using wpAny_pyIter_zip hZ
    refine wpAny_stack_any fun st => wpAny_pure ?_
    split
    · rename_i c _ _ _ _ _
      cases (c == Value.type "enumerate")
      · wp_walk using wpAny_pyIter_zip hZ
        exact ⟨_, rfl, h⟩
      · wp_walk using wpAny_pyIter_zip hZ
        exact ⟨_, rfl, h⟩
    · wp_walk using wpAny_pyIter_zip hZ
      exact ⟨_, rfl, h⟩
theorem call_ez {z p q : Addr} {Q : Value → Shared → Prop} (hz : IsZip s.heap z p q .none)
    (h : ∀ h', IsEnum h' s.heap.objs.size z 0 .none → (∀ c o, s.heap.get? c = some o → h'.get? c = some o) → Q (.ref s.heap.objs.size) { s with heap := h' }) :
    wpAny (model prog w) A (call (.type "enumerate") [.ref z]) Q E s := by
  refine callType_new F.called_enumerate (by decide) (F.typeCall_enumerate_1 _) (F.newCall_enumerate_1 _) (fun obj => F.args_object_init_2 obj _) F.entry_enumerate_new
    (meets_ez z p q) ⟨hz, ?_⟩
  have g : (s.heap.push { cls := .type "enumerate", data := .fields #[.none, .bool false, .ref z, rawInt 0, .none, .none] }).get? s.heap.objs.size = some _ := Heap.get?_push_size _ rfl
  exact ⟨⟨_, g, rfl⟩, h _ g fun c o x => Heap.get?_push_of_some _ x⟩
end
section
variable {X : Cx} {pins : List (Addr × Obj)} {σ : L2.St} {H : Hp} {s : Shared} {h' : Heap}
/-- own records have turned, two new objects are laid -/
theorem turnedTwo {t' : Nat} {ch : List Addr} {U T : Addr} {ou ot : HO} (I : Inv X pins σ H s) (k : ∀ b o, b ∉ ch → s.heap.get? b = some o → h'.get? b = some o) (hf : ∀ b ∈ ch, FpOk X pins H b)
    (hU : s.heap.objs.size ≤ U) (hT : s.heap.objs.size ≤ T) (nut : U ≠ T)
    (nU : ObjOk X.prog X.w (upd (upd H U ou) T ot) h' U ou) (nT : ObjOk X.prog X.w (upd (upd H U ou) T ot) h' T ot) : Inv X pins σ (upd (upd H U ou) T ot) { s with heap := h', toks := t' } := by
  have fU : H U = none := I.hok.fresh hU
  have fT : H T = none := I.hok.fresh hT
  have up : ∀ b u, H b = some u → upd (upd H U ou) T ot b = some u := fun b u e => by
    rw [upd_ne (ne_of_none e fT), upd_ne (ne_of_none e fU)]
    exact e
  have out : ∀ b u, H b = some u → b ∉ ch := fun b u e z => by
    have := (hf b z).1
    rw [this] at e
    cases e
  refine I.step (g' := s.gens) (d' := s.drawn) (ch := ch) (fun b hb => ⟨(hf b hb).2.2.2.1, (hf b hb).2.1, (hf b hb).2.2.2.2.1, (hf b hb).2.2.2.2.2⟩) (fun b o _ _ hc e _ => k b o hc e) (fun b o _ _ hc e _ => ⟨o.slots, k b o hc e⟩)
    (fun b o _ e n => ?_) (fun b o hc e => ⟨o, k b o hc e⟩) (fun b xs e => up b _ e) (fun b o u e => up b _ e) (fun b ps e => ⟨#[], ?_⟩) (fun m hm => ?_) (fun b u e => ?_) I.bare
  · have lt := Heap.lt_size e
    rw [upd_ne (Nat.ne_of_lt (Nat.lt_of_lt_of_le lt hT)), upd_ne (Nat.ne_of_lt (Nat.lt_of_lt_of_le lt hU))]
    exact n
  · rw [up b _ e]
    simp
  · obtain ⟨o, es, ep, ho, r⟩ := hm
    exact ⟨o, es, ep, k _ o (fun z => (hf _ z).2.1 rfl) ho, r⟩
  · by_cases hb : b = T
    · subst hb
      rw [upd_same] at e
      cases e
      exact nT
    · by_cases hc : b = U
      · subst hc
        rw [upd_ne hb, upd_same] at e
        cases e
        exact nU
      · rw [upd_ne hb, upd_ne hc] at e
        refine (I.hok b u e).stay (fun c v hc q => k c v ?_ q) (fun c q => up c _ q) fun c xs q => up c _ q
        rcases hc with z | z
        · rw [z]
          exact out b u e
        · exact out c _ z
end
/-- the lists at a and b, their items in new pairs, these in new pairs with their number -/
def Itx (K : PySem.W.Frag) (a b : Addr) : It :=
  ⟨fun i H => ∃ (xs ys : List V) (x y : V), SqL K H a xs ∧ SqL K H b ys ∧ xs[i]? = some x ∧ ys[i]? = some y,
    fun i H v H' => ∃ (U T : Addr) (x y : V), v = .ref T ∧ H U = none ∧ H T = none ∧ T ≠ U ∧ H' = upd (upd H U (.tup [x, y])) T (.tup [.int (i : Nat), .ref U]) ∧ (∀ xs, SqL K H a xs → xs[i]? = some x) ∧ ∀ ys, SqL K H b ys → ys[i]? = some y,
    fun i H => ∃ xs : List V, SqL K H a xs ∧ xs.length ≤ i⟩
theorem turn_ez {P : Program} {w : World} {K : PySem.W.Frag} {elts : List Expr} {kk : Nat} {tpos : Pos} {e z p q i1 i2 a b : Addr} (D : ZipApart z p q i1 i2 a b) (ne : e ∉ [z, p, q, i1, i2]) :
    Turn P w K (.Tuple elts kk tpos) (Itx K a b) [e, z, p, q, i1, i2] e (fun i h => (∃ old, IsEnum h e z ((i : Nat) : Int) old) ∧ ZS h z p q i1 i2 a b i) where
  mem := by simp
  obj := fun i h st c hc => by
    obtain ⟨⟨old, he⟩, ⟨⟨f, c, hf, hz⟩, hp, ⟨u, v, hq⟩, ⟨o1, g1, _, d1⟩, ⟨o2, g2, _, d2⟩⟩⟩ := st
    simp only [List.mem_cons, List.not_mem_nil, or_false] at hc
    rcases hc with rfl | rfl | rfl | rfl | rfl | rfl
    · exact ⟨_, he, fun v q => nomatch q⟩
    · exact ⟨_, hz, fun v q => nomatch q⟩
    · exact ⟨_, hp, fun v q => nomatch q⟩
    · exact ⟨_, hq, fun v q => nomatch q⟩
    · exact ⟨o1, g1, fun v q => by rw [d1] at q; cases q⟩
    · exact ⟨o2, g2, fun v q => by rw [d2] at q; cases q⟩
  keep := fun i h h' st k => by
    obtain ⟨⟨old, he⟩, Z⟩ := st
    exact ⟨⟨old, k e (by simp) _ he⟩, Z.keep fun c hc o x => k c (List.mem_cons_of_mem _ hc) o x⟩
  item := by
    intro X hP hw hK hc i pins s σ H E I hf st hg
    subst hP hw hK
    obtain ⟨⟨old, he⟩, Z⟩ := st
    obtain ⟨xs, ys, x, y, qa, qb, hx, hy⟩ := hg
    obtain ⟨its, rv, l1, _⟩ := I.list qa
    obtain ⟨jts, rw', l2, _⟩ := I.list qb
    obtain ⟨u, hu, ru⟩ := rv.get hx
    obtain ⟨v, hv, rv2⟩ := rw'.get hy
    have elt : e < s.heap.objs.size := Heap.lt_size he
    have lts : ∀ c ∈ [e, z, p, q, i1, i2], c < s.heap.objs.size := by
      obtain ⟨⟨f, c, _, hz⟩, hp, ⟨_, _, hq⟩, ⟨o1, g1, _⟩, ⟨o2, g2, _⟩⟩ := Z
      intro c hc
      simp only [List.mem_cons, List.not_mem_nil, or_false] at hc
      rcases hc with rfl | rfl | rfl | rfl | rfl | rfl
      · exact elt
      · exact Heap.lt_size hz
      · exact Heap.lt_size hp
      · exact Heap.lt_size hq
      · exact Heap.lt_size g1
      · exact Heap.lt_size g2
    refine eznext D he ne Z l1.isList l2.isList (x := u) (y := v) (by simpa using hu) (by simpa using hv) fun h' tk ho Z' tU tT kk => ?_
    refine ⟨_, rfl, wpAny_letOwnedTupleGo_enum (s := { s with heap := h', toks := tk + 1 }) ho fun h2 he2 sb => ?_⟩
    have U2 : IsPair h2 s.heap.objs.size u v := (sb.2 _ (Nat.ne_of_gt elt)).trans tU
    have T2 : IsPair h2 (s.heap.objs.size + 1) (.int i tk) (.ref s.heap.objs.size) := (sb.2 _ (Nat.ne_of_gt (Nat.lt_succ_of_lt elt))).trans tT
    have fU : H s.heap.objs.size = none := I.hok.fresh (Nat.le_refl _)
    have fT : H (s.heap.objs.size + 1) = none := I.hok.fresh (Nat.le_succ _)
    have I1 : Inv X pins σ (upd (upd H s.heap.objs.size (.tup [x, y])) (s.heap.objs.size + 1) (.tup [.int (i : Nat), .ref s.heap.objs.size])) { s with heap := h2, toks := tk + 1 } := by
      refine turnedTwo (ch := [e, z, p, q, i1, i2]) I (fun c o hc x => (sb.2 c fun z => hc (by simp [z])).trans (kk c o hc x)) hf (Nat.le_refl _) (Nat.le_succ _) (Nat.ne_of_lt (Nat.lt_succ_self _)) ?_ ?_
      · exact ⟨by show 2 ≤ sizeLine; decide, [u, v], .cons ru (.cons rv2 .nil), ⟨_, U2, rfl, _, rfl⟩⟩
      · exact ⟨by show 2 ≤ sizeLine; decide, [.int i tk, .ref s.heap.objs.size], .cons ⟨_, rfl⟩ (.cons rfl .nil), ⟨_, T2, rfl, _, rfl⟩⟩
    refine ⟨.ref (s.heap.objs.size + 1), _, I1, rfl, ⟨_, _, x, y, rfl, fU, fT, Nat.succ_ne_self _, rfl, fun l hl => by rw [I.list_inj hl qa]; exact hx, fun l hl => by rw [I.list_inj hl qb]; exact hy⟩, ⟨⟨.ref s.heap.objs.size, ?_⟩, ?_⟩, fun c hc => ?_⟩
    · have e1 : ((i + 1 : Nat) : Int) = (i : Int) + 1 := by omega
      rw [e1]
      exact he2
    · exact Z'.keep fun c hc o x => (sb.2 c fun z => ne (z ▸ hc)).trans x
    · have lt := lts c hc
      rw [upd_ne (Nat.ne_of_lt (Nat.lt_succ_of_lt lt)), upd_ne (Nat.ne_of_lt lt)]
      exact (hf c hc).1
  done := by
    intro X hP hw hK hc i pins s σ H E I hf st hg
    subst hP hw hK
    obtain ⟨⟨old, he⟩, Z⟩ := st
    obtain ⟨xs, qa, hx⟩ := hg
    obtain ⟨its, rv, l1, _⟩ := I.list qa
    have hl := rv.length
    exact ezstop (I.ok.hd hc) D he Z l1.isList (by simp; omega) fun h' kk => ⟨rfl, I.turnedL (t' := s.toks) (ch := [e, z, p, q, i1, i2]) (fun c o hc x => kk c o (fun z => hc (List.mem_cons_of_mem _ z)) x) hf⟩
  self := fun A i s Q E st h => by
    obtain ⟨⟨_, he⟩, _⟩ := st
    exact wpAny_pyIter_enum he h
def iEnZ (K : PySem.W.Frag) (ta : TA) : TI := fun σ H R => ta σ H fun vs H1 => ∃ a b xs ys, vs = [.ref a, .ref b] ∧ SqL K H1 a xs ∧ SqL K H1 b ys ∧ R (Itx K a b) H1
theorem pi_enumZ {X : Cx} {x1 x2 : Expr} {ta : TA} {p pos p2 pos2 tpos : Pos} {elts : List Expr} {kk : Nat} (hg : Gl X "enumerate") (hm : X.mg "enumerate" = none) (hg2 : Gl X "zip") (hm2 : X.mg "zip" = none) (ha : PA X [x1, x2] ta)
    (hs : starEach [x1, x2] X.env = (false, eval x1 X.env) :: starEach [x2] X.env := by rfl) (hpl : (backTo pos2 (starEach [x2] X.env)).any (·.1) = false := by rfl)
    (hs2 : starEach [.Call (.Name "zip" p2) [x1, x2] [] pos2] X.env = [(false, eval (.Call (.Name "zip" p2) [x1, x2] [] pos2) X.env)] := by rfl) :
    PI X (.Tuple elts kk tpos) (.Call (.Name "enumerate" p) [.Call (.Name "zip" p2) [x1, x2] [] pos2] [] pos) (iEnZ X.K ta) := by
  refine ⟨fun pins s σ H R I h => ?_⟩
  refine Call_ (ld_blt I hg hm boot_enumerate (PyProof.Rows.callWith_type1 ?_ hs2 rfl))
  rw [hs2]
  refine Calls.spliced_cons ?_
  refine Call_ (ld_blt I hg2 hm2 PyProof.Rows.boot_zip (PyProof.Rows.callWith_type1 (thn (ha.run pos2 pins s σ H _ I h) fun us s1 ⟨vs, H1, I1, r1, q1⟩ => ?_) hs hpl))
  obtain ⟨a, b, xs, ys, ex, qa, qb, q⟩ := q1
  subst ex
  cases r1 with
  | cons r rr =>
    cases rr with
    | cons r' rr =>
      cases rr
      cases r
      cases r'
      obtain ⟨its, rv, l1, _⟩ := I1.list qa
      obtain ⟨jts, rw', l2, _⟩ := I1.list qb
      have la : a < s1.heap.objs.size := l1.lt
      have lb : b < s1.heap.objs.size := l2.lt
      refine call_zip_2 l1.isList l2.isList fun g hz hp hq j1 j2 hsz k1 => ?_
      refine Calls.spliced_nil ?_
      refine call_ez (s := { s1 with heap := g }) hz fun g2 he k2 => wpAny_pyIter_enum he ?_
      have I2 : Inv X pins σ H1 { s1 with heap := g2 } := I1.kept (t' := s1.toks) fun c o x => k2 c o (k1 c o x)
      have Z : ZS g2 (s1.heap.objs.size + 4) (s1.heap.objs.size + 2) (s1.heap.objs.size + 3) s1.heap.objs.size (s1.heap.objs.size + 1) a b 0 :=
        ⟨⟨_, _, .inl rfl, k2 _ _ hz⟩, k2 _ _ hp, ⟨_, _, k2 _ _ hq⟩, j1.at fun o x => k2 _ o x, j2.at fun o x => k2 _ o x⟩
      have ne : g.objs.size ∉ [s1.heap.objs.size + 4, s1.heap.objs.size + 2, s1.heap.objs.size + 3, s1.heap.objs.size, s1.heap.objs.size + 1] := by
        rw [hsz]
        simp only [List.mem_cons, List.not_mem_nil, or_false, not_or]
        omega
      refine ⟨g.objs.size, [g.objs.size, s1.heap.objs.size + 4, s1.heap.objs.size + 2, s1.heap.objs.size + 3, s1.heap.objs.size, s1.heap.objs.size + 1], _, _, H1, rfl, I2, turn_ez (PySem.W.ktu_apart s1.heap.objs.size a b la lb) ne, ⟨⟨.none, he⟩, Z⟩, fun c hc => ?_, q⟩
      have hle : s1.heap.objs.size ≤ c := by
        rw [hsz] at hc
        simp only [List.mem_cons, List.not_mem_nil, or_false] at hc
        rcases hc with z | z | z | z | z | z
        · rw [z]; exact Nat.le_add_right _ _
        · rw [z]; exact Nat.le_add_right _ _
        · rw [z]; exact Nat.le_add_right _ _
        · rw [z]; exact Nat.le_add_right _ _
        · rw [z]; exact Nat.le_refl _
        · rw [z]; exact Nat.le_add_right _ _
      exact I1.fpOk hle (I1.hok.fresh hle)
/-- for i, (x, y) in enumerate(zip(a, b)), lists of one length -/
theorem for_enumZ {K : PySem.W.Frag} {a b : Addr} {g : TG} {tb : TS} {D : Ends} {σ : L2.St} {H : Hp} (xs ys : List V) (hl : ys.length = xs.length) (Pv : Nat → L2.St → Hp → Prop) (h0 : Pv 0 σ H) (ha : ∀ i σ H, Pv i σ H → SqL K H a xs) (hb : ∀ i σ H, Pv i σ H → SqL K H b ys)
    (hs : ∀ i x y σ H U T, xs[i]? = some x → ys[i]? = some y → Pv i σ H → H U = none → H T = none → T ≠ U → g (.ref T) σ (upd (upd H U (.tup [x, y])) T (.tup [.int (i : Nat), .ref U])) fun σ2 H2 => tb { D with nx := Pv (i + 1), ct := Pv (i + 1), bk := D.nx } σ2 H2) (hd : ∀ σ H, Pv xs.length σ H → D.nx σ H) :
    kFor g tb D σ (Itx K a b) H := by
  refine oc_for (n := xs.length) Pv h0 (fun i σ H hi p => ⟨xs, ys, xs[i], ys[i]'(by omega), ha i σ H p, hb i σ H p, List.getElem?_eq_getElem hi, List.getElem?_eq_getElem (by omega)⟩) (fun σ H p => ⟨xs, ha _ σ H p, Nat.le_refl _⟩) (fun i x σ H H' hi p y => ?_) hd
  obtain ⟨U, T, u, v, e1, e2, e3, e4, e5, e6, e7⟩ := y
  subst e1 e5
  exact hs i u v σ H U T (e6 _ (ha i σ H p)) (e7 _ (hb i σ H p)) p e2 e3 e4
/-! the steps -/
def qIsTT : List V → Hp → VK → Prop := fun xs H Q => ∃ a ys, xs = [.ref a, .ty "tuple"] ∧ H a = some (.tup ys) ∧ Q (.bl true) H
theorem v_isTT {X : Cx} : CallR X (.builtin "isinstance") qIsTT := fun pins s σ H xs us Q I rr ⟨a, ys, e, h, q⟩ =>
  call_isi pins s σ H xs us Q I rr ⟨_, _, _, _, true, e, .ty "tuple", .base (.tup h), kit_ty (by decide +kernel), q⟩
section
variable {K : PySem.W.Frag} {a b t : Addr} {H : Hp} {Q : VK} {xs ys : List V}
def kXz (K : PySem.W.Frag) (R : It → Hp → Prop) (vs : List V) (H : Hp) : Prop := ∃ a b xs ys, vs = [.ref a, .ref b] ∧ SqL K H a xs ∧ SqL K H b ys ∧ R (Itx K a b) H
theorem g_iEnZ {ta : TA} {σ : L2.St} {R : It → Hp → Prop} (k : ta σ H (kXz K R)) : iEnZ K ta σ H R := k
theorem g_kXz {R : It → Hp → Prop} (h : SqL K H a xs) (h2 : SqL K H b ys) (k : R (Itx K a b) H) : kXz K R [.ref a, .ref b] H := ⟨a, b, xs, ys, rfl, h, h2, k⟩
theorem g_isTT (h : H t = some (.tup ys)) (k : Q (.bl true) H) : qIsTT [.ref t, .ty "tuple"] H Q := ⟨t, ys, rfl, h, k⟩
end
end Oc
/-! ### short tactics -/
local macro_rules | `(tactic| fail "fr1") => `(tactic| first | exact Oc.Sts.to0 (by assumption) | exact Oc.Sts.to1 (by assumption) | exact Oc.Sts.to2 (by assumption) | exact Oc.Sts.to3 (by assumption) | exact Oc.Sts.to4 (by assumption) | exact Oc.Sts.to5 (by assumption) | exact Oc.Sts.to6 (by assumption) | exact Oc.Sts.to7 (by assumption) | exact Oc.Sts.to8 (by assumption) | exact Oc.Sts.to9 (by assumption) | exact Oc.Sts.to10 (by assumption) | exact Oc.Sts.to11 (by assumption) | exact Oc.Sts.to12 (by assumption) | exact Oc.Sts.to13 (by assumption) | exact Oc.Sts.to14 (by assumption) | exact Oc.Sts.to15 (by assumption) | exact Oc.Sts.to16 (by assumption) | exact Oc.Sts.to17 (by assumption) | exact Oc.Sts.to18 (by assumption) | exact Oc.Sts.to19 (by assumption) | exact Oc.Sts.to20 (by assumption) | exact Oc.Sts.to21 (by assumption) | exact Oc.Sts.to22 (by assumption) | exact Oc.Sts.to23 (by assumption) | exact Oc.Sts.to24 (by assumption))
local macro_rules | `(tactic| fail "hp") => `(tactic| first | exact Oc.Sts.hd (Oc.Sts.to0 (by assumption)) | exact Oc.Sts.hd (Oc.Sts.to1 (by assumption)) | exact Oc.Sts.hd (Oc.Sts.to2 (by assumption)) | exact Oc.Sts.hd (Oc.Sts.to3 (by assumption)) | exact Oc.Sts.hd (Oc.Sts.to4 (by assumption)) | exact Oc.Sts.hd (Oc.Sts.to5 (by assumption)) | exact Oc.Sts.hd (Oc.Sts.to6 (by assumption)) | exact Oc.Sts.hd (Oc.Sts.to7 (by assumption)) | exact Oc.Sts.hd (Oc.Sts.to8 (by assumption)) | exact Oc.Sts.hd (Oc.Sts.to9 (by assumption)) | exact Oc.Sts.hd (Oc.Sts.to10 (by assumption)) | exact Oc.Sts.hd (Oc.Sts.to11 (by assumption)) | exact Oc.Sts.hd (Oc.Sts.to12 (by assumption)) | exact Oc.Sts.hd (Oc.Sts.to13 (by assumption)) | exact Oc.Sts.hd (Oc.Sts.to14 (by assumption)) | exact Oc.Sts.hd (Oc.Sts.to15 (by assumption)) | exact Oc.Sts.hd (Oc.Sts.to16 (by assumption)) | exact Oc.Sts.hd (Oc.Sts.to17 (by assumption)) | exact Oc.Sts.hd (Oc.Sts.to18 (by assumption)) | exact Oc.Sts.hd (Oc.Sts.to19 (by assumption)) | exact Oc.Sts.hd (Oc.Sts.to20 (by assumption)) | exact Oc.Sts.hd (Oc.Sts.to21 (by assumption)) | exact Oc.Sts.hd (Oc.Sts.to22 (by assumption)) | exact Oc.Sts.hd (Oc.Sts.to23 (by assumption)) | exact Oc.Sts.hd (Oc.Sts.to24 (by assumption)))
local macro_rules | `(tactic| fail "sq") => `(tactic| first | exact L2.SqL.of (by fail "hp") | exact Oc.Sts.sq (by fail "fr1") | exact L2.SqL.of (Oc.hI1 (by fail "hp")) | exact L2.SqL.of (Oc.hI0 (by fail "hp")) | exact L2.SqL.of (Oc.hI2 (by fail "hp")) | exact L2.SqL.of (Oc.hI3 (by fail "hp")) | exact L2.SqL.of (Oc.hI7 (by fail "hp")) | exact L2.SqL.of (Oc.hI4 (by fail "hp")))
local macro_rules | `(tactic| fail "hpI") => `(tactic| first | fail "hp" | exact Oc.hI1 (by fail "hp") | exact Oc.hI0 (by fail "hp") | exact Oc.hI2 (by fail "hp") | exact Oc.hI3 (by fail "hp") | exact Oc.hI7 (by fail "hp") | exact Oc.hI4 (by fail "hp"))
local macro_rules | `(tactic| fail "frI") => `(tactic| first | fail "fr1" | exact Oc.gI0 (by fail "fr1") | exact Oc.gI1 (by fail "fr1") | exact Oc.gI2 (by fail "fr1"))
local macro_rules | `(tactic| fail "fr2") => `(tactic| first | (refine Oc.Sts.under (fun _ ot => ?_) (Oc.Sts.to0 (by assumption)); fail "fr1") | (refine Oc.Sts.under (fun _ ot => ?_) (Oc.Sts.to1 (by assumption)); fail "fr1") | (refine Oc.Sts.under (fun _ ot => ?_) (Oc.Sts.to2 (by assumption)); fail "fr1") | (refine Oc.Sts.under (fun _ ot => ?_) (Oc.Sts.to3 (by assumption)); fail "fr1") | (refine Oc.Sts.under (fun _ ot => ?_) (Oc.Sts.to4 (by assumption)); fail "fr1") | (refine Oc.Sts.under (fun _ ot => ?_) (Oc.Sts.to5 (by assumption)); fail "fr1") | (refine Oc.Sts.under (fun _ ot => ?_) (Oc.Sts.to6 (by assumption)); fail "fr1") | (refine Oc.Sts.under (fun _ ot => ?_) (Oc.Sts.to7 (by assumption)); fail "fr1") | (refine Oc.Sts.under (fun _ ot => ?_) (Oc.Sts.to8 (by assumption)); fail "fr1") | (refine Oc.Sts.under (fun _ ot => ?_) (Oc.Sts.to9 (by assumption)); fail "fr1") | (refine Oc.Sts.under (fun _ ot => ?_) (Oc.Sts.to10 (by assumption)); fail "fr1") | (refine Oc.Sts.under (fun _ ot => ?_) (Oc.Sts.to11 (by assumption)); fail "fr1") | (refine Oc.Sts.under (fun _ ot => ?_) (Oc.Sts.to12 (by assumption)); fail "fr1") | (refine Oc.Sts.under (fun _ ot => ?_) (Oc.Sts.to13 (by assumption)); fail "fr1") | (refine Oc.Sts.under (fun _ ot => ?_) (Oc.Sts.to14 (by assumption)); fail "fr1") | (refine Oc.Sts.under (fun _ ot => ?_) (Oc.Sts.to15 (by assumption)); fail "fr1") | (refine Oc.Sts.under (fun _ ot => ?_) (Oc.Sts.to16 (by assumption)); fail "fr1") | (refine Oc.Sts.under (fun _ ot => ?_) (Oc.Sts.to17 (by assumption)); fail "fr1") | (refine Oc.Sts.under (fun _ ot => ?_) (Oc.Sts.to18 (by assumption)); fail "fr1") | (refine Oc.Sts.under (fun _ ot => ?_) (Oc.Sts.to19 (by assumption)); fail "fr1") | (refine Oc.Sts.under (fun _ ot => ?_) (Oc.Sts.to20 (by assumption)); fail "fr1") | (refine Oc.Sts.under (fun _ ot => ?_) (Oc.Sts.to21 (by assumption)); fail "fr1") | (refine Oc.Sts.under (fun _ ot => ?_) (Oc.Sts.to22 (by assumption)); fail "fr1") | (refine Oc.Sts.under (fun _ ot => ?_) (Oc.Sts.to23 (by assumption)); fail "fr1") | (refine Oc.Sts.under (fun _ ot => ?_) (Oc.Sts.to24 (by assumption)); fail "fr1"))
local macro_rules | `(tactic| fail "fr3") => `(tactic| first | (refine Oc.Sts.under (fun _ ot => ?_) (Oc.Sts.to0 (by assumption)); fail "fr2") | (refine Oc.Sts.under (fun _ ot => ?_) (Oc.Sts.to1 (by assumption)); fail "fr2") | (refine Oc.Sts.under (fun _ ot => ?_) (Oc.Sts.to2 (by assumption)); fail "fr2") | (refine Oc.Sts.under (fun _ ot => ?_) (Oc.Sts.to3 (by assumption)); fail "fr2") | (refine Oc.Sts.under (fun _ ot => ?_) (Oc.Sts.to4 (by assumption)); fail "fr2") | (refine Oc.Sts.under (fun _ ot => ?_) (Oc.Sts.to5 (by assumption)); fail "fr2") | (refine Oc.Sts.under (fun _ ot => ?_) (Oc.Sts.to6 (by assumption)); fail "fr2") | (refine Oc.Sts.under (fun _ ot => ?_) (Oc.Sts.to7 (by assumption)); fail "fr2") | (refine Oc.Sts.under (fun _ ot => ?_) (Oc.Sts.to8 (by assumption)); fail "fr2") | (refine Oc.Sts.under (fun _ ot => ?_) (Oc.Sts.to9 (by assumption)); fail "fr2") | (refine Oc.Sts.under (fun _ ot => ?_) (Oc.Sts.to10 (by assumption)); fail "fr2") | (refine Oc.Sts.under (fun _ ot => ?_) (Oc.Sts.to11 (by assumption)); fail "fr2") | (refine Oc.Sts.under (fun _ ot => ?_) (Oc.Sts.to12 (by assumption)); fail "fr2") | (refine Oc.Sts.under (fun _ ot => ?_) (Oc.Sts.to13 (by assumption)); fail "fr2") | (refine Oc.Sts.under (fun _ ot => ?_) (Oc.Sts.to14 (by assumption)); fail "fr2") | (refine Oc.Sts.under (fun _ ot => ?_) (Oc.Sts.to15 (by assumption)); fail "fr2") | (refine Oc.Sts.under (fun _ ot => ?_) (Oc.Sts.to16 (by assumption)); fail "fr2") | (refine Oc.Sts.under (fun _ ot => ?_) (Oc.Sts.to17 (by assumption)); fail "fr2") | (refine Oc.Sts.under (fun _ ot => ?_) (Oc.Sts.to18 (by assumption)); fail "fr2") | (refine Oc.Sts.under (fun _ ot => ?_) (Oc.Sts.to19 (by assumption)); fail "fr2") | (refine Oc.Sts.under (fun _ ot => ?_) (Oc.Sts.to20 (by assumption)); fail "fr2") | (refine Oc.Sts.under (fun _ ot => ?_) (Oc.Sts.to21 (by assumption)); fail "fr2") | (refine Oc.Sts.under (fun _ ot => ?_) (Oc.Sts.to22 (by assumption)); fail "fr2") | (refine Oc.Sts.under (fun _ ot => ?_) (Oc.Sts.to23 (by assumption)); fail "fr2") | (refine Oc.Sts.under (fun _ ot => ?_) (Oc.Sts.to24 (by assumption)); fail "fr2"))
local macro_rules | `(tactic| fail "fp") => `(tactic| first | assumption | exact trivial | exact Oc.Sts.tail (by assumption) | exact Oc.Sts.tail (Oc.Sts.tail (by assumption)) | exact Oc.Sts.tail (Oc.Sts.tail (Oc.Sts.tail (by assumption))) | exact Oc.Sts.tail (Oc.Sts.tail (Oc.Sts.tail (Oc.Sts.tail (by assumption)))) | exact Oc.Sts.tail (Oc.Sts.tail (Oc.Sts.tail (Oc.Sts.tail (Oc.Sts.tail (by assumption))))) | exact Oc.Sts.tail (Oc.Sts.tail (Oc.Sts.tail (Oc.Sts.tail (Oc.Sts.tail (Oc.Sts.tail (by assumption)))))) | exact Oc.Sts.tail (Oc.Sts.tail (Oc.Sts.tail (Oc.Sts.tail (Oc.Sts.tail (Oc.Sts.tail (Oc.Sts.tail (by assumption))))))) | exact Oc.Sts.tail (Oc.Sts.tail (Oc.Sts.tail (Oc.Sts.tail (Oc.Sts.tail (Oc.Sts.tail (Oc.Sts.tail (Oc.Sts.tail (by assumption)))))))) | exact Oc.Sts.tail (Oc.Sts.tail (Oc.Sts.tail (Oc.Sts.tail (Oc.Sts.tail (Oc.Sts.tail (Oc.Sts.tail (Oc.Sts.tail (Oc.Sts.tail (by assumption))))))))) | exact Oc.Sts.tail (Oc.Sts.tail (Oc.Sts.tail (Oc.Sts.tail (Oc.Sts.tail (Oc.Sts.tail (Oc.Sts.tail (Oc.Sts.tail (Oc.Sts.tail (Oc.Sts.tail (by assumption)))))))))) | exact Oc.Sts.tail (Oc.Sts.tail (Oc.Sts.tail (Oc.Sts.tail (Oc.Sts.tail (Oc.Sts.tail (Oc.Sts.tail (Oc.Sts.tail (Oc.Sts.tail (Oc.Sts.tail (Oc.Sts.tail (by assumption))))))))))) | exact Oc.Sts.tail (Oc.Sts.tail (Oc.Sts.tail (Oc.Sts.tail (Oc.Sts.tail (Oc.Sts.tail (Oc.Sts.tail (Oc.Sts.tail (Oc.Sts.tail (Oc.Sts.tail (Oc.Sts.tail (Oc.Sts.tail (by assumption)))))))))))) | exact Oc.Sts.tail (Oc.Sts.tail (Oc.Sts.tail (Oc.Sts.tail (Oc.Sts.tail (Oc.Sts.tail (Oc.Sts.tail (Oc.Sts.tail (Oc.Sts.tail (Oc.Sts.tail (Oc.Sts.tail (Oc.Sts.tail (Oc.Sts.tail (by assumption))))))))))))) | exact Oc.Sts.tail (Oc.Sts.tail (Oc.Sts.tail (Oc.Sts.tail (Oc.Sts.tail (Oc.Sts.tail (Oc.Sts.tail (Oc.Sts.tail (Oc.Sts.tail (Oc.Sts.tail (Oc.Sts.tail (Oc.Sts.tail (Oc.Sts.tail (Oc.Sts.tail (by assumption)))))))))))))) | exact Oc.Sts.tail (Oc.Sts.tail (Oc.Sts.tail (Oc.Sts.tail (Oc.Sts.tail (Oc.Sts.tail (Oc.Sts.tail (Oc.Sts.tail (Oc.Sts.tail (Oc.Sts.tail (Oc.Sts.tail (Oc.Sts.tail (Oc.Sts.tail (Oc.Sts.tail (Oc.Sts.tail (by assumption))))))))))))))) | exact Oc.Sts.tail (Oc.Sts.tail (Oc.Sts.tail (Oc.Sts.tail (Oc.Sts.tail (Oc.Sts.tail (Oc.Sts.tail (Oc.Sts.tail (Oc.Sts.tail (Oc.Sts.tail (Oc.Sts.tail (Oc.Sts.tail (Oc.Sts.tail (Oc.Sts.tail (Oc.Sts.tail (Oc.Sts.tail (by assumption)))))))))))))))) | exact Oc.Sts.tail (Oc.Sts.tail (Oc.Sts.tail (Oc.Sts.tail (Oc.Sts.tail (Oc.Sts.tail (Oc.Sts.tail (Oc.Sts.tail (Oc.Sts.tail (Oc.Sts.tail (Oc.Sts.tail (Oc.Sts.tail (Oc.Sts.tail (Oc.Sts.tail (Oc.Sts.tail (Oc.Sts.tail (Oc.Sts.tail (by assumption))))))))))))))))) | exact Oc.Sts.tail (Oc.Sts.tail (Oc.Sts.tail (Oc.Sts.tail (Oc.Sts.tail (Oc.Sts.tail (Oc.Sts.tail (Oc.Sts.tail (Oc.Sts.tail (Oc.Sts.tail (Oc.Sts.tail (Oc.Sts.tail (Oc.Sts.tail (Oc.Sts.tail (Oc.Sts.tail (Oc.Sts.tail (Oc.Sts.tail (Oc.Sts.tail (by assumption)))))))))))))))))) | exact Oc.Sts.tail (Oc.Sts.tail (Oc.Sts.tail (Oc.Sts.tail (Oc.Sts.tail (Oc.Sts.tail (Oc.Sts.tail (Oc.Sts.tail (Oc.Sts.tail (Oc.Sts.tail (Oc.Sts.tail (Oc.Sts.tail (Oc.Sts.tail (Oc.Sts.tail (Oc.Sts.tail (Oc.Sts.tail (Oc.Sts.tail (Oc.Sts.tail (Oc.Sts.tail (by assumption))))))))))))))))))) | exact Oc.Sts.tail (Oc.Sts.tail (Oc.Sts.tail (Oc.Sts.tail (Oc.Sts.tail (Oc.Sts.tail (Oc.Sts.tail (Oc.Sts.tail (Oc.Sts.tail (Oc.Sts.tail (Oc.Sts.tail (Oc.Sts.tail (Oc.Sts.tail (Oc.Sts.tail (Oc.Sts.tail (Oc.Sts.tail (Oc.Sts.tail (Oc.Sts.tail (Oc.Sts.tail (Oc.Sts.tail (by assumption)))))))))))))))))))) | (refine Oc.Sts.under (fun _ ot => ?_) (Oc.Sts.to0 (by assumption)); fail "fp") | (refine Oc.Sts.under (fun _ ot => ?_) (Oc.Sts.to1 (by assumption)); fail "fp") | (refine Oc.Sts.under (fun _ ot => ?_) (Oc.Sts.to2 (by assumption)); fail "fp") | (refine Oc.Sts.under (fun _ ot => ?_) (Oc.Sts.to3 (by assumption)); fail "fp") | (refine Oc.Sts.under (fun _ ot => ?_) (Oc.Sts.to4 (by assumption)); fail "fp") | (refine Oc.Sts.under (fun _ ot => ?_) (Oc.Sts.to5 (by assumption)); fail "fp") | (refine Oc.Sts.under (fun _ ot => ?_) (Oc.Sts.to6 (by assumption)); fail "fp") | (refine Oc.Sts.under (fun _ ot => ?_) (Oc.Sts.to7 (by assumption)); fail "fp") | (refine Oc.Sts.under (fun _ ot => ?_) (Oc.Sts.to8 (by assumption)); fail "fp") | (refine Oc.Sts.under (fun _ ot => ?_) (Oc.Sts.to9 (by assumption)); fail "fp") | (refine Oc.Sts.under (fun _ ot => ?_) (Oc.Sts.to10 (by assumption)); fail "fp") | (refine Oc.Sts.under (fun _ ot => ?_) (Oc.Sts.to11 (by assumption)); fail "fp") | (refine Oc.Sts.under (fun _ ot => ?_) (Oc.Sts.to12 (by assumption)); fail "fp") | (refine Oc.Sts.under (fun _ ot => ?_) (Oc.Sts.to13 (by assumption)); fail "fp") | (refine Oc.Sts.under (fun _ ot => ?_) (Oc.Sts.to14 (by assumption)); fail "fp") | (refine Oc.Sts.under (fun _ ot => ?_) (Oc.Sts.to15 (by assumption)); fail "fp") | (refine Oc.Sts.under (fun _ ot => ?_) (Oc.Sts.to16 (by assumption)); fail "fp") | (refine Oc.Sts.under (fun _ ot => ?_) (Oc.Sts.to17 (by assumption)); fail "fp") | (refine Oc.Sts.under (fun _ ot => ?_) (Oc.Sts.to18 (by assumption)); fail "fp") | (refine Oc.Sts.under (fun _ ot => ?_) (Oc.Sts.to19 (by assumption)); fail "fp") | (refine Oc.Sts.under (fun _ ot => ?_) (Oc.Sts.to20 (by assumption)); fail "fp") | (refine Oc.Sts.under (fun _ ot => ?_) (Oc.Sts.to21 (by assumption)); fail "fp") | (refine Oc.Sts.under (fun _ ot => ?_) (Oc.Sts.to22 (by assumption)); fail "fp") | (refine Oc.Sts.under (fun _ ot => ?_) (Oc.Sts.to23 (by assumption)); fail "fp") | (refine Oc.Sts.under (fun _ ot => ?_) (Oc.Sts.to24 (by assumption)); fail "fp"))
local macro_rules | `(tactic| fail "side") => `(tactic| first | omega | (dsimp only; omega) | exact Oc.le_cut2 (by omega) | exact Or.inr ⟨by omega, by omega⟩ | exact Or.inl ⟨by omega, by omega⟩ | exact ⟨by omega, by omega⟩ | exact ⟨by omega, by omega, by decide⟩ | exact Oc.small (by simp only [List.length_map, List.length_append, List.length_cons, List.length_nil, List.length_set, List.length_range, List.length_reverse, List.length_take, List.length_drop, Oc.len_rep]; omega) | exact Oc.small' (by simp only [List.length_map, List.length_append, List.length_cons, List.length_nil, List.length_set, List.length_range, List.length_reverse, List.length_take, List.length_drop, Oc.len_rep]; omega) | (simp only [List.length_map, List.length_append, List.length_cons, List.length_nil, List.length_set, List.length_range, List.length_reverse, List.length_take, List.length_drop, Oc.len_rep]; omega))
local macro_rules | `(tactic| fail "sideC") => `(tactic| first | omega | exact Or.inr ⟨by omega, by omega⟩ | exact Or.inl ⟨by omega, by omega⟩ | exact ⟨by omega, by omega⟩ | exact ⟨by omega, by omega, by decide⟩)
local macro_rules | `(tactic| fail "sideR") => `(tactic| first | exact ⟨by omega, by omega, by omega⟩ | exact ⟨by omega, by omega, by simp only [List.length_cons, List.length_nil]; omega⟩)
local macro_rules | `(tactic| fail "sideZ") => `(tactic| first | exact Oc.small (Nat.le_of_ble_eq_true rfl) | fail "side")
local macro_rules | `(tactic| fail "side3") => `(tactic| first | exact ⟨by omega, by omega, by omega⟩ | exact ⟨by simp only [List.length_map, List.length_append, List.length_cons, List.length_nil, List.length_set, List.length_range, List.length_reverse, List.length_take, List.length_drop, Oc.len_rep]; omega, by omega, by omega⟩)
local macro_rules | `(tactic| fail "le") => `(tactic| first | assumption | exact Oc.Le.refl _ | (refine Oc.Le.trans (by assumption) ?_; fail "le"))
local macro_rules | `(tactic| fail "te") => `(tactic| first | assumption | (refine Oc.Le.ap ?_ (by assumption); fail "le"))
local macro_rules | `(tactic| fail "tp") => `(tactic| exact Oc.Sts.tp (by fail "fr1") (by fail "te"))
local macro_rules | `(tactic| fail "sqT") => `(tactic| exact L2.SqT.of (by fail "tp"))
local macro_rules | `(tactic| fail "fld") => `(tactic| exact Oc.fldAt_of (by fail "fr1") rfl)
local macro_rules | `(tactic| fail "isc") => `(tactic| exact Oc.isC_of (by fail "fr1"))
local macro_rules | `(tactic| fail "ins") => `(tactic| exact Oc.isIns_of (by fail "fr1") rfl)
local macro_rules | `(tactic| fail "sqO") => `(tactic| exact L2.SqL.of (by fail "hp"))
local macro_rules | `(tactic| fail "st") => `(tactic| with_reducible first
  | refine Oc.g_cons ?_
  | refine Oc.g_nil ?_
  | refine Oc.g_c ?_
  | refine Oc.g_cb ?_
  | refine Oc.g_callX ?_
  | refine Oc.g_op ?_
  | refine Oc.g_asg ?_
  | refine Oc.g_seq ?_
  | refine Oc.g_ifS ?_
  | refine Oc.g_test ?_
  | refine Oc.g_bl ?_
  | refine Oc.g_not ?_
  | refine Oc.g_or ?_
  | refine Oc.g_and ?_
  | refine Oc.g_tB ?_
  | refine Oc.g_ret ?_
  | refine Oc.g_drop ?_
  | refine Oc.g_next ?_
  | refine Oc.g_I0 ?_
  | refine Oc.g_eqI ?_
  | refine Oc.g_neI ?_
  | refine Oc.g_isNI ?_
  | refine Oc.g_isNR ?_
  | refine Oc.g_isNN ?_
  | refine Oc.g_isNO ?_
  | refine Oc.g_notNI ?_
  | refine Oc.g_notNR ?_
  | refine Oc.g_notNN ?_
  | refine Oc.g_notNO ?_
  | refine Oc.g_bm ?_
  | refine Oc.g_lst ?_
  | refine Oc.g_tup ?_
  | refine Oc.g_for ?_
  | refine Oc.g_lc ?_
  | refine Oc.g_iList ?_
  | refine Oc.g_iRng1 ?_
  | refine Oc.g_iRng2 ?_
  | refine Oc.g_truO ?_
  | refine Oc.g_truN ?_
  | refine Oc.g_truB ?_
  | refine Oc.g_truI ?_
  | refine Oc.g_ipI ?_
  | refine Oc.g_U ?_
  | refine Oc.g_un ?_
  | refine Oc.g_gsub ?_
  | refine Oc.g_gcons ?_
  | refine Oc.g_gnil ?_
  | refine Oc.g_sl ?_
  | refine Oc.g_noPart ?_
  | refine Oc.g_part ?_
  | refine Oc.g_kPart ?_
  | refine Oc.g_callS ?_
  | refine Oc.g_andV ?_
  | refine Oc.g_orV ?_
  | refine Oc.g_notV ?_
  | refine Oc.g_kAndV ?_
  | refine Oc.g_kOrV ?_
  | refine Oc.g_kNotV ?_
  | refine Oc.g_if ?_
  | refine Oc.g_chain ?_
  | refine Oc.g_kChain ?_
  | refine Oc.g_retN ?_
  | refine Oc.g_brk ?_
  | refine Oc.g_cont ?_
  | refine Oc.g_bm0 ?_
  | refine Oc.g_intI ?_
  | refine Oc.g_intB ?_
  | refine Oc.g_min2 ?_
  | refine Oc.g_max2 ?_
  | refine Oc.g_abs ?_
  | refine Oc.g_and1 ?_
  | refine Oc.g_powc ?_
  | refine Oc.g_isII ?_
  | refine Oc.g_isIB ?_
  | refine Oc.g_isBB ?_
  | refine Oc.g_eqB ?_
  | refine Oc.g_neB ?_
  | refine Oc.g_eqO ?_
  | refine Oc.g_neO ?_
  | refine Oc.g_isN ?_
  | refine Oc.g_notN ?_
  | refine Oc.g_iEnum ?_
  | refine Oc.g_iZip ?_
  | refine Oc.g_iRevR ?_
  | refine Oc.g_rg1 ?_
  | refine Oc.g_kRg1 ?_
  | refine Oc.g_rg2 ?_
  | refine Oc.g_kRg2 ?_
  | refine Oc.g_yes ?_
  | refine Oc.g_dnewT ?_
  | refine Oc.g_dnewK ?_
  | refine Oc.g_nx ?_
  | refine Oc.g_rt ?_
  | refine Oc.g_lstRg ?_
  | refine Oc.g_revL ?_
  | refine Oc.g_call ?_)
local macro_rules | `(tactic| fail "stc") => `(tactic| with_reducible first
  | refine Oc.g_fld ?_
  | refine Oc.g_meth ?_
  | refine Oc.g_set ?_
  | refine Oc.g_make ?_
  | refine Oc.g_makeE ?_
  | refine Oc.g_own2 ?_
  | refine Oc.g_nonR ?_
  | refine Oc.g_ost1 ?_
  | refine Oc.g_din ?_
  | refine Oc.g_dnotin ?_
  | refine Oc.g_orT ?_
  | refine Oc.g_augS ?_
  | refine Oc.g_xf ?_
  | refine Oc.g_ost2 ?_
  | refine Oc.g_mkX ?_
  | refine Oc.g_raise ?_)
local macro_rules | `(tactic| fail "sv") => `(tactic| first
  | ((with_reducible apply Oc.g_var); exact rfl)
  | ((with_reducible apply Oc.g_newT); fail "fr1"; intro op oh ou ol oe os)
  | ((with_reducible apply Oc.g_newT0); assumption; intro op oh os)
  | ((with_reducible apply Oc.g_new); assumption; exact rfl; intro op oh os)
  | ((with_reducible apply Oc.g_kLst); exact Oc.small' (Nat.le_of_ble_eq_true rfl))
  | ((with_reducible apply Oc.g_kTup); exact Oc.small' (Nat.le_of_ble_eq_true rfl))
  | ((with_reducible apply Oc.g_I); fail "sideC")
  | ((with_reducible apply Oc.g_lenI); fail "sq")
  | ((with_reducible apply Oc.g_len); fail "sq")
  | ((with_reducible apply Oc.g_list); fail "sq")
  | ((with_reducible apply Oc.g_sum); fail "sq")
  | ((with_reducible apply Oc.g_anyI); fail "sq")
  | ((with_reducible apply Oc.g_any); fail "sq")
  | ((with_reducible apply Oc.g_all); fail "sq")
  | ((with_reducible apply Oc.g_slI); fail "sq")
  | ((with_reducible apply Oc.g_slA); fail "sq")
  | ((with_reducible apply Oc.g_kIL); fail "sq")
  | ((with_reducible apply Oc.g_kRevI); fail "sq")
  | ((with_reducible apply Oc.g_kRev); fail "sq")
  | ((with_reducible apply Oc.g_truIs); fail "sq")
  | ((with_reducible apply Oc.g_truL); fail "sq")
  | ((with_reducible apply Oc.g_kBML); fail "sq")
  | ((with_reducible apply Oc.g_kBM0L); fail "sq")
  | ((with_reducible apply Oc.g_inIs); fail "sq")
  | ((with_reducible apply Oc.g_kEn); fail "sq")
  | ((with_reducible apply Oc.g_tuple); fail "sq")
  | ((with_reducible apply Oc.g_lenT); fail "sqT")
  | ((with_reducible apply Oc.g_listT); fail "sqT")
  | ((with_reducible apply Oc.g_isLL); fail "hp")
  | ((with_reducible refine Oc.g_kBMS ?_))
  | ((with_reducible apply Oc.g_wipe); exact rfl)
  | ((with_reducible apply Oc.g_aug); exact rfl)
  | ((with_reducible apply Oc.g_intBA); intro oo o0 o1 ob)
  | ((with_reducible apply Oc.g_kR1); exact ⟨by omega, by omega⟩)
  | ((with_reducible apply Oc.g_kR2); exact ⟨⟨by omega, by omega⟩, by omega, by omega⟩)
  | ((with_reducible apply Oc.g_kRv); exact ⟨⟨by omega, by omega⟩, by omega, by omega⟩)
  | ((with_reducible apply Oc.g_kLR); exact ⟨by omega, by omega, by omega, by omega⟩)
  | ((with_reducible apply Oc.g_ixI); fail "sq"; fail "side")
  | ((with_reducible apply Oc.g_ix); fail "sq"; exact rfl)
  | ((with_reducible apply Oc.g_ixT); fail "sqT"; exact rfl)
  | ((with_reducible apply Oc.g_eqIs); fail "sq"; fail "sq")
  | ((with_reducible apply Oc.g_neIs); fail "sq"; fail "sq")
  | ((with_reducible apply Oc.g_kZp); fail "sq"; fail "sq")
  | ((with_reducible apply Oc.g_catI); fail "hpI"; fail "hpI"; fail "side")
  | ((with_reducible apply Oc.g_repI); fail "hpI"; fail "sideR")
  | ((with_reducible apply Oc.g_appI); fail "frI"; fail "side"; intro oh os)
  | ((with_reducible apply Oc.g_app); fail "fr1"; fail "sideZ"; intro oh os)
  | ((with_reducible apply Oc.g_ext); fail "fr1"; fail "hp"; fail "side"; intro oh os)
  | ((with_reducible apply Oc.g_setI); fail "frI"; fail "side"; intro oh os)
  | ((with_reducible apply Oc.g_setL); fail "fr1"; fail "side"; intro oh os)
  | ((with_reducible apply Oc.g_gtup); fail "sqT"; exact rfl)
  | ((with_reducible apply Oc.g_kLc); assumption; intro od oh os)
  | ((with_reducible apply Oc.g_eq); exact rfl)
  | ((with_reducible apply Oc.g_ne); exact rfl))
local macro_rules | `(tactic| fail "svc") => `(tactic| first
  | ((with_reducible apply Oc.g_kFld); fail "fld")
  | ((with_reducible apply Oc.g_kMeth); fail "ins")
  | ((with_reducible apply Oc.g_kSet); fail "fr1"; exact Nat.le_of_ble_eq_true rfl; intro oh os)
  | ((with_reducible apply Oc.g_isE); fail "hp")
  | ((with_reducible apply Oc.g_kXf); fail "hp"; exact rfl)
  | ((with_reducible apply Oc.g_getI); fail "sq"; fail "side")
  | ((with_reducible apply Oc.g_cntI); fail "sq")
  | ((with_reducible apply Oc.g_kOrTI); fail "sq")
  | ((with_reducible apply Oc.g_inPT); fail "tp")
  | ((with_reducible apply Oc.g_inPF); fail "tp")
  | ((with_reducible apply Oc.g_inPsT); fail "tp"; fail "sq"; fail "prs")
  | ((with_reducible apply Oc.g_inPsF); fail "tp"; fail "sq"; fail "prs")
  | ((with_reducible apply Oc.g_eqPsT); fail "sq"; fail "prs"; fail "sq"; fail "prs")
  | ((with_reducible apply Oc.g_eqPsF); fail "sq"; fail "prs"; fail "sq"; fail "prs")
  | ((with_reducible apply Oc.g_kOrTR); fail "sq")
  | ((with_reducible apply Oc.g_kDInT); fail "hp"; fail "tp")
  | ((with_reducible apply Oc.g_kDNotInT); fail "hp"; fail "tp")
  | ((with_reducible apply Oc.g_setT); fail "fr1"; fail "tp"; fail "side"; intro oh os)
  | ((with_reducible apply Oc.g_kOst1); fail "fr1"; intro od oh os)
  | ((with_reducible apply Oc.g_kOst2); fail "fr2"; exact Nat.le_of_ble_eq_true rfl; intro oh os)
  | ((with_reducible apply Oc.g_kOwn); fail "isc"; fail "isc")
  | ((with_reducible apply Oc.g_eqOwn); fail "isc"; fail "isc")
  | ((with_reducible apply Oc.g_isiC); fail "isc")
  | ((with_reducible apply Oc.g_eqOs); fail "sqO"; fail "sqO")
  | ((with_reducible apply Oc.g_neOs); fail "sqO"; fail "sqO")
  | ((with_reducible apply Oc.g_ixO); fail "sqO"; fail "side")
  | ((with_reducible apply Oc.g_insI); fail "frI"; fail "side3"; intro oh os))
local macro_rules | `(tactic| fail "gn") => `(tactic| ((with_reducible show L2.gName _ _ _ _ _); first
  | (with_reducible refine Oc.g_name0 ?_)
  | (with_reducible refine Oc.g_name1 ?_)
  | (with_reducible refine Oc.g_name2 ?_)
  | (with_reducible refine Oc.g_name3 ?_)
  | (with_reducible refine Oc.g_name4 ?_)
  | (with_reducible refine Oc.g_name5 ?_)
  | (with_reducible refine Oc.g_name6 ?_)
  | (with_reducible refine Oc.g_name7 ?_)
  | (with_reducible refine Oc.g_name8 ?_)
  | (with_reducible refine Oc.g_name9 ?_)
  | (with_reducible refine Oc.g_name10 ?_)
  | (with_reducible refine Oc.g_name11 ?_)
  | (with_reducible refine Oc.g_name12 ?_)
  | (with_reducible refine Oc.g_name13 ?_)
  | (with_reducible refine Oc.g_name14 ?_)
  | (with_reducible refine Oc.g_name15 ?_)
  | (with_reducible refine Oc.g_name16 ?_)
  | (with_reducible refine Oc.g_name17 ?_)
  | refine Oc.g_nameG ?_))
local macro_rules | `(tactic| fail "go") => `(tactic| repeat (first | fail "ife" | fail "st" | fail "gn" | fail "sv" | fail "gs" | fail "stc" | fail "svc"))
local macro_rules | `(tactic| fail "gd") => `(tactic| repeat (first | fail "ife" | fail "ifd" | fail "st" | fail "gn" | fail "sv" | fail "gs" | fail "stc" | fail "svc"))
local macro_rules | `(tactic| fail "ife") => `(tactic| with_reducible first | refine Oc.ifTT ?_ | refine Oc.ifFF ?_ | refine Oc.ifNT ?_ | refine Oc.ifNF ?_ | refine Oc.ifDE ?_ | refine Oc.ifNE ?_)
local macro_rules | `(tactic| fail "lce") => `(tactic| (refine ⟨_, (by fail "hp"), Oc.small (by simp only [List.length_map, List.length_append, List.length_cons, List.length_nil, List.length_set, List.length_range, List.length_reverse, List.length_take, List.length_drop, Oc.len_rep]; omega), ?_⟩; generalize hw : L2.upd _ _ _ = oh; have os := Oc.Sts.putE (by fail "fr1") hw; clear hw))
local macro_rules | `(tactic| fail "ifd") => `(tactic| first
  | ((with_reducible refine Oc.ivT ?c ?_); case c => omega)
  | ((with_reducible refine Oc.ivF ?c ?_); case c => omega)
  | ((with_reducible refine Oc.iwT ?c ?_); case c => omega)
  | ((with_reducible refine Oc.iwF ?c ?_); case c => omega)
  | ((with_reducible refine Oc.idT ?c ?_); case c => omega)
  | ((with_reducible refine Oc.idF ?c ?_); case c => omega)
  | ((with_reducible refine Oc.inT ?c ?_); case c => omega)
  | ((with_reducible refine Oc.inF ?c ?_); case c => omega))
local macro_rules | `(tactic| fail "prl") => `(tactic| first | assumption | (refine Oc.Prs.mono ?_ (by assumption); fail "le"))
local macro_rules | `(tactic| fail "prs") => `(tactic| exact Oc.Sts.prs (by fail "fr1") (by fail "prl"))

/-! ### chains: heights, the stretch (plain lists) -/
namespace Ch
def hAb (c b w : Int) : Int := if c = 0 then b + 1 else if c = 1 ∧ b ≥ w then 1 else 0
/-- the height of the first page -/
def hgt (w : Int) : List Int → Int
  | [] => 0
  | c :: r => hAb c (hgt w r) w
/-- the heights of all pages -/
def hts (w : Int) : List Int → List Int
  | [] => []
  | c :: r => hgt w (c :: r) :: hts w r
theorem hts_len (w : Int) : ∀ L : List Int, (hts w L).length = L.length
  | [] => rfl
  | _ :: r => by rw [hts, List.length_cons, List.length_cons, hts_len w r]
theorem hgt_nn (w : Int) : ∀ L : List Int, 0 ≤ hgt w L
  | [] => Int.le_refl 0
  | c :: r => by
    have ih := hgt_nn w r
    unfold hgt hAb
    split
    · omega
    · split <;> omega
/-- some height is too great -/
def Lost (w : Int) : List Int → Prop
  | [] => False
  | c :: r => w < hgt w (c :: r) ∨ Lost w r
theorem lost_any (w : Int) : ∀ L : List Int, Lost w L ↔ ∃ h ∈ hts w L, w < h
  | [] => ⟨fun h => h.elim, fun ⟨_, h, _⟩ => by cases h⟩
  | c :: r => by
    have ih := lost_any w r
    constructor
    · intro h
      rcases h with h | h
      · exact ⟨_, List.mem_cons_self, h⟩
      · obtain ⟨x, hx, h⟩ := ih.mp h
        exact ⟨x, List.mem_cons_of_mem _ hx, h⟩
    · rintro ⟨x, hx, h⟩
      rcases List.mem_cons.mp hx with e | hx
      · exact .inl (e ▸ h)
      · exact .inr (ih.mpr ⟨x, hx, h⟩)
def Nn (L : List Int) : Prop := ∀ x ∈ L, 0 ≤ x
def AllZ (L : List Int) : Prop := ∀ x ∈ L, x = 0
/-- the reading from a page on: k groups are looked at -/
def scan (w : Nat) : Nat → List Int → Prop
  | 0, _ => False
  | _ + 1, [] => False
  | k + 1, c :: r => c ≤ 1 ∧ (c = 0 ∨ (AllZ (r.take (w - 1)) ∧ scan w k (r.drop (w - 1))))
def Stretch (w : Nat) (L : List Int) : Prop := ∃ s, s + w < L.length ∧ AllZ ((L.drop s).take w) ∧ scan w L.length (L.drop (s + w))
theorem hgt_zeros (w : Int) : ∀ (k : Nat) (L : List Int), AllZ (L.take k) → k ≤ L.length → hgt w L = k + hgt w (L.drop k)
  | 0, L, _, _ => by simp
  | k + 1, [], _, h => absurd h (by simp)
  | k + 1, c :: r, hz, h => by
    have hc : c = 0 := hz c (by simp)
    have ih := hgt_zeros w k r (fun x hx => hz x (by simp [hx])) (by simpa using h)
    show hAb c (hgt w r) w = _
    rw [ih, hc]
    unfold hAb
    rw [if_pos rfl, List.drop_succ_cons]
    omega
theorem scan_hgt {w : Nat} (hw : 1 ≤ w) : ∀ (k : Nat) (L : List Int), Nn L → scan w k L → 1 ≤ hgt w L
  | 0, _, _, h => h.elim
  | _ + 1, [], _, h => h.elim
  | k + 1, c :: r, hn, ⟨h1, h⟩ => by
    have g := hgt_nn (w : Int) r
    show 1 ≤ hAb c (hgt w r) w
    unfold hAb
    rcases h with h | ⟨hz, h⟩
    · rw [if_pos h]
      omega
    · by_cases hc : c = 0
      · rw [if_pos hc]
        omega
      · have h0 := hn c List.mem_cons_self
        have ih := scan_hgt hw k (r.drop (w - 1)) (fun x hx => hn x (List.mem_cons_of_mem _ (List.mem_of_mem_drop hx))) h
        have hl : w - 1 ≤ r.length := by
          apply Decidable.byContradiction
          intro q
          have e : r.drop (w - 1) = [] := List.drop_of_length_le (by omega)
          rw [e] at ih
          have z : (1 : Int) ≤ 0 := ih
          omega
        have e := hgt_zeros (w : Int) (w - 1) r hz hl
        rw [if_neg hc, if_pos ⟨by omega, by omega⟩]
        omega
theorem stretch_lost {w : Nat} (hw : 1 ≤ w) {L : List Int} (hn : Nn L) (h : Stretch w L) : Lost w L := by
  obtain ⟨s, hs, hz, h⟩ := h
  have h1 := scan_hgt hw _ _ (fun x hx => hn x (List.mem_of_mem_drop hx)) h
  have e := hgt_zeros (w : Int) w (L.drop s) hz (by rw [List.length_drop]; omega)
  rw [List.drop_drop] at e
  have up : ∀ (s : Nat) (L : List Int), s < L.length → (w : Int) < hgt w (L.drop s) → Lost w L := by
    intro s
    induction s with
    | zero =>
      intro L hl q
      cases L with
      | nil => simp at hl
      | cons c r => exact .inl q
    | succ s ih =>
      intro L hl q
      cases L with
      | nil => simp at hl
      | cons c r => exact .inr (ih r (by simpa using hl) q)
  exact up s L (by omega) (by omega)
/-- a height of two or more: a page without a blank line above the height that is one less -/
theorem hgt_two {w : Int} {c : Int} {r : List Int} {k : Int} (h : hgt w (c :: r) = k) (hk : 2 ≤ k) : c = 0 ∧ hgt w r = k - 1 := by
  have h : hAb c (hgt w r) w = k := h
  unfold hAb at h
  split at h
  · exact ⟨by assumption, by omega⟩
  · split at h <;> omega
theorem hgt_down {w : Int} : ∀ (k : Nat) (L : List Int), hgt w L = k + 1 → AllZ (L.take k) ∧ k < L.length ∧ hgt w (L.drop k) = 1
  | 0, L, h => by
    refine ⟨by simp [AllZ], ?_, by simpa using h⟩
    cases L with
    | nil => have z : (0 : Int) = _ := h; simp at z
    | cons c r => simp
  | k + 1, [], h => by
    have z : (0 : Int) = _ := h
    omega
  | k + 1, c :: r, h => by
    obtain ⟨hc, hr⟩ := hgt_two h (by omega)
    obtain ⟨i1, i2, i3⟩ := hgt_down (w := w) k r (by omega)
    refine ⟨fun x hx => ?_, by simpa using i2, i3⟩
    rw [List.take_succ_cons] at hx
    rcases List.mem_cons.mp hx with e | hx
    · rw [e, hc]
    · exact i1 x hx
/-- no height further down is too great -/
theorem one_scan {w : Nat} (hw : 1 ≤ w) : ∀ (k : Nat) (L : List Int), L.length ≤ k → (∀ c r, L = c :: r → ¬ Lost w r) → hgt w L = 1 → scan w k L
  | k, [], _, _, h => by
    have z : (0 : Int) = 1 := h
    omega
  | 0, _ :: _, hl, _, _ => by simp at hl
  | k + 1, c :: r, hl, hg, h => by
    have gl := hg c r rfl
    have h : hAb c (hgt w r) w = 1 := h
    unfold hAb at h
    split at h
    · rename_i hc
      exact ⟨by omega, .inl hc⟩
    · split at h
      · rename_i hc h1
        refine ⟨by omega, .inr ?_⟩
        -- the page below has the height w
        have hr : hgt w r = (w : Int) := by
          cases r with
          | nil =>
            have z : hgt w [] = 0 := rfl
            omega
          | cons d t =>
            have : ¬ ((w : Int) < hgt w (d :: t)) := fun q => gl (.inl q)
            omega
        obtain ⟨d1, d2, d3⟩ := hgt_down (w := (w : Int)) (w - 1) r (by omega)
        refine ⟨d1, one_scan hw k (r.drop (w - 1)) (by rw [List.length_drop]; simp at hl; omega) (fun x t e => ?_) d3⟩
        intro q
        have sub : ∀ (n : Nat) (r : List Int), Lost (w : Int) (r.drop n) → Lost (w : Int) r := by
          intro n
          induction n with
          | zero => exact fun _ z => z
          | succ n ih =>
            intro r z
            cases r with
            | nil => exact z
            | cons _ _ => exact .inr (ih _ z)
        exact gl (sub (w - 1) r (e ▸ .inr q))
      · omega
theorem lost_stretch {w : Nat} (hw : 1 ≤ w) : ∀ (n : Nat) (L : List Int), Lost w L → L.length ≤ n → ∃ s, s + w < L.length ∧ AllZ ((L.drop s).take w) ∧ scan w n (L.drop (s + w))
  | _, [], h, _ => h.elim
  | n, c :: r, h, hl => by
    by_cases g : Lost w r
    · obtain ⟨s, h1, h2, h3⟩ := lost_stretch hw n r g (by simp at hl; omega)
      refine ⟨s + 1, by simp; omega, h2, ?_⟩
      rw [show s + 1 + w = (s + w) + 1 by omega]
      exact h3
    · have q : (w : Int) < hgt w (c :: r) := h.elim id fun z => absurd z g
      have e : hgt w (c :: r) = w + 1 := by
        have q' : (w : Int) < hAb c (hgt w r) w := q
        show hAb c (hgt w r) w = w + 1
        have gr : hgt w r ≤ w := by
          cases r with
          | nil =>
            have z : hgt (w : Int) [] = 0 := rfl
            omega
          | cons d t => exact Int.not_lt.mp fun z => g (.inl z)
        unfold hAb at q' ⊢
        split at q'
        · omega
        · split at q' <;> omega
      obtain ⟨d1, d2, d3⟩ := hgt_down (w := (w : Int)) w (c :: r) e
      refine ⟨0, by omega, d1, ?_⟩
      rw [Nat.zero_add]
      refine one_scan hw n _ (by rw [List.length_drop]; omega) (fun x t e q => ?_) d3
      have sub : ∀ (n : Nat) (r : List Int), Lost (w : Int) (r.drop n) → Lost (w : Int) r := by
        intro n
        induction n with
        | zero => exact fun _ z => z
        | succ n ih =>
          intro r z
          cases r with
          | nil => exact z
          | cons _ _ => exact .inr (ih _ z)
      obtain ⟨m, em⟩ : ∃ m, w = m + 1 := ⟨w - 1, by omega⟩
      have e' : r.drop (w - 1) = x :: t := by
        rw [← e]
        rw [em, List.drop_succ_cons]
        rfl
      exact g (sub (w - 1) r (e' ▸ .inr q))
theorem lost_iff {w : Nat} (hw : 1 ≤ w) {L : List Int} (hn : Nn L) : Lost w L ↔ Stretch w L := ⟨fun h => lost_stretch hw L.length L h (Nat.le_refl _), stretch_lost hw hn⟩
end Ch

/-! ### stretches: lifts (plain lists) -/
namespace Sm
open Ch
def kept (w c : Int) (o : Option Int) : Option Int := o.bind fun b => if hAb c b w ≤ w then some (hAb c b w) else none
def up (w : Int) (ws : List Int) (o : Option Int) : Option Int := ws.foldr (kept w) o
def LL (w : Int) (ws : List Int) : List (Option Int) := (List.range (w + 1).toNat).map fun (h : Nat) => up w ws (some (h : Int))
def gt (ns : List (Option Int)) (i : Int) : Option Int := ns.getD i.toNat none
def jn (l1 l2 : List (Option Int)) : List (Option Int) := l2.map fun o => o.bind fun h => gt l1 h
theorem up_none (w : Int) : ∀ ws : List Int, up w ws none = none
  | [] => rfl
  | c :: r => by
    show kept w c (up w r none) = none
    rw [up_none w r]
    rfl
theorem up_app (w : Int) (a b : List Int) (o : Option Int) : up w (a ++ b) o = up w a (up w b o) := by
  unfold up
  rw [List.foldr_append]
theorem hAb_nn {c b w : Int} (hb : 0 ≤ b) : 0 ≤ hAb c b w := by
  unfold hAb
  split
  · omega
  · split <;> omega
theorem up_rng {w : Int} : ∀ {ws : List Int} {b h : Int}, 0 ≤ b → b ≤ w → up w ws (some b) = some h → 0 ≤ h ∧ h ≤ w
  | [], b, h, h0, h1, e => by
    cases e
    exact ⟨h0, h1⟩
  | c :: r, b, h, h0, h1, e => by
    have e : kept w c (up w r (some b)) = some h := e
    cases q : up w r (some b) with
    | none =>
      rw [q] at e
      cases e
    | some g =>
      have ih := up_rng h0 h1 q
      rw [q] at e
      have e : (if hAb c g w ≤ w then some (hAb c g w) else none) = some h := e
      split at e
      · rename_i l
        cases e
        exact ⟨hAb_nn ih.1, l⟩
      · cases e
theorem LL_len (w : Int) (ws : List Int) : (LL w ws).length = (w + 1).toNat := by
  unfold LL
  rw [List.length_map, List.length_range]
theorem gt_LL {w h : Int} (ws : List Int) (h0 : 0 ≤ h) (h1 : h ≤ w) : gt (LL w ws) h = up w ws (some h) := by
  unfold gt LL
  have hl : h.toNat < (w + 1).toNat := by omega
  rw [List.getD_eq_getElem?_getD, List.getElem?_map, List.getElem?_range hl]
  show up w ws (some ((h.toNat : Nat) : Int)) = _
  rw [Int.toNat_of_nonneg h0]
theorem mem_LL {w h : Int} {ws : List Int} (e : some h ∈ LL w ws) : 0 ≤ h ∧ h ≤ w := by
  unfold LL at e
  obtain ⟨i, hi, e⟩ := List.mem_map.mp e
  have hi := List.mem_range.mp hi
  exact up_rng (by omega) (by omega) e
theorem jn_LL (w : Int) (a b : List Int) : jn (LL w a) (LL w b) = LL w (a ++ b) := by
  unfold jn
  conv => lhs; arg 2; unfold LL
  conv => rhs; unfold LL
  rw [List.map_map]
  refine List.map_congr_left fun i hi => ?_
  have hi := List.mem_range.mp hi
  show (up w b (some (i : Int))).bind (fun h => gt (LL w a) h) = up w (a ++ b) (some (i : Int))
  rw [up_app]
  cases q : up w b (some (i : Int)) with
  | none => exact (up_none w a).symm
  | some h =>
    have z := up_rng (by omega) (by omega) q
    exact gt_LL a z.1 z.2
theorem LL_nil (w : Int) : LL w [] = (List.range (w + 1).toNat).map fun (h : Nat) => some (h : Int) := rfl
theorem map_up (w : Int) (a b : List Int) : (LL w b).map (up w a) = LL w (a ++ b) := by
  unfold LL
  rw [List.map_map]
  refine List.map_congr_left fun i hi => ?_
  exact (up_app w a b _).symm
theorem map_up0 (w : Int) (a : List Int) : (LL w []).map (up w a) = LL w a := by
  rw [map_up, List.append_nil]
theorem kept_two {w c : Int} (hw : 0 ≤ w) (hc : 2 ≤ c) (b : Int) : kept w c (some b) = some 0 := by
  have e : hAb c b w = 0 := by
    unfold hAb
    rw [if_neg (by omega), if_neg (by omega)]
  show (if hAb c b w ≤ w then some (hAb c b w) else none) = some 0
  rw [e, if_pos hw]
theorem up_great {w : Int} (hw : 0 ≤ w) : ∀ {g : List Int}, g ≠ [] → (∀ x ∈ g, 2 ≤ x) → ∀ b : Int, up w g (some b) = some 0
  | [], h, _, _ => absurd rfl h
  | [c], _, hg, b => kept_two hw (hg c (by simp)) b
  | c :: d :: r, _, hg, b => by
    show kept w c (up w (d :: r) (some b)) = some 0
    rw [up_great hw (g := d :: r) (by simp) (fun x hx => hg x (List.mem_cons_of_mem _ hx)) b]
    exact kept_two hw (hg c (by simp)) 0
theorem LL_great {w : Int} (hw : 0 ≤ w) (a b : List Int) {g : List Int} (h : g ≠ []) (hg : ∀ x ∈ g, 2 ≤ x) : LL w (a ++ g ++ b) = LL w (a ++ [2] ++ b) := by
  unfold LL
  refine List.map_congr_left fun i hi => ?_
  rw [up_app, up_app, up_app, up_app]
  cases up w b (some (i : Int)) with
  | none => rw [up_none, up_none, up_none, up_none]
  | some z => rw [up_great hw h hg, up_great hw (g := [2]) (by simp) (by simp)]
/-- the law's own height -/
def lawH (w c b : Int) : Int := if 2 ≤ c then 0 else if c = 1 then (if w ≤ b then 1 else 0) else b + 1
theorem lawH_eq {w c b : Int} (hc : 0 ≤ c) : lawH w c b = hAb c b w := by
  unfold lawH hAb
  by_cases h2 : 2 ≤ c
  · rw [if_pos h2, if_neg (show ¬ c = 0 by omega), if_neg (show ¬ (c = 1 ∧ b ≥ w) by omega)]
  · rw [if_neg h2]
    by_cases h1 : c = 1
    · rw [if_pos h1, if_neg (show ¬ c = 0 by omega)]
      by_cases hb : w ≤ b
      · rw [if_pos hb, if_pos ⟨h1, hb⟩]
      · rw [if_neg hb, if_neg fun z => hb z.2]
    · rw [if_neg h1, if_pos (show c = 0 by omega)]
theorem gt_zero (w : Int) (ws : List Int) (hw : 0 ≤ w) : gt (LL w ws) 0 = up w ws (some 0) := gt_LL ws (Int.le_refl 0) hw
end Sm

/-! ### telling two stretches apart (plain lists) -/
namespace Sm
open Ch
def zs (k : Int) : List Int := (List.replicate k.toNat [(0 : Int)]).flatten
theorem zs_eq (k : Int) : zs k = List.replicate k.toNat 0 := by
  unfold zs
  induction k.toNat with
  | zero => rfl
  | succ n ih => rw [List.replicate_succ, List.flatten_cons, ih, List.replicate_succ]; rfl
theorem zs_len {k : Int} : (zs k).length = k.toNat := by rw [zs_eq, List.length_replicate]
theorem zs_nn (k : Int) : Nn (zs k) := fun x hx => by
  rw [zs_eq] at hx
  rw [(List.mem_replicate.mp hx).2]
  exact Int.le_refl 0
theorem up_rep {w : Int} : ∀ (k : Nat) {b : Int}, 0 ≤ b → b ≤ w → up w (List.replicate k 0) (some b) = if b + k ≤ w then some (b + k) else none
  | 0, b, h0, h1 => by
    rw [if_pos (by omega)]
    show some b = some (b + ((0 : Nat) : Int))
    rw [Int.natCast_zero, Int.add_zero]
  | k + 1, b, h0, h1 => by
    show kept w 0 (up w (List.replicate k 0) (some b)) = _
    rw [up_rep k h0 h1]
    by_cases h : b + (k : Int) ≤ w
    · rw [if_pos h]
      show (if hAb 0 (b + k) w ≤ w then some (hAb 0 (b + k) w) else none) = _
      have e : hAb 0 (b + k) w = b + ((k + 1 : Nat) : Int) := by
        unfold hAb
        rw [if_pos rfl]
        omega
      rw [e]
    · rw [if_neg h, if_neg (by omega)]
      rfl
theorem up_zs {w b k : Int} (hb : 0 ≤ b) (hw : b ≤ w) (hk : 0 ≤ k) : up w (zs k) (some b) = if b + k ≤ w then some (b + k) else none := by
  have e := up_rep k.toNat hb hw
  rw [zs_eq, e, Int.toNat_of_nonneg hk]
/-- the pages above -/
def abv (w : Int) (l r : Option Int) : List Int :=
  match l, r with
  | some x, some y => zs (w + 1 - max x y)
  | _, _ => []
theorem abv_nn (w : Int) (l r : Option Int) : Nn (abv w l r) := by
  unfold abv
  split
  · exact zs_nn _
  · exact fun x h => nomatch h
theorem abv_len {w : Int} {l r : Option Int} (hw : w ≤ 1000) (hl : ∀ x, l = some x → 0 ≤ x) (hr : ∀ x, r = some x → 0 ≤ x) : (abv w l r).length ≤ 1001 := by
  unfold abv
  split
  · rename_i x y
    have := hl x rfl
    have := hr y rfl
    rw [zs_len]
    omega
  · exact Nat.zero_le _
/-- the law's own test: no height is lost -/
def holds (w : Int) (ws : List Int) : Bool := (up w ws (some 0)).isSome
theorem holds_app {w : Int} (a b c : List Int) : holds w (a ++ b ++ c) = (up w a (up w b (up w c (some 0)))).isSome := by
  unfold holds
  rw [up_app, up_app]
theorem above_parts {w : Int} {l r : Option Int} (hl : ∀ x, l = some x → 0 ≤ x ∧ x ≤ w) (hr : ∀ x, r = some x → 0 ≤ x ∧ x ≤ w) (ne : l ≠ r) : (up w (abv w l r) l).isSome ≠ (up w (abv w l r) r).isSome := by
  cases l with
  | none =>
    cases r with
    | none => exact absurd rfl ne
    | some y =>
      show (up w [] none).isSome ≠ (up w [] (some y)).isSome
      intro h
      cases h
  | some x =>
    cases r with
    | none =>
      show (up w [] (some x)).isSome ≠ (up w [] none).isSome
      intro h
      cases h
    | some y =>
      have hx := hl x rfl
      have hy := hr y rfl
      have nxy : x ≠ y := fun e => ne (by rw [e])
      show (up w (zs (w + 1 - max x y)) (some x)).isSome ≠ (up w (zs (w + 1 - max x y)) (some y)).isSome
      rw [up_zs hx.1 hx.2 (by omega), up_zs hy.1 hy.2 (by omega)]
      by_cases h : x < y
      · rw [if_pos (by omega), if_neg (by omega)]
        intro z
        cases z
      · rw [if_neg (by omega), if_pos (by omega)]
        intro z
        cases z
theorem parts_hold {w h : Int} {a b : List Int} (h0 : 0 ≤ h) (h1 : h ≤ w) (ne : up w a (some h) ≠ up w b (some h)) :
    holds w (abv w (up w a (some h)) (up w b (some h)) ++ a ++ zs h) ≠ holds w (abv w (up w a (some h)) (up w b (some h)) ++ b ++ zs h) := by
  have e : up w (zs h) (some 0) = some h := by
    rw [up_zs (Int.le_refl 0) (by omega) h0, if_pos (by omega), Int.zero_add]
  rw [holds_app, holds_app, e]
  exact above_parts (fun x q => up_rng h0 h1 q) (fun x q => up_rng h0 h1 q) ne
theorem holds_LL {w : Int} (hw : 0 ≤ w) {a b : List Int} (h : LL w a = LL w b) (u v : List Int) : holds w (u ++ a ++ v) = holds w (u ++ b ++ v) := by
  rw [holds_app, holds_app]
  have e : ∀ o : Option Int, (∀ x, o = some x → 0 ≤ x ∧ x ≤ w) → up w a o = up w b o := fun o ho => by
    cases o with
    | none => rw [up_none, up_none]
    | some x =>
      have k := ho x rfl
      rw [← gt_LL a k.1 k.2, ← gt_LL b k.1 k.2, h]
  rw [e _ fun x q => up_rng (Int.le_refl 0) hw q]
end Sm

namespace K29
open PySem PySem.Spec PyProof.Rows L2 Oc Ch Sm
def topS (i : Nat) : Stmt := PySem.Challenge.pw_onecopy_k29_whole_parting.main.body.getD i (.Pass ⟨0, 0, 0, 0⟩)
abbrev s_CopiesDiffer_init : Stmt := inClass (topS 3) 0
abbrev s_height_above : Stmt := topS 5
abbrev s_kept_height : Stmt := topS 6
abbrev s_Stretch_init : Stmt := inClass (topS 7) 0
abbrev s_Stretch_lift : Stmt := inClass (topS 7) 1
abbrev s_Stretch_add : Stmt := inClass (topS 7) 2
abbrev s_Stretch_eq : Stmt := inClass (topS 7) 3
abbrev s_Stretch_is_keepable : Stmt := inClass (topS 7) 4
abbrev s_parting : Stmt := topS 8
abbrev s_pages_above : Stmt := topS 9
abbrev s_law_is_integer : Stmt := topS 11
abbrev s_law_bag : Stmt := topS 12
abbrev s_law_take : Stmt := topS 13
abbrev s_law_copies : Stmt := topS 14
abbrev s_law_page : Stmt := topS 15
abbrev s_law_pages : Stmt := topS 16
abbrev s_law_height : Stmt := topS 17
abbrev s_law_rise : Stmt := topS 18
abbrev s_law_lift : Stmt := topS 19
abbrev s_law_doubled : Stmt := topS 20
abbrev s_law_second : Stmt := topS 21
abbrev s_law_holds : Stmt := topS 22
abbrev s_law_stands : Stmt := topS 23
abbrev s_law_parts : Stmt := topS 24
abbrev s_law_parted : Stmt := topS 25
abbrev s_law_differs : Stmt := topS 26
abbrev s_law : Stmt := topS 27
theorem sc_CopiesDiffer_init : NdefX.NScope ["self", "left", "right", "__class__"] ["self", "left", "right"] ["__class__"] (defScope s_CopiesDiffer_init) := NdefX.nscope_by (by decide +kernel)
theorem sc_height_above : FnScope ["count", "below", "copies"] ["count", "below", "copies"] (defScope s_height_above) := ⟨rfl, rfl, rfl, by decide +kernel, rfl, by decide +kernel, by decide +kernel⟩
theorem sc_kept_height : FnScope ["count", "below", "copies", "height"] ["count", "below", "copies"] (defScope s_kept_height) := ⟨rfl, rfl, rfl, by decide +kernel, rfl, by decide +kernel, by decide +kernel⟩
theorem sc_Stretch_init : FnScope ["self", "blank", "copies", "below", "lifted", "count", "height"] ["self", "blank", "copies", "below"] (defScope s_Stretch_init) := ⟨rfl, rfl, rfl, by decide +kernel, rfl, by decide +kernel, by decide +kernel⟩
theorem sc_Stretch_lift : FnScope ["self"] ["self"] (defScope s_Stretch_lift) := ⟨rfl, rfl, rfl, by decide +kernel, rfl, by decide +kernel, by decide +kernel⟩
theorem sc_Stretch_add : FnScope ["self", "other", "joined", "height"] ["self", "other"] (defScope s_Stretch_add) := ⟨rfl, rfl, rfl, by decide +kernel, rfl, by decide +kernel, by decide +kernel⟩
theorem sc_Stretch_eq : FnScope ["self", "other"] ["self", "other"] (defScope s_Stretch_eq) := ⟨rfl, rfl, rfl, by decide +kernel, rfl, by decide +kernel, by decide +kernel⟩
theorem sc_Stretch_is_keepable : FnScope ["self"] ["self"] (defScope s_Stretch_is_keepable) := ⟨rfl, rfl, rfl, by decide +kernel, rfl, by decide +kernel, by decide +kernel⟩
theorem sc_parting : FnScope ["first", "second", "height", "left", "right"] ["first", "second"] (defScope s_parting) := ⟨rfl, rfl, rfl, by decide +kernel, rfl, by decide +kernel, by decide +kernel⟩
theorem sc_pages_above : FnScope ["left", "right", "copies"] ["left", "right", "copies"] (defScope s_pages_above) := ⟨rfl, rfl, rfl, by decide +kernel, rfl, by decide +kernel, by decide +kernel⟩
theorem sc_law_is_integer : FnScope ["actual"] ["actual"] (defScope s_law_is_integer) := ⟨rfl, rfl, rfl, by decide +kernel, rfl, by decide +kernel, by decide +kernel⟩
theorem sc_law_bag : FnScope ["script", "k", "cell"] ["script", "k"] (defScope s_law_bag) := ⟨rfl, rfl, rfl, by decide +kernel, rfl, by decide +kernel, by decide +kernel⟩
theorem sc_law_take : FnScope ["bag", "size", "digit", "first", "second", "third"] ["bag", "size"] (defScope s_law_take) := ⟨rfl, rfl, rfl, by decide +kernel, rfl, by decide +kernel, by decide +kernel⟩
theorem sc_law_copies : FnScope ["bag"] ["bag"] (defScope s_law_copies) := ⟨rfl, rfl, rfl, by decide +kernel, rfl, by decide +kernel, by decide +kernel⟩
theorem sc_law_page : FnScope ["bag", "way"] ["bag"] (defScope s_law_page) := ⟨rfl, rfl, rfl, by decide +kernel, rfl, by decide +kernel, by decide +kernel⟩
theorem sc_law_pages : FnScope ["bag", "pattern", "place"] ["bag"] (defScope s_law_pages) := ⟨rfl, rfl, rfl, by decide +kernel, rfl, by decide +kernel, by decide +kernel⟩
theorem sc_law_height : FnScope ["count", "below", "copies"] ["count", "below", "copies"] (defScope s_law_height) := ⟨rfl, rfl, rfl, by decide +kernel, rfl, by decide +kernel, by decide +kernel⟩
theorem sc_law_rise : FnScope ["blank", "below", "copies", "height", "count"] ["blank", "below", "copies"] (defScope s_law_rise) := ⟨rfl, rfl, rfl, by decide +kernel, rfl, by decide +kernel, by decide +kernel⟩
theorem sc_law_lift : FnScope ["blank", "copies", "below"] ["blank", "copies"] (defScope s_law_lift) := ⟨rfl, rfl, rfl, by decide +kernel, rfl, by decide +kernel, by decide +kernel⟩
theorem sc_law_doubled : FnScope ["bag", "blank", "following", "count", "place"] ["bag", "blank"] (defScope s_law_doubled) := ⟨rfl, rfl, rfl, by decide +kernel, rfl, by decide +kernel, by decide +kernel⟩
theorem sc_law_second : FnScope ["bag", "blank", "way", "at"] ["bag", "blank"] (defScope s_law_second) := ⟨rfl, rfl, rfl, by decide +kernel, rfl, by decide +kernel, by decide +kernel⟩
theorem sc_law_holds : FnScope ["blank", "copies"] ["blank", "copies"] (defScope s_law_holds) := ⟨rfl, rfl, rfl, by decide +kernel, rfl, by decide +kernel, by decide +kernel⟩
theorem sc_law_stands : FnScope ["made", "blank", "above", "below", "copies", "whole", "answer"] ["made", "blank", "above", "below", "copies"] (defScope s_law_stands) := ⟨rfl, rfl, rfl, by decide +kernel, rfl, by decide +kernel, by decide +kernel⟩
theorem sc_law_parts : FnScope ["told", "first", "second", "copies", "blank", "left", "count"] ["told", "first", "second", "copies"] (defScope s_law_parts) := ⟨rfl, rfl, rfl, by decide +kernel, rfl, by decide +kernel, by decide +kernel⟩
theorem sc_law_parted : FnScope ["one", "two", "first", "second", "copies", "alike", "turn", "told", "above", "below", "answer"] ["one", "two", "first", "second", "copies"] (defScope s_law_parted) := ⟨rfl, rfl, rfl, by decide +kernel, rfl, by decide +kernel, by decide +kernel⟩
theorem sc_law_differs : FnScope ["one", "two", "copies", "other", "raised"] ["one", "two", "copies", "other"] (defScope s_law_differs) := ⟨rfl, rfl, rfl, by decide +kernel, rfl, by decide +kernel, by decide +kernel⟩
theorem sc_law : FnScope ["script", "bag", "copies", "first", "second", "one", "two", "above", "below", "other", "far"] ["script"] (defScope s_law) := ⟨rfl, rfl, rfl, by decide +kernel, rfl, by decide +kernel, by decide +kernel⟩
theorem st_1_0 {N : List Str} {t : TS} {D : Ends} {H : Hp} {a0 : V} (h : N.length = 1) (k : t D [some a0] H) : t D (L2.start N [a0]) H := by
  unfold L2.start
  rw [h]
  exact k
theorem st_1_1 {N : List Str} {t : TS} {D : Ends} {H : Hp} {a0 : V} (h : N.length = 2) (k : t D [some a0, none] H) : t D (L2.start N [a0]) H := by
  unfold L2.start
  rw [h]
  exact k
theorem st_1_2 {N : List Str} {t : TS} {D : Ends} {H : Hp} {a0 : V} (h : N.length = 3) (k : t D [some a0, none, none] H) : t D (L2.start N [a0]) H := by
  unfold L2.start
  rw [h]
  exact k
theorem st_1_10 {N : List Str} {t : TS} {D : Ends} {H : Hp} {a0 : V} (h : N.length = 11) (k : t D [some a0, none, none, none, none, none, none, none, none, none, none] H) : t D (L2.start N [a0]) H := by
  unfold L2.start
  rw [h]
  exact k
theorem st_2_0 {N : List Str} {t : TS} {D : Ends} {H : Hp} {a0 a1 : V} (h : N.length = 2) (k : t D [some a0, some a1] H) : t D (L2.start N [a0, a1]) H := by
  unfold L2.start
  rw [h]
  exact k
theorem st_2_1 {N : List Str} {t : TS} {D : Ends} {H : Hp} {a0 a1 : V} (h : N.length = 3) (k : t D [some a0, some a1, none] H) : t D (L2.start N [a0, a1]) H := by
  unfold L2.start
  rw [h]
  exact k
theorem st_2_2 {N : List Str} {t : TS} {D : Ends} {H : Hp} {a0 a1 : V} (h : N.length = 4) (k : t D [some a0, some a1, none, none] H) : t D (L2.start N [a0, a1]) H := by
  unfold L2.start
  rw [h]
  exact k
theorem st_2_3 {N : List Str} {t : TS} {D : Ends} {H : Hp} {a0 a1 : V} (h : N.length = 5) (k : t D [some a0, some a1, none, none, none] H) : t D (L2.start N [a0, a1]) H := by
  unfold L2.start
  rw [h]
  exact k
theorem st_2_4 {N : List Str} {t : TS} {D : Ends} {H : Hp} {a0 a1 : V} (h : N.length = 6) (k : t D [some a0, some a1, none, none, none, none] H) : t D (L2.start N [a0, a1]) H := by
  unfold L2.start
  rw [h]
  exact k
theorem st_3_0 {N : List Str} {t : TS} {D : Ends} {H : Hp} {a0 a1 a2 : V} (h : N.length = 3) (k : t D [some a0, some a1, some a2] H) : t D (L2.start N [a0, a1, a2]) H := by
  unfold L2.start
  rw [h]
  exact k
theorem st_3_1 {N : List Str} {t : TS} {D : Ends} {H : Hp} {a0 a1 a2 : V} (h : N.length = 4) (k : t D [some a0, some a1, some a2, none] H) : t D (L2.start N [a0, a1, a2]) H := by
  unfold L2.start
  rw [h]
  exact k
theorem st_3_2 {N : List Str} {t : TS} {D : Ends} {H : Hp} {a0 a1 a2 : V} (h : N.length = 5) (k : t D [some a0, some a1, some a2, none, none] H) : t D (L2.start N [a0, a1, a2]) H := by
  unfold L2.start
  rw [h]
  exact k
theorem st_4_1 {N : List Str} {t : TS} {D : Ends} {H : Hp} {a0 a1 a2 a3 : V} (h : N.length = 5) (k : t D [some a0, some a1, some a2, some a3, none] H) : t D (L2.start N [a0, a1, a2, a3]) H := by
  unfold L2.start
  rw [h]
  exact k
theorem st_4_3 {N : List Str} {t : TS} {D : Ends} {H : Hp} {a0 a1 a2 a3 : V} (h : N.length = 7) (k : t D [some a0, some a1, some a2, some a3, none, none, none] H) : t D (L2.start N [a0, a1, a2, a3]) H := by
  unfold L2.start
  rw [h]
  exact k
theorem st_5_2 {N : List Str} {t : TS} {D : Ends} {H : Hp} {a0 a1 a2 a3 a4 : V} (h : N.length = 7) (k : t D [some a0, some a1, some a2, some a3, some a4, none, none] H) : t D (L2.start N [a0, a1, a2, a3, a4]) H := by
  unfold L2.start
  rw [h]
  exact k
theorem st_5_6 {N : List Str} {t : TS} {D : Ends} {H : Hp} {a0 a1 a2 a3 a4 : V} (h : N.length = 11) (k : t D [some a0, some a1, some a2, some a3, some a4, none, none, none, none, none, none] H) : t D (L2.start N [a0, a1, a2, a3, a4]) H := by
  unfold L2.start
  rw [h]
  exact k
structure Txt (P : Program) (K : PySem.W.Frag) (mg : Str → Option Value) where
  c_OnecopyError : Addr
  gc_OnecopyError : mg "OnecopyError" = some (.ref c_OnecopyError)
  c_LotError : Addr
  gc_LotError : mg "LotError" = some (.ref c_LotError)
  c_CopiesDiffer : Addr
  gc_CopiesDiffer : mg "CopiesDiffer" = some (.ref c_CopiesDiffer)
  c_Stretch : Addr
  gc_Stretch : mg "Stretch" = some (.ref c_Stretch)
  f_CopiesDiffer_init : Addr
  fd_CopiesDiffer_init : FuncData
  X_CopiesDiffer_init : XFun P K mg "__init__" "CopiesDiffer.__init__" s_CopiesDiffer_init f_CopiesDiffer_init fd_CopiesDiffer_init c_CopiesDiffer
  b_CopiesDiffer_init : Binds K fd_CopiesDiffer_init ["self", "left", "right"] []
  f_height_above : Addr
  fd_height_above : FuncData
  F_height_above : Fun K "height_above" "height_above" s_height_above f_height_above fd_height_above
  g_height_above : mg "height_above" = some (.ref f_height_above)
  b_height_above : Binds K fd_height_above ["count", "below", "copies"] []
  f_kept_height : Addr
  fd_kept_height : FuncData
  F_kept_height : Fun K "_kept_height" "_kept_height" s_kept_height f_kept_height fd_kept_height
  g_kept_height : mg "_kept_height" = some (.ref f_kept_height)
  b_kept_height : Binds K fd_kept_height ["count", "below", "copies"] []
  f_Stretch_init : Addr
  fd_Stretch_init : FuncData
  F_Stretch_init : Fun K "__init__" "Stretch.__init__" s_Stretch_init f_Stretch_init fd_Stretch_init
  ds_Stretch_init : List Value
  vd_Stretch_init : Vals [.non] ds_Stretch_init
  b_Stretch_init : Binds K fd_Stretch_init ["self", "blank", "copies", "below"] ds_Stretch_init
  kb_Stretch_init_below : KBn K fd_Stretch_init ["self", "blank", "copies", "below"] 3 ["below"] (fun us ws => us ++ ws) (fun vs zs => vs ++ zs)
  f_Stretch_lift : Addr
  fd_Stretch_lift : FuncData
  F_Stretch_lift : Fun K "lift" "Stretch.lift" s_Stretch_lift f_Stretch_lift fd_Stretch_lift
  b_Stretch_lift : Binds K fd_Stretch_lift ["self"] []
  f_Stretch_add : Addr
  fd_Stretch_add : FuncData
  F_Stretch_add : Fun K "__add__" "Stretch.__add__" s_Stretch_add f_Stretch_add fd_Stretch_add
  b_Stretch_add : Binds K fd_Stretch_add ["self", "other"] []
  f_Stretch_eq : Addr
  fd_Stretch_eq : FuncData
  F_Stretch_eq : Fun K "__eq__" "Stretch.__eq__" s_Stretch_eq f_Stretch_eq fd_Stretch_eq
  b_Stretch_eq : Binds K fd_Stretch_eq ["self", "other"] []
  f_Stretch_is_keepable : Addr
  fd_Stretch_is_keepable : FuncData
  F_Stretch_is_keepable : Fun K "is_keepable" "Stretch.is_keepable" s_Stretch_is_keepable f_Stretch_is_keepable fd_Stretch_is_keepable
  b_Stretch_is_keepable : Binds K fd_Stretch_is_keepable ["self"] []
  f_parting : Addr
  fd_parting : FuncData
  F_parting : Fun K "parting" "parting" s_parting f_parting fd_parting
  g_parting : mg "parting" = some (.ref f_parting)
  b_parting : Binds K fd_parting ["first", "second"] []
  f_pages_above : Addr
  fd_pages_above : FuncData
  F_pages_above : Fun K "_pages_above" "_pages_above" s_pages_above f_pages_above fd_pages_above
  g_pages_above : mg "_pages_above" = some (.ref f_pages_above)
  b_pages_above : Binds K fd_pages_above ["left", "right", "copies"] []
  f_law_is_integer : Addr
  fd_law_is_integer : FuncData
  F_law_is_integer : Fun K "_law_is_integer" "_law_is_integer" s_law_is_integer f_law_is_integer fd_law_is_integer
  g_law_is_integer : mg "_law_is_integer" = some (.ref f_law_is_integer)
  b_law_is_integer : Binds K fd_law_is_integer ["actual"] []
  f_law_bag : Addr
  fd_law_bag : FuncData
  F_law_bag : Fun K "_law_bag" "_law_bag" s_law_bag f_law_bag fd_law_bag
  g_law_bag : mg "_law_bag" = some (.ref f_law_bag)
  b_law_bag : Binds K fd_law_bag ["script", "k"] []
  f_law_take : Addr
  fd_law_take : FuncData
  F_law_take : Fun K "_law_take" "_law_take" s_law_take f_law_take fd_law_take
  g_law_take : mg "_law_take" = some (.ref f_law_take)
  b_law_take : Binds K fd_law_take ["bag", "size"] []
  f_law_copies : Addr
  fd_law_copies : FuncData
  F_law_copies : Fun K "_law_copies" "_law_copies" s_law_copies f_law_copies fd_law_copies
  g_law_copies : mg "_law_copies" = some (.ref f_law_copies)
  b_law_copies : Binds K fd_law_copies ["bag"] []
  f_law_page : Addr
  fd_law_page : FuncData
  F_law_page : Fun K "_law_page" "_law_page" s_law_page f_law_page fd_law_page
  g_law_page : mg "_law_page" = some (.ref f_law_page)
  b_law_page : Binds K fd_law_page ["bag"] []
  f_law_pages : Addr
  fd_law_pages : FuncData
  F_law_pages : Fun K "_law_pages" "_law_pages" s_law_pages f_law_pages fd_law_pages
  g_law_pages : mg "_law_pages" = some (.ref f_law_pages)
  b_law_pages : Binds K fd_law_pages ["bag"] []
  f_law_height : Addr
  fd_law_height : FuncData
  F_law_height : Fun K "_law_height" "_law_height" s_law_height f_law_height fd_law_height
  g_law_height : mg "_law_height" = some (.ref f_law_height)
  b_law_height : Binds K fd_law_height ["count", "below", "copies"] []
  f_law_rise : Addr
  fd_law_rise : FuncData
  F_law_rise : Fun K "_law_rise" "_law_rise" s_law_rise f_law_rise fd_law_rise
  g_law_rise : mg "_law_rise" = some (.ref f_law_rise)
  b_law_rise : Binds K fd_law_rise ["blank", "below", "copies"] []
  f_law_lift : Addr
  fd_law_lift : FuncData
  F_law_lift : Fun K "_law_lift" "_law_lift" s_law_lift f_law_lift fd_law_lift
  g_law_lift : mg "_law_lift" = some (.ref f_law_lift)
  b_law_lift : Binds K fd_law_lift ["blank", "copies"] []
  f_law_doubled : Addr
  fd_law_doubled : FuncData
  F_law_doubled : Fun K "_law_doubled" "_law_doubled" s_law_doubled f_law_doubled fd_law_doubled
  g_law_doubled : mg "_law_doubled" = some (.ref f_law_doubled)
  b_law_doubled : Binds K fd_law_doubled ["bag", "blank"] []
  f_law_second : Addr
  fd_law_second : FuncData
  F_law_second : Fun K "_law_second" "_law_second" s_law_second f_law_second fd_law_second
  g_law_second : mg "_law_second" = some (.ref f_law_second)
  b_law_second : Binds K fd_law_second ["bag", "blank"] []
  f_law_holds : Addr
  fd_law_holds : FuncData
  F_law_holds : Fun K "_law_holds" "_law_holds" s_law_holds f_law_holds fd_law_holds
  g_law_holds : mg "_law_holds" = some (.ref f_law_holds)
  b_law_holds : Binds K fd_law_holds ["blank", "copies"] []
  f_law_stands : Addr
  fd_law_stands : FuncData
  F_law_stands : Fun K "_law_stands" "_law_stands" s_law_stands f_law_stands fd_law_stands
  g_law_stands : mg "_law_stands" = some (.ref f_law_stands)
  b_law_stands : Binds K fd_law_stands ["made", "blank", "above", "below", "copies"] []
  f_law_parts : Addr
  fd_law_parts : FuncData
  F_law_parts : Fun K "_law_parts" "_law_parts" s_law_parts f_law_parts fd_law_parts
  g_law_parts : mg "_law_parts" = some (.ref f_law_parts)
  b_law_parts : Binds K fd_law_parts ["told", "first", "second", "copies"] []
  f_law_parted : Addr
  fd_law_parted : FuncData
  F_law_parted : Fun K "_law_parted" "_law_parted" s_law_parted f_law_parted fd_law_parted
  g_law_parted : mg "_law_parted" = some (.ref f_law_parted)
  b_law_parted : Binds K fd_law_parted ["one", "two", "first", "second", "copies"] []
  f_law_differs : Addr
  fd_law_differs : FuncData
  F_law_differs : Fun K "_law_differs" "_law_differs" s_law_differs f_law_differs fd_law_differs
  g_law_differs : mg "_law_differs" = some (.ref f_law_differs)
  b_law_differs : Binds K fd_law_differs ["one", "two", "copies", "other"] []
  f_law : Addr
  fd_law : FuncData
  F_law : Fun K "law" "law" s_law f_law fd_law
  g_law : mg "law" = some (.ref f_law)
  b_law : Binds K fd_law ["script"] []
  ox_CopiesDiffer : OexC K c_CopiesDiffer
  su_CopiesDiffer : SupC K c_CopiesDiffer c_CopiesDiffer
  ix_CopiesDiffer : PySem.W.findIn K (.ref c_CopiesDiffer) "__init__" = some (some (.ref f_CopiesDiffer_init))
  ti_CopiesDiffer : PySem.W.typeIn K (.ref f_CopiesDiffer_init) = some (.type "function")
  xf_CopiesDiffer : XfC K c_CopiesDiffer
  xc_CopiesDiffer : ExcC K c_CopiesDiffer
  te_CopiesDiffer : PySem.W.exmOne K (.ref c_CopiesDiffer) (.ref c_CopiesDiffer) = some true
  nx_CopiesDiffer_left : PySem.W.findIn K (.ref c_CopiesDiffer) "left" = some none
  nx_CopiesDiffer_right : PySem.W.findIn K (.ref c_CopiesDiffer) "right" = some none
  cl_Stretch : Cls K c_Stretch
  mk_Stretch : Mk K c_Stretch f_Stretch_init
  is_Stretch : C8.InsC K c_Stretch
  n_Stretch_copies : NoAttr K c_Stretch "copies"
  n_Stretch__lift : NoAttr K c_Stretch "_lift"
  sf_Stretch : PySem.W.selfFirst K c_Stretch = true
  me_Stretch_lift : Meth K c_Stretch "lift" f_Stretch_lift
  fa_Stretch_add : PySem.W.findIn K (.ref c_Stretch) "__add__" = some (some (.ref f_Stretch_add))
  ia_Stretch_add : PySem.W.isFn K (.ref f_Stretch_add) = true
  fa_Stretch_eq : PySem.W.findIn K (.ref c_Stretch) "__eq__" = some (some (.ref f_Stretch_eq))
  ia_Stretch_eq : PySem.W.isFn K (.ref f_Stretch_eq) = true
  me_Stretch_is_keepable : Meth K c_Stretch "is_keepable" f_Stretch_is_keepable
  ki_CopiesDiffer_LotError : PySem.W.kitOne K (.ref c_CopiesDiffer) (.ref c_LotError) = some false
  ki_CopiesDiffer_OnecopyError : PySem.W.kitOne K (.ref c_CopiesDiffer) (.ref c_OnecopyError) = some true
  ki_CopiesDiffer_ValueError : PySem.W.kitOne K (.ref c_CopiesDiffer) (.type "ValueError") = some true
  z_ValueError : mg "ValueError" = none
  z_abs : mg "abs" = none
  z_all : mg "all" = none
  z_any : mg "any" = none
  z_bool : mg "bool" = none
  z_enumerate : mg "enumerate" = none
  z_int : mg "int" = none
  z_isinstance : mg "isinstance" = none
  z_len : mg "len" = none
  z_list : mg "list" = none
  z_max : mg "max" = none
  z_range : mg "range" = none
  z_tuple : mg "tuple" = none
  z_zip : mg "zip" = none
section
variable {P : Program} {w : World} {K : PySem.W.Frag} {mg : Str → Option Value} {base : Heap}
set_option maxHeartbeats 4000000
/-! ### the law's draws: a bag of four numbers -/
structure bag (p : Addr) (h : Hp) : Prop where
  ex : ∃ x : Int × Int × Int × Int, St h [pto p (.lst [.int x.1, .int x.2.1, .int x.2.2.1, .int x.2.2.2])]
theorem gB {H : Hp} {a : Addr} {L : List Asr} (h : Sts H (bag a :: L)) : Sts H (bag a :: L) := h
theorem bag_mk {p : Addr} {c s n k : Int} {L : List Asr} {H : Hp} (S : Sts H (pto p (.lst [.int c, .int s, .int n, .int k]) :: L)) : Sts H (bag p :: L) := Sts.cls (M := [_]) S fun h a => ⟨⟨(c, s, n, k), a⟩⟩
theorem bag_open {p : Addr} {L : List Asr} {H : Hp} (S : Sts H (bag p :: L)) : ∃ c s n k : Int, Sts H (pto p (.lst [.int c, .int s, .int n, .int k]) :: L) := by
  obtain ⟨⟨c, s, n, k⟩, S⟩ := S.opn (f := fun x : Int × Int × Int × Int => [pto p (.lst [.int x.1, .int x.2.1, .int x.2.2.1, .int x.2.2.2])]) (fun h a => a.ex) (fun x τ h => by simp at h)
  exact ⟨c, s, n, k, S⟩
def spBag (K : PySem.W.Frag) : Sp := fun vs H Q _ => ∃ (a : Addr) (ns : List Int) (k : Int) (F : List Asr), vs = [.ref a, .int k] ∧ 0 ≤ k ∧ Sts H (sqc K a (ns.map V.int) :: F) ∧ ∀ (p : Addr) (H' : Hp), Sts H' (bag p :: sqc K a (ns.map V.int) :: F) → Q (.ref p) H'
theorem ok_law_bag (T : Txt P K mg) : FnOk P w K mg base CX0 1 T.f_law_bag T.fd_law_bag ["script", "k"] (spBag K) := by
  refine T.F_law_bag.ok sc_law_bag (fun vs H Q E h => by obtain ⟨a, ns, k, F, rfl, _⟩ := h; rfl) (fun cdv A outer s H vs Q E hr h => ?_)
  obtain ⟨a, ns, k, F, rfl, hk, S, q⟩ := h
  refine ⟨_, (pss_cons (ps_set (i := 2) sc_law_bag.nd rfl (Or.inl rfl) (pe_op op_add pe_int (pe_op op_mul pe_int (pv 1))))
      (oc_cut (ps_if (pt_cmpR op_lt (pv 1) (pe_callB (v_lenI (K := K) rfl) (by rfl) T.z_len PySem.boot_len (pa_cons (pv 0) pa_nil)) (nomark _))
      (pss_one (ps_set (i := 2) sc_law_bag.nd rfl (Or.inl rfl) (pe_ix (v_ixI (K := K) rfl) (pv 0) (pv 1) (fun _ _ => rfl))))
      (pss_one (ps_if (v_truth (K := K) rfl (pv 0) (by intro _; rfl))
      (pss_one (ps_set (i := 2) sc_law_bag.nd rfl (Or.inl rfl) (pe_op op_add (pv 2) (pe_op op_mod (pe_callTy v_intI (by rfl) T.z_int PyProof.Rows.boot_int (pa_cons (pe_op op_mul (pe_ix (v_ixI (K := K) rfl) (pv 0) pe_int (fun _ _ => rfl)) pe_int) pa_nil)) pe_int))))
      pss_nil)))
      (pss_cons (ps_if (pt_cmpR op_ge (pe_callB v_abs (by rfl) T.z_abs PyProof.Rows.boot_abs (pa_cons (pv 2) pa_nil)) (pe_op (v_powc 10 18 1000000000000000000 ⟨by decide, by decide, by decide⟩ (by decide +kernel)) pe_int pe_int) (nomark _))
      (pss_one (ps_ret (pe_lst (pa_cons (pe_callB v_abs (by rfl) T.z_abs PyProof.Rows.boot_abs (pa_cons (pv 2) pa_nil)) (pa_cons (pv 2) (pa_cons pe_int (pa_cons (pv 1) pa_nil)))))))
      pss_nil)
      (pss_one (ps_ret (pe_lst (pa_cons pe_int (pa_cons (pv 2) (pa_cons pe_int (pa_cons (pv 1) pa_nil)))))))))), st_2_1 rfl ?_⟩
  fail "go"
  refine ⟨fun σ H => ∃ c : Int, σ = [some (.ref a), some (.int k), some (.int c)] ∧ Sts H (sqc K a (ns.map V.int) :: F), ?_, ?_⟩
  · fail "go"
    with_reducible refine ifB (fun c => ?_) (fun c => ?_)
    · have c := odt c
      fail "go"
      exact ⟨_, rfl, S⟩
    · fail "go"
      with_reducible refine ifB (fun d => ?_) (fun d => ?_)
      · have d := isE_pos d
        fail "go"
        exact ⟨_, rfl, S⟩
      · fail "go"
        exact ⟨_, rfl, S⟩
  rintro σ H ⟨c, rfl, S⟩
  fail "go"
  with_reducible refine ifB (fun d => ?_) (fun d => ?_)
  · fail "go"
    exact q _ _ (bag_mk (by fail "fp"))
  · fail "go"
    exact q _ _ (bag_mk (by fail "fp"))
def spTake : Sp := fun vs H Q _ => ∃ (p : Addr) (m : Int) (F : List Asr), vs = [.ref p, .int m] ∧ (0 < m ∧ m < 1073741824) ∧ Sts H (bag p :: F) ∧ ∀ (d : Int) (H' : Hp), 0 ≤ d → d < m → Sts H' (bag p :: F) → Q (.int d) H'
theorem ok_law_take (T : Txt P K mg) : FnOk P w K mg base CX0 1 T.f_law_take T.fd_law_take ["bag", "size"] spTake := by
  refine T.F_law_take.ok sc_law_take (fun vs H Q E h => by obtain ⟨a, ns, F, rfl, _⟩ := h; rfl) (fun cdv A outer s H vs Q E hr h => ?_)
  obtain ⟨p, m, F, rfl, hm, S, q⟩ := h
  obtain ⟨c, s, n, k, S⟩ := bag_open S
  refine ⟨_, (pss_cons (ps_asg (pe_op op_add (pe_ix (v_ix (K := K) rfl) (pv 0) pe_int (fun _ _ => rfl)) pe_int) (pg_sub (pv 0) pe_int v_setL))
      (pss_cons (ps_if (pt_cmpR op_gt (pe_ix (v_ix (K := K) rfl) (pv 0) pe_int (fun _ _ => rfl)) pe_int (nomark _))
      (pss_cons (ps_set (i := 2) sc_law_take.nd rfl (Or.inl rfl) (pe_op op_mod (pe_callTy v_intI (by rfl) T.z_int PyProof.Rows.boot_int (pa_cons (pe_ix (v_ix (K := K) rfl) (pv 0) pe_int (fun _ _ => rfl)) pa_nil)) (pv 1)))
      (pss_cons (ps_asg (pe_op op_fdiv (pe_ix (v_ix (K := K) rfl) (pv 0) pe_int (fun _ _ => rfl)) (pv 1)) (pg_sub (pv 0) pe_int v_setL))
      (pss_one (ps_ret (pv 2)))))
      pss_nil)
      (pss_cons (ps_set (i := 3) sc_law_take.nd rfl (Or.inl rfl) (pe_op op_mod (pe_callTy v_intI (by rfl) T.z_int PyProof.Rows.boot_int (pa_cons (pe_op op_add (pe_op op_add (pe_op op_add (pe_op op_mul (pe_ix (v_ix (K := K) rfl) (pv 0) pe_int (fun _ _ => rfl)) pe_int) (pe_op op_mul (pe_ix (v_ix (K := K) rfl) (pv 0) pe_int (fun _ _ => rfl)) pe_int)) (pe_op op_mul (pe_ix (v_ix (K := K) rfl) (pv 0) pe_int (fun _ _ => rfl)) pe_int)) pe_int) pa_nil)) pe_int))
      (pss_cons (ps_set (i := 4) sc_law_take.nd rfl (Or.inl rfl) (pe_op op_mod (pe_callTy v_intI (by rfl) T.z_int PyProof.Rows.boot_int (pa_cons (pe_op op_add (pe_op op_add (pe_op op_mul (pv 3) (pv 3)) (pe_op op_mul (pe_ix (v_ix (K := K) rfl) (pv 0) pe_int (fun _ _ => rfl)) pe_int)) (pe_ix (v_ix (K := K) rfl) (pv 0) pe_int (fun _ _ => rfl))) pa_nil)) pe_int))
      (pss_cons (ps_set (i := 5) sc_law_take.nd rfl (Or.inl rfl) (pe_op op_mod (pe_callTy v_intI (by rfl) T.z_int PyProof.Rows.boot_int (pa_cons (pe_op op_add (pe_op op_mul (pv 4) (pv 4)) (pv 3)) pa_nil)) pe_int))
      (pss_one (ps_ret (pe_op op_mod (pe_op op_fdiv (pv 5) pe_int) (pv 1))))))))), st_2_4 rfl ?_⟩
  fail "go"
  with_reducible refine ifB (fun c => ?_) (fun c => ?_)
  · fail "go"
    exact q _ _ (Int.emod_nonneg _ (by omega)) (Int.emod_lt_of_pos _ hm.1) (bag_mk (by fail "fp"))
  · fail "go"
    exact q _ _ (Int.emod_nonneg _ (by omega)) (Int.emod_lt_of_pos _ hm.1) (bag_mk (by fail "fp"))
local macro_rules | `(tactic| fail "gs") => `(tactic| ((with_reducible show K29.spTake _ _ _ _); refine ⟨_, _, _, rfl, Oc.pr (by fail "side"), K29.gB (by fail "fr1"), fun (od : Int) (oh : L2.Hp) o0 o1 os => ?_⟩))
local macro_rules | `(tactic| fail "gs") => `(tactic| ((with_reducible show K29.spBag _ _ _ _ _); refine ⟨_, _, _, _, rfl, Oc.pr (by fail "side"), Oc.gQ (by fail "fr1"), fun (op : PySem.Addr) (oh : L2.Hp) os => ?_⟩))

/-! ### the chain's program -/
def spHA : Sp := fun vs H Q _ => ∃ c b w : Int, vs = [.int c, .int b, .int w] ∧ Q (.int (hAb c b w)) H
theorem ok_height_above (T : Txt P K mg) : FnOk P w K mg base CX0 1 T.f_height_above T.fd_height_above ["count", "below", "copies"] spHA := by
  refine T.F_height_above.ok sc_height_above (fun vs H Q E h => by obtain ⟨c, b, w, rfl, _⟩ := h; rfl) (fun cdv A outer s H vs Q E hr h => ?_)
  obtain ⟨c, b, w, rfl, q⟩ := h
  refine ⟨_, (pss_cons (ps_if (pt_cmpR op_eq (pv 0) pe_int (nomark _))
      (pss_one (ps_ret (pe_op op_add (pv 1) pe_int)))
      pss_nil)
      (pss_cons (ps_if (PW.pt (pw_and (pt_cmpR op_eq (pv 0) pe_int (nomark _)) (pw_and1 (pt_cmpR op_ge (pv 1) (pv 2) (nomark _)))))
      (pss_one (ps_ret pe_int))
      pss_nil)
      (pss_one (ps_ret pe_int)))), st_3_0 rfl ?_⟩
  unfold hAb at q
  fail "go"
  with_reducible refine ifB (fun h => ?_) (fun h => ?_)
  · rw [if_pos (odt h)] at q
    fail "go"
    exact q
  · rw [if_neg (odf h)] at q
    fail "go"
    with_reducible refine ifB (fun h1 => ?_) (fun h1 => ?_)
    · fail "go"
      with_reducible refine ifB (fun h2 => ?_) (fun h2 => ?_)
      · rw [if_pos ⟨odt h1, odt h2⟩] at q
        fail "go"
        exact q
      · rw [if_neg fun e => odf h2 e.2] at q
        fail "go"
        exact q
    · rw [if_neg fun e => odf h1 e.1] at q
      fail "go"
      exact q
local macro_rules | `(tactic| fail "gs") => `(tactic| ((with_reducible show K29.spHA _ _ _ _); refine ⟨_, _, _, rfl, ?_⟩))

/-! ### the program: Stretch -/
def spKept : Sp := fun vs H Q _ => ∃ (c w : Int) (b : Option Int), vs = [.int c, ov b, .int w] ∧ Q (ov (kept w c b)) H
theorem ok_kept_height (T : Txt P K mg) : FnOk P w K mg base CX0 2 T.f_kept_height T.fd_kept_height ["count", "below", "copies"] spKept := by
  refine T.F_kept_height.ok sc_kept_height (fun vs H Q E h => by obtain ⟨c, w, b, rfl, _⟩ := h; rfl) (fun cdv A outer s H vs Q E hr h => ?_)
  obtain ⟨c, w, b, rfl, q⟩ := h
  refine ⟨_, (pss_cons (ps_if (pt_cmpR v_isN (pv 1) pe_non (nomark _))
      (pss_one (ps_ret pe_non))
      pss_nil)
      (pss_cons (ps_set (i := 3) sc_kept_height.nd rfl (Or.inl rfl) (v_call (ok_height_above T) (hr.mono (by decide)) (by rfl) T.g_height_above T.F_height_above.kp T.b_height_above (pa_cons (pv 0) (pa_cons (pv 1) (pa_cons (pv 2) pa_nil)))))
      (pss_one (ps_ret (pe_ifExp (pt_cmpR op_le (pv 3) (pv 2) (nomark _)) (pv 3) pe_non))))), st_3_1 rfl ?_⟩
  cases b with
  | none =>
    fail "go"
    refine ifT rfl ?_
    fail "go"
    exact q
  | some b =>
    have q : Q (ov (if hAb c b w ≤ w then some (hAb c b w) else none)) H := q
    fail "go"
    refine ifF rfl ?_
    fail "go"
    with_reducible refine ifB (fun h => ?_) (fun h => ?_)
    · rw [if_pos (odt h)] at q
      fail "go"
      exact q
    · rw [if_neg (odf h)] at q
      fail "go"
      exact q
/-- a Stretch: copies w, the lift ls -/
structure stc (cS p : Addr) (w : Int) (ls : List (Option Int)) (h : Hp) : Prop where
  ex : ∃ x : Addr × Addr, St h [pto p (.ins cS x.1 [("copies", .int w), ("_lift", .ref x.2)]), pto x.1 (.own p), pto x.2 (.lst (ls.map ov))]
theorem stc_open {cS p : Addr} {w : Int} {ls : List (Option Int)} {L : List Asr} {H : Hp} (S : Sts H (stc cS p w ls :: L)) : ∃ dx l, Sts H (pto p (.ins cS dx [("copies", .int w), ("_lift", .ref l)]) :: pto dx (.own p) :: pto l (.lst (ls.map ov)) :: L) := by
  obtain ⟨⟨dx, l⟩, S⟩ := S.opn (f := fun x : Addr × Addr => [pto p (.ins cS x.1 [("copies", .int w), ("_lift", .ref x.2)]), pto x.1 (.own p), pto x.2 (.lst (ls.map ov))]) (fun h a => a.ex) (fun x τ h => by simp at h)
  exact ⟨dx, l, S⟩
theorem stc_close {cS p dx l : Addr} {w : Int} {ls : List (Option Int)} {L : List Asr} {H : Hp} (S : Sts H (pto p (.ins cS dx [("copies", .int w), ("_lift", .ref l)]) :: pto dx (.own p) :: pto l (.lst (ls.map ov)) :: L)) : Sts H (stc cS p w ls :: L) :=
  Sts.cls (M := [_, _, _]) S fun h a => ⟨⟨(dx, l), a⟩⟩
theorem stc_ins {cS p : Addr} {w : Int} {ls : List (Option Int)} {L : List Asr} {H : Hp} (S : Sts H (stc cS p w ls :: L)) : ∃ dx fs, H p = some (.ins cS dx fs) := by
  obtain ⟨dx, l, S⟩ := stc_open S
  exact ⟨_, _, S.hd⟩
theorem stc_is {cS p : Addr} {w : Int} {ls : List (Option Int)} {L : List Asr} {H : Hp} {m : Str} (S : Sts H (stc cS p w ls :: L)) (h : ∀ l : Addr, ([("copies", V.int w), ("_lift", .ref l)] : List (Str × V)).lookup m = none) : IsIns cS m H p := by
  obtain ⟨dx, l, S⟩ := stc_open S
  exact ⟨_, _, S.hd, h l⟩
theorem stc_copies {cS p : Addr} {w : Int} {ls : List (Option Int)} {L : List Asr} {H : Hp} (S : Sts H (stc cS p w ls :: L)) : FldAt cS "copies" H p (.int w) := by
  obtain ⟨dx, l, S⟩ := stc_open S
  exact ⟨_, _, S.hd, rfl⟩
local macro_rules | `(tactic| fail "fld") => `(tactic| exact K29.stc_copies (by fail "fr1"))
theorem map_ov_some (n : Nat) (lo : Int) : ((List.range n).map fun (i : Nat) => V.int (lo + (i : Int))) = ((List.range n).map fun (i : Nat) => (some (lo + (i : Int)) : Option Int)).map ov := by
  rw [List.map_map]
  rfl
theorem rg_LL (w : Int) : rgV 0 (w + 1) = (LL w []).map ov := by
  unfold rgV LL
  rw [List.map_map, Int.sub_zero]
  refine List.map_congr_left fun i _ => ?_
  show V.int (0 + (i : Int)) = V.int (i : Int)
  rw [Int.zero_add]
def spInitG (K : PySem.W.Frag) (cS : Addr) : Sp := fun vs H Q _ => ∃ (p dx a : Addr) (w : Int) (ws : List Int) (bv : V) (bs : List (Option Int)) (F : List Asr), vs = [.ref p, .ref a, .int w, bv] ∧ (0 ≤ w ∧ w ≤ 1000 ∧ ws.length ≤ 10000 ∧ bs.length ≤ 10000) ∧
  ((bv = .non ∧ bs = LL w []) ∨ ∃ b, bv = .ref b ∧ ∀ H, Sts H F → SqL K H b (bs.map ov)) ∧ Sts H (pto p (.ins cS dx []) :: pto dx (.own p) :: pto a (.lst (ws.map V.int)) :: F) ∧
  ∀ H', Sts H' (stc cS p w (bs.map (up w ws)) :: pto a (.lst (ws.map V.int)) :: F) → Q .non H'
local macro_rules | `(tactic| fail "gs") => `(tactic| ((with_reducible show K29.spKept _ _ _ _); refine ⟨_, _, _, rfl, ?_⟩))
theorem ok_Stretch_initG (T : Txt P K mg) : FnOk P w K mg base CX0 3 T.f_Stretch_init T.fd_Stretch_init ["self", "blank", "copies", "below"] (spInitG K T.c_Stretch) := by
  refine T.F_Stretch_init.ok sc_Stretch_init (fun vs H Q E h => by obtain ⟨p, dx, a, w, ws, bv, bs, F, rfl, _⟩ := h; rfl) (fun cdv A outer s H vs Q E hr h => ?_)
  obtain ⟨p, dx, a, w, ws, bv, bs, F, rfl, ⟨hw0, hw1, hl, hbl⟩, hb, S, q⟩ := h
  refine ⟨_, (pss_cons (oc_fldset T.cl_Stretch T.n_Stretch_copies (pv 0) (pv 2))
      (oc_cut (ps_set (i := 4) sc_Stretch_init.nd rfl (Or.inl rfl) (pe_ifExp (pt_cmpR v_isN (pv 3) pe_non (nomark _)) (pe_listRg rfl rfl T.z_list (prg_1 rfl T.z_range (pe_op op_add (pv 2) pe_int))) (pe_callTy (v_list (K := K) rfl) (by rfl) T.z_list PyProof.Rows.boot_list (pa_cons (pv 3) pa_nil))))
      (pss_cons (ps_for PassesOwn.never rfl (pi_list (pe_revL (pv 1))) (pg_name (i := 5) sc_Stretch_init.nd rfl (Or.inr rfl))
      (pss_one (ps_setLc (i := 4) (own := [("height", 6)]) (g := gName 6) (tt := tYes) rfl sc_Stretch_init.nd rfl rfl (sw_true rfl rfl rfl (by decide +kernel)) (pi_list (pv 4)) (blkOk_by (own := [("height", 6)]) (N := ["self", "blank", "copies", "below", "lifted", "count", "height"]) (sc := defScope s_Stretch_init) (by decide +kernel)) (fun _ _ _ _ _ => (pg_name (i := 6) sc_Stretch_init.nd rfl (Or.inl rfl))) (fun _ _ _ _ _ => pts_nil) (fun _ _ _ _ _ => (v_call (ok_kept_height T) (hr.mono (by decide)) (by rfl) T.g_kept_height T.F_kept_height.kp T.b_kept_height (pa_cons (pv 5) (pa_cons (pv 6) (pa_cons (pv 2) pa_nil))))))))
      (pss_one (oc_fldset T.cl_Stretch T.n_Stretch__lift (pv 0) (pv 4)))))), st_4_3 rfl ?_⟩
  fail "go"
  rename_i H1 S1
  refine ⟨fun σ H => ∃ l, σ = [some (.ref p), some (.ref a), some (.int w), some bv, some (.ref l), none, none] ∧ Sts H (pto l (.lst (bs.map ov)) :: pto p (.ins T.c_Stretch dx [("copies", .int w)]) :: pto dx (.own p) :: pto a (.lst (ws.map V.int)) :: F), ?_, ?_⟩
  · rcases hb with ⟨rfl, rfl⟩ | ⟨b, rfl, hb⟩
    · fail "go"
      rename_i l2 H2 S2
      rw [← rgV_I, rg_LL] at S2
      exact ⟨_, rfl, by fail "fp"⟩
    · fail "go"
      refine g_list (hb _ (Sts.tail (Sts.tail (Sts.tail S1)))) ?_
      fail "go"
      exact ⟨_, rfl, by fail "fp"⟩
  rintro σ H ⟨l, rfl, S⟩
  fail "go"
  rename_i r H2 S2
  refine for_list (K := K) (a := r) (xs := ws.reverse.map V.int) (fun i σ H => ∃ (f : Addr) (c d : Option V), σ = [some (.ref p), some (.ref a), some (.int w), some bv, some (.ref f), c, d] ∧
    Sts H (pto f (.lst ((bs.map (up w (ws.drop (ws.length - i)))).map ov)) :: pto r (.lst (ws.reverse.map V.int)) :: pto p (.ins T.c_Stretch dx [("copies", .int w)]) :: pto dx (.own p) :: pto a (.lst (ws.map V.int)) :: F)) ?_ (fun i σ H _ ⟨_, _, _, _, S⟩ => by fail "sq") ?_ ?_
  · refine ⟨l, none, none, rfl, ?_⟩
    rw [Nat.sub_zero, List.drop_length]
    have e : bs.map (up w []) = bs := (List.map_congr_left fun o _ => rfl).trans (List.map_id bs)
    rw [e]
    fail "fp"
  · rintro i x σ H hi ⟨f, c, d, rfl, S⟩
    obtain ⟨n, hn, rfl⟩ := at_int hi
    fail "go"
    rename_i D H3 S3
    have hi2 : i < ws.length := by
      have z := (List.getElem?_eq_some_iff.mp hn).1
      rwa [List.length_reverse] at z
    have e := rev_step hn
    refine lc_pureV ov (bs.map (up w (ws.drop (ws.length - i)))) (fun o => ov (kept w n o)) S3 (fun H S => by fail "sq") (by rw [List.length_map]; omega) (fun _ => rfl) (fun o H Q' ho S q => ?_) (fun H4 S4 => ?_)
    · fail "go"
      exact q
    · refine ⟨D, _, _, rfl, ?_⟩
      have e2 : ((bs.map (up w (ws.drop (ws.length - i)))).map fun o => ov (kept w n o)) = (bs.map (up w (ws.drop (ws.length - (i + 1))))).map ov := by
        rw [List.map_map, List.map_map, e]
        rfl
      rw [e2] at S4
      fail "fp"
  · rintro σ H ⟨f, c, d, rfl, S⟩
    rw [List.length_map, List.length_reverse, Nat.sub_self, List.drop_zero] at S
    fail "go"
    rename_i H3 S3
    have S4 : Sts H3 (pto p (.ins T.c_Stretch dx [("copies", .int w), ("_lift", .ref f)]) :: pto f (.lst ((bs.map (up w ws)).map ov)) :: pto r (.lst (ws.reverse.map V.int)) :: pto dx (.own p) :: pto a (.lst (ws.map V.int)) :: F) := S3
    exact q _ (stc_close (dx := dx) (l := f) (by fail "fp"))
def spInit (cS : Addr) : Sp := fun vs H Q _ => ∃ (p dx a : Addr) (w : Int) (ws : List Int) (F : List Asr), vs = [.ref p, .ref a, .int w, .non] ∧ (0 ≤ w ∧ w ≤ 1000 ∧ ws.length ≤ 10000) ∧ Sts H (pto p (.ins cS dx []) :: pto dx (.own p) :: pto a (.lst (ws.map V.int)) :: F) ∧
  ∀ H', Sts H' (stc cS p w (LL w ws) :: pto a (.lst (ws.map V.int)) :: F) → Q .non H'
theorem fnOk_sp {P : Program} {w : World} {K : PySem.W.Frag} {mg : Str → Option Value} {base : Heap} {CX : CXT} {k : Nat} {f : Addr} {fd : FuncData} {ps : List Str} {sp sp' : Sp} (F : FnOk P w K mg base CX k f fd ps sp) (h : ∀ vs H Q E, sp' vs H Q E → sp vs H Q E) : FnOk P w K mg base CX k f fd ps sp' :=
  ⟨fun vs H Q E x => F.len vs H Q E (h _ _ _ _ x), fun A outer s H args us vs Q E hr e0 b r x => F.run A outer s H args us vs Q E hr e0 b r (h _ _ _ _ x)⟩
theorem ok_Stretch_init (T : Txt P K mg) : FnOk P w K mg base CX0 3 T.f_Stretch_init T.fd_Stretch_init ["self", "blank", "copies", "below"] (spInit T.c_Stretch) := by
  refine fnOk_sp (ok_Stretch_initG T) fun vs H Q E h => ?_
  obtain ⟨p, dx, a, w, ws, F, rfl, hw, S, q⟩ := h
  refine ⟨p, dx, a, w, ws, .non, _, F, rfl, ⟨hw.1, hw.2.1, hw.2.2, ?_⟩, .inl ⟨rfl, rfl⟩, S, fun H' S' => q H' ?_⟩
  · rw [LL_len]
    omega
  · rwa [map_up0] at S'
def spInitB (cS : Addr) : Sp := fun vs H Q _ => ∃ (p dx a b : Addr) (w : Int) (bs : List (Option Int)) (F : List Asr), vs = [.ref p, .ref a, .int w, .ref b] ∧ (0 ≤ w ∧ w ≤ 1000 ∧ bs.length ≤ 10000) ∧ Sts H (pto p (.ins cS dx []) :: pto dx (.own p) :: pto a (.lst []) :: pto b (.lst (bs.map ov)) :: F) ∧
  ∀ H', Sts H' (stc cS p w bs :: pto a (.lst []) :: pto b (.lst (bs.map ov)) :: F) → Q .non H'
theorem ok_Stretch_init_below (T : Txt P K mg) : FnOk P w K mg base CX0 3 T.f_Stretch_init T.fd_Stretch_init ["self", "blank", "copies", "below"] (spInitB T.c_Stretch) := by
  refine fnOk_sp (ok_Stretch_initG T) fun vs H Q E h => ?_
  obtain ⟨p, dx, a, b, w, bs, F, rfl, hw, S, q⟩ := h
  refine ⟨p, dx, a, w, [], .ref b, bs, pto b (.lst (bs.map ov)) :: F, rfl, ⟨hw.1, hw.2.1, by decide, hw.2.2⟩, .inr ⟨b, rfl, fun H S => by fail "sq"⟩, S, fun H' S' => q H' ?_⟩
  have e : bs.map (up w []) = bs := (List.map_congr_left fun o _ => rfl).trans (List.map_id bs)
  rw [e] at S'
  exact S'
theorem gST {cS p : Addr} {w : Int} {ls : List (Option Int)} {L : List Asr} {H : Hp} (S : Sts H (stc cS p w ls :: L)) : Sts H (stc cS p w ls :: L) := S
/-- lift() -/
def spLift (cS : Addr) : Sp := fun vs H Q _ => ∃ (p : Addr) (w : Int) (ls : List (Option Int)) (F : List Asr), vs = [.ref p] ∧ Sts H (stc cS p w ls :: F) ∧ ∀ (a : Addr) H', Sts H' (pto a (.lst (ls.map ov)) :: stc cS p w ls :: F) → Q (.ref a) H'
theorem ok_Stretch_lift (T : Txt P K mg) : FnOk P w K mg base CX0 1 T.f_Stretch_lift T.fd_Stretch_lift ["self"] (spLift T.c_Stretch) := by
  refine T.F_Stretch_lift.ok sc_Stretch_lift (fun vs H Q E h => by obtain ⟨p, w, ls, F, rfl, _⟩ := h; rfl) (fun cdv A outer s H vs Q E hr h => ?_)
  obtain ⟨p, w, ls, F, rfl, S, q⟩ := h
  refine ⟨_, (pss_one (ps_ret (pe_callTy (v_list (K := K) rfl) (by rfl) T.z_list PyProof.Rows.boot_list (pa_cons (oc_fld T.cl_Stretch T.n_Stretch__lift (pv 0)) pa_nil)))), st_1_0 rfl ?_⟩
  obtain ⟨dx, l, S⟩ := stc_open S
  fail "go"
  rename_i a H1 S1
  exact q a _ (Sts.under (fun _ T => stc_close (dx := dx) (l := l) T) (by fail "fp"))
local macro_rules | `(tactic| fail "gs") => `(tactic| ((with_reducible show K29.spLift _ _ _ _ _); refine ⟨_, _, _, _, rfl, K29.gST (by fail "fr1"), fun oa oh os => ?_⟩))
/-- is_keepable() -/
def spKeep (cS : Addr) : Sp := fun vs H Q _ => ∃ (p : Addr) (w : Int) (ls : List (Option Int)) (F : List Asr), vs = [.ref p] ∧ Sts H (stc cS p w ls :: F) ∧ 0 < ls.length ∧ Q (.bl (gO ls 0).isSome) H
theorem ok_Stretch_is_keepable (T : Txt P K mg) : FnOk P w K mg base CX0 1 T.f_Stretch_is_keepable T.fd_Stretch_is_keepable ["self"] (spKeep T.c_Stretch) := by
  refine T.F_Stretch_is_keepable.ok sc_Stretch_is_keepable (fun vs H Q E h => by obtain ⟨p, w, ls, F, rfl, _⟩ := h; rfl) (fun cdv A outer s H vs Q E hr h => ?_)
  obtain ⟨p, w, ls, F, rfl, S, hl, q⟩ := h
  refine ⟨_, (pss_one (ps_ret (pe_cmpR v_notN (pe_ix (v_ixO (K := K) rfl) (oc_fld T.cl_Stretch T.n_Stretch__lift (pv 0)) pe_int (fun _ _ => rfl)) pe_non (nomark _)))), st_1_0 rfl ?_⟩
  obtain ⟨dx, l, S⟩ := stc_open S
  fail "go"
  exact q
local macro_rules | `(tactic| fail "gs") => `(tactic| ((with_reducible show K29.spKeep _ _ _ _ _); refine ⟨_, _, _, _, rfl, K29.gST (by fail "fr1"), (by rw [Sm.LL_len]; omega), ?_⟩))
/-- + -/
def RD (cS : Addr) (L : List Asr) (p l : Addr) (w : Int) (ls : List (Option Int)) : Prop := ∃ dx, ∀ H, Sts H L → H p = some (.ins cS dx [("copies", .int w), ("_lift", .ref l)]) ∧ H l = some (.lst (ls.map ov))
theorem RD.cp {cS p l : Addr} {L : List Asr} {w : Int} {ls : List (Option Int)} (r : RD cS L p l w ls) {H : Hp} (S : Sts H L) : FldAt cS "copies" H p (.int w) := by
  obtain ⟨dx, h⟩ := r
  exact ⟨dx, _, (h H S).1, rfl⟩
theorem RD.lf {cS p l : Addr} {L : List Asr} {w : Int} {ls : List (Option Int)} (r : RD cS L p l w ls) {H : Hp} (S : Sts H L) : FldAt cS "_lift" H p (.ref l) := by
  obtain ⟨dx, h⟩ := r
  exact ⟨dx, _, (h H S).1, rfl⟩
theorem RD.is {cS p l : Addr} {L : List Asr} {w : Int} {ls : List (Option Int)} (r : RD cS L p l w ls) {H : Hp} (S : Sts H L) : ∃ dx fs, H p = some (.ins cS dx fs) := by
  obtain ⟨dx, h⟩ := r
  exact ⟨dx, _, (h H S).1⟩
theorem RD.sq {cS p l : Addr} {L : List Asr} {w : Int} {ls : List (Option Int)} (r : RD cS L p l w ls) {H : Hp} (S : Sts H L) : SqL K H l (ls.map ov) := by
  obtain ⟨dx, h⟩ := r
  exact SqL.of (h H S).2


def spCD (cX : Addr) : Sp := fun vs H Q _ => ∃ (a : Addr) (x y : V) (F : List Asr), vs = [.ref a, x, y] ∧ Sts H (pto a (exo a cX none) :: F) ∧ ∀ d H', Sts H' (pto a (exo a cX (some d)) :: pto d (exd d [("right", y), ("left", x)]) :: F) → Q .non H'
theorem ok_CopiesDiffer_init (T : Txt P K mg) : FnOk P w K mg base CX0 1 T.f_CopiesDiffer_init T.fd_CopiesDiffer_init ["self", "left", "right"] (spCD T.c_CopiesDiffer) := by
  refine T.X_CopiesDiffer_init.ok sc_CopiesDiffer_init rfl rfl rfl rfl _ (fun _ _ _ => rfl) (fun _ => rfl) (fun _ => rfl) (fun _ _ _ => rfl) (fun vs H Q E h => by obtain ⟨a, x, y, F, rfl, _⟩ := h; rfl) (fun cc c A outer s H vs Q E hr h => ?_)
  obtain ⟨a, x, y, F, rfl, S, q⟩ := h
  refine ⟨a, T.c_CopiesDiffer, [x, y], _, _, rfl, T.su_CopiesDiffer, S.hd, (pa_cons pe_str pa_nil), (pss_cons (oc_ost1 T.ox_CopiesDiffer T.nx_CopiesDiffer_left (pv 0) (pv 1))
      (pss_one (oc_ost2 T.ox_CopiesDiffer T.nx_CopiesDiffer_right (pv 0) (pv 2)))), ?_⟩
  refine ⟨Nat.le_of_ble_eq_true rfl, S.hd, ?_⟩
  fail "go"
  rename_i d H1 S1 H2 S2
  exact q _ _ S2
def spAdd (cS cX : Addr) : Sp := fun vs H Q E => ∃ (p q l1 l2 : Addr) (w1 w2 : Int) (a1 a2 : List (Option Int)) (L : List Asr), vs = [.ref p, .ref q] ∧ Sts H L ∧ RD cS L p l1 w1 a1 ∧ RD cS L q l2 w2 a2 ∧ (0 ≤ w1 ∧ w1 ≤ 1000 ∧ a2.length ≤ 10000) ∧
  (w1 = w2 → (∀ h, some h ∈ a2 → 0 ≤ h ∧ h < a1.length) ∧ ∀ r H', Sts H' (stc cS r w1 (jn a1 a2) :: L) → Q (.ref r) H') ∧ (w1 ≠ w2 → ∀ d H', Sts H' (pto d (.xd [("right", .int w2), ("left", .int w1)]) :: L) → E (.ref cX) (some d) H')
theorem ok_Stretch_add (T : Txt P K mg) : FnOk P w K mg base (L2N.CX P w) 5 T.f_Stretch_add T.fd_Stretch_add ["self", "other"] (spAdd T.c_Stretch T.c_CopiesDiffer) := by
  refine okN T.F_Stretch_add sc_Stretch_add (fun vs H Q E h => by obtain ⟨p, q, l1, l2, w1, w2, a1, a2, L, rfl, _⟩ := h; rfl) (fun cdv A outer s H vs Q E hr h => ?_)
  obtain ⟨p, r, l1, l2, w1, w2, a1, a2, L, rfl, S, R1, R2, hw, k1, k2⟩ := h
  refine ⟨_, (pss_cons (ps_if (pt_not (pt_val (pe_callB (v_isiC T.is_Stretch) (by rfl) T.z_isinstance PyProof.Rows.boot_isinstance (pa_cons (pv 1) (pa_cons (pe_glob (v := .ref T.c_Stretch) (by rfl) T.gc_Stretch rfl) pa_nil)))))
      (pss_one ps_never)
      pss_nil)
      (pss_cons (ps_if (pt_cmpR op_ne (oc_fld T.cl_Stretch T.n_Stretch_copies (pv 0)) (oc_fld T.cl_Stretch T.n_Stretch_copies (pv 1)) (nomark _))
      (pss_one (v_raise rfl (L2N.takes_of rfl rfl rfl rfl) (oc_mkx T.ox_CopiesDiffer T.ix_CopiesDiffer T.ti_CopiesDiffer (ok_CopiesDiffer_init T) (hr.mono (by decide)) T.b_CopiesDiffer_init .nil pass0 (by rfl) T.gc_CopiesDiffer (pa_cons (oc_fld T.cl_Stretch T.n_Stretch_copies (pv 0)) (pa_cons (oc_fld T.cl_Stretch T.n_Stretch_copies (pv 1)) pa_nil)))))
      pss_nil)
      (pss_cons (ps_setLc (i := 2) (own := [("height", 3)]) (g := gName 3) (tt := tYes) rfl sc_Stretch_add.nd rfl rfl (sw_true rfl rfl rfl (by decide +kernel)) (pi_list (oc_fld T.cl_Stretch T.n_Stretch__lift (pv 1))) (blkOk_by (own := [("height", 3)]) (N := ["self", "other", "joined", "height"]) (sc := defScope s_Stretch_add) (by decide +kernel)) (fun _ _ _ _ _ => (pg_name (i := 3) sc_Stretch_add.nd rfl (Or.inl rfl))) (fun _ _ _ _ _ => pts_nil) (fun _ _ _ _ _ => (pe_ifExp (pt_cmpR v_isN (pv 3) pe_non (nomark _)) pe_non (pe_ix (v_ixO (K := K) rfl) (oc_fld T.cl_Stretch T.n_Stretch__lift (pv 0)) (pv 3) (fun _ _ => rfl)))))
      (pss_one (ps_ret (oc_makeK T.mk_Stretch (ok_Stretch_init_below T) (hr.mono (by decide)) (by rfl) T.gc_Stretch T.kb_Stretch_init_below (pa_cons (pe_lst pa_nil) (pa_cons (oc_fld T.cl_Stretch T.n_Stretch_copies (pv 0)) pa_nil)) (pk_cons (pv 2) pk_nil))))))), st_2_2 rfl ?_⟩
  fail "go"
  refine g_isiC (R2.is S) ?_
  fail "go"
  refine g_kFld (R1.cp S) ?_
  fail "go"
  refine g_kFld (R2.cp S) ?_
  fail "go"
  with_reducible refine ifB (fun h => ?_) (fun h => ?_)
  · have hne : w1 ≠ w2 := ont h
    fail "go"
    refine g_kFld (R1.cp S) ?_
    fail "go"
    refine g_kFld (R2.cp S) ?_
    fail "go"
    refine g_kMkX (Nat.le_of_ble_eq_true rfl) S fun a H' S' => ?_
    exact ⟨a, _, _, _, rfl, S', fun d H2 S2 => g_kXR S2 fun H3 S3 => k2 hne d _ S3⟩
  · have he : w1 = w2 := onf h
    subst he
    obtain ⟨kr, kq⟩ := k1 rfl
    fail "go"
    refine g_kFld (R2.lf S) ?_
    fail "go"
    refine g_kIL (R2.sq S) ?_
    fail "go"
    rename_i D H1 S1
    refine lc_pureV ov a2 (fun o => ov (o.bind fun h => gO a1 h)) S1 (fun H S => R2.sq S) (by omega) (fun _ => rfl) (fun o H Q' ho S q => ?_) (fun H2 S2 => ?_)
    · cases o with
      | none =>
        fail "go"
        refine ifT rfl ?_
        fail "go"
        exact q
      | some b =>
        fail "go"
        refine ifF rfl ?_
        fail "go"
        refine g_kFld (R1.lf S) ?_
        fail "go"
        refine g_ixO (i := b) (R1.sq S) (kr b ho) ?_
        exact q
    · have e2 : (a2.map fun o => ov (o.bind fun h => gO a1 h)) = (jn a1 a2).map ov := by
        unfold jn
        rw [List.map_map]
        rfl
      rw [e2] at S2
      fail "go"
      rename_i e He Se
      refine g_kFld (R1.cp (Sts.tail (Sts.tail Se))) ?_
      fail "go"
      refine ⟨rfl, rfl, _, Se, fun x dx H3 S3 => ?_⟩
      refine ⟨x, dx, e, D, w1, jn a1 a2, L, rfl, ⟨hw.1, hw.2.1, ?_⟩, S3, fun H4 S4 => ⟨rfl, kq x _ (by fail "fp")⟩⟩
      unfold jn
      rw [List.length_map]
      exact hw.2.2
/-- the operator on two objects; on one -/
theorem stc_RD {cS p dx l : Addr} {w : Int} {ls : List (Option Int)} {L : List Asr} (f : ∀ H, Sts H L → ∃ M, Sts H (pto p (.ins cS dx [("copies", .int w), ("_lift", .ref l)]) :: M)) (g : ∀ H, Sts H L → ∃ M, Sts H (pto l (.lst (ls.map ov)) :: M)) : RD cS L p l w ls :=
  ⟨dx, fun H S => ⟨(f H S).choose_spec.hd, (g H S).choose_spec.hd⟩⟩
theorem add_two {cS cX p q : Addr} {w : Int} {a b : List Int} {F : List Asr} {H : Hp} {Q : VK} {E : XK} (S : Sts H (stc cS p w (LL w a) :: stc cS q w (LL w b) :: F)) (hw : 1 ≤ w ∧ w ≤ 1000)
    (k : ∀ r H', Sts H' (stc cS r w (LL w (a ++ b)) :: stc cS p w (LL w a) :: stc cS q w (LL w b) :: F) → Q (.ref r) H') : spAdd cS cX [.ref p, .ref q] H Q E := by
  obtain ⟨dx, l, S⟩ := stc_open S
  obtain ⟨dy, m, S⟩ := stc_open (show Sts H (stc cS q w (LL w b) :: pto p (.ins cS dx [("copies", .int w), ("_lift", .ref l)]) :: pto dx (.own p) :: pto l (.lst ((LL w a).map ov)) :: F) from by fail "fp")
  refine ⟨p, q, l, m, w, w, LL w a, LL w b, _, rfl, S, stc_RD (dx := dx) (fun H S => ⟨_, by fail "fr1"⟩) (fun H S => ⟨_, by fail "fr1"⟩), stc_RD (dx := dy) (fun H S => ⟨_, by fail "fr1"⟩) (fun H S => ⟨_, by fail "fr1"⟩), ⟨by omega, by omega, by rw [LL_len]; omega⟩, fun _ => ⟨fun h e => ?_, fun r H' S' => ?_⟩, fun z => absurd rfl z⟩
  · have z := mem_LL e
    rw [LL_len]
    omega
  · rw [jn_LL] at S'
    refine k r H' (S'.under fun K T => ?_)
    have T2 := stc_close (p := p) (dx := dx) (l := l) (w := w) (ls := LL w a) (L := [pto q (.ins cS dy [("copies", .int w), ("_lift", .ref m)]), pto dy (.own q), pto m (.lst ((LL w b).map ov))] ++ F) (by fail "fp")
    refine T2.under fun K T => ?_
    exact stc_close (dx := dy) (l := m) T
theorem add_one {cS cX p : Addr} {w : Int} {a : List Int} {F : List Asr} {H : Hp} {Q : VK} {E : XK} (S : Sts H (stc cS p w (LL w a) :: F)) (hw : 1 ≤ w ∧ w ≤ 1000)
    (k : ∀ r H', Sts H' (stc cS r w (LL w (a ++ a)) :: stc cS p w (LL w a) :: F) → Q (.ref r) H') : spAdd cS cX [.ref p, .ref p] H Q E := by
  obtain ⟨dx, l, S⟩ := stc_open S
  have R : RD cS (pto p (.ins cS dx [("copies", .int w), ("_lift", .ref l)]) :: pto dx (.own p) :: pto l (.lst ((LL w a).map ov)) :: F) p l w (LL w a) := stc_RD (dx := dx) (fun H S => ⟨_, by fail "fr1"⟩) (fun H S => ⟨_, by fail "fr1"⟩)
  refine ⟨p, p, l, l, w, w, LL w a, LL w a, _, rfl, S, R, R, ⟨by omega, by omega, by rw [LL_len]; omega⟩, fun _ => ⟨fun h e => ?_, fun r H' S' => ?_⟩, fun z => absurd rfl z⟩
  · have z := mem_LL e
    rw [LL_len]
    omega
  · rw [jn_LL] at S'
    exact k r H' (S'.under fun K T => stc_close T)
/-- .. where the copies differ -/
theorem add_bad {cS cX p q : Addr} {w v : Int} {a b : List (Option Int)} {F : List Asr} {H : Hp} {Q : VK} {E : XK} (hw : 1 ≤ w ∧ w ≤ 1000) (hv : w ≠ v) (hb : b.length ≤ 10000) (S : Sts H (stc cS p w a :: stc cS q v b :: F))
    (k : ∀ d H', Sts H' (pto d (.xd [("right", .int v), ("left", .int w)]) :: stc cS p w a :: stc cS q v b :: F) → E (.ref cX) (some d) H') : spAdd cS cX [.ref p, .ref q] H Q E := by
  obtain ⟨dx, l, S⟩ := stc_open S
  obtain ⟨dy, m, S⟩ := stc_open (show Sts H (stc cS q v b :: pto p (.ins cS dx [("copies", .int w), ("_lift", .ref l)]) :: pto dx (.own p) :: pto l (.lst (a.map ov)) :: F) from by fail "fp")
  refine ⟨p, q, l, m, w, v, a, b, _, rfl, S, stc_RD (dx := dx) (fun H S => ⟨_, by fail "fr1"⟩) (fun H S => ⟨_, by fail "fr1"⟩), stc_RD (dx := dy) (fun H S => ⟨_, by fail "fr1"⟩) (fun H S => ⟨_, by fail "fr1"⟩), ⟨by omega, by omega, hb⟩, fun e => absurd e hv, fun _ d H' S' => ?_⟩
  refine k d H' (S'.under fun K T => ?_)
  have T2 := stc_close (p := p) (dx := dx) (l := l) (w := w) (ls := a) (L := [pto q (.ins cS dy [("copies", .int v), ("_lift", .ref m)]), pto dy (.own q), pto m (.lst (b.map ov))] ++ F) (by fail "fp")
  exact T2.under fun K T => stc_close (dx := dy) (l := m) T

/-- == -/
def spEq (cS : Addr) : Sp := fun vs H Q _ => ∃ (p q : Addr) (w v : Int) (a b : List (Option Int)) (F : List Asr), vs = [.ref p, .ref q] ∧ Sts H (stc cS p w a :: stc cS q v b :: F) ∧ ∀ H', Sts H' (stc cS p w a :: stc cS q v b :: F) → Q (.bl (decide (w = v) && decide (a = b))) H'
theorem ok_Stretch_eq (T : Txt P K mg) : FnOk P w K mg base CX0 1 T.f_Stretch_eq T.fd_Stretch_eq ["self", "other"] (spEq T.c_Stretch) := by
  refine T.F_Stretch_eq.ok sc_Stretch_eq (fun vs H Q E h => by obtain ⟨p, q, w, v, a, b, F, rfl, _⟩ := h; rfl) (fun cdv A outer s H vs Q E hr h => ?_)
  obtain ⟨p, r, w, v, a, b, F, rfl, S, q⟩ := h
  refine ⟨_, (pss_one (ps_ret (pe_and (pe_callB (v_isiC T.is_Stretch) (by rfl) T.z_isinstance PyProof.Rows.boot_isinstance (pa_cons (pv 1) (pa_cons (pe_glob (v := .ref T.c_Stretch) (by rfl) T.gc_Stretch rfl) pa_nil))) (pe_and (pe_cmpR op_eq (oc_fld T.cl_Stretch T.n_Stretch_copies (pv 0)) (oc_fld T.cl_Stretch T.n_Stretch_copies (pv 1)) (nomark _)) (pe_one (pe_cmpR (v_eqOs (K := K) rfl hr.units) (oc_fld T.cl_Stretch T.n_Stretch__lift (pv 0)) (oc_fld T.cl_Stretch T.n_Stretch__lift (pv 1)) (nomark _))))))), st_2_0 rfl ?_⟩
  have q := q H S
  obtain ⟨dx, l, S⟩ := stc_open S
  obtain ⟨dy, m, S⟩ := stc_open (show Sts H (stc T.c_Stretch r v b :: pto p (.ins T.c_Stretch dx [("copies", .int w), ("_lift", .ref l)]) :: pto dx (.own p) :: pto l (.lst (a.map ov)) :: F) from by fail "fp")
  fail "go"
  with_reducible refine ifB (fun c => ?_) (fun c => ?_)
  · have c := odt c
    subst c
    fail "go"
    rw [decide_eq_true rfl, Bool.true_and] at q
    exact q
  · have c : ¬ w = v := odf c
    fail "go"
    rw [decide_eq_false c, Bool.false_and] at q
    exact q
theorem eq_yes {cS p q : Addr} {w : Int} {a b : List (Option Int)} {F : List Asr} {H : Hp} {Q : VK} {E : XK} (S : Sts H (stc cS p w a :: stc cS q w b :: F)) (e : a = b) (k : ∀ H', Sts H' (stc cS p w a :: stc cS q w b :: F) → Q (.bl true) H') : spEq cS [.ref p, .ref q] H Q E :=
  ⟨p, q, w, w, a, b, F, rfl, S, fun H' S' => by rw [decide_eq_true rfl, decide_eq_true e]; exact k H' S'⟩
theorem eq_no {cS p q : Addr} {w v : Int} {a b : List (Option Int)} {F : List Asr} {H : Hp} {Q : VK} {E : XK} (S : Sts H (stc cS p w a :: stc cS q v b :: F)) (e : w ≠ v) (k : ∀ H', Sts H' (stc cS p w a :: stc cS q v b :: F) → Q (.bl false) H') : spEq cS [.ref p, .ref q] H Q E :=
  ⟨p, q, w, v, a, b, F, rfl, S, fun H' S' => by rw [decide_eq_false e]; exact k H' S'⟩
theorem go_make {cS a : Addr} {w : Int} {ws : List Int} {L : List Asr} {H1 : Hp} {Q : VK} (S : Sts H1 (pto a (.lst (ws.map V.int)) :: L)) (hw : 0 ≤ w ∧ w ≤ 1000 ∧ ws.length ≤ 10000) (k : ∀ x H3, Sts H3 (stc cS x w (LL w ws) :: pto a (.lst (ws.map V.int)) :: L) → Q (.ref x) H3) :
    kMake cS (spInit cS) [.non] Q [.ref a, .int w] H1 :=
  ⟨_, S, fun x dx H2 S2 => ⟨x, dx, a, w, ws, L, rfl, hw, S2, fun H3 S3 => ⟨rfl, k x H3 S3⟩⟩⟩
local macro_rules | `(tactic| fail "leq") => `(tactic| first | rfl | (simp only [List.append_assoc, List.nil_append, List.append_nil]; done))
local macro_rules | `(tactic| fail "isc") => `(tactic| exact K29.stc_ins (by fail "fr1"))
local macro_rules | `(tactic| fail "ins") => `(tactic| exact K29.stc_is (by fail "fr1") (fun _ => rfl))
local macro_rules | `(tactic| fail "fld") => `(tactic| exact K29.stc_copies (by fail "fr1"))
local macro_rules | `(tactic| fail "gs") => `(tactic| ((with_reducible apply K29.go_make); fail "frI"; exact ⟨by omega, by omega, by first | omega | decide | (simp only [List.length_append, List.length_cons, List.length_nil]; omega)⟩; intro ox oh os))
local macro_rules | `(tactic| fail "gs") => `(tactic| ((with_reducible show K29.spEq _ _ _ _ _); first | refine K29.eq_no (Oc.pr (by fail "fr2")) (Oc.pr (by omega)) (fun oh os => ?_) | refine K29.eq_yes (Oc.pr (by fail "fr2")) (by fail "leq") (fun oh os => ?_)))
local macro_rules | `(tactic| fail "gs") => `(tactic| ((with_reducible show K29.spAdd _ _ _ _ _ _); first | refine K29.add_one (Oc.pr (by fail "fr1")) (Oc.pr (by fail "side")) (fun or oh os => ?_) | refine K29.add_two (Oc.pr (by fail "fr2")) (Oc.pr (by fail "side")) (fun or oh os => ?_)))

--PART
/-! ### the laws' own helpers over chains -/
def spIsInt : Sp := fun vs H Q _ => ∃ i : Int, vs = [.int i] ∧ Q (.bl true) H
theorem ok_law_is_integer (T : Txt P K mg) : FnOk P w K mg base CX0 1 T.f_law_is_integer T.fd_law_is_integer ["actual"] spIsInt := by
  refine T.F_law_is_integer.ok sc_law_is_integer (fun vs H Q E h => by obtain ⟨i, rfl, _⟩ := h; rfl) (fun cdv A outer s H vs Q E hr h => ?_)
  obtain ⟨i, rfl, q⟩ := h
  refine ⟨_, (pss_one (ps_ret (pe_and (pe_callB v_isII (by rfl) T.z_isinstance PyProof.Rows.boot_isinstance (pa_cons (pv 0) (pa_cons (pe_bltn (v := .ty "int") (by rfl) T.z_int PyProof.Rows.boot_int rfl) pa_nil))) (pe_one (pe_not (pe_callB v_isIB (by rfl) T.z_isinstance PyProof.Rows.boot_isinstance (pa_cons (pv 0) (pa_cons (pe_bltn (v := .ty "bool") (by rfl) T.z_bool PyProof.Rows.boot_bool rfl) pa_nil)))))))), st_1_0 rfl ?_⟩
  fail "go"
  exact q
def spCopies : Sp := fun vs H Q _ => ∃ (p : Addr) (F : List Asr), vs = [.ref p] ∧ Sts H (bag p :: F) ∧ ∀ (c : Int) (H' : Hp), 1 ≤ c → c ≤ 70 → Sts H' (bag p :: F) → Q (.int c) H'
theorem ok_law_copies (T : Txt P K mg) : FnOk P w K mg base CX0 2 T.f_law_copies T.fd_law_copies ["bag"] spCopies := by
  refine T.F_law_copies.ok sc_law_copies (fun vs H Q E h => by obtain ⟨p, F, rfl, _⟩ := h; rfl) (fun cdv A outer s H vs Q E hr h => ?_)
  obtain ⟨p, F, rfl, S, q⟩ := h
  refine ⟨_, (pss_cons (ps_if (pt_cmpR op_eq (v_call (ok_law_take T) (hr.mono (by decide)) (by rfl) T.g_law_take T.F_law_take.kp T.b_law_take (pa_cons (pv 0) (pa_cons pe_int pa_nil))) pe_int (nomark _))
      (pss_one (ps_ret (pe_op op_add pe_int (v_call (ok_law_take T) (hr.mono (by decide)) (by rfl) T.g_law_take T.F_law_take.kp T.b_law_take (pa_cons (pv 0) (pa_cons pe_int pa_nil))))))
      pss_nil)
      (pss_one (ps_ret (pe_op op_add pe_int (v_call (ok_law_take T) (hr.mono (by decide)) (by rfl) T.g_law_take T.F_law_take.kp T.b_law_take (pa_cons (pv 0) (pa_cons pe_int pa_nil))))))), st_1_0 rfl ?_⟩
  fail "go"
  with_reducible refine ifB (fun c => ?_) (fun c => ?_)
  · fail "go"
    exact q _ _ (by omega) (by omega) (by fail "fp")
  · fail "go"
    exact q _ _ (by omega) (by omega) (by fail "fp")
local macro_rules | `(tactic| fail "gs") => `(tactic| ((with_reducible show K29.spCopies _ _ _ _); refine ⟨_, _, rfl, K29.gB (by fail "fr1"), fun (od : Int) (oh : L2.Hp) o0 o1 os => ?_⟩))
local macro_rules | `(tactic| fail "gs") => `(tactic| ((with_reducible show K29.spIsInt _ _ _ _); refine ⟨_, rfl, ?_⟩))

/-! ### the law's own helpers over stretches -/
theorem okH_law_is_integer (T : Txt P K mg) : L2H.FnH P w K mg base CX0 1 T.f_law_is_integer T.fd_law_is_integer ["actual"] spIsInt := by
  refine okH T.F_law_is_integer sc_law_is_integer (fun vs H Q E h => by obtain ⟨i, rfl, _⟩ := h; rfl) (fun cdv A outer s H vs Q E p hot hr h => ?_)
  obtain ⟨i, rfl, q⟩ := h
  refine ⟨_, (pss_one (ps_ret (pe_and (pe_callB v_isII (by rfl) T.z_isinstance PyProof.Rows.boot_isinstance (pa_cons (pv 0) (pa_cons (pe_bltn (v := .ty "int") (by rfl) T.z_int PyProof.Rows.boot_int rfl) pa_nil))) (pe_one (pe_not (pe_callB v_isIB (by rfl) T.z_isinstance PyProof.Rows.boot_isinstance (pa_cons (pv 0) (pa_cons (pe_bltn (v := .ty "bool") (by rfl) T.z_bool PyProof.Rows.boot_bool rfl) pa_nil)))))))), st_1_0 rfl ?_⟩
  fail "go"
  exact q

def spPage : Sp := fun vs H Q _ => ∃ (p : Addr) (F : List Asr), vs = [.ref p] ∧ Sts H (bag p :: F) ∧ ∀ (c : Int) (H' : Hp), 0 ≤ c → c ≤ 1000000 → Sts H' (bag p :: F) → Q (.int c) H'
theorem ok_law_page (T : Txt P K mg) : FnOk P w K mg base CX0 2 T.f_law_page T.fd_law_page ["bag"] spPage := by
  refine T.F_law_page.ok sc_law_page (fun vs H Q E h => by obtain ⟨p, F, rfl, _⟩ := h; rfl) (fun cdv A outer s H vs Q E hr h => ?_)
  obtain ⟨p, F, rfl, S, q⟩ := h
  refine ⟨_, (pss_cons (ps_set (i := 1) sc_law_page.nd rfl (Or.inl rfl) (v_call (ok_law_take T) (hr.mono (by decide)) (by rfl) T.g_law_take T.F_law_take.kp T.b_law_take (pa_cons (pv 0) (pa_cons pe_int pa_nil))))
      (pss_cons (ps_if (pt_cmpR op_lt (pv 1) pe_int (nomark _))
      (pss_one (ps_ret pe_int))
      pss_nil)
      (pss_cons (ps_if (pt_cmpR op_lt (pv 1) pe_int (nomark _))
      (pss_one (ps_ret pe_int))
      pss_nil)
      (pss_cons (ps_if (pt_cmpR op_eq (pv 1) pe_int (nomark _))
      (pss_one (ps_ret (pe_op op_add pe_int (v_call (ok_law_take T) (hr.mono (by decide)) (by rfl) T.g_law_take T.F_law_take.kp T.b_law_take (pa_cons (pv 0) (pa_cons pe_int pa_nil))))))
      pss_nil)
      (pss_one (ps_ret (v_call (ok_law_take T) (hr.mono (by decide)) (by rfl) T.g_law_take T.F_law_take.kp T.b_law_take (pa_cons (pv 0) (pa_cons pe_int pa_nil))))))))), st_1_1 rfl ?_⟩
  fail "go"
  with_reducible refine ifB (fun c => ?_) (fun c => ?_)
  · fail "go"
    exact q _ _ (by omega) (by omega) (by fail "fp")
  · fail "go"
    with_reducible refine ifB (fun c => ?_) (fun c => ?_)
    · fail "go"
      exact q _ _ (by omega) (by omega) (by fail "fp")
    · fail "go"
      with_reducible refine ifB (fun c => ?_) (fun c => ?_)
      · fail "go"
        exact q _ _ (by omega) (by omega) (by fail "fp")
      · fail "go"
        exact q _ _ (by omega) (by omega) (by fail "fp")
local macro_rules | `(tactic| fail "gs") => `(tactic| ((with_reducible show K29.spPage _ _ _ _); refine ⟨_, _, rfl, K29.gB (by fail "fr1"), fun (od : Int) (oh : L2.Hp) o0 o1 os => ?_⟩))
theorem nn_snoc {ns : List Int} {x : Int} (h : Nn ns) (hx : 0 ≤ x) : Nn (ns ++ [x]) := fun y hy => by
  rcases List.mem_append.mp hy with hy | hy
  · exact h y hy
  · have e : y = x := by simpa using hy
    rw [e]
    exact hx
theorem nn_one {x : Int} (hx : 0 ≤ x) : Nn [x] := nn_snoc (ns := []) (fun _ h => nomatch h) hx
theorem nn_app {ns ms : List Int} (h : Nn ns) (g : Nn ms) : Nn (ns ++ ms) := fun y hy => (List.mem_append.mp hy).elim (h y) (g y)
theorem nn_rep {ns : List Int} (h : Nn ns) (k : Nat) : Nn (List.replicate k ns).flatten := fun y hy => by
  obtain ⟨l, hl, hy⟩ := List.mem_flatten.mp hy
  rw [(List.mem_replicate.mp hl).2] at hy
  exact h y hy
theorem nn_set {ns : List Int} {x : Int} {i : Nat} (h : Nn ns) (hx : 0 ≤ x) : Nn (ns.set i x) := fun y hy => by
  rcases List.mem_or_eq_of_mem_set hy with q | q
  · exact h y q
  · rw [q]
    exact hx
theorem nn_take {ns : List Int} (h : Nn ns) (n : Nat) : Nn (ns.take n) := fun x hx => h x (List.mem_of_mem_take hx)
theorem nn_drop {ns : List Int} (h : Nn ns) (n : Nat) : Nn (ns.drop n) := fun x hx => h x (List.mem_of_mem_drop hx)

def spPages : Sp := fun vs H Q _ => ∃ (p : Addr) (F : List Asr), vs = [.ref p] ∧ Sts H (bag p :: F) ∧ ∀ (a : Addr) (ns : List Int) (H' : Hp), Nn ns → ns.length ≤ 40 → Sts H' (pto a (.lst (ns.map V.int)) :: bag p :: F) → Q (.ref a) H'
theorem ok_law_pages (T : Txt P K mg) : FnOk P w K mg base CX0 3 T.f_law_pages T.fd_law_pages ["bag"] spPages := by
  refine T.F_law_pages.ok sc_law_pages (fun vs H Q E h => by obtain ⟨p, F, rfl, _⟩ := h; rfl) (fun cdv A outer s H vs Q E hr h => ?_)
  obtain ⟨p, F, rfl, S, q⟩ := h
  refine ⟨_, (pss_cons (ps_if (pt_cmpR op_eq (v_call (ok_law_take T) (hr.mono (by decide)) (by rfl) T.g_law_take T.F_law_take.kp T.b_law_take (pa_cons (pv 0) (pa_cons pe_int pa_nil))) pe_int (nomark _))
      (pss_cons (ps_setLc (i := 1) (own := [("place", 2)]) (g := gName 2) (tt := tYes) rfl sc_law_pages.nd rfl rfl (sw_true rfl rfl rfl (by decide +kernel)) (pi_range1 rfl T.z_range (pa_cons (pe_op op_add pe_int (v_call (ok_law_take T) (hr.mono (by decide)) (by rfl) T.g_law_take T.F_law_take.kp T.b_law_take (pa_cons (pv 0) (pa_cons pe_int pa_nil)))) pa_nil)) (blkOk_by (own := [("place", 2)]) (N := ["bag", "pattern", "place"]) (sc := defScope s_law_pages) (by decide +kernel)) (fun _ _ _ _ _ => (pg_name (i := 2) sc_law_pages.nd rfl (Or.inl rfl))) (fun _ _ _ _ _ => pts_nil) (fun _ _ _ _ _ => (v_call (ok_law_page T) (hr.mono (by decide)) (by rfl) T.g_law_page T.F_law_page.kp T.b_law_page (pa_cons (pv 0) pa_nil))))
      (pss_one (ps_ret (pe_op v_repI (pv 1) (pe_op op_add pe_int (v_call (ok_law_take T) (hr.mono (by decide)) (by rfl) T.g_law_take T.F_law_take.kp T.b_law_take (pa_cons (pv 0) (pa_cons pe_int pa_nil))))))))
      pss_nil)
      (pss_one (ps_ret (pe_lc (own := [("place", 2)]) (g := gName 2) (tt := tYes) rfl sc_law_pages.nd (pi_range1 rfl T.z_range (pa_cons (v_call (ok_law_take T) (hr.mono (by decide)) (by rfl) T.g_law_take T.F_law_take.kp T.b_law_take (pa_cons (pv 0) (pa_cons pe_int pa_nil))) pa_nil)) (blkOk_by (own := [("place", 2)]) (N := ["bag", "pattern", "place"]) (sc := defScope s_law_pages) (by decide +kernel)) (fun _ _ _ _ _ => (pg_name (i := 2) sc_law_pages.nd rfl (Or.inl rfl))) (fun _ _ _ _ _ => pts_nil) (fun _ _ _ _ _ => (v_call (ok_law_page T) (hr.mono (by decide)) (by rfl) T.g_law_page T.F_law_page.kp T.b_law_page (pa_cons (pv 0) pa_nil))))))), st_1_2 rfl ?_⟩
  fail "go"
  with_reducible refine ifB (fun c => ?_) (fun c => ?_)
  · fail "go"
    rename_i d H1 d0 d1 S1 D H2 S2
    refine oc_lcR (n := (1 + d).toNat) (fun i H => ∃ ns : List Int, Nn ns ∧ ns.length = i ∧ Sts H (pto D (.lst (ns.map V.int)) :: bag p :: F)) ⟨[], (fun _ h => nomatch h), rfl, by fail "fp"⟩ ?_ ?_
    · rintro i H hi ⟨ns, hn, hl, S⟩
      fail "go"
      rename_i c H2 c0 c1 S2
      fail "lce"
      refine ⟨ns ++ [c], nn_snoc hn c0, by rw [List.length_append, hl]; rfl, ?_⟩
      rw [List.map_append]
      fail "fp"
    · rintro H ⟨ns, hn, hl, S⟩
      fail "go"
      refine ⟨_, _, _, rfl, rfl, Oc.pr (by fail "hpI"), ⟨by omega, by omega, mulb 4 10 (by omega) (by omega) (by decide)⟩, ?_⟩
      fail "go"
      refine q _ _ _ ?_ ?_ (by fail "fp")
      · exact nn_rep hn _
      · rw [len_rep]
        exact mulb 10 4 (by omega) (by omega) (by decide)
  · fail "go"
    rename_i d H1 d0 d1 S1 D H2 S2
    refine oc_lcR (n := d.toNat) (fun i H => ∃ ns : List Int, Nn ns ∧ ns.length = i ∧ Sts H (pto D (.lst (ns.map V.int)) :: bag p :: F)) ⟨[], (fun _ h => nomatch h), rfl, by fail "fp"⟩ ?_ ?_
    · rintro i H hi ⟨ns, hn, hl, S⟩
      fail "go"
      rename_i c H2 c0 c1 S2
      fail "lce"
      refine ⟨ns ++ [c], nn_snoc hn c0, by rw [List.length_append, hl]; rfl, ?_⟩
      rw [List.map_append]
      fail "fp"
    · rintro H ⟨ns, hn, hl, S⟩
      fail "go"
      exact q _ ns _ hn (by omega) S
local macro_rules | `(tactic| fail "gs") => `(tactic| ((with_reducible show K29.spPages _ _ _ _); refine ⟨_, _, rfl, K29.gB (by fail "fr1"), fun (oa : PySem.Addr) (ons : List Int) (oh : L2.Hp) on ol os => ?_⟩))
def spLH : Sp := fun vs H Q _ => ∃ c b w : Int, vs = [.int c, .int b, .int w] ∧ Q (.int (lawH w c b)) H
theorem ok_law_height (T : Txt P K mg) : FnOk P w K mg base CX0 1 T.f_law_height T.fd_law_height ["count", "below", "copies"] spLH := by
  refine T.F_law_height.ok sc_law_height (fun vs H Q E h => by obtain ⟨c, b, w, rfl, _⟩ := h; rfl) (fun cdv A outer s H vs Q E hr h => ?_)
  obtain ⟨c, b, w, rfl, q⟩ := h
  refine ⟨_, (pss_cons (ps_if (pt_cmpR op_ge (pv 0) pe_int (nomark _))
      (pss_one (ps_ret pe_int))
      pss_nil)
      (pss_cons (ps_if (pt_cmpR op_eq (pv 0) pe_int (nomark _))
      (pss_one (ps_ret (pe_callTy v_intBA (by rfl) T.z_int PyProof.Rows.boot_int (pa_cons (pe_cmpR op_ge (pv 1) (pv 2) (nomark _)) pa_nil))))
      pss_nil)
      (pss_one (ps_ret (pe_op op_add (pv 1) pe_int))))), st_3_0 rfl ?_⟩
  unfold lawH at q
  fail "go"
  with_reducible refine ifB (fun h => ?_) (fun h => ?_)
  · rw [if_pos (odt h)] at q
    fail "go"
    exact q
  · rw [if_neg (odf h)] at q
    fail "go"
    with_reducible refine ifB (fun h1 => ?_) (fun h1 => ?_)
    · rw [if_pos (odt h1)] at q
      fail "go"
      rename_i o o0 o1 ob
      have e : o = if w ≤ b then 1 else 0 := by
        split
        · rename_i l
          exact ob.mpr (decide_eq_true l)
        · rename_i l
          have : ¬ o = 1 := fun z => l (of_decide_eq_true (ob.mp z))
          omega
      rw [e]
      exact q
    · rw [if_neg (odf h1)] at q
      fail "go"
      exact q
local macro_rules | `(tactic| fail "gs") => `(tactic| ((with_reducible show K29.spLH _ _ _ _); refine ⟨_, _, _, rfl, ?_⟩))
theorem nn_cut {ns : List Int} (h : Nn ns) (lo hi : Option Int) : Nn (cutL ns lo hi) := nn_take (nn_drop h _) _
theorem cut_len {α : Type} (xs : List α) (lo hi : Option Int) : (cutL xs lo hi).length ≤ xs.length := by
  unfold cutL
  rw [List.length_take, List.length_drop]
  omega
def spRise : Sp := fun vs H Q _ => ∃ (a : Addr) (w b : Int) (ws : List Int) (F : List Asr), vs = [.ref a, .int b, .int w] ∧ Sts H (pto a (.lst (ws.map V.int)) :: F) ∧ Nn ws ∧ ∀ H', Sts H' (pto a (.lst (ws.map V.int)) :: F) → Q (ov (up w ws (some b))) H'
theorem ok_law_rise (T : Txt P K mg) : FnOk P w K mg base CX0 2 T.f_law_rise T.fd_law_rise ["blank", "below", "copies"] spRise := by
  refine T.F_law_rise.ok sc_law_rise (fun vs H Q E h => by obtain ⟨a, w, b, ws, F, rfl, _⟩ := h; rfl) (fun cdv A outer s H vs Q E hr h => ?_)
  obtain ⟨a, w, b, ws, F, rfl, S, hn, q⟩ := h
  refine ⟨_, (pss_cons (ps_set (i := 3) sc_law_rise.nd rfl (Or.inl rfl) (pv 1))
      (pss_cons (ps_for PassesOwn.never rfl (pi_list (pe_revL (pv 0))) (pg_name (i := 4) sc_law_rise.nd rfl (Or.inl rfl))
      (pss_cons (ps_set (i := 3) sc_law_rise.nd rfl (Or.inl rfl) (v_call (ok_law_height T) (hr.mono (by decide)) (by rfl) T.g_law_height T.F_law_height.kp T.b_law_height (pa_cons (pv 4) (pa_cons (pv 3) (pa_cons (pv 2) pa_nil)))))
      (pss_one (ps_if (pt_cmpR op_gt (pv 3) (pv 2) (nomark _))
      (pss_one (ps_ret pe_non))
      pss_nil))))
      (pss_one (ps_ret (pv 3))))), st_3_2 rfl ?_⟩
  fail "go"
  rename_i r H1 S1
  refine for_list (K := K) (a := r) (xs := ws.reverse.map V.int) (fun i σ H => ∃ (g : Int) (c : Option V), σ = [some (.ref a), some (.int b), some (.int w), some (.int g), c] ∧ up w (ws.drop (ws.length - i)) (some b) = some g ∧
    Sts H (pto r (.lst (ws.reverse.map V.int)) :: pto a (.lst (ws.map V.int)) :: F)) ?_ (fun i σ H _ ⟨_, _, _, _, S⟩ => by fail "sq") ?_ ?_
  · refine ⟨b, none, rfl, ?_, S1⟩
    rw [Nat.sub_zero, List.drop_length]
    rfl
  · rintro i x σ H hi ⟨g, c, rfl, hg, S⟩
    obtain ⟨n, hn2, rfl⟩ := at_int hi
    have e := rev_step hn2
    have hn0 : 0 ≤ n := hn n (List.mem_reverse.mp (List.mem_of_getElem? hn2))
    have e2 : up w (ws.drop (ws.length - (i + 1))) (some b) = kept w n (some g) := by
      rw [e]
      show kept w n (up w _ _) = _
      rw [hg]
    have e3 : kept w n (some g) = if hAb n g w ≤ w then some (hAb n g w) else none := rfl
    fail "go"
    rw [lawH_eq hn0]
    with_reducible refine ifB (fun h => ?_) (fun h => ?_)
    · fail "go"
      have z : up w ws (some b) = none := by
        have s1 : ws = ws.take (ws.length - (i + 1)) ++ ws.drop (ws.length - (i + 1)) := (List.take_append_drop _ _).symm
        rw [s1, up_app, e2, e3, if_neg (by have := odt h; omega), up_none]
      rw [z] at q
      exact q _ (by fail "fp")
    · fail "go"
      exact ⟨_, _, rfl, by rw [e2, e3, if_pos (by have := odf h; omega)], by fail "fp"⟩
  · rintro σ H ⟨g, c, rfl, hg, S⟩
    rw [List.length_map, List.length_reverse, Nat.sub_self, List.drop_zero] at hg
    rw [hg] at q
    fail "go"
    exact q _ (by fail "fp")
local macro_rules | `(tactic| fail "gs") => `(tactic| ((with_reducible show K29.spRise _ _ _ _); refine ⟨_, _, _, _, _, rfl, Oc.pr (by fail "frI"), Oc.pr (by assumption), fun oh os => ?_⟩))
def spLawLift : Sp := fun vs H Q _ => ∃ (a : Addr) (w : Int) (ws : List Int) (F : List Asr), vs = [.ref a, .int w] ∧ Sts H (pto a (.lst (ws.map V.int)) :: F) ∧ Nn ws ∧ (0 ≤ w ∧ w ≤ 1000) ∧ ∀ (b : Addr) H', Sts H' (pto b (.lst ((LL w ws).map ov)) :: pto a (.lst (ws.map V.int)) :: F) → Q (.ref b) H'
theorem ok_law_lift (T : Txt P K mg) : FnOk P w K mg base CX0 3 T.f_law_lift T.fd_law_lift ["blank", "copies"] spLawLift := by
  refine T.F_law_lift.ok sc_law_lift (fun vs H Q E h => by obtain ⟨a, w, ws, F, rfl, _⟩ := h; rfl) (fun cdv A outer s H vs Q E hr h => ?_)
  obtain ⟨a, w, ws, F, rfl, S, hn, hw, q⟩ := h
  refine ⟨_, (pss_one (ps_ret (pe_lc (own := [("below", 2)]) (g := gName 2) (tt := tYes) rfl sc_law_lift.nd (pi_range1 rfl T.z_range (pa_cons (pe_op op_add (pv 1) pe_int) pa_nil)) (blkOk_by (own := [("below", 2)]) (N := ["blank", "copies", "below"]) (sc := defScope s_law_lift) (by decide +kernel)) (fun _ _ _ _ _ => (pg_name (i := 2) sc_law_lift.nd rfl (Or.inl rfl))) (fun _ _ _ _ _ => pts_nil) (fun _ _ _ _ _ => (v_call (ok_law_rise T) (hr.mono (by decide)) (by rfl) T.g_law_rise T.F_law_rise.kp T.b_law_rise (pa_cons (pv 0) (pa_cons (pv 2) (pa_cons (pv 1) pa_nil)))))))), st_2_1 rfl ?_⟩
  fail "go"
  rename_i D H1 S1
  refine oc_lcR (lo := 0) (n := (w + 1).toNat) (fun i H => Sts H (pto D (.lst (((List.range i).map fun (h : Nat) => up w ws (some (h : Int))).map ov)) :: pto a (.lst (ws.map V.int)) :: F)) S1 ?_ ?_
  · rintro i H hi S
    fail "go"
    rename_i H2 S2
    fail "lce"
    rw [List.range_succ, List.map_append, List.map_append]
    rw [Int.zero_add] at *
    fail "fp"
  · rintro H S
    exact q _ _ S
local macro_rules | `(tactic| fail "nn") => `(tactic| first | assumption | exact (fun _ h => nomatch h : Ch.Nn []) | exact K29.nn_app (by fail "nn") (by fail "nn") | exact K29.nn_cut (by fail "nn") _ _ | exact K29.nn_one (by omega))
local macro_rules | `(tactic| fail "gs") => `(tactic| ((with_reducible show K29.spLawLift _ _ _ _); refine ⟨_, _, _, _, rfl, Oc.pr (by fail "frI"), Oc.pr (by fail "nn"), Oc.pr (by fail "side"), fun ob oh os => ?_⟩))

--PART
/-! ### parting -/
local macro_rules | `(tactic| fail "gs") => `(tactic| with_reducible refine Oc.g_iEnZ ?_)
local macro_rules | `(tactic| fail "gs") => `(tactic| ((with_reducible apply Oc.g_kXz); fail "sq"; fail "sq"))
local macro_rules | `(tactic| fail "gs") => `(tactic| ((with_reducible apply Oc.g_isTT); fail "tp"))
def spAbv : Sp := fun vs H Q _ => ∃ (l r : Option Int) (w : Int) (F : List Asr), vs = [ov l, ov r, .int w] ∧ Sts H F ∧ (0 ≤ w ∧ w ≤ 1000) ∧ (∀ x, l = some x → 0 ≤ x ∧ x ≤ w) ∧ (∀ x, r = some x → 0 ≤ x ∧ x ≤ w) ∧ ∀ (a : Addr) H', Sts H' (pto a (.lst ((abv w l r).map V.int)) :: F) → Q (.ref a) H'
theorem ok_pages_above (T : Txt P K mg) : FnOk P w K mg base CX0 1 T.f_pages_above T.fd_pages_above ["left", "right", "copies"] spAbv := by
  refine T.F_pages_above.ok sc_pages_above (fun vs H Q E h => by obtain ⟨l, r, w, F, rfl, _⟩ := h; rfl) (fun cdv A outer s H vs Q E hr h => ?_)
  obtain ⟨l, r, w, F, rfl, S, hw, hl, hr0, q⟩ := h
  refine ⟨_, (pss_cons (ps_if (PW.pt (pw_or (pt_cmpR v_isN (pv 0) pe_non (nomark _)) (pw_or1 (pt_cmpR v_isN (pv 1) pe_non (nomark _)))))
      (pss_one (ps_ret (pe_lst pa_nil)))
      pss_nil)
      (pss_one (ps_ret (pe_op v_repI (pe_lst (pa_cons pe_int pa_nil)) (pe_op op_sub (pe_op op_add (pv 2) pe_int) (pe_callB (v_max2 rfl) (by rfl) T.z_max PyProof.Rows.boot_max (pa_cons (pv 0) (pa_cons (pv 1) pa_nil)))))))), st_3_0 rfl ?_⟩
  cases l with
  | none =>
    have q : ∀ (a : Addr) H', Sts H' (pto a (.lst []) :: F) → Q (.ref a) H' := q
    fail "go"
    refine ifT rfl ?_
    fail "go"
    exact q _ _ (by fail "fp")
  | some x =>
    have hx := hl x rfl
    cases r with
    | none =>
      have q : ∀ (a : Addr) H', Sts H' (pto a (.lst []) :: F) → Q (.ref a) H' := q
      fail "go"
      refine ifF rfl ?_
      fail "go"
      refine ifT rfl ?_
      fail "go"
      exact q _ _ (by fail "fp")
    | some y =>
      have hy := hr0 y rfl
      have q : ∀ (a : Addr) H', Sts H' (pto a (.lst ((List.replicate (w + 1 - max x y).toNat [(0 : Int)]).flatten.map V.int)) :: F) → Q (.ref a) H' := q
      fail "go"
      refine ifF rfl ?_
      fail "go"
      refine ifF rfl ?_
      fail "go"
      refine g_max2 (i := x) (j := y) ?_
      fail "go"
      exact q _ _ (by fail "fp")
local macro_rules | `(tactic| fail "gs") => `(tactic| ((with_reducible show K29.spAbv _ _ _ _); refine ⟨_, _, _, _, rfl, (by assumption), Oc.pr (by fail "side"), (fun _ oq => Sm.up_rng (by omega) (by omega) oq), (fun _ oq => Sm.up_rng (by omega) (by omega) oq), fun oa oh os => ?_⟩))
theorem LL_at {w : Int} {a : List Int} {i : Nat} {x : V} (h : ((LL w a).map ov)[i]? = some x) : x = ov (up w a (some (i : Int))) ∧ (i : Int) ≤ w := by
  rw [List.getElem?_map] at h
  have hi : i < (LL w a).length := by
    cases e : (LL w a)[i]? with
    | none =>
      rw [e] at h
      cases h
    | some o => exact (List.getElem?_eq_some_iff.mp e).1
  rw [LL_len] at hi
  unfold LL at h
  rw [List.getElem?_map, List.getElem?_range hi] at h
  have e := (Option.some.inj h).symm
  exact ⟨e, by omega⟩
theorem LL_eq {w : Int} {a b : List Int} (h : ∀ j : Nat, (j : Int) ≤ w → up w a (some (j : Int)) = up w b (some (j : Int))) : LL w a = LL w b := by
  unfold LL
  refine List.map_congr_left fun j hj => ?_
  have hj := List.mem_range.mp hj
  exact h j (by omega)
def spPart (cS cX : Addr) : Sp := fun vs H Q E => ∃ (p q : Addr) (w v : Int) (a b : List Int) (τ : Tmap) (F : List Asr), vs = [.ref p, .ref q] ∧ Sts H (im τ :: stc cS p w (LL w a) :: stc cS q v (LL v b) :: F) ∧ (0 ≤ w ∧ w ≤ 1000) ∧
  (w = v → (LL w a = LL w b → ∀ H' υ, Le τ υ → Sts H' (im υ :: stc cS p w (LL w a) :: stc cS q v (LL v b) :: F) → Q .non H') ∧
    (∀ (h : Int) (t x y : Addr) (υ : Tmap) H', 0 ≤ h → h ≤ w → up w a (some h) ≠ up w b (some h) → Le τ υ → υ t = some [.ref x, .ref y] →
       Sts H' (im υ :: pto x (.lst ((abv w (up w a (some h)) (up w b (some h))).map V.int)) :: pto y (.lst ((zs h).map V.int)) :: stc cS p w (LL w a) :: stc cS q v (LL v b) :: F) → Q (.ref t) H')) ∧
  (w ≠ v → ∀ d H', Sts H' (pto d (.xd [("right", .int v), ("left", .int w)]) :: im τ :: stc cS p w (LL w a) :: stc cS q v (LL v b) :: F) → E (.ref cX) (some d) H')
theorem ok_parting (T : Txt P K mg) : FnOk P w K mg base (L2N.CX P w) 3 T.f_parting T.fd_parting ["first", "second"] (spPart T.c_Stretch T.c_CopiesDiffer) := by
  refine okN T.F_parting sc_parting (fun vs H Q E h => by obtain ⟨p, q, w, v, a, b, τ, F, rfl, _⟩ := h; rfl) (fun cdv A outer s H vs Q E hr h => ?_)
  obtain ⟨p, r, w, v, a, b, τ, F, rfl, S, hw, k1, k2⟩ := h
  refine ⟨_, (pss_cons (ps_if (pt_cmpR op_ne (oc_fld T.cl_Stretch T.n_Stretch_copies (pv 0)) (oc_fld T.cl_Stretch T.n_Stretch_copies (pv 1)) (nomark _))
      (pss_one (v_raise rfl (L2N.takes_of rfl rfl rfl rfl) (oc_mkx T.ox_CopiesDiffer T.ix_CopiesDiffer T.ti_CopiesDiffer (ok_CopiesDiffer_init T) (hr.mono (by decide)) T.b_CopiesDiffer_init .nil pass0 (by rfl) T.gc_CopiesDiffer (pa_cons (oc_fld T.cl_Stretch T.n_Stretch_copies (pv 0)) (pa_cons (oc_fld T.cl_Stretch T.n_Stretch_copies (pv 1)) pa_nil)))))
      pss_nil)
      (pss_cons (ps_for PassesOwn.leaving rfl (pi_enumZ rfl T.z_enumerate rfl T.z_zip (pa_cons (oc_meth0 (pv 0) T.cl_Stretch T.me_Stretch_lift (ok_Stretch_lift T) (hr.mono (by decide)) T.b_Stretch_lift) (pa_cons (oc_meth0 (pv 1) T.cl_Stretch T.me_Stretch_lift (ok_Stretch_lift T) (hr.mono (by decide)) T.b_Stretch_lift) pa_nil))) (oc_pg_tup (K := K) (n := 2) rfl rfl (pgs_cons (pg_name (i := 2) sc_parting.nd rfl (Or.inl rfl)) (pgs_cons (oc_pg_tup (K := K) (n := 2) rfl rfl (pgs_cons (pg_name (i := 3) sc_parting.nd rfl (Or.inl rfl)) (pgs_cons (pg_name (i := 4) sc_parting.nd rfl (Or.inl rfl)) pgs_nil))) pgs_nil)))
      (pss_one (ps_if (pt_cmpR op_ne (pv 3) (pv 4) (nomark _))
      (pss_one (ps_ret (pe_tup (pa_cons (v_call (ok_pages_above T) (hr.mono (by decide)) (by rfl) T.g_pages_above T.F_pages_above.kp T.b_pages_above (pa_cons (pv 3) (pa_cons (pv 4) (pa_cons (oc_fld T.cl_Stretch T.n_Stretch_copies (pv 0)) pa_nil)))) (pa_cons (pe_op v_repI (pe_lst (pa_cons pe_int pa_nil)) (pv 2)) pa_nil)))))
      pss_nil)))
      (pss_one (ps_ret pe_non)))), st_2_3 rfl ?_⟩
  fail "go"
  with_reducible refine ifB (fun h => ?_) (fun h => ?_)
  · have hne : w ≠ v := ont h
    fail "go"
    refine g_kMkX (Nat.le_of_ble_eq_true rfl) S fun a H' S' => ?_
    exact ⟨a, _, _, _, rfl, S', fun d H2 S2 => g_kXR S2 fun H3 S3 => k2 hne d _ S3⟩
  · have he : w = v := onf h
    subst he
    obtain ⟨kn, ky⟩ := k1 rfl
    fail "go"
    rename_i l1 H1 S1 l2 H2 S2
    refine for_enumZ (K := K) ((LL w a).map ov) ((LL w b).map ov) (by rw [List.length_map, List.length_map, LL_len, LL_len]) (fun i σ H => ∃ (c d e : Option V) (υ : Tmap), σ = [some (.ref p), some (.ref r), c, d, e] ∧ Le τ υ ∧ (∀ j : Nat, j < i → up w a (some (j : Int)) = up w b (some (j : Int))) ∧
      Sts H (im υ :: pto l1 (.lst ((LL w a).map ov)) :: pto l2 (.lst ((LL w b).map ov)) :: stc T.c_Stretch p w (LL w a) :: stc T.c_Stretch r w (LL w b) :: F)) ?_ (fun i σ H ⟨_, _, _, _, _, _, _, S⟩ => by fail "sq") (fun i σ H ⟨_, _, _, _, _, _, _, S⟩ => by fail "sq") ?_ ?_
    · exact ⟨none, none, none, τ, rfl, Le.refl _, fun j hj => absurd hj (Nat.not_lt_zero j), by fail "fp"⟩
    · rintro i x y σ H U Tt hx hy ⟨c, d, e, υ, rfl, hle, hj, S⟩ nU nT ne
      obtain ⟨rfl, hi⟩ := LL_at hx
      obtain ⟨rfl, _⟩ := LL_at hy
      obtain ⟨υ1, le1, e1, S1⟩ := S.newT [ov (up w a (some (i : Int))), ov (up w b (some (i : Int)))] nU
      obtain ⟨υ2, le2, e2, S2⟩ := S1.newT [.int (i : Nat), .ref U] (p := Tt) (by rw [upd_ne ne]; exact nT)
      have e1' := le2 _ _ e1
      have hle2 : Le τ υ2 := (hle.trans le1).trans le2
      clear S S1
      fail "go"
      with_reducible refine ifB (fun h => ?_) (fun h => ?_)
      · have hn := ont h
        fail "go"
        rename_i H3 S3 l4 H4 S4 t H5 υ5 le5 e5 S5
        exact ky i t _ _ υ5 _ (by omega) hi hn (hle2.trans le5) e5 (by fail "fp")
      · have hq := onf h
        fail "go"
        refine ⟨_, _, _, υ2, rfl, hle2, fun j hj2 => ?_, S2⟩
        rcases Nat.lt_succ_iff_lt_or_eq.mp hj2 with z | z
        · exact hj j z
        · rw [z]
          exact hq
    · rintro σ H ⟨c, d, e, υ, rfl, hle, hj, S⟩
      rw [List.length_map, LL_len] at hj
      fail "go"
      exact kn (LL_eq fun j h => hj j (by omega)) _ υ hle (by fail "fp")
/-! ### the law's own helpers -/
def spDoubled : Sp := fun vs H Q _ => ∃ (p a : Addr) (ns : List Int) (F : List Asr), vs = [.ref p, .ref a] ∧ Sts H (bag p :: pto a (.lst (ns.map V.int)) :: F) ∧ Nn ns ∧ ns.length ≤ 100 ∧ ∀ (b : Addr) (ms : List Int) H', Nn ms → ms.length ≤ 2 * ns.length → Sts H' (pto b (.lst (ms.map V.int)) :: bag p :: pto a (.lst (ns.map V.int)) :: F) → Q (.ref b) H'
theorem ok_law_doubled (T : Txt P K mg) : FnOk P w K mg base CX0 2 T.f_law_doubled T.fd_law_doubled ["bag", "blank"] spDoubled := by
  refine T.F_law_doubled.ok sc_law_doubled (fun vs H Q E h => by obtain ⟨p, a, ns, F, rfl, _⟩ := h; rfl) (fun cdv A outer s H vs Q E hr h => ?_)
  obtain ⟨p, a, ns, F, rfl, S, hn, hl, q⟩ := h
  refine ⟨_, (pss_cons (ps_set (i := 2) sc_law_doubled.nd rfl (Or.inl rfl) (pe_lst pa_nil))
      (pss_cons (ps_for PassesOwn.never rfl (pi_list (pv 1)) (pg_name (i := 3) sc_law_doubled.nd rfl (Or.inl rfl))
      (pss_one (ps_if (pt_cmpR op_lt (pv 3) pe_int (nomark _))
      (pss_one (ps_expr (pe_bm PySem.F.plainAttrs_list PySem.F.slot_list_append PySem.F.type_list_append v_appendI (pv 2) (pa_cons (pv 3) pa_nil))))
      (pss_one (ps_set (i := 2) sc_law_doubled.nd rfl (Or.inl rfl) (pe_op v_catI (pv 2) (pe_lc (own := [("place", 4)]) (g := gName 4) (tt := tYes) rfl sc_law_doubled.nd (pi_range1 rfl T.z_range (pa_cons (pe_op op_add pe_int (v_call (ok_law_take T) (hr.mono (by decide)) (by rfl) T.g_law_take T.F_law_take.kp T.b_law_take (pa_cons (pv 0) (pa_cons pe_int pa_nil)))) pa_nil)) (blkOk_by (own := [("place", 4)]) (N := ["bag", "blank", "following", "count", "place"]) (sc := defScope s_law_doubled) (by decide +kernel)) (fun _ _ _ _ _ => (pg_name (i := 4) sc_law_doubled.nd rfl (Or.inl rfl))) (fun _ _ _ _ _ => pts_nil) (fun _ _ _ _ _ => (pe_op op_add pe_int (v_call (ok_law_take T) (hr.mono (by decide)) (by rfl) T.g_law_take T.F_law_take.kp T.b_law_take (pa_cons (pv 0) (pa_cons pe_int pa_nil))))))))))))
      (pss_one (ps_ret (pv 2))))), st_2_3 rfl ?_⟩
  fail "go"
  rename_i f0 H1 S1
  refine for_list (K := K) (a := a) (xs := ns.map V.int) (fun i σ H => ∃ (f : Addr) (ms : List Int) (c : Option V), σ = [some (.ref p), some (.ref a), some (.ref f), c, none] ∧ Nn ms ∧ ms.length ≤ 2 * i ∧
    Sts H (pto f (.lst (ms.map V.int)) :: bag p :: pto a (.lst (ns.map V.int)) :: F)) ⟨f0, [], none, rfl, (fun _ h => nomatch h), Nat.le_refl _, by fail "fp"⟩ (fun i σ H _ ⟨_, _, _, _, _, _, S⟩ => by fail "sq") ?_ ?_
  · rintro i x σ H hi ⟨f, ms, c, rfl, hm, hml, S⟩
    obtain ⟨n, hn2, rfl⟩ := at_int hi
    have hi2 : i < ns.length := (List.getElem?_eq_some_iff.mp hn2).1
    have hn0 : 0 ≤ n := hn n (List.mem_of_getElem? hn2)
    fail "go"
    with_reducible refine ifB (fun d => ?_) (fun d => ?_)
    · fail "go"
      rename_i H2 S2
      refine ⟨f, ms ++ [n], _, rfl, nn_snoc hm hn0, by rw [List.length_append, List.length_singleton]; omega, ?_⟩
      rw [List.map_append] at *
      fail "fp"
    · fail "go"
      rename_i e H2 e0 e1 S2 D H3 S3
      refine oc_lcR (n := (1 + e).toNat) (fun i H => ∃ gs : List Int, gs.length = i ∧ Nn gs ∧ Sts H (pto D (.lst (gs.map V.int)) :: pto f (.lst (ms.map V.int)) :: bag p :: pto a (.lst (ns.map V.int)) :: F)) ⟨[], rfl, (fun _ h => nomatch h), by fail "fp"⟩ ?_ ?_
      · rintro j H hj ⟨gs, hgl, hg, S⟩
        fail "go"
        rename_i u H4 u0 u1 S4
        fail "lce"
        refine ⟨gs ++ [2 + u], by rw [List.length_append, hgl]; rfl, nn_snoc hg (by omega), ?_⟩
        rw [List.map_append]
        fail "fp"
      · rintro H ⟨gs, hgl, hg, S⟩
        fail "go"
        rename_i r H5 S5
        exact ⟨r, ms ++ gs, _, rfl, nn_app hm hg, by rw [List.length_append]; omega, by fail "fp"⟩
  · rintro σ H ⟨f, ms, c, rfl, hm, hml, S⟩
    rw [List.length_map] at hml
    fail "go"
    exact q _ ms _ hm hml S
local macro_rules | `(tactic| fail "gs") => `(tactic| ((with_reducible show K29.spDoubled _ _ _ _); refine ⟨_, _, _, _, rfl, Oc.pr (by fail "fr2"), Oc.pr (by assumption), Oc.pr (by fail "side"), fun (ob : PySem.Addr) (om : List Int) oh on ol os => ?_⟩))
theorem second_len {n : Nat} {a b : List Int} {x : Int} (h : a.length ≤ n) (g : b.length ≤ n) (k : n ≤ 50) : (a ++ [x] ++ b).length ≤ 200 := by
  rw [List.length_append, List.length_append, List.length_singleton]
  omega
def spSecond : Sp := fun vs H Q _ => ∃ (p a : Addr) (ns : List Int) (F : List Asr), vs = [.ref p, .ref a] ∧ Sts H (bag p :: pto a (.lst (ns.map V.int)) :: F) ∧ Nn ns ∧ ns.length ≤ 50 ∧ ∀ (b : Addr) (ms : List Int) H', Nn ms → ms.length ≤ 200 → Sts H' (pto b (.lst (ms.map V.int)) :: bag p :: pto a (.lst (ns.map V.int)) :: F) → Q (.ref b) H'
theorem ok_law_second (T : Txt P K mg) : FnOk P w K mg base CX0 4 T.f_law_second T.fd_law_second ["bag", "blank"] spSecond := by
  refine T.F_law_second.ok sc_law_second (fun vs H Q E h => by obtain ⟨p, a, ns, F, rfl, _⟩ := h; rfl) (fun cdv A outer s H vs Q E hr h => ?_)
  obtain ⟨p, a, ns, F, rfl, S, hn, hl, q⟩ := h
  refine ⟨_, (pss_cons (ps_set (i := 2) sc_law_second.nd rfl (Or.inl rfl) (v_call (ok_law_take T) (hr.mono (by decide)) (by rfl) T.g_law_take T.F_law_take.kp T.b_law_take (pa_cons (pv 0) (pa_cons pe_int pa_nil))))
      (pss_cons (ps_set (i := 3) sc_law_second.nd rfl (Or.inl rfl) (v_call (ok_law_take T) (hr.mono (by decide)) (by rfl) T.g_law_take T.F_law_take.kp T.b_law_take (pa_cons (pv 0) (pa_cons (pe_op op_add (pe_callB (v_lenI (K := K) rfl) (by rfl) T.z_len PySem.boot_len (pa_cons (pv 1) pa_nil)) pe_int) pa_nil))))
      (pss_cons (ps_if (pt_cmpR op_eq (pv 2) pe_int (nomark _))
      (pss_one (ps_ret (v_call (ok_law_pages T) (hr.mono (by decide)) (by rfl) T.g_law_pages T.F_law_pages.kp T.b_law_pages (pa_cons (pv 0) pa_nil))))
      pss_nil)
      (pss_cons (ps_if (PW.pt (pw_and (pt_cmpR op_eq (pv 2) pe_int (nomark _)) (pw_and1 (pt_cmpR op_lt (pv 3) (pe_callB (v_lenI (K := K) rfl) (by rfl) T.z_len PySem.boot_len (pa_cons (pv 1) pa_nil)) (nomark _)))))
      (pss_one (ps_ret (pe_op v_catI (pe_op v_catI (pe_slice (v_slI (K := K) rfl) (pv 1) po_none (po_some (pv 3))) (pe_lst (pa_cons (v_call (ok_law_page T) (hr.mono (by decide)) (by rfl) T.g_law_page T.F_law_page.kp T.b_law_page (pa_cons (pv 0) pa_nil)) pa_nil))) (pe_slice (v_slI (K := K) rfl) (pv 1) (po_some (pe_op op_add (pv 3) pe_int)) po_none))))
      pss_nil)
      (pss_cons (ps_if (pt_cmpR op_eq (pv 2) pe_int (nomark _))
      (pss_one (ps_ret (pe_op v_catI (pe_op v_catI (pe_slice (v_slI (K := K) rfl) (pv 1) po_none (po_some (pv 3))) (pe_lst (pa_cons (v_call (ok_law_page T) (hr.mono (by decide)) (by rfl) T.g_law_page T.F_law_page.kp T.b_law_page (pa_cons (pv 0) pa_nil)) pa_nil))) (pe_slice (v_slI (K := K) rfl) (pv 1) (po_some (pv 3)) po_none))))
      pss_nil)
      (pss_cons (ps_if (pt_cmpR op_eq (pv 2) pe_int (nomark _))
      (pss_one (ps_ret (pe_op v_catI (pe_slice (v_slI (K := K) rfl) (pv 1) po_none (po_some (pv 3))) (pe_slice (v_slI (K := K) rfl) (pv 1) (po_some (pe_op op_add (pv 3) pe_int)) po_none))))
      pss_nil)
      (pss_cons (ps_if (pt_cmpR op_eq (pv 2) pe_int (nomark _))
      (pss_one (ps_ret (v_call (ok_law_doubled T) (hr.mono (by decide)) (by rfl) T.g_law_doubled T.F_law_doubled.kp T.b_law_doubled (pa_cons (pv 0) (pa_cons (pv 1) pa_nil)))))
      pss_nil)
      (pss_cons (ps_if (pt_cmpR op_eq (pv 2) pe_int (nomark _))
      (pss_one (ps_ret (pe_op v_catI (pe_op v_catI (pe_slice (v_slI (K := K) rfl) (pv 1) po_none (po_some (pv 3))) (pe_lst (pa_cons pe_int pa_nil))) (pe_slice (v_slI (K := K) rfl) (pv 1) (po_some (pv 3)) po_none))))
      pss_nil)
      (pss_cons (ps_if (pt_cmpR op_eq (pv 2) pe_int (nomark _))
      (pss_one (ps_ret (pe_op v_catI (pe_lst (pa_cons (pe_op op_add pe_int (v_call (ok_law_take T) (hr.mono (by decide)) (by rfl) T.g_law_take T.F_law_take.kp T.b_law_take (pa_cons (pv 0) (pa_cons pe_int pa_nil)))) pa_nil)) (pv 1))))
      pss_nil)
      (pss_one (ps_ret (pe_callTy (v_list (K := K) rfl) (by rfl) T.z_list PyProof.Rows.boot_list (pa_cons (pv 1) pa_nil))))))))))))), st_2_2 rfl ?_⟩
  have kl := fun lo hi => cut_len ns lo hi
  fail "go"
  rename_i way H1 w0 w1 S1 at0 H2 t0 t1 S2
  have k1 := kl none (some at0)
  have k2 := kl (some (at0 + 1)) none
  have k3 := kl (some at0) none
  with_reducible refine ifB (fun c => ?_) (fun c => ?_)
  · fail "go"
    rename_i b ms H3 hm hml S3
    exact q _ ms _ hm (by omega) (by fail "fp")
  · fail "go"
    with_reducible refine ifB (fun c1 => ?_) (fun c1 => ?_)
    · have c1 := odt c1
      fail "go"
      with_reducible refine ifB (fun c2 => ?_) (fun c2 => ?_)
      · fail "go"
        rename_i y1 h1 s1 pg h2 p0 p1 s2 y3 h3 s3 y4 h4 s4 y5 h5 s5 y6 h6 s6
        exact q _ (cutL ns none (some at0) ++ [pg] ++ cutL ns (some (at0 + 1)) none) _ (nn_app (nn_app (nn_cut hn _ _) (nn_one p0)) (nn_cut hn _ _)) (second_len (kl _ _) (kl _ _) hl) (by fail "fp")
      · fail "gd"
        exact q _ ns _ hn (by omega) (by fail "fp")
    · fail "go"
      with_reducible refine ifB (fun c2 => ?_) (fun c2 => ?_)
      · fail "go"
        rename_i y1 h1 s1 pg h2 p0 p1 s2 y3 h3 s3 y4 h4 s4 y5 h5 s5 y6 h6 s6
        exact q _ (cutL ns none (some at0) ++ [pg] ++ cutL ns (some at0) none) _ (nn_app (nn_app (nn_cut hn _ _) (nn_one p0)) (nn_cut hn _ _)) (second_len (kl _ _) (kl _ _) hl) (by fail "fp")
      · fail "go"
        with_reducible refine ifB (fun c3 => ?_) (fun c3 => ?_)
        · fail "go"
          exact q _ (cutL ns none (some at0) ++ cutL ns (some (at0 + 1)) none) _ (nn_app (nn_cut hn _ _) (nn_cut hn _ _)) (by have k1 := kl none (some at0); have k2 := kl (some (at0 + 1)) none; rw [List.length_append]; omega) (by fail "fp")
        · fail "go"
          with_reducible refine ifB (fun c4 => ?_) (fun c4 => ?_)
          · fail "go"
            rename_i b ms H3 hm hml S3
            exact q _ ms _ hm (by omega) (by fail "fp")
          · fail "go"
            with_reducible refine ifB (fun c5 => ?_) (fun c5 => ?_)
            · fail "go"
              exact q _ (cutL ns none (some at0) ++ [2] ++ cutL ns (some at0) none) _ (nn_app (nn_app (nn_cut hn _ _) (nn_one (by decide))) (nn_cut hn _ _)) (second_len (kl _ _) (kl _ _) hl) (by fail "fp")
            · fail "go"
              with_reducible refine ifB (fun c6 => ?_) (fun c6 => ?_)
              · fail "go"
                rename_i pg h2 p0 p1 s2 y3 h3 s3 y4 h4 s4
                exact q _ ([2 + pg] ++ ns) _ (nn_app (nn_one (by omega)) hn) (by rw [List.length_append, List.length_singleton]; omega) (by fail "fp")
              · fail "go"
                exact q _ ns _ hn (by omega) (by fail "fp")
local macro_rules | `(tactic| fail "gs") => `(tactic| ((with_reducible show K29.spSecond _ _ _ _); refine ⟨_, _, _, _, rfl, Oc.pr (by fail "fr2"), Oc.pr (by assumption), Oc.pr (by fail "side"), fun (ob : PySem.Addr) (om : List Int) oh on ol os => ?_⟩))
def spHolds : Sp := fun vs H Q _ => ∃ (a : Addr) (w : Int) (ws : List Int) (F : List Asr), vs = [.ref a, .int w] ∧ Sts H (pto a (.lst (ws.map V.int)) :: F) ∧ Nn ws ∧ ∀ H', Sts H' (pto a (.lst (ws.map V.int)) :: F) → Q (.bl (holds w ws)) H'
theorem ok_law_holds (T : Txt P K mg) : FnOk P w K mg base CX0 3 T.f_law_holds T.fd_law_holds ["blank", "copies"] spHolds := by
  refine T.F_law_holds.ok sc_law_holds (fun vs H Q E h => by obtain ⟨a, w, ws, F, rfl, _⟩ := h; rfl) (fun cdv A outer s H vs Q E hr h => ?_)
  obtain ⟨a, w, ws, F, rfl, S, hn, q⟩ := h
  refine ⟨_, (pss_one (ps_ret (pe_cmpR v_notN (v_call (ok_law_rise T) (hr.mono (by decide)) (by rfl) T.g_law_rise T.F_law_rise.kp T.b_law_rise (pa_cons (pv 0) (pa_cons pe_int (pa_cons (pv 1) pa_nil)))) pe_non (nomark _)))), st_2_0 rfl ?_⟩
  fail "go"
  exact q _ (by fail "fp")
local macro_rules | `(tactic| fail "gs") => `(tactic| ((with_reducible show K29.spHolds _ _ _ _); refine ⟨_, _, _, _, rfl, Oc.pr (by fail "frI"), Oc.pr (by fail "nn"), fun oh os => ?_⟩))
def spStands (cS : Addr) : Sp := fun vs H Q _ => ∃ (m b a d : Addr) (w : Int) (us ws ds : List Int) (F : List Asr), vs = [.ref m, .ref b, .ref a, .ref d, .int w] ∧ Sts H (stc cS m w (LL w ws) :: pto b (.lst (ws.map V.int)) :: pto a (.lst (us.map V.int)) :: pto d (.lst (ds.map V.int)) :: F) ∧ (Nn us ∧ Nn ws ∧ Nn ds) ∧ (us.length ≤ 2000 ∧ ws.length ≤ 2000 ∧ ds.length ≤ 2000) ∧ (1 ≤ w ∧ w ≤ 1000) ∧
  ∀ H', Sts H' (stc cS m w (LL w ws) :: pto b (.lst (ws.map V.int)) :: pto a (.lst (us.map V.int)) :: pto d (.lst (ds.map V.int)) :: F) → Q (.bl true) H'
theorem ok_law_stands (T : Txt P K mg) : FnOk P w K mg base CX0 6 T.f_law_stands T.fd_law_stands ["made", "blank", "above", "below", "copies"] (spStands T.c_Stretch) := by
  refine T.F_law_stands.ok sc_law_stands (fun vs H Q E h => by obtain ⟨m, b, a, d, w, us, ws, ds, F, rfl, _⟩ := h; rfl) (fun cdv A outer s H vs Q E hr h => ?_)
  obtain ⟨m, b, a, d, w, us, ws, ds, F, rfl, S, ⟨nu, nw, nd⟩, ⟨lu, lw, ld⟩, hw, q⟩ := h
  refine ⟨_, (pss_cons (ps_set (i := 5) sc_law_stands.nd rfl (Or.inl rfl) (oc_addOwn (CX := L2N.CX _ _) (E := fun _ => E0) T.sf_Stretch T.fa_Stretch_add T.ia_Stretch_add (ok_Stretch_add T) (hr.mono (by decide)) T.b_Stretch_add (fun _ => noPassN) (oc_addOwn (CX := L2N.CX _ _) (E := fun _ => E0) T.sf_Stretch T.fa_Stretch_add T.ia_Stretch_add (ok_Stretch_add T) (hr.mono (by decide)) T.b_Stretch_add (fun _ => noPassN) (oc_make T.mk_Stretch (ok_Stretch_init T) (hr.mono (by decide)) (by rfl) T.gc_Stretch T.b_Stretch_init T.vd_Stretch_init (pa_cons (pe_callTy (v_list (K := K) rfl) (by rfl) T.z_list PyProof.Rows.boot_list (pa_cons (pv 2) pa_nil)) (pa_cons (pv 4) pa_nil))) (pv 0)) (oc_make T.mk_Stretch (ok_Stretch_init T) (hr.mono (by decide)) (by rfl) T.gc_Stretch T.b_Stretch_init T.vd_Stretch_init (pa_cons (pe_callTy (v_list (K := K) rfl) (by rfl) T.z_list PyProof.Rows.boot_list (pa_cons (pv 3) pa_nil)) (pa_cons (pv 4) pa_nil)))))
      (pss_cons (ps_set (i := 6) sc_law_stands.nd rfl (Or.inl rfl) (oc_meth0 (pv 5) T.cl_Stretch T.me_Stretch_is_keepable (ok_Stretch_is_keepable T) (hr.mono (by decide)) T.b_Stretch_is_keepable))
      (pss_one (ps_ret (pe_and (pe_callB v_isBB (by rfl) T.z_isinstance PyProof.Rows.boot_isinstance (pa_cons (pv 6) (pa_cons (pe_bltn (v := .ty "bool") (by rfl) T.z_bool PyProof.Rows.boot_bool rfl) pa_nil))) (pe_one (pe_cmpR op_eq (pv 6) (v_call (ok_law_holds T) (hr.mono (by decide)) (by rfl) T.g_law_holds T.F_law_holds.kp T.b_law_holds (pa_cons (pe_op v_catI (pe_op v_catI (pv 2) (pv 1)) (pv 3)) (pa_cons (pv 4) pa_nil))) (nomark _)))))))), st_5_2 rfl ?_⟩
  fail "go"
  have e : (gO (LL w (us ++ ws ++ ds)) 0).isSome = holds w (us ++ ws ++ ds) := by
    show (gt (LL w (us ++ ws ++ ds)) 0).isSome = _
    rw [gt_zero _ _ (by omega)]
    rfl
  rw [e, decide_eq_true rfl]
  exact q _ (by fail "fp")
local macro_rules | `(tactic| fail "fr4") => `(tactic| first | (refine Oc.Sts.under (fun _ ot => ?_) (Oc.Sts.to0 (by assumption)); fail "fr3") | (refine Oc.Sts.under (fun _ ot => ?_) (Oc.Sts.to1 (by assumption)); fail "fr3") | (refine Oc.Sts.under (fun _ ot => ?_) (Oc.Sts.to2 (by assumption)); fail "fr3") | (refine Oc.Sts.under (fun _ ot => ?_) (Oc.Sts.to3 (by assumption)); fail "fr3") | (refine Oc.Sts.under (fun _ ot => ?_) (Oc.Sts.to4 (by assumption)); fail "fr3") | (refine Oc.Sts.under (fun _ ot => ?_) (Oc.Sts.to5 (by assumption)); fail "fr3") | (refine Oc.Sts.under (fun _ ot => ?_) (Oc.Sts.to6 (by assumption)); fail "fr3") | (refine Oc.Sts.under (fun _ ot => ?_) (Oc.Sts.to7 (by assumption)); fail "fr3") | (refine Oc.Sts.under (fun _ ot => ?_) (Oc.Sts.to8 (by assumption)); fail "fr3") | (refine Oc.Sts.under (fun _ ot => ?_) (Oc.Sts.to9 (by assumption)); fail "fr3") | (refine Oc.Sts.under (fun _ ot => ?_) (Oc.Sts.to10 (by assumption)); fail "fr3"))
local macro_rules | `(tactic| fail "gs") => `(tactic| ((with_reducible show K29.spStands _ _ _ _ _); refine ⟨_, _, _, _, _, _, _, _, _, rfl, Oc.pr (by fail "fr4"), Oc.pr (by exact ⟨by fail "nn", by fail "nn", by fail "nn"⟩), Oc.pr (by exact ⟨by fail "side", by fail "side", by fail "side"⟩), Oc.pr (by fail "side"), fun oh os => ?_⟩))
theorem map_true (ns : List Int) : (ns.map fun _ => V.bl true) = (ns.map fun _ => true).map V.bl := by
  rw [List.map_map]
  rfl
theorem map_neg (ns : List Int) : (ns.map fun n => V.bl (decide (n < 0))) = (ns.map fun n => decide (n < 0)).map V.bl := by
  rw [List.map_map]
  rfl
theorem any_neg {ns : List Int} (h : Nn ns) : ((ns.map fun n => decide (n < 0)).any fun b => b) = false := by
  rw [List.any_eq_false]
  intro b hb
  obtain ⟨n, hn, rfl⟩ := List.mem_map.mp hb
  have := h n hn
  simp only [decide_eq_true_eq]
  omega
def spParts : Sp := fun vs H Q _ => ∃ (t x y a b : Addr) (w : Int) (us ds ws zs : List Int) (τ : Tmap) (F : List Asr), vs = [.ref t, .ref a, .ref b, .int w] ∧ τ t = some [.ref x, .ref y] ∧ Sts H (im τ :: pto x (.lst (us.map V.int)) :: pto y (.lst (ds.map V.int)) :: pto a (.lst (ws.map V.int)) :: pto b (.lst (zs.map V.int)) :: F) ∧
  (Nn us ∧ Nn ds ∧ Nn ws ∧ Nn zs) ∧ (us.length ≤ 2000 ∧ ds.length ≤ 2000 ∧ ws.length ≤ 1000 ∧ zs.length ≤ 1000) ∧ holds w (us ++ ws ++ ds) ≠ holds w (us ++ zs ++ ds) ∧
  ∀ H', Sts H' (im τ :: pto x (.lst (us.map V.int)) :: pto y (.lst (ds.map V.int)) :: pto a (.lst (ws.map V.int)) :: pto b (.lst (zs.map V.int)) :: F) → Q (.bl true) H'
theorem ok_law_parts (T : Txt P K mg) : FnOk P w K mg base CX0 4 T.f_law_parts T.fd_law_parts ["told", "first", "second", "copies"] spParts := by
  refine T.F_law_parts.ok sc_law_parts (fun vs H Q E h => by obtain ⟨t, x, y, a, b, w, us, ds, ws, zs, τ, F, rfl, _⟩ := h; rfl) (fun cdv A outer s H vs Q E hr h => ?_)
  obtain ⟨t, x, y, a, b, w, us, ds, ws, zs, τ, F, rfl, ht, S, ⟨nu, nd, nw, nz⟩, ⟨lu, ld, lw, lz⟩, hd, q⟩ := h
  refine ⟨_, (pss_cons (ps_if (PW.pt (pw_or (pt_not (pt_val (pe_callB v_isTT (by rfl) T.z_isinstance PyProof.Rows.boot_isinstance (pa_cons (pv 0) (pa_cons (pe_bltn (v := .ty "tuple") (by rfl) T.z_tuple PyProof.Rows.boot_tuple rfl) pa_nil))))) (pw_or1 (pt_cmpR op_ne (pe_callB (v_lenT (K := K) rfl) (by rfl) T.z_len PySem.boot_len (pa_cons (pv 0) pa_nil)) pe_int (nomark _)))))
      (pss_one (ps_ret pe_bl))
      pss_nil)
      (pss_cons (ps_for PassesOwn.never rfl (pi_list (pe_lst (pa_cons (pe_ix (v_ixT (K := K) rfl) (pv 0) pe_int (fun _ _ => rfl)) (pa_cons (pe_ix (v_ixT (K := K) rfl) (pv 0) pe_int (fun _ _ => rfl)) pa_nil)))) (pg_name (i := 4) sc_law_parts.nd rfl (Or.inl rfl))
      (pss_cons (ps_if (PW.pt (pw_or (pt_not (pt_val (pe_callB v_isLL (by rfl) T.z_isinstance PyProof.Rows.boot_isinstance (pa_cons (pv 4) (pa_cons (pe_bltn (v := .ty "list") (by rfl) T.z_list PyProof.Rows.boot_list rfl) pa_nil))))) (pw_or1 (pt_not (pt_val (pe_callB (oc_allB (K := K) rfl rfl) (by rfl) T.z_all PyProof.Rows.boot_all (pa_cons (pe_lc (own := [("count", 6)]) (g := gName 6) (tt := tYes) rfl sc_law_parts.nd (pi_list (pv 4)) (blkOk_by (own := [("count", 6)]) (N := ["told", "first", "second", "copies", "blank", "left", "count"]) (sc := defScope s_law_parts) (by decide +kernel)) (fun _ _ _ _ _ => (pg_name (i := 6) sc_law_parts.nd rfl (Or.inl rfl))) (fun _ _ _ _ _ => pts_nil) (fun _ _ _ _ _ => (v_call (ok_law_is_integer T) (hr.mono (by decide)) (by rfl) T.g_law_is_integer T.F_law_is_integer.kp T.b_law_is_integer (pa_cons (pv 6) pa_nil)))) pa_nil)))))))
      (pss_one (ps_ret pe_bl))
      pss_nil)
      (pss_one (ps_if (pt_val (pe_callB (oc_anyB (K := K) rfl rfl) (by rfl) T.z_any PyProof.Rows.boot_any (pa_cons (pe_lc (own := [("count", 6)]) (g := gName 6) (tt := tYes) rfl sc_law_parts.nd (pi_list (pv 4)) (blkOk_by (own := [("count", 6)]) (N := ["told", "first", "second", "copies", "blank", "left", "count"]) (sc := defScope s_law_parts) (by decide +kernel)) (fun _ _ _ _ _ => (pg_name (i := 6) sc_law_parts.nd rfl (Or.inl rfl))) (fun _ _ _ _ _ => pts_nil) (fun _ _ _ _ _ => (pe_cmpR op_lt (pv 6) pe_int (nomark _)))) pa_nil)))
      (pss_one (ps_ret pe_bl))
      pss_nil))))
      (pss_cons (ps_set (i := 5) sc_law_parts.nd rfl (Or.inl rfl) (v_call (ok_law_holds T) (hr.mono (by decide)) (by rfl) T.g_law_holds T.F_law_holds.kp T.b_law_holds (pa_cons (pe_op v_catI (pe_op v_catI (pe_ix (v_ixT (K := K) rfl) (pv 0) pe_int (fun _ _ => rfl)) (pv 1)) (pe_ix (v_ixT (K := K) rfl) (pv 0) pe_int (fun _ _ => rfl))) (pa_cons (pv 3) pa_nil))))
      (pss_one (ps_ret (pe_cmpR op_ne (pv 5) (v_call (ok_law_holds T) (hr.mono (by decide)) (by rfl) T.g_law_holds T.F_law_holds.kp T.b_law_holds (pa_cons (pe_op v_catI (pe_op v_catI (pe_ix (v_ixT (K := K) rfl) (pv 0) pe_int (fun _ _ => rfl)) (pv 2)) (pe_ix (v_ixT (K := K) rfl) (pv 0) pe_int (fun _ _ => rfl))) (pa_cons (pv 3) pa_nil))) (nomark _))))))), st_4_3 rfl ?_⟩
  fail "gd"
  refine ifF rfl ?_
  fail "go"
  rename_i l H1 S1
  refine for_list (K := K) (a := l) (xs := [.ref x, .ref y]) (fun i σ H => ∃ c : Option V, σ = [some (.ref t), some (.ref a), some (.ref b), some (.int w), c, none, none] ∧
    Sts H (pto l (.lst [.ref x, .ref y]) :: im τ :: pto x (.lst (us.map V.int)) :: pto y (.lst (ds.map V.int)) :: pto a (.lst (ws.map V.int)) :: pto b (.lst (zs.map V.int)) :: F)) ⟨none, rfl, by fail "fp"⟩ (fun i σ H _ ⟨_, _, S⟩ => by fail "sq") ?_ ?_
  · rintro i z σ H hx ⟨c, rfl, S⟩
    match i, hx with
    | 0, hx =>
      cases hx
      fail "go"
      rename_i D H3 S3
      refine lc_pureV V.int us (fun _ => V.bl true) S3 (fun H S => by fail "sq") (by omega) (fun _ => rfl) (fun o H Q' ho S q => ?_) (fun H4 S4 => ?_)
      · fail "go"
        exact q
      rw [map_true] at S4
      fail "go"
      refine ifB (fun c => absurd c (by simp)) (fun _ => ?_)
      fail "go"
      rename_i D2 H5 S5
      refine lc_pureV V.int us (fun n => V.bl (decide (n < 0))) S5 (fun H S => by fail "sq") (by omega) (fun _ => rfl) (fun o H Q' ho S q => ?_) (fun H6 S6 => ?_)
      · fail "go"
        exact q
      rw [map_neg] at S6
      fail "go"
      refine ifF (any_neg nu) ?_
      fail "go"
      exact ⟨_, rfl, by fail "fp"⟩
    | 1, hx =>
      cases hx
      fail "go"
      rename_i D H3 S3
      refine lc_pureV V.int ds (fun _ => V.bl true) S3 (fun H S => by fail "sq") (by omega) (fun _ => rfl) (fun o H Q' ho S q => ?_) (fun H4 S4 => ?_)
      · fail "go"
        exact q
      rw [map_true] at S4
      fail "go"
      refine ifB (fun c => absurd c (by simp)) (fun _ => ?_)
      fail "go"
      rename_i D2 H5 S5
      refine lc_pureV V.int ds (fun n => V.bl (decide (n < 0))) S5 (fun H S => by fail "sq") (by omega) (fun _ => rfl) (fun o H Q' ho S q => ?_) (fun H6 S6 => ?_)
      · fail "go"
        exact q
      rw [map_neg] at S6
      fail "go"
      refine ifF (any_neg nd) ?_
      fail "go"
      exact ⟨_, rfl, by fail "fp"⟩
  · rintro σ H ⟨c, rfl, S⟩
    fail "go"
    rw [decide_eq_false hd]
    exact q _ (by fail "fp")
local macro_rules | `(tactic| fail "gs") => `(tactic| ((with_reducible show K29.spParts _ _ _ _); refine ⟨_, _, _, _, _, _, _, _, _, _, _, _, rfl, (by assumption), Oc.pr (by fail "fr5"), Oc.pr (by exact ⟨by fail "nn", by fail "nn", by fail "nn", by fail "nn"⟩), Oc.pr (by exact ⟨by fail "side", by fail "side", by fail "side", by fail "side"⟩), Oc.pr (by assumption), fun oh os => ?_⟩))

--PART
local macro_rules | `(tactic| fail "fr5") => `(tactic| first | (refine Oc.Sts.under (fun _ ot => ?_) (Oc.Sts.to0 (by assumption)); fail "fr4") | (refine Oc.Sts.under (fun _ ot => ?_) (Oc.Sts.to1 (by assumption)); fail "fr4") | (refine Oc.Sts.under (fun _ ot => ?_) (Oc.Sts.to2 (by assumption)); fail "fr4") | (refine Oc.Sts.under (fun _ ot => ?_) (Oc.Sts.to3 (by assumption)); fail "fr4") | (refine Oc.Sts.under (fun _ ot => ?_) (Oc.Sts.to4 (by assumption)); fail "fr4") | (refine Oc.Sts.under (fun _ ot => ?_) (Oc.Sts.to5 (by assumption)); fail "fr4") | (refine Oc.Sts.under (fun _ ot => ?_) (Oc.Sts.to6 (by assumption)); fail "fr4") | (refine Oc.Sts.under (fun _ ot => ?_) (Oc.Sts.to7 (by assumption)); fail "fr4") | (refine Oc.Sts.under (fun _ ot => ?_) (Oc.Sts.to8 (by assumption)); fail "fr4") | (refine Oc.Sts.under (fun _ ot => ?_) (Oc.Sts.to9 (by assumption)); fail "fr4") | (refine Oc.Sts.under (fun _ ot => ?_) (Oc.Sts.to10 (by assumption)); fail "fr4") | (refine Oc.Sts.under (fun _ ot => ?_) (Oc.Sts.to11 (by assumption)); fail "fr4") | (refine Oc.Sts.under (fun _ ot => ?_) (Oc.Sts.to12 (by assumption)); fail "fr4") | (refine Oc.Sts.under (fun _ ot => ?_) (Oc.Sts.to13 (by assumption)); fail "fr4") | (refine Oc.Sts.under (fun _ ot => ?_) (Oc.Sts.to14 (by assumption)); fail "fr4") | (refine Oc.Sts.under (fun _ ot => ?_) (Oc.Sts.to15 (by assumption)); fail "fr4") | (refine Oc.Sts.under (fun _ ot => ?_) (Oc.Sts.to16 (by assumption)); fail "fr4"))
/-! ### the law over parting -/
def spP1 (cS : Addr) : Sp := fun vs H Q _ => ∃ (p q a : Addr) (w : Int) (ws : List Int) (τ : Tmap) (F : List Asr), vs = [.ref p, .ref q, .ref a, .ref a, .int w] ∧ Sts H (im τ :: stc cS p w (LL w ws) :: stc cS q w (LL w ws) :: pto a (.lst (ws.map V.int)) :: F) ∧ Nn ws ∧ ws.length ≤ 200 ∧ (1 ≤ w ∧ w ≤ 1000) ∧
  ∀ H' υ, Le τ υ → Sts H' (im υ :: stc cS p w (LL w ws) :: stc cS q w (LL w ws) :: pto a (.lst (ws.map V.int)) :: F) → Q (.bl true) H'
def spP2 (cS : Addr) : Sp := fun vs H Q _ => ∃ (p q a b : Addr) (w : Int) (ws zs : List Int) (τ : Tmap) (F : List Asr), vs = [.ref p, .ref q, .ref a, .ref b, .int w] ∧ Sts H (im τ :: stc cS p w (LL w ws) :: stc cS q w (LL w zs) :: pto a (.lst (ws.map V.int)) :: pto b (.lst (zs.map V.int)) :: F) ∧ (Nn ws ∧ Nn zs) ∧ (ws.length ≤ 200 ∧ zs.length ≤ 200) ∧ (1 ≤ w ∧ w ≤ 1000) ∧
  ∀ H' υ, Le τ υ → Sts H' (im υ :: stc cS p w (LL w ws) :: stc cS q w (LL w zs) :: pto a (.lst (ws.map V.int)) :: pto b (.lst (zs.map V.int)) :: F) → Q (.bl true) H'
def spParted (cS : Addr) : Sp := fun vs H Q E => spP1 cS vs H Q E ∨ spP2 cS vs H Q E
theorem part_eq {w h : Int} {a b : List Int} (e : LL w a = LL w b) (h0 : 0 ≤ h) (h1 : h ≤ w) : up w a (some h) = up w b (some h) := by
  rw [← gt_LL a h0 h1, ← gt_LL b h0 h1, e]
theorem ok_law_parted (T : Txt P K mg) : FnOk P w K mg base CX0 7 T.f_law_parted T.fd_law_parted ["one", "two", "first", "second", "copies"] (spParted T.c_Stretch) := by
  refine T.F_law_parted.ok sc_law_parted (fun vs H Q E h => by
    rcases h with ⟨p, q, a, w, ws, τ, F, rfl, _⟩ | ⟨p, q, a, b, w, ws, zs, τ, F, rfl, _⟩
    · rfl
    · rfl) (fun cdv A outer s H vs Q E hr h => ?_)
  rcases h with ⟨p, r, a, w, ws, τ, F, rfl, S, hn, hl, hw, q⟩ | ⟨p, r, a, b, w, ws, zs, τ, F, rfl, S, ⟨nw, nz⟩, ⟨lw, lz⟩, hw, q⟩
  · refine ⟨_, (pss_cons (ps_set (i := 5) sc_law_parted.nd rfl (Or.inl rfl) (pe_cmpR (v_eqOs (K := K) rfl hr.units) (v_call (ok_law_lift T) (hr.mono (by decide)) (by rfl) T.g_law_lift T.F_law_lift.kp T.b_law_lift (pa_cons (pv 2) (pa_cons (pv 4) pa_nil))) (v_call (ok_law_lift T) (hr.mono (by decide)) (by rfl) T.g_law_lift T.F_law_lift.kp T.b_law_lift (pa_cons (pv 3) (pa_cons (pv 4) pa_nil))) (nomark _)))
      (pss_cons (ps_for PassesOwn.never rfl (pi_range1 rfl T.z_range (pa_cons pe_int pa_nil)) (pg_name (i := 6) sc_law_parted.nd rfl (Or.inl rfl))
      (pss_cons (ps_set (i := 7) sc_law_parted.nd rfl (Or.inl rfl) (pe_callS (CX := L2N.CX _ _) (E := fun _ => E0) (ok_parting T) (hr.mono (by decide)) (by rfl) T.g_parting T.F_parting.kp T.b_parting (fun _ => noPassN) (pa_cons (pv 0) (pa_cons (pv 1) pa_nil))))
      (pss_cons (ps_if (PW.pt (pw_and (pt_val (pv 5)) (pw_and1 (pt_cmpR v_notN (pv 7) pe_non (nomark _)))))
      (pss_one (ps_ret pe_bl))
      pss_nil)
      (pss_one (ps_if (pt_not (pt_val (pv 5)))
      (pss_cons (ps_if (pt_not (pt_val (v_call (ok_law_parts T) (hr.mono (by decide)) (by rfl) T.g_law_parts T.F_law_parts.kp T.b_law_parts (pa_cons (pv 7) (pa_cons (pv 2) (pa_cons (pv 3) (pa_cons (pv 4) pa_nil)))))))
      (pss_one (ps_ret pe_bl))
      pss_nil)
      (pss_cons (ps_set (i := 8) sc_law_parted.nd rfl (Or.inl rfl) (pe_ix (v_ixT (K := K) rfl) (pv 7) pe_int (fun _ _ => rfl)))
      (pss_cons (ps_set (i := 9) sc_law_parted.nd rfl (Or.inl rfl) (pe_ix (v_ixT (K := K) rfl) (pv 7) pe_int (fun _ _ => rfl)))
      (pss_cons (ps_if (pt_not (pt_val (v_call (ok_law_stands T) (hr.mono (by decide)) (by rfl) T.g_law_stands T.F_law_stands.kp T.b_law_stands (pa_cons (pv 0) (pa_cons (pv 2) (pa_cons (pv 8) (pa_cons (pv 9) (pa_cons (pv 4) pa_nil))))))))
      (pss_one (ps_ret pe_bl))
      pss_nil)
      (pss_cons (ps_if (pt_not (pt_val (v_call (ok_law_stands T) (hr.mono (by decide)) (by rfl) T.g_law_stands T.F_law_stands.kp T.b_law_stands (pa_cons (pv 1) (pa_cons (pv 3) (pa_cons (pv 8) (pa_cons (pv 9) (pa_cons (pv 4) pa_nil))))))))
      (pss_one (ps_ret pe_bl))
      pss_nil)
      (pss_cons (ps_expr (pe_bm PySem.F.plainAttrs_list PySem.F.slot_list_append PySem.F.type_list_append v_appendI (pv 8) (pa_cons pe_int pa_nil)))
      (pss_one (ps_expr (pe_bm PySem.F.plainAttrs_list PySem.F.slot_list_insert PySem.F.type_list_insert v_insertI (pv 9) (pa_cons pe_int (pa_cons pe_int pa_nil)))))))))))
      pss_nil)))))
      (pss_cons (ps_set (i := 10) sc_law_parted.nd rfl (Or.inl rfl) (pe_cmpR (v_eqOwn T.fa_Stretch_eq T.ia_Stretch_eq (ok_Stretch_eq T) (hr.mono (by decide)) T.b_Stretch_eq) (pv 0) (pv 1) (nomark _)))
      (pss_one (ps_ret (pe_and (pe_callB v_isBB (by rfl) T.z_isinstance PyProof.Rows.boot_isinstance (pa_cons (pv 10) (pa_cons (pe_bltn (v := .ty "bool") (by rfl) T.z_bool PyProof.Rows.boot_bool rfl) pa_nil))) (pe_one (pe_cmpR op_eq (pv 10) (pv 5) (nomark _))))))))), st_5_6 rfl ?_⟩
    fail "go"
    rename_i d1 H1 S1 d2 H2 S2
    rw [decide_eq_true (rfl : LL w ws = LL w ws)]
    refine for_range (lo := 0) (n := 2) (fun i σ H => ∃ (x6 x7 : Option V) (υ : Tmap), σ = [some (.ref p), some (.ref r), some (.ref a), some (.ref a), some (.int w), some (.bl true), x6, x7, none, none, none] ∧ Le τ υ ∧
      Sts H (im υ :: stc T.c_Stretch p w (LL w ws) :: stc T.c_Stretch r w (LL w ws) :: pto a (.lst (ws.map V.int)) :: F)) ⟨none, none, τ, rfl, Le.refl _, by fail "fp"⟩ ?_ ?_
    · rintro i σ H hi ⟨x6, x7, υ, rfl, hle, S⟩
      fail "go"
      refine ⟨p, r, w, w, ws, ws, υ, _, rfl, S, ⟨by omega, by omega⟩, fun _ => ⟨fun hA H' υ' le S' => ?_, fun h t x y υ' H' h0 h1 hne le e S' => absurd rfl hne⟩, fun z => absurd rfl z⟩
      fail "go"
      exact ⟨_, _, υ', rfl, hle.trans le, S'⟩
    · rintro σ H ⟨x6, x7, υ, rfl, hle, S⟩
      fail "go"
      exact q _ υ hle (by fail "fp")
  · refine ⟨_, (pss_cons (ps_set (i := 5) sc_law_parted.nd rfl (Or.inl rfl) (pe_cmpR (v_eqOs (K := K) rfl hr.units) (v_call (ok_law_lift T) (hr.mono (by decide)) (by rfl) T.g_law_lift T.F_law_lift.kp T.b_law_lift (pa_cons (pv 2) (pa_cons (pv 4) pa_nil))) (v_call (ok_law_lift T) (hr.mono (by decide)) (by rfl) T.g_law_lift T.F_law_lift.kp T.b_law_lift (pa_cons (pv 3) (pa_cons (pv 4) pa_nil))) (nomark _)))
      (pss_cons (ps_for PassesOwn.never rfl (pi_range1 rfl T.z_range (pa_cons pe_int pa_nil)) (pg_name (i := 6) sc_law_parted.nd rfl (Or.inl rfl))
      (pss_cons (ps_set (i := 7) sc_law_parted.nd rfl (Or.inl rfl) (pe_callS (CX := L2N.CX _ _) (E := fun _ => E0) (ok_parting T) (hr.mono (by decide)) (by rfl) T.g_parting T.F_parting.kp T.b_parting (fun _ => noPassN) (pa_cons (pv 0) (pa_cons (pv 1) pa_nil))))
      (pss_cons (ps_if (PW.pt (pw_and (pt_val (pv 5)) (pw_and1 (pt_cmpR v_notN (pv 7) pe_non (nomark _)))))
      (pss_one (ps_ret pe_bl))
      pss_nil)
      (pss_one (ps_if (pt_not (pt_val (pv 5)))
      (pss_cons (ps_if (pt_not (pt_val (v_call (ok_law_parts T) (hr.mono (by decide)) (by rfl) T.g_law_parts T.F_law_parts.kp T.b_law_parts (pa_cons (pv 7) (pa_cons (pv 2) (pa_cons (pv 3) (pa_cons (pv 4) pa_nil)))))))
      (pss_one (ps_ret pe_bl))
      pss_nil)
      (pss_cons (ps_set (i := 8) sc_law_parted.nd rfl (Or.inl rfl) (pe_ix (v_ixT (K := K) rfl) (pv 7) pe_int (fun _ _ => rfl)))
      (pss_cons (ps_set (i := 9) sc_law_parted.nd rfl (Or.inl rfl) (pe_ix (v_ixT (K := K) rfl) (pv 7) pe_int (fun _ _ => rfl)))
      (pss_cons (ps_if (pt_not (pt_val (v_call (ok_law_stands T) (hr.mono (by decide)) (by rfl) T.g_law_stands T.F_law_stands.kp T.b_law_stands (pa_cons (pv 0) (pa_cons (pv 2) (pa_cons (pv 8) (pa_cons (pv 9) (pa_cons (pv 4) pa_nil))))))))
      (pss_one (ps_ret pe_bl))
      pss_nil)
      (pss_cons (ps_if (pt_not (pt_val (v_call (ok_law_stands T) (hr.mono (by decide)) (by rfl) T.g_law_stands T.F_law_stands.kp T.b_law_stands (pa_cons (pv 1) (pa_cons (pv 3) (pa_cons (pv 8) (pa_cons (pv 9) (pa_cons (pv 4) pa_nil))))))))
      (pss_one (ps_ret pe_bl))
      pss_nil)
      (pss_cons (ps_expr (pe_bm PySem.F.plainAttrs_list PySem.F.slot_list_append PySem.F.type_list_append v_appendI (pv 8) (pa_cons pe_int pa_nil)))
      (pss_one (ps_expr (pe_bm PySem.F.plainAttrs_list PySem.F.slot_list_insert PySem.F.type_list_insert v_insertI (pv 9) (pa_cons pe_int (pa_cons pe_int pa_nil)))))))))))
      pss_nil)))))
      (pss_cons (ps_set (i := 10) sc_law_parted.nd rfl (Or.inl rfl) (pe_cmpR (v_eqOwn T.fa_Stretch_eq T.ia_Stretch_eq (ok_Stretch_eq T) (hr.mono (by decide)) T.b_Stretch_eq) (pv 0) (pv 1) (nomark _)))
      (pss_one (ps_ret (pe_and (pe_callB v_isBB (by rfl) T.z_isinstance PyProof.Rows.boot_isinstance (pa_cons (pv 10) (pa_cons (pe_bltn (v := .ty "bool") (by rfl) T.z_bool PyProof.Rows.boot_bool rfl) pa_nil))) (pe_one (pe_cmpR op_eq (pv 10) (pv 5) (nomark _))))))))), st_5_6 rfl ?_⟩
    by_cases hA : LL w ws = LL w zs
    · fail "go"
      rename_i d1 H1 S1 d2 H2 S2
      rw [decide_eq_true hA]
      refine for_range (lo := 0) (n := 2) (fun i σ H => ∃ (x6 x7 : Option V) (υ : Tmap), σ = [some (.ref p), some (.ref r), some (.ref a), some (.ref b), some (.int w), some (.bl true), x6, x7, none, none, none] ∧ Le τ υ ∧
        Sts H (im υ :: stc T.c_Stretch p w (LL w ws) :: stc T.c_Stretch r w (LL w zs) :: pto a (.lst (ws.map V.int)) :: pto b (.lst (zs.map V.int)) :: F)) ⟨none, none, τ, rfl, Le.refl _, by fail "fp"⟩ ?_ ?_
      · rintro i σ H hi ⟨x6, x7, υ, rfl, hle, S⟩
        fail "go"
        refine ⟨p, r, w, w, ws, zs, υ, _, rfl, S, ⟨by omega, by omega⟩, fun _ => ⟨fun _ H' υ' le S' => ?_, fun h t x y υ' H' h0 h1 hne le e S' => absurd (part_eq hA h0 h1) hne⟩, fun z => absurd rfl z⟩
        fail "go"
        exact ⟨_, _, υ', rfl, hle.trans le, S'⟩
      · rintro σ H ⟨x6, x7, υ, rfl, hle, S⟩
        fail "go"
        refine eq_yes (Oc.pr (by fail "fr2")) hA (fun H10 S10 => ?_)
        fail "go"
        exact q _ υ hle (by fail "fp")
    · fail "go"
      rename_i d1 H1 S1 d2 H2 S2
      rw [decide_eq_false hA]
      refine for_range (lo := 0) (n := 2) (fun i σ H => ∃ (x6 x7 x8 x9 : Option V) (υ : Tmap), σ = [some (.ref p), some (.ref r), some (.ref a), some (.ref b), some (.int w), some (.bl false), x6, x7, x8, x9, none] ∧ Le τ υ ∧
        Sts H (im υ :: stc T.c_Stretch p w (LL w ws) :: stc T.c_Stretch r w (LL w zs) :: pto a (.lst (ws.map V.int)) :: pto b (.lst (zs.map V.int)) :: F)) ⟨none, none, none, none, τ, rfl, Le.refl _, by fail "fp"⟩ ?_ ?_
      · rintro i σ H hi ⟨x6, x7, x8, x9, υ, rfl, hle, S⟩
        fail "go"
        refine ⟨p, r, w, w, ws, zs, υ, _, rfl, S, ⟨by omega, by omega⟩, fun _ => ⟨fun hB => absurd hB hA, fun h t x y υ' H' h0 h1 hne le e S' => ?_⟩, fun z => absurd rfl z⟩
        have hp := parts_hold h0 h1 hne
        have an := abv_nn w (up w ws (some h)) (up w zs (some h))
        have al : (abv w (up w ws (some h)) (up w zs (some h))).length ≤ 1001 := abv_len hw.2 (fun x q => (up_rng h0 h1 q).1) (fun x q => (up_rng h0 h1 q).1)
        have bn := zs_nn h
        have bl : (Sm.zs h).length ≤ 1000 := by rw [zs_len]; omega
        generalize abv w (up w ws (some h)) (up w zs (some h)) = us at hp an al S'
        generalize Sm.zs h = ds at hp bn bl S'
        clear S S1 S2
        fail "go"
        exact ⟨_, _, _, _, υ', rfl, hle.trans le, by fail "fp"⟩
      · rintro σ H ⟨x6, x7, x8, x9, υ, rfl, hle, S⟩
        fail "go"
        refine ⟨p, r, w, w, LL w ws, LL w zs, _, rfl, Oc.pr (by fail "fr2"), fun H10 S10 => ?_⟩
        rw [decide_eq_true (rfl : w = w), decide_eq_false hA]
        fail "go"
        exact q _ υ hle (by fail "fp")
local macro_rules | `(tactic| fail "gs") => `(tactic| ((with_reducible show K29.spParted _ _ _ _ _); first | refine Or.inl ⟨_, _, _, _, _, _, _, rfl, Oc.pr (by fail "fr4"), Oc.pr (by fail "nn"), Oc.pr (by fail "side"), Oc.pr (by fail "side"), fun oh ou ol os => ?_⟩ | refine Or.inr ⟨_, _, _, _, _, _, _, _, _, rfl, Oc.pr (by fail "fr5"), Oc.pr (by exact ⟨by fail "nn", by fail "nn"⟩), Oc.pr (by exact ⟨by fail "side", by fail "side"⟩), Oc.pr (by fail "side"), fun oh ou ol os => ?_⟩))
def spDiffers (cS : Addr) : Sp := fun vs H Q _ => ∃ (p q : Addr) (w v : Int) (a b : List Int) (τ : Tmap) (F : List Asr), vs = [.ref p, .ref q, .int w, .int v] ∧ Sts H (im τ :: stc cS p w (LL w a) :: stc cS q v (LL v b) :: F) ∧ (1 ≤ w ∧ w ≤ 1000) ∧ w ≠ v ∧ ∀ H', Sts H' (im τ :: stc cS p w (LL w a) :: stc cS q v (LL v b) :: F) → Q (.bl true) H'
theorem ok_law_differs (T : Txt P K mg) : FnOk P w K mg base CX0 4 T.f_law_differs T.fd_law_differs ["one", "two", "copies", "other"] (spDiffers T.c_Stretch) := by
  refine T.F_law_differs.ok sc_law_differs (fun vs H Q E h => by obtain ⟨p, q, w, v, a, b, τ, F, rfl, _⟩ := h; rfl) (fun cdv A outer s H vs Q E hr h => ?_)
  obtain ⟨p, r, w, v, a, b, τ, F, rfl, S, hw, hv, q⟩ := h
  refine ⟨_, (pss_cons (ps_if (pt_cmpR (v_eqOwn T.fa_Stretch_eq T.ia_Stretch_eq (ok_Stretch_eq T) (hr.mono (by decide)) T.b_Stretch_eq) (pv 0) (pv 1) (nomark _))
      (pss_one (ps_ret pe_bl))
      pss_nil)
      (pss_cons (L2N.ps_try_as (i := 4) (Wout := fun _ _ _ _ => False) rfl rfl sc_law_differs.nd rfl rfl ⟨rfl, by decide, Or.inl T.gc_CopiesDiffer⟩ takes0N
      (fun W pn xe tk hp => (pss_one (ps_expr (pe_callS (CX := L2N.CX _ _) (E := WE W) (ok_parting T) (hr.mono (by decide)) (by rfl) T.g_parting T.F_parting.kp T.b_parting (fun σ => L2N.passAt tk σ) (pa_cons (pv 0) (pa_cons (pv 1) pa_nil))))))
      (fun a oe cls d pn hz hf => (pss_cons (ps_if (pt_val (pe_callB (v_isE (c := (.ref T.c_LotError)) T.xc_CopiesDiffer hz.zc hf T.ki_CopiesDiffer_LotError (fun _ r => r)) (by rfl) T.z_isinstance PyProof.Rows.boot_isinstance (pa_cons (pv 4) (pa_cons (pe_glob (v := .ref T.c_LotError) (by rfl) T.gc_LotError rfl) pa_nil))))
      (pss_one (ps_ret pe_bl))
      pss_nil)
      (pss_cons (ps_if (PW.pt (pw_or (pt_not (pt_val (pe_callB (v_isE (c := (.ref T.c_OnecopyError)) T.xc_CopiesDiffer hz.zc hf T.ki_CopiesDiffer_OnecopyError (fun _ r => r)) (by rfl) T.z_isinstance PyProof.Rows.boot_isinstance (pa_cons (pv 4) (pa_cons (pe_glob (v := .ref T.c_OnecopyError) (by rfl) T.gc_OnecopyError rfl) pa_nil))))) (pw_or1 (pt_not (pt_val (pe_callB (v_isE (c := (.ty "ValueError")) T.xc_CopiesDiffer hz.zc hf T.ki_CopiesDiffer_ValueError (fun _ r => r)) (by rfl) T.z_isinstance PyProof.Rows.boot_isinstance (pa_cons (pv 4) (pa_cons (pe_bltn (v := .ty "ValueError") (by rfl) T.z_ValueError PyProof.Rows.Boot.«ValueError» rfl) pa_nil))))))))
      (pss_one (ps_ret pe_bl))
      pss_nil)
      (pss_cons (ps_if (PW.pt (pw_or (pt_not (pt_val (oc_callH (okH_law_is_integer T) (L2H.roomH_mark (hr.mono (by decide)) _) (hotC hz hf) (by rfl) T.g_law_is_integer T.F_law_is_integer.kp T.b_law_is_integer (pa_cons (pe_xf T.xf_CopiesDiffer T.nx_CopiesDiffer_left hz.zc hf (pv 4)) pa_nil)))) (pw_or1 (pt_not (pt_val (oc_callH (okH_law_is_integer T) (L2H.roomH_mark (hr.mono (by decide)) _) (hotC hz hf) (by rfl) T.g_law_is_integer T.F_law_is_integer.kp T.b_law_is_integer (pa_cons (pe_xf T.xf_CopiesDiffer T.nx_CopiesDiffer_right hz.zc hf (pv 4)) pa_nil)))))))
      (pss_one (ps_ret pe_bl))
      pss_nil)
      (pss_one (ps_ret (pe_and (pe_cmpR op_eq (pe_xf T.xf_CopiesDiffer T.nx_CopiesDiffer_left hz.zc hf (pv 4)) (pv 2) (nomark _)) (pe_one (pe_cmpR op_eq (pe_xf T.xf_CopiesDiffer T.nx_CopiesDiffer_right hz.zc hf (pv 4)) (pv 3) (nomark _)))))))))))
      (pss_one (ps_ret pe_bl)))), st_4_1 rfl ?_⟩
  fail "go"
  rename_i H1 S1
  refine ⟨p, r, w, v, a, b, τ, F, rfl, by fail "fp", ⟨by omega, by omega⟩, fun e => absurd e hv, fun _ d H1 S1 => ?_⟩
  refine ⟨true, T.te_CopiesDiffer, fun _ a0 na => ?_, fun z => nomatch z⟩
  fail "go"
  rw [decide_eq_true (rfl : v = v)]
  exact q _ (by fail "fp")
local macro_rules | `(tactic| fail "gs") => `(tactic| ((with_reducible show K29.spDiffers _ _ _ _ _); refine ⟨_, _, _, _, _, _, _, _, rfl, Oc.pr (by fail "fr3"), Oc.pr (by fail "side"), Oc.pr (by omega), fun oh os => ?_⟩))
--PART
theorem skip_holds {w : Int} {a b u v : List Int} {A B : Prop} (hw : 0 ≤ w) (h : LL w a = LL w b) (k : B) : if (!decide (holds w (u ++ a ++ v) = holds w (u ++ b ++ v))) = true then A else B := by
  rw [holds_LL hw h u v, decide_eq_true rfl]
  exact k
def spLaw (K : PySem.W.Frag) : Sp := fun vs H Q _ => ∃ (a : Addr) (ns : List Int), vs = [.ref a] ∧ SqL K H a (ns.map V.int) ∧ ns.length ≤ 63 ∧ ∀ H', Q (.bl true) H'
theorem ok_law (T : Txt P K mg) : FnOk P w K mg base CX0 8 T.f_law T.fd_law ["script"] (spLaw K) := by
  refine T.F_law.ok sc_law (fun vs H Q E h => by obtain ⟨a, ns, rfl, _⟩ := h; rfl) (fun cdv A outer s H vs Q E hr h => ?_)
  obtain ⟨a, ns, rfl, hS, hlen, q⟩ := h
  have S := (sts_script hS).im0
  refine ⟨_, (pss_cons (ps_set (i := 1) sc_law.nd rfl (Or.inl rfl) (v_call (ok_law_bag T) (hr.mono (by decide)) (by rfl) T.g_law_bag T.F_law_bag.kp T.b_law_bag (pa_cons (pv 0) (pa_cons pe_int pa_nil))))
      (pss_cons (ps_set (i := 2) sc_law.nd rfl (Or.inl rfl) (v_call (ok_law_copies T) (hr.mono (by decide)) (by rfl) T.g_law_copies T.F_law_copies.kp T.b_law_copies (pa_cons (pv 1) pa_nil)))
      (pss_cons (ps_set (i := 3) sc_law.nd rfl (Or.inl rfl) (v_call (ok_law_pages T) (hr.mono (by decide)) (by rfl) T.g_law_pages T.F_law_pages.kp T.b_law_pages (pa_cons (v_call (ok_law_bag T) (hr.mono (by decide)) (by rfl) T.g_law_bag T.F_law_bag.kp T.b_law_bag (pa_cons (pv 0) (pa_cons pe_int pa_nil))) pa_nil)))
      (pss_cons (ps_set (i := 4) sc_law.nd rfl (Or.inl rfl) (v_call (ok_law_second T) (hr.mono (by decide)) (by rfl) T.g_law_second T.F_law_second.kp T.b_law_second (pa_cons (v_call (ok_law_bag T) (hr.mono (by decide)) (by rfl) T.g_law_bag T.F_law_bag.kp T.b_law_bag (pa_cons (pv 0) (pa_cons pe_int pa_nil))) (pa_cons (pv 3) pa_nil))))
      (pss_cons (ps_set (i := 5) sc_law.nd rfl (Or.inl rfl) (oc_make T.mk_Stretch (ok_Stretch_init T) (hr.mono (by decide)) (by rfl) T.gc_Stretch T.b_Stretch_init T.vd_Stretch_init (pa_cons (pe_callTy (v_list (K := K) rfl) (by rfl) T.z_list PyProof.Rows.boot_list (pa_cons (pv 3) pa_nil)) (pa_cons (pv 2) pa_nil))))
      (pss_cons (ps_set (i := 6) sc_law.nd rfl (Or.inl rfl) (oc_make T.mk_Stretch (ok_Stretch_init T) (hr.mono (by decide)) (by rfl) T.gc_Stretch T.b_Stretch_init T.vd_Stretch_init (pa_cons (pe_callTy (v_list (K := K) rfl) (by rfl) T.z_list PyProof.Rows.boot_list (pa_cons (pv 4) pa_nil)) (pa_cons (pv 2) pa_nil))))
      (pss_cons (ps_if (PW.pt (pw_or (pt_not (pt_val (v_call (ok_law_parted T) (hr.mono (by decide)) (by rfl) T.g_law_parted T.F_law_parted.kp T.b_law_parted (pa_cons (pv 5) (pa_cons (pv 6) (pa_cons (pv 3) (pa_cons (pv 4) (pa_cons (pv 2) pa_nil)))))))) (pw_or1 (pt_not (pt_val (v_call (ok_law_parted T) (hr.mono (by decide)) (by rfl) T.g_law_parted T.F_law_parted.kp T.b_law_parted (pa_cons (pv 6) (pa_cons (pv 5) (pa_cons (pv 4) (pa_cons (pv 3) (pa_cons (pv 2) pa_nil)))))))))))
      (pss_one (ps_ret pe_bl))
      pss_nil)
      (pss_cons (ps_if (pt_not (pt_val (v_call (ok_law_parted T) (hr.mono (by decide)) (by rfl) T.g_law_parted T.F_law_parted.kp T.b_law_parted (pa_cons (pv 5) (pa_cons (oc_make T.mk_Stretch (ok_Stretch_init T) (hr.mono (by decide)) (by rfl) T.gc_Stretch T.b_Stretch_init T.vd_Stretch_init (pa_cons (pe_callTy (v_list (K := K) rfl) (by rfl) T.z_list PyProof.Rows.boot_list (pa_cons (pv 3) pa_nil)) (pa_cons (pv 2) pa_nil))) (pa_cons (pv 3) (pa_cons (pv 3) (pa_cons (pv 2) pa_nil))))))))
      (pss_one (ps_ret pe_bl))
      pss_nil)
      (pss_cons (ps_set (i := 7) sc_law.nd rfl (Or.inl rfl) (v_call (ok_law_pages T) (hr.mono (by decide)) (by rfl) T.g_law_pages T.F_law_pages.kp T.b_law_pages (pa_cons (v_call (ok_law_bag T) (hr.mono (by decide)) (by rfl) T.g_law_bag T.F_law_bag.kp T.b_law_bag (pa_cons (pv 0) (pa_cons pe_int pa_nil))) pa_nil)))
      (pss_cons (ps_set (i := 8) sc_law.nd rfl (Or.inl rfl) (v_call (ok_law_pages T) (hr.mono (by decide)) (by rfl) T.g_law_pages T.F_law_pages.kp T.b_law_pages (pa_cons (v_call (ok_law_bag T) (hr.mono (by decide)) (by rfl) T.g_law_bag T.F_law_bag.kp T.b_law_bag (pa_cons (pv 0) (pa_cons pe_int pa_nil))) pa_nil)))
      (pss_cons (ps_if (pt_not (pt_val (v_call (ok_law_stands T) (hr.mono (by decide)) (by rfl) T.g_law_stands T.F_law_stands.kp T.b_law_stands (pa_cons (pv 5) (pa_cons (pv 3) (pa_cons (pv 7) (pa_cons (pv 8) (pa_cons (pv 2) pa_nil))))))))
      (pss_one (ps_ret pe_bl))
      pss_nil)
      (pss_cons (ps_if (pt_not (pt_val (v_call (ok_law_stands T) (hr.mono (by decide)) (by rfl) T.g_law_stands T.F_law_stands.kp T.b_law_stands (pa_cons (pv 6) (pa_cons (pv 4) (pa_cons (pv 7) (pa_cons (pv 8) (pa_cons (pv 2) pa_nil))))))))
      (pss_one (ps_ret pe_bl))
      pss_nil)
      (pss_cons (ps_if (pt_cmpR (v_eqOs (K := K) rfl hr.units) (v_call (ok_law_lift T) (hr.mono (by decide)) (by rfl) T.g_law_lift T.F_law_lift.kp T.b_law_lift (pa_cons (pv 3) (pa_cons (pv 2) pa_nil))) (v_call (ok_law_lift T) (hr.mono (by decide)) (by rfl) T.g_law_lift T.F_law_lift.kp T.b_law_lift (pa_cons (pv 4) (pa_cons (pv 2) pa_nil))) (nomark _))
      (pss_one (ps_if (pt_cmpR op_ne (v_call (ok_law_holds T) (hr.mono (by decide)) (by rfl) T.g_law_holds T.F_law_holds.kp T.b_law_holds (pa_cons (pe_op v_catI (pe_op v_catI (pv 7) (pv 3)) (pv 8)) (pa_cons (pv 2) pa_nil))) (v_call (ok_law_holds T) (hr.mono (by decide)) (by rfl) T.g_law_holds T.F_law_holds.kp T.b_law_holds (pa_cons (pe_op v_catI (pe_op v_catI (pv 7) (pv 4)) (pv 8)) (pa_cons (pv 2) pa_nil))) (nomark _))
      (pss_one (ps_ret pe_bl))
      pss_nil))
      pss_nil)
      (pss_cons (ps_set (i := 9) sc_law.nd rfl (Or.inl rfl) (pe_op op_add (pe_op op_add (pv 2) pe_int) (v_call (ok_law_take T) (hr.mono (by decide)) (by rfl) T.g_law_take T.F_law_take.kp T.b_law_take (pa_cons (pv 1) (pa_cons pe_int pa_nil)))))
      (pss_cons (ps_set (i := 10) sc_law.nd rfl (Or.inl rfl) (oc_make T.mk_Stretch (ok_Stretch_init T) (hr.mono (by decide)) (by rfl) T.gc_Stretch T.b_Stretch_init T.vd_Stretch_init (pa_cons (pe_callTy (v_list (K := K) rfl) (by rfl) T.z_list PyProof.Rows.boot_list (pa_cons (pv 3) pa_nil)) (pa_cons (pv 9) pa_nil))))
      (pss_cons (ps_if (PW.pt (pw_or (pt_not (pt_val (v_call (ok_law_differs T) (hr.mono (by decide)) (by rfl) T.g_law_differs T.F_law_differs.kp T.b_law_differs (pa_cons (pv 5) (pa_cons (pv 10) (pa_cons (pv 2) (pa_cons (pv 9) pa_nil))))))) (pw_or1 (pt_not (pt_val (v_call (ok_law_differs T) (hr.mono (by decide)) (by rfl) T.g_law_differs T.F_law_differs.kp T.b_law_differs (pa_cons (pv 10) (pa_cons (pv 5) (pa_cons (pv 9) (pa_cons (pv 2) pa_nil))))))))))
      (pss_one (ps_ret pe_bl))
      pss_nil)
      (pss_one (ps_ret (pe_and (pe_cmpR (v_eqOs (K := K) rfl hr.units) (oc_meth0 (pv 5) T.cl_Stretch T.me_Stretch_lift (ok_Stretch_lift T) (hr.mono (by decide)) T.b_Stretch_lift) (v_call (ok_law_lift T) (hr.mono (by decide)) (by rfl) T.g_law_lift T.F_law_lift.kp T.b_law_lift (pa_cons (pv 3) (pa_cons (pv 2) pa_nil))) (nomark _)) (pe_one (pe_cmpR (v_eqOs (K := K) rfl hr.units) (oc_meth0 (pv 6) T.cl_Stretch T.me_Stretch_lift (ok_Stretch_lift T) (hr.mono (by decide)) T.b_Stretch_lift) (v_call (ok_law_lift T) (hr.mono (by decide)) (by rfl) T.g_law_lift T.F_law_lift.kp T.b_law_lift (pa_cons (pv 4) (pa_cons (pv 2) pa_nil))) (nomark _)))))))))))))))))))))), st_1_10 rfl ?_⟩
  fail "go"
  with_reducible refine ifB (fun hL => ?_) (fun hL => ?_)
  · have hL := odt hL
    fail "go"
    refine skip_holds (by omega) hL ?_
    fail "go"
    rw [decide_eq_true rfl]
    exact q _
  · fail "go"
    rw [decide_eq_true rfl]
    exact q _

end
theorem kwb_Stretch_init {K : PySem.W.Frag} {f D : Addr} {oc dc pm cd ct : Value} {od an : Option Addr} {osl : Array (Option Value)} (l : K.lookup f = some ⟨oc, od, .func (PySem.W.fnOf "__init__" "Stretch.__init__" (defArgs s_Stretch_init) (defBody s_Stretch_init) (defScope s_Stretch_init) .none (.ref D) dc pm an cd ct), osl⟩) (e0 : PySem.W.nsIn K D "below" = some (some .none)) : Binds K (PySem.W.fnOf "__init__" "Stretch.__init__" (defArgs s_Stretch_init) (defBody s_Stretch_init) (defScope s_Stretch_init) .none (.ref D) dc pm an cd ct) ["self", "blank", "copies", "below"] [.none] := fun s us X hl => by
  have hl : us.length = 3 := by simpa using hl
  match us, hl with
  | [a0, a1, a2], _ => exact BindsTo.of_looks fun M => KwChain.looks (D := D) (l := [("below", .none)]) X (fun q hq => by simp at hq; subst hq; exact e0) ⟨_, _, _, _, _, _, rfl, rfl, rfl⟩
theorem kwk_Stretch_init_below {K : PySem.W.Frag} {f D : Addr} {oc dc pm cd ct : Value} {od an : Option Addr} {osl : Array (Option Value)} (l : K.lookup f = some ⟨oc, od, .func (PySem.W.fnOf "__init__" "Stretch.__init__" (defArgs s_Stretch_init) (defBody s_Stretch_init) (defScope s_Stretch_init) .none (.ref D) dc pm an cd ct), osl⟩) : KBn K (PySem.W.fnOf "__init__" "Stretch.__init__" (defArgs s_Stretch_init) (defBody s_Stretch_init) (defScope s_Stretch_init) .none (.ref D) dc pm an cd ct) ["self", "blank", "copies", "below"] 3 ["below"] (fun us ws => us ++ ws) (fun vs zs => vs ++ zs) := ⟨fun s us ws X l1 l2 => by
  match us, ws, l1, l2 with
  | [_, _, _], [_], _, _ => exact .of_eq rfl, fun r1 r2 => r1.append r2⟩
/-! ### what the top has written; the law's own head -/
theorem all_mk {w : World} {K : PySem.W.Frag} {h : Heap} {mg : Str → Option Value} {fa : Addr} (X : K.In h) (G : h.Ns mainGlobals mg) (hfa : mg "law" = some (.ref fa))
    {cc_OnecopyError : Addr}
    {cc_LotError : Addr}
    {cc_CopiesDiffer : Addr}
    {cc_Stretch : Addr}
    {f0 : Addr} {od0 an0 : Option Addr} {sl0 : Array (Option Value)} {oc0 kV0 dc0 pm0 ct0 : Value}
    {q0 h0 : Addr} {ql0 hl0 : Value} {qd0 hd0 : Option Addr} {qs0 hs0 : Array (Option Value)} {hv0 : Array Value} {hf0 : Str} {ht0 : Tok} {ci0 : ClassData}
    {f1 : Addr} {od1 an1 : Option Addr} {sl1 : Array (Option Value)} {oc1 kV1 dc1 pm1 cd1 ct1 : Value}
    {f2 : Addr} {od2 an2 : Option Addr} {sl2 : Array (Option Value)} {oc2 kV2 dc2 pm2 cd2 ct2 : Value}
    {f3 : Addr} {od3 an3 : Option Addr} {sl3 : Array (Option Value)} {oc3 dc3 pm3 cd3 ct3 : Value}
    {kd3 : Addr}
    {f4 : Addr} {od4 an4 : Option Addr} {sl4 : Array (Option Value)} {oc4 kV4 dc4 pm4 cd4 ct4 : Value}
    {f5 : Addr} {od5 an5 : Option Addr} {sl5 : Array (Option Value)} {oc5 kV5 dc5 pm5 cd5 ct5 : Value}
    {f6 : Addr} {od6 an6 : Option Addr} {sl6 : Array (Option Value)} {oc6 kV6 dc6 pm6 cd6 ct6 : Value}
    {f7 : Addr} {od7 an7 : Option Addr} {sl7 : Array (Option Value)} {oc7 kV7 dc7 pm7 cd7 ct7 : Value}
    {f8 : Addr} {od8 an8 : Option Addr} {sl8 : Array (Option Value)} {oc8 kV8 dc8 pm8 cd8 ct8 : Value}
    {f9 : Addr} {od9 an9 : Option Addr} {sl9 : Array (Option Value)} {oc9 kV9 dc9 pm9 cd9 ct9 : Value}
    {f10 : Addr} {od10 an10 : Option Addr} {sl10 : Array (Option Value)} {oc10 kV10 dc10 pm10 cd10 ct10 : Value}
    {f11 : Addr} {od11 an11 : Option Addr} {sl11 : Array (Option Value)} {oc11 kV11 dc11 pm11 cd11 ct11 : Value}
    {f12 : Addr} {od12 an12 : Option Addr} {sl12 : Array (Option Value)} {oc12 kV12 dc12 pm12 cd12 ct12 : Value}
    {f13 : Addr} {od13 an13 : Option Addr} {sl13 : Array (Option Value)} {oc13 kV13 dc13 pm13 cd13 ct13 : Value}
    {f14 : Addr} {od14 an14 : Option Addr} {sl14 : Array (Option Value)} {oc14 kV14 dc14 pm14 cd14 ct14 : Value}
    {f15 : Addr} {od15 an15 : Option Addr} {sl15 : Array (Option Value)} {oc15 kV15 dc15 pm15 cd15 ct15 : Value}
    {f16 : Addr} {od16 an16 : Option Addr} {sl16 : Array (Option Value)} {oc16 kV16 dc16 pm16 cd16 ct16 : Value}
    {f17 : Addr} {od17 an17 : Option Addr} {sl17 : Array (Option Value)} {oc17 kV17 dc17 pm17 cd17 ct17 : Value}
    {f18 : Addr} {od18 an18 : Option Addr} {sl18 : Array (Option Value)} {oc18 kV18 dc18 pm18 cd18 ct18 : Value}
    {f19 : Addr} {od19 an19 : Option Addr} {sl19 : Array (Option Value)} {oc19 kV19 dc19 pm19 cd19 ct19 : Value}
    {f20 : Addr} {od20 an20 : Option Addr} {sl20 : Array (Option Value)} {oc20 kV20 dc20 pm20 cd20 ct20 : Value}
    {f21 : Addr} {od21 an21 : Option Addr} {sl21 : Array (Option Value)} {oc21 kV21 dc21 pm21 cd21 ct21 : Value}
    {f22 : Addr} {od22 an22 : Option Addr} {sl22 : Array (Option Value)} {oc22 kV22 dc22 pm22 cd22 ct22 : Value}
    {f23 : Addr} {od23 an23 : Option Addr} {sl23 : Array (Option Value)} {oc23 kV23 dc23 pm23 cd23 ct23 : Value}
    {f24 : Addr} {od24 an24 : Option Addr} {sl24 : Array (Option Value)} {oc24 kV24 dc24 pm24 cd24 ct24 : Value}
    {f25 : Addr} {od25 an25 : Option Addr} {sl25 : Array (Option Value)} {oc25 kV25 dc25 pm25 cd25 ct25 : Value}
    {f26 : Addr} {od26 an26 : Option Addr} {sl26 : Array (Option Value)} {oc26 kV26 dc26 pm26 cd26 ct26 : Value}
    {xnm_CopiesDiffer xq_CopiesDiffer : Str} {xN_CopiesDiffer : Addr} {xbs_CopiesDiffer xbm_CopiesDiffer xsub_CopiesDiffer : List Value} {xsn_CopiesDiffer : List Str} {xab_CopiesDiffer : Bool} {xcol_CopiesDiffer : Option Bool} {xdd_CopiesDiffer : Option Addr} {x0_CopiesDiffer x1_CopiesDiffer x2_CopiesDiffer x3_CopiesDiffer x5_CopiesDiffer : Option Value}
    (gc_OnecopyError : PySem.W.nsIn K mainGlobals "OnecopyError" = some (some (.ref cc_OnecopyError)))
    (gc_LotError : PySem.W.nsIn K mainGlobals "LotError" = some (some (.ref cc_LotError)))
    (gc_CopiesDiffer : PySem.W.nsIn K mainGlobals "CopiesDiffer" = some (some (.ref cc_CopiesDiffer)))
    (gc_Stretch : PySem.W.nsIn K mainGlobals "Stretch" = some (some (.ref cc_Stretch)))
    (a0 : PySem.W.findIn K (.ref cc_CopiesDiffer) "__init__" = some (some (.ref f0)))
    (l0 : K.lookup f0 = some ⟨oc0, od0, .func (PySem.W.fnX "__init__" "CopiesDiffer.__init__" (defArgs s_CopiesDiffer_init) (defBody s_CopiesDiffer_init) (defScope s_CopiesDiffer_init) [("__class__", q0)] .none kV0 dc0 pm0 an0 (.ref h0) ct0), sl0⟩)
    (c0 : PySem.W.codeIn K (.ref h0) "CopiesDiffer.__init__" = true)
    (cq0 : K.lookup q0 = some ⟨ql0, qd0, .cell (some (.ref cc_CopiesDiffer)), qs0⟩)
    (ch0 : K.lookup h0 = some ⟨hl0, hd0, .fields hv0, hs0⟩)
    (cf0 : hv0[2]? = some (.str hf0 ht0))
    (cg0 : ((PySem.Challenge.rw_onecopy_k29_whole_parting.prog.main.file : Str) == hf0) = true)
    (ci0x : PySem.W.clsIn K cc_CopiesDiffer = some ci0)
    (cs0 : PySem.W.nsIn K mainGlobals "super" = some none)
    (ct0x : (PySem.Challenge.rw_onecopy_k29_whole_parting.prog.main.scope.names.lookup ("super" : Str)).isSome = false)
    (a1 : PySem.W.nsIn K mainGlobals "height_above" = some (some (.ref f1)))
    (l1 : K.lookup f1 = some ⟨oc1, od1, .func (PySem.W.fnOf "height_above" "height_above" (defArgs s_height_above) (defBody s_height_above) (defScope s_height_above) .none kV1 dc1 pm1 an1 cd1 ct1), sl1⟩)
    (c1 : PySem.W.codeIn K cd1 "height_above" = true)
    (k1 : PySem.W.keepIn K (.ref f1) = true)
    (a2 : PySem.W.nsIn K mainGlobals "_kept_height" = some (some (.ref f2)))
    (l2 : K.lookup f2 = some ⟨oc2, od2, .func (PySem.W.fnOf "_kept_height" "_kept_height" (defArgs s_kept_height) (defBody s_kept_height) (defScope s_kept_height) .none kV2 dc2 pm2 an2 cd2 ct2), sl2⟩)
    (c2 : PySem.W.codeIn K cd2 "_kept_height" = true)
    (k2 : PySem.W.keepIn K (.ref f2) = true)
    (a3 : PySem.W.findIn K (.ref cc_Stretch) "__init__" = some (some (.ref f3)))
    (l3 : K.lookup f3 = some ⟨oc3, od3, .func (PySem.W.fnOf "__init__" "Stretch.__init__" (defArgs s_Stretch_init) (defBody s_Stretch_init) (defScope s_Stretch_init) .none (.ref kd3) dc3 pm3 an3 cd3 ct3), sl3⟩)
    (c3 : PySem.W.codeIn K cd3 "Stretch.__init__" = true)
    (k3 : PySem.W.keepIn K (.ref f3) = true)
    (kw3_below : PySem.W.nsIn K kd3 "below" = some (some .none))
    (a4 : PySem.W.findIn K (.ref cc_Stretch) "lift" = some (some (.ref f4)))
    (l4 : K.lookup f4 = some ⟨oc4, od4, .func (PySem.W.fnOf "lift" "Stretch.lift" (defArgs s_Stretch_lift) (defBody s_Stretch_lift) (defScope s_Stretch_lift) .none kV4 dc4 pm4 an4 cd4 ct4), sl4⟩)
    (c4 : PySem.W.codeIn K cd4 "Stretch.lift" = true)
    (k4 : PySem.W.keepIn K (.ref f4) = true)
    (a5 : PySem.W.findIn K (.ref cc_Stretch) "__add__" = some (some (.ref f5)))
    (l5 : K.lookup f5 = some ⟨oc5, od5, .func (PySem.W.fnOf "__add__" "Stretch.__add__" (defArgs s_Stretch_add) (defBody s_Stretch_add) (defScope s_Stretch_add) .none kV5 dc5 pm5 an5 cd5 ct5), sl5⟩)
    (c5 : PySem.W.codeIn K cd5 "Stretch.__add__" = true)
    (k5 : PySem.W.keepIn K (.ref f5) = true)
    (a6 : PySem.W.findIn K (.ref cc_Stretch) "__eq__" = some (some (.ref f6)))
    (l6 : K.lookup f6 = some ⟨oc6, od6, .func (PySem.W.fnOf "__eq__" "Stretch.__eq__" (defArgs s_Stretch_eq) (defBody s_Stretch_eq) (defScope s_Stretch_eq) .none kV6 dc6 pm6 an6 cd6 ct6), sl6⟩)
    (c6 : PySem.W.codeIn K cd6 "Stretch.__eq__" = true)
    (k6 : PySem.W.keepIn K (.ref f6) = true)
    (a7 : PySem.W.findIn K (.ref cc_Stretch) "is_keepable" = some (some (.ref f7)))
    (l7 : K.lookup f7 = some ⟨oc7, od7, .func (PySem.W.fnOf "is_keepable" "Stretch.is_keepable" (defArgs s_Stretch_is_keepable) (defBody s_Stretch_is_keepable) (defScope s_Stretch_is_keepable) .none kV7 dc7 pm7 an7 cd7 ct7), sl7⟩)
    (c7 : PySem.W.codeIn K cd7 "Stretch.is_keepable" = true)
    (k7 : PySem.W.keepIn K (.ref f7) = true)
    (a8 : PySem.W.nsIn K mainGlobals "parting" = some (some (.ref f8)))
    (l8 : K.lookup f8 = some ⟨oc8, od8, .func (PySem.W.fnOf "parting" "parting" (defArgs s_parting) (defBody s_parting) (defScope s_parting) .none kV8 dc8 pm8 an8 cd8 ct8), sl8⟩)
    (c8 : PySem.W.codeIn K cd8 "parting" = true)
    (k8 : PySem.W.keepIn K (.ref f8) = true)
    (a9 : PySem.W.nsIn K mainGlobals "_pages_above" = some (some (.ref f9)))
    (l9 : K.lookup f9 = some ⟨oc9, od9, .func (PySem.W.fnOf "_pages_above" "_pages_above" (defArgs s_pages_above) (defBody s_pages_above) (defScope s_pages_above) .none kV9 dc9 pm9 an9 cd9 ct9), sl9⟩)
    (c9 : PySem.W.codeIn K cd9 "_pages_above" = true)
    (k9 : PySem.W.keepIn K (.ref f9) = true)
    (a10 : PySem.W.nsIn K mainGlobals "_law_is_integer" = some (some (.ref f10)))
    (l10 : K.lookup f10 = some ⟨oc10, od10, .func (PySem.W.fnOf "_law_is_integer" "_law_is_integer" (defArgs s_law_is_integer) (defBody s_law_is_integer) (defScope s_law_is_integer) .none kV10 dc10 pm10 an10 cd10 ct10), sl10⟩)
    (c10 : PySem.W.codeIn K cd10 "_law_is_integer" = true)
    (k10 : PySem.W.keepIn K (.ref f10) = true)
    (a11 : PySem.W.nsIn K mainGlobals "_law_bag" = some (some (.ref f11)))
    (l11 : K.lookup f11 = some ⟨oc11, od11, .func (PySem.W.fnOf "_law_bag" "_law_bag" (defArgs s_law_bag) (defBody s_law_bag) (defScope s_law_bag) .none kV11 dc11 pm11 an11 cd11 ct11), sl11⟩)
    (c11 : PySem.W.codeIn K cd11 "_law_bag" = true)
    (k11 : PySem.W.keepIn K (.ref f11) = true)
    (a12 : PySem.W.nsIn K mainGlobals "_law_take" = some (some (.ref f12)))
    (l12 : K.lookup f12 = some ⟨oc12, od12, .func (PySem.W.fnOf "_law_take" "_law_take" (defArgs s_law_take) (defBody s_law_take) (defScope s_law_take) .none kV12 dc12 pm12 an12 cd12 ct12), sl12⟩)
    (c12 : PySem.W.codeIn K cd12 "_law_take" = true)
    (k12 : PySem.W.keepIn K (.ref f12) = true)
    (a13 : PySem.W.nsIn K mainGlobals "_law_copies" = some (some (.ref f13)))
    (l13 : K.lookup f13 = some ⟨oc13, od13, .func (PySem.W.fnOf "_law_copies" "_law_copies" (defArgs s_law_copies) (defBody s_law_copies) (defScope s_law_copies) .none kV13 dc13 pm13 an13 cd13 ct13), sl13⟩)
    (c13 : PySem.W.codeIn K cd13 "_law_copies" = true)
    (k13 : PySem.W.keepIn K (.ref f13) = true)
    (a14 : PySem.W.nsIn K mainGlobals "_law_page" = some (some (.ref f14)))
    (l14 : K.lookup f14 = some ⟨oc14, od14, .func (PySem.W.fnOf "_law_page" "_law_page" (defArgs s_law_page) (defBody s_law_page) (defScope s_law_page) .none kV14 dc14 pm14 an14 cd14 ct14), sl14⟩)
    (c14 : PySem.W.codeIn K cd14 "_law_page" = true)
    (k14 : PySem.W.keepIn K (.ref f14) = true)
    (a15 : PySem.W.nsIn K mainGlobals "_law_pages" = some (some (.ref f15)))
    (l15 : K.lookup f15 = some ⟨oc15, od15, .func (PySem.W.fnOf "_law_pages" "_law_pages" (defArgs s_law_pages) (defBody s_law_pages) (defScope s_law_pages) .none kV15 dc15 pm15 an15 cd15 ct15), sl15⟩)
    (c15 : PySem.W.codeIn K cd15 "_law_pages" = true)
    (k15 : PySem.W.keepIn K (.ref f15) = true)
    (a16 : PySem.W.nsIn K mainGlobals "_law_height" = some (some (.ref f16)))
    (l16 : K.lookup f16 = some ⟨oc16, od16, .func (PySem.W.fnOf "_law_height" "_law_height" (defArgs s_law_height) (defBody s_law_height) (defScope s_law_height) .none kV16 dc16 pm16 an16 cd16 ct16), sl16⟩)
    (c16 : PySem.W.codeIn K cd16 "_law_height" = true)
    (k16 : PySem.W.keepIn K (.ref f16) = true)
    (a17 : PySem.W.nsIn K mainGlobals "_law_rise" = some (some (.ref f17)))
    (l17 : K.lookup f17 = some ⟨oc17, od17, .func (PySem.W.fnOf "_law_rise" "_law_rise" (defArgs s_law_rise) (defBody s_law_rise) (defScope s_law_rise) .none kV17 dc17 pm17 an17 cd17 ct17), sl17⟩)
    (c17 : PySem.W.codeIn K cd17 "_law_rise" = true)
    (k17 : PySem.W.keepIn K (.ref f17) = true)
    (a18 : PySem.W.nsIn K mainGlobals "_law_lift" = some (some (.ref f18)))
    (l18 : K.lookup f18 = some ⟨oc18, od18, .func (PySem.W.fnOf "_law_lift" "_law_lift" (defArgs s_law_lift) (defBody s_law_lift) (defScope s_law_lift) .none kV18 dc18 pm18 an18 cd18 ct18), sl18⟩)
    (c18 : PySem.W.codeIn K cd18 "_law_lift" = true)
    (k18 : PySem.W.keepIn K (.ref f18) = true)
    (a19 : PySem.W.nsIn K mainGlobals "_law_doubled" = some (some (.ref f19)))
    (l19 : K.lookup f19 = some ⟨oc19, od19, .func (PySem.W.fnOf "_law_doubled" "_law_doubled" (defArgs s_law_doubled) (defBody s_law_doubled) (defScope s_law_doubled) .none kV19 dc19 pm19 an19 cd19 ct19), sl19⟩)
    (c19 : PySem.W.codeIn K cd19 "_law_doubled" = true)
    (k19 : PySem.W.keepIn K (.ref f19) = true)
    (a20 : PySem.W.nsIn K mainGlobals "_law_second" = some (some (.ref f20)))
    (l20 : K.lookup f20 = some ⟨oc20, od20, .func (PySem.W.fnOf "_law_second" "_law_second" (defArgs s_law_second) (defBody s_law_second) (defScope s_law_second) .none kV20 dc20 pm20 an20 cd20 ct20), sl20⟩)
    (c20 : PySem.W.codeIn K cd20 "_law_second" = true)
    (k20 : PySem.W.keepIn K (.ref f20) = true)
    (a21 : PySem.W.nsIn K mainGlobals "_law_holds" = some (some (.ref f21)))
    (l21 : K.lookup f21 = some ⟨oc21, od21, .func (PySem.W.fnOf "_law_holds" "_law_holds" (defArgs s_law_holds) (defBody s_law_holds) (defScope s_law_holds) .none kV21 dc21 pm21 an21 cd21 ct21), sl21⟩)
    (c21 : PySem.W.codeIn K cd21 "_law_holds" = true)
    (k21 : PySem.W.keepIn K (.ref f21) = true)
    (a22 : PySem.W.nsIn K mainGlobals "_law_stands" = some (some (.ref f22)))
    (l22 : K.lookup f22 = some ⟨oc22, od22, .func (PySem.W.fnOf "_law_stands" "_law_stands" (defArgs s_law_stands) (defBody s_law_stands) (defScope s_law_stands) .none kV22 dc22 pm22 an22 cd22 ct22), sl22⟩)
    (c22 : PySem.W.codeIn K cd22 "_law_stands" = true)
    (k22 : PySem.W.keepIn K (.ref f22) = true)
    (a23 : PySem.W.nsIn K mainGlobals "_law_parts" = some (some (.ref f23)))
    (l23 : K.lookup f23 = some ⟨oc23, od23, .func (PySem.W.fnOf "_law_parts" "_law_parts" (defArgs s_law_parts) (defBody s_law_parts) (defScope s_law_parts) .none kV23 dc23 pm23 an23 cd23 ct23), sl23⟩)
    (c23 : PySem.W.codeIn K cd23 "_law_parts" = true)
    (k23 : PySem.W.keepIn K (.ref f23) = true)
    (a24 : PySem.W.nsIn K mainGlobals "_law_parted" = some (some (.ref f24)))
    (l24 : K.lookup f24 = some ⟨oc24, od24, .func (PySem.W.fnOf "_law_parted" "_law_parted" (defArgs s_law_parted) (defBody s_law_parted) (defScope s_law_parted) .none kV24 dc24 pm24 an24 cd24 ct24), sl24⟩)
    (c24 : PySem.W.codeIn K cd24 "_law_parted" = true)
    (k24 : PySem.W.keepIn K (.ref f24) = true)
    (a25 : PySem.W.nsIn K mainGlobals "_law_differs" = some (some (.ref f25)))
    (l25 : K.lookup f25 = some ⟨oc25, od25, .func (PySem.W.fnOf "_law_differs" "_law_differs" (defArgs s_law_differs) (defBody s_law_differs) (defScope s_law_differs) .none kV25 dc25 pm25 an25 cd25 ct25), sl25⟩)
    (c25 : PySem.W.codeIn K cd25 "_law_differs" = true)
    (k25 : PySem.W.keepIn K (.ref f25) = true)
    (a26 : PySem.W.nsIn K mainGlobals "law" = some (some (.ref f26)))
    (l26 : K.lookup f26 = some ⟨oc26, od26, .func (PySem.W.fnOf "law" "law" (defArgs s_law) (defBody s_law) (defScope s_law) .none kV26 dc26 pm26 an26 cd26 ct26), sl26⟩)
    (c26 : PySem.W.codeIn K cd26 "law" = true)
    (k26 : PySem.W.keepIn K (.ref f26) = true)
    (xL_CopiesDiffer : K.lookup cc_CopiesDiffer = some (excClassObj xnm_CopiesDiffer xq_CopiesDiffer cc_CopiesDiffer xN_CopiesDiffer xbs_CopiesDiffer xbm_CopiesDiffer true xsn_CopiesDiffer xsub_CopiesDiffer xab_CopiesDiffer xcol_CopiesDiffer xdd_CopiesDiffer x0_CopiesDiffer x1_CopiesDiffer x2_CopiesDiffer x3_CopiesDiffer x5_CopiesDiffer "ValueError.__new__"))
    (xr_CopiesDiffer : PySem.HandSPX.refsVE xbm_CopiesDiffer = true)
    (xs_CopiesDiffer : PySem.W.findIn K (.ref cc_CopiesDiffer) "__setattr__" = some (some (.builtin "object.__setattr__")))
    (xe_CopiesDiffer : PySem.W.subIn K (.ref cc_CopiesDiffer) (.type "BaseException") = some true)
    (xt_CopiesDiffer : PySem.W.typeIn K (.ref cc_CopiesDiffer) = some (.type "type"))
    (xk_CopiesDiffer : PySem.W.keepIn K (.ref cc_CopiesDiffer) = true)
    (xu_CopiesDiffer : PySem.W.mroIn K cc_CopiesDiffer (.ref cc_CopiesDiffer) = some true)
    (xn_CopiesDiffer : PySem.W.ks_superIn K cc_CopiesDiffer cc_CopiesDiffer "__init__" = some (some (.builtin "ValueError.__init__")))
    (xv_CopiesDiffer : PySem.W.subIn K (.ref cc_CopiesDiffer) (.type "ValueError") = some true)
    (xy_CopiesDiffer : PySem.W.nsIn K cStatics "thirdparty.any" = some none)
    (ti_CopiesDiffer : PySem.W.typeIn K (.ref f0) = some (.type "function"))
    (xga_CopiesDiffer : PySem.W.findIn K (.ref cc_CopiesDiffer) "__getattribute__" = some (some (.builtin "BaseException.__getattribute__")))
    (xgg_CopiesDiffer : PySem.W.findIn K (.ref cc_CopiesDiffer) "__getattr__" = some none)
    (xhd_CopiesDiffer : PySem.W.hasDictIn K cc_CopiesDiffer = true)
    (xcl_CopiesDiffer : PySem.W.findIn K (.ref cc_CopiesDiffer) "__class__" = some (some (.builtin "object.__class__")))
    (xcn_CopiesDiffer : PySem.W.specialIn K (.builtin "object.__class__") "__get__" = some (some (.builtin "getset_descriptor.__get__")))
    (xct_CopiesDiffer : PySem.W.takesIn K (.builtin "object.__class__") = some true)
    (xcm_CopiesDiffer : PySem.W.mroIn K cc_CopiesDiffer (.type "object") = some true)
    (te_CopiesDiffer : PySem.W.exmOne K (.ref cc_CopiesDiffer) (.ref cc_CopiesDiffer) = some true)
    (nx_CopiesDiffer_left : PySem.W.findIn K (.ref cc_CopiesDiffer) "left" = some none)
    (nx_CopiesDiffer_right : PySem.W.findIn K (.ref cc_CopiesDiffer) "right" = some none)
    (pg_Stretch : PySem.W.plainGet K cc_Stretch Str.empty = true)
    (hd_Stretch : PySem.W.hasDictIn K cc_Stretch = true)
    (po_Stretch : PySem.W.plainOver K cc_Stretch = true)
    (sa_Stretch : PySem.W.findIn K (.ref cc_Stretch) "__setattr__" = some (some (.builtin "object.__setattr__")))
    (mm_Stretch : PySem.W.makesIn K cc_Stretch = true)
    (mf_Stretch : PySem.W.isFn K (.ref f3) = true)
    (mp_Stretch : PySem.W.keepIn K (.ref cc_Stretch) = true)
    (ha_Stretch : PySem.W.findIn K (.ref cc_Stretch) "__class__" = some (some (.builtin "object.__class__")))
    (hn_Stretch : PySem.W.specialIn K (.builtin "object.__class__") "__get__" = some (some (.builtin "getset_descriptor.__get__")))
    (ht_Stretch : PySem.W.takesIn K (.builtin "object.__class__") = some true)
    (hm_Stretch : PySem.W.mroIn K cc_Stretch (.type "object") = some true)
    (me_Stretch : PySem.W.kitOne K (.ref cc_Stretch) (.ref cc_Stretch) = some true)
    (n_Stretch_copies : PySem.W.findIn K (.ref cc_Stretch) "copies" = some none)
    (n_Stretch__lift : PySem.W.findIn K (.ref cc_Stretch) "_lift" = some none)
    (sf_Stretch : PySem.W.selfFirst K cc_Stretch = true)
    (ia4 : PySem.W.isFn K (.ref f4) = true)
    (ia5 : PySem.W.isFn K (.ref f5) = true)
    (ia6 : PySem.W.isFn K (.ref f6) = true)
    (ia7 : PySem.W.isFn K (.ref f7) = true)
    (ki_CopiesDiffer_LotError : PySem.W.kitOne K (.ref cc_CopiesDiffer) (.ref cc_LotError) = some false)
    (ki_CopiesDiffer_OnecopyError : PySem.W.kitOne K (.ref cc_CopiesDiffer) (.ref cc_OnecopyError) = some true)
    (ki_CopiesDiffer_ValueError : PySem.W.kitOne K (.ref cc_CopiesDiffer) (.type "ValueError") = some true)
    (z_ValueError : PySem.W.nsIn K mainGlobals "ValueError" = some none)
    (z_abs : PySem.W.nsIn K mainGlobals "abs" = some none)
    (z_all : PySem.W.nsIn K mainGlobals "all" = some none)
    (z_any : PySem.W.nsIn K mainGlobals "any" = some none)
    (z_bool : PySem.W.nsIn K mainGlobals "bool" = some none)
    (z_enumerate : PySem.W.nsIn K mainGlobals "enumerate" = some none)
    (z_int : PySem.W.nsIn K mainGlobals "int" = some none)
    (z_isinstance : PySem.W.nsIn K mainGlobals "isinstance" = some none)
    (z_len : PySem.W.nsIn K mainGlobals "len" = some none)
    (z_list : PySem.W.nsIn K mainGlobals "list" = some none)
    (z_max : PySem.W.nsIn K mainGlobals "max" = some none)
    (z_range : PySem.W.nsIn K mainGlobals "range" = some none)
    (z_tuple : PySem.W.nsIn K mainGlobals "tuple" = some none)
    (z_zip : PySem.W.nsIn K mainGlobals "zip" = some none) :
    ∃ fd : FuncData, (∀ (s : Shared) (v : Value), BindsTo s fd ⟨[v], []⟩ [("script", v)]) ∧ ∀ base : Heap, K.In base → base.Ns mainGlobals mg → FnOk PySem.Challenge.rw_onecopy_k29_whole_parting.prog w K mg base CX0 8 fa fd ["script"] (spLaw K) := by
  have e := hfa.symm.trans (PySem.W.mg_of X G a26)
  cases e
  let T : Txt PySem.Challenge.rw_onecopy_k29_whole_parting.prog K mg := { c_OnecopyError := cc_OnecopyError, gc_OnecopyError := PySem.W.mg_of X G gc_OnecopyError, c_LotError := cc_LotError, gc_LotError := PySem.W.mg_of X G gc_LotError, c_CopiesDiffer := cc_CopiesDiffer, gc_CopiesDiffer := PySem.W.mg_of X G gc_CopiesDiffer, c_Stretch := cc_Stretch, gc_Stretch := PySem.W.mg_of X G gc_Stretch, f_CopiesDiffer_init := f0, fd_CopiesDiffer_init := _, X_CopiesDiffer_init := ⟨⟨_, _, _, _, _, _, _, q0, h0, _, _, rfl, l0, c0, ⟨_, _, _, cq0⟩, ⟨_, _, _, _, _, _, ch0, cf0, cg0⟩⟩, ⟨_, ci0x⟩, PySem.W.mg_none_of X G cs0, ct0x⟩, b_CopiesDiffer_init := .all fun us hl => match us, hl with | [_, _, _], _ => rfl, f_height_above := f1, fd_height_above := _, F_height_above := fun_mk (st := s_height_above) l1 c1 k1, g_height_above := PySem.W.mg_of X G a1, b_height_above := (fun_mk (st := s_height_above) l1 c1 k1).binds (ps := ["count", "below", "copies"]) (fun _ _ _ _ _ _ us hl => match us, hl with | [_, _, _], _ => rfl), f_kept_height := f2, fd_kept_height := _, F_kept_height := fun_mk (st := s_kept_height) l2 c2 k2, g_kept_height := PySem.W.mg_of X G a2, b_kept_height := (fun_mk (st := s_kept_height) l2 c2 k2).binds (ps := ["count", "below", "copies"]) (fun _ _ _ _ _ _ us hl => match us, hl with | [_, _, _], _ => rfl), f_Stretch_init := f3, fd_Stretch_init := _, F_Stretch_init := fun_mk (st := s_Stretch_init) l3 c3 k3, ds_Stretch_init := [.none], vd_Stretch_init := (.cons rfl .nil), b_Stretch_init := kwb_Stretch_init l3 kw3_below, kb_Stretch_init_below := kwk_Stretch_init_below l3, f_Stretch_lift := f4, fd_Stretch_lift := _, F_Stretch_lift := fun_mk (st := s_Stretch_lift) l4 c4 k4, b_Stretch_lift := (fun_mk (st := s_Stretch_lift) l4 c4 k4).binds (ps := ["self"]) (fun _ _ _ _ _ _ us hl => match us, hl with | [_], _ => rfl), f_Stretch_add := f5, fd_Stretch_add := _, F_Stretch_add := fun_mk (st := s_Stretch_add) l5 c5 k5, b_Stretch_add := (fun_mk (st := s_Stretch_add) l5 c5 k5).binds (ps := ["self", "other"]) (fun _ _ _ _ _ _ us hl => match us, hl with | [_, _], _ => rfl), f_Stretch_eq := f6, fd_Stretch_eq := _, F_Stretch_eq := fun_mk (st := s_Stretch_eq) l6 c6 k6, b_Stretch_eq := (fun_mk (st := s_Stretch_eq) l6 c6 k6).binds (ps := ["self", "other"]) (fun _ _ _ _ _ _ us hl => match us, hl with | [_, _], _ => rfl), f_Stretch_is_keepable := f7, fd_Stretch_is_keepable := _, F_Stretch_is_keepable := fun_mk (st := s_Stretch_is_keepable) l7 c7 k7, b_Stretch_is_keepable := (fun_mk (st := s_Stretch_is_keepable) l7 c7 k7).binds (ps := ["self"]) (fun _ _ _ _ _ _ us hl => match us, hl with | [_], _ => rfl), f_parting := f8, fd_parting := _, F_parting := fun_mk (st := s_parting) l8 c8 k8, g_parting := PySem.W.mg_of X G a8, b_parting := (fun_mk (st := s_parting) l8 c8 k8).binds (ps := ["first", "second"]) (fun _ _ _ _ _ _ us hl => match us, hl with | [_, _], _ => rfl), f_pages_above := f9, fd_pages_above := _, F_pages_above := fun_mk (st := s_pages_above) l9 c9 k9, g_pages_above := PySem.W.mg_of X G a9, b_pages_above := (fun_mk (st := s_pages_above) l9 c9 k9).binds (ps := ["left", "right", "copies"]) (fun _ _ _ _ _ _ us hl => match us, hl with | [_, _, _], _ => rfl), f_law_is_integer := f10, fd_law_is_integer := _, F_law_is_integer := fun_mk (st := s_law_is_integer) l10 c10 k10, g_law_is_integer := PySem.W.mg_of X G a10, b_law_is_integer := (fun_mk (st := s_law_is_integer) l10 c10 k10).binds (ps := ["actual"]) (fun _ _ _ _ _ _ us hl => match us, hl with | [_], _ => rfl), f_law_bag := f11, fd_law_bag := _, F_law_bag := fun_mk (st := s_law_bag) l11 c11 k11, g_law_bag := PySem.W.mg_of X G a11, b_law_bag := (fun_mk (st := s_law_bag) l11 c11 k11).binds (ps := ["script", "k"]) (fun _ _ _ _ _ _ us hl => match us, hl with | [_, _], _ => rfl), f_law_take := f12, fd_law_take := _, F_law_take := fun_mk (st := s_law_take) l12 c12 k12, g_law_take := PySem.W.mg_of X G a12, b_law_take := (fun_mk (st := s_law_take) l12 c12 k12).binds (ps := ["bag", "size"]) (fun _ _ _ _ _ _ us hl => match us, hl with | [_, _], _ => rfl), f_law_copies := f13, fd_law_copies := _, F_law_copies := fun_mk (st := s_law_copies) l13 c13 k13, g_law_copies := PySem.W.mg_of X G a13, b_law_copies := (fun_mk (st := s_law_copies) l13 c13 k13).binds (ps := ["bag"]) (fun _ _ _ _ _ _ us hl => match us, hl with | [_], _ => rfl), f_law_page := f14, fd_law_page := _, F_law_page := fun_mk (st := s_law_page) l14 c14 k14, g_law_page := PySem.W.mg_of X G a14, b_law_page := (fun_mk (st := s_law_page) l14 c14 k14).binds (ps := ["bag"]) (fun _ _ _ _ _ _ us hl => match us, hl with | [_], _ => rfl), f_law_pages := f15, fd_law_pages := _, F_law_pages := fun_mk (st := s_law_pages) l15 c15 k15, g_law_pages := PySem.W.mg_of X G a15, b_law_pages := (fun_mk (st := s_law_pages) l15 c15 k15).binds (ps := ["bag"]) (fun _ _ _ _ _ _ us hl => match us, hl with | [_], _ => rfl), f_law_height := f16, fd_law_height := _, F_law_height := fun_mk (st := s_law_height) l16 c16 k16, g_law_height := PySem.W.mg_of X G a16, b_law_height := (fun_mk (st := s_law_height) l16 c16 k16).binds (ps := ["count", "below", "copies"]) (fun _ _ _ _ _ _ us hl => match us, hl with | [_, _, _], _ => rfl), f_law_rise := f17, fd_law_rise := _, F_law_rise := fun_mk (st := s_law_rise) l17 c17 k17, g_law_rise := PySem.W.mg_of X G a17, b_law_rise := (fun_mk (st := s_law_rise) l17 c17 k17).binds (ps := ["blank", "below", "copies"]) (fun _ _ _ _ _ _ us hl => match us, hl with | [_, _, _], _ => rfl), f_law_lift := f18, fd_law_lift := _, F_law_lift := fun_mk (st := s_law_lift) l18 c18 k18, g_law_lift := PySem.W.mg_of X G a18, b_law_lift := (fun_mk (st := s_law_lift) l18 c18 k18).binds (ps := ["blank", "copies"]) (fun _ _ _ _ _ _ us hl => match us, hl with | [_, _], _ => rfl), f_law_doubled := f19, fd_law_doubled := _, F_law_doubled := fun_mk (st := s_law_doubled) l19 c19 k19, g_law_doubled := PySem.W.mg_of X G a19, b_law_doubled := (fun_mk (st := s_law_doubled) l19 c19 k19).binds (ps := ["bag", "blank"]) (fun _ _ _ _ _ _ us hl => match us, hl with | [_, _], _ => rfl), f_law_second := f20, fd_law_second := _, F_law_second := fun_mk (st := s_law_second) l20 c20 k20, g_law_second := PySem.W.mg_of X G a20, b_law_second := (fun_mk (st := s_law_second) l20 c20 k20).binds (ps := ["bag", "blank"]) (fun _ _ _ _ _ _ us hl => match us, hl with | [_, _], _ => rfl), f_law_holds := f21, fd_law_holds := _, F_law_holds := fun_mk (st := s_law_holds) l21 c21 k21, g_law_holds := PySem.W.mg_of X G a21, b_law_holds := (fun_mk (st := s_law_holds) l21 c21 k21).binds (ps := ["blank", "copies"]) (fun _ _ _ _ _ _ us hl => match us, hl with | [_, _], _ => rfl), f_law_stands := f22, fd_law_stands := _, F_law_stands := fun_mk (st := s_law_stands) l22 c22 k22, g_law_stands := PySem.W.mg_of X G a22, b_law_stands := (fun_mk (st := s_law_stands) l22 c22 k22).binds (ps := ["made", "blank", "above", "below", "copies"]) (fun _ _ _ _ _ _ us hl => match us, hl with | [_, _, _, _, _], _ => rfl), f_law_parts := f23, fd_law_parts := _, F_law_parts := fun_mk (st := s_law_parts) l23 c23 k23, g_law_parts := PySem.W.mg_of X G a23, b_law_parts := (fun_mk (st := s_law_parts) l23 c23 k23).binds (ps := ["told", "first", "second", "copies"]) (fun _ _ _ _ _ _ us hl => match us, hl with | [_, _, _, _], _ => rfl), f_law_parted := f24, fd_law_parted := _, F_law_parted := fun_mk (st := s_law_parted) l24 c24 k24, g_law_parted := PySem.W.mg_of X G a24, b_law_parted := (fun_mk (st := s_law_parted) l24 c24 k24).binds (ps := ["one", "two", "first", "second", "copies"]) (fun _ _ _ _ _ _ us hl => match us, hl with | [_, _, _, _, _], _ => rfl), f_law_differs := f25, fd_law_differs := _, F_law_differs := fun_mk (st := s_law_differs) l25 c25 k25, g_law_differs := PySem.W.mg_of X G a25, b_law_differs := (fun_mk (st := s_law_differs) l25 c25 k25).binds (ps := ["one", "two", "copies", "other"]) (fun _ _ _ _ _ _ us hl => match us, hl with | [_, _, _, _], _ => rfl), f_law := _, fd_law := _, F_law := fun_mk (st := s_law) l26 c26 k26, g_law := PySem.W.mg_of X G a26, b_law := (fun_mk (st := s_law) l26 c26 k26).binds (ps := ["script"]) (fun _ _ _ _ _ _ us hl => match us, hl with | [_], _ => rfl), ox_CopiesDiffer := ⟨⟨_, _, _, _, _, _, _, _, _, _, _, _, _, _, _, xL_CopiesDiffer, xr_CopiesDiffer⟩, xs_CopiesDiffer, xe_CopiesDiffer, xt_CopiesDiffer, xk_CopiesDiffer⟩, su_CopiesDiffer := ⟨⟨⟨_, _, _, _, _, _, _, _, _, _, _, _, _, _, _, xL_CopiesDiffer, xr_CopiesDiffer⟩, xs_CopiesDiffer, xe_CopiesDiffer, xt_CopiesDiffer, xk_CopiesDiffer⟩, xu_CopiesDiffer, xn_CopiesDiffer, xv_CopiesDiffer, xy_CopiesDiffer, ⟨_, _, _, _, _, _, _, _, _, _, _, _, _, _, _, xL_CopiesDiffer⟩⟩, ix_CopiesDiffer := a0, ti_CopiesDiffer := ti_CopiesDiffer, xf_CopiesDiffer := ⟨xga_CopiesDiffer, xgg_CopiesDiffer, xe_CopiesDiffer, xhd_CopiesDiffer⟩, xc_CopiesDiffer := ⟨xga_CopiesDiffer, xgg_CopiesDiffer, xe_CopiesDiffer, xhd_CopiesDiffer, xcl_CopiesDiffer, xcn_CopiesDiffer, xct_CopiesDiffer, xcm_CopiesDiffer⟩, te_CopiesDiffer := te_CopiesDiffer, nx_CopiesDiffer_left := nx_CopiesDiffer_left, nx_CopiesDiffer_right := nx_CopiesDiffer_right, cl_Stretch := ⟨pg_Stretch, hd_Stretch, po_Stretch, sa_Stretch⟩, mk_Stretch := ⟨mm_Stretch, a3, mf_Stretch, mp_Stretch⟩, is_Stretch := ⟨⟨pg_Stretch, hd_Stretch, po_Stretch, sa_Stretch⟩, ha_Stretch, hn_Stretch, ht_Stretch, hm_Stretch, me_Stretch⟩, n_Stretch_copies := n_Stretch_copies, n_Stretch__lift := n_Stretch__lift, sf_Stretch := sf_Stretch, me_Stretch_lift := ⟨a4, ia4, k4⟩, fa_Stretch_add := a5, ia_Stretch_add := ia5, fa_Stretch_eq := a6, ia_Stretch_eq := ia6, me_Stretch_is_keepable := ⟨a7, ia7, k7⟩, ki_CopiesDiffer_LotError := ki_CopiesDiffer_LotError, ki_CopiesDiffer_OnecopyError := ki_CopiesDiffer_OnecopyError, ki_CopiesDiffer_ValueError := ki_CopiesDiffer_ValueError, z_ValueError := PySem.W.mg_none_of X G z_ValueError, z_abs := PySem.W.mg_none_of X G z_abs, z_all := PySem.W.mg_none_of X G z_all, z_any := PySem.W.mg_none_of X G z_any, z_bool := PySem.W.mg_none_of X G z_bool, z_enumerate := PySem.W.mg_none_of X G z_enumerate, z_int := PySem.W.mg_none_of X G z_int, z_isinstance := PySem.W.mg_none_of X G z_isinstance, z_len := PySem.W.mg_none_of X G z_len, z_list := PySem.W.mg_none_of X G z_list, z_max := PySem.W.mg_none_of X G z_max, z_range := PySem.W.mg_none_of X G z_range, z_tuple := PySem.W.mg_none_of X G z_tuple, z_zip := PySem.W.mg_none_of X G z_zip }
  exact ⟨T.fd_law, fun s v => .of_eq rfl, fun base _ _ => ok_law T⟩
end K29
open PySem PySem.W PyProof.Rows
set_option maxRecDepth 100000 in
set_option maxHeartbeats 0 in
theorem PySem.Challenge.cw_onecopy_k29_whole_parting_holds : PySem.Challenge.rw_onecopy_k29_whole_parting.Holds := by
  w_on; o_law; k_head; (case hw => w_witness2)
  k_fill
  refine L2.walk_of (l := PySem.Challenge.rw_onecopy_k29_whole_parting) (n := 63) (k := 8) (x := "script") (CX := fun _ => L2.CX0) (sp := fun w => K29.spLaw _) rfl (by decide) rfl ⟨rfl, by decide, by decide⟩ (fun w h Y => PySem.W.kIn_of Y) ?F (fun _ _ a ns hl _ hS => ⟨a, ns, rfl, hS, hl, fun _ => rfl⟩) (fun _ _ _ _ _ h => h)
  case F =>
    intro w mg fa h KX G hmg
    refine' K29.all_mk KX G hmg ?gc_OnecopyError ?gc_LotError ?gc_CopiesDiffer ?gc_Stretch ?a0 ?l0 ?c0 ?cq0 ?ch0 ?cf0 ?cg0 ?ci0x ?cs0 ?ct0x ?a1 ?l1 ?c1 ?k1 ?a2 ?l2 ?c2 ?k2 ?a3 ?l3 ?c3 ?k3 ?kw3_below ?a4 ?l4 ?c4 ?k4 ?a5 ?l5 ?c5 ?k5 ?a6 ?l6 ?c6 ?k6 ?a7 ?l7 ?c7 ?k7 ?a8 ?l8 ?c8 ?k8 ?a9 ?l9 ?c9 ?k9 ?a10 ?l10 ?c10 ?k10 ?a11 ?l11 ?c11 ?k11 ?a12 ?l12 ?c12 ?k12 ?a13 ?l13 ?c13 ?k13 ?a14 ?l14 ?c14 ?k14 ?a15 ?l15 ?c15 ?k15 ?a16 ?l16 ?c16 ?k16 ?a17 ?l17 ?c17 ?k17 ?a18 ?l18 ?c18 ?k18 ?a19 ?l19 ?c19 ?k19 ?a20 ?l20 ?c20 ?k20 ?a21 ?l21 ?c21 ?k21 ?a22 ?l22 ?c22 ?k22 ?a23 ?l23 ?c23 ?k23 ?a24 ?l24 ?c24 ?k24 ?a25 ?l25 ?c25 ?k25 ?a26 ?l26 ?c26 ?k26 ?xL_CopiesDiffer ?xr_CopiesDiffer ?xs_CopiesDiffer ?xe_CopiesDiffer ?xt_CopiesDiffer ?xk_CopiesDiffer ?xu_CopiesDiffer ?xn_CopiesDiffer ?xv_CopiesDiffer ?xy_CopiesDiffer ?ti_CopiesDiffer ?xga_CopiesDiffer ?xgg_CopiesDiffer ?xhd_CopiesDiffer ?xcl_CopiesDiffer ?xcn_CopiesDiffer ?xct_CopiesDiffer ?xcm_CopiesDiffer ?te_CopiesDiffer ?nx_CopiesDiffer_left ?nx_CopiesDiffer_right ?pg_Stretch ?hd_Stretch ?po_Stretch ?sa_Stretch ?mm_Stretch ?mf_Stretch ?mp_Stretch ?ha_Stretch ?hn_Stretch ?ht_Stretch ?hm_Stretch ?me_Stretch ?n_Stretch_copies ?n_Stretch__lift ?sf_Stretch ?ia4 ?ia5 ?ia6 ?ia7 ?ki_CopiesDiffer_LotError ?ki_CopiesDiffer_OnecopyError ?ki_CopiesDiffer_ValueError ?z_ValueError ?z_abs ?z_all ?z_any ?z_bool ?z_enumerate ?z_int ?z_isinstance ?z_len ?z_list ?z_max ?z_range ?z_tuple ?z_zip
    (case gc_OnecopyError => k_is); (case gc_LotError => k_is); (case gc_CopiesDiffer => k_is); (case gc_Stretch => k_is); (case a0 => k_is); (case l0 => k_is); (case c0 => k_is); (case cq0 => k_is); (case ch0 => k_is); (case cf0 => exact rfl); (case cg0 => first | exact rfl | decide +kernel); (case ci0x => k_is); (case cs0 => k_is); (case ct0x => first | exact rfl | decide +kernel); (case a1 => k_is); (case l1 => k_is); (case c1 => k_is); (case k1 => k_is); (case a2 => k_is); (case l2 => k_is); (case c2 => k_is); (case k2 => k_is); (case a3 => k_is); (case l3 => k_is); (case c3 => k_is); (case k3 => k_is); (case kw3_below => k_is); (case a4 => k_is); (case l4 => k_is); (case c4 => k_is); (case k4 => k_is); (case a5 => k_is); (case l5 => k_is); (case c5 => k_is); (case k5 => k_is); (case a6 => k_is); (case l6 => k_is); (case c6 => k_is); (case k6 => k_is); (case a7 => k_is); (case l7 => k_is); (case c7 => k_is); (case k7 => k_is); (case a8 => k_is); (case l8 => k_is); (case c8 => k_is); (case k8 => k_is); (case a9 => k_is); (case l9 => k_is); (case c9 => k_is); (case k9 => k_is); (case a10 => k_is); (case l10 => k_is); (case c10 => k_is); (case k10 => k_is); (case a11 => k_is); (case l11 => k_is); (case c11 => k_is); (case k11 => k_is); (case a12 => k_is); (case l12 => k_is); (case c12 => k_is); (case k12 => k_is); (case a13 => k_is); (case l13 => k_is); (case c13 => k_is); (case k13 => k_is); (case a14 => k_is); (case l14 => k_is); (case c14 => k_is); (case k14 => k_is); (case a15 => k_is); (case l15 => k_is); (case c15 => k_is); (case k15 => k_is); (case a16 => k_is); (case l16 => k_is); (case c16 => k_is); (case k16 => k_is); (case a17 => k_is); (case l17 => k_is); (case c17 => k_is); (case k17 => k_is); (case a18 => k_is); (case l18 => k_is); (case c18 => k_is); (case k18 => k_is); (case a19 => k_is); (case l19 => k_is); (case c19 => k_is); (case k19 => k_is); (case a20 => k_is); (case l20 => k_is); (case c20 => k_is); (case k20 => k_is); (case a21 => k_is); (case l21 => k_is); (case c21 => k_is); (case k21 => k_is); (case a22 => k_is); (case l22 => k_is); (case c22 => k_is); (case k22 => k_is); (case a23 => k_is); (case l23 => k_is); (case c23 => k_is); (case k23 => k_is); (case a24 => k_is); (case l24 => k_is); (case c24 => k_is); (case k24 => k_is); (case a25 => k_is); (case l25 => k_is); (case c25 => k_is); (case k25 => k_is); (case a26 => k_is); (case l26 => k_is); (case c26 => k_is); (case k26 => k_is); (case xL_CopiesDiffer => k_is); (case xr_CopiesDiffer => first | exact rfl | decide +kernel); (case xs_CopiesDiffer => k_is); (case xe_CopiesDiffer => k_is); (case xt_CopiesDiffer => k_is); (case xk_CopiesDiffer => k_is); (case xu_CopiesDiffer => k_is); (case xn_CopiesDiffer => ks_is); (case xv_CopiesDiffer => k_is); (case xy_CopiesDiffer => k_is); (case ti_CopiesDiffer => k_is); (case xga_CopiesDiffer => k_is); (case xgg_CopiesDiffer => k_is); (case xhd_CopiesDiffer => k_is); (case xcl_CopiesDiffer => k_is); (case xcn_CopiesDiffer => k_is); (case xct_CopiesDiffer => k_is); (case xcm_CopiesDiffer => k_is); (case te_CopiesDiffer => kts_exm); (case nx_CopiesDiffer_left => k_is); (case nx_CopiesDiffer_right => k_is); (case pg_Stretch => k_is); (case hd_Stretch => k_is); (case po_Stretch => k_is); (case sa_Stretch => k_is); (case mm_Stretch => k_is); (case mf_Stretch => k_is); (case mp_Stretch => k_is); (case ha_Stretch => k_is); (case hn_Stretch => k_is); (case ht_Stretch => k_is); (case hm_Stretch => k_is); (case me_Stretch => kit_is); (case n_Stretch_copies => k_is); (case n_Stretch__lift => k_is); (case sf_Stretch => k_is); (case ia4 => k_is); (case ia5 => k_is); (case ia6 => k_is); (case ia7 => k_is); (case ki_CopiesDiffer_LotError => kit_is); (case ki_CopiesDiffer_OnecopyError => kit_is); (case ki_CopiesDiffer_ValueError => kit_is); (case z_ValueError => k_is); (case z_abs => k_is); (case z_all => k_is); (case z_any => k_is); (case z_bool => k_is); (case z_enumerate => k_is); (case z_int => k_is); (case z_isinstance => k_is); (case z_len => k_is); (case z_list => k_is); (case z_max => k_is); (case z_range => k_is); (case z_tuple => k_is); (case z_zip => k_is)