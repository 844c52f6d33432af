import PyProof.Rows.All
import Wide.All
import OpenK.AllK
import Wide.FinOn
import HandS.ForMost
import HandS.IsInst
import HandS.Style
import HandS.Sort
import HandS.RevRange
import HandS.Nested
import HandS.ExcInit
import HandS.ExcIs
import HandS.ExcField
import HandS.Exc
import HandS.WordsExc
import HandS.ExcOwn
import HandS.Codes
import HandS.Defaults
import HandS.MakeKwOnly
import KE.KExcSuper
import HandS.ExcCtx
import HandS.HotCalls
import HandS.ExcInitHot
import KE.KExcIs
import HandS.SortRule
import HandS.SortInts
import HandS.Conv
import HandS.More
import HandS.Flow
import HandS.Deep
import HandS.SetFor
import HandS.Walk
import HandS.Property
import HandS.Text
import HandS.Wide
import PySem.Challenge.RW_onecopy_k19_cells
set_option Elab.async false
set_option linter.all false
set_option maxRecDepth 100000
/-! A small separation logic over the abstract heap: a list of chunks that stand apart; tuples are known, not owned. -/
namespace Oc
open PySem L2

def Subh (h H : Hp) : Prop := ∀ a o, h a = some o → H a = some o
def cutH (H h : Hp) : Hp := fun a => match h a with | some _ => none | none => H a
def one (a : Addr) (o : HO) : Hp := fun b => if b = a then some o else none
/-- what tuples are known -/
abbrev Tmap := Addr → Option (List V)
/-- a part of the heap: one object; a shape; tuples that are known (nobody owns a tuple) -/
inductive Asr where
  | pto (a : Addr) (o : HO)
  | own (A : Hp → Prop)
  | im (τ : Tmap)
abbrev pto (a : Addr) (o : HO) : Asr := .pto a o
abbrev im (τ : Tmap) : Asr := .im τ
instance : Coe (Hp → Prop) Asr := ⟨.own⟩
def Asr.sem : Asr → Hp → Prop
  | .pto a o, h => h = one a o
  | .own A, h => A h
  | .im _, _ => True
def St : Hp → List Asr → Prop
  | _, [] => True
  | H, A :: L => ∃ h, Subh h H ∧ A.sem h ∧ St (cutH H h) L

theorem Subh.refl (h : Hp) : Subh h h := fun _ _ e => e
theorem Subh.trans {h k l : Hp} (a : Subh h k) (b : Subh k l) : Subh h l := fun x o e => b x o (a x o e)
theorem cutH_some {H h : Hp} {a : Addr} {o : HO} : cutH H h a = some o ↔ h a = none ∧ H a = some o := by
  unfold cutH
  cases h a with
  | none => exact ⟨fun e => ⟨rfl, e⟩, fun e => e.2⟩
  | some u => exact ⟨(fun e => nomatch e), (fun e => nomatch e.1)⟩
theorem cutH_sub (H h : Hp) : Subh (cutH H h) H := fun _ _ e => (cutH_some.mp e).2
theorem cutH_mono {H K : Hp} (h : Hp) (s : Subh H K) : Subh (cutH H h) (cutH K h) := fun _ _ e =>
  have q := cutH_some.mp e
  cutH_some.mpr ⟨q.1, s _ _ q.2⟩
theorem St.mono : ∀ {L : List Asr} {H K : Hp}, St H L → Subh H K → St K L
  | [], _, _, _, _ => trivial
  | _ :: _, _, _, ⟨h, s, a, t⟩, q => ⟨h, s.trans q, a, t.mono (cutH_mono h q)⟩
theorem cut_swap {H h k : Hp} (s : Subh k (cutH H h)) : Subh h (cutH H k) ↔ Subh h H := by
  constructor
  · exact fun q => q.trans (cutH_sub _ _)
  · intro q a o e
    refine cutH_some.mpr ⟨?_, q _ _ e⟩
    cases r : k a with
    | none => rfl
    | some u =>
      have z := (cutH_some.mp (s _ _ r)).1
      rw [e] at z
      cases z
theorem cut_comm (H h k : Hp) : cutH (cutH H h) k = cutH (cutH H k) h := by
  funext a
  unfold cutH
  cases h a <;> cases k a <;> rfl
theorem St.swap {A B : Asr} {L : List Asr} {H : Hp} (S : St H (A :: B :: L)) : St H (B :: A :: L) := by
  obtain ⟨h, s, a, k, t, b, S⟩ := S
  exact ⟨k, t.trans (cutH_sub _ _), b, h, (cut_swap t).mpr s, a, by rw [cut_comm]; exact S⟩
theorem St.under {A : Asr} {L M : List Asr} {H : Hp} (f : ∀ K, St K L → St K M) (S : St H (A :: L)) : St H (A :: M) := by
  obtain ⟨h, s, a, S⟩ := S
  exact ⟨h, s, a, f _ S⟩
theorem St.perm {L M : List Asr} (p : L.Perm M) : ∀ {H : Hp}, St H L → St H M := by
  induction p with
  | nil => exact fun S => S
  | cons x _ ih => exact fun S => S.under fun _ => ih
  | swap x y l => exact fun S => S.swap
  | trans _ _ ih1 ih2 => exact fun S => ih2 (ih1 S)
theorem St.tail {A : Asr} {L : List Asr} {H : Hp} (S : St H (A :: L)) : St H L := by
  obtain ⟨h, s, a, S⟩ := S
  exact S.mono (cutH_sub _ _)
theorem St.imp {A B : Asr} {L : List Asr} {H : Hp} (S : St H (A :: L)) (f : ∀ h, A.sem h → B.sem h) : St H (B :: L) := by
  obtain ⟨h, s, a, S⟩ := S
  exact ⟨h, s, f h a, S⟩
theorem St.app_right : ∀ {L M : List Asr} {H : Hp}, St H (L ++ M) → St H M
  | [], _, _, S => S
  | _ :: L, _, _, S => St.app_right (L := L) S.tail
theorem St.app_left : ∀ {L M : List Asr} {H : Hp}, St H (L ++ M) → St H L
  | [], _, _, _ => trivial
  | _ :: L, _, _, S => S.under fun _ T => St.app_left T

/-- several chunks as one -/
def star (L : List Asr) : Asr := .own fun h => St h L
theorem St.join : ∀ {L M : List Asr} {h H : Hp}, St h L → Subh h H → St (cutH H h) M → St H (L ++ M)
  | [], _, _, _, _, _, T => T.mono (cutH_sub _ _)
  | _ :: L, M, h, H, ⟨k, s, a, S⟩, q, T => by
    refine ⟨k, s.trans q, a, St.join (h := cutH h k) S (cutH_mono k q) ?_⟩
    have e : cutH (cutH H k) (cutH h k) = cutH H h := by
      funext x
      unfold cutH
      cases r : k x with
      | none => cases h x <;> rfl
      | some u => rw [s _ _ r]
    rw [e]
    exact T
theorem St.open_star {L M : List Asr} {H : Hp} (S : St H (star L :: M)) : St H (L ++ M) := by
  obtain ⟨h, s, a, S⟩ := S
  exact St.join a s S
theorem cut_cut_sub (H h : Hp) : ∀ k, Subh k (cutH H h) → cutH H h = cutH H h := fun _ _ => rfl
theorem St.close_star : ∀ {L M : List Asr} {H : Hp}, St H (L ++ M) → St H (star L :: M)
  | [], M, H, S => ⟨fun _ => none, (fun _ _ e => nomatch e), trivial, S.mono fun a o e => cutH_some.mpr ⟨rfl, e⟩⟩
  | A :: L, M, H, ⟨k, s, a, S⟩ => by
    obtain ⟨h, t, b, S⟩ := St.close_star (L := L) S
    let g : Hp := fun x => match k x with | some o => some o | none => h x
    have e1 : cutH H g = cutH (cutH H k) h := by
      funext x
      show (match (match k x with | some o => some o | none => h x) with | some _ => none | none => H x) = (match h x with | some _ => none | none => (match k x with | some _ => none | none => H x))
      cases k x <;> cases h x <;> rfl
    refine ⟨g, fun x o e => ?_, ⟨k, fun x o e => ?_, a, ?_⟩, by rw [e1]; exact S⟩
    · have e' : (match k x with | some o => some o | none => h x) = some o := e
      cases r : k x with
      | none =>
        rw [r] at e'
        exact cutH_sub _ _ _ _ (t _ _ e')
      | some u =>
        rw [r] at e'
        rw [← e']
        exact s _ _ r
    · show (match k x with | some o => some o | none => h x) = some o
      rw [e]
    · have e2 : cutH g k = h := by
        funext x
        show (match k x with | some _ => none | none => (match k x with | some o => some o | none => h x)) = h x
        cases r : k x with
        | none => rfl
        | some u =>
          cases q : h x with
          | none => rfl
          | some v =>
            have z := (cutH_some.mp (t _ _ q)).1
            rw [r] at z
            cases z
      rw [e2]
      exact b
/-! ### tuples set aside -/
def isT : HO → Bool
  | .tup _ => true
  | _ => false
def noT (H : Hp) : Hp := fun a => match H a with | some o => if isT o = true then none else some o | none => none
theorem noT_some {H : Hp} {a : Addr} {o : HO} : noT H a = some o ↔ isT o = false ∧ H a = some o := by
  unfold noT
  cases H a with
  | none => exact ⟨(fun e => nomatch e), (fun e => nomatch e.2)⟩
  | some u =>
    cases h : isT u with
    | true =>
      constructor
      · intro e
        simp [h] at e
      · rintro ⟨e, e2⟩
        cases e2
        rw [h] at e
        cases e
    | false =>
      constructor
      · intro e
        simp [h] at e
        subst e
        exact ⟨h, rfl⟩
      · rintro ⟨e, e2⟩
        cases e2
        simp [h]
theorem noT_sub (H : Hp) : Subh (noT H) H := fun _ _ e => (noT_some.mp e).2
theorem noT_upd {H : Hp} {p : Addr} {o : HO} (h : isT o = false) : noT (upd H p o) = upd (noT H) p o := by
  funext a
  by_cases e : a = p
  · subst e
    rw [upd_same]
    exact noT_some.mpr ⟨h, upd_same⟩
  · rw [upd_ne e]
    unfold noT
    rw [upd_ne e]
theorem noT_updT {H : Hp} {p : Addr} {vs : List V} (np : H p = none) : noT (upd H p (.tup vs)) = noT H := by
  funext a
  by_cases e : a = p
  · subst e
    unfold noT
    rw [upd_same, np]
    rfl
  · unfold noT
    rw [upd_ne e]
def Tk (τ : Tmap) (H : Hp) : Prop := ∀ a vs, τ a = some vs → H a = some (.tup vs)
structure Sts (H : Hp) (L : List Asr) : Prop where
  st : St (noT H) L
  tk : ∀ τ, Asr.im τ ∈ L → Tk τ H
theorem Sts.perm {L M : List Asr} (p : L.Perm M) {H : Hp} (S : Sts H L) : Sts H M := ⟨S.st.perm p, fun τ h => S.tk τ (p.mem_iff.mpr h)⟩
theorem Sts.swap {A B : Asr} {L : List Asr} {H : Hp} (S : Sts H (A :: B :: L)) : Sts H (B :: A :: L) := S.perm (.swap B A L)
theorem Sts.tail {A : Asr} {L : List Asr} {H : Hp} (S : Sts H (A :: L)) : Sts H L := ⟨S.st.tail, fun τ h => S.tk τ (List.mem_cons_of_mem _ h)⟩
theorem Sts.app_right {L M : List Asr} {H : Hp} (S : Sts H (L ++ M)) : Sts H M := ⟨S.st.app_right, fun τ h => S.tk τ (List.mem_append_right _ h)⟩
theorem Sts.app_left {L M : List Asr} {H : Hp} (S : Sts H (L ++ M)) : Sts H L := ⟨S.st.app_left, fun τ h => S.tk τ (List.mem_append_left _ h)⟩
/-- the tuples of one heap, the rest of another one -/
def wT (H K : Hp) : Hp := fun a => match H a with | some o => if isT o = true then some o else K a | none => K a
theorem wT_T {H K : Hp} {a : Addr} {vs : List V} (e : H a = some (.tup vs)) : wT H K a = some (.tup vs) := by
  unfold wT
  rw [e]
  rfl
theorem noT_wT {H K : Hp} (h : Subh K (noT H)) : noT (wT H K) = K := by
  funext a
  cases e : K a with
  | none =>
    unfold noT wT
    cases q : H a with
    | none =>
      show (match K a with | some o => if isT o = true then none else some o | none => none) = none
      rw [e]
    | some o =>
      cases t : isT o with
      | true => simp [t]
      | false => simp [t, e]
  | some o =>
    obtain ⟨n, e2⟩ := noT_some.mp (h a o e)
    refine noT_some.mpr ⟨n, ?_⟩
    unfold wT
    rw [e2]
    simp [n, e]
theorem Sts.under {A : Asr} {L M : List Asr} {H : Hp} (f : ∀ K, Sts K L → Sts K M) (S : Sts H (A :: L)) : Sts H (A :: M) := by
  obtain ⟨⟨h, s, a, T⟩, tk⟩ := S
  have hk : Subh (cutH (noT H) h) (noT H) := cutH_sub _ _
  have T2 : Sts (wT H (cutH (noT H) h)) L := ⟨by rw [noT_wT hk]; exact T, fun τ hm b vs e => wT_T (tk τ (List.mem_cons_of_mem _ hm) b vs e)⟩
  have T3 := f _ T2
  refine ⟨⟨h, s, a, by have z := T3.st; rwa [noT_wT hk] at z⟩, fun τ hm b vs e => ?_⟩
  rcases List.mem_cons.mp hm with q | hm
  · exact tk τ (by rw [q]; exact List.mem_cons_self) b vs e
  · have z := T3.tk τ hm b vs e
    unfold wT at z
    cases q : H b with
    | none =>
      rw [q] at z
      have z : cutH (noT H) h b = some (.tup vs) := z
      have y := (noT_some.mp (hk _ _ z)).1
      cases y
    | some o =>
      rw [q] at z
      cases t : isT o with
      | true => simpa [t] using z
      | false =>
        have z : cutH (noT H) h b = some (.tup vs) := by simpa [t] using z
        have y := (noT_some.mp (hk _ _ z)).1
        cases y
/-- one owned chunk for another -/
theorem Sts.impS {A B : Asr} {L : List Asr} {H : Hp} (S : Sts H (A :: L)) (f : ∀ h, A.sem h → B.sem h) (n : ∀ τ, B ≠ .im τ) : Sts H (B :: L) := ⟨S.st.imp f, fun τ h => by
  rcases List.mem_cons.mp h with q | h
  · exact absurd q.symm (n τ)
  · exact S.tk τ (List.mem_cons_of_mem _ h)⟩
theorem Sts.imp {A B : Hp → Prop} {L : List Asr} {H : Hp} (S : Sts H (.own A :: L)) (f : ∀ h, A h → B h) : Sts H (.own B :: L) := S.impS f (fun _ e => nomatch e)
/-- a shape opened: some objects -/
theorem Sts.opn {α : Type} {A : Hp → Prop} {f : α → List Asr} {L : List Asr} {H : Hp} (S : Sts H (.own A :: L)) (g : ∀ h, A h → ∃ x, St h (f x)) (n : ∀ x τ, Asr.im τ ∉ f x) : ∃ x, Sts H (f x ++ L) := by
  obtain ⟨⟨h, s, a, T⟩, tk⟩ := S
  obtain ⟨x, b⟩ := g h a
  refine ⟨x, St.join b s T, fun τ hm => ?_⟩
  rcases List.mem_append.mp hm with q | q
  · exact absurd q (n x τ)
  · exact tk τ (List.mem_cons_of_mem _ q)
/-- .. and closed -/
theorem Sts.cls {A : Hp → Prop} {M L : List Asr} {H : Hp} (S : Sts H (M ++ L)) (g : ∀ h, St h M → A h) : Sts H (.own A :: L) := by
  obtain ⟨h, s, a, T⟩ := St.close_star S.st
  exact ⟨⟨h, s, g h a, T⟩, fun τ hm => S.tk τ (List.mem_append_right _ ((List.mem_cons.mp hm).resolve_left (fun e => nomatch e)))⟩
theorem Sts.ex {α : Type} {f : α → Hp → Prop} {L : List Asr} {H : Hp} (S : Sts H (.own (fun h => ∃ x, f x h) :: L)) : ∃ x, Sts H (.own (f x) :: L) := by
  obtain ⟨⟨h, s, ⟨x, a⟩, T⟩, tk⟩ := S
  exact ⟨x, ⟨h, s, a, T⟩, fun τ hm => tk τ (List.mem_cons_of_mem _ ((List.mem_cons.mp hm).resolve_left (fun e => nomatch e)))⟩
theorem Sts.pur {P : Prop} {A : Hp → Prop} {L : List Asr} {H : Hp} (S : Sts H (.own (fun h => P ∧ A h) :: L)) : P ∧ Sts H (.own A :: L) := by
  obtain ⟨⟨h, s, ⟨p, a⟩, T⟩, tk⟩ := S
  exact ⟨p, ⟨h, s, a, T⟩, fun τ hm => tk τ (List.mem_cons_of_mem _ ((List.mem_cons.mp hm).resolve_left (fun e => nomatch e)))⟩
/-! ### tuples -/
def Le (τ υ : Tmap) : Prop := ∀ a vs, τ a = some vs → υ a = some vs
theorem Le.refl (τ : Tmap) : Le τ τ := fun _ _ e => e
theorem Le.trans {τ υ φ : Tmap} (a : Le τ υ) (b : Le υ φ) : Le τ φ := fun x o e => b x o (a x o e)
def addT (τ : Tmap) (p : Addr) (vs : List V) : Tmap := fun a => if a = p then some vs else τ a
theorem addT_same {τ : Tmap} {p : Addr} {vs : List V} : addT τ p vs p = some vs := if_pos rfl
theorem Sts.tp {τ : Tmap} {L : List Asr} {H : Hp} {t : Addr} {vs : List V} (S : Sts H (.im τ :: L)) (e : τ t = some vs) : H t = some (.tup vs) := S.tk τ List.mem_cons_self t vs e
theorem Sts.imW {τ υ : Tmap} {L : List Asr} {H : Hp} (S : Sts H (.im τ :: L)) (k : Tk υ H) : Sts H (.im υ :: L) := ⟨by
  obtain ⟨h, s, _, T⟩ := S.st
  exact ⟨h, s, trivial, T⟩, fun φ hm => by
  rcases List.mem_cons.mp hm with q | q
  · cases q
    exact k
  · exact S.tk φ (List.mem_cons_of_mem _ q)⟩
/-- what stands in the heap as a tuple is known from then on -/
theorem Sts.learn {τ : Tmap} {L : List Asr} {H : Hp} {t : Addr} {vs : List V} (S : Sts H (.im τ :: L)) (e : H t = some (.tup vs)) : ∃ υ, Le τ υ ∧ υ t = some vs ∧ Sts H (.im υ :: L) := by
  have k := S.tk τ List.mem_cons_self
  refine ⟨addT τ t vs, fun a us h => ?_, addT_same, S.imW fun a us h => ?_⟩
  · unfold addT
    by_cases q : a = t
    · subst q
      rw [if_pos rfl]
      have z := (k _ _ h).symm.trans e
      cases z
      rfl
    · rw [if_neg q]
      exact h
  · unfold addT at h
    by_cases q : a = t
    · rw [if_pos q] at h
      cases h
      rw [q]
      exact e
    · rw [if_neg q] at h
      exact k _ _ h
theorem Sts.im0 {L : List Asr} {H : Hp} (S : Sts H L) : Sts H (.im (fun _ => none) :: L) := ⟨⟨fun _ => none, (fun _ _ e => nomatch e), trivial, S.st.mono fun a o e => cutH_some.mpr ⟨rfl, e⟩⟩, fun τ hm => by
  rcases List.mem_cons.mp hm with q | q
  · cases q
    exact fun _ _ e => nomatch e
  · exact S.tk τ q⟩

/-! ### one object -/
theorem one_self (a : Addr) (o : HO) : one a o a = some o := by
  unfold one
  rw [if_pos rfl]
theorem one_iff {a b : Addr} {o u : HO} : one a o b = some u ↔ b = a ∧ o = u := by
  unfold one
  by_cases e : b = a
  · rw [if_pos e]
    exact ⟨fun q => ⟨e, Option.some.inj q⟩, fun q => by rw [q.2]⟩
  · rw [if_neg e]
    exact ⟨(fun q => nomatch q), (fun q => absurd q.1 e)⟩
theorem Sts.hdN {a : Addr} {o : HO} {L : List Asr} {H : Hp} (S : Sts H (pto a o :: L)) : noT H a = some o := by
  obtain ⟨⟨h, s, rfl, _⟩, _⟩ := S
  exact s _ _ (one_self a o)
theorem Sts.hd {a : Addr} {o : HO} {L : List Asr} {H : Hp} (S : Sts H (pto a o :: L)) : H a = some o := (noT_some.mp S.hdN).2
theorem Sts.hdT {a : Addr} {o : HO} {L : List Asr} {H : Hp} (S : Sts H (pto a o :: L)) : isT o = false := (noT_some.mp S.hdN).1
theorem Sts.mem_pto {a : Addr} {o : HO} {L : List Asr} {τ : Tmap} (h : Asr.im τ ∈ pto a o :: L) : Asr.im τ ∈ L := (List.mem_cons.mp h).resolve_left (fun e => nomatch e)
theorem Sts.new {L : List Asr} {H : Hp} (S : Sts H L) {p : Addr} (o : HO) (np : H p = none) (ho : isT o = false := by rfl) : Sts (upd H p o) (pto p o :: L) := by
  have nn : noT H p = none := by
    unfold noT
    rw [np]
  refine ⟨⟨one p o, fun a u e => ?_, rfl, S.st.mono fun a u e => cutH_some.mpr ⟨?_, ?_⟩⟩, fun τ hm a vs e => ?_⟩
  · obtain ⟨rfl, rfl⟩ := one_iff.mp e
    rw [noT_upd ho]
    exact upd_same
  · have ne : a ≠ p := ne_of_none e nn
    unfold one
    rw [if_neg ne]
  · rw [noT_upd ho, upd_ne (ne_of_none e nn)]
    exact e
  · have z := S.tk τ (Sts.mem_pto hm) a vs e
    rw [upd_ne (ne_of_none z np)]
    exact z
theorem Sts.newT {L : List Asr} {H : Hp} {τ : Tmap} (S : Sts H (.im τ :: L)) {p : Addr} (vs : List V) (np : H p = none) : ∃ υ, Le τ υ ∧ υ p = some vs ∧ Sts (upd H p (.tup vs)) (.im υ :: L) := by
  have S2 : Sts (upd H p (.tup vs)) (.im τ :: L) := ⟨by rw [noT_updT np]; exact S.st, fun φ hm a us e => by
    have z := S.tk φ hm a us e
    rw [upd_ne (ne_of_none z np)]
    exact z⟩
  exact S2.learn upd_same
theorem Sts.newT0 {L : List Asr} {H : Hp} (S : Sts H L) {p : Addr} (vs : List V) (np : H p = none) : Sts (upd H p (.tup vs)) L := ⟨by rw [noT_updT np]; exact S.st, fun φ hm a us e => by
    have z := S.tk φ hm a us e
    rw [upd_ne (ne_of_none z np)]
    exact z⟩
theorem Sts.put {a : Addr} {o : HO} {L : List Asr} {H : Hp} (S : Sts H (pto a o :: L)) (u : HO) (hu : isT u = false := by rfl) : Sts (upd H a u) (pto a u :: L) := by
  have ho := S.hdT
  have hh := S.hd
  obtain ⟨⟨h, s, rfl, T⟩, tk⟩ := S
  refine ⟨⟨one a u, fun b v e => ?_, rfl, T.mono fun b v e => ?_⟩, fun τ hm b vs e => ?_⟩
  · obtain ⟨rfl, rfl⟩ := one_iff.mp e
    rw [noT_upd hu]
    exact upd_same
  · obtain ⟨e1, e2⟩ := cutH_some.mp e
    have ne : b ≠ a := fun z => by
      rw [z, one_self] at e1
      cases e1
    refine cutH_some.mpr ⟨?_, ?_⟩
    · unfold one
      rw [if_neg ne]
    · rw [noT_upd hu, upd_ne ne]
      exact e2
  · have z := tk τ (List.mem_cons_of_mem _ (Sts.mem_pto hm)) b vs e
    have ne : b ≠ a := fun q => by
      rw [q, hh] at z
      cases z
      cases ho
    rw [upd_ne ne]
    exact z
theorem Sts.apart {a b : Addr} {o u : HO} {L : List Asr} {H : Hp} (S : Sts H (pto a o :: pto b u :: L)) : a ≠ b := by
  obtain ⟨⟨h, s, rfl, k, t, rfl, _⟩, _⟩ := S
  intro e
  have z := (cutH_some.mp (t _ _ (one_self b u))).1
  rw [← e, one_self] at z
  cases z
theorem Sts.none_ne {a p : Addr} {o : HO} {L : List Asr} {H : Hp} (S : Sts H (pto a o :: L)) (np : H p = none) : a ≠ p := ne_of_none S.hd np

/-! ### a chunk to the front -/
section
variable {A0 A1 A2 A3 A4 A5 A6 A7 A8 A9 A10 A11 A12 A13 A14 A15 A16 A17 A18 A19 A20 A21 A22 A23 A24 : Asr} {L : List Asr} {H : Hp}
theorem Sts.to0 (S : Sts H (A0 :: L)) : Sts H (A0 :: L) := S
theorem Sts.to1 (S : Sts H (A0 :: A1 :: L)) : Sts H (A1 :: A0 :: L) := S.swap
theorem Sts.to2 (S : Sts H (A0 :: A1 :: A2 :: L)) : Sts H (A2 :: A0 :: A1 :: L) := (S.under fun _ T => T.to1).swap
theorem Sts.to3 (S : Sts H (A0 :: A1 :: A2 :: A3 :: L)) : Sts H (A3 :: A0 :: A1 :: A2 :: L) := (S.under fun _ T => T.to2).swap
theorem Sts.to4 (S : Sts H (A0 :: A1 :: A2 :: A3 :: A4 :: L)) : Sts H (A4 :: A0 :: A1 :: A2 :: A3 :: L) := (S.under fun _ T => T.to3).swap
theorem Sts.to5 (S : Sts H (A0 :: A1 :: A2 :: A3 :: A4 :: A5 :: L)) : Sts H (A5 :: A0 :: A1 :: A2 :: A3 :: A4 :: L) := (S.under fun _ T => T.to4).swap
theorem Sts.to6 (S : Sts H (A0 :: A1 :: A2 :: A3 :: A4 :: A5 :: A6 :: L)) : Sts H (A6 :: A0 :: A1 :: A2 :: A3 :: A4 :: A5 :: L) := (S.under fun _ T => T.to5).swap
theorem Sts.to7 (S : Sts H (A0 :: A1 :: A2 :: A3 :: A4 :: A5 :: A6 :: A7 :: L)) : Sts H (A7 :: A0 :: A1 :: A2 :: A3 :: A4 :: A5 :: A6 :: L) := (S.under fun _ T => T.to6).swap
theorem Sts.to8 (S : Sts H (A0 :: A1 :: A2 :: A3 :: A4 :: A5 :: A6 :: A7 :: A8 :: L)) : Sts H (A8 :: A0 :: A1 :: A2 :: A3 :: A4 :: A5 :: A6 :: A7 :: L) := (S.under fun _ T => T.to7).swap
theorem Sts.to9 (S : Sts H (A0 :: A1 :: A2 :: A3 :: A4 :: A5 :: A6 :: A7 :: A8 :: A9 :: L)) : Sts H (A9 :: A0 :: A1 :: A2 :: A3 :: A4 :: A5 :: A6 :: A7 :: A8 :: L) := (S.under fun _ T => T.to8).swap
theorem Sts.to10 (S : Sts H (A0 :: A1 :: A2 :: A3 :: A4 :: A5 :: A6 :: A7 :: A8 :: A9 :: A10 :: L)) : Sts H (A10 :: A0 :: A1 :: A2 :: A3 :: A4 :: A5 :: A6 :: A7 :: A8 :: A9 :: L) := (S.under fun _ T => T.to9).swap
theorem Sts.to11 (S : Sts H (A0 :: A1 :: A2 :: A3 :: A4 :: A5 :: A6 :: A7 :: A8 :: A9 :: A10 :: A11 :: L)) : Sts H (A11 :: A0 :: A1 :: A2 :: A3 :: A4 :: A5 :: A6 :: A7 :: A8 :: A9 :: A10 :: L) := (S.under fun _ T => T.to10).swap
theorem Sts.to12 (S : Sts H (A0 :: A1 :: A2 :: A3 :: A4 :: A5 :: A6 :: A7 :: A8 :: A9 :: A10 :: A11 :: A12 :: L)) : Sts H (A12 :: A0 :: A1 :: A2 :: A3 :: A4 :: A5 :: A6 :: A7 :: A8 :: A9 :: A10 :: A11 :: L) := (S.under fun _ T => T.to11).swap
theorem Sts.to13 (S : Sts H (A0 :: A1 :: A2 :: A3 :: A4 :: A5 :: A6 :: A7 :: A8 :: A9 :: A10 :: A11 :: A12 :: A13 :: L)) : Sts H (A13 :: A0 :: A1 :: A2 :: A3 :: A4 :: A5 :: A6 :: A7 :: A8 :: A9 :: A10 :: A11 :: A12 :: L) := (S.under fun _ T => T.to12).swap
theorem Sts.to14 (S : Sts H (A0 :: A1 :: A2 :: A3 :: A4 :: A5 :: A6 :: A7 :: A8 :: A9 :: A10 :: A11 :: A12 :: A13 :: A14 :: L)) : Sts H (A14 :: A0 :: A1 :: A2 :: A3 :: A4 :: A5 :: A6 :: A7 :: A8 :: A9 :: A10 :: A11 :: A12 :: A13 :: L) := (S.under fun _ T => T.to13).swap
theorem Sts.to15 (S : Sts H (A0 :: A1 :: A2 :: A3 :: A4 :: A5 :: A6 :: A7 :: A8 :: A9 :: A10 :: A11 :: A12 :: A13 :: A14 :: A15 :: L)) : Sts H (A15 :: A0 :: A1 :: A2 :: A3 :: A4 :: A5 :: A6 :: A7 :: A8 :: A9 :: A10 :: A11 :: A12 :: A13 :: A14 :: L) := (S.under fun _ T => T.to14).swap
theorem Sts.to16 (S : Sts H (A0 :: A1 :: A2 :: A3 :: A4 :: A5 :: A6 :: A7 :: A8 :: A9 :: A10 :: A11 :: A12 :: A13 :: A14 :: A15 :: A16 :: L)) : Sts H (A16 :: A0 :: A1 :: A2 :: A3 :: A4 :: A5 :: A6 :: A7 :: A8 :: A9 :: A10 :: A11 :: A12 :: A13 :: A14 :: A15 :: L) := (S.under fun _ T => T.to15).swap
theorem Sts.to17 (S : Sts H (A0 :: A1 :: A2 :: A3 :: A4 :: A5 :: A6 :: A7 :: A8 :: A9 :: A10 :: A11 :: A12 :: A13 :: A14 :: A15 :: A16 :: A17 :: L)) : Sts H (A17 :: A0 :: A1 :: A2 :: A3 :: A4 :: A5 :: A6 :: A7 :: A8 :: A9 :: A10 :: A11 :: A12 :: A13 :: A14 :: A15 :: A16 :: L) := (S.under fun _ T => T.to16).swap
theorem Sts.to18 (S : Sts H (A0 :: A1 :: A2 :: A3 :: A4 :: A5 :: A6 :: A7 :: A8 :: A9 :: A10 :: A11 :: A12 :: A13 :: A14 :: A15 :: A16 :: A17 :: A18 :: L)) : Sts H (A18 :: A0 :: A1 :: A2 :: A3 :: A4 :: A5 :: A6 :: A7 :: A8 :: A9 :: A10 :: A11 :: A12 :: A13 :: A14 :: A15 :: A16 :: A17 :: L) := (S.under fun _ T => T.to17).swap
theorem Sts.to19 (S : Sts H (A0 :: A1 :: A2 :: A3 :: A4 :: A5 :: A6 :: A7 :: A8 :: A9 :: A10 :: A11 :: A12 :: A13 :: A14 :: A15 :: A16 :: A17 :: A18 :: A19 :: L)) : Sts H (A19 :: A0 :: A1 :: A2 :: A3 :: A4 :: A5 :: A6 :: A7 :: A8 :: A9 :: A10 :: A11 :: A12 :: A13 :: A14 :: A15 :: A16 :: A17 :: A18 :: L) := (S.under fun _ T => T.to18).swap
theorem Sts.to20 (S : Sts H (A0 :: A1 :: A2 :: A3 :: A4 :: A5 :: A6 :: A7 :: A8 :: A9 :: A10 :: A11 :: A12 :: A13 :: A14 :: A15 :: A16 :: A17 :: A18 :: A19 :: A20 :: L)) : Sts H (A20 :: A0 :: A1 :: A2 :: A3 :: A4 :: A5 :: A6 :: A7 :: A8 :: A9 :: A10 :: A11 :: A12 :: A13 :: A14 :: A15 :: A16 :: A17 :: A18 :: A19 :: L) := (S.under fun _ T => T.to19).swap
theorem Sts.to21 (S : Sts H (A0 :: A1 :: A2 :: A3 :: A4 :: A5 :: A6 :: A7 :: A8 :: A9 :: A10 :: A11 :: A12 :: A13 :: A14 :: A15 :: A16 :: A17 :: A18 :: A19 :: A20 :: A21 :: L)) : Sts H (A21 :: A0 :: A1 :: A2 :: A3 :: A4 :: A5 :: A6 :: A7 :: A8 :: A9 :: A10 :: A11 :: A12 :: A13 :: A14 :: A15 :: A16 :: A17 :: A18 :: A19 :: A20 :: L) := (S.under fun _ T => T.to20).swap
theorem Sts.to22 (S : Sts H (A0 :: A1 :: A2 :: A3 :: A4 :: A5 :: A6 :: A7 :: A8 :: A9 :: A10 :: A11 :: A12 :: A13 :: A14 :: A15 :: A16 :: A17 :: A18 :: A19 :: A20 :: A21 :: A22 :: L)) : Sts H (A22 :: A0 :: A1 :: A2 :: A3 :: A4 :: A5 :: A6 :: A7 :: A8 :: A9 :: A10 :: A11 :: A12 :: A13 :: A14 :: A15 :: A16 :: A17 :: A18 :: A19 :: A20 :: A21 :: L) := (S.under fun _ T => T.to21).swap
theorem Sts.to23 (S : Sts H (A0 :: A1 :: A2 :: A3 :: A4 :: A5 :: A6 :: A7 :: A8 :: A9 :: A10 :: A11 :: A12 :: A13 :: A14 :: A15 :: A16 :: A17 :: A18 :: A19 :: A20 :: A21 :: A22 :: A23 :: L)) : Sts H (A23 :: A0 :: A1 :: A2 :: A3 :: A4 :: A5 :: A6 :: A7 :: A8 :: A9 :: A10 :: A11 :: A12 :: A13 :: A14 :: A15 :: A16 :: A17 :: A18 :: A19 :: A20 :: A21 :: A22 :: L) := (S.under fun _ T => T.to22).swap
theorem Sts.to24 (S : Sts H (A0 :: A1 :: A2 :: A3 :: A4 :: A5 :: A6 :: A7 :: A8 :: A9 :: A10 :: A11 :: A12 :: A13 :: A14 :: A15 :: A16 :: A17 :: A18 :: A19 :: A20 :: A21 :: A22 :: A23 :: A24 :: L)) : Sts H (A24 :: A0 :: A1 :: A2 :: A3 :: A4 :: A5 :: A6 :: A7 :: A8 :: A9 :: A10 :: A11 :: A12 :: A13 :: A14 :: A15 :: A16 :: A17 :: A18 :: A19 :: A20 :: A21 :: A22 :: A23 :: L) := (S.under fun _ T => T.to23).swap
end

/-! ### the script -/
structure sqc (K : PySem.W.Frag) (a : Addr) (xs : List V) (h : Hp) : Prop where
  sq : SqL K h a xs
theorem sqc_sub {K : PySem.W.Frag} {a : Addr} {xs : List V} {h H : Hp} (x : SqL K h a xs) (s : Subh h H) : SqL K H a xs := by
  rcases x with (x | ⟨o, x⟩) | x
  · exact .inl (.inl (s _ _ x))
  · exact .inl (.inr ⟨o, s _ _ x⟩)
  · exact .inr x
theorem Sts.sq {K : PySem.W.Frag} {a : Addr} {xs : List V} {L : List Asr} {H : Hp} (S : Sts H (.own (sqc K a xs) :: L)) : SqL K H a xs := by
  obtain ⟨⟨h, s, x, _⟩, _⟩ := S
  exact sqc_sub x.sq (s.trans (noT_sub H))
theorem sqc_noT {K : PySem.W.Frag} {a : Addr} {xs : List V} {H : Hp} (x : SqL K H a xs) : SqL K (noT H) a xs := by
  rcases x with (x | ⟨o, x⟩) | x
  · exact .inl (.inl (noT_some.mpr ⟨rfl, x⟩))
  · exact .inl (.inr ⟨o, noT_some.mpr ⟨rfl, x⟩⟩)
  · exact .inr x
theorem sts_script {K : PySem.W.Frag} {a : Addr} {xs : List V} {H : Hp} (x : SqL K H a xs) : Sts H [.own (sqc K a xs)] := ⟨⟨noT H, Subh.refl _, ⟨sqc_noT x⟩, trivial⟩, fun τ h => by simp at h⟩
end Oc
/-! ### rules by values, in the forms that the proofs use -/
namespace Oc
open PySem PySem.Spec PyProof.Rows L2

theorem pr {p : Prop} (h : p) : p := h
/-! a rule's end may be weakened: the closure of each reading from above -/
def upE (t : TE) : TE := fun σ H Q => ∃ P : VK, t σ H P ∧ ∀ v H1, P v H1 → Q v H1
def upA (t : TA) : TA := fun σ H Q => ∃ P : List V → Hp → Prop, t σ H P ∧ ∀ vs H1, P vs H1 → Q vs H1
def upS (t : TS) : TS := fun D σ H => ∃ Mid : L2.St → Hp → Prop, t { D with nx := Mid } σ H ∧ ∀ σ' H', Mid σ' H' → D.nx σ' H'
section
variable {X : Cx}
theorem pe_up {e : Expr} {t : TE} (h : PE X e t) : PE X e (upE t) := ⟨fun pn s σ H Q J ⟨P, p, w⟩ => thn (h.run pn s σ H P J p) fun _ _ ⟨v, H1, J1, r, q⟩ => ⟨v, H1, J1, r, w v H1 q⟩⟩
theorem pa_up {es : List Expr} {t : TA} (h : PA X es t) : PA X es (upA t) := ⟨fun pos pn s σ H Q J ⟨P, p, w⟩ => thn (h.run pos pn s σ H P J p) fun _ _ ⟨vs, H1, J1, r, q⟩ => ⟨vs, H1, J1, r, w vs H1 q⟩⟩
theorem pk_up {ks : List Keyword} {t : TA} (h : PK X ks t) : PK X ks (upA t) := ⟨fun pos pn s σ H Q J ⟨P, p, w⟩ => thn (h.run pos pn s σ H P J p) fun _ _ ⟨vs, H1, J1, r, q⟩ => ⟨vs, H1, J1, r, w vs H1 q⟩⟩
theorem ps_up {st : Stmt} {t : TS} (h : PS X st t) : PS X st (upS t) := ⟨fun pn s σ H D J ⟨Mid, p, w⟩ => thn (h.run pn s σ H { D with nx := Mid } J p) fun f s1 q => match f, q with
  | .next, ⟨σ', H', J1, q⟩ => ⟨σ', H', J1, w σ' H' q⟩
  | .ret _, q => q
  | .brk, q => q
  | .cont, q => q⟩
end
/-- the i-th of a list of ints, 0 outside -/
def gI (ns : List Int) (i : Int) : Int := ns.getD i.toNat 0
theorem atI_of {xs : List V} {i : Int} {v : V} (h0 : 0 ≤ i) (h : xs[i.toNat]? = some v) : atI xs i = some v := by
  have e : i = ((i.toNat : Nat) : Int) := by omega
  rw [e]
  exact atI_nat h
theorem atI_ints {ns : List Int} {i : Int} (h0 : 0 ≤ i) (h1 : i < ns.length) : atI (ns.map V.int) i = some (.int (gI ns i)) := by
  refine atI_of h0 ?_
  have hl : i.toNat < ns.length := by omega
  rw [List.getElem?_map, List.getElem?_eq_getElem hl]
  unfold gI
  rw [List.getD_eq_getElem?_getD, List.getElem?_eq_getElem hl]
  rfl
theorem gI_mem {ns : List Int} {i : Int} (h0 : 0 ≤ i) (h1 : i < ns.length) : gI ns i ∈ ns := by
  have hl : i.toNat < ns.length := by omega
  unfold gI
  rw [List.getD_eq_getElem?_getD, List.getElem?_eq_getElem hl]
  exact List.getElem_mem hl
theorem ixN_of {n : Nat} {i : Int} (h0 : 0 ≤ i) (h1 : i < n) : ixN n i = some i.toNat := by
  unfold ixN
  rw [if_pos h0, if_pos h1]
/-- a slice of any list -/
def cutL {α : Type} (xs : List α) (lo hi : Option Int) : List α := (xs.drop (HT.sIx xs.length 0 lo)).take (HT.sIx xs.length xs.length hi - HT.sIx xs.length 0 lo)
theorem cutV_map {α : Type} (f : α → V) (xs : List α) (lo hi : Option Int) : cutV (xs.map f) lo hi = (cutL xs lo hi).map f := by
  unfold cutV cutL
  rw [List.length_map, List.map_take, List.map_drop]
theorem sIx_int (n d : Nat) {i : Int} (h : 0 ≤ i) : HT.sIx n d (some i) = min i.toNat n := by
  have e : i = ((i.toNat : Nat) : Int) := by omega
  rw [e, HT.sIx_nat, Int.toNat_natCast]
theorem cutL_take {α : Type} (xs : List α) {i : Int} (h : 0 ≤ i) : cutL xs none (some i) = xs.take i.toNat := by
  unfold cutL
  rw [HT.sIx_none, sIx_int _ _ h, List.drop_zero, Nat.sub_zero]
  by_cases q : i.toNat ≤ xs.length
  · rw [Nat.min_eq_left q]
  · rw [Nat.min_eq_right (by omega), List.take_length, List.take_of_length_le (by omega)]
theorem cutL_drop {α : Type} (xs : List α) {i : Int} (h : 0 ≤ i) : cutL xs (some i) none = xs.drop i.toNat := by
  unfold cutL
  rw [HT.sIx_none, sIx_int _ _ h]
  by_cases q : i.toNat ≤ xs.length
  · rw [Nat.min_eq_left q, List.take_of_length_le (by rw [List.length_drop]; exact Nat.le_refl _)]
  · rw [Nat.min_eq_right (by omega), List.drop_length, List.drop_of_length_le (by omega), List.take_nil]
theorem cutL_mid {α : Type} (xs : List α) {i j : Int} (h : 0 ≤ i) (hj : 0 ≤ j) : cutL xs (some i) (some j) = (xs.drop i.toNat).take (j.toNat - i.toNat) := by
  unfold cutL
  rw [sIx_int _ _ h, sIx_int _ _ hj]
  by_cases q : i.toNat ≤ xs.length
  · rw [Nat.min_eq_left q]
    by_cases r : j.toNat ≤ xs.length
    · rw [Nat.min_eq_left r]
    · rw [Nat.min_eq_right (show xs.length ≤ j.toNat by omega), List.take_of_length_le (by rw [List.length_drop]; exact Nat.le_refl _), List.take_of_length_le (by rw [List.length_drop]; omega)]
  · rw [Nat.min_eq_right (show xs.length ≤ i.toNat by omega), List.drop_length, List.drop_of_length_le (show xs.length ≤ i.toNat by omega), List.take_nil, List.take_nil]
theorem cutL_all {α : Type} (xs : List α) : cutL xs none none = xs := by
  unfold cutL
  rw [HT.sIx_none, HT.sIx_none, List.drop_zero, Nat.sub_zero, List.take_length]
theorem dci (a b : Int) : decide (V.int a = V.int b) = decide (a = b) := by
  by_cases h : a = b
  · rw [h, decide_eq_true rfl, decide_eq_true rfl]
  · rw [decide_eq_false h, decide_eq_false fun e => h (V.int.inj e)]

section
variable {X : Cx}
theorem oc_int_i : CallR X (.type "int") (fun xs H Q => ∃ i, xs = [.int i] ∧ Q (.int i) H) := fun pins s σ H xs us Q I r h => call_int1 pins s σ H xs us Q I r (.inl h)
theorem oc_int_b : CallR X (.type "int") (fun xs H Q => ∃ k, xs = [.bl k] ∧ Q (.int (if k then 1 else 0)) H) := fun pins s σ H xs us Q I r h => call_int1 pins s σ H xs us Q I r (.inr h)
/-- a written power -/
theorem oc_powc (i j r : Int) (h : CPow i j) (e : i ^ j.toNat = r) : OpR X (binaryOp .Pow) (fun x y H Q => x = .int i ∧ y = .int j ∧ Q (.int r) H) := fun pins s σ H x y v u Q I rx ry ⟨e1, e2, q⟩ =>
  op_pow pins s σ H x y v u Q I rx ry ⟨i, j, e1, e2, h, by show Q (.int (i ^ j.toNat)) H; rw [e]; exact q⟩
theorem oc_min2 (hc : X.calm = true) : CallR X (.builtin "min") (fun xs H Q => ∃ i j, xs = [.int i, .int j] ∧ Q (.int (min i j)) H) := fun pins s σ H xs us Q I r ⟨i, j, e, q⟩ => call_min2 hc pins s σ H xs us Q I r ⟨i, j, e, by
  have h : (if j < i then j else i) = min i j := by split <;> omega
  rw [h]
  exact q⟩
theorem oc_max2 (hc : X.calm = true) : CallR X (.builtin "max") (fun xs H Q => ∃ i j, xs = [.int i, .int j] ∧ Q (.int (max i j)) H) := fun pins s σ H xs us Q I r ⟨i, j, e, q⟩ => call_max2 hc pins s σ H xs us Q I r ⟨i, j, e, by
  have h : (if j > i then j else i) = max i j := by split <;> omega
  rw [h]
  exact q⟩
theorem oc_abs : CallR X (.builtin "abs") (fun xs H Q => ∃ i : Int, xs = [.int i] ∧ Q (.int (i.natAbs : Nat)) H) := fun pins s σ H xs us Q I r ⟨i, e, q⟩ => call_abs pins s σ H xs us Q I r ⟨i, e, by
  have h : (if i < 0 then -i else i) = ((i.natAbs : Nat) : Int) := by split <;> omega
  rw [h]
  exact q⟩
section
variable {K : PySem.W.Frag} (hK : X.K = K)
include hK
theorem oc_len : CallR X (.builtin "len") (fun xs H Q => ∃ p ys, xs = [.ref p] ∧ SqL K H p ys ∧ Q (.int ys.length) H) := fun pins s σ H xs us Q I r ⟨p, ys, e, h, q⟩ => call_len_seq pins s σ H xs us Q I r ⟨p, ys, e, .inl (hK ▸ h), q⟩
theorem oc_lenT : CallR X (.builtin "len") (fun xs H Q => ∃ p ys, xs = [.ref p] ∧ SqT K H p ys ∧ Q (.int ys.length) H) := fun pins s σ H xs us Q I r ⟨p, ys, e, h, q⟩ => call_len_seq pins s σ H xs us Q I r ⟨p, ys, e, .inr (hK ▸ h), q⟩
theorem oc_lenI : CallR X (.builtin "len") (fun xs H Q => ∃ p, ∃ ns : List Int, xs = [.ref p] ∧ SqL K H p (ns.map V.int) ∧ Q (.int ns.length) H) := fun pins s σ H xs us Q I r ⟨p, ns, e, h, q⟩ => call_len_seq pins s σ H xs us Q I r ⟨p, _, e, .inl (hK ▸ h), by rw [List.length_map]; exact q⟩
theorem oc_list : CallR X (.type "list") (fun xs H Q => ∃ p ys, xs = [.ref p] ∧ SqL K H p ys ∧ ∀ l, H l = none → Q (.ref l) (upd H l (.lst ys))) := fun pins s σ H xs us Q I r ⟨p, ys, e, h, q⟩ => call_list_of pins s σ H xs us Q I r ⟨p, ys, e, .inl (hK ▸ h), q⟩
theorem oc_listT : CallR X (.type "list") (fun xs H Q => ∃ p ys, xs = [.ref p] ∧ SqT K H p ys ∧ ∀ l, H l = none → Q (.ref l) (upd H l (.lst ys))) := fun pins s σ H xs us Q I r ⟨p, ys, e, h, q⟩ => call_list_of pins s σ H xs us Q I r ⟨p, ys, e, .inr (hK ▸ h), q⟩
theorem oc_tuple : CallR X (.type "tuple") (fun xs H Q => ∃ p ys, xs = [.ref p] ∧ SqL K H p ys ∧ ∀ l, H l = none → Q (.ref l) (upd H l (.tup ys))) := fun pins s σ H xs us Q I r ⟨p, ys, e, h, q⟩ => call_tuple_of pins s σ H xs us Q I r ⟨p, ys, e, .inl ⟨hK ▸ h, q⟩⟩
theorem oc_sum (hc : X.calm = true) : CallR X (.builtin "sum") (rSum K) := hK ▸ cr_sum hc
theorem oc_anyB (hc : X.calm = true) : CallR X (.builtin "any") (rAny K) := hK ▸ cr_any hc
theorem oc_allB (hc : X.calm = true) : CallR X (.builtin "all") (rAll K) := hK ▸ cr_all hc
/-- xs[i], any list -/
theorem oc_ix : IxR X (fun x y H Q => ∃ p xs i v, x = .ref p ∧ y = .int i ∧ SqL K H p xs ∧ atI xs i = some v ∧ Q v H) := hK ▸ ix_list
theorem oc_ixT : IxR X (fun x y H Q => ∃ p xs i v, x = .ref p ∧ y = .int i ∧ SqT K H p xs ∧ atI xs i = some v ∧ Q v H) := hK ▸ ix_tup
/-- xs[i], a list of ints -/
theorem oc_ixI : IxR X (fun x y H Q => ∃ p, ∃ (ns : List Int) (i : Int), x = .ref p ∧ y = .int i ∧ SqL K H p (ns.map V.int) ∧ (0 ≤ i ∧ i < ns.length) ∧ Q (.int (gI ns i)) H) := fun va sl pins s σ H x y v u Q I rx ry ⟨p, ns, i, e1, e2, h, b, q⟩ hs =>
  ix_list va sl pins s σ H x y v u Q I rx ry ⟨p, _, i, _, e1, e2, hK ▸ h, atI_ints b.1 b.2, q⟩ hs
/-- xs[i:j], a list of ints; any list -/
theorem oc_slI : SlR X (fun x lo hi H Q => ∃ a, ∃ ns : List Int, x = .ref a ∧ SqL K H a (ns.map V.int) ∧ ∀ p, H p = none → Q (.ref p) (upd H p (.lst ((cutL ns lo hi).map V.int)))) := by
  intro pins s σ H x v vl vu lo hi sl Q I rx hs pl pu ⟨a, ns, e, h, q⟩
  exact sl_list pins s σ H x v vl vu lo hi sl Q I rx hs pl pu ⟨a, _, e, hK ▸ h, fun p np => by rw [cutV_map]; exact q p np⟩
theorem oc_sl : SlR X (fun x lo hi H Q => ∃ a xs, x = .ref a ∧ SqL K H a xs ∧ ∀ p, H p = none → Q (.ref p) (upd H p (.lst (cutV xs lo hi)))) := hK ▸ sl_list
end
theorem dp_ints {K : PySem.W.Frag} {H : Hp} : ∀ ns : List Int, DpAll K H (ns.map V.int) (ns.map PyData.int)
  | [] => .nil
  | n :: ns => .cons (.int n) (dp_ints ns)
theorem eqv_ints : ∀ ns ms : List Int, PyData.eqvAll (ns.map PyData.int) (ms.map PyData.int) = decide (ns = ms)
  | [], [] => by simp [PyData.eqvAll]
  | [], _ :: _ => by simp [PyData.eqvAll]
  | _ :: _, [] => by simp [PyData.eqvAll]
  | n :: ns, m :: ms => by
    simp only [List.map_cons, PyData.eqvAll, PyData.eqv, eqv_ints ns ms]
    by_cases h1 : n = m <;> by_cases h2 : ns = ms <;> simp [h1, h2]
theorem lay_ints : ∀ ns : List Int, PyData.canLayAll0 (ns.map PyData.int) = true
  | [] => by simp [PyData.canLayAll0]
  | n :: ns => by simp [PyData.canLayAll0, PyData.canLay0, lay_ints ns]
theorem depth_ints : ∀ ns : List Int, PyData.depthAll (ns.map PyData.int) = 0
  | [] => by simp [PyData.depthAll]
  | n :: ns => by simp [PyData.depthAll, PyData.depth, depth_ints ns]
theorem shaped_ints (ns : List Int) : SeqAt.shaped (.list (ns.map PyData.int)) = true := by
  unfold SeqAt.shaped
  simp [PyData.canLay0, lay_ints, PyData.depth, depth_ints]
theorem oc_ne_ints {K : PySem.W.Frag} (hK : X.K = K) (hu : X.A.units + 64 < cLine) : OpR X (compareOp .NotEq) (fun x y H Q => ∃ a b, ∃ ns ms : List Int, x = .ref a ∧ y = .ref b ∧ SqL K H a (ns.map V.int) ∧ SqL K H b (ms.map V.int) ∧ Q (.bl (!decide (ns = ms))) H) := fun pins s σ H x y v u Q I rx ry ⟨a, b, ns, ms, e1, e2, h1, h2, q⟩ =>
  op_neD hu pins s σ H x y v u Q I rx ry ⟨.list (ns.map PyData.int), .list (ms.map PyData.int), e1 ▸ .lst (hK ▸ h1) (dp_ints ns), e2 ▸ .lst (hK ▸ h2) (dp_ints ms), shaped_ints ns, shaped_ints ms, by
    have e : PyData.eqv (.list (ns.map PyData.int)) (.list (ms.map PyData.int)) = decide (ns = ms) := by
      rw [← eqv_ints]
      simp only [PyData.eqv]
    rw [e]
    exact q⟩
theorem oc_eq_ints {K : PySem.W.Frag} (hK : X.K = K) (hu : X.A.units + 64 < cLine) : OpR X (compareOp .Eq) (fun x y H Q => ∃ a b, ∃ ns ms : List Int, x = .ref a ∧ y = .ref b ∧ SqL K H a (ns.map V.int) ∧ SqL K H b (ms.map V.int) ∧ Q (.bl (decide (ns = ms))) H) := fun pins s σ H x y v u Q I rx ry ⟨a, b, ns, ms, e1, e2, h1, h2, q⟩ =>
  op_eqD hu pins s σ H x y v u Q I rx ry ⟨.list (ns.map PyData.int), .list (ms.map PyData.int), e1 ▸ .lst (hK ▸ h1) (dp_ints ns), e2 ▸ .lst (hK ▸ h2) (dp_ints ms), shaped_ints ns, shaped_ints ms, by
    have e : PyData.eqv (.list (ns.map PyData.int)) (.list (ms.map PyData.int)) = decide (ns = ms) := by
      rw [← eqv_ints]
      simp only [PyData.eqv]
    rw [e]
    exact q⟩
/-! isinstance, by what is known of the value -/
theorem oc_isi_ty {T U : String} {r : Bool} (h : kitB T U = some r) : CallR X (.builtin "isinstance") (fun xs H Q => ∃ x, xs = [x, .ty U] ∧ TyX X.K H x (.type T) ∧ Q (.bl r) H) := fun pins s σ H xs us Q I rr ⟨x, e, t, q⟩ =>
  call_isi pins s σ H xs us Q I rr ⟨x, _, _, _, r, e, .ty U, t, kit_ty h, q⟩
theorem oc_isi_ii : CallR X (.builtin "isinstance") (fun xs H Q => ∃ i, xs = [.int i, .ty "int"] ∧ Q (.bl true) H) := fun pins s σ H xs us Q I rr ⟨i, e, q⟩ =>
  call_isi pins s σ H xs us Q I rr ⟨_, _, _, _, true, e, .ty "int", .base (.int i), kit_ty (by decide +kernel), q⟩
theorem oc_isi_ib : CallR X (.builtin "isinstance") (fun xs H Q => ∃ i, xs = [.int i, .ty "bool"] ∧ Q (.bl false) H) := fun pins s σ H xs us Q I rr ⟨i, e, q⟩ =>
  call_isi pins s σ H xs us Q I rr ⟨_, _, _, _, false, e, .ty "bool", .base (.int i), kit_ty (by decide +kernel), q⟩
theorem oc_isi_bb : CallR X (.builtin "isinstance") (fun xs H Q => ∃ i, xs = [.bl i, .ty "bool"] ∧ Q (.bl true) H) := fun pins s σ H xs us Q I rr ⟨i, e, q⟩ =>
  call_isi pins s σ H xs us Q I rr ⟨_, _, _, _, true, e, .ty "bool", .base (.bl i), kit_ty (by decide +kernel), q⟩
theorem oc_isi_ll : CallR X (.builtin "isinstance") (fun xs H Q => ∃ a ys, xs = [.ref a, .ty "list"] ∧ H a = some (.lst ys) ∧ Q (.bl true) H) := fun pins s σ H xs us Q I rr ⟨a, ys, e, h, q⟩ =>
  call_isi pins s σ H xs us Q I rr ⟨_, _, _, _, true, e, .ty "list", .base (.lst h), kit_ty (by decide +kernel), q⟩
end

/-! ### the heap's changes, in chunks -/
theorem small {n : Nat} (h : n ≤ 1000000) : n < sizeLine := Nat.lt_of_le_of_lt h (by decide)
theorem small' {n : Nat} (h : n ≤ 1000000) : n ≤ sizeLine := Nat.le_of_lt (small h)
theorem Sts.newE {L : List Asr} {H H' : Hp} {p : Addr} {o : HO} (S : Sts H L) (np : H p = none) (e : upd H p o = H') (ho : isT o = false := by rfl) : Sts H' (pto p o :: L) := e ▸ S.new o np ho
theorem Sts.putE {L : List Asr} {H H' : Hp} {a : Addr} {o u : HO} (S : Sts H (pto a o :: L)) (e : upd H a u = H') (hu : isT u = false := by rfl) : Sts H' (pto a u :: L) := e ▸ S.put u hu
section
variable {X : Cx}
theorem oc_append : MtR X "list.append" (fun x vs H Q => ∃ l y, x = .ref l ∧ vs = [y] ∧ ∃ xs L, Sts H (pto l (.lst xs) :: L) ∧ xs.length < sizeLine ∧ ∀ H', Sts H' (pto l (.lst (xs ++ [y])) :: L) → Q .non H') := fun pins s σ H x xs v us Q I rx rs ⟨l, y, e1, e2, ys, L, S, hl, q⟩ =>
  mt_append pins s σ H x xs v us Q I rx rs ⟨l, ys, y, e1, e2, S.hd, hl, q _ (S.put _)⟩
theorem oc_extend : MtR X "list.extend" (fun x vs H Q => ∃ l b, x = .ref l ∧ vs = [.ref b] ∧ ∃ xs zs L, Sts H (pto l (.lst xs) :: L) ∧ H b = some (.lst zs) ∧ xs.length + zs.length ≤ sizeLine ∧ ∀ H', Sts H' (pto l (.lst (xs ++ zs)) :: L) → Q .non H') := fun pins s σ H x xs v us Q I rx rs ⟨l, b, e1, e2, ys, zs, L, S, hb, hl, q⟩ =>
  mt_extend pins s σ H x xs v us Q I rx rs ⟨l, b, ys, zs, e1, e2, S.hd, hb, hl, q _ (S.put _)⟩
theorem oc_setL : PSet X (fun o i v H Q => ∃ p k, o = .ref p ∧ i = .int k ∧ ∃ xs L, Sts H (pto p (.lst xs) :: L) ∧ (0 ≤ k ∧ k < xs.length) ∧ ∀ H', Sts H' (pto p (.lst (xs.set k.toNat v)) :: L) → Q H') := fun pins s σ H o i v ov iv u Q I ro ri rv ⟨p, k, e1, e2, xs, L, S, b, q⟩ =>
  set_list pins s σ H o i v ov iv u Q I ro ri rv ⟨p, xs, k, k.toNat, e1, e2, S.hd, ixN_of b.1 b.2, q _ (S.put _)⟩
theorem oc_setI : PSet X (fun o i v H Q => ∃ p k j, o = .ref p ∧ i = .int k ∧ v = .int j ∧ ∃ (ns : List Int) (L : List Asr), Sts H (pto p (.lst (ns.map V.int)) :: L) ∧ (0 ≤ k ∧ k < ns.length) ∧ ∀ H', Sts H' (pto p (.lst ((ns.set k.toNat j).map V.int)) :: L) → Q H') := fun pins s σ H o i v ov iv u Q I ro ri rv ⟨p, k, j, e1, e2, e3, ns, L, S, b, q⟩ =>
  set_list pins s σ H o i v ov iv u Q I ro ri rv ⟨p, _, k, k.toNat, e1, e2, S.hd, ixN_of b.1 (by rw [List.length_map]; exact b.2), by
    refine q _ ?_
    rw [List.map_set, e3]
    exact S.put _⟩
theorem oc_appendI : MtR X "list.append" (fun x vs H Q => ∃ l j, x = .ref l ∧ vs = [.int j] ∧ ∃ (ns : List Int) (L : List Asr), Sts H (pto l (.lst (ns.map V.int)) :: L) ∧ ns.length ≤ 1000000 ∧ ∀ H', Sts H' (pto l (.lst ((ns ++ [j]).map V.int)) :: L) → Q .non H') := fun pins s σ H x xs v us Q I rx rs ⟨l, j, e1, e2, ns, L, S, hl, q⟩ =>
  mt_append pins s σ H x xs v us Q I rx rs ⟨l, _, .int j, e1, e2, S.hd, small (by rw [List.length_map]; exact hl), q _ (by rw [List.map_append]; exact S.put _)⟩
theorem oc_catI : OpR X (binaryOp .Add) (fun x y H Q => ∃ l b, ∃ (ns ms : List Int), x = .ref l ∧ y = .ref b ∧ H l = some (.lst (ns.map V.int)) ∧ H b = some (.lst (ms.map V.int)) ∧ ns.length + ms.length ≤ 1000000 ∧ ∀ p, H p = none → Q (.ref p) (upd H p (.lst ((ns ++ ms).map V.int)))) := fun pins s σ H x y v u Q I rx ry ⟨l, b, ns, ms, e1, e2, h1, h2, hl, q⟩ =>
  op_cat pins s σ H x y v u Q I rx ry ⟨l, b, _, _, e1, e2, h1, h2, small' (by rw [List.length_map, List.length_map]; exact hl), by rw [← List.map_append]; exact q⟩
end

/-! ### tests -/
theorem dt {p : Prop} [Decidable p] (h : p) : decide p = true := decide_eq_true h
theorem df {p : Prop} [Decidable p] (h : ¬ p) : decide p = false := decide_eq_false h
theorem nd {p : Prop} [Decidable p] (h : p) : (!decide p) = false := by rw [decide_eq_true h]; rfl
theorem nt {p : Prop} [Decidable p] (h : ¬ p) : (!decide p) = true := by rw [decide_eq_false h]; rfl
theorem odt {p : Prop} [Decidable p] (h : decide p = true) : p := of_decide_eq_true h
theorem odf {p : Prop} [Decidable p] (h : decide p = false) : ¬ p := of_decide_eq_false h
theorem ont {p : Prop} [Decidable p] (h : (!decide p) = true) : ¬ p := fun q => by rw [decide_eq_true q] at h; cases h
theorem onf {p : Prop} [Decidable p] (h : (!decide p) = false) : p := Decidable.byContradiction fun q => by rw [decide_eq_false q] at h; cases h
theorem vi {a b : Int} (h : V.int a = V.int b) : a = b := V.int.inj h
theorem ifB {b : Bool} {A B : Prop} (h1 : b = true → A) (h2 : b = false → B) : if b = true then A else B := by
  cases b with
  | true => exact iteT (h1 rfl)
  | false => exact iteF (h2 rfl)
theorem ifT {b : Bool} {A B : Prop} (h : b = true) (k : A) : if b = true then A else B := by
  subst h
  exact iteT k
theorem ifF {b : Bool} {A B : Prop} (h : b = false) (k : B) : if b = true then A else B := by
  subst h
  exact iteF k

theorem ifTT {A B : Prop} (k : A) : if true = true then A else B := iteT k
theorem ifFF {A B : Prop} (k : B) : if false = true then A else B := iteF k
theorem ifNT {A B : Prop} (k : B) : if (!true) = true then A else B := ifF rfl k
theorem ifNF {A B : Prop} (k : A) : if (!false) = true then A else B := ifT rfl k
theorem ifDE {α : Type} {x : α} [Decidable (x = x)] {A B : Prop} (k : A) : if decide (x = x) = true then A else B := ifT (dt rfl) k
theorem ifNE {α : Type} {x : α} [Decidable (x = x)] {A B : Prop} (k : B) : if (!decide (x = x)) = true then A else B := ifF (nd rfl) k
/-! ### comprehensions, behind the making of their list at D (the library's lc_it, where the new list stands) -/
theorem upd_id {H : Hp} {D : Addr} {o : HO} (h : H D = some o) : upd H D o = H := funext fun b => by
  by_cases e : b = D
  · rw [e, upd_same, h]
  · rw [upd_ne e]
section
variable {g : TG} {tt : TT} {te : TE} {vs : List Nat} {σ : L2.St} {H0 : Hp} {D : Addr} {Qd : Hp → Prop} {n : Nat}
/-- the step of a comprehension: an item more, or none -/
abbrev lcStep (tt : TT) (te : TE) (vs : List Nat) (σ : L2.St) (D : Addr) (Nx : Hp → Prop) : L2.St → Hp → Prop := fun σ2 H2 => wipe σ2 vs = wipe σ vs ∧ tt σ2 H2 fun b H3 =>
  if b = true then te σ2 H3 fun y H4 => ∃ acc, H4 D = some (.lst acc) ∧ acc.length < sizeLine ∧ Nx (upd H4 D (.lst (acc ++ [y]))) else Nx H3
abbrev lcGoes (J : It) (g : TG) (tt : TT) (te : TE) (vs : List Nat) (σ : L2.St) (D : Addr) (Qd : Hp → Prop) (H0 : Hp) : Prop := ∃ W : Nat → Nat → Hp → Prop, (∃ m, W 0 m H0) ∧ ∀ i m H, W i m H →
  (J.stop i H ∧ Qd H) ∨ (J.go i H ∧ ∃ Nx : Hp → Prop, (∀ H', Nx H' → ∃ m', m' < m ∧ W (i + 1) m' H') ∧ ∀ x H', J.yld i H x H' → g x (wipe σ vs) H' (lcStep tt te vs σ D Nx))
theorem oc_lcW {J : It} {G : Hp → Prop} {Y : Nat → Hp → V → Hp → Prop} (w : Walk J n G Y) (Pv : Nat → Hp → Prop) (h0 : Pv 0 H0) (hG : ∀ i H, i ≤ n → Pv i H → G H)
    (hs : ∀ i x H H', i < n → Pv i H → Y i H x H' → g x (wipe σ vs) H' (lcStep tt te vs σ D (Pv (i + 1)))) (hd : ∀ H, Pv n H → Qd H) (hD : H0 D = some (.lst []) := by exact Sts.hd (by assumption)) : lcGoes J g tt te vs σ D Qd H0 := by
  have q := lc_it w (H1 := H0) (D := D) Pv (by rw [upd_id hD]; exact h0) hG hs hd
  rwa [upd_id hD] at q
theorem oc_lcR {lo : Int} (Pv : Nat → Hp → Prop) (h0 : Pv 0 H0) (hs : ∀ i H, i < n → Pv i H → g (.int (lo + (i : Nat))) (wipe σ vs) H (lcStep tt te vs σ D (Pv (i + 1)))) (hd : ∀ H, Pv n H → Qd H)
    (hD : H0 D = some (.lst []) := by exact Sts.hd (by assumption)) : lcGoes (Itr lo n) g tt te vs σ D Qd H0 :=
  oc_lcW walk_range Pv h0 (fun _ _ _ _ => True.intro) (fun i x H H' hi p y => by
    rw [y.1, y.2]
    exact hs i H hi p) hd hD
theorem oc_lcL {K : PySem.W.Frag} {a : Addr} {xs : List V} (Pv : Nat → Hp → Prop) (h0 : Pv 0 H0) (hl : ∀ i H, Pv i H → SqL K H a xs) (hs : ∀ i x H, xs[i]? = some x → Pv i H → g x (wipe σ vs) H (lcStep tt te vs σ D (Pv (i + 1)))) (hd : ∀ H, Pv xs.length H → Qd H)
    (hD : H0 D = some (.lst []) := by exact Sts.hd (by assumption)) : lcGoes (Itl K a) g tt te vs σ D Qd H0 :=
  oc_lcW walk_list Pv h0 (fun i H _ => hl i H) (fun i x H H' _ p y => by
    rw [y.1]
    exact hs i x H y.2 p) hd hD
end
/-- one value an item, the heap as it was -/
theorem lc_pure {K : PySem.W.Frag} {a : Addr} {k : Nat} {te : TE} {vs : List Nat} {σ : L2.St} {H0 : Hp} {Qd : Hp → Prop} {L : List Asr} {D : Addr} (xs : List V) (f : V → V) (S : Sts H0 (pto D (.lst []) :: L)) (hsq : ∀ H, Sts H L → SqL K H a xs) (hl : xs.length ≤ 1000000)
    (hw : ∀ x, wipe ((wipe σ vs).set k (some x)) vs = wipe σ vs) (he : ∀ (x : V) (H : Hp) (Q' : VK), x ∈ xs → Sts H L → Q' (f x) H → te ((wipe σ vs).set k (some x)) H Q')
    (hd : ∀ H, Sts H (pto D (.lst (xs.map f)) :: L) → Qd H) :
    ∃ W : Nat → Nat → Hp → Prop, (∃ m, W 0 m H0) ∧ ∀ i m H, W i m H →
      ((Itl K a).stop i H ∧ Qd H) ∨ ((Itl K a).go i H ∧ ∃ Nx : Hp → Prop, (∀ H', Nx H' → ∃ m', m' < m ∧ W (i + 1) m' H') ∧ ∀ x H', (Itl K a).yld i H x H' → gName k x (wipe σ vs) H' fun σ2 H2 => wipe σ2 vs = wipe σ vs ∧ tYes σ2 H2 fun b H3 =>
        if b = true then te σ2 H3 fun y H4 => ∃ acc, H4 D = some (.lst acc) ∧ acc.length < sizeLine ∧ Nx (upd H4 D (.lst (acc ++ [y]))) else Nx H3) :=
  oc_lcL (K := K) (a := a) (xs := xs) (fun i H => Sts H (pto D (.lst ((xs.take i).map f)) :: L)) S (fun i H p => hsq H p.tail)
    (fun i x H hx p => by
      refine ⟨hw x, ?_⟩
      simp only [tYes, if_true]
      refine he x H _ (List.mem_of_getElem? hx) p.tail ⟨_, p.hd, small (by rw [List.length_map, List.length_take]; omega), ?_⟩
      rw [List.take_add_one, hx, List.map_append]
      exact p.put _)
    (fun H p => hd H (by rw [List.take_length] at p; exact p))
theorem lc_pureI {K : PySem.W.Frag} {a : Addr} {k : Nat} {te : TE} {vs : List Nat} {σ : L2.St} {H0 : Hp} {Qd : Hp → Prop} {L : List Asr} {D : Addr} (ns : List Int) (f : Int → V) (S : Sts H0 (pto D (.lst []) :: L)) (hsq : ∀ H, Sts H L → SqL K H a (ns.map V.int)) (hl : ns.length ≤ 1000000)
    (hw : ∀ x, wipe ((wipe σ vs).set k (some x)) vs = wipe σ vs) (he : ∀ (x : Int) (H : Hp) (Q' : VK), x ∈ ns → Sts H L → Q' (f x) H → te ((wipe σ vs).set k (some (.int x))) H Q')
    (hd : ∀ H, Sts H (pto D (.lst (ns.map f)) :: L) → Qd H) :
    ∃ W : Nat → Nat → Hp → Prop, (∃ m, W 0 m H0) ∧ ∀ i m H, W i m H →
      ((Itl K a).stop i H ∧ Qd H) ∨ ((Itl K a).go i H ∧ ∃ Nx : Hp → Prop, (∀ H', Nx H' → ∃ m', m' < m ∧ W (i + 1) m' H') ∧ ∀ x H', (Itl K a).yld i H x H' → gName k x (wipe σ vs) H' fun σ2 H2 => wipe σ2 vs = wipe σ vs ∧ tYes σ2 H2 fun b H3 =>
        if b = true then te σ2 H3 fun y H4 => ∃ acc, H4 D = some (.lst acc) ∧ acc.length < sizeLine ∧ Nx (upd H4 D (.lst (acc ++ [y]))) else Nx H3) :=
  oc_lcL (K := K) (a := a) (xs := ns.map V.int) (fun i H => Sts H (pto D (.lst ((ns.take i).map f)) :: L)) S (fun i H p => hsq H p.tail)
    (fun i x H hx p => by
      rw [List.getElem?_map] at hx
      cases e : ns[i]? with
      | none =>
        rw [e] at hx
        cases hx
      | some n =>
        rw [e] at hx
        have ex : x = V.int n := (Option.some.inj hx).symm
        subst ex
        refine ⟨hw _, ?_⟩
        simp only [tYes, if_true]
        refine he n H _ (List.mem_of_getElem? e) p.tail ⟨_, p.hd, small (by rw [List.length_map, List.length_take]; omega), ?_⟩
        rw [List.take_add_one, e, List.map_append]
        exact p.put _)
    (fun H p => hd H (by rw [List.length_map, List.take_length] at p; exact p))
/-- over a range -/
theorem lc_pureR {lo : Int} {n : Nat} {k : Nat} {te : TE} {vs : List Nat} {σ : L2.St} {H0 : Hp} {Qd : Hp → Prop} {L : List Asr} {D : Addr} (f : Int → V) (S : Sts H0 (pto D (.lst []) :: L)) (hl : n ≤ 1000000)
    (hw : ∀ x, wipe ((wipe σ vs).set k (some x)) vs = wipe σ vs) (he : ∀ (i : Nat) (H : Hp) (Q' : VK), i < n → Sts H L → Q' (f (lo + i)) H → te ((wipe σ vs).set k (some (.int (lo + i)))) H Q')
    (hd : ∀ H, Sts H (pto D (.lst ((List.range n).map fun i => f (lo + (i : Nat)))) :: L) → Qd H) :
    ∃ W : Nat → Nat → Hp → Prop, (∃ m, W 0 m H0) ∧ ∀ i m H, W i m H →
      ((Itr lo n).stop i H ∧ Qd H) ∨ ((Itr lo n).go i H ∧ ∃ Nx : Hp → Prop, (∀ H', Nx H' → ∃ m', m' < m ∧ W (i + 1) m' H') ∧ ∀ x H', (Itr lo n).yld i H x H' → gName k x (wipe σ vs) H' fun σ2 H2 => wipe σ2 vs = wipe σ vs ∧ tYes σ2 H2 fun b H3 =>
        if b = true then te σ2 H3 fun y H4 => ∃ acc, H4 D = some (.lst acc) ∧ acc.length < sizeLine ∧ Nx (upd H4 D (.lst (acc ++ [y]))) else Nx H3) :=
  oc_lcR (lo := lo) (n := n) (fun i H => Sts H (pto D (.lst ((List.range i).map fun i => f (lo + (i : Nat)))) :: L)) S
    (fun i H hi p => by
      refine ⟨hw _, ?_⟩
      simp only [tYes, if_true]
      refine he i H _ hi p.tail ⟨_, p.hd, small (by rw [List.length_map, List.length_range]; omega), ?_⟩
      rw [List.range_succ, List.map_append]
      exact p.put _)
    (fun H p => hd H p)
/-- lists of ints out of lists of ints and ranges -/
theorem lc_II {K : PySem.W.Frag} {a : Addr} {k : Nat} {te : TE} {vs : List Nat} {σ : L2.St} {H0 : Hp} {Qd : Hp → Prop} {L : List Asr} {D : Addr} (ns : List Int) (f : Int → Int) (S : Sts H0 (pto D (.lst []) :: L)) (hsq : ∀ H, Sts H L → SqL K H a (ns.map V.int)) (hl : ns.length ≤ 1000000)
    (hw : ∀ x, wipe ((wipe σ vs).set k (some x)) vs = wipe σ vs) (he : ∀ (x : Int) (H : Hp) (Q' : VK), x ∈ ns → Sts H L → Q' (.int (f x)) H → te ((wipe σ vs).set k (some (.int x))) H Q')
    (hd : ∀ H, Sts H (pto D (.lst ((ns.map f).map V.int)) :: L) → Qd H) :
    ∃ W : Nat → Nat → Hp → Prop, (∃ m, W 0 m H0) ∧ ∀ i m H, W i m H →
      ((Itl K a).stop i H ∧ Qd H) ∨ ((Itl K a).go i H ∧ ∃ Nx : Hp → Prop, (∀ H', Nx H' → ∃ m', m' < m ∧ W (i + 1) m' H') ∧ ∀ x H', (Itl K a).yld i H x H' → gName k x (wipe σ vs) H' fun σ2 H2 => wipe σ2 vs = wipe σ vs ∧ tYes σ2 H2 fun b H3 =>
        if b = true then te σ2 H3 fun y H4 => ∃ acc, H4 D = some (.lst acc) ∧ acc.length < sizeLine ∧ Nx (upd H4 D (.lst (acc ++ [y]))) else Nx H3) :=
  lc_pureI ns (fun x => .int (f x)) S hsq hl hw he (fun H S => hd H (by rw [List.map_map]; exact S))
theorem lc_RI {lo : Int} {n : Nat} {k : Nat} {te : TE} {vs : List Nat} {σ : L2.St} {H0 : Hp} {Qd : Hp → Prop} {L : List Asr} {D : Addr} (f : Int → Int) (S : Sts H0 (pto D (.lst []) :: L)) (hl : n ≤ 1000000)
    (hw : ∀ x, wipe ((wipe σ vs).set k (some x)) vs = wipe σ vs) (he : ∀ (i : Nat) (H : Hp) (Q' : VK), i < n → Sts H L → Q' (.int (f (lo + i))) H → te ((wipe σ vs).set k (some (.int (lo + i)))) H Q')
    (hd : ∀ H, Sts H (pto D (.lst (((List.range n).map fun i => f (lo + (i : Nat))).map V.int)) :: L) → Qd H) :
    ∃ W : Nat → Nat → Hp → Prop, (∃ m, W 0 m H0) ∧ ∀ i m H, W i m H →
      ((Itr lo n).stop i H ∧ Qd H) ∨ ((Itr lo n).go i H ∧ ∃ Nx : Hp → Prop, (∀ H', Nx H' → ∃ m', m' < m ∧ W (i + 1) m' H') ∧ ∀ x H', (Itr lo n).yld i H x H' → gName k x (wipe σ vs) H' fun σ2 H2 => wipe σ2 vs = wipe σ vs ∧ tYes σ2 H2 fun b H3 =>
        if b = true then te σ2 H3 fun y H4 => ∃ acc, H4 D = some (.lst acc) ∧ acc.length < sizeLine ∧ Nx (upd H4 D (.lst (acc ++ [y]))) else Nx H3) :=
  lc_pureR (fun x => .int (f x)) S hl hw he (fun H S => hd H (by rw [List.map_map]; exact S))
/-- the end of a turn of any comprehension -/
theorem lc_end {D : Addr} {acc : List V} {y : V} {L : List Asr} {H : Hp} {N : Hp → Prop} (S : Sts H (pto D (.lst acc) :: L)) (hl : acc.length ≤ 1000000) (k : ∀ H', Sts H' (pto D (.lst (acc ++ [y])) :: L) → N H') :
    ∃ acc, H D = some (.lst acc) ∧ acc.length < sizeLine ∧ N (upd H D (.lst (acc ++ [y]))) := ⟨acc, S.hd, small hl, k _ (S.put _)⟩
/-- a block cut behind its first statement: what holds between -/
def tCutO (t u : TS) : TS := fun D σ H => ∃ Mid : L2.St → Hp → Prop, t { D with nx := Mid } σ H ∧ ∀ σ' H', Mid σ' H' → u D σ' H'
theorem oc_cut {X : Cx} {st : Stmt} {rest : List Stmt} {t u : TS} (h1 : PS X st t) (h2 : PSs X rest u) : PSs X (st :: rest) (tCutO t u) := pss_cons (ps_up h1) h2
end Oc
namespace Oc
open PySem PySem.Spec PyProof.Rows L2
/-! ### any over ints -/
theorem vals_int : ∀ {ns : List Int} {its : List Value} {i : Nat} {u : Value}, Vals (ns.map V.int) its → its[i]? = some u → ∃ n t, ns[i]? = some n ∧ u = .int n t
  | [], _, _, _, r, e => by
    cases r
    cases e
  | n :: ns, _, 0, u, r, e => by
    cases r with
    | cons a b =>
      obtain ⟨t, a⟩ := a
      exact ⟨n, t, rfl, (Option.some.inj e).symm.trans a⟩
  | n :: ns, _, i + 1, u, r, e => by
    cases r with
    | cons a b => exact vals_int (ns := ns) b e
theorem anyI_range : ∀ ns : List Int, (List.range ns.length).any (fun i => decide (ns.getD i 0 ≠ 0)) = ns.any fun n => decide (n ≠ 0)
  | [] => rfl
  | n :: ns => by
    have ih := anyI_range ns
    rw [List.length_cons, List.range_succ_eq_map, List.any_cons, List.any_map, List.any_cons, ← ih]
    rfl
theorem oc_anyI {X : Cx} {K : PySem.W.Frag} (hK : X.K = K) (hc : X.calm = true) : CallR X (.builtin "any") (fun xs H Q => ∃ a, ∃ ns : List Int, xs = [.ref a] ∧ SqL K H a (ns.map V.int) ∧ Q (.bl (ns.any fun n => decide (n ≠ 0))) H) := by
  subst hK
  intro pins s σ H xs us Q I rr ⟨a, ns, e, hS, q⟩
  subst e
  obtain ⟨its, rv, hl, _⟩ := I.list hS
  rw [Vals.ref1 rr]
  have hlen : ns.length = its.length := by
    have z := rv.length
    rwa [List.length_map] at z
  refine call_any_walk (iter_any hl.isList fun s2 es st ne => ?_)
  subst es
  refine ⟨_, _, _, _, _, _, fun i => decide (ns.getD i 0 ≠ 0), rfl, Walks.list (A := X.A.in1) (I.ok.hd hc) _ a ne its.toArray, st, fun i v t R E hv hq => ?_, fun h' tk hk => ?_⟩
  · have hv' : its[i]? = some v := by simpa using hv
    obtain ⟨n, u, hn, rfl⟩ := vals_int rv hv'
    have eg : ns.getD i 0 = n := by
      rw [List.getD_eq_getElem?_getD, hn]
      rfl
    dsimp only at hq
    rw [eg] at hq
    refine PyProof.Rows.truthy_int ?_
    have ez : (n != 0) = decide (n ≠ 0) := by
      by_cases z : n = 0 <;> simp [z]
    rw [ez]
    exact hq
  · refine ⟨.bl _, H, I.kept fun b o eo => hk b o (fun hm => ?_) (Heap.get?_push_of_some _ eo), ?_, q⟩
    · rcases List.mem_cons.mp hm with z | hm
      · exact absurd (z ▸ Heap.lt_size eo) (Nat.lt_irrefl _)
      · cases hm
    · show Value.bool _ = Value.bool _
      rw [← anyI_range, hlen, List.size_toArray]
end Oc
namespace Oc
open PySem PySem.Spec PyProof.Rows L2
section
variable {X : Cx} {K : PySem.W.Frag} (hK : X.K = K)
include hK
theorem oc_pg_tup {es : List Expr} {k : Nat} {t : TGs} {n : Nat} {pos : Pos} (hc : X.calm = true) (h : PGs X es t)
    (hn : (assignEach es X.env).length = n := by rfl) (hst : (assignEach es X.env).findIdx? (·.1) = none := by rfl) : PG X (.Tuple es k pos) (gTup K n t) := hK ▸ pg_tup hc h hn hst
end
theorem rep_map {α : Type} (f : α → V) (k : Nat) (xs : List α) : (List.replicate k (xs.map f)).flatten = ((List.replicate k xs).flatten).map f := by
  induction k with
  | zero => rfl
  | succ k ih => rw [List.replicate_succ, List.replicate_succ, List.flatten_cons, List.flatten_cons, ih, List.map_append]
theorem len_rep {α : Type} (k : Nat) (xs : List α) : (List.replicate k xs).flatten.length = k * xs.length := by
  induction k with
  | zero => simp
  | succ k ih => rw [List.replicate_succ, List.flatten_cons, List.length_append, ih, Nat.succ_mul, Nat.add_comm]
theorem oc_repI {X : Cx} : OpR X (binaryOp .Mult) (fun x y H Q => ∃ l k, ∃ ns : List Int, x = .ref l ∧ y = .int k ∧ H l = some (.lst (ns.map V.int)) ∧ (k < 1000000 ∧ -1000000 < k ∧ ns.length * k.toNat ≤ 1000000) ∧ ∀ p, H p = none → Q (.ref p) (upd H p (.lst ((List.replicate k.toNat ns).flatten.map V.int)))) := fun pins s σ H x y v u Q I rx ry ⟨l, k, ns, e1, e2, h1, ⟨b1, b2, b3⟩, q⟩ =>
  op_rep pins s σ H x y v u Q I rx ry ⟨l, k, _, e1, e2, h1, by omega, by omega, small' (by rw [List.length_map]; exact b3), by rw [rep_map]; exact q⟩
end Oc
namespace Oc
open PySem PySem.Spec PyProof.Rows L2
/-- an int or None -/
def ov : Option Int → V
  | none => .non
  | some i => .int i
theorem ov_none (o : Option Int) : decide (ov o = V.non) = o.isNone := by
  cases o <;> rfl
/-- xs[-1], a list of ints that is not empty -/
theorem oc_ixLast {X : Cx} {K : PySem.W.Frag} (hK : X.K = K) : IxR X (fun x y H Q => ∃ p, ∃ ns : List Int, x = .ref p ∧ y = .int (-1) ∧ SqL K H p (ns.map V.int) ∧ ∃ i, ns.getLast? = some i ∧ Q (.int i) H) := fun va sl pins s σ H x y v u Q I rx ry ⟨p, ns, e1, e2, h, i, b, q⟩ hs =>
  ix_list va sl pins s σ H x y v u Q I rx ry ⟨p, _, -1, .int i, e1, e2, hK ▸ h, by
    have e : ns = ns.dropLast ++ [i] := by
      have z := List.getLast?_eq_some_iff.mp b
      obtain ⟨ys, rfl⟩ := z
      simp
    rw [e, List.map_append]
    exact atI_last _ _, q⟩ hs
theorem isEmpty_pos {ns : List Int} (h : (!(ns.map V.int).isEmpty) = true) : 0 < ns.length := by
  cases ns with
  | nil => cases h
  | cons a b => simp
theorem isEmpty_nil {ns : List Int} (h : (!(ns.map V.int).isEmpty) = false) : ns = [] := by
  cases ns with
  | nil => rfl
  | cons a b => cases h
theorem len_lt {ns : List Int} {i : Nat} {x : V} (h : (ns.map V.int)[i]? = some x) : i < ns.length := by
  have z := (List.getElem?_eq_some_iff.mp h).1
  rwa [List.length_map] at z
theorem at_int {ns : List Int} {i : Nat} {x : V} (h : (ns.map V.int)[i]? = some x) : ∃ n, ns[i]? = some n ∧ x = .int n := by
  rw [List.getElem?_map] at h
  cases e : ns[i]? with
  | none =>
    rw [e] at h
    cases h
  | some n =>
    rw [e] at h
    exact ⟨n, rfl, (Option.some.inj h).symm⟩
/-- the list from behind: one item more -/
theorem rev_step {ns : List Int} {i : Nat} {x : Int} (h : ns.reverse[i]? = some x) : ns.drop (ns.length - (i + 1)) = x :: ns.drop (ns.length - i) := by
  have hi : i < ns.length := by
    have z := (List.getElem?_eq_some_iff.mp h).1
    rwa [List.length_reverse] at z
  rw [List.getElem?_reverse hi] at h
  have e : ns.length - i = (ns.length - (i + 1)) + 1 := by omega
  have h2 : ns[ns.length - (i + 1)]? = some x := by
    rw [← h]
    congr 1
    omega
  obtain ⟨hl, hv⟩ := List.getElem?_eq_some_iff.mp h2
  rw [e, List.drop_eq_getElem_cons hl, hv]
end Oc
theorem Oc.mulb {a b : Nat} (A B : Nat) {C : Nat} (ha : a ≤ A) (hb : b ≤ B) (h : A * B ≤ C) : a * b ≤ C := Nat.le_trans (Nat.mul_le_mul ha hb) h
namespace Oc
open PySem PySem.Spec PyProof.Rows L2
/-! ### guards: what kind of chunk, what form of list -/
theorem hI0 {H : Hp} {a : Addr} (h : H a = some (.lst [])) : H a = some (.lst (List.map V.int [])) := h
theorem hI1 {H : Hp} {a : Addr} {x : Int} (h : H a = some (.lst [V.int x])) : H a = some (.lst (List.map V.int [x])) := h
theorem hI2 {H : Hp} {a : Addr} {x y : Int} (h : H a = some (.lst [V.int x, V.int y])) : H a = some (.lst (List.map V.int [x, y])) := h
theorem hI3 {H : Hp} {a : Addr} {x y z : Int} (h : H a = some (.lst [V.int x, V.int y, V.int z])) : H a = some (.lst (List.map V.int [x, y, z])) := h
theorem gS {H : Hp} {a : Addr} {o : HO} {L : List Asr} (h : Sts H (pto a o :: L)) : Sts H (pto a o :: L) := h
theorem gL {H : Hp} {a : Addr} {ns : List Int} {L : List Asr} (h : Sts H (pto a (.lst (ns.map V.int)) :: L)) : Sts H (pto a (.lst (ns.map V.int)) :: L) := h
theorem gI0 {H : Hp} {a : Addr} {L : List Asr} (h : Sts H (pto a (.lst []) :: L)) : Sts H (pto a (.lst (List.map V.int [])) :: L) := h
theorem gI1 {H : Hp} {a : Addr} {x : Int} {L : List Asr} (h : Sts H (pto a (.lst [V.int x]) :: L)) : Sts H (pto a (.lst (List.map V.int [x])) :: L) := h
theorem gI2 {H : Hp} {a : Addr} {x y : Int} {L : List Asr} (h : Sts H (pto a (.lst [V.int x, V.int y]) :: L)) : Sts H (pto a (.lst (List.map V.int [x, y])) :: L) := h
theorem gQ {K : PySem.W.Frag} {H : Hp} {a : Addr} {xs : List V} {L : List Asr} (h : Sts H (sqc K a xs :: L)) : Sts H (sqc K a xs :: L) := h
end Oc
theorem Oc.cutL_len {α : Type} (xs : List α) (lo hi : Option Int) : (Oc.cutL xs lo hi).length ≤ xs.length := by
  unfold Oc.cutL
  rw [List.length_take, List.length_drop]
  omega
theorem Oc.le_cut2 {α : Type} {xs ys : List α} {lo hi lo' hi' : Option Int} {n : Nat} (h : xs.length + ys.length ≤ n) : (Oc.cutL xs lo hi).length + (Oc.cutL ys lo' hi').length ≤ n := Nat.le_trans (Nat.add_le_add (Oc.cutL_len _ _ _) (Oc.cutL_len _ _ _)) h
namespace Oc
open PySem PySem.Spec PyProof.Rows L2
/-! ### dicts with int keys -/
section
variable {α : Type}
def dM (f : α → V) (ps : List (Int × α)) : List (Key × V) := ps.map fun p => (Sum.inl p.1, f p.2)
def getP (ps : List (Int × α)) (k : Int) : Option α := (ps.find? fun p => decide (p.1 = k)).map (·.2)
def putP (ps : List (Int × α)) (k : Int) (v : α) : List (Int × α) := if (ps.any fun p => decide (p.1 = k)) = true then ps.map (fun p => if p.1 = k then (p.1, v) else p) else ps ++ [(k, v)]
theorem keyeq (a b : Int) : decide ((Sum.inl a : Key) = Sum.inl b) = decide (a = b) := by
  by_cases h : a = b
  · rw [h, decide_eq_true rfl, decide_eq_true rfl]
  · rw [decide_eq_false h, decide_eq_false fun e => h (Sum.inl.inj e)]
theorem getP_pos {p : Int × α} {r : List (Int × α)} {k : Int} (e : p.1 = k) : getP (p :: r) k = some p.2 := by simp [getP, List.find?_cons, e]
theorem getP_neg {p : Int × α} {r : List (Int × α)} {k : Int} (e : ¬ p.1 = k) : getP (p :: r) k = getP r k := by simp [getP, List.find?_cons, e]
theorem valV_dM (f : α → V) (k : Int) : ∀ ps : List (Int × α), valV (dM f ps) (.inl k) = (getP ps k).map f
  | [] => rfl
  | p :: r => by
    by_cases e : p.1 = k
    · rw [getP_pos e]
      exact valV_pos (p := (Sum.inl p.1, f p.2)) (by rw [e])
    · rw [getP_neg e, ← valV_dM f k r]
      exact valV_neg (p := (Sum.inl p.1, f p.2)) (fun z => e (Sum.inl.inj z))
theorem putK_dM (f : α → V) (ps : List (Int × α)) (k : Int) (v : α) : putK (dM f ps) (.inl k) (f v) = dM f (putP ps k v) := by
  unfold putK putP
  have e : ((dM f ps).any fun kv => decide (kv.1 = Sum.inl k)) = ps.any fun p => decide (p.1 = k) := by
    unfold dM
    rw [List.any_map]
    congr 1
    funext p
    exact keyeq p.1 k
  rw [e]
  split
  · unfold dM
    rw [List.map_map, List.map_map]
    congr 1
    funext p
    show (if (Sum.inl p.1 : Key) = Sum.inl k then ((Sum.inl p.1 : Key), f v) else (Sum.inl p.1, f p.2)) = (Sum.inl (if p.1 = k then (p.1, v) else p).1, f (if p.1 = k then (p.1, v) else p).2)
    by_cases h : p.1 = k
    · rw [if_pos h, if_pos (by rw [h])]
    · rw [if_neg h, if_neg fun z => h (Sum.inl.inj z)]
  · unfold dM
    rw [List.map_append]
    rfl
theorem getP_any (k : Int) : ∀ ps : List (Int × α), (ps.any fun p => decide (p.1 = k)) = (getP ps k).isSome
  | [] => rfl
  | p :: r => by
    rw [List.any_cons]
    by_cases e : p.1 = k
    · rw [getP_pos e, decide_eq_true e]
      rfl
    · rw [getP_neg e, decide_eq_false e, Bool.false_or]
      exact getP_any k r
theorem getP_mem {k : Int} {v : α} : ∀ {ps : List (Int × α)}, getP ps k = some v → (k, v) ∈ ps
  | [], h => nomatch h
  | p :: r, h => by
    by_cases e : p.1 = k
    · rw [getP_pos e] at h
      cases h
      rw [← e]
      exact List.mem_cons_self
    · rw [getP_neg e] at h
      exact List.mem_cons_of_mem _ (getP_mem h)
theorem getP_none {k : Int} {ps : List (Int × α)} (h : getP ps k = none) : ∀ p ∈ ps, p.1 ≠ k := fun p hp e => by
  have z := getP_any k ps
  rw [h] at z
  exact absurd (decide_eq_true e) (by simpa using (List.any_eq_false.mp z p hp))
theorem keys_put (ps : List (Int × α)) (k : Int) (v : α) : (putP ps k v).map (·.1) = if (getP ps k).isSome = true then ps.map (·.1) else ps.map (·.1) ++ [k] := by
  unfold putP
  rw [getP_any]
  split
  · rw [List.map_map]
    congr 1
    funext p
    show (if p.1 = k then (p.1, v) else p).1 = p.1
    split <;> rfl
  · rw [List.map_append]
    rfl
theorem nodup_put {ps : List (Int × α)} {k : Int} {v : α} (h : (ps.map (·.1)).Nodup) : ((putP ps k v).map (·.1)).Nodup := by
  rw [keys_put]
  split
  · exact h
  · rename_i g
    refine List.nodup_append.mpr ⟨h, List.nodup_cons.mpr ⟨List.not_mem_nil, List.nodup_nil⟩, fun a ha b hb e => ?_⟩
    have hb : b = k := by simpa using hb
    obtain ⟨p, hp, ep⟩ := List.mem_map.mp ha
    refine getP_none (ps := ps) (k := k) ?_ p hp (by rw [ep, e, hb])
    cases q : getP ps k with
    | none => rfl
    | some _ => rw [q] at g; exact absurd rfl g
theorem key_put {ps : List (Int × α)} {k : Int} {v : α} {P : Int → Prop} (h : ∀ p ∈ ps, P p.1) (hk : P k) : ∀ p ∈ putP ps k v, P p.1 := fun p hp => by
  have e : p.1 ∈ (putP ps k v).map (·.1) := List.mem_map_of_mem hp
  rw [keys_put] at e
  split at e
  · obtain ⟨q, hq, eq⟩ := List.mem_map.mp e
    rw [← eq]
    exact h q hq
  · rcases List.mem_append.mp e with e | e
    · obtain ⟨q, hq, eq⟩ := List.mem_map.mp e
      rw [← eq]
      exact h q hq
    · have e : p.1 = k := by simpa using e
      rw [e]
      exact hk
/-- a weight over a dict of ints -/
def wS (g : Int → Int) (ps : List (Int × Int)) : Int := (ps.map fun p => p.2 * g p.1).sum
theorem wS_app (g : Int → Int) (ps qs : List (Int × Int)) : wS g (ps ++ qs) = wS g ps + wS g qs := by
  unfold wS
  rw [List.map_append, List.sum_append]
theorem wS_put (g : Int → Int) (k v : Int) : ∀ {ps : List (Int × Int)}, (ps.map (·.1)).Nodup → wS g (putP ps k v) = wS g ps + (v - (getP ps k).getD 0) * g k
  | [], _ => by
    show wS g [(k, v)] = wS g [] + (v - 0) * g k
    unfold wS
    simp
  | p :: r, h => by
    obtain ⟨h1, h2⟩ := List.nodup_cons.mp h
    by_cases e : p.1 = k
    · rw [getP_pos e]
      have hr : ∀ q ∈ r, q.1 ≠ k := fun q hq z => h1 (by show p.1 ∈ _; rw [e, ← z]; exact List.mem_map_of_mem (f := fun x : Int × Int => x.1) hq)
      have e1 : putP (p :: r) k v = (k, v) :: r := by
        unfold putP
        rw [List.any_cons, decide_eq_true e, Bool.true_or, if_pos rfl, List.map_cons, if_pos e, e]
        congr 1
        refine (List.map_congr_left fun q hq => ?_).trans (List.map_id r)
        rw [if_neg (hr q hq)]
        rfl
      rw [e1]
      show ((k, v) :: r |>.map fun p => p.2 * g p.1).sum = ((p :: r).map fun p => p.2 * g p.1).sum + _
      rw [List.map_cons, List.map_cons, List.sum_cons, List.sum_cons, e]
      show v * g k + _ = p.2 * g k + _ + (v - p.2) * g k
      rw [Int.sub_mul]
      omega
    · rw [getP_neg e]
      have ih := wS_put g k v (ps := r) h2
      have e1 : putP (p :: r) k v = p :: putP r k v := by
        unfold putP
        rw [List.any_cons, decide_eq_false e, Bool.false_or]
        split
        · rw [List.map_cons, if_neg e]
        · rfl
      rw [e1]
      have c1 : ∀ l : List (Int × Int), wS g (p :: l) = p.2 * g p.1 + wS g l := fun l => by
        unfold wS
        rw [List.map_cons, List.sum_cons]
      rw [c1, c1, ih]
      omega
end
theorem gD {α : Type} {f : α → V} {H : Hp} {a : Addr} {ps : List (Int × α)} {L : List Asr} (h : Sts H (pto a (.dK (dM f ps)) :: L)) : Sts H (pto a (.dK (dM f ps)) :: L) := h
theorem gD0 {α : Type} (f : α → V) {H : Hp} {a : Addr} {L : List Asr} (h : Sts H (pto a (.dK []) :: L)) : Sts H (pto a (.dK (dM f [])) :: L) := h
theorem gDx {H : Hp} {a : Addr} {kvs : List (Key × V)} {L : List Asr} (h : Sts H (pto a (.dK kvs) :: L)) : Sts H (pto a (.dK kvs) :: L) := h
def tGetD {α : Type} (f : α → V) (td ty tx : TE) : TE := fun σ H Q => td σ H fun x H1 => ∃ a, x = .ref a ∧ (∃ kvs L, Sts H1 (pto a (.dK kvs) :: L)) ∧ ty σ H1 fun y H2 => tx σ H2 fun z H3 =>
  ∃ k j, y = .int k ∧ z = f j ∧ ∃ ps L, Sts H3 (pto a (.dK (dM f ps)) :: L) ∧ Q (f ((getP ps k).getD j)) H3
section
variable {X : Cx} {o e g : Expr} {apos cpos pos p : Pos} {td ty tx : TE}
theorem oc_dget2 {α : Type} (f : α → V) (hu : X.A.units + 1 < cLine) (ho : PE X o td) (he : PE X e ty) (hg : PE X g tx) (m : M2 X o "get" apos e g cpos) : PE X (.Call (.Attribute o "get" apos) [e, g] [] cpos) (tGetD f td ty tx) := by
  refine ⟨fun pn s0 σ H Q J h => wpAny_Call_method m.base m.few m.line PySem.F.plainAttrs_dict PySem.F.slot_dict_get PySem.F.type_dict_get ?_⟩
  refine thn (ho.run pn s0 σ H _ J h) fun u s1 ⟨x, H1, J1, rx, a, ex, ⟨kvs, L, S⟩, q1⟩ => ?_
  subst ex
  obtain rfl : u = Value.ref a := rx
  obtain ⟨t1, t2, _⟩ := isD_at J1 (.inl ⟨kvs, .inl S.hd⟩)
  refine ⟨t1, t2, ?_⟩
  rw [m.trees]
  refine Calls.callWith_builtin rfl (Calls.evalArgs_plain (Calls.spliced_cons (thn (he.run pn s1 σ H1 _ J1 q1) fun iv s2 ⟨y, H2, J2, ry, q2⟩ => ?_)))
  refine Calls.spliced_cons (thn (hg.run pn s2 σ H2 _ J2 q2) fun fv s3 ⟨z, H3, J3, rz, k, j, ey, ez, ps, M, T, q3⟩ => Calls.spliced_nil ?_)
  subst ey ez
  refine d_get2 hu J3 (.inl ⟨dM f ps, .inl k, .inl T.hd, rfl, rfl⟩) ry rz fun w' s4 J4 rw' => ⟨_, H3, J4, ?_, q3⟩
  rw [valV_dM] at rw'
  cases q : getP ps k with
  | none =>
    rw [q] at rw'
    exact rw'
  | some v =>
    rw [q] at rw'
    exact rw'
theorem oc_setD {α : Type} (f : α → V) (hu : X.A.units + 1 < cLine) : PSet X (fun o i v H Q => ∃ p k, o = .ref p ∧ i = .int k ∧ ∃ j, v = f j ∧ ∃ ps L, Sts H (pto p (.dK (dM f ps)) :: L) ∧ ps.length ≤ 1000000 ∧
    ∀ H', Sts H' (pto p (.dK (dM f (putP ps k j))) :: L) → Q H') := by
  intro pn s0 σ H o i v ov iv u Q J ro ri rv ⟨p, k, eo, ei, j, ev, ps, L, S, hl, q⟩
  subst eo ei ev
  cases ro
  refine d_setItem hu J (.inl ⟨dM f ps, .inl k, S.hd, rfl, small (by unfold dM; rw [List.length_map]; exact hl), rfl⟩) ri rv fun s1 J1 => ⟨_, J1, q _ ?_⟩
  rw [putK_dM]
  exact S.put _
def tSumVals (td : TE) : TE := fun σ H Q => td σ H fun x H1 => ∃ a, x = .ref a ∧ ∃ ps L, Sts H1 (pto a (.dK (dM V.int ps)) :: L) ∧ Q (.int (ps.map (·.2)).sum) H1
theorem preS (f : Nat → Int) : ∀ (l : List Int) (n : Nat), (∀ i, l.getD i 0 = f (n + i)) → preSum f (n + l.length) = preSum f n + l.sum
  | [], n, _ => by simp
  | x :: l, n, h => by
    have h0 : x = f n := by simpa using h 0
    have ih := preS f l (n + 1) fun i => by
      have z := h (i + 1)
      rw [show n + 1 + i = n + (i + 1) by omega, ← z]
      rfl
    have e : preSum f (n + 1) = preSum f n + f n := rfl
    rw [List.length_cons, show n + (l.length + 1) = n + 1 + l.length by omega, ih, e, List.sum_cons, h0]
    omega
theorem oc_sumVals (hc : X.calm = true) (hg : Gl X "sum") (hm : X.mg "sum" = none) (hd : PE X o td) (hbase : attributeBase o "values" X.env (eval o X.env) = eval o X.env := by rfl) (hline : (apos.endLine == cpos.line) = true := by rfl)
    (hse : starEach [Expr.Call (.Attribute o "values" apos) [] [] cpos] X.env = [(false, eval (Expr.Call (.Attribute o "values" apos) [] [] cpos) X.env)] := by rfl) :
    PE X (.Call (.Name "sum" p) [.Call (.Attribute o "values" apos) [] [] cpos] [] pos) (tSumVals td) := by
  refine ⟨fun pn s0 σ H Q J h => wpAny_Call_Name_kw (ld_blt J hg hm (u := .builtin "sum") (by first | rfl | decide +kernel) ?_ (by first | decide +kernel | decide) (by first | decide +kernel | decide))⟩
  rw [hse]
  refine PySem.callWith_builtin1 (wpAny_Call_method0_late hbase hline (thn (hd.run pn s0 σ H _ J h) fun v s1 ⟨x, H1, J1, r1, a, ex, ps, L, S, q⟩ => ?_))
  subst ex
  obtain rfl : v = Value.ref a := r1
  obtain ⟨_, hsys, vs, rel, dof⟩ := dk_of J1.hok S.hd
  obtain ⟨ep, dat⟩ := dof.dictAt
  have dat' := dat
  obtain ⟨ob, es, ho, ex, hdat, hko, hpr, hnd⟩ := dat'
  refine ⟨"dict", "dict.values", F.plainAttrs_dict, F.slot_dict_values, F.type_dict_values, ⟨ob, ho, ex.1⟩, fun b e => ?_, Calls.callWith_builtin rfl (PySem.evalArgs_none ?_)⟩
  · cases e
    exact ⟨ob, ho, ex.2.1⟩
  refine call_meetsIn F.slot_dict_values ⟨ob, ho, ex.1⟩ F.entry_dict_values (F.args_dict_values_1 _) (meets_dict_values (mixKind X.prog X.w) a hsys) ⟨⟨vs, dof⟩, ?_⟩
  have k1 : ∀ b u, s1.heap.get? b = some u → (s1.heap.push { cls := .type "dict_values", data := .fields #[.ref a] }).get? b = some u := fun b u => Heap.get?_push_of_some _
  have dat1 := dat.keep k1
  have hlv : vs.length = ps.length := by
    have z := KV.length rel
    unfold dM at z
    rw [List.length_map] at z
    exact z.symm
  have hval : ∀ (i : Nat) (v : Value), (∃ k, vs[i]? = some (k, v)) → ∃ t, v = Value.int ((ps.map (·.2)).getD i 0) t := fun i v ⟨k, hk⟩ => by
    obtain ⟨x, h1, h2⟩ := KV.at' rel hk
    unfold dM at h1
    rw [List.getElem?_map] at h1
    obtain ⟨j, hj, e2⟩ := Option.map_eq_some_iff.mp h1
    have e3 : x = V.int j.2 := (congrArg Prod.snd e2).symm
    subst e3
    obtain ⟨t, e4⟩ := h2
    exact ⟨t, by rw [e4, List.getD_eq_getElem?_getD, List.getElem?_map, hj]; rfl⟩
  refine call_sum_walkG (wpAny_pyIter_values (v := s1.heap.objs.size) (d := a) ⟨_, Heap.get?_push_size _ rfl, rfl, rfl⟩ dat1 ?_)
  have hlt : a < s1.heap.objs.size := Heap.lt_size ho
  have hsz : (s1.heap.push { cls := .type "dict_values", data := .fields #[.ref a] }).objs.size = s1.heap.objs.size + 1 := Heap.size_push _ _
  refine ⟨_, _, _, _, _, _, _, rfl, Walks.dictValues (knd := mixKind X.prog X.w) (A := X.A.in1) (J.ok.hd hc) (s1.heap.push { cls := .type "dict_values", data := .fields #[.ref a] }).objs.size a (by rw [hsz]; exact Nat.ne_of_lt (Nat.lt_succ_of_lt hlt)) vs ep,
    ⟨⟨_, Heap.get?_push_size _ rfl, rfl, rfl⟩, dat1.keep fun b u e => Heap.get?_push_of_some _ e⟩, fun b hb => ?_, hval, fun h' tk t' hk => ?_⟩
  · show b < ((s1.heap.push _).push _).objs.size
    rw [Heap.size_push, Heap.size_push]
    rw [hsz] at hb
    have l1 := Nat.lt_succ_of_lt hlt
    refine (List.mem_cons.mp hb).elim (fun e => e ▸ Nat.lt_succ_self _) fun hb => ?_
    rw [show b = a from List.mem_singleton.mp hb]
    exact Nat.lt_succ_of_lt l1
  · have es : preSum (fun i => (ps.map (·.2)).getD i 0) vs.length = (ps.map (·.2)).sum := by
      have z := preS (fun i => (ps.map (·.2)).getD i 0) (ps.map (·.2)) 0 fun i => by rw [Nat.zero_add]
      have z0 : preSum (fun i => (ps.map (·.2)).getD i 0) 0 = 0 := rfl
      rw [Nat.zero_add, List.length_map, z0, Int.zero_add] at z
      rw [hlv]
      exact z
    rw [es]
    refine ⟨.int _, H1, J1.kept (t' := tk) fun b u e => hk b u (fun hmem => ?_) (Heap.get?_push_of_some _ (k1 b u e)), ⟨t', rfl⟩, q⟩
    have e1 := List.mem_singleton.mp hmem
    have e2 := Heap.lt_size e
    rw [e1, hsz] at e2
    exact Nat.lt_irrefl _ (Nat.lt_of_succ_lt e2)
/-- a statement that runs while a dict or list is locked -/
def tLockO (t : TS) : TS := fun D σ H => ∃ d u L, Sts H (pto d u :: L) ∧ Mut (some u) ∧ ∀ od H1, Sts H1 (pto d (.frz od u) :: L) → t
  ⟨fun σ' H' => ∃ M, Sts H' (pto d (.frz od u) :: M) ∧ ∀ H2, Sts H2 (pto d u :: M) → D.nx σ' H2, fun v H' => ∃ M, Sts H' (pto d (.frz od u) :: M) ∧ ∀ H2, Sts H2 (pto d u :: M) → D.rt v H2,
   fun σ' H' => ∃ M, Sts H' (pto d (.frz od u) :: M) ∧ ∀ H2, Sts H2 (pto d u :: M) → D.bk σ' H2, fun σ' H' => ∃ M, Sts H' (pto d (.frz od u) :: M) ∧ ∀ H2, Sts H2 (pto d u :: M) → D.ct σ' H2⟩ σ H1
theorem oc_lock {st : Stmt} {t : TS} (h : PS X st t) : PS X st (tLockO t) := by
  refine ⟨fun pn s0 σ H D J ⟨d, u, L, S, mu, hw⟩ => ?_⟩
  obtain ⟨od, J1⟩ := J.lock S.hd mu
  refine thn (h.run pn s0 σ _ _ J1 (hw od _ (S.put _))) fun f s1 q => ?_
  cases f with
  | next =>
    obtain ⟨σ', H', J2, M, S2, q⟩ := q
    exact ⟨σ', _, J2.unlock S2.hd (J.nofrz S.hd mu), q _ (S2.put u S.hdT)⟩
  | brk =>
    obtain ⟨σ', H', J2, M, S2, q⟩ := q
    exact ⟨σ', _, J2.unlock S2.hd (J.nofrz S.hd mu), q _ (S2.put u S.hdT)⟩
  | cont =>
    obtain ⟨σ', H', J2, M, S2, q⟩ := q
    exact ⟨σ', _, J2.unlock S2.hd (J.nofrz S.hd mu), q _ (S2.put u S.hdT)⟩
  | ret v =>
    obtain ⟨x, σ', H', J2, r, M, S2, q⟩ := q
    exact ⟨x, σ', _, J2.unlock S2.hd (J.nofrz S.hd mu), r, q _ (S2.put u S.hdT)⟩
end
/-- for k, v in d.items() -/
theorem for_items {α : Type} {f : α → V} {d : Addr} {od : Obj} {g : TG} {tb : TS} {D : Ends} {σ : L2.St} {H : Hp} (ps : List (Int × α)) (Pv : Nat → L2.St → Hp → Prop) (h0 : Pv 0 σ H) (hl : ∀ i σ H, Pv i σ H → ∃ L, Sts H (pto d (.frz od (.dK (dM f ps))) :: L))
    (hs : ∀ i k v T σ H H', ps[i]? = some (k, v) → Pv i σ H → H T = none → upd H T (.tup [.int k, f v]) = H' → g (.ref T) σ H' fun σ2 H2 => tb { D with nx := Pv (i + 1), ct := Pv (i + 1), bk := D.nx } σ2 H2) (hd : ∀ σ H, Pv ps.length σ H → D.nx σ H) :
    ∃ W : Nat → Nat → L2.St → Hp → Prop, (∃ m, W 0 m σ H) ∧ ∀ i m σ H, W i m σ H →
      ((Iti d od (dM f ps)).stop i H ∧ D.nx σ H) ∨ ((Iti d od (dM f ps)).go i H ∧ ∃ N : L2.St → Hp → Prop, (∀ σ' H', N σ' H' → ∃ m', m' < m ∧ W (i + 1) m' σ' H') ∧ ∀ x H', (Iti d od (dM f ps)).yld i H x H' → g x σ H' fun σ2 H2 => tb { D with nx := N, ct := N, bk := D.nx } σ2 H2) := by
  have el : (dM f ps).length = ps.length := by
    unfold dM
    rw [List.length_map]
  refine for_it (n := ps.length) (el ▸ walk_items) Pv h0 (fun i σ H _ p => ?_) (fun i x σ H H' hi p y => ?_) hd
  · obtain ⟨L, S⟩ := hl i σ H p
    exact S.hd
  · obtain ⟨T, k, v, h1, h2, h3, h4, h5⟩ := y
    obtain ⟨j, hj⟩ : ∃ j, ps[i]? = some j := ⟨_, List.getElem?_eq_getElem hi⟩
    simp only [dM, List.getElem?_map, hj] at h4 h5
    cases h4
    cases h5
    rw [h1]
    exact hs i j.1 j.2 T σ H H' hj p h2 h3.symm
end Oc
namespace Oc
open PySem PySem.Spec PyProof.Rows L2
theorem atI_last2 (l : List Int) (i j : Int) : atI ((l ++ [i, j]).map V.int) (-2) = some (.int i) := by
  have hl : ((l ++ [i, j]).map V.int).length = l.length + 2 := by simp
  unfold atI ixN
  rw [hl, if_neg (by decide), if_pos (by omega)]
  show ((l ++ [i, j]).map V.int)[(-2 + ((l.length + 2 : Nat) : Int)).toNat]? = _
  rw [show (-2 + ((l.length + 2 : Nat) : Int)).toNat = l.length by omega]
  simp
/-- xs[-2], a list of ints that ends with i, j -/
theorem oc_ixLast2 {X : Cx} {K : PySem.W.Frag} (hK : X.K = K) : IxR X (fun x y H Q => ∃ p, ∃ ns : List Int, x = .ref p ∧ y = .int (-2) ∧ SqL K H p (ns.map V.int) ∧ ∃ l i j, ns = l ++ [i, j] ∧ Q (.int i) H) := fun va sl pins s σ H x y v u Q I rx ry ⟨p, ns, e1, e2, h, l, i, j, b, q⟩ hs =>
  ix_list va sl pins s σ H x y v u Q I rx ry ⟨p, _, -2, .int i, e1, e2, hK ▸ h, by
    rw [b]
    exact atI_last2 l i j, q⟩ hs
theorem hI7 {H : Hp} {a : Addr} {x y z u v w t : Int} (h : H a = some (.lst [V.int x, V.int y, V.int z, V.int u, V.int v, V.int w, V.int t])) : H a = some (.lst (List.map V.int [x, y, z, u, v, w, t])) := h
theorem hI4 {H : Hp} {a : Addr} {x y z u : Int} (h : H a = some (.lst [V.int x, V.int y, V.int z, V.int u])) : H a = some (.lst (List.map V.int [x, y, z, u])) := h
theorem lc_BI {K : PySem.W.Frag} {a : Addr} {k : Nat} {te : TE} {vs : List Nat} {σ : L2.St} {H0 : Hp} {Qd : Hp → Prop} {L : List Asr} {D : Addr} (ns : List Int) (f : Int → Bool) (S : Sts H0 (pto D (.lst []) :: L)) (hsq : ∀ H, Sts H L → SqL K H a (ns.map V.int)) (hl : ns.length ≤ 1000000)
    (hw : ∀ x, wipe ((wipe σ vs).set k (some x)) vs = wipe σ vs) (he : ∀ (x : Int) (H : Hp) (Q' : VK), x ∈ ns → Sts H L → Q' (.bl (f x)) H → te ((wipe σ vs).set k (some (.int x))) H Q')
    (hd : ∀ H, Sts H (pto D (.lst ((ns.map f).map V.bl)) :: L) → Qd H) :
    ∃ W : Nat → Nat → Hp → Prop, (∃ m, W 0 m H0) ∧ ∀ i m H, W i m H →
      ((Itl K a).stop i H ∧ Qd H) ∨ ((Itl K a).go i H ∧ ∃ Nx : Hp → Prop, (∀ H', Nx H' → ∃ m', m' < m ∧ W (i + 1) m' H') ∧ ∀ x H', (Itl K a).yld i H x H' → gName k x (wipe σ vs) H' fun σ2 H2 => wipe σ2 vs = wipe σ vs ∧ tYes σ2 H2 fun b H3 =>
        if b = true then te σ2 H3 fun y H4 => ∃ acc, H4 D = some (.lst acc) ∧ acc.length < sizeLine ∧ Nx (upd H4 D (.lst (acc ++ [y]))) else Nx H3) :=
  lc_pureI ns (fun x => .bl (f x)) S hsq hl hw he (fun H S => hd H (by rw [List.map_map]; exact S))
theorem all_yes (ns : List Int) : (ns.map fun _ => true).all id = true := by simp
theorem deq {α : Type} [DecidableEq α] (a : α) : decide (a = a) = true := decide_eq_true rfl
/-- int(b), in facts -/
theorem oc_int_bA {X : Cx} : CallR X (.type "int") (fun xs H Q => ∃ k, xs = [.bl k] ∧ ∀ o : Int, 0 ≤ o → o ≤ 1 → (o = 1 ↔ k = true) → Q (.int o) H) := fun pins s σ H xs us Q I r ⟨k, e, q⟩ =>
  call_int1 pins s σ H xs us Q I r (.inr ⟨k, e, q _ (by cases k <;> decide) (by cases k <;> decide) (by cases k <;> decide)⟩)
theorem gI_get {L : List Int} {k : Int} (h0 : 0 ≤ k) (h1 : k < L.length) : L[k.toNat]? = some (gI L k) := by
  have h : k.toNat < L.length := by omega
  rw [List.getElem?_eq_getElem h]
  unfold gI
  rw [List.getD_eq_getElem?_getD, List.getElem?_eq_getElem h]
  rfl
theorem rep0 (k : Nat) (x : Int) : (List.replicate k [x]).flatten = List.replicate k x := by
  induction k with
  | zero => rfl
  | succ k ih => rw [List.replicate_succ, List.flatten_cons, ih, List.replicate_succ]; rfl
end Oc
namespace Oc
open PySem PySem.Spec PyProof.Rows L2
theorem in_ints (i : Int) : ∀ ns : List Int, inV (.int i) (ns.map V.int) = decide (i ∈ ns)
  | [] => rfl
  | n :: ns => by
    have ih := in_ints i ns
    have e : inV (.int i) ((n :: ns).map V.int) = (eqV (.int n) (.int i) || inV (.int i) (ns.map V.int)) := rfl
    rw [e, ih]
    have e2 : eqV (.int n) (.int i) = decide (i = n) := by
      show (n == i) = decide (i = n)
      by_cases h : i = n
      · rw [h, decide_eq_true rfl]
        exact beq_self_eq_true n
      · rw [decide_eq_false h]
        exact beq_eq_false_iff_ne.mpr fun e => h e.symm
    rw [e2]
    by_cases h1 : i = n <;> by_cases h2 : i ∈ ns <;> simp [h1, h2]
theorem flat_ints : ∀ ns : List Int, (ns.map V.int).all flatV = true
  | [] => rfl
  | n :: ns => by
    rw [List.map_cons, List.all_cons, flat_ints ns]
    rfl
theorem oc_in_ints {X : Cx} {K : PySem.W.Frag} (hK : X.K = K) : OpR X (compareOp .In) (fun x y H Q => ∃ i p, ∃ ns : List Int, x = .int i ∧ y = .ref p ∧ SqL K H p (ns.map V.int) ∧ Q (.bl (decide (i ∈ ns))) H) := fun pins s σ H x y v u Q I rx ry ⟨i, p, ns, e1, e2, h, q⟩ =>
  op_in_seq pins s σ H x y v u Q I rx ry ⟨p, _, e2, .inl (hK ▸ h), by rw [e1]; rfl, flat_ints ns, by rw [e1, in_ints]; exact q⟩
theorem oc_and1 {X : Cx} : OpR X (binaryOp .BitAnd) (fun x y H Q => ∃ i, x = .int i ∧ y = .int 1 ∧ Q (.int (i % 2)) H) := fun pins s σ H x y v u Q I rx ry ⟨i, e1, e2, q⟩ =>
  op_and pins s σ H x y v u Q I rx ry ⟨i, 1, e1, e2, by
    show Q (.int (Builtin.bitAnd i 1)) H
    rw [PyProof.Rows.bitAnd_m1]
    exact q⟩
/-- list(range(i, j, c)) -/
def tLstRg3 (ta : TA) : TE := fun σ H Q => ta σ H fun vs H1 => ∃ (i j c : Int) (n : Nat), vs = [.int i, .int j, .int c] ∧ RgC i j c n ∧ n ≤ 1000000 ∧ ∀ q, H1 q = none → Q (.ref q) (upd H1 q (.lst (((List.range n).map fun k => i + (k : Nat) * c).map V.int)))
theorem oc_listRg3 {X : Cx} {a b c : Expr} {ta : TA} {p p2 pos pos2 : Pos} (hc : X.calm = true) (hg : Gl X "list") (hm : X.mg "list" = none) (hg2 : Gl X "range") (hm2 : X.mg "range" = none) (ha : PA X [a, b, c] ta)
    (na : starEach [Expr.Call (.Name "range" p2) [a, b, c] [] pos2] X.env = (false, eval (Expr.Call (.Name "range" p2) [a, b, c] [] pos2) X.env) :: starEach [] X.env := by rfl)
    (hs : starEach [a, b, c] X.env = (false, eval a X.env) :: starEach [b, c] X.env := by rfl) (hpl : (backTo pos2 (starEach [b, c] X.env)).any (·.1) = false := by rfl) :
    PE X (.Call (.Name "list" p) [.Call (.Name "range" p2) [a, b, c] [] pos2] [] pos) (tLstRg3 ta) := by
  refine ⟨fun pn s0 σ H Q J h => Call_ (ld_blt J hg hm boot_list (PyProof.Rows.callWith_type1 (args_cons ?_ na) na))⟩
  refine Call_ (ld_blt J hg2 hm2 boot_range (PyProof.Rows.callWith_type1 (thn (ha.run pos2 pn s0 σ H _ J h) fun us s1 ⟨vs, H1, J1, r1, i, j, k, n, e, ⟨c0, c1, c2, c3⟩, nl, q⟩ => ?_) hs hpl))
  subst e
  cases r1 with
  | cons r rr =>
    cases rr with
    | cons r' rr =>
      cases rr with
      | cons r'' rr =>
        cases rr
        obtain ⟨t, rfl⟩ := r
        obtain ⟨t', rfl⟩ := r'
        obtain ⟨t'', rfl⟩ := r''
        refine call_range_3 c0 (args_nil ?_) (.inl (PyProof.noPylong_small c1))
        have J2 : Inv X pn σ H1 { s1 with heap := s1.heap.push { cls := .type "range", data := .fields #[.int i t, .int j t', .int k t''] } } := J1.kept (t' := s1.toks) fun b o => Heap.get?_push_of_some _
        refine call_list_range (n := n) (J2.ok.hd hc) (IsRange.new ..) c2 c3 (by omega) fun h' tk acc ck hk e' hi => ?_
        have hv : Vals (((List.range n).map fun x => i + (x : Nat) * k).map V.int) acc.toList := by
          have el : acc.toList.length = n := by rw [Array.length_toList]; exact hi.1
          rw [← el, List.map_map]
          refine vals_of_get acc.toList _ fun x u hx => ?_
          obtain ⟨t, rfl⟩ := hi.2 x u (by rw [← hx, Array.getElem?_toList])
          exact ⟨t, rfl⟩
        refine ⟨.ref _, upd H1 _ (.lst (((List.range n).map fun x => i + (x : Nat) * k).map V.int)), J2.laid hk (Nat.le_refl _) (show ObjOk X.prog X.w _ _ _ (.lst (((List.range n).map fun x => i + (x : Nat) * k).map V.int)) from ⟨?_, acc.toList, ck, hv, ?_⟩), rfl, q _ (J2.hok.fresh (Nat.le_refl _))⟩
        · rw [List.length_map, List.length_map, List.length_range, sizeLine_eq]
          omega
        · rw [Array.toArray_toList]
          exact e'
theorem rgc_down {f g w : Nat} (hw : 1 ≤ w) (hw2 : w ≤ 1000) (hl : f + (g + 1) * w ≤ 1000000) : RgC ((f + (g + 1) * w : Nat) : Int) f (-(w : Int)) (g + 1) := by
  have m2 : (g + 1) * w = g * w + w := Nat.succ_mul g w
  have e : Builtin.Range.rangeSize ((f + (g + 1) * w : Nat) : Int) f (-(w : Int)) = ((g + 1 : Nat) : Int) := by
    unfold Builtin.Range.rangeSize
    rw [if_neg (by omega), if_pos (by omega), Int.neg_neg]
    have e1 : ((f + (g + 1) * w : Nat) : Int) - f - 1 = ((g * w + (w - 1) : Nat) : Int) := by omega
    have e2 : (((g * w + (w - 1) : Nat) : Int) / (w : Int)) = ((g : Nat) : Int) := by
      rw [← Int.natCast_ediv, Nat.add_comm, Nat.add_mul_div_right _ _ (by omega), Nat.div_eq_of_lt (by omega), Nat.zero_add]
    rw [e1, e2]
    rfl
  refine ⟨by omega, by omega, ?_, e⟩
  unfold Builtin.Range.small Builtin.Range.rangeFitsLong
  have gl : g + 1 ≤ 1000000 := by
    have := Nat.mul_le_mul_left (g + 1) hw
    omega
  rw [e, if_neg (by omega)]
  simp only [Bool.and_eq_true, Bool.or_eq_true, decide_eq_true_eq, beq_iff_eq]
  omega
/-- any, all over a range's turns -/
theorem lc_RB {lo : Int} {n : Nat} {k : Nat} {te : TE} {vs : List Nat} {σ : L2.St} {H0 : Hp} {Qd : Hp → Prop} {L : List Asr} {D : Addr} (f : Int → Bool) (S : Sts H0 (pto D (.lst []) :: L)) (hl : n ≤ 1000000)
    (hw : ∀ x, wipe ((wipe σ vs).set k (some x)) vs = wipe σ vs) (he : ∀ (i : Nat) (H : Hp) (Q' : VK), i < n → Sts H L → Q' (.bl (f (lo + i))) H → te ((wipe σ vs).set k (some (.int (lo + i)))) H Q')
    (hd : ∀ H, Sts H (pto D (.lst (((List.range n).map fun i => f (lo + (i : Nat))).map V.bl)) :: L) → Qd H) :
    ∃ W : Nat → Nat → Hp → Prop, (∃ m, W 0 m H0) ∧ ∀ i m H, W i m H →
      ((Itr lo n).stop i H ∧ Qd H) ∨ ((Itr lo n).go i H ∧ ∃ Nx : Hp → Prop, (∀ H', Nx H' → ∃ m', m' < m ∧ W (i + 1) m' H') ∧ ∀ x H', (Itr lo n).yld i H x H' → gName k x (wipe σ vs) H' fun σ2 H2 => wipe σ2 vs = wipe σ vs ∧ tYes σ2 H2 fun b H3 =>
        if b = true then te σ2 H3 fun y H4 => ∃ acc, H4 D = some (.lst acc) ∧ acc.length < sizeLine ∧ Nx (upd H4 D (.lst (acc ++ [y]))) else Nx H3) :=
  lc_pureR (fun x => .bl (f x)) S hl hw he (fun H S => hd H (by rw [List.map_map]; exact S))
end Oc
namespace Oc
open PySem L2
section
variable {p : Prop} [Decidable p] {A B : Prop} {a b : Int}
theorem idT (h : p) (k : A) : if decide p = true then A else B := ifT (dt h) k
theorem idF (h : ¬ p) (k : B) : if decide p = true then A else B := ifF (df h) k
theorem inT (h : ¬ p) (k : A) : if (!decide p) = true then A else B := ifT (nt h) k
theorem inF (h : p) (k : B) : if (!decide p) = true then A else B := ifF (nd h) k
theorem ivT (h : a = b) (k : A) : if decide (V.int a = V.int b) = true then A else B := ifT (dt (congrArg V.int h)) k
theorem ivF (h : a ≠ b) (k : B) : if decide (V.int a = V.int b) = true then A else B := ifF (df fun e => h (V.int.inj e)) k
theorem iwT (h : a ≠ b) (k : A) : if (!decide (V.int a = V.int b)) = true then A else B := ifT (nt fun e => h (V.int.inj e)) k
theorem iwF (h : a = b) (k : B) : if (!decide (V.int a = V.int b)) = true then A else B := ifF (nd (congrArg V.int h)) k
end
end Oc
theorem Oc.gLL {H : L2.Hp} {a b : PySem.Addr} {ns ms : List Int} {L : List Oc.Asr} (h : Oc.Sts H (Oc.pto a (.lst (ns.map L2.V.int)) :: Oc.pto b (.lst (ms.map L2.V.int)) :: L)) : Oc.Sts H (Oc.pto a (.lst (ns.map L2.V.int)) :: Oc.pto b (.lst (ms.map L2.V.int)) :: L) := h
/-! ### readings with names of their own, a lemma for each step -/
namespace Oc
open PySem PySem.Spec PyProof.Rows L2
section
variable {K : PySem.W.Frag} {σ σ' : L2.St} {H : Hp} {Q : VK} {D : Ends} {i j : Int} {a b p : Addr} {v x y : V} {vs us : List V} {L : List Asr} {ns ms : List Int} {xs ys : List V}
/-! structure -/
def tCallX (sp : Sp) (t : TA) : TE := fun σ H Q => t σ H fun vs H1 => sp vs H1 Q E0
def qNew (H : Hp) (o : HO) (Q : VK) : Prop := ∀ p, H p = none → Q (.ref p) (upd H p o)
theorem g_new {o : HO} (S : Sts H L) (ho : isT o = false) (k : ∀ p H', Sts H' (pto p o :: L) → Q (.ref p) H') : qNew H o Q := fun p np => k p _ (S.new o np ho)
theorem g_newT {τ : Tmap} (S : Sts H (im τ :: L)) (k : ∀ p H' υ, Le τ υ → υ p = some vs → Sts H' (im υ :: L) → Q (.ref p) H') : qNew H (.tup vs) Q := fun p np => by
  obtain ⟨υ, l, e, S2⟩ := S.newT vs np
  exact k p _ υ l e S2
theorem g_newT0 (S : Sts H L) (k : ∀ p H', Sts H' L → Q (.ref p) H') : qNew H (.tup vs) Q := fun p np => k p _ (S.newT0 vs np)
theorem g_dnewT (k : qNew H (.dT []) Q) : tDNewT σ H Q := k
theorem g_dnewK (k : qNew H (.dK []) Q) : tDNewK σ H Q := k
theorem g_var {n : Nat} (h : σ[n]? = some (some v)) (k : Q v H) : tVar n σ H Q := ⟨v, h, k⟩
theorem g_c (k : Q v H) : tC v σ H Q := k
section
variable {t u : TS} {te ta tb tc : TE} {c d : TT} {g : TG} {gs : TGs} {tr : TA} {RB : Bool → Hp → Prop}
theorem g_nx {n : L2.St → Hp → Prop} {r : VK} {b c : L2.St → Hp → Prop} (k : n σ H) : (Ends.mk n r b c).nx σ H := k
theorem g_rt {n : L2.St → Hp → Prop} {r : VK} {b c : L2.St → Hp → Prop} (k : r v H) : (Ends.mk n r b c).rt v H := k
theorem g_seq (k : t { D with nx := u D } σ H) : tSeq t u D σ H := k
theorem g_next (k : D.nx σ H) : tNext D σ H := k
theorem g_brk (k : D.bk σ H) : tBreak D σ H := k
theorem g_cont (k : D.ct σ H) : tCont D σ H := k
theorem g_drop (k : te σ H fun _ H1 => D.nx σ H1) : tDrop te D σ H := k
theorem g_ret (k : te σ H D.rt) : tRet te D σ H := k
theorem g_retN (k : D.rt .non H) : tRetN D σ H := k
theorem g_ifS (k : c σ H fun b H1 => if b = true then t D σ H1 else u D σ H1) : tIfS c t u D σ H := k
theorem g_asg (k : te σ H fun x H1 => g x σ H1 D.nx) : tAsg te g D σ H := k
theorem g_aug {n : Nat} {ti : TIp} (h : σ[n]? = some (some x)) (k : te σ H fun y H1 => ti x y H1 fun z H2 => gName n z σ H2 D.nx) : tAug n te ti D σ H := ⟨x, h, k⟩
theorem g_ipI {f : Int → Int → Int} (k : Q (.int (f i j)) H) : ipI f (.int i) (.int j) H Q := ⟨i, j, rfl, rfl, k⟩
def kBl (Q : Bool → Hp → Prop) : VK := fun x H => ∃ k, x = .bl k ∧ Q k H
theorem g_bl {c : Bool} (k : RB c H) : kBl RB (.bl c) H := ⟨c, rfl, k⟩
theorem g_test (k : te σ H (kBl RB)) : tTest te σ H RB := k
theorem g_tB (k : te σ H (kBl RB)) : tB te σ H RB := k
theorem g_not (k : c σ H fun b H1 => RB (!b) H1) : tNot c σ H RB := k
theorem g_and (k : c σ H fun b H1 => if b = true then d σ H1 RB else RB false H1) : tAnd c d σ H RB := k
theorem g_or (k : c σ H fun b H1 => if b = true then RB true H1 else d σ H1 RB) : tOr c d σ H RB := k
def kAndV (tb : TE) (σ : L2.St) (Q : VK) : VK := fun x H => ∃ c, x = .bl c ∧ if c = true then tb σ H Q else Q (.bl false) H
def kOrV (tb : TE) (σ : L2.St) (Q : VK) : VK := fun x H => ∃ c, x = .bl c ∧ if c = true then Q (.bl true) H else tb σ H Q
def kNotV (Q : VK) : VK := fun x H => ∃ c, x = .bl c ∧ Q (.bl (!c)) H
theorem g_andV (k : ta σ H (kAndV tb σ Q)) : tAndV ta tb σ H Q := k
theorem g_orV (k : ta σ H (kOrV tb σ Q)) : tOrV ta tb σ H Q := k
theorem g_notV (k : ta σ H (kNotV Q)) : tNotV ta σ H Q := k
theorem g_kAndV {c : Bool} (k : if c = true then tb σ H Q else Q (.bl false) H) : kAndV tb σ Q (.bl c) H := ⟨c, rfl, k⟩
theorem g_kOrV {c : Bool} (k : if c = true then Q (.bl true) H else tb σ H Q) : kOrV tb σ Q (.bl c) H := ⟨c, rfl, k⟩
theorem g_kNotV {c : Bool} (k : Q (.bl (!c)) H) : kNotV Q (.bl c) H := ⟨c, rfl, k⟩
theorem g_if (k : c σ H fun b H1 => if b = true then ta σ H1 Q else tb σ H1 Q) : tIf c ta tb σ H Q := k
def kChain (r : R2) (y : V) (tc : TE) (σ : L2.St) (Q : VK) : VK := fun z H => ∃ k, z = .bl k ∧ (if k = true then tc σ H fun w' H4 => r y w' H4 Q else Q (.bl false) H)
theorem g_chain {r r' : R2} (k : ta σ H fun x H1 => tb σ H1 fun y H2 => r x y H2 (kChain r' y tc σ Q)) : tChain r r' ta tb tc σ H Q := k
theorem g_kChain {r : R2} {c : Bool} (k : if c = true then tc σ H fun w' H4 => r y w' H4 Q else Q (.bl false) H) : kChain r y tc σ Q (.bl c) H := ⟨c, rfl, k⟩
theorem g_cons {R : List V → Hp → Prop} (k : ta σ H fun x H1 => tr σ H1 fun xs H2 => R (x :: xs) H2) : tCons ta tr σ H R := k
theorem g_nil {R : List V → Hp → Prop} (k : R [] H) : tNil σ H R := k
theorem g_op {r : R2} (k : ta σ H fun x H1 => tb σ H1 fun y H2 => r x y H2 Q) : tOp r ta tb σ H Q := k
theorem g_un {r : V → Hp → VK → Prop} (k : ta σ H fun x H1 => r x H1 Q) : tUn r ta σ H Q := k
theorem g_cb {r : List V → Hp → VK → Prop} (k : tr σ H fun vs H1 => r vs H1 Q) : tCB r tr σ H Q := k
theorem g_call {sp : Sp} {dvs : List V} {E : XK} (k : tr σ H fun vs H1 => sp (vs ++ dvs) H1 Q E) : tCall sp dvs E tr σ H Q := k
theorem g_callX {sp : Sp} (k : tr σ H fun vs H1 => sp vs H1 Q E0) : tCallX sp tr σ H Q := k
theorem g_callS {sp : Sp} {E : L2.St → XK} (k : tr σ H fun vs H1 => sp vs H1 Q (E σ)) : tCallS sp E tr σ H Q := k
def kBM (K : PySem.W.Frag) (T : String) (r : V → List V → Hp → VK → Prop) (t : TA) (σ : L2.St) (Q : VK) : VK := fun x H1 => tyV K T x H1 ∧ t σ H1 fun xs H2 => r x xs H2 Q
theorem g_bm {T : String} {r : V → List V → Hp → VK → Prop} (k : ta σ H (kBM K T r tr σ Q)) : tBM K T r ta tr σ H Q := k
theorem g_kBML {r : V → List V → Hp → VK → Prop} (h : SqL K H a xs) (k : tr σ H fun vs H2 => r (.ref a) vs H2 Q) : kBM K "list" r tr σ Q (.ref a) H := ⟨.inl ⟨rfl, _, h⟩, k⟩
theorem g_kBMS {r : V → List V → Hp → VK → Prop} {z : Str} (k : tr σ H fun vs H2 => r (.str z) vs H2 Q) : kBM K "str" r tr σ Q (.str z) H := ⟨rfl, k⟩
def kBM0 (K : PySem.W.Frag) (T : String) (r : V → List V → Hp → VK → Prop) (Q : VK) : VK := fun x H1 => tyV K T x H1 ∧ r x [] H1 Q
theorem g_bm0 {T : String} {r : V → List V → Hp → VK → Prop} (k : ta σ H (kBM0 K T r Q)) : tBM0 K T r ta σ H Q := k
theorem g_kBM0L {r : V → List V → Hp → VK → Prop} (h : SqL K H a xs) (k : r (.ref a) [] H Q) : kBM0 K "list" r Q (.ref a) H := ⟨.inl ⟨rfl, _, h⟩, k⟩
def kLst (Q : VK) (xs : List V) (H : Hp) : Prop := xs.length ≤ sizeLine ∧ qNew H (.lst xs) Q
def kTup (Q : VK) (xs : List V) (H : Hp) : Prop := xs.length ≤ sizeLine ∧ qNew H (.tup xs) Q
theorem g_lst (k : tr σ H (kLst Q)) : tLst tr σ H Q := k
theorem g_tup (k : tr σ H (kTup Q)) : tTup tr σ H Q := k
theorem g_kLst (h : xs.length ≤ sizeLine) (k : qNew H (.lst xs) Q) : kLst Q xs H := ⟨h, k⟩
theorem g_kTup (h : xs.length ≤ sizeLine) (k : qNew H (.tup xs) Q) : kTup Q xs H := ⟨h, k⟩
def kPart (Q : Option Int → Hp → Prop) : VK := fun x H => ∃ i, x = .int i ∧ Q (some i) H
theorem g_sl {r : V → Option Int → Option Int → Hp → VK → Prop} {tl th : TO} (k : te σ H fun x H1 => tl σ H1 fun l H2 => th σ H2 fun u H3 => r x l u H3 Q) : tSl r te tl th σ H Q := k
theorem g_noPart {R : Option Int → Hp → Prop} (k : R none H) : tNoPart σ H R := k
theorem g_part {R : Option Int → Hp → Prop} (k : te σ H (kPart R)) : tPart te σ H R := k
theorem g_kPart {R : Option Int → Hp → Prop} (k : R (some i) H) : kPart R (.int i) H := ⟨i, rfl, k⟩
theorem g_gsub {to ti : TE} {ts : TSet} {R : L2.St → Hp → Prop} (k : to σ H fun o H1 => ti σ H1 fun i H2 => ts o i v H2 fun H3 => R σ H3) : gSub to ti ts v σ H R := k
theorem g_gtup {n : Nat} {R : L2.St → Hp → Prop} (h : SqT K H a xs) (e : xs.length = n) (k : gs xs σ H R) : gTup K n gs (.ref a) σ H R := ⟨a, xs, rfl, h, e, k⟩
theorem g_gcons {R : L2.St → Hp → Prop} (k : g v σ H fun σ' H' => gs xs σ' H' R) : gCons g gs (v :: xs) σ H R := ⟨v, xs, rfl, k⟩
theorem g_gnil {R : L2.St → Hp → Prop} (k : R σ H) : gNil [] σ H R := ⟨rfl, k⟩
end
section
variable {x0 x1 x2 x3 x4 x5 x6 x7 x8 x9 x10 x11 x12 x13 x14 x15 x16 x17 x18 x19 : Option V} {s : List (Option V)} {R : L2.St → Hp → Prop}
theorem g_nameG {n : Nat} {s : L2.St} (k : R (s.set n (some v)) H) : gName n v s H R := k
theorem g_name0 (k : R (some v :: s) H) : gName 0 v (x0 :: s) H R := k
theorem g_name1 (k : R (x0 :: some v :: s) H) : gName 1 v (x0 :: x1 :: s) H R := k
theorem g_name2 (k : R (x0 :: x1 :: some v :: s) H) : gName 2 v (x0 :: x1 :: x2 :: s) H R := k
theorem g_name3 (k : R (x0 :: x1 :: x2 :: some v :: s) H) : gName 3 v (x0 :: x1 :: x2 :: x3 :: s) H R := k
theorem g_name4 (k : R (x0 :: x1 :: x2 :: x3 :: some v :: s) H) : gName 4 v (x0 :: x1 :: x2 :: x3 :: x4 :: s) H R := k
theorem g_name5 (k : R (x0 :: x1 :: x2 :: x3 :: x4 :: some v :: s) H) : gName 5 v (x0 :: x1 :: x2 :: x3 :: x4 :: x5 :: s) H R := k
theorem g_name6 (k : R (x0 :: x1 :: x2 :: x3 :: x4 :: x5 :: some v :: s) H) : gName 6 v (x0 :: x1 :: x2 :: x3 :: x4 :: x5 :: x6 :: s) H R := k
theorem g_name7 (k : R (x0 :: x1 :: x2 :: x3 :: x4 :: x5 :: x6 :: some v :: s) H) : gName 7 v (x0 :: x1 :: x2 :: x3 :: x4 :: x5 :: x6 :: x7 :: s) H R := k
theorem g_name8 (k : R (x0 :: x1 :: x2 :: x3 :: x4 :: x5 :: x6 :: x7 :: some v :: s) H) : gName 8 v (x0 :: x1 :: x2 :: x3 :: x4 :: x5 :: x6 :: x7 :: x8 :: s) H R := k
theorem g_name9 (k : R (x0 :: x1 :: x2 :: x3 :: x4 :: x5 :: x6 :: x7 :: x8 :: some v :: s) H) : gName 9 v (x0 :: x1 :: x2 :: x3 :: x4 :: x5 :: x6 :: x7 :: x8 :: x9 :: s) H R := k
theorem g_name10 (k : R (x0 :: x1 :: x2 :: x3 :: x4 :: x5 :: x6 :: x7 :: x8 :: x9 :: some v :: s) H) : gName 10 v (x0 :: x1 :: x2 :: x3 :: x4 :: x5 :: x6 :: x7 :: x8 :: x9 :: x10 :: s) H R := k
theorem g_name11 (k : R (x0 :: x1 :: x2 :: x3 :: x4 :: x5 :: x6 :: x7 :: x8 :: x9 :: x10 :: some v :: s) H) : gName 11 v (x0 :: x1 :: x2 :: x3 :: x4 :: x5 :: x6 :: x7 :: x8 :: x9 :: x10 :: x11 :: s) H R := k
theorem g_name12 (k : R (x0 :: x1 :: x2 :: x3 :: x4 :: x5 :: x6 :: x7 :: x8 :: x9 :: x10 :: x11 :: some v :: s) H) : gName 12 v (x0 :: x1 :: x2 :: x3 :: x4 :: x5 :: x6 :: x7 :: x8 :: x9 :: x10 :: x11 :: x12 :: s) H R := k
theorem g_name13 (k : R (x0 :: x1 :: x2 :: x3 :: x4 :: x5 :: x6 :: x7 :: x8 :: x9 :: x10 :: x11 :: x12 :: some v :: s) H) : gName 13 v (x0 :: x1 :: x2 :: x3 :: x4 :: x5 :: x6 :: x7 :: x8 :: x9 :: x10 :: x11 :: x12 :: x13 :: s) H R := k
theorem g_name14 (k : R (x0 :: x1 :: x2 :: x3 :: x4 :: x5 :: x6 :: x7 :: x8 :: x9 :: x10 :: x11 :: x12 :: x13 :: some v :: s) H) : gName 14 v (x0 :: x1 :: x2 :: x3 :: x4 :: x5 :: x6 :: x7 :: x8 :: x9 :: x10 :: x11 :: x12 :: x13 :: x14 :: s) H R := k
theorem g_name15 (k : R (x0 :: x1 :: x2 :: x3 :: x4 :: x5 :: x6 :: x7 :: x8 :: x9 :: x10 :: x11 :: x12 :: x13 :: x14 :: some v :: s) H) : gName 15 v (x0 :: x1 :: x2 :: x3 :: x4 :: x5 :: x6 :: x7 :: x8 :: x9 :: x10 :: x11 :: x12 :: x13 :: x14 :: x15 :: s) H R := k
theorem g_name16 (k : R (x0 :: x1 :: x2 :: x3 :: x4 :: x5 :: x6 :: x7 :: x8 :: x9 :: x10 :: x11 :: x12 :: x13 :: x14 :: x15 :: some v :: s) H) : gName 16 v (x0 :: x1 :: x2 :: x3 :: x4 :: x5 :: x6 :: x7 :: x8 :: x9 :: x10 :: x11 :: x12 :: x13 :: x14 :: x15 :: x16 :: s) H R := k
theorem g_name17 (k : R (x0 :: x1 :: x2 :: x3 :: x4 :: x5 :: x6 :: x7 :: x8 :: x9 :: x10 :: x11 :: x12 :: x13 :: x14 :: x15 :: x16 :: some v :: s) H) : gName 17 v (x0 :: x1 :: x2 :: x3 :: x4 :: x5 :: x6 :: x7 :: x8 :: x9 :: x10 :: x11 :: x12 :: x13 :: x14 :: x15 :: x16 :: x17 :: s) H R := k
end
/-! what is walked -/
section
variable {te ta : TE} {tr : TA} {R : It → Hp → Prop}
def kFor (g : TG) (tb : TS) (D : Ends) (σ : L2.St) (J : It) (H1 : Hp) : Prop := ∃ W : Nat → Nat → L2.St → Hp → Prop, (∃ m, W 0 m σ H1) ∧ ∀ i m σ H, W i m σ H →
    (J.stop i H ∧ D.nx σ H) ∨ (J.go i H ∧ ∃ N : L2.St → Hp → Prop, (∀ σ1 H2, N σ1 H2 → ∃ m', m' < m ∧ W (i + 1) m' σ1 H2) ∧ ∀ x H2, J.yld i H x H2 → g x σ H2 fun σ2 H3 => tb { D with nx := N, ct := N, bk := D.nx } σ2 H3)
theorem g_for {wi : TI} {g : TG} {tb : TS} (k : wi σ H (kFor g tb D σ)) : tFor wi g tb D σ H := k
def kLw (J : It) (g : TG) (tt : TT) (te : TE) (vs : List Nat) (σ : L2.St) (Q : VK) (D : Addr) (H0 : Hp) : Prop := ∃ W : Nat → Nat → Hp → Prop, (∃ m, W 0 m H0) ∧ ∀ i m H, W i m H →
    (J.stop i H ∧ Q (.ref D) H) ∨ (J.go i H ∧ ∃ N : Hp → Prop, (∀ H1, N H1 → ∃ m', m' < m ∧ W (i + 1) m' H1) ∧ ∀ x H1, J.yld i H x H1 → g x (wipe σ vs) H1 fun σ2 H2 => wipe σ2 vs = wipe σ vs ∧ tt σ2 H2 fun b H3 =>
      if b = true then te σ2 H3 fun y H4 => ∃ acc, H4 D = some (.lst acc) ∧ acc.length < sizeLine ∧ N (upd H4 D (.lst (acc ++ [y]))) else N H3)
def kLc (g : TG) (tt : TT) (te : TE) (vs : List Nat) (σ : L2.St) (Q : VK) (J : It) (H1 : Hp) : Prop := ∀ D, H1 D = none → kLw J g tt te vs σ Q D (upd H1 D (.lst []))
theorem g_lc {wi : TI} {g : TG} {tt : TT} {vs : List Nat} (k : wi σ H (kLc g tt te vs σ Q)) : tLc wi g tt te vs σ H Q := k
theorem g_kLc {J : It} {g : TG} {tt : TT} {vs : List Nat} (S : Sts H L) (k : ∀ D H', Sts H' (pto D (.lst []) :: L) → kLw J g tt te vs σ Q D H') : kLc g tt te vs σ Q J H := fun D nd => k D _ (S.new _ nd)
def kIL (K : PySem.W.Frag) (R : It → Hp → Prop) : VK := fun x H => ∃ a, x = .ref a ∧ (∃ xs, SqL K H a xs) ∧ R (Itl K a) H
theorem g_iList (k : te σ H (kIL K R)) : iList K te σ H R := k
theorem g_kIL (h : SqL K H a xs) (k : R (Itl K a) H) : kIL K R (.ref a) H := ⟨a, rfl, ⟨xs, h⟩, k⟩
def kR1 (R : It → Hp → Prop) (vs : List V) (H : Hp) : Prop := ∃ j : Int, vs = [.int j] ∧ -(2 ^ 62) ≤ j ∧ j < 2 ^ 62 ∧ R (Itr 0 j.toNat) H
theorem g_iRng1 (k : tr σ H (kR1 R)) : iRng1 tr σ H R := k
theorem g_kR1 (h : -4000000000000000000 ≤ j ∧ j ≤ 4000000000000000000) (k : R (Itr 0 j.toNat) H) : kR1 R [.int j] H := ⟨j, rfl, by omega, by omega, k⟩
def kR2 (R : It → Hp → Prop) (vs : List V) (H : Hp) : Prop := ∃ i j : Int, vs = [.int i, .int j] ∧ (-(2 ^ 62) ≤ i ∧ i < 2 ^ 62 ∧ -(2 ^ 62) ≤ j ∧ j < 2 ^ 62) ∧ R (Itr i (j - i).toNat) H
theorem g_iRng2 (k : tr σ H (kR2 R)) : iRng2 tr σ H R := k
theorem g_kR2 (h : (-4000000000000000000 ≤ i ∧ i ≤ 4000000000000000000) ∧ -4000000000000000000 ≤ j ∧ j ≤ 4000000000000000000) (k : R (Itr i (j - i).toNat) H) : kR2 R [.int i, .int j] H := ⟨i, j, rfl, ⟨by omega, by omega, by omega, by omega⟩, k⟩
def kEn (K : PySem.W.Frag) (R : It → Hp → Prop) (vs : List V) (H : Hp) : Prop := ∃ a xs, vs = [.ref a] ∧ SqL K H a xs ∧ R (Ite K a) H
theorem g_iEnum (k : tr σ H (kEn K R)) : iEnum K tr σ H R := k
theorem g_kEn (h : SqL K H a xs) (k : R (Ite K a) H) : kEn K R [.ref a] H := ⟨a, xs, rfl, h, k⟩
def kZp (K : PySem.W.Frag) (R : It → Hp → Prop) (vs : List V) (H : Hp) : Prop := ∃ a b xs ys, vs = [.ref a, .ref b] ∧ SqL K H a xs ∧ SqL K H b ys ∧ R (Itz K a b) H
theorem g_iZip (k : tr σ H (kZp K R)) : iZip K tr σ H R := k
theorem g_kZp (h : SqL K H a xs) (h2 : SqL K H b ys) (k : R (Itz K a b) H) : kZp K R [.ref a, .ref b] H := ⟨a, b, xs, ys, rfl, h, h2, k⟩
def kRv (R : It → Hp → Prop) (i j : Int) (H : Hp) : Prop := -(2 ^ 62) ≤ i ∧ i < 2 ^ 62 ∧ -(2 ^ 62) ≤ j ∧ j < 2 ^ 62 ∧ R (Itc (i + (((j - i).toNat : Nat) : Int) - 1) (-1) (j - i).toNat) H
theorem g_iRevR {tg : L2.St → Hp → (Int → Int → Hp → Prop) → Prop} (k : tg σ H (kRv R)) : iRevR tg σ H R := k
theorem g_kRv (h : (-4000000000000000000 ≤ i ∧ i ≤ 4000000000000000000) ∧ -4000000000000000000 ≤ j ∧ j ≤ 4000000000000000000) (k : R (Itc (i + (((j - i).toNat : Nat) : Int) - 1) (-1) (j - i).toNat) H) : kRv R i j H := ⟨by omega, by omega, by omega, by omega, k⟩
def kRg1 (R : Int → Int → Hp → Prop) : VK := fun x H => ∃ n, x = .int n ∧ R 0 n H
theorem g_rg1 {R : Int → Int → Hp → Prop} (k : te σ H (kRg1 R)) : tRg1 te σ H R := k
theorem g_kRg1 {R : Int → Int → Hp → Prop} (k : R 0 j H) : kRg1 R (.int j) H := ⟨j, rfl, k⟩
def kRg2 (R : Int → Int → Hp → Prop) (x : V) : VK := fun y H => ∃ i j, x = .int i ∧ y = .int j ∧ R i j H
theorem g_rg2 {R : Int → Int → Hp → Prop} (k : te σ H fun x H1 => ta σ H1 (kRg2 R x)) : tRg2 te ta σ H R := k
theorem g_kRg2 {R : Int → Int → Hp → Prop} (k : R i j H) : kRg2 R (.int i) (.int j) H := ⟨i, j, rfl, rfl, k⟩
def kLR (Q : VK) (i j : Int) (H : Hp) : Prop := RgOk i j ∧ qNew H (.lst (rgV i j)) Q
theorem g_lstRg {tg : L2.St → Hp → (Int → Int → Hp → Prop) → Prop} (k : tg σ H (kLR Q)) : tLstRg tg σ H Q := k
/-- the ints from i up to j -/
def rgI (i j : Int) : List Int := (List.range (j - i).toNat).map fun n => i + ((n : Nat) : Int)
theorem rgV_I (i j : Int) : rgV i j = (rgI i j).map V.int := by
  unfold rgV rgI
  rw [List.map_map]
  rfl
theorem rgI_len (i j : Int) : (rgI i j).length = (j - i).toNat := by
  unfold rgI
  rw [List.length_map, List.length_range]
theorem g_kLR (h : 0 ≤ i ∧ j ≤ 16777216 ∧ i ≤ 16777216 ∧ 0 ≤ j) (k : qNew H (.lst ((rgI i j).map V.int)) Q) : kLR Q i j H := ⟨RgOk.of_le h.1 h.2.1 h.2.2.1 h.2.2.2, by rw [rgV_I]; exact k⟩
def kRev (K : PySem.W.Frag) (Q : VK) : VK := fun x H => ∃ a xs, x = .ref a ∧ SqL K H a xs ∧ qNew H (.lst xs.reverse) Q
theorem g_revL (k : te σ H (kRev K Q)) : tRevL K te σ H Q := k
theorem g_kRevI (h : SqL K H a (ns.map V.int)) (k : qNew H (.lst (ns.reverse.map V.int)) Q) : kRev K Q (.ref a) H := ⟨a, _, rfl, h, by rw [← List.map_reverse]; exact k⟩
theorem g_kRev (h : SqL K H a xs) (k : qNew H (.lst xs.reverse) Q) : kRev K Q (.ref a) H := ⟨a, xs, rfl, h, k⟩
end
/-! values -/
theorem g_I0 {g : Int → Int → V} (k : Q (g i j) H) : rI0 g (.int i) (.int j) H Q := ⟨i, j, rfl, rfl, k⟩
theorem g_I {C : Int → Int → Prop} {g : Int → Int → V} (h : C i j) (k : Q (g i j) H) : rI C g (.int i) (.int j) H Q := ⟨i, j, rfl, rfl, h, k⟩
theorem g_U {g : Int → V} (k : Q (g i) H) : rU g (.int i) H Q := ⟨i, rfl, k⟩
theorem g_eqI (k : Q (.bl (decide (i = j))) H) : rEq (.int i) (.int j) H Q := ⟨rfl, by rw [dci]; exact k⟩
theorem g_neI (k : Q (.bl (!decide (i = j))) H) : rNe (.int i) (.int j) H Q := ⟨rfl, by rw [dci]; exact k⟩
theorem dcb (a b : Bool) : decide (V.bl a = V.bl b) = decide (a = b) := by
  cases a <;> cases b <;> rfl
theorem g_eqB {c d : Bool} (k : Q (.bl (decide (c = d))) H) : rEq (.bl c) (.bl d) H Q := ⟨rfl, by rw [dcb]; exact k⟩
theorem g_neB {c d : Bool} (k : Q (.bl (!decide (c = d))) H) : rNe (.bl c) (.bl d) H Q := ⟨rfl, by rw [dcb]; exact k⟩
theorem g_eq (h : scal x y = true) (k : Q (.bl (decide (x = y))) H) : rEq x y H Q := ⟨h, k⟩
theorem g_ne (h : scal x y = true) (k : Q (.bl (!decide (x = y))) H) : rNe x y H Q := ⟨h, k⟩
theorem scal_ov : ∀ o u : Option Int, scal (ov o) (ov u) = true
  | none, none => rfl
  | none, some _ => rfl
  | some _, none => rfl
  | some _, some _ => rfl
theorem dco (o u : Option Int) : decide (ov o = ov u) = decide (o = u) := by
  cases o with
  | none => cases u <;> rfl
  | some a =>
    cases u with
    | none => rfl
    | some b => exact (dci a b).trans (by by_cases h : a = b <;> simp [h])
theorem g_eqO {o u : Option Int} (k : Q (.bl (decide (o = u))) H) : rEq (ov o) (ov u) H Q := ⟨scal_ov o u, by rw [dco]; exact k⟩
theorem g_neO {o u : Option Int} (k : Q (.bl (!decide (o = u))) H) : rNe (ov o) (ov u) H Q := ⟨scal_ov o u, by rw [dco]; exact k⟩
def qIsN : R2 := fun x y H Q => y = .non ∧ Q (.bl (decide (x = .non))) H
def qNotN : R2 := fun x y H Q => y = .non ∧ Q (.bl (!decide (x = .non))) H
theorem g_isNI (k : Q (.bl false) H) : qIsN (.int i) .non H Q := ⟨rfl, k⟩
theorem g_isNR (k : Q (.bl false) H) : qIsN (.ref a) .non H Q := ⟨rfl, k⟩
theorem g_isNN (k : Q (.bl true) H) : qIsN .non .non H Q := ⟨rfl, k⟩
theorem g_isNO {o : Option Int} (k : Q (.bl o.isNone) H) : qIsN (ov o) .non H Q := ⟨rfl, by rw [ov_none]; exact k⟩
theorem g_isN (k : Q (.bl (decide (x = .non))) H) : qIsN x .non H Q := ⟨rfl, k⟩
theorem g_notNI (k : Q (.bl true) H) : qNotN (.int i) .non H Q := ⟨rfl, k⟩
theorem g_notNR (k : Q (.bl true) H) : qNotN (.ref a) .non H Q := ⟨rfl, k⟩
theorem g_notNN (k : Q (.bl false) H) : qNotN .non .non H Q := ⟨rfl, k⟩
theorem g_notNO {o : Option Int} (k : Q (.bl o.isSome) H) : qNotN (ov o) .non H Q := ⟨rfl, by rw [ov_none, Option.not_isNone]; exact k⟩
theorem g_notN (k : Q (.bl (!decide (x = .non))) H) : qNotN x .non H Q := ⟨rfl, k⟩
def qPowc (i j r : Int) : R2 := fun x y H Q => x = .int i ∧ y = .int j ∧ Q (.int r) H
theorem g_powc {r : Int} (k : Q (.int r) H) : qPowc i j r (.int i) (.int j) H Q := ⟨rfl, rfl, k⟩
def qAnd1 : R2 := fun x y H Q => ∃ i, x = .int i ∧ y = .int 1 ∧ Q (.int (i % 2)) H
theorem g_and1 (k : Q (.int (i % 2)) H) : qAnd1 (.int i) (.int 1) H Q := ⟨i, rfl, rfl, k⟩
def qEqIs (K : PySem.W.Frag) : R2 := fun x y H Q => ∃ a b, ∃ ns ms : List Int, x = .ref a ∧ y = .ref b ∧ SqL K H a (ns.map V.int) ∧ SqL K H b (ms.map V.int) ∧ Q (.bl (decide (ns = ms))) H
def qNeIs (K : PySem.W.Frag) : R2 := fun x y H Q => ∃ a b, ∃ ns ms : List Int, x = .ref a ∧ y = .ref b ∧ SqL K H a (ns.map V.int) ∧ SqL K H b (ms.map V.int) ∧ Q (.bl (!decide (ns = ms))) H
theorem g_eqIs (h : SqL K H a (ns.map V.int)) (h2 : SqL K H b (ms.map V.int)) (k : Q (.bl (decide (ns = ms))) H) : qEqIs K (.ref a) (.ref b) H Q := ⟨a, b, ns, ms, rfl, rfl, h, h2, k⟩
theorem g_neIs (h : SqL K H a (ns.map V.int)) (h2 : SqL K H b (ms.map V.int)) (k : Q (.bl (!decide (ns = ms))) H) : qNeIs K (.ref a) (.ref b) H Q := ⟨a, b, ns, ms, rfl, rfl, h, h2, k⟩
def qInIs (K : PySem.W.Frag) : R2 := fun x y H Q => ∃ i p, ∃ ns : List Int, x = .int i ∧ y = .ref p ∧ SqL K H p (ns.map V.int) ∧ Q (.bl (decide (i ∈ ns))) H
theorem g_inIs (h : SqL K H a (ns.map V.int)) (k : Q (.bl (decide (i ∈ ns))) H) : qInIs K (.int i) (.ref a) H Q := ⟨i, a, ns, rfl, rfl, h, k⟩
def qCatI : R2 := fun x y H Q => ∃ l b, ∃ (ns ms : List Int), x = .ref l ∧ y = .ref b ∧ H l = some (.lst (ns.map V.int)) ∧ H b = some (.lst (ms.map V.int)) ∧ ns.length + ms.length ≤ 1000000 ∧ qNew H (.lst ((ns ++ ms).map V.int)) Q
theorem g_catI (h : H a = some (.lst (ns.map V.int))) (h2 : H b = some (.lst (ms.map V.int))) (l : ns.length + ms.length ≤ 1000000) (k : qNew H (.lst ((ns ++ ms).map V.int)) Q) : qCatI (.ref a) (.ref b) H Q := ⟨a, b, ns, ms, rfl, rfl, h, h2, l, k⟩
def qRepI : R2 := fun x y H Q => ∃ l k, ∃ ns : List Int, x = .ref l ∧ y = .int k ∧ H l = some (.lst (ns.map V.int)) ∧ (k < 1000000 ∧ -1000000 < k ∧ ns.length * k.toNat ≤ 1000000) ∧ qNew H (.lst ((List.replicate k.toNat ns).flatten.map V.int)) Q
theorem g_repI (h : H a = some (.lst (ns.map V.int))) (l : i < 1000000 ∧ -1000000 < i ∧ ns.length * i.toNat ≤ 1000000) (k : qNew H (.lst ((List.replicate i.toNat ns).flatten.map V.int)) Q) : qRepI (.ref a) (.int i) H Q := ⟨a, i, ns, rfl, rfl, h, l, k⟩
def qAddS : R2 := fun x y H Q => ∃ i j, x = .str i ∧ y = .str j ∧ i.length + j.length ≤ sizeLine ∧ Q (.str (i ++ j)) H
theorem g_addS {z w : Str} (l : z.length + w.length ≤ sizeLine) (k : Q (.str (z ++ w)) H) : qAddS (.str z) (.str w) H Q := ⟨z, w, rfl, rfl, l, k⟩
/-! calls of built-ins -/
def qIntI : List V → Hp → VK → Prop := fun xs H Q => ∃ i, xs = [.int i] ∧ Q (.int i) H
theorem g_intI (k : Q (.int i) H) : qIntI [.int i] H Q := ⟨i, rfl, k⟩
def qIntB : List V → Hp → VK → Prop := fun xs H Q => ∃ k, xs = [.bl k] ∧ Q (.int (if k then 1 else 0)) H
theorem g_intB {c : Bool} (k : Q (.int (if c then 1 else 0)) H) : qIntB [.bl c] H Q := ⟨c, rfl, k⟩
def qIntBA : List V → Hp → VK → Prop := fun xs H Q => ∃ k, xs = [.bl k] ∧ ∀ o : Int, 0 ≤ o → o ≤ 1 → (o = 1 ↔ k = true) → Q (.int o) H
theorem g_intBA {c : Bool} (k : ∀ o : Int, 0 ≤ o → o ≤ 1 → (o = 1 ↔ c = true) → Q (.int o) H) : qIntBA [.bl c] H Q := ⟨c, rfl, k⟩
def qMin2 : List V → Hp → VK → Prop := fun xs H Q => ∃ i j, xs = [.int i, .int j] ∧ Q (.int (min i j)) H
def qMax2 : List V → Hp → VK → Prop := fun xs H Q => ∃ i j, xs = [.int i, .int j] ∧ Q (.int (max i j)) H
theorem g_min2 (k : Q (.int (min i j)) H) : qMin2 [.int i, .int j] H Q := ⟨i, j, rfl, k⟩
theorem g_max2 (k : Q (.int (max i j)) H) : qMax2 [.int i, .int j] H Q := ⟨i, j, rfl, k⟩
def qAbs : List V → Hp → VK → Prop := fun xs H Q => ∃ i : Int, xs = [.int i] ∧ Q (.int (i.natAbs : Nat)) H
theorem g_abs (k : Q (.int (i.natAbs : Nat)) H) : qAbs [.int i] H Q := ⟨i, rfl, k⟩
def qLen (K : PySem.W.Frag) : List V → Hp → VK → Prop := fun xs H Q => ∃ p ys, xs = [.ref p] ∧ SqL K H p ys ∧ Q (.int ys.length) H
theorem g_len (h : SqL K H a xs) (k : Q (.int xs.length) H) : qLen K [.ref a] H Q := ⟨a, xs, rfl, h, k⟩
def qLenI (K : PySem.W.Frag) : List V → Hp → VK → Prop := fun xs H Q => ∃ p, ∃ ns : List Int, xs = [.ref p] ∧ SqL K H p (ns.map V.int) ∧ Q (.int ns.length) H
theorem g_lenI (h : SqL K H a (ns.map V.int)) (k : Q (.int ns.length) H) : qLenI K [.ref a] H Q := ⟨a, ns, rfl, h, k⟩
def qLenT (K : PySem.W.Frag) : List V → Hp → VK → Prop := fun xs H Q => ∃ p ys, xs = [.ref p] ∧ SqT K H p ys ∧ Q (.int ys.length) H
theorem g_lenT (h : SqT K H a xs) (k : Q (.int xs.length) H) : qLenT K [.ref a] H Q := ⟨a, xs, rfl, h, k⟩
def qList (K : PySem.W.Frag) : List V → Hp → VK → Prop := fun xs H Q => ∃ p ys, xs = [.ref p] ∧ SqL K H p ys ∧ qNew H (.lst ys) Q
theorem g_list (h : SqL K H a xs) (k : qNew H (.lst xs) Q) : qList K [.ref a] H Q := ⟨a, xs, rfl, h, k⟩
def qListT (K : PySem.W.Frag) : List V → Hp → VK → Prop := fun xs H Q => ∃ p ys, xs = [.ref p] ∧ SqT K H p ys ∧ qNew H (.lst ys) Q
theorem g_listT (h : SqT K H a xs) (k : qNew H (.lst xs) Q) : qListT K [.ref a] H Q := ⟨a, xs, rfl, h, k⟩
def qTuple (K : PySem.W.Frag) : List V → Hp → VK → Prop := fun xs H Q => ∃ p ys, xs = [.ref p] ∧ SqL K H p ys ∧ qNew H (.tup ys) Q
theorem g_tuple (h : SqL K H a xs) (k : qNew H (.tup xs) Q) : qTuple K [.ref a] H Q := ⟨a, xs, rfl, h, k⟩
theorem g_sum (h : SqL K H a (ns.map V.int)) (k : Q (.int ns.sum) H) : rSum K [.ref a] H Q := ⟨a, ns, rfl, h, k⟩
theorem g_any {bs : List Bool} (h : SqL K H a (bs.map V.bl)) (k : Q (.bl (bs.any id)) H) : rAny K [.ref a] H Q := ⟨a, bs, rfl, h, k⟩
theorem g_all {bs : List Bool} (h : SqL K H a (bs.map V.bl)) (k : Q (.bl (bs.all id)) H) : rAll K [.ref a] H Q := ⟨a, bs, rfl, h, k⟩
theorem g_max (h : SqL K H a (ns.map V.int)) (l : 0 < ns.length) (k : ∀ m, m ∈ ns → (∀ y, y ∈ ns → y ≤ m) → Q (.int m) H) : rMax K [.ref a] H Q := ⟨a, ns, rfl, h, l, k⟩
theorem g_min (h : SqL K H a (ns.map V.int)) (l : 0 < ns.length) (k : ∀ m, m ∈ ns → (∀ y, y ∈ ns → m ≤ y) → Q (.int m) H) : rMin K [.ref a] H Q := ⟨a, ns, rfl, h, l, k⟩
def qAnyI (K : PySem.W.Frag) : List V → Hp → VK → Prop := fun xs H Q => ∃ a, ∃ ns : List Int, xs = [.ref a] ∧ SqL K H a (ns.map V.int) ∧ Q (.bl (ns.any fun n => decide (n ≠ 0))) H
theorem g_anyI (h : SqL K H a (ns.map V.int)) (k : Q (.bl (ns.any fun n => decide (n ≠ 0))) H) : qAnyI K [.ref a] H Q := ⟨a, ns, rfl, h, k⟩
def qIsII : List V → Hp → VK → Prop := fun xs H Q => ∃ i, xs = [.int i, .ty "int"] ∧ Q (.bl true) H
def qIsIB : List V → Hp → VK → Prop := fun xs H Q => ∃ i, xs = [.int i, .ty "bool"] ∧ Q (.bl false) H
def qIsBB : List V → Hp → VK → Prop := fun xs H Q => ∃ i, xs = [.bl i, .ty "bool"] ∧ Q (.bl true) H
def qIsLL : List V → Hp → VK → Prop := fun xs H Q => ∃ a ys, xs = [.ref a, .ty "list"] ∧ H a = some (.lst ys) ∧ Q (.bl true) H
theorem g_isII (k : Q (.bl true) H) : qIsII [.int i, .ty "int"] H Q := ⟨i, rfl, k⟩
theorem g_isIB (k : Q (.bl false) H) : qIsIB [.int i, .ty "bool"] H Q := ⟨i, rfl, k⟩
theorem g_isBB {c : Bool} (k : Q (.bl true) H) : qIsBB [.bl c, .ty "bool"] H Q := ⟨c, rfl, k⟩
theorem g_isLL (h : H a = some (.lst xs)) (k : Q (.bl true) H) : qIsLL [.ref a, .ty "list"] H Q := ⟨a, xs, rfl, h, k⟩
/-! subscripts, slices, stores -/
def qIxI (K : PySem.W.Frag) : R2 := fun x y H Q => ∃ p, ∃ (ns : List Int) (i : Int), x = .ref p ∧ y = .int i ∧ SqL K H p (ns.map V.int) ∧ (0 ≤ i ∧ i < ns.length) ∧ Q (.int (gI ns i)) H
theorem g_ixI (h : SqL K H a (ns.map V.int)) (b : 0 ≤ i ∧ i < ns.length) (k : Q (.int (gI ns i)) H) : qIxI K (.ref a) (.int i) H Q := ⟨a, ns, i, rfl, rfl, h, b, k⟩
def qIx (K : PySem.W.Frag) : R2 := fun x y H Q => ∃ p xs i v, x = .ref p ∧ y = .int i ∧ SqL K H p xs ∧ atI xs i = some v ∧ Q v H
theorem g_ix (h : SqL K H a xs) (e : atI xs i = some v) (k : Q v H) : qIx K (.ref a) (.int i) H Q := ⟨a, xs, i, v, rfl, rfl, h, e, k⟩
def qIxT (K : PySem.W.Frag) : R2 := fun x y H Q => ∃ p xs i v, x = .ref p ∧ y = .int i ∧ SqT K H p xs ∧ atI xs i = some v ∧ Q v H
theorem g_ixT (h : SqT K H a xs) (e : atI xs i = some v) (k : Q v H) : qIxT K (.ref a) (.int i) H Q := ⟨a, xs, i, v, rfl, rfl, h, e, k⟩
def qIxLast (K : PySem.W.Frag) : R2 := fun x y H Q => ∃ p, ∃ ns : List Int, x = .ref p ∧ y = .int (-1) ∧ SqL K H p (ns.map V.int) ∧ ∃ i, ns.getLast? = some i ∧ Q (.int i) H
theorem g_ixLast (h : SqL K H a (ns.map V.int)) (e : ns.getLast? = some i) (k : Q (.int i) H) : qIxLast K (.ref a) (.int (-1)) H Q := ⟨a, ns, rfl, rfl, h, i, e, k⟩
def qSlI (K : PySem.W.Frag) : V → Option Int → Option Int → Hp → VK → Prop := fun x lo hi H Q => ∃ a, ∃ ns : List Int, x = .ref a ∧ SqL K H a (ns.map V.int) ∧ qNew H (.lst ((cutL ns lo hi).map V.int)) Q
theorem g_slI {lo hi : Option Int} (h : SqL K H a (ns.map V.int)) (k : qNew H (.lst ((cutL ns lo hi).map V.int)) Q) : qSlI K (.ref a) lo hi H Q := ⟨a, ns, rfl, h, k⟩
def qSl (K : PySem.W.Frag) : V → Option Int → Option Int → Hp → VK → Prop := fun x lo hi H Q => ∃ a xs, x = .ref a ∧ SqL K H a xs ∧ qNew H (.lst (cutV xs lo hi)) Q
theorem g_slA {lo hi : Option Int} (h : SqL K H a xs) (k : qNew H (.lst (cutV xs lo hi)) Q) : qSl K (.ref a) lo hi H Q := ⟨a, xs, rfl, h, k⟩
def qApp : V → List V → Hp → VK → Prop := fun x vs H Q => ∃ l y, x = .ref l ∧ vs = [y] ∧ ∃ xs L, Sts H (pto l (.lst xs) :: L) ∧ xs.length < sizeLine ∧ ∀ H', Sts H' (pto l (.lst (xs ++ [y])) :: L) → Q .non H'
theorem g_app (S : Sts H (pto a (.lst xs) :: L)) (l : xs.length < sizeLine) (k : ∀ H', Sts H' (pto a (.lst (xs ++ [y])) :: L) → Q .non H') : qApp (.ref a) [y] H Q := ⟨a, y, rfl, rfl, xs, L, S, l, k⟩
def qAppI : V → List V → Hp → VK → Prop := fun x vs H Q => ∃ l j, x = .ref l ∧ vs = [.int j] ∧ ∃ (ns : List Int) (L : List Asr), Sts H (pto l (.lst (ns.map V.int)) :: L) ∧ ns.length ≤ 1000000 ∧ ∀ H', Sts H' (pto l (.lst ((ns ++ [j]).map V.int)) :: L) → Q .non H'
theorem g_appI (S : Sts H (pto a (.lst (ns.map V.int)) :: L)) (l : ns.length ≤ 1000000) (k : ∀ H', Sts H' (pto a (.lst ((ns ++ [j]).map V.int)) :: L) → Q .non H') : qAppI (.ref a) [.int j] H Q := ⟨a, j, rfl, rfl, ns, L, S, l, k⟩
def qExt : V → List V → Hp → VK → Prop := fun x vs H Q => ∃ l b, x = .ref l ∧ vs = [.ref b] ∧ ∃ xs zs L, Sts H (pto l (.lst xs) :: L) ∧ H b = some (.lst zs) ∧ xs.length + zs.length ≤ sizeLine ∧ ∀ H', Sts H' (pto l (.lst (xs ++ zs)) :: L) → Q .non H'
theorem g_ext (S : Sts H (pto a (.lst xs) :: L)) (h : H b = some (.lst ys)) (l : xs.length + ys.length ≤ sizeLine) (k : ∀ H', Sts H' (pto a (.lst (xs ++ ys)) :: L) → Q .non H') : qExt (.ref a) [.ref b] H Q := ⟨a, b, rfl, rfl, xs, ys, L, S, h, l, k⟩
def qSetL : TSet := fun o i v H Q => ∃ p k, o = .ref p ∧ i = .int k ∧ ∃ xs L, Sts H (pto p (.lst xs) :: L) ∧ (0 ≤ k ∧ k < xs.length) ∧ ∀ H', Sts H' (pto p (.lst (xs.set k.toNat v)) :: L) → Q H'
theorem g_setL {R : Hp → Prop} (S : Sts H (pto a (.lst xs) :: L)) (b : 0 ≤ i ∧ i < xs.length) (k : ∀ H', Sts H' (pto a (.lst (xs.set i.toNat v)) :: L) → R H') : qSetL (.ref a) (.int i) v H R := ⟨a, i, rfl, rfl, xs, L, S, b, k⟩
def qSetI : TSet := fun o i v H Q => ∃ p k j, o = .ref p ∧ i = .int k ∧ v = .int j ∧ ∃ (ns : List Int) (L : List Asr), Sts H (pto p (.lst (ns.map V.int)) :: L) ∧ (0 ≤ k ∧ k < ns.length) ∧ ∀ H', Sts H' (pto p (.lst ((ns.set k.toNat j).map V.int)) :: L) → Q H'
theorem g_setI {R : Hp → Prop} (S : Sts H (pto a (.lst (ns.map V.int)) :: L)) (b : 0 ≤ i ∧ i < ns.length) (k : ∀ H', Sts H' (pto a (.lst ((ns.set i.toNat j).map V.int)) :: L) → R H') : qSetI (.ref a) (.int i) (.int j) H R := ⟨a, i, j, rfl, rfl, rfl, ns, L, S, b, k⟩
theorem isE_pos {α : Type} {l : List α} (h : (!l.isEmpty) = true) : 0 < l.length := by
  cases l with
  | nil => cases h
  | cons a b => simp
theorem isE_nil {α : Type} {l : List α} (h : (!l.isEmpty) = false) : l = [] := by
  cases l with
  | nil => rfl
  | cons a b => cases h
theorem g_yes {R : Bool → Hp → Prop} (k : R true H) : tYes σ H R := k
theorem g_wipe {σ2 : L2.St} {ws : List Nat} {P : Prop} (h : wipe σ2 ws = wipe σ ws) (k : P) : wipe σ2 ws = wipe σ ws ∧ P := ⟨h, k⟩
/-! truth -/
def kTru (K : PySem.W.Frag) (Q : Bool → Hp → Prop) : VK := fun x H => ∃ k, TruV K x H k ∧ Q k H
def tTruO (K : PySem.W.Frag) (ta : TE) : TT := fun σ H Q => ta σ H (kTru K Q)
section
variable {RB : Bool → Hp → Prop} {ta : TE}
theorem g_truO (k : ta σ H (kTru K RB)) : tTruO K ta σ H RB := k
theorem g_truN (k : RB false H) : kTru K RB .non H := ⟨_, rfl, k⟩
theorem g_truB {c : Bool} (k : RB c H) : kTru K RB (.bl c) H := ⟨_, rfl, k⟩
theorem g_truI (k : RB (!decide (i = 0)) H) : kTru K RB (.int i) H := ⟨_, rfl, by
  have e : (i != 0) = !decide (i = 0) := by by_cases h : i = 0 <;> simp [h]
  rw [e]
  exact k⟩
theorem isE_map {α β : Type} (f : α → β) (l : List α) : (l.map f).isEmpty = l.isEmpty := by cases l <;> rfl
theorem g_truIs (h : SqL K H a (ns.map V.int)) (k : RB (!ns.isEmpty) H) : kTru K RB (.ref a) H := ⟨_, .inl ⟨_, h, rfl⟩, by rw [isE_map]; exact k⟩
theorem g_truL (h : SqL K H a xs) (k : RB (!xs.isEmpty) H) : kTru K RB (.ref a) H := ⟨_, .inl ⟨_, h, rfl⟩, k⟩
end
end
/-! ### the rules in these readings -/
section
variable {X : Cx} {K : PySem.W.Frag}
theorem v_isN : OpR X (compareOp .Is) qIsN := op_isN
theorem v_notN : OpR X (compareOp .IsNot) qNotN := op_notN
theorem v_powc (i j r : Int) (h : CPow i j) (e : i ^ j.toNat = r) : OpR X (binaryOp .Pow) (qPowc i j r) := oc_powc i j r h e
theorem v_and1 : OpR X (binaryOp .BitAnd) qAnd1 := oc_and1
theorem v_eqIs (hK : X.K = K) (hu : X.A.units + 64 < cLine) : OpR X (compareOp .Eq) (qEqIs K) := oc_eq_ints hK hu
theorem v_neIs (hK : X.K = K) (hu : X.A.units + 64 < cLine) : OpR X (compareOp .NotEq) (qNeIs K) := oc_ne_ints hK hu
theorem v_inIs (hK : X.K = K) : OpR X (compareOp .In) (qInIs K) := oc_in_ints hK
theorem v_catI : OpR X (binaryOp .Add) qCatI := oc_catI
theorem v_repI : OpR X (binaryOp .Mult) qRepI := oc_repI
theorem v_addS : OpR X (binaryOp .Add) qAddS := op_add_str
theorem v_intI : CallR X (.type "int") qIntI := oc_int_i
theorem v_intB : CallR X (.type "int") qIntB := oc_int_b
theorem v_intBA : CallR X (.type "int") qIntBA := oc_int_bA
theorem v_min2 (hc : X.calm = true) : CallR X (.builtin "min") qMin2 := oc_min2 hc
theorem v_max2 (hc : X.calm = true) : CallR X (.builtin "max") qMax2 := oc_max2 hc
theorem v_abs : CallR X (.builtin "abs") qAbs := oc_abs
theorem v_len (hK : X.K = K) : CallR X (.builtin "len") (qLen K) := oc_len hK
theorem v_lenI (hK : X.K = K) : CallR X (.builtin "len") (qLenI K) := oc_lenI hK
theorem v_lenT (hK : X.K = K) : CallR X (.builtin "len") (qLenT K) := oc_lenT hK
theorem v_list (hK : X.K = K) : CallR X (.type "list") (qList K) := oc_list hK
theorem v_listT (hK : X.K = K) : CallR X (.type "list") (qListT K) := oc_listT hK
theorem v_tuple (hK : X.K = K) : CallR X (.type "tuple") (qTuple K) := oc_tuple hK
theorem v_anyI (hK : X.K = K) (hc : X.calm = true) : CallR X (.builtin "any") (qAnyI K) := oc_anyI hK hc
theorem v_max (hK : X.K = K) (hc : X.calm = true) : CallR X (.builtin "max") (rMax K) := hK ▸ cr_max hc
theorem v_min (hK : X.K = K) (hc : X.calm = true) : CallR X (.builtin "min") (rMin K) := hK ▸ cr_min hc
theorem v_isII : CallR X (.builtin "isinstance") qIsII := oc_isi_ii
theorem v_isIB : CallR X (.builtin "isinstance") qIsIB := oc_isi_ib
theorem v_isBB : CallR X (.builtin "isinstance") qIsBB := oc_isi_bb
theorem v_isLL : CallR X (.builtin "isinstance") qIsLL := oc_isi_ll
theorem v_ixI (hK : X.K = K) : IxR X (qIxI K) := oc_ixI hK
theorem v_ix (hK : X.K = K) : IxR X (qIx K) := oc_ix hK
theorem v_ixT (hK : X.K = K) : IxR X (qIxT K) := oc_ixT hK
theorem v_ixLast (hK : X.K = K) : IxR X (qIxLast K) := oc_ixLast hK
theorem v_slI (hK : X.K = K) : SlR X (qSlI K) := oc_slI hK
theorem v_sl (hK : X.K = K) : SlR X (qSl K) := oc_sl hK
theorem v_append : MtR X "list.append" qApp := oc_append
theorem v_appendI : MtR X "list.append" qAppI := oc_appendI
theorem v_extend : MtR X "list.extend" qExt := oc_extend
theorem v_setL : PSet X qSetL := oc_setL
theorem v_setI : PSet X qSetI := oc_setI
theorem v_truth {a : Expr} {ta : TE} (hK : X.K = K) (ha : PE X a ta) (he : ∀ whole, isTrue a X.env whole = (do let v ← whole; standAt a.pos; holding [v] (truthy v))) : PT X a (tTruO K ta) := hK ▸ pt_truth ha he
theorem v_call_eq {sp : Sp} {t : TA} : tCall sp [] E0 t = tCallX sp t := by
  funext σ H Q
  unfold tCall tCallX
  congr
  funext vs H1
  rw [List.append_nil]
theorem v_call {e : Expr} {es : List Expr} {p pos : Pos} {x : Str} {k : Nat} {f : Addr} {fd : FuncData} {ps : List Str} {sp : Sp} {t : TA} (F : FnOk X.prog X.w X.K X.mg X.base CX0 k f fd ps sp) (hr : Room k X.A) (hg : Gl X x) (hm : X.mg x = some (.ref f)) (kp : PySem.W.keepIn X.K (.ref f) = true) (hb : Binds X.K fd ps []) (ha : PA X (e :: es) t)
    (hdb : (x == ("__debug__" : Str)) = false := by decide) (he : starEach (e :: es) X.env = (false, eval e X.env) :: starEach es X.env := by rfl) (hpl : (backTo pos (starEach es X.env)).any (·.1) = false := by rfl) : PE X (.Call (.Name x p) (e :: es) [] pos) (tCallX sp t) := by
  rw [← v_call_eq]
  exact pe_call F hr hg hm kp hb .nil pass0 ha hdb he hpl
theorem v_call0 {p pos : Pos} {x : Str} {k : Nat} {f : Addr} {fd : FuncData} {ps : List Str} {sp : Sp} (F : FnOk X.prog X.w X.K X.mg X.base CX0 k f fd ps sp) (hr : Room k X.A) (hg : Gl X x) (hm : X.mg x = some (.ref f)) (kp : PySem.W.keepIn X.K (.ref f) = true) (hb : Binds X.K fd ps [])
    (hdb : (x == ("__debug__" : Str)) = false := by decide) : PE X (.Call (.Name x p) [] [] pos) (tCallX sp tNil) := by
  rw [← v_call_eq]
  exact pe_call0 F hr hg hm kp hb .nil pass0 hdb
end
end Oc
/-! ### own exceptions whose __init__ begins with super().__init__(..) -/
namespace Oc
open PySem PySem.Spec PyProof.Rows L2 NdefX PySem.W PySem.Calls
/-- what the written part says: C inherits the __init__ of D's class body, whose super() finds ValueError.__init__ -/
structure SupC (K : PySem.W.Frag) (D C : Addr) : Prop where
  oex : OexC K C
  sub : mroIn K C (.ref D) = some true
  fnd : ks_superIn K C D "__init__" = some (some (.builtin "ValueError.__init__"))
  isV : subIn K (.ref C) (.type "ValueError") = some true
  any : nsIn K cStatics "thirdparty.any" = some none
  bmB : ∃ nm q N bs bm sn sub ab col dd k0 k1 k2 k3 k5, K.lookup C = some (excClassObj nm q C N bs bm true sn sub ab col dd k0 k1 k2 k3 k5 "ValueError.__new__")
/-- .. of the def at f: its cell __class__ holds D, its code's file is the program's -/
structure SupF (P : Program) (K : PySem.W.Frag) (mg : Str → Option Value) (f : Addr) (F : NF) (D cc : Addr) : Prop where
  cl : F.cl = [(("__class__" : Str), cc)]
  cell : ∃ cl cld csl, K.lookup cc = some ⟨cl, cld, .cell (some (.ref D)), csl⟩
  isD : ∃ cdD, clsIn K D = some cdD
  file : ∃ ccl cdd vs ccs file tf, K.lookup F.c = some ⟨ccl, cdd, .fields vs, ccs⟩ ∧ vs[2]? = some (.str file tf) ∧ ((P.main.file : Str) == file) = true
  sup : mg "super" = none
  ks : F.scope.names.lookup ("super" : Str) = some .globalImplicit
  kc : F.scope.names.lookup ("__class__" : Str) = some .free
  htop : (P.main.scope.names.lookup ("super" : Str)).isSome = false
section
variable {X : Cx} {pins : List (Addr × Obj)} {σ : L2.St} {H : Hp} {s : Shared}
/-- ValueError.__init__, bound to an exception that is being made, called -/
theorem call_boundVE {a C u : Addr} {us : List Value} {Q : Value → Shared → Prop} {E : Value → Shared → Prop} (T : OexC X.K C) (I : Inv X pins σ H s) (e : H a = some (exo a C none)) (hu : s.heap.get? u = some (kxs_mw "ValueError.__init__" a)) (hl : us.length ≤ sizeLine)
    (q : ∀ s', Inv X pins σ H s' → Q .none s') : wpAny (model X.prog X.w) X.A (call (.ref u) us) Q E s := by
  obtain ⟨nm, qn, N, bs, bm, sn, sub, ab, col, dd, k0, k1, k2, k3, k5, hC, _⟩ := T.cls
  have hC := I.kIn _ _ hC
  obtain ⟨t1, ho⟩ := exo_at I.hok e
  obtain ⟨hp, g, d, tk, os⟩ := s
  refine wpAny_call (codeAny_of_tree (wpAny_bind (m := load u) (wpAny_load hu ?_)))
  show wpAny _ _ (checkBoundCall "ValueError.__init__" ⟨.ref a :: us, []⟩ >>= fun _ => again (.builtin "ValueError.__init__" ⟨.ref a :: us, []⟩)) _ _ _
  have F := PySem.F.excBase_ValueError
  refine wpAny_bind (check_bound_init F.toExcCallFacts hC ho rfl (wpAny_pure ⟨plainId_quiet F.init.plain _, codeAny_builtin F.initEntry (exc_init_tree (cls := .ref C) (t0 := t1) (dv := none) (c2 := .none) (c3 := .none) (b4 := .bool false) ho hl fun h' k e' _ => ?_)⟩))
  have J := I.write (t' := tk) (x := a) (e := a) (o := exo a C none) (by rw [e]; exact True.intro) (.inl rfl) k ⟨_, e'⟩ (exo_ok e')
  rw [show upd H a (exo a C none) = H from funext fun b => by
    by_cases z : b = a
    · rw [z, upd_same, e]
    · rw [upd_ne z]] at J
  exact q _ J
/-- what super().__init__(es) does once the super object stands at so: the __init__ found behind D is called; at the end R, whatever it gave -/
def SupRun (X : Cx) (σ : L2.St) (H : Hp) (D a C : Addr) (pos : Pos) (pl : Sem Bool) (es : List Expr) (R : Hp → Prop) : Prop :=
  ∀ (s : Shared) (so : Addr), Inv X [] σ H s → s.heap.get? so = some (ks_superObj D a C) →
    wpAny (model X.prog X.w) X.A (getMethod (.ref so) "__init__" pl) (fun p s1 => wpAny (model X.prog X.w) X.A (callWith pos p.1 p.2 (backTo pos (starEach es X.env)) []) (fun _ s2 => ∃ H2, Inv X [] σ H2 s2 ∧ R H2) X.xe s1) X.xe s
/-- a new object that only the call holds: it is pinned -/
theorem pinNew (o : Obj) (tk : Nat) (I : Inv X [] σ H s) (nc : ∀ v, o.data ≠ .cell v) (nf : o.isFreed = false) : Inv X [(s.heap.objs.size, o)] σ H { s with heap := s.heap.push o, toks := tk } := by
  have J : Inv X [] σ H { s with heap := s.heap.push o, toks := tk } := I.kept fun b u z => Heap.get?_push_of_some _ z
  refine J.pins_of fun p hp => ?_
  obtain rfl := List.mem_singleton.mp hp
  exact ⟨Heap.get?_push_size _ nf, I.hok.fresh (Nat.le_refl _), Nat.ne_of_gt I.lt, I.nofs (Nat.le_refl _), nc⟩
theorem unpin {ps : List (Addr × Obj)} (I : Inv X ps σ H s) : Inv X [] σ H s := I.pins_of fun _ hp => nomatch hp
section
variable {D a C : Addr} {pos : Pos} {pl : Sem Bool} {e : Expr} {es : List Expr} {te : TA} {R : Hp → Prop}
/-- .. of a class behind which ValueError.__init__ is found -/
theorem supRun_VE (S : SupC X.K D C) (ea : H a = some (exo a C none)) (pa : PA X (e :: es) te) (hse : starEach (e :: es) X.env = (false, eval e X.env) :: starEach es X.env) (hpl : (backTo pos (starEach es X.env)).any (·.1) = false)
    (h : te σ H fun us H1 => us.length ≤ 1000 ∧ H1 a = some (exo a C none) ∧ R H1) : SupRun X σ H D a C pos pl (e :: es) R := by
  intro s so I hso
  obtain ⟨t1, hx⟩ := exo_at I.hok ea
  obtain ⟨cd, hc, hf⟩ := Option.bind_eq_some_iff.mp S.fnd
  have inst : PySem.W.InstAt s.heap a _ C none := ⟨hx, rfl, rfl, trivial⟩
  obtain ⟨hp, g, d, tk, os⟩ := s
  refine kxs_getMethod kxs_ValueError hso (looks_opaque I.kIn S.any) (fun A Q E s k q => wpAny_bind (looks_clsIn I.kIn hc A _ E s k (wpAny_pure q))) rfl I.kIn hf (inst.type.andThen (looks_subIn I.kIn S.isV)) (ks_ne I.kIn inst hc) (by decide) ?_
  have run := pa.run pos _ _ _ H _ (pinNew (kxs_mw "ValueError.__init__" a) (tk + 1) I (fun v z => nomatch z) rfl) h
  show wpAny _ _ (callWith pos (.ref hp.objs.size) [] (backTo pos (starEach (e :: es) X.env)) []) _ _ _
  rw [hse] at run ⊢
  refine kxs_callWith (i := "ValueError.__init__") (x := a) hpl (evalArgs_plain (thn run fun ws s1 ⟨us, H1, J, rv, hl, e1, r⟩ => ?_))
  have hu := (J.pin _ (List.mem_append_right _ (List.mem_singleton_self _))).1
  exact ⟨hu, call_boundVE S.oex (unpin J) e1 hu (by show ws.length ≤ sizeLine; rw [← Paired.length rv, sizeLine_eq]; omega) fun s2 J2 => ⟨H1, J2, r⟩⟩
end
end
section
variable {CX : CXT} {P : Program} {w : World} {K : PySem.W.Frag} {mg : Str → Option Value} {base : Heap} {N ps : List Str} {F : NF} {f D cc : Addr} {k : Nat} {sp : Sp}
/-- the cells of such a def: __class__ alone, which holds D -/
theorem cellsSup {s : Shared} {H : Hp} {cl : Value} {cld : Option Addr} {csl : Array (Option Value)} (ecl : F.cl = [(("__class__" : Str), cc)]) (hcc : s.heap.get? cc = some ⟨cl, cld, .cell (some (.ref D)), csl⟩) (hn : H cc = none) : CellsAt F.cl [("__class__" : Str)] [some (.ref D)] s.heap H := by
  rw [ecl]
  have one : ∀ {y c}, List.lookup y [(("__class__" : Str), cc)] = some c → y = "__class__" ∧ c = cc := fun {y c} e => by
    simp only [List.lookup] at e
    split at e
    · rename_i z
      exact ⟨eq_of_beq z, (Option.some.inj e).symm⟩
    · cases e
  refine ⟨rfl, fun y c e => ?_, fun x y c e1 e2 => (one e1).1.trans (one e2).1.symm, fun i y e => ?_⟩
  · obtain ⟨_, rfl⟩ := one e
    exact ⟨hn, _, _, hcc, rfl⟩
  · cases i with
    | succ i => cases e
    | zero =>
      cases e
      refine ⟨cc, by simp [List.lookup], fun v ev => ⟨.ref D, ?_, _, hcc, rfl⟩⟩
      cases ev
      rfl
/-- a def that begins with super().__init__(..) -/
theorem fn_sup {oc dV kV doc pm ct : Value} {od an : Option Addr} {osl : Array (Option Value)} {ar : Arg} {e : Expr} {es : List Expr} {rest : List Stmt} {p0 p1 p2 pos pos0 : Pos}
    (lk : K.lookup f = some ⟨oc, od, .func (fnX F.name F.qual F.params F.body F.scope F.cl dV kV doc pm an (.ref F.c) ct), osl⟩) (hcd : codeIn K (.ref F.c) F.qual = true)
    (S : NScope N ps [("__class__" : Str)] F.scope) (T : SupF P K mg f F D cc) (hp : (F.params.posonlyargs ++ F.params.args).head? = some ar) (ha : ps[0]? = some ar.arg)
    (hb : F.body = .Expr (.Call (.Attribute (.Call (.Name "super" p0) [] [] p1) "__init__" p2) (e :: es) [] pos) pos0 :: rest)
    (pl : Addr → Sem Bool) (hev : ∀ L, eval (.Call (.Attribute (.Call (.Name "super" p0) [] [] p1) "__init__" p2) (e :: es) [] pos) (envF F f L) = (do
      let ov ← attributeBase (.Call (.Name "super" p0) [] [] p1) "__init__" (envF F f L) (eval (.Call (.Name "super" p0) [] [] p1) (envF F f L))
      standAt p2.atName
      let (g, first) ← holding [ov] (getMethod ov "__init__" (pl L))
      callWith pos g first (backTo pos (starEach (e :: es) (envF F f L))) []))
    (hsw : ∀ L, swapsWith (.Call (.Attribute (.Call (.Name "super" p0) [] [] p1) "__init__" p2) (e :: es) [] pos) none pos0.line (envF F f L) = pure false)
    (len : ∀ vs H Q E, sp vs H Q E → vs.length = ps.length)
    (hbody : ∀ (A : Around) (outer : List Env) (s : Shared) (H : Hp) (vs : List V) (Q : VK) (E : XK), Room k (A.deeper (envF F f s.heap.objs.size)) → sp vs H Q E →
      ∃ (a C : Addr) (vr : List V) (t : TS) (R : Hp → Prop), vs = .ref a :: vr ∧ mroIn K C (.ref D) = some true ∧ H a = some (exo a C none) ∧ PSs (ncx CX P w K mg base N F f A outer s H E) rest t ∧
        SupRun (ncx CX P w K mg base N F f A outer s H E) (startF N vs [some (.ref D)]) H D a C pos (pl s.heap.objs.size) (e :: es) R ∧ ∀ H1, R H1 → t { nx := fun _ H' => Q .non H', rt := Q } (startF N vs [some (.ref D)]) H1) :
    FnOk P w K mg base CX (k + 1) f (fnX F.name F.qual F.params F.body F.scope F.cl dV kV doc pm an (.ref F.c) ct) ps sp := by
  refine ⟨len, fun A outer s H args us vs Q E hr e0 hbd r hsp => ?_⟩
  obtain ⟨a, C, vr, t, R, rfl, hsub, ea, pss, sup, hq⟩ := hbody A outer s H vs Q E (hr.deeper _) hsp
  have up : K.In s.heap := e0.mod.kin.keeps fun b o e => (e0.bs b o e).1
  obtain ⟨cl, cld, csl, hcc⟩ := T.cell
  have cells := cellsSup T.cl (up _ _ hcc) (e0.bs _ _ (e0.mod.kin _ _ hcc)).2
  have us0 : us[0]? = some (.ref a) := by
    cases r with
    | cons r0 _ => exact congrArg some r0
  have nps : ps.Nodup := by
    have z := S.pre ▸ S.nd.sublist (List.take_sublist _ N)
    exact (List.nodup_append.mp z).1
  refine ks_codeAny_call_defAt (body := F.body) (binds := ps.zip us) hr.depth (up _ _ lk) rfl (e0.mod.nolimit.keeps fun b o e => (e0.bs b o e).1) (codeRec_of up hcd) rfl hbd S.nocell (fun y hy => S.par y.1 (List.of_mem_zip hy).1) (fun h1 hns kp => ?_) S.co S.gen S.kind
  have I : Inv (ncx CX P w K mg base N F f A outer s H E) [] (startF N (.ref a :: vr) [some (.ref D)]) H { s with heap := h1, toks := s.toks + (ps.zip us).length } := inv_startN S hr.hd e0 (len _ _ _ _ hsp) r cells hns kp
  have K1 : K.In h1 := I.kIn
  obtain ⟨ccl, cdd, cvs, ccs, file, tf, hco, hv, hfile⟩ := T.file
  obtain ⟨cdD, hD⟩ := T.isD
  obtain ⟨oD, gD, dD⟩ : ∃ o, h1.get? D = some o ∧ o.data = .cls cdD := by
    unfold clsIn at hD
    split at hD
    · rename_i z
      cases hD
      exact ⟨_, K1 _ _ z, rfl⟩
    · cases hD
  obtain ⟨_, b1, b2⟩ := e0.mod.blt
  obtain ⟨t1, hx⟩ := exo_at I.hok ea
  show _root_.PySem.wpAt (model P w) (A.deeper (envF F f s.heap.objs.size)) (.func F.body (envF F f s.heap.objs.size)) (execs F.body (envF F f s.heap.objs.size)) _ _ _
  rw [hb]
  refine ks_wpAt_execs_cons (ks_wpAt_Expr_any (ks_wpAt_MethodCall (pl := pl _) (ks_wpAt_super_base (f := f) (cc := F.c) (ar := ar) (file := file) (tf := tf) T.ks T.kc (by decide) rfl (kp _ _ (up _ _ lk)) rfl hp rfl (K1 _ _ hco) rfl hv hfile T.htop
    (ks_loadName_global S.kind T.ks (loadGlobal_builtin (I.mod.glob.keeps I.bk) T.sup (b1.keeps I.bk) ((b2 _ (by decide)).trans (by rfl)) ⟨rfl, wpAny_loadName_free S.kind T.kc (by show F.cl.lookup _ = some cc; rw [T.cl]; simp [List.lookup]) ⟨_, K1 _ _ hcc, rfl⟩
      (wpAny_loadName_local S.kind (S.par _ (List.mem_of_getElem? ha)) hns (zip_look nps ha us0) (ks_wpAny_isType_cls gD dD ⟨rfl, ?_⟩))⟩))) (hev _)) I.quiet (hsw _))
  obtain ⟨hh, gg, dd, tt, oss⟩ := s
  refine ks_wpAny_call_super gD dD hx rfl (fun c z => nomatch z) (looks_mroIn K1 hsub) fun h2 hso k2 => ?_
  refine wpAny_mono (sup _ _ (I.kept (t' := tt + (ps.zip us).length) k2) hso) (fun p s3 h3 => wpAny_mono h3 (fun u s4 h4 => ?_) fun _ _ z => z) fun _ _ z => z
  obtain ⟨H4, J, r4⟩ := h4
  refine wpAt_of_wpAny (wpAny_mono (pss.run [] _ _ H4 _ J (hq H4 r4)) (fun fl s5 h5 => ?_) fun _ _ z => z)
  match fl, h5 with
  | .ret u, ⟨v, _, H5, J5, rv, q⟩ => exact ⟨v, H5, J5.os, J5.bare, J5.base, J5.hok, rv, q⟩
  | .next, ⟨_, H5, J5, q⟩ => exact ⟨.non, H5, J5.os, J5.bare, J5.base, J5.hok, rfl, q⟩
  | .brk, ⟨_, _, _, q⟩ => exact q.elim
  | .cont, ⟨_, _, _, q⟩ => exact q.elim
end
end Oc
/-! ### own classes: fields by chunks, + and == by an own method -/
namespace Oc
open PySem PySem.Spec PyProof.Rows L2
section
variable {X : Cx} {o e value a b : Expr} {f : Str} {pos pos' : Pos} {ta tb tv : TE} {C : Addr}
def FldAt (C : Addr) (f : Str) (H : Hp) (p : Addr) (v : V) : Prop := ∃ dx fs, H p = some (.ins C dx fs) ∧ fs.lookup f = some v
theorem fldAt_of {H : Hp} {p dx : Addr} {fs : List (Str × V)} {L : List Asr} {v : V} (S : Sts H (pto p (.ins C dx fs) :: L)) (l : fs.lookup f = some v) : FldAt C f H p v := ⟨dx, fs, S.hd, l⟩
/-- e.f -/
def tFldO (C : Addr) (f : Str) (ta : TE) : TE := fun σ H Q => ta σ H fun x H1 => ∃ p v, x = .ref p ∧ FldAt C f H1 p v ∧ Q v H1
theorem oc_fld (c : Cls X.K C) (n : NoAttr X.K C f) (he : PE X e ta) (hb : attributeBase e f X.env (eval e X.env) = eval e X.env := by rfl) : PE X (.Attribute e f pos) (tFldO C f ta) := 
  ⟨fun pn s σ H Q J h => (pe_fld (pe_up he) hb).run pn s σ H Q J ⟨_, h, fun _ _ ⟨p, v, ex, ⟨dx, fs, hp, l⟩, q⟩ => ⟨p, C, dx, fs, v, ex, hp, c, n, l, q⟩⟩⟩
/-- o.m(..) -/
def IsIns (C : Addr) (m : Str) (H : Hp) (p : Addr) : Prop := ∃ dx fs, H p = some (.ins C dx fs) ∧ fs.lookup m = none
def tMethO (C : Addr) (m : Str) (sp : Sp) (ta : TE) (t : TA) : TE := fun σ H Q => ta σ H fun x H1 => ∃ p, x = .ref p ∧ IsIns C m H1 p ∧ t σ H1 fun vs H2 => sp (.ref p :: vs) H2 Q E0
/-- o.f = value -/
def sFldO (C : Addr) (f : Str) (ta tv : TE) : TS := fun D σ H => tv σ H fun y H1 => ta σ H1 fun x H2 => ∃ p, x = .ref p ∧ ∃ dx fs L, Sts H2 (pto p (.ins C dx fs) :: L) ∧ fs.length ≤ 100 ∧ ∀ H', Sts H' (pto p (.ins C dx (putF f y fs)) :: L) → D.nx σ H'
theorem oc_fldset (c : Cls X.K C) (n : NoAttr X.K C f) (ha : PE X o ta) (hv : PE X value tv) (hs : swapsWith value (some (.Attribute o f pos')) pos.line X.env = pure false := by rfl) :
    PS X (.Assign [.Attribute o f pos'] value pos) (sFldO C f ta tv) := 
  ⟨fun pn s σ H D J h => (ps_fld (pe_up ha) (pe_up hv) hs).run pn s σ H D J ⟨_, h, fun y H1 h1 => ⟨_, h1, fun x H2 ⟨p, ex, dx, fs, L, S, hl, q⟩ => ⟨p, C, dx, fs, ex, S.hd, c, n, by omega, q _ (S.put _)⟩⟩⟩⟩
/-- an exception never leaves -/
theorem noPass {P : Program} {w : World} {X : Cx} {σ : L2.St} : PassesAt (L2.CX P w) X σ (fun _ _ _ => False) := fun _ _ _ _ _ _ ⟨_, _, _, _, _, _, _, _, _, _, _, _, z⟩ => z.elim
/-- run an own method of a on (a, b) -/
theorem run2 {CX : CXT} {k : Nat} {g : Addr} {fd : FuncData} {ps : List Str} {sp : Sp} {E : L2.St → XK} {pins : List (Addr × Obj)} {σ : L2.St} {H : Hp} {s : Shared} {Q : VK} {p q : Addr} (F : FnOk X.prog X.w X.K X.mg X.base CX k g fd ps sp) (hr : Room k X.A) (hb : Binds X.K fd ps [])
    (hx : PassesAt CX X σ (E σ)) (I : Inv X pins σ H s) (h : sp [.ref p, .ref q] H Q (E σ)) : wpAny (model X.prog X.w) X.A (call (.ref g) [.ref p, .ref q]) (PySem.W.CmpBack (EP X pins σ Q)) X.xe s :=
  wpAny_mono (run_fnS F hr hb hx I (.cons (show L2.RelV (.ref p) (.ref p) from rfl) (.cons (show L2.RelV (.ref q) (.ref q) from rfl) .nil)) h) (fun u s' z => by
    obtain ⟨v, H', J, rv, q⟩ := z
    cases v with
    | non => cases rv; exact ⟨.non, H', J, rfl, q⟩
    | bl i => cases rv; exact ⟨.bl i, H', J, rfl, q⟩
    | int i => obtain ⟨t, rfl⟩ := rv; exact ⟨.int i, H', J, ⟨t, rfl⟩, q⟩
    | str i => obtain ⟨t, rfl⟩ := rv; exact ⟨.str i, H', J, ⟨t, rfl⟩, q⟩
    | byt i => obtain ⟨t, rfl⟩ := rv; exact ⟨.byt i, H', J, ⟨t, rfl⟩, q⟩
    | flt i => obtain ⟨t, rfl⟩ := rv; exact ⟨.flt i, H', J, ⟨t, rfl⟩, q⟩
    | ref i => cases rv; exact ⟨.ref i, H', J, rfl, q⟩
    | ty i => cases rv; exact ⟨.ty i, H', J, rfl, q⟩) fun _ _ z => z
/-- a + b, a == b by the own method of a's class; b of that class too -/
def tOwn2 (C : Addr) (sp : Sp) (E : L2.St → XK) (ta tb : TE) : TE := fun σ H Q => ta σ H fun x H1 => tb σ H1 fun y H2 => ∃ p q, x = .ref p ∧ y = .ref q ∧ (∃ dx fs, H2 p = some (.ins C dx fs)) ∧ (∃ dx fs, H2 q = some (.ins C dx fs)) ∧ sp [.ref p, .ref q] H2 Q (E σ)
theorem ins_at {pins : List (Addr × Obj)} {σ : L2.St} {H : Hp} {s : Shared} {p dx : Addr} {fs : List (Str × V)} (I : Inv X pins σ H s) (h : H p = some (.ins C dx fs)) : ∃ od, PySem.W.InstAt s.heap p (PySem.W.instObj C dx) C (some od) := by
  obtain ⟨mA, J, _⟩ := ins_get I.hok h
  obtain ⟨od, J, _⟩ := J.look
  exact ⟨od, J⟩
theorem oc_addOwn {CX : CXT} {k : Nat} {g : Addr} {fd : FuncData} {ps : List Str} {sp : Sp} {E : L2.St → XK} (hc : PySem.W.selfFirst X.K C = true) (hs : PySem.W.findIn X.K (.ref C) "__add__" = some (some (.ref g))) (hf : PySem.W.isFn X.K (.ref g) = true)
    (F : FnOk X.prog X.w X.K X.mg X.base CX k g fd ps sp) (hr : Room k X.A) (hb : Binds X.K fd ps []) (hx : ∀ σ, PassesAt CX X σ (E σ)) (ha : PE X a ta) (hb2 : PE X b tb) : PE X (.BinOp a .Add b pos) (tOwn2 C sp E ta tb) := by
  refine ⟨fun pn s0 σ H Q J h => wpAny_BinOp (thn (ha.run pn s0 σ H _ J h) fun u s1 ⟨x, H1, J1, rx, q1⟩ => thn (hb2.run pn s1 σ H1 _ J1 q1) fun v s2 ⟨y, H2, J2, ry, p, q, ex, ey, ⟨dx, fs, e1⟩, ⟨dy, gs, e2⟩, h2⟩ => ?_)⟩
  subst ex ey
  obtain rfl : u = Value.ref p := rx
  obtain rfl : v = Value.ref q := ry
  obtain ⟨m, fr⟩ := J2.fr
  obtain ⟨od, i1⟩ := ins_at J2 e1
  obtain ⟨od2, i2⟩ := ins_at J2 e2
  exact PySem.W.binop_K (op := .Add) fr J2.ok.mod.kin i1 i2.type hc hs hf (run2 F hr hb (hx σ) J2 h2)
theorem oc_eqOwn {k : Nat} {g : Addr} {fd : FuncData} {ps : List Str} {sp : Sp} (hs : PySem.W.findIn X.K (.ref C) "__eq__" = some (some (.ref g))) (hf : PySem.W.isFn X.K (.ref g) = true)
    (F : FnOk X.prog X.w X.K X.mg X.base CX0 k g fd ps sp) (hr : Room k X.A) (hb : Binds X.K fd ps []) :
    OpR X (compareOp .Eq) (fun x y H Q => ∃ p q, x = .ref p ∧ y = .ref q ∧ (∃ dx fs, H p = some (.ins C dx fs)) ∧ (∃ dx fs, H q = some (.ins C dx fs)) ∧ sp [.ref p, .ref q] H Q E0) := by
  intro pn s2 σ H2 x y u v Q J2 rx ry ⟨p, q, ex, ey, ⟨dx, fs, e1⟩, ⟨dy, gs, e2⟩, h2⟩
  subst ex ey
  obtain rfl : u = Value.ref p := rx
  obtain rfl : v = Value.ref q := ry
  obtain ⟨m, fr⟩ := J2.fr
  obtain ⟨od, i1⟩ := ins_at J2 e1
  obtain ⟨od2, i2⟩ := ins_at J2 e2
  have un : X.A.units < cLine := by
    have := hr.un
    omega
  exact PySem.W.cmp_K (op := .Eq) (tb := .ref C) un fr J2.ok.mod.kin i1 i2.type (by simp [PySem.W.notFirst]) hs hf (run2 (E := fun _ => E0) F hr hb (fun _ _ _ _ _ _ z => z.elim) J2 h2)
theorem tMethO_eq {m : Str} {sp : Sp} {t : TA} : tMethO C m sp ta t = tMeth C m sp [] E0 ta t := by
  funext σ H Q
  unfold tMethO tMeth
  congr
  funext x H1
  refine propext ⟨fun ⟨p, e, ⟨dx, fs, h, l⟩, q⟩ => ⟨p, dx, fs, e, h, l, ?_⟩, fun ⟨p, dx, fs, e, h, l, q⟩ => ⟨p, e, ⟨dx, fs, h, l⟩, ?_⟩⟩
  · subst e
    simpa only [List.append_nil] using q
  · subst e
    simpa only [List.append_nil] using q
theorem oc_meth {m : Str} {g : Addr} {k : Nat} {fd : FuncData} {ps : List Str} {sp : Sp} {e1 : Expr} {es : List Expr} {t : TA} {apos : Pos} {pl : Sem Bool} (he : PE X o ta) (c : Cls X.K C) (hm : Meth X.K C m g) (F : FnOk X.prog X.w X.K X.mg X.base CX0 k g fd ps sp) (hr : Room k X.A) (hb : Binds X.K fd ps []) (ha : PA X (e1 :: es) t)
    (hst : starEach (e1 :: es) X.env = (false, eval e1 X.env) :: starEach es X.env := by rfl) (hpl : (backTo pos (starEach es X.env)).any (·.1) = false := by rfl)
    (ht : eval (.Call (.Attribute o m apos) (e1 :: es) [] pos) X.env = (do
      let ov ← eval o X.env
      standAt apos.atName
      let (f, first) ← holding [ov] (getMethod ov m pl)
      callWith pos f first (backTo pos (starEach (e1 :: es) X.env)) (backToKw pos (keywordEach [] X.env))) := by rfl) :
    PE X (.Call (.Attribute o m apos) (e1 :: es) [] pos) (tMethO C m sp ta t) := by
  rw [tMethO_eq]
  exact pe_meth (E := E0) he c hm F hr hb .nil pass0 ha hst hpl ht
theorem oc_meth0 {m : Str} {g : Addr} {k : Nat} {fd : FuncData} {ps : List Str} {sp : Sp} {apos : Pos} {pl : Sem Bool} (he : PE X o ta) (c : Cls X.K C) (hm : Meth X.K C m g) (F : FnOk X.prog X.w X.K X.mg X.base CX0 k g fd ps sp) (hr : Room k X.A) (hb : Binds X.K fd ps [])
    (ht : eval (.Call (.Attribute o m apos) [] [] pos) X.env = (do
      let ov ← eval o X.env
      standAt apos.atName
      let (f, first) ← holding [ov] (getMethod ov m pl)
      callWith pos f first (backTo pos (starEach [] X.env)) (backToKw pos (keywordEach [] X.env))) := by rfl) :
    PE X (.Call (.Attribute o m apos) [] [] pos) (tMethO C m sp ta tNil) := by
  rw [tMethO_eq]
  exact pe_meth0 (E := E0) he c hm F hr hb .nil pass0 ht
theorem noPass0 {X : Cx} {σ : L2.St} : PassesAt CX0 X σ E0 := fun _ _ _ _ _ _ z => z.elim
/-- isinstance(x, C): an instance of C -/
theorem oc_isiC (c : C8.InsC X.K C) : CallR X (.builtin "isinstance") (fun xs H Q => ∃ p, xs = [.ref p, .ref C] ∧ (∃ dx fs, H p = some (.ins C dx fs)) ∧ Q (.bl true) H) := fun pins s σ H xs us Q I r ⟨p, e, ⟨dx, fs, h⟩, q⟩ =>
  C8.call_isC c pins s σ H xs us Q I r ⟨p, dx, fs, e, h, q⟩
end
/-- a new instance, in chunks -/
theorem Sts.made {L : List Asr} {H : Hp} {x dx C : Addr} (S : Sts H L) (hx : H x = none) (hd : H dx = none) (ne : dx ≠ x) : Sts (upd (upd H dx (.own x)) x (.ins C dx [])) (pto x (.ins C dx []) :: pto dx (.own x) :: L) :=
  (S.new (.own x) hd).new _ (by rw [upd_ne (Ne.symm ne)]; exact hx)
/-- C(..), positional -/
def tMakeO (C : Addr) (sp : Sp) (dvs : List V) (t : TA) : TE := fun σ H Q => t σ H fun vs H1 => ∃ L, Sts H1 L ∧ ∀ x dx H2, Sts H2 (pto x (.ins C dx []) :: pto dx (.own x) :: L) → sp (.ref x :: (vs ++ dvs)) H2 (fun v H3 => v = .non ∧ Q (.ref x) H3) E0
theorem oc_make {X : Cx} {e : Expr} {es : List Expr} {p pos : Pos} {x : Str} {k : Nat} {C g : Addr} {fd : FuncData} {ps : List Str} {sp : Sp} {dvs : List V} {ds : List Value} {t : TA} (M : Mk X.K C g) (F : FnOk X.prog X.w X.K X.mg X.base CX0 k g fd ps sp) (hr : Room (k + 1) X.A) (hg : Gl X x) (hm : X.mg x = some (.ref C)) (hb : Binds X.K fd ps ds) (hd : Vals dvs ds)
    (ha : PA X (e :: es) t) (hdb : (x == ("__debug__" : Str)) = false := by decide) (he : starEach (e :: es) X.env = (false, eval e X.env) :: starEach es X.env := by rfl) (hpl : (backTo pos (starEach es X.env)).any (·.1) = false := by rfl) :
    PE X (.Call (.Name x p) (e :: es) [] pos) (tMakeO C sp dvs t) := 
  ⟨fun pn s σ H Q J h => (pe_make M F hr hg hm hb hd pass0 (pa_up ha) hdb he hpl).run pn s σ H Q J ⟨_, h, fun vs H1 ⟨L, S, q⟩ x dx h1 h2 ne => q x dx _ (S.made h1 h2 ne)⟩⟩
/-- C(.., k = v) -/
def tMakeE (C : Addr) (n m : Nat) (sp : Sp) (gV : List V → List V → List V) (t tk : TA) : TE := fun σ H Q => t σ H fun vs H1 => tk σ H1 fun zs H2 => vs.length = n ∧ zs.length = m ∧ ∃ L, Sts H2 L ∧ ∀ x dx H3, Sts H3 (pto x (.ins C dx []) :: pto dx (.own x) :: L) →
  sp (gV (.ref x :: vs) zs) H3 (fun v H4 => v = .non ∧ Q (.ref x) H4) E0
theorem oc_makeK {X : Cx} {e : Expr} {es : List Expr} {p pos : Pos} {x : Str} {k n : Nat} {C f : Addr} {fd : FuncData} {ps ks : List Str} {sp : Sp} {t tk : TA} {kws : List Keyword} {g : List Value → List Value → List Value} {gV : List V → List V → List V} (M : Mk X.K C f) (F : FnOk X.prog X.w X.K X.mg X.base CX0 k f fd ps sp) (hr : Room (k + 1) X.A) (hg : Gl X x) (hm : X.mg x = some (.ref C))
    (hb : KBn X.K fd ps (n + 1) ks g gV) (ha : PA X (e :: es) t) (hkw : PK X kws tk)
    (hall : (backToKw pos (keywordEach kws X.env)).all (·.1.isSome) = true := by rfl) (hks : (backToKw pos (keywordEach kws X.env)).filterMap (·.1) = ks := by rfl) (hdb : (x == ("__debug__" : Str)) = false := by decide)
    (he : starEach (e :: es) X.env = (false, eval e X.env) :: starEach es X.env := by rfl) (hpl : ((backTo pos (starEach (e :: es) X.env)).any (·.1) || (backToKw pos (keywordEach kws X.env)).any (·.1.isNone)) = false := by rfl) :
    PE X (.Call (.Name x p) (e :: es) kws pos) (tMakeE C n ks.length sp gV t tk) := 
  ⟨fun pn s σ H Q J h => (pe_makeK M F hr hg hm hb pass0 (pa_up ha) (pk_up hkw) hall hks hdb he hpl).run pn s σ H Q J ⟨_, h, fun vs H1 h1 => ⟨_, h1, fun zs H2 ⟨l1, l2, L, S, q⟩ => ⟨l1, l2, fun x dx e1 e2 ne => q x dx _ (S.made e1 e2 ne)⟩⟩⟩⟩
end Oc
/-! ### raise, try, calls in an except suite -/
namespace Oc
open PySem PySem.Spec PyProof.Rows L2
section
variable {P : Program} {w : World} {K : PySem.W.Frag} {mg : Str → Option Value} {base : Heap}
/-- a def that may raise -/
theorem okN {x qual : Str} {st : Stmt} {f : Addr} {fd : FuncData} {N ps : List Str} {k : Nat} {sp : Sp} (F : Fun K x qual st f fd) (S : FnScope N ps (defScope st)) (len : ∀ vs H Q E, sp vs H Q E → vs.length = ps.length)
    (hbody : ∀ (cdv : Value) (A : Around) (outer : List Env) (s : Shared) (H : Hp) (vs : List V) (Q : VK) (E : XK), Room k (A.deeper (envOfC qual (defScope st) s.heap.objs.size f cdv)) → sp vs H Q E →
      ∃ t, PSs (cxOf (L2N.CX P w) P w K mg base N qual (defScope st) f cdv A outer s H E) (defBody st) t ∧ t { nx := fun _ H' => Q .non H', rt := Q } (start N vs) H) : FnOk P w K mg base (L2N.CX P w) (k + 1) f fd ps sp := by
  obtain ⟨oc, od, kV, doc, pm, an, cdv, ct, osl, rfl, lk, hcd⟩ := F.ex
  exact fn_of lk hcd S len fun A outer s H vs Q E hr hsp => hbody cdv A outer s H vs Q E hr hsp
/-- a def called in an except suite -/
theorem okH {x qual : Str} {st : Stmt} {f : Addr} {fd : FuncData} {N ps : List Str} {k : Nat} {sp : Sp} (F : Fun K x qual st f fd) (S : FnScope N ps (defScope st)) (len : ∀ vs H Q E, sp vs H Q E → vs.length = ps.length)
    (hbody : ∀ (cdv : Value) (A : Around) (outer : List Env) (s : Shared) (H : Hp) (vs : List V) (Q : VK) (E : XK) (p : Addr × Obj), L2H.Hot1 A p → L2H.RoomH k (A.deeper (envOfC qual (defScope st) s.heap.objs.size f cdv)) → sp vs H Q E →
      ∃ t, PSs (L2H.cxH CX0 P w K mg base N qual (defScope st) f cdv A outer s H E p) (defBody st) t ∧ t { nx := fun _ H' => Q .non H', rt := Q } (start N vs) H) : L2H.FnH P w K mg base CX0 (k + 1) f fd ps sp := by
  obtain ⟨oc, od, kV, doc, pm, an, cdv, ct, osl, rfl, lk, hcd⟩ := F.ex
  exact L2H.fn_ofH lk hcd S len fun A outer s H vs Q E p hot hr hsp => hbody cdv A outer s H vs Q E p hot hr hsp
end
/-- the whole heap as a chunk; its tuples -/
def whole (R : Hp) : Asr := .own fun h => h = noT R
def tmOf (R : Hp) : Tmap := fun a => match R a with | some (.tup vs) => some vs | _ => none
def imw (R : Hp) : Asr := .im (tmOf R)
theorem tmOf_some {R : Hp} {a : Addr} {vs : List V} : tmOf R a = some vs ↔ R a = some (.tup vs) := by
  unfold tmOf
  cases R a with
  | none => exact ⟨(fun e => nomatch e), (fun e => nomatch e)⟩
  | some o =>
    cases o with
    | tup ys => exact ⟨fun e => by cases e; rfl, fun e => by cases e; rfl⟩
    | _ => exact ⟨(fun e => nomatch e), (fun e => nomatch e)⟩
theorem sts_whole (H : Hp) : Sts H [whole H, imw H] := ⟨⟨noT H, Subh.refl _, rfl, fun _ => none, (fun _ _ e => nomatch e), trivial, trivial⟩, fun τ hm => by
  have e : τ = tmOf H := by
    rcases List.mem_cons.mp hm with q | q
    · cases q
    · have q := List.mem_singleton.mp q
      cases q
      rfl
  subst e
  exact fun a vs e => tmOf_some.mp e⟩
theorem whole_in {R H : Hp} {M L : List Asr} (S : Sts H (whole R :: imw R :: M)) (T : Sts R L) : Sts H (L ++ M) := by
  obtain ⟨⟨h, s, eh, h2, s2, _, S⟩, tk⟩ := S
  have eh : h = noT R := eh
  subst eh
  refine ⟨St.join T.st s (S.mono (cutH_sub _ _)), fun τ hm a vs e => ?_⟩
  rcases List.mem_append.mp hm with q | q
  · exact tk (tmOf R) (List.mem_cons_of_mem _ List.mem_cons_self) a vs (tmOf_some.mpr (T.tk τ q a vs e))
  · exact tk τ (List.mem_cons_of_mem _ (List.mem_cons_of_mem _ q)) a vs e
theorem whole_none {R H : Hp} {L : List Asr} {a : Addr} {o : HO} (S : Sts H (pto a o :: whole R :: imw R :: L)) : R a = none := by
  have ha := S.hd
  have hT := S.hdT
  obtain ⟨⟨h, s, rfl, k, t, ek, _⟩, tk⟩ := S
  have ek : k = noT R := ek
  subst ek
  cases e : R a with
  | none => rfl
  | some u =>
    cases hu : isT u with
    | true =>
      cases u with
      | tup vs =>
        have z := tk (tmOf R) (List.mem_cons_of_mem _ (List.mem_cons_of_mem _ List.mem_cons_self)) a vs (tmOf_some.mpr e)
        rw [ha] at z
        cases z
        cases hT
      | _ => cases hu
    | false =>
      have z := (cutH_some.mp (t _ _ (noT_some.mpr ⟨hu, e⟩))).1
      rw [one_self] at z
      cases z
/-- self.f = y, the first one, of an exception that is being made -/
def sOst1 (C : Addr) (f : Str) (to te : TE) : TS := fun D σ H => te σ H fun y H1 => to σ H1 fun x H2 => ∃ a, x = .ref a ∧ ∃ L, Sts H2 (pto a (exo a C none) :: L) ∧ ∀ dx H', Sts H' (pto a (exo a C (some dx)) :: pto dx (exd dx [(f, y)]) :: L) → D.nx σ H'
/-- .. a further one -/
def sOst2 (C : Addr) (f : Str) (to te : TE) : TS := fun D σ H => te σ H fun y H1 => to σ H1 fun x H2 => ∃ a, x = .ref a ∧ ∃ dx fs L, Sts H2 (pto a (exo a C (some dx)) :: pto dx (exd dx fs) :: L) ∧ fs.length ≤ 900 ∧ ∀ H', Sts H' (pto a (exo a C (some dx)) :: pto dx (exd dx ((f, y) :: fs)) :: L) → D.nx σ H'
section
variable {X : Cx} {o e : Expr} {es : List Expr} {to te : TE} {ta : TA} {f : Str} {p p' p1 p2 pos : Pos} {C : Addr}
theorem oc_ost1 (T : OexC X.K C) (n : PySem.W.findIn X.K (.ref C) f = some none) (ho : PE X o to) (he : PE X e te) (hs : swapsWith e (some (.Attribute o f p')) pos.line X.env = pure false := by rfl) : PS X (.Assign [.Attribute o f p'] e pos) (sOst1 C f to te) :=
  ⟨fun pn s σ H D J h => (ps_ost (pe_up ho) (pe_up he) hs).run pn s σ H D J ⟨_, h, fun y H1 h1 => ⟨_, h1, fun x H2 ⟨a, ex, L, S, q⟩ => ⟨a, C, ex, T, n, .inl ⟨S.hd, fun dx nn _ => q dx _ ((S.new (exd dx [(f, y)]) nn).swap.put _)⟩⟩⟩⟩⟩
theorem oc_ost2 (T : OexC X.K C) (n : PySem.W.findIn X.K (.ref C) f = some none) (ho : PE X o to) (he : PE X e te) (hs : swapsWith e (some (.Attribute o f p')) pos.line X.env = pure false := by rfl) : PS X (.Assign [.Attribute o f p'] e pos) (sOst2 C f to te) :=
  ⟨fun pn s σ H D J h => (ps_ost (pe_up ho) (pe_up he) hs).run pn s σ H D J ⟨_, h, fun y H1 h1 => ⟨_, h1, fun x H2 ⟨a, ex, dx, fs, L, S, hl, q⟩ => ⟨a, C, ex, T, n, .inr ⟨dx, fs, S.hd, S.swap.hd, hl, q _ (S.swap.put _).swap⟩⟩⟩⟩⟩
/-- C(e, ..), an own error with its own __init__ -/
def tMkX (C : Addr) (sp : Sp) (dvs : List V) (ta : TA) : L2.St → Hp → XK → Prop := fun σ H Q => ta σ H fun vs H1 => vs.length ≤ 1000 ∧ ∃ L, Sts H1 L ∧ ∀ a H', Sts H' (pto a (exo a C none) :: [whole H1, imw H1]) →
  sp (.ref a :: (vs ++ dvs)) H' (fun v H2 => v = .non ∧ ∃ d fs M, Sts H2 (pto a (exo a C (some d)) :: pto d (exd d fs) :: whole H1 :: imw H1 :: M) ∧ ∀ H3, Sts H3 (pto d (.xd fs) :: (L ++ M)) → Q (.ref C) (some d) H3) E0
theorem noT_del {H : Hp} {a : Addr} : noT (del H a) = del (noT H) a := by
  funext b
  by_cases e : b = a
  · subst e
    unfold noT del
    simp
  · unfold noT
    rw [del_ne e, del_ne e]
theorem sts_del {a : Addr} {o : HO} {L : List Asr} {H : Hp} (S : Sts H (pto a o :: L)) : Sts (del H a) L := by
  have ha := S.hd
  have hT := S.hdT
  obtain ⟨⟨h, s, rfl, S⟩, tk⟩ := S
  refine ⟨S.mono fun b u e => ?_, fun τ hm b vs e => ?_⟩
  · obtain ⟨e1, e2⟩ := cutH_some.mp e
    have ne : b ≠ a := fun z => by
      rw [z, one_self] at e1
      cases e1
    rw [noT_del, del_ne ne]
    exact e2
  · have z := tk τ (List.mem_cons_of_mem _ hm) b vs e
    have ne : b ≠ a := fun q => by
      rw [q, ha] at z
      cases z
      cases hT
    rw [del_ne ne]
    exact z
/-- the call of the class: the exception is laid, its __init__ runs on it; the table of its fields is its last trace in the heap told -/
theorem made_mkx {CX : CXT} {fI : Addr} {k : Nat} {fd : FuncData} {ps : List Str} {sp : Sp} {ds us : List Value} {dvs vs : List V} {pins : List (Addr × Obj)} {s : Shared} {σ : L2.St} {H : Hp} {Q : XK} {L : List Asr} (T : OexC X.K C)
    (iC : PySem.W.findIn X.K (.ref C) "__init__" = some (some (.ref fI))) (tI : PySem.W.typeIn X.K (.ref fI) = some (.type "function")) (F1 : FnOk X.prog X.w X.K X.mg X.base CX k fI fd ps sp) (hr : Room (k + 1) X.A) (hb : Binds X.K fd ps ds) (hd : Vals dvs ds) (hx : Passes CX X E0)
    (I : Inv X pins σ H s) (rv : Vals vs us) (hz : vs.length ≤ 1000) (SL : Sts H L) (q : ∀ a H', Sts H' (pto a (exo a C none) :: [whole H, imw H]) →
      sp (.ref a :: (vs ++ dvs)) H' (fun v H2 => v = .non ∧ ∃ d fs M, Sts H2 (pto a (exo a C (some d)) :: pto d (exd d fs) :: whole H :: imw H :: M) ∧ ∀ H3, Sts H3 (pto d (.xd fs) :: (L ++ M)) → Q (.ref C) (some d) H3) E0) :
    wpAny (model X.prog X.w) X.A (call (.ref C) us) (L2N.MkP X pins σ Q) X.xe s := by
  obtain ⟨_, _, _, _, bm, _, _, _, _, _, _, _, _, _, _, hC, hve⟩ := T.cls
  obtain ⟨hp, g, dr, tk, os⟩ := s
  have old : ∀ b o, hp.get? b = some o → ((hp.push (PySem.W.kdv_tup us)).push (PySem.HandSPX.excO C hp.objs.size)).get? b = some o := fun b o z => Heap.get?_push_of_some _ (Heap.get?_push_of_some _ z)
  have lies : ((hp.push (PySem.W.kdv_tup us)).push (PySem.HandSPX.excO C hp.objs.size)).get? (hp.objs.size + 1) = some (PySem.HandSPX.excO C hp.objs.size) := by heap_get
  have inits := fun (R : Result → Shared → Prop) => PySem.HandSPX.call_own (R := R) (prog := X.prog) (w := X.w) (A := X.A) (rest := us) (g := g) (d := dr) (t := tk) (os := os) F.excBase_ValueError (fun Y => PySem.HandSPX.refsVE_contains Y bm hve) (I.kIn _ _ hC) (PySem.W.looks_findIn I.kIn iC)
    (fun self => PySem.W.bind_fn I.kIn self tI) (by rw [← Paired.length rv, sizeLine_eq]; omega)
  have J : Inv X pins σ (upd H (hp.objs.size + 1) (exo (hp.objs.size + 1) C none)) ⟨(hp.push (PySem.W.kdv_tup us)).push (PySem.HandSPX.excO C hp.objs.size), g, dr, tk, os⟩ := I.laid (t' := tk) old (Nat.le_succ _) (exo_ok lies)
  have spec := q _ _ ((sts_whole H).new _ (I.hok.fresh (Nat.le_succ _)))
  have rs : Vals (V.ref (hp.objs.size + 1) :: (vs ++ dvs)) (Value.ref (hp.objs.size + 1) :: (us ++ ds)) := .cons rfl (rv.append hd)
  have bnd := hb _ (Value.ref (hp.objs.size + 1) :: us) J.kIn (by
    rw [← F1.len _ _ _ _ spec]
    exact rs.length.symm)
  refine wpAny_call (inits _ (codeAny_mono (F1.run _ X.stack _ _ ⟨_, []⟩ _ _ _ E0 (hr.make C us []) (J.env0.make C us []) bnd rs spec) fun r s' hq => ?_))
  match r, hq with
  | .error er, hq => exact hx pins σ _ _ er s' J hq
  | .ok (.ret u), hq =>
    obtain ⟨v, H2, os2, bare, un, hok, ru, rfl, d, fs, M, S2, q2⟩ := hq
    obtain ⟨h2, g2, d2, t2, os'⟩ := s'
    obtain ⟨t0, G, J2, kG, gone, there, na⟩ := mk_end0 (d2 := d2) (t2 := t2) I (Nat.le_succ _) old un hok os2 bare S2.hd S2.swap.hd (whole_none S2.tail)
    exact ⟨ru, _, _, _, ⟨G, g2, d2, t2, os'⟩, _, .ref C, some d, rfl, J2, kG, gone, there, ⟨rfl, rfl, fun vs e => by cases e; rfl⟩, rfl, rfl, na, rfl, bare, raises_own T.exC T.tyC, q2 _ (((sts_del S2).put _).under fun K Z => whole_in Z SL)⟩
theorem oc_mkx {CX : CXT} {x : Str} {fI : Addr} {k : Nat} {fd : FuncData} {ps : List Str} {sp : Sp} {ds : List Value} {dvs : List V} (T : OexC X.K C) (iC : PySem.W.findIn X.K (.ref C) "__init__" = some (some (.ref fI))) (tI : PySem.W.typeIn X.K (.ref fI) = some (.type "function"))
    (F1 : FnOk X.prog X.w X.K X.mg X.base CX k fI fd ps sp) (hr : Room (k + 1) X.A) (hb : Binds X.K fd ps ds) (hd : Vals dvs ds) (hx : Passes CX X E0) (hg : Gl X x) (hm : X.mg x = some (.ref C)) (ha : PA X (e :: es) ta)
    (hdb : (x == ("__debug__" : Str)) = false := by decide) (he : starEach (e :: es) X.env = (false, eval e X.env) :: starEach es X.env := by rfl) (hpl : (backTo pos (starEach es X.env)).any (·.1) = false := by rfl) :
    L2N.PMk X (.Call (.Name x p) (e :: es) [] pos) (tMkX C sp dvs ta) := by
  intro pins s σ H Q I h
  refine wpAny_Call_Name_kw (ld_glob I hg hm ?_ hdb)
  refine PySem.W.callWith_K (h₀ := X.base) I.ok.mod.kin T.kC (thn (ha.run pos pins s σ H _ I h) fun us s1 ⟨vs, H1, I1, rv, hz, L, SL, q⟩ => ⟨I1.kIn, ?_⟩) he hpl
  exact made_mkx T iC tI F1 hr hb hd hx I1 rv hz SL q
/-- raise C(e, ..) -/
theorem oc_raise {W : WX} {t : L2.St → Hp → XK → Prop} (hc : X.calm = true) (tk : L2N.Takes X W) (he : L2N.PMk X e t) : PS X (.Raise (some e) none pos) (fun _ σ H => t σ H fun cls d H' => W cls d σ H') := L2N.ps_raise hc tk he
/-- a call in an except suite, of a def that lets nothing out -/
theorem oc_callH {x : Str} {fI : Addr} {k : Nat} {fd : FuncData} {ps : List Str} {sp : Sp} (F1 : L2H.FnH X.prog X.w X.K X.mg X.base CX0 k fI fd ps sp) (hr : L2H.RoomH k X.A) (hc : L2H.HotC X) (hg : Gl X x) (hm : X.mg x = some (.ref fI)) (hk : PySem.W.keepIn X.K (.ref fI) = true) (hb : Binds X.K fd ps []) (ha : PA X (e :: es) ta)
    (hdb : (x == ("__debug__" : Str)) = false := by decide) (he : starEach (e :: es) X.env = (false, eval e X.env) :: starEach es X.env := by rfl) (hpl : (backTo pos (starEach es X.env)).any (·.1) = false := by rfl) :
    PE X (.Call (.Name x p) (e :: es) [] pos) (tCallX sp ta) := L2H.pe_callH (E := fun _ => E0) F1 hr hc hg hm hk hb (fun _ _ _ _ _ _ _ z => z.elim) ha hdb he hpl
end
theorem takes0N {X : Cx} : L2N.Takes X (fun _ _ _ _ => False) := fun _ _ x => by
  obtain ⟨_, _, _, _, _, _, _, _, _, _, _, _, _, _, _, _, z⟩ := x
  exact z.elim
/-- isinstance(e, c), e the exception that the suite holds, with its dict -/
theorem oc_isE {X : Cx} {a D : Addr} {oe : Obj} {d : Option Addr} {cls : Value} {pn : List (Addr × Obj)} {c : V} {cv : Value} {b : Bool} (C : ExcC X.K D) (hz : Zc cls d oe) (hf : ∃ vs, oe.data = .fields vs) (hk : PySem.W.kitOne X.K (.ref D) cv = some b) (hcv : ∀ u, RelV c u → u = cv) :
    CallR (X.suite a ((a, oe) :: pn)) (.builtin "isinstance") (fun xs H Q => cls = .ref D ∧ xs = [.ref a, c] ∧ (∃ dd fs, d = some dd ∧ H dd = some (.xd fs)) ∧ Q (.bl b) H) := by
  intro pins s σ H xs us Q I r ⟨e0, e, ⟨dd, fs, ed, ea⟩, q⟩
  subst e0 e ed
  cases r with
  | cons rx rr =>
    cases rr with
    | cons rt rr =>
      cases rr
      cases rx
      have ec := hcv _ rt
      subst ec
      obtain ⟨hget, _⟩ := I.pin (a, oe) (List.mem_append.mpr (.inl List.mem_cons_self))
      obtain ⟨vs, hv⟩ := hf
      obtain ⟨mA, hns, hr⟩ := (show ObjOk X.prog X.w H s.heap dd (.xd fs) from I.hok dd _ ea)
      obtain ⟨od, ho, hl⟩ := lookIn_ns hns
      have J : PySem.W.InstAt s.heap a oe D (some od) := ⟨hget, hz.1, by unfold PySem.W.notCls; rw [hv] <;> rfl, by rw [hz.2]; exact ho⟩
      obtain ⟨cdD, hcD, _⟩ := PySem.W.any_some C.hd
      exact PySem.W.kia_one (PySem.W.kitx_exc (by rw [hcD]; rfl) C.hg C.hk C.hs C.ha C.hn C.ht C.hm) I.kIn J hk (fun z => nomatch z) fun tk => ⟨.bl b, H, I.kept (t' := tk) fun _ _ z => z, rfl, q⟩
theorem hotC {X : Cx} {a : Addr} {oe : Obj} {cls : Value} {d : Option Addr} {pn : List (Addr × Obj)} (hz : L2N.Zn cls d oe) (hf : ∃ vs, oe.data = .fields vs) : L2H.HotC (X.suite a ((a, oe) :: pn)) := by
  obtain ⟨vs, hd⟩ := hf
  exact ⟨(a, oe), ⟨rfl, vs, hd, hz.2.2 vs hd⟩, List.mem_cons_self⟩
/-- an exception never leaves -/
theorem noPassN {P : Program} {w : World} {X : Cx} {σ : L2.St} : PassesAt (L2N.CX P w) X σ E0 := fun _ _ _ _ _ _ ⟨_, _, _, _, _, _, _, _, _, _, _, _, z⟩ => z.elim
end Oc
namespace Oc
open PySem PySem.Spec PyProof.Rows L2 NdefX PySem.W PySem.Calls
/-- a method with a cell __class__ (an error's __init__ with super()) -/
structure XFun (P : Program) (K : PySem.W.Frag) (mg : Str → Option Value) (x qual : Str) (st : Stmt) (f : Addr) (fd : FuncData) (D : Addr) : Prop where
  ex : ∃ (oc : Value) (od : Option Addr) (dV kV doc pm : Value) (an : Option Addr) (cc c : Addr) (ct : Value) (osl : Array (Option Value)),
    fd = PySem.W.fnX x qual (defArgs st) (defBody st) (defScope st) [("__class__", cc)] dV kV doc pm an (.ref c) ct ∧ K.lookup f = some ⟨oc, od, .func fd, osl⟩ ∧ PySem.W.codeIn K (.ref c) qual = true ∧
    (∃ cl cld csl, K.lookup cc = some ⟨cl, cld, .cell (some (.ref D)), csl⟩) ∧ (∃ ccl cdd vs ccs file tf, K.lookup c = some ⟨ccl, cdd, .fields vs, ccs⟩ ∧ vs[2]? = some (.str file tf) ∧ ((P.main.file : Str) == file) = true)
  isD : ∃ cdD, clsIn K D = some cdD
  sup : mg "super" = none
  htop : (P.main.scope.names.lookup ("super" : Str)).isSome = false
abbrev xnf (x qual : Str) (st : Stmt) (cc c : Addr) : NF := { name := x, qual := qual, params := defArgs st, body := defBody st, scope := defScope st, cl := [("__class__", cc)], c := c }
section
variable {CX : CXT} {P : Program} {w : World} {K : PySem.W.Frag} {mg : Str → Option Value} {base : Heap} {N ps : List Str} {x qual : Str} {stm : Stmt} {f D : Addr} {fd : FuncData} {k : Nat} {sp : Sp}
theorem XFun.ok {ar : Arg} {e : Expr} {es : List Expr} {rest : List Stmt} {p0 p1 p2 pos pos0 : Pos} (F : XFun P K mg x qual stm f fd D) (S : NScope N ps [("__class__" : Str)] (defScope stm)) (ks : (defScope stm).names.lookup ("super" : Str) = some .globalImplicit)
    (hp : ((defArgs stm).posonlyargs ++ (defArgs stm).args).head? = some ar) (ha : ps[0]? = some ar.arg)
    (hb : defBody stm = .Expr (.Call (.Attribute (.Call (.Name "super" p0) [] [] p1) "__init__" p2) (e :: es) [] pos) pos0 :: rest)
    (pl : Addr → Addr → Addr → Sem Bool) (hev : ∀ cc c L, eval (.Call (.Attribute (.Call (.Name "super" p0) [] [] p1) "__init__" p2) (e :: es) [] pos) (envF (xnf x qual stm cc c) f L) = (do
      let ov ← attributeBase (.Call (.Name "super" p0) [] [] p1) "__init__" (envF (xnf x qual stm cc c) f L) (eval (.Call (.Name "super" p0) [] [] p1) (envF (xnf x qual stm cc c) f L))
      standAt p2.atName
      let (g, first) ← holding [ov] (getMethod ov "__init__" (pl cc c L))
      callWith pos g first (backTo pos (starEach (e :: es) (envF (xnf x qual stm cc c) f L))) []))
    (hse : ∀ env, starEach (e :: es) env = (false, eval e env) :: starEach es env) (hpl : ∀ env, (backTo pos (starEach es env)).any (·.1) = false)
    (hsw : ∀ cc c L, swapsWith (.Call (.Attribute (.Call (.Name "super" p0) [] [] p1) "__init__" p2) (e :: es) [] pos) none pos0.line (envF (xnf x qual stm cc c) f L) = pure false)
    (len : ∀ vs H Q E, sp vs H Q E → vs.length = ps.length)
    (hbody : ∀ (cc c : Addr) (A : Around) (outer : List Env) (s : Shared) (H : Hp) (vs : List V) (Q : VK) (E : XK), Room k (A.deeper (envF (xnf x qual stm cc c) f s.heap.objs.size)) → sp vs H Q E →
      ∃ (a C : Addr) (vr : List V) (te : TA) (t : TS), vs = .ref a :: vr ∧ SupC K D C ∧ H a = some (exo a C none) ∧ PA (ncx CX P w K mg base N (xnf x qual stm cc c) f A outer s H E) (e :: es) te ∧ PSs (ncx CX P w K mg base N (xnf x qual stm cc c) f A outer s H E) rest t ∧
        te (startF N vs [some (.ref D)]) H fun us H1 => us.length ≤ 1000 ∧ H1 a = some (exo a C none) ∧ t { nx := fun _ H' => Q .non H', rt := Q } (startF N vs [some (.ref D)]) H1) :
    FnOk P w K mg base CX (k + 1) f fd ps sp := by
  obtain ⟨oc, od, dV, kV, doc, pm, an, cc, c, ct, osl, rfl, lk, hcd, hcc, hfl⟩ := F.ex
  refine fn_sup (F := xnf x qual stm cc c) lk hcd S ⟨rfl, hcc, F.isD, hfl, F.sup, ks, S.frk _ (by simp), F.htop⟩ hp ha hb (pl cc c) (hev cc c) (hsw cc c) len fun A outer s H vs Q E hr h => ?_
  obtain ⟨a, C, vr, te, t, ev, SC, ea, pa, pss, q⟩ := hbody cc c A outer s H vs Q E hr h
  exact ⟨a, C, vr, t, _, ev, SC.sub, ea, pss, supRun_VE SC ea pa (hse _) (hpl _) q, fun H1 h1 => h1⟩
end
end Oc
/-! ### lists of ints and Nones -/
namespace Oc
open PySem PySem.Spec PyProof.Rows L2
def pdo : Option Int → PyData
  | none => .none
  | some i => .int i
theorem dp_opts {K : PySem.W.Frag} {H : Hp} : ∀ ns : List (Option Int), DpAll K H (ns.map ov) (ns.map pdo)
  | [] => .nil
  | none :: ns => .cons .non (dp_opts ns)
  | some n :: ns => .cons (.int n) (dp_opts ns)
theorem eqv_opts : ∀ ns ms : List (Option Int), PyData.eqvAll (ns.map pdo) (ms.map pdo) = decide (ns = ms)
  | [], [] => by simp [PyData.eqvAll]
  | [], _ :: _ => by simp [PyData.eqvAll]
  | _ :: _, [] => by simp [PyData.eqvAll]
  | n :: ns, m :: ms => by
    have e : PyData.eqv (pdo n) (pdo m) = decide (n = m) := by
      cases n with
      | none => cases m <;> simp [pdo, PyData.eqv]
      | some a =>
        cases m with
        | none => simp [pdo, PyData.eqv]
        | some b => by_cases h : a = b <;> simp [pdo, PyData.eqv, h]
    simp only [List.map_cons, PyData.eqvAll, e, eqv_opts ns ms]
    by_cases h1 : n = m <;> by_cases h2 : ns = ms <;> simp [h1, h2]
theorem lay_opts : ∀ ns : List (Option Int), PyData.canLayAll0 (ns.map pdo) = true
  | [] => by simp [PyData.canLayAll0]
  | n :: ns => by
    have e : PyData.canLay0 (pdo n) = true := by cases n <;> simp [pdo, PyData.canLay0]
    simp [PyData.canLayAll0, e, lay_opts ns]
theorem depth_opts : ∀ ns : List (Option Int), PyData.depthAll (ns.map pdo) = 0
  | [] => by simp [PyData.depthAll]
  | n :: ns => by
    have e : PyData.depth (pdo n) = 0 := by cases n <;> simp [pdo, PyData.depth]
    simp [PyData.depthAll, e, depth_opts ns]
theorem shaped_opts (ns : List (Option Int)) : SeqAt.shaped (.list (ns.map pdo)) = true := by
  unfold SeqAt.shaped
  simp [PyData.canLay0, lay_opts, PyData.depth, depth_opts]
theorem eqv_optl (ns ms : List (Option Int)) : PyData.eqv (.list (ns.map pdo)) (.list (ms.map pdo)) = decide (ns = ms) := by
  rw [← eqv_opts]
  simp only [PyData.eqv]
section
variable {X : Cx}
theorem oc_ne_opts {K : PySem.W.Frag} (hK : X.K = K) (hu : X.A.units + 64 < cLine) : OpR X (compareOp .NotEq) (fun x y H Q => ∃ a b, ∃ ns ms : List (Option Int), x = .ref a ∧ y = .ref b ∧ SqL K H a (ns.map ov) ∧ SqL K H b (ms.map ov) ∧ Q (.bl (!decide (ns = ms))) H) := fun pins s σ H x y v u Q I rx ry ⟨a, b, ns, ms, e1, e2, h1, h2, q⟩ =>
  op_neD hu pins s σ H x y v u Q I rx ry ⟨.list (ns.map pdo), .list (ms.map pdo), e1 ▸ .lst (hK ▸ h1) (dp_opts ns), e2 ▸ .lst (hK ▸ h2) (dp_opts ms), shaped_opts ns, shaped_opts ms, by rw [eqv_optl]; exact q⟩
theorem oc_eq_opts {K : PySem.W.Frag} (hK : X.K = K) (hu : X.A.units + 64 < cLine) : OpR X (compareOp .Eq) (fun x y H Q => ∃ a b, ∃ ns ms : List (Option Int), x = .ref a ∧ y = .ref b ∧ SqL K H a (ns.map ov) ∧ SqL K H b (ms.map ov) ∧ Q (.bl (decide (ns = ms))) H) := fun pins s σ H x y v u Q I rx ry ⟨a, b, ns, ms, e1, e2, h1, h2, q⟩ =>
  op_eqD hu pins s σ H x y v u Q I rx ry ⟨.list (ns.map pdo), .list (ms.map pdo), e1 ▸ .lst (hK ▸ h1) (dp_opts ns), e2 ▸ .lst (hK ▸ h2) (dp_opts ms), shaped_opts ns, shaped_opts ms, by rw [eqv_optl]; exact q⟩
end
def gO (ns : List (Option Int)) (i : Int) : Option Int := ns.getD i.toNat none
theorem oc_ixO {X : Cx} {K : PySem.W.Frag} (hK : X.K = K) : IxR X (fun x y H Q => ∃ p, ∃ (ns : List (Option Int)) (i : Int), x = .ref p ∧ y = .int i ∧ SqL K H p (ns.map ov) ∧ (0 ≤ i ∧ i < ns.length) ∧ Q (ov (gO ns i)) H) := fun va sl pins s σ H x y v u Q I rx ry ⟨p, ns, i, e1, e2, h, b, q⟩ hs =>
  ix_list va sl pins s σ H x y v u Q I rx ry ⟨p, _, i, ov (gO ns i), e1, e2, hK ▸ h, by
    have hl : i.toNat < ns.length := by omega
    refine atI_of b.1 ?_
    rw [List.getElem?_map, List.getElem?_eq_getElem hl]
    unfold gO
    rw [List.getD_eq_getElem?_getD, List.getElem?_eq_getElem hl]
    rfl, q⟩ hs
theorem lc_pureV {α : Type} (emb : α → V) {K : PySem.W.Frag} {a : Addr} {k : Nat} {te : TE} {vs : List Nat} {σ : L2.St} {H0 : Hp} {Qd : Hp → Prop} {L : List Asr} {D : Addr} (ns : List α) (f : α → V) (S : Sts H0 (pto D (.lst []) :: L)) (hsq : ∀ H, Sts H L → SqL K H a (ns.map emb)) (hl : ns.length ≤ 1000000)
    (hw : ∀ x, wipe ((wipe σ vs).set k (some x)) vs = wipe σ vs) (he : ∀ (x : α) (H : Hp) (Q' : VK), x ∈ ns → Sts H L → Q' (f x) H → te ((wipe σ vs).set k (some (emb x))) H Q')
    (hd : ∀ H, Sts H (pto D (.lst (ns.map f)) :: L) → Qd H) :
    ∃ W : Nat → Nat → Hp → Prop, (∃ m, W 0 m H0) ∧ ∀ i m H, W i m H →
      ((Itl K a).stop i H ∧ Qd H) ∨ ((Itl K a).go i H ∧ ∃ Nx : Hp → Prop, (∀ H', Nx H' → ∃ m', m' < m ∧ W (i + 1) m' H') ∧ ∀ x H', (Itl K a).yld i H x H' → gName k x (wipe σ vs) H' fun σ2 H2 => wipe σ2 vs = wipe σ vs ∧ tYes σ2 H2 fun b H3 =>
        if b = true then te σ2 H3 fun y H4 => ∃ acc, H4 D = some (.lst acc) ∧ acc.length < sizeLine ∧ Nx (upd H4 D (.lst (acc ++ [y]))) else Nx H3) :=
  oc_lcL (K := K) (a := a) (xs := ns.map emb) (fun i H => Sts H (pto D (.lst ((ns.take i).map f)) :: L)) S (fun i H p => hsq H p.tail)
    (fun i x H hx p => by
      rw [List.getElem?_map] at hx
      cases e : ns[i]? with
      | none =>
        rw [e] at hx
        cases hx
      | some n =>
        rw [e] at hx
        have ex : x = emb n := (Option.some.inj hx).symm
        subst ex
        refine ⟨hw _, ?_⟩
        simp only [tYes, if_true]
        refine he n H _ (List.mem_of_getElem? e) p.tail ⟨_, p.hd, small (by rw [List.length_map, List.length_take]; omega), ?_⟩
        rw [List.take_add_one, e, List.map_append]
        exact p.put _)
    (fun H p => hd H (by rw [List.length_map, List.take_length] at p; exact p))
theorem gLO {H : Hp} {a : Addr} {ns : List (Option Int)} {L : List Asr} (h : Sts H (pto a (.lst (ns.map ov)) :: L)) : Sts H (pto a (.lst (ns.map ov)) :: L) := h
theorem gIns {H : Hp} {a C dx : Addr} {fs : List (Str × V)} {L : List Asr} (h : Sts H (pto a (.ins C dx fs) :: L)) : Sts H (pto a (.ins C dx fs) :: L) := h
theorem gExo2 {H : Hp} {a C dx : Addr} {fs : List (Str × V)} {L : List Asr} (h : Sts H (pto a (exo a C (some dx)) :: pto dx (exd dx fs) :: L)) : Sts H (pto a (exo a C (some dx)) :: pto dx (exd dx fs) :: L) := h
theorem gExo {H : Hp} {a C : Addr} {L : List Asr} (h : Sts H (pto a (exo a C none) :: L)) : Sts H (pto a (exo a C none) :: L) := h
/-- xs.insert(k, j), a list of ints -/
theorem oc_insertI {X : Cx} : MtR X "list.insert" (fun x vs H Q => ∃ l k j, x = .ref l ∧ vs = [.int k, .int j] ∧ ∃ (ns : List Int) (L : List Asr), Sts H (pto l (.lst (ns.map V.int)) :: L) ∧ (ns.length ≤ 1000000 ∧ 0 ≤ k ∧ k < 1000000) ∧ ∀ H', Sts H' (pto l (.lst ((ns.take k.toNat ++ [j] ++ ns.drop k.toNat).map V.int)) :: L) → Q .non H') := fun pins s σ H x xs v us Q I rx rs ⟨l, k, j, e1, e2, ns, L, S, ⟨hl, hk0, hk1⟩, q⟩ =>
  mt_insert pins s σ H x xs v us Q I rx rs ⟨l, _, k, .int j, e1, e2, S.hd, small (by rw [List.length_map]; exact hl), hk0, by omega, q _ (by rw [List.map_append, List.map_append, List.map_take, List.map_drop]; exact S.put _)⟩
end Oc
/-! ### classes: readings with names of their own -/
namespace Oc
open PySem PySem.Spec PyProof.Rows L2
section
variable {K : PySem.W.Frag} {σ : L2.St} {H : Hp} {Q : VK} {D : Ends} {i j : Int} {a b p q C : Addr} {v x y : V} {vs : List V} {L : List Asr} {ns : List Int} {ta tb tv : TE} {t : TA} {f m : Str} {sp : Sp} {fs : List (Str × V)} {dx : Addr} {os us : List (Option Int)}
def kFld (C : Addr) (f : Str) (Q : VK) : VK := fun x H => ∃ p v, x = .ref p ∧ FldAt C f H p v ∧ Q v H
theorem g_fld (k : ta σ H (kFld C f Q)) : tFldO C f ta σ H Q := k
theorem g_kFld (h : FldAt C f H p v) (k : Q v H) : kFld C f Q (.ref p) H := ⟨p, v, rfl, h, k⟩
def kMeth (C : Addr) (m : Str) (sp : Sp) (t : TA) (σ : L2.St) (Q : VK) : VK := fun x H => ∃ p, x = .ref p ∧ IsIns C m H p ∧ t σ H fun vs H2 => sp (.ref p :: vs) H2 Q E0
theorem g_meth (k : ta σ H (kMeth C m sp t σ Q)) : tMethO C m sp ta t σ H Q := k
theorem g_kMeth (h : IsIns C m H p) (k : t σ H fun vs H2 => sp (.ref p :: vs) H2 Q E0) : kMeth C m sp t σ Q (.ref p) H := ⟨p, rfl, h, k⟩
def kSet (C : Addr) (f : Str) (y : V) (R : L2.St → Hp → Prop) (σ : L2.St) : VK := fun x H => ∃ p, x = .ref p ∧ ∃ dx fs L, Sts H (pto p (.ins C dx fs) :: L) ∧ fs.length ≤ 100 ∧ ∀ H', Sts H' (pto p (.ins C dx (putF f y fs)) :: L) → R σ H'
theorem g_set (k : tv σ H fun y H1 => ta σ H1 (kSet C f y D.nx σ)) : sFldO C f ta tv D σ H := k
theorem g_kSet {R : L2.St → Hp → Prop} (S : Sts H (pto p (.ins C dx fs) :: L)) (l : fs.length ≤ 100) (k : ∀ H', Sts H' (pto p (.ins C dx (putF f y fs)) :: L) → R σ H') : kSet C f y R σ (.ref p) H := ⟨p, rfl, dx, fs, L, S, l, k⟩
def kNonR (Q : VK) (x : Addr) : VK := fun v H => v = .non ∧ Q (.ref x) H
theorem g_nonR (k : Q (.ref a) H) : kNonR Q a .non H := ⟨rfl, k⟩
def kMake (C : Addr) (sp : Sp) (dvs : List V) (Q : VK) (vs : List V) (H : Hp) : Prop := ∃ L, Sts H L ∧ ∀ x dx H2, Sts H2 (pto x (.ins C dx []) :: pto dx (.own x) :: L) → sp (.ref x :: (vs ++ dvs)) H2 (kNonR Q x) E0
theorem g_make {dvs : List V} (k : t σ H (kMake C sp dvs Q)) : tMakeO C sp dvs t σ H Q := k
theorem g_kMake {dvs : List V} (S : Sts H L) (k : ∀ x dx H2, Sts H2 (pto x (.ins C dx []) :: pto dx (.own x) :: L) → sp (.ref x :: (vs ++ dvs)) H2 (kNonR Q x) E0) : kMake C sp dvs Q vs H := ⟨L, S, k⟩
def kMakeE (C : Addr) (n m : Nat) (sp : Sp) (gV : List V → List V → List V) (Q : VK) (vs zs : List V) (H2 : Hp) : Prop := vs.length = n ∧ zs.length = m ∧ ∃ L, Sts H2 L ∧ ∀ x dx H3, Sts H3 (pto x (.ins C dx []) :: pto dx (.own x) :: L) → sp (gV (.ref x :: vs) zs) H3 (kNonR Q x) E0
theorem g_makeE {n m : Nat} {gV : List V → List V → List V} {tk : TA} (k : t σ H fun vs H1 => tk σ H1 fun zs H2 => kMakeE C n m sp gV Q vs zs H2) : tMakeE C n m sp gV t tk σ H Q := k
def IsC (C : Addr) (H : Hp) (p : Addr) : Prop := ∃ dx fs, H p = some (.ins C dx fs)
theorem isC_of (S : Sts H (pto p (.ins C dx fs) :: L)) : IsC C H p := ⟨dx, fs, S.hd⟩
def kOwn (C : Addr) (sp : Sp) (E : XK) (Q : VK) (x y : V) (H : Hp) : Prop := ∃ p q, x = .ref p ∧ y = .ref q ∧ IsC C H p ∧ IsC C H q ∧ sp [.ref p, .ref q] H Q E
theorem g_own2 {E : L2.St → XK} (k : ta σ H fun x H1 => tb σ H1 fun y H2 => kOwn C sp (E σ) Q x y H2) : tOwn2 C sp E ta tb σ H Q := k
theorem g_kOwn {E : XK} (h : IsC C H p) (h2 : IsC C H q) (k : sp [.ref p, .ref q] H Q E) : kOwn C sp E Q (.ref p) (.ref q) H := ⟨p, q, rfl, rfl, h, h2, k⟩
theorem isIns_of (S : Sts H (pto p (.ins C dx fs) :: L)) (l : fs.lookup m = none) : IsIns C m H p := ⟨dx, fs, S.hd, l⟩
def qEqOwn (C : Addr) (sp : Sp) : R2 := fun x y H Q => ∃ p q, x = .ref p ∧ y = .ref q ∧ IsC C H p ∧ IsC C H q ∧ sp [.ref p, .ref q] H Q E0
theorem g_eqOwn (h : IsC C H p) (h2 : IsC C H q) (k : sp [.ref p, .ref q] H Q E0) : qEqOwn C sp (.ref p) (.ref q) H Q := ⟨p, q, rfl, rfl, h, h2, k⟩
def qIsiC (C : Addr) : List V → Hp → VK → Prop := fun xs H Q => ∃ p, xs = [.ref p, .ref C] ∧ IsC C H p ∧ Q (.bl true) H
theorem g_isiC (h : IsC C H p) (k : Q (.bl true) H) : qIsiC C [.ref p, .ref C] H Q := ⟨p, rfl, h, k⟩
def qEqOs (K : PySem.W.Frag) : R2 := fun x y H Q => ∃ a b, ∃ ns ms : List (Option Int), x = .ref a ∧ y = .ref b ∧ SqL K H a (ns.map ov) ∧ SqL K H b (ms.map ov) ∧ Q (.bl (decide (ns = ms))) H
def qNeOs (K : PySem.W.Frag) : R2 := fun x y H Q => ∃ a b, ∃ ns ms : List (Option Int), x = .ref a ∧ y = .ref b ∧ SqL K H a (ns.map ov) ∧ SqL K H b (ms.map ov) ∧ Q (.bl (!decide (ns = ms))) H
theorem g_eqOs (h : SqL K H a (os.map ov)) (h2 : SqL K H b (us.map ov)) (k : Q (.bl (decide (os = us))) H) : qEqOs K (.ref a) (.ref b) H Q := ⟨a, b, os, us, rfl, rfl, h, h2, k⟩
theorem g_neOs (h : SqL K H a (os.map ov)) (h2 : SqL K H b (us.map ov)) (k : Q (.bl (!decide (os = us))) H) : qNeOs K (.ref a) (.ref b) H Q := ⟨a, b, os, us, rfl, rfl, h, h2, k⟩
def qIxO (K : PySem.W.Frag) : R2 := fun x y H Q => ∃ p, ∃ (ns : List (Option Int)) (i : Int), x = .ref p ∧ y = .int i ∧ SqL K H p (ns.map ov) ∧ (0 ≤ i ∧ i < ns.length) ∧ Q (ov (gO ns i)) H
theorem g_ixO (h : SqL K H a (os.map ov)) (b : 0 ≤ i ∧ i < os.length) (k : Q (ov (gO os i)) H) : qIxO K (.ref a) (.int i) H Q := ⟨a, os, i, rfl, rfl, h, b, k⟩
def qInsI : V → List V → Hp → VK → Prop := fun x vs H Q => ∃ l k j, x = .ref l ∧ vs = [.int k, .int j] ∧ ∃ (ns : List Int) (L : List Asr), Sts H (pto l (.lst (ns.map V.int)) :: L) ∧ (ns.length ≤ 1000000 ∧ 0 ≤ k ∧ k < 1000000) ∧ ∀ H', Sts H' (pto l (.lst ((ns.take k.toNat ++ [j] ++ ns.drop k.toNat).map V.int)) :: L) → Q .non H'
theorem g_insI (S : Sts H (pto a (.lst (ns.map V.int)) :: L)) (l : ns.length ≤ 1000000 ∧ 0 ≤ i ∧ i < 1000000) (k : ∀ H', Sts H' (pto a (.lst ((ns.take i.toNat ++ [j] ++ ns.drop i.toNat).map V.int)) :: L) → Q .non H') : qInsI (.ref a) [.int i, .int j] H Q := ⟨a, i, j, rfl, rfl, ns, L, S, l, k⟩
end
/-! own errors -/
section
variable {σ : L2.St} {H : Hp} {Q : VK} {D : Ends} {a d C : Addr} {y : V} {vs dvs : List V} {L M : List Asr} {f : Str} {sp : Sp} {fs : List (Str × V)} {to te : TE} {ta : TA} {R : L2.St → Hp → Prop} {E : XK}
def kOst1 (C : Addr) (f : Str) (y : V) (R : L2.St → Hp → Prop) (σ : L2.St) : VK := fun x H => ∃ a, x = .ref a ∧ ∃ L, Sts H (pto a (exo a C none) :: L) ∧ ∀ dx H', Sts H' (pto a (exo a C (some dx)) :: pto dx (exd dx [(f, y)]) :: L) → R σ H'
theorem g_ost1 (k : te σ H fun y H1 => to σ H1 (kOst1 C f y D.nx σ)) : sOst1 C f to te D σ H := k
theorem g_kOst1 (S : Sts H (pto a (exo a C none) :: L)) (k : ∀ dx H', Sts H' (pto a (exo a C (some dx)) :: pto dx (exd dx [(f, y)]) :: L) → R σ H') : kOst1 C f y R σ (.ref a) H := ⟨a, rfl, L, S, k⟩
def kOst2 (C : Addr) (f : Str) (y : V) (R : L2.St → Hp → Prop) (σ : L2.St) : VK := fun x H => ∃ a, x = .ref a ∧ ∃ dx fs L, Sts H (pto a (exo a C (some dx)) :: pto dx (exd dx fs) :: L) ∧ fs.length ≤ 900 ∧ ∀ H', Sts H' (pto a (exo a C (some dx)) :: pto dx (exd dx ((f, y) :: fs)) :: L) → R σ H'
theorem g_ost2 (k : te σ H fun y H1 => to σ H1 (kOst2 C f y D.nx σ)) : sOst2 C f to te D σ H := k
theorem g_kOst2 {dx : Addr} (S : Sts H (pto a (exo a C (some dx)) :: pto dx (exd dx fs) :: L)) (l : fs.length ≤ 900) (k : ∀ H', Sts H' (pto a (exo a C (some dx)) :: pto dx (exd dx ((f, y) :: fs)) :: L) → R σ H') : kOst2 C f y R σ (.ref a) H := ⟨a, rfl, dx, fs, L, S, l, k⟩
/-- what an error's __init__ leaves; what is raised then -/
def kXR (C : Addr) (L : List Asr) (H1 : Hp) (Q : XK) (a : Addr) : VK := fun v H2 => v = .non ∧ ∃ d fs M, Sts H2 (pto a (exo a C (some d)) :: pto d (exd d fs) :: whole H1 :: imw H1 :: M) ∧ ∀ H3, Sts H3 (pto d (.xd fs) :: (L ++ M)) → Q (.ref C) (some d) H3
def kMkX (C : Addr) (sp : Sp) (dvs : List V) (Q : XK) (vs : List V) (H1 : Hp) : Prop := vs.length ≤ 1000 ∧ ∃ L, Sts H1 L ∧ ∀ a H', Sts H' (pto a (exo a C none) :: [whole H1, imw H1]) → sp (.ref a :: (vs ++ dvs)) H' (kXR C L H1 Q a) E0
theorem g_mkX (k : ta σ H (kMkX C sp dvs E)) : tMkX C sp dvs ta σ H E := k
theorem g_kMkX (l : vs.length ≤ 1000) (S : Sts H L) (k : ∀ a H', Sts H' (pto a (exo a C none) :: [whole H, imw H]) → sp (.ref a :: (vs ++ dvs)) H' (kXR C L H E a) E0) : kMkX C sp dvs E vs H := ⟨l, L, S, k⟩
theorem g_kXR {H1 : Hp} (S : Sts H (pto a (exo a C (some d)) :: pto d (exd d fs) :: [whole H1, imw H1])) (k : ∀ H3, Sts H3 (pto d (.xd fs) :: L) → E (.ref C) (some d) H3) : kXR C L H1 E a .non H := ⟨rfl, d, fs, [], S, fun H3 T => k H3 (by rwa [List.append_nil] at T)⟩
def qIsE (D : Addr) (cls : Value) (d : Option Addr) (a : Addr) (c : V) (b : Bool) : List V → Hp → VK → Prop := fun xs H Q => cls = .ref D ∧ xs = [.ref a, c] ∧ (∃ dd fs, d = some dd ∧ H dd = some (.xd fs)) ∧ Q (.bl b) H
theorem g_isE {c : V} {b : Bool} (h : H d = some (.xd fs)) (k : Q (.bl b) H) : qIsE C (.ref C) (some d) a c b [.ref a, c] H Q := ⟨rfl, rfl, ⟨d, fs, rfl, h⟩, k⟩
def kXf (a : Addr) (cls : Value) (d : Option Addr) (C : Addr) (f : Str) (Q : VK) : VK := fun x H1 => x = .ref a ∧ cls = .ref C ∧ ∃ (dd : Addr) (fs : List (Str × V)) (v : V), d = some dd ∧ H1 dd = some (.xd fs) ∧ fs.lookup f = some v ∧ Q v H1
theorem g_xf {cls : Value} {o : Option Addr} (k : te σ H (kXf a cls o C f Q)) : tXf a cls o C f te σ H Q := k
theorem g_kXf {v : V} (h : H d = some (.xd fs)) (l : fs.lookup f = some v) (k : Q v H) : kXf a (.ref C) (some d) C f Q (.ref a) H := ⟨rfl, rfl, d, fs, v, rfl, h, l, k⟩
def sRaiseO (t : L2.St → Hp → XK → Prop) (W : WX) : TS := fun _ σ H => t σ H fun cls d H' => W cls d σ H'
theorem g_raise {t : L2.St → Hp → XK → Prop} {W : WX} (k : t σ H fun cls d H' => W cls d σ H') : sRaiseO t W D σ H := k
end
section
variable {X : Cx} {K : PySem.W.Frag} {C : Addr}
theorem v_eqOwn {k : Nat} {g : Addr} {fd : FuncData} {ps : List Str} {sp : Sp} (hs : PySem.W.findIn X.K (.ref C) "__eq__" = some (some (.ref g))) (hf : PySem.W.isFn X.K (.ref g) = true)
    (F : FnOk X.prog X.w X.K X.mg X.base CX0 k g fd ps sp) (hr : Room k X.A) (hb : Binds X.K fd ps []) : OpR X (compareOp .Eq) (qEqOwn C sp) := oc_eqOwn hs hf F hr hb
theorem v_isiC (c : C8.InsC X.K C) : CallR X (.builtin "isinstance") (qIsiC C) := oc_isiC c
theorem v_eqOs (hK : X.K = K) (hu : X.A.units + 64 < cLine) : OpR X (compareOp .Eq) (qEqOs K) := oc_eq_opts hK hu
theorem v_neOs (hK : X.K = K) (hu : X.A.units + 64 < cLine) : OpR X (compareOp .NotEq) (qNeOs K) := oc_ne_opts hK hu
theorem v_ixO (hK : X.K = K) : IxR X (qIxO K) := oc_ixO hK
theorem v_raise {W : WX} {t : L2.St → Hp → XK → Prop} {e : Expr} {pos : Pos} (hc : X.calm = true) (tk : L2N.Takes X W) (he : L2N.PMk X e t) : PS X (.Raise (some e) none pos) (sRaiseO t W) := oc_raise hc tk he
theorem v_isE {a D : Addr} {oe : Obj} {d : Option Addr} {cls : Value} {pn : List (Addr × Obj)} {c : V} {cv : Value} {b : Bool} (hC : ExcC X.K D) (hz : Zc cls d oe) (hf : ∃ vs, oe.data = .fields vs) (hk : PySem.W.kitOne X.K (.ref D) cv = some b) (hcv : ∀ u, RelV c u → u = cv) :
    CallR (X.suite a ((a, oe) :: pn)) (.builtin "isinstance") (qIsE D cls d a c b) := oc_isE hC hz hf hk hcv
theorem v_insertI : MtR X "list.insert" qInsI := oc_insertI
end
end Oc
/-! ### lists of pairs, dicts whose keys are pairs -/
namespace Oc
open PySem PySem.Spec PyProof.Rows L2
abbrev PI2 := Int × Int
abbrev pV (p : PI2) : List V := [.int p.1, .int p.2]
/-- a list of the tuples ts, the pairs ps -/
def Prs (τ : Tmap) (ts : List Addr) (ps : List PI2) : Prop := ts.map τ = ps.map fun p => some (pV p)
def PrH (H : Hp) (ts : List Addr) (ps : List PI2) : Prop := ts.map H = ps.map fun p => some (.tup (pV p))
theorem Prs.len {τ : Tmap} {ts : List Addr} {ps : List PI2} (h : Prs τ ts ps) : ts.length = ps.length := by
  have z := congrArg List.length h
  rwa [List.length_map, List.length_map] at z
theorem Prs.at {τ : Tmap} {ts : List Addr} {ps : List PI2} (h : Prs τ ts ps) {i : Nat} {t : Addr} (e : ts[i]? = some t) : ∃ p, ps[i]? = some p ∧ τ t = some (pV p) := by
  have z := congrArg (fun l => l[i]?) h
  simp only [List.getElem?_map, e] at z
  cases q : ps[i]? with
  | none =>
    rw [q] at z
    cases z
  | some p =>
    rw [q] at z
    exact ⟨p, rfl, Option.some.inj z⟩
theorem Prs.at' {τ : Tmap} {ts : List Addr} {ps : List PI2} (h : Prs τ ts ps) {i : Nat} {p : PI2} (e : ps[i]? = some p) : ∃ t, ts[i]? = some t ∧ τ t = some (pV p) := by
  have z := congrArg (fun l => l[i]?) h
  simp only [List.getElem?_map, e] at z
  cases q : ts[i]? with
  | none =>
    rw [q] at z
    cases z
  | some t =>
    rw [q] at z
    exact ⟨t, rfl, Option.some.inj z⟩
theorem Prs.mono {τ υ : Tmap} (l : Le τ υ) : ∀ {ts : List Addr} {ps : List PI2}, Prs τ ts ps → Prs υ ts ps
  | [], [], _ => rfl
  | [], _ :: _, h => by simp [Prs] at h
  | _ :: _, [], h => by simp [Prs] at h
  | t :: ts, p :: ps, h => by
    obtain ⟨h1, h2⟩ := List.cons.inj h
    have z := Prs.mono l (ts := ts) (ps := ps) h2
    show υ t :: ts.map υ = some (pV p) :: ps.map _
    rw [l t _ h1]
    exact congrArg _ z
theorem Prs.app {τ : Tmap} {ts us : List Addr} {ps qs : List PI2} (h : Prs τ ts ps) (g : Prs τ us qs) : Prs τ (ts ++ us) (ps ++ qs) := by
  unfold Prs
  rw [List.map_append, List.map_append, h, g]
theorem Prs.snoc {τ : Tmap} {ts : List Addr} {ps : List PI2} (h : Prs τ ts ps) {t : Addr} {p : PI2} (e : τ t = some (pV p)) : Prs τ (ts ++ [t]) (ps ++ [p]) := h.app (by show [τ t] = [some (pV p)]; rw [e])
theorem Prs.nil {τ : Tmap} : Prs τ [] [] := rfl
theorem Prs.take {τ : Tmap} {ts : List Addr} {ps : List PI2} (h : Prs τ ts ps) (n : Nat) : Prs τ (ts.take n) (ps.take n) := by
  unfold Prs
  rw [List.map_take, List.map_take, h]
theorem Prs.drop {τ : Tmap} {ts : List Addr} {ps : List PI2} (h : Prs τ ts ps) (n : Nat) : Prs τ (ts.drop n) (ps.drop n) := by
  unfold Prs
  rw [List.map_drop, List.map_drop, h]
theorem Sts.learnL {L : List Asr} : ∀ {τ : Tmap} {H : Hp} {ts : List Addr} {ps : List PI2}, Sts H (.im τ :: L) → PrH H ts ps → ∃ υ, Le τ υ ∧ Prs υ ts ps ∧ Sts H (.im υ :: L)
  | τ, H, [], [], S, _ => ⟨τ, Le.refl _, rfl, S⟩
  | _, _, [], _ :: _, _, h => by simp [PrH] at h
  | _, _, _ :: _, [], _, h => by simp [PrH] at h
  | τ, H, t :: ts, p :: ps, S, h => by
    obtain ⟨h1, h2⟩ := List.cons.inj h
    obtain ⟨υ, l1, e1, S1⟩ := S.learn h1
    obtain ⟨φ, l2, r, S2⟩ := S1.learnL (ts := ts) (ps := ps) h2
    refine ⟨φ, l1.trans l2, ?_, S2⟩
    show φ t :: ts.map φ = some (pV p) :: ps.map _
    rw [l2 t _ e1]
    exact congrArg _ r
/-! the order -/
def leP (p q : PI2) : Bool := decide (p.1 < q.1 ∨ (p.1 = q.1 ∧ p.2 ≤ q.2))
theorem leP_iff {p q : PI2} : leP p q = true ↔ (p.1 < q.1 ∨ (p.1 = q.1 ∧ p.2 ≤ q.2)) := decide_eq_true_iff
theorem leP_tr (p q r : PI2) (h : leP p q = true) (g : leP q r = true) : leP p r = true := by
  rw [leP_iff] at *
  omega
theorem leP_total (p q : PI2) : (leP p q || leP q p) = true := by
  rw [Bool.or_eq_true, leP_iff, leP_iff]
  omega
theorem leP_asymm {p q : PI2} (h : leP p q = true) (g : leP q p = true) : p = q := by
  rw [leP_iff] at *
  exact Prod.ext (by omega) (by omega)
def srt (ps : List PI2) : List PI2 := ps.mergeSort leP
theorem srt_perm (ps : List PI2) : (srt ps).Perm ps := List.mergeSort_perm ps leP
theorem srt_pw (ps : List PI2) : (srt ps).Pairwise fun p q => leP p q = true := List.pairwise_mergeSort leP_tr leP_total ps
theorem srt_len (ps : List PI2) : (srt ps).length = ps.length := (srt_perm ps).length_eq
theorem srt_mem {ps : List PI2} {p : PI2} : p ∈ srt ps ↔ p ∈ ps := (srt_perm ps).mem_iff
theorem pw_uniq : ∀ {l m : List PI2}, l.Perm m → (l.Pairwise fun p q => leP p q = true) → (m.Pairwise fun p q => leP p q = true) → l = m
  | [], m, h, _, _ => h.nil_eq
  | a :: l, [], h, _, _ => absurd h.length_eq (by simp)
  | a :: l, b :: m, h, hl, hm => by
    obtain ⟨ha, hl'⟩ := List.pairwise_cons.mp hl
    obtain ⟨hb, hm'⟩ := List.pairwise_cons.mp hm
    have e : a = b := by
      have h1 : a ∈ b :: m := h.mem_iff.mp List.mem_cons_self
      have h2 : b ∈ a :: l := h.mem_iff.mpr List.mem_cons_self
      rcases List.mem_cons.mp h1 with q | q
      · exact q
      · rcases List.mem_cons.mp h2 with r | r
        · exact r.symm
        · exact leP_asymm (ha b r) (hb a q)
    subst e
    rw [pw_uniq h.cons_inv hl' hm']
theorem srt_uniq {l m : List PI2} (h : l.Perm m) (p : l.Pairwise fun p q => leP p q = true) : l = srt m := pw_uniq (h.trans (srt_perm m).symm) p (srt_pw m)
theorem srt_congr {l m : List PI2} (h : l.Perm m) : srt l = srt m := srt_uniq ((srt_perm l).trans h) (srt_pw l)
theorem lexB_leP {p q : PI2} (h : SrtO.lexB q p = false) : leP p q = true := by
  have z := SrtO.lexB_no.mp h
  rw [leP_iff]
  omega
/-! a list that is sorted -/
def kP (H : Hp) : V → PI2
  | .ref t => match H t with | some (.tup [.int i, .int j]) => (i, j) | _ => (0, 0)
  | _ => (0, 0)
theorem kP_of {H : Hp} {t : Addr} {p : PI2} (e : H t = some (.tup (pV p))) : kP H (.ref t) = p := by
  show (match H t with | some (.tup [.int i, .int j]) => (i, j) | _ => (0, 0)) = p
  rw [e]
theorem PrH.at {H : Hp} {ts : List Addr} {ps : List PI2} (h : PrH H ts ps) {t : Addr} (m : t ∈ ts) : ∃ p, p ∈ ps ∧ H t = some (.tup (pV p)) := by
  have z : H t ∈ ts.map H := List.mem_map_of_mem m
  rw [h] at z
  obtain ⟨p, hp, e⟩ := List.mem_map.mp z
  exact ⟨p, hp, e.symm⟩
theorem PrH.kP {H : Hp} {ts : List Addr} {ps : List PI2} (h : PrH H ts ps) : ts.map (fun t => kP H (.ref t)) = ps := by
  unfold PrH at h
  induction ts generalizing ps with
  | nil =>
    cases ps with
    | nil => rfl
    | cons a b => simp at h
  | cons t ts ih =>
    cases ps with
    | nil => simp at h
    | cons p ps =>
      obtain ⟨h1, h2⟩ := List.cons.inj h
      rw [List.map_cons, kP_of h1, ih h2]
theorem PrH.perm {H : Hp} {ts us : List Addr} {ps : List PI2} (h : PrH H ts ps) (m : us.Perm ts) : PrH H us (us.map fun t => Oc.kP H (.ref t)) := by
  unfold PrH
  rw [List.map_map]
  refine List.map_congr_left fun t ht => ?_
  obtain ⟨p, _, e⟩ := h.at (m.mem_iff.mp ht)
  show H t = some (.tup (pV (Oc.kP H (.ref t))))
  rw [kP_of e, e]
/-- us, sorted by their pairs -/
theorem PrH.sorted {H : Hp} {ts us : List Addr} {ps : List PI2} (h : PrH H ts ps) (m : us.Perm ts) (s : us.Pairwise fun t u => SrtO.lexB (Oc.kP H (.ref u)) (Oc.kP H (.ref t)) = false) : PrH H us (srt ps) := by
  have z := h.perm m
  have e : us.map (fun t => Oc.kP H (.ref t)) = srt ps := by
    refine srt_uniq ?_ ?_
    · rw [← h.kP]
      exact m.map _
    · rw [List.pairwise_map]
      exact s.imp fun h => lexB_leP h
  rwa [e] at z
def qSortP (K : PySem.W.Frag) : List V → Hp → VK → Prop := fun vs H Q => ∃ (a : Addr) (ts : List Addr) (ps : List PI2), vs = [V.ref a] ∧ SqL K H a (ts.map V.ref) ∧ PrH H ts ps ∧ ∀ us, PrH H us (srt ps) → qNew H (.lst (us.map V.ref)) Q
theorem refs_of {ys : List V} {ts : List Addr} (h : ys.Perm (ts.map V.ref)) : ∃ us : List Addr, ys = us.map V.ref ∧ us.Perm ts := by
  have hm : ∀ y ∈ ys, ∃ t, y = V.ref t := fun y hy => by
    obtain ⟨t, _, e⟩ := List.mem_map.mp (h.mem_iff.mp hy)
    exact ⟨t, e.symm⟩
  have g : ∀ l : List V, (∀ y ∈ l, ∃ t, y = V.ref t) → ∃ us : List Addr, l = us.map V.ref := by
    intro l
    induction l with
    | nil => exact fun _ => ⟨[], rfl⟩
    | cons y l ih =>
      intro hm
      obtain ⟨t, e⟩ := hm y List.mem_cons_self
      obtain ⟨us, e2⟩ := ih fun z hz => hm z (List.mem_cons_of_mem _ hz)
      exact ⟨t :: us, by rw [e, e2]; rfl⟩
  obtain ⟨us, e⟩ := g ys hm
  refine ⟨us, e, ?_⟩
  rw [e] at h
  let f : V → Addr := fun v => match v with | .ref t => t | _ => 0
  have z := h.map f
  have e1 : ∀ l : List Addr, (l.map V.ref).map f = l := fun l => by
    rw [List.map_map]
    exact (List.map_congr_left fun t _ => rfl).trans (List.map_id l)
  rwa [e1, e1] at z
section
variable {X : Cx} {K : PySem.W.Frag}
theorem v_sortP (hK : X.K = K) : CallR X (.builtin "sorted") (qSortP K) := by
  subst hK
  intro pins s σ H vs us Q I r ⟨a, ts, ps, e, hs, hp, q⟩
  refine cr_sortedPO pins s σ H vs us Q I r ⟨a, ts.map V.ref, kP H, e, hs, fun x hx => ?_, fun ys p h1 h2 np => ?_⟩
  · obtain ⟨t, ht, rfl⟩ := List.mem_map.mp hx
    obtain ⟨p, _, e2⟩ := hp.at ht
    exact ⟨t, rfl, by rw [kP_of e2]; exact e2⟩
  · obtain ⟨us2, rfl, hperm⟩ := refs_of h2.perm
    refine q us2 (hp.sorted hperm ?_) p np
    have z := List.pairwise_map.mp h1
    exact z
/-- the keys of a dict, sorted: pairs of ints -/
def pk (p : PI2) : List Key := [.inl p.1, .inl p.2]
theorem pk_V (p : PI2) : (pk p).map kV = pV p := rfl
def qSortDT : List V → Hp → VK → Prop := fun vs H Q => ∃ (d : Addr) (kvs : List (List Key × V)) (ps : List PI2), vs = [V.ref d] ∧ H d = some (.dT kvs) ∧ kvs.map (·.1) = ps.map pk ∧ ∀ us, PrH H us (srt ps) → qNew H (.lst (us.map V.ref)) Q
theorem isKeys_PrH {H : Hp} : ∀ {kvs : List (List Key × V)} {bs : List Addr} {ps : List PI2}, IsKeys H kvs bs → kvs.map (·.1) = ps.map pk → PrH H bs ps
  | [], _, [], h, _ => by
    cases h
    rfl
  | [], _, _ :: _, _, e => by simp at e
  | _ :: _, _, [], _, e => by simp at e
  | kv :: kvs, _, p :: ps, h, e => by
    cases h with
    | cons h1 h2 =>
      obtain ⟨e1, e2⟩ := List.cons.inj e
      have z := isKeys_PrH (ps := ps) h2 e2
      have e1 : kv.1 = pk p := e1
      rw [e1] at h1
      show _ :: _ = _ :: _
      rw [h1, z]
      rfl
theorem v_sortDT (hc : X.calm = true) : CallR X (.builtin "sorted") qSortDT := by
  intro pins s σ H xs us Q I r ⟨d, kvs, ps, e, hd, hk, q⟩
  subst e
  obtain ⟨u, rfl, rx⟩ := r.one
  cases rx
  obtain ⟨z, hs, ks, pr, o, es, ep, ho, hx, hdt, he, hn⟩ := (show ObjOk X.prog X.w H s.heap d (.dT kvs) from I.hok _ _ hd)
  have l1 : es.size = ks.length := size_of_entries he
  have l2 : kvs.length = ks.length := Paired.length pr
  have hP : PrH H (ks.map fun x => x.2.1) ps := isKeys_PrH (isKeys_of pr) hk
  have h16 : es.size ≤ sizeLine := by omega
  refine Calls.call_function_entry PyProof.Rows.kind_sorted PyProof.Rows.plain_sorted PyProof.Rows.entry_sorted (PyProof.Rows.args_sorted1 _) ?_
  unfold Builtin.«sorted»
  refine wpAny_bind (m := checkCount "sorted" 1 1 _) (wpAny_pure ?_)
  refine wpAny_bind (PySem.W.kdu_collect (A := X.A.in1) (kdl_raw hs hx hdt) (I.ok.hd hc) ho h16 fun h' tk acc kp it => ?_)
  have ea : acc.toList = (ks.map fun x => x.2.1).map Value.ref := by
    rw [List.map_map]
    have hl : acc.toList.length = ks.length := by rw [Array.length_toList, it.1]; exact l1
    apply List.ext_getElem?
    intro j
    rw [List.getElem?_map]
    cases hj : acc.toList[j]? with
    | none =>
      have h1 := List.getElem?_eq_none_iff.mp hj
      rw [List.getElem?_eq_none (by omega)]
      all_goals rfl
    | some v =>
      obtain ⟨en, hen, hv⟩ := it.2 j v (by rw [← Array.getElem?_toList]; exact hj)
      have qe := entry_at he j
      rw [hen] at qe
      cases hb : ks[j]? with
      | none =>
        rw [hb] at qe
        exact nomatch (show some en = none from qe)
      | some b =>
        rw [hb] at qe
        have e2 : en = entryOfKey (tupleKind (mixKind X.prog X.w)) b := Option.some.inj qe
        rw [hv, e2]
        all_goals rfl
  have hal : acc.toList.length ≤ sizeLine := by rw [Array.length_toList, it.1]; exact h16
  generalize hbs : (ks.map fun x => x.2.1) = bs at *
  have I1 : Inv X pins σ H { s with heap := h', toks := tk } := I.kept kp
  refine wpAny_bind (wpAny_newList ?_ hal)
  have hoL : (h'.push (seqObj "list" acc.toList.toArray 0)).get? h'.objs.size = some (seqObj "list" acc.toList.toArray 0) := Heap.get?_push_size _ rfl
  have kp2 : ∀ b o, h'.get? b = some o → (h'.push (seqObj "list" acc.toList.toArray 0)).get? b = some o := fun b o q => Heap.get?_push_of_some _ q
  let kf : Value → PI2 := fun v => kP H (backV v)
  have hpair : ∀ v ∈ acc.toList, Srt.IsPair (h'.push (seqObj "list" acc.toList.toArray 0)) v (kf v).1 (kf v).2 := fun v hv => by
    rw [ea] at hv
    obtain ⟨t, ht, rfl⟩ := List.mem_map.mp hv
    obtain ⟨p, _, e2⟩ := hP.at ht
    obtain ⟨_, its2, r2, o2, ho2, hc2, n2, hd2⟩ := I1.hok _ _ e2
    obtain ⟨u1, u2, rfl, ri, rj⟩ := vals2 r2
    obtain ⟨t1, rfl⟩ := ri
    obtain ⟨t2, rfl⟩ := rj
    have ek : kf (Value.ref t) = p := kP_of e2
    rw [ek]
    exact ⟨t, o2, t1, t2, n2, rfl, kp2 _ _ ho2, hc2, hd2⟩
  show wpAny _ _ _ _ _ { s with heap := h'.push (seqObj "list" acc.toList.toArray 0), toks := tk }
  refine wpAny_bind (wpAny_holding (wpAny_call_entry PyProof.Rows.slot_list_sort ⟨_, hoL, rfl⟩ PyProof.Rows.entry_list_sort
    (SrtO.list_sort_ord (s := { s with heap := h'.push (seqObj "list" acc.toList.toArray 0), toks := tk }) (SrtO.swo_lex kf) hoL hal (fun h2 => SrtO.pairs_sortableO (k := kf) (by omega) hpair fun o e => ?_) fun out g1 g2 => ⟨_, rfl, ?_⟩) (PyProof.Rows.args_list_sort _)))
  · have e' : some o = some (seqObj "list" acc.toList.toArray 0) := e.symm.trans hoL
    cases e'
    intro c
    exact absurd (Value.type.inj c) (by decide)
  · obtain ⟨e', he'⟩ := PyProof.Rows.sortedHeap_at (vs := acc.toList) (out := out.toArray) hoL
    have hperm : out.Perm (bs.map Value.ref) := by rw [← ea]; exact g2.perm
    obtain ⟨cs, hcs, hcp⟩ : ∃ cs : List Addr, out = cs.map Value.ref ∧ cs.Perm bs := by
      have hp2 : (out.map backV).Perm (bs.map V.ref) := by
        have z := hperm.map backV
        rw [List.map_map] at z
        exact z
      obtain ⟨cs, e1, e2⟩ := refs_of hp2
      refine ⟨cs, ?_, e2⟩
      have hm : ∀ v ∈ out, ∃ t, v = Value.ref t := fun v hv => by
        obtain ⟨t, _, e⟩ := List.mem_map.mp (hperm.mem_iff.mp hv)
        exact ⟨t, e.symm⟩
      clear he' g1 g2 hperm hp2 e2
      induction out generalizing cs with
      | nil =>
        cases cs with
        | nil => rfl
        | cons a b => simp at e1
      | cons v out ih =>
        cases cs with
        | nil => simp at e1
        | cons c cs =>
          obtain ⟨f1, f2⟩ := List.cons.inj e1
          obtain ⟨t, rfl⟩ := hm v List.mem_cons_self
          have f1 : V.ref t = V.ref c := f1
          cases f1
          rw [ih cs f2 fun w hw => hm w (List.mem_cons_of_mem _ hw)]
          rfl
    subst hcs
    have hlen : (cs.map V.ref).length ≤ sizeLine := by
      rw [List.length_map, hcp.length_eq, ← List.length_map (f := Value.ref), ← ea]
      exact hal
    refine wpAny_pure ⟨_, rfl, .ref h'.objs.size, upd H h'.objs.size (.lst (cs.map V.ref)), I1.laid (t' := tk) (fun b u e => ?_) (Nat.le_refl _) ⟨hlen, cs.map Value.ref, e', vals_refs cs, he'⟩, rfl, ?_⟩
    · rw [PyProof.Rows.sortedHeap_old (Nat.ne_of_lt (Heap.lt_size e)) (by rw [size_push']; exact Nat.lt_succ_of_lt (Heap.lt_size e))]
      exact kp2 _ _ e
    · refine q cs (hP.sorted hcp ?_) _ (I1.hok.fresh (Nat.le_refl _))
      exact (List.pairwise_map.mp g1)
end
end Oc
/-! ### pairs as data: ==, in; dicts by pairs; rows -/
namespace Oc
open PySem PySem.Spec PyProof.Rows L2
def pdP (p : PI2) : PyData := .tuple [.int p.1, .int p.2]
theorem dp_pair {K : PySem.W.Frag} {H : Hp} {t : Addr} {p : PI2} (e : H t = some (.tup (pV p))) : Dp K H (.ref t) (pdP p) := .tup (SqT.of e) (.cons (.int _) (.cons (.int _) .nil))
theorem dp_pairs {K : PySem.W.Frag} {H : Hp} : ∀ {ts : List Addr} {ps : List PI2}, PrH H ts ps → DpAll K H (ts.map V.ref) (ps.map pdP)
  | [], [], _ => .nil
  | [], _ :: _, h => by simp [PrH] at h
  | _ :: _, [], h => by simp [PrH] at h
  | t :: ts, p :: ps, h => by
    obtain ⟨h1, h2⟩ := List.cons.inj h
    exact .cons (dp_pair h1) (dp_pairs (ts := ts) (ps := ps) h2)
theorem eqv_pair (p q : PI2) : PyData.eqv (pdP p) (pdP q) = decide (p = q) := by
  obtain ⟨a, b⟩ := p
  obtain ⟨c, d⟩ := q
  simp only [pdP, PyData.eqv, PyData.eqvAll]
  by_cases h1 : a = c <;> by_cases h2 : b = d <;> simp [h1, h2]
theorem eqv_pairs : ∀ ps qs : List PI2, PyData.eqvAll (ps.map pdP) (qs.map pdP) = decide (ps = qs)
  | [], [] => by simp [PyData.eqvAll]
  | [], _ :: _ => by simp [PyData.eqvAll]
  | _ :: _, [] => by simp [PyData.eqvAll]
  | p :: ps, q :: qs => by
    simp only [List.map_cons, PyData.eqvAll, eqv_pair, eqv_pairs ps qs]
    by_cases h1 : p = q <;> by_cases h2 : ps = qs <;> simp [h1, h2]
theorem lay_pair (p : PI2) : PyData.canLay0 (pdP p) = true := by simp [pdP, PyData.canLay0, PyData.canLayAll0]
theorem lay_pairs : ∀ ps : List PI2, PyData.canLayAll0 (ps.map pdP) = true
  | [] => by simp [PyData.canLayAll0]
  | p :: ps => by simp [PyData.canLayAll0, lay_pair, lay_pairs ps]
theorem depth_pair (p : PI2) : PyData.depth (pdP p) = 1 := by simp [pdP, PyData.depth, PyData.depthAll]
theorem depth_pairs : ∀ ps : List PI2, PyData.depthAll (ps.map pdP) ≤ 1
  | [] => by simp [PyData.depthAll]
  | p :: ps => by
    have := depth_pairs ps
    simp only [List.map_cons, PyData.depthAll, depth_pair]
    omega
theorem shaped_pair (p : PI2) : SeqAt.shaped (pdP p) = true := by
  unfold SeqAt.shaped
  rw [lay_pair, depth_pair]
  rfl
theorem shaped_pairs (ps : List PI2) : SeqAt.shaped (.list (ps.map pdP)) = true := by
  unfold SeqAt.shaped
  have e : PyData.canLay0 (.list (ps.map pdP)) = true := by simp [PyData.canLay0, lay_pairs]
  have d : PyData.depth (.list (ps.map pdP)) ≤ 64 := by
    have := depth_pairs ps
    simp only [PyData.depth]
    omega
  rw [e, Bool.true_and]
  exact decide_eq_true d
theorem any_pairs (ps : List PI2) (p : PI2) : ((ps.map pdP).any fun z => PyData.eqv z (pdP p)) = decide (p ∈ ps) := by
  rw [List.any_map]
  induction ps with
  | nil => rfl
  | cons q ps ih =>
    rw [List.any_cons, ih]
    show (PyData.eqv (pdP q) (pdP p) || decide (p ∈ ps)) = _
    rw [eqv_pair]
    by_cases h1 : q = p
    · subst h1
      simp
    · have h1' : ¬ p = q := fun e => h1 e.symm
      by_cases h2 : p ∈ ps <;> simp [h1, h1', h2]
def qInPs (K : PySem.W.Frag) (neg : Bool) : R2 := fun x y H Q => ∃ (t a : Addr) (ts : List Addr) (p : PI2) (ps : List PI2), x = .ref t ∧ y = .ref a ∧ H t = some (.tup (pV p)) ∧ SqL K H a (ts.map V.ref) ∧ PrH H ts ps ∧ Q (.bl (if neg then !decide (p ∈ ps) else decide (p ∈ ps))) H
def qEqPs (K : PySem.W.Frag) (neg : Bool) : R2 := fun x y H Q => ∃ (a b : Addr) (ts us : List Addr) (ps qs : List PI2), x = .ref a ∧ y = .ref b ∧ SqL K H a (ts.map V.ref) ∧ PrH H ts ps ∧ SqL K H b (us.map V.ref) ∧ PrH H us qs ∧ Q (.bl (if neg then !decide (ps = qs) else decide (ps = qs))) H
/-- i in (a, b) -/
def qInP (K : PySem.W.Frag) (neg : Bool) : R2 := fun x y H Q => ∃ (i : Int) (t : Addr) (p : PI2), x = .int i ∧ y = .ref t ∧ H t = some (.tup (pV p)) ∧ Q (.bl (if neg then !decide (i = p.1 ∨ i = p.2) else decide (i = p.1 ∨ i = p.2))) H
section
variable {X : Cx} {K : PySem.W.Frag}
theorem v_inPs (hK : X.K = K) (hu : X.A.units + 65 < cLine) : OpR X (compareOp .In) (qInPs K false) := by
  subst hK
  exact fun pins s σ H x y v u Q I rx ry ⟨t, a, ts, p, ps, e1, e2, ht, ha, hp, q⟩ => op_inD hu pins s σ H x y v u Q I rx ry ⟨pdP p, ps.map pdP, e1 ▸ dp_pair ht, e2 ▸ .lst ha (dp_pairs hp), shaped_pair p, shaped_pairs ps, by rw [any_pairs]; exact q⟩
theorem v_notInPs (hK : X.K = K) (hu : X.A.units + 65 < cLine) : OpR X (compareOp .NotIn) (qInPs K true) := by
  subst hK
  exact fun pins s σ H x y v u Q I rx ry ⟨t, a, ts, p, ps, e1, e2, ht, ha, hp, q⟩ => op_notInD hu pins s σ H x y v u Q I rx ry ⟨pdP p, ps.map pdP, e1 ▸ dp_pair ht, e2 ▸ .lst ha (dp_pairs hp), shaped_pair p, shaped_pairs ps, by rw [any_pairs]; exact q⟩
theorem v_eqPs (hK : X.K = K) (hu : X.A.units + 64 < cLine) : OpR X (compareOp .Eq) (qEqPs K false) := by
  subst hK
  exact fun pins s σ H x y v u Q I rx ry ⟨a, b, ts, us, ps, qs, e1, e2, ha, hp, hb, hq, q⟩ => op_eqD hu pins s σ H x y v u Q I rx ry ⟨.list (ps.map pdP), .list (qs.map pdP), e1 ▸ .lst ha (dp_pairs hp), e2 ▸ .lst hb (dp_pairs hq), shaped_pairs ps, shaped_pairs qs, by
    have e : PyData.eqv (.list (ps.map pdP)) (.list (qs.map pdP)) = decide (ps = qs) := by
      rw [← eqv_pairs]
      simp only [PyData.eqv]
    rw [e]
    exact q⟩
theorem v_nePs (hK : X.K = K) (hu : X.A.units + 64 < cLine) : OpR X (compareOp .NotEq) (qEqPs K true) := by
  subst hK
  exact fun pins s σ H x y v u Q I rx ry ⟨a, b, ts, us, ps, qs, e1, e2, ha, hp, hb, hq, q⟩ => op_neD hu pins s σ H x y v u Q I rx ry ⟨.list (ps.map pdP), .list (qs.map pdP), e1 ▸ .lst ha (dp_pairs hp), e2 ▸ .lst hb (dp_pairs hq), shaped_pairs ps, shaped_pairs qs, by
    have e : PyData.eqv (.list (ps.map pdP)) (.list (qs.map pdP)) = decide (ps = qs) := by
      rw [← eqv_pairs]
      simp only [PyData.eqv]
    rw [e]
    exact q⟩
theorem inV_pair (i a b : Int) : inV (.int i) [.int a, .int b] = decide (i = a ∨ i = b) := by
  have z := in_ints i [a, b]
  have z : inV (.int i) [.int a, .int b] = _ := z
  rw [z]
  by_cases h1 : i = a <;> by_cases h2 : i = b <;> simp [h1, h2]
theorem v_inP (hK : X.K = K) : OpR X (compareOp .In) (qInP K false) := fun pins s σ H x y v u Q I rx ry ⟨i, t, p, e1, e2, ht, q⟩ =>
  op_in_seq pins s σ H x y v u Q I rx ry ⟨t, pV p, e2, .inr (SqT.of ht), by rw [e1]; rfl, rfl, by rw [e1]; show Q (.bl (inV (.int i) [.int p.1, .int p.2])) H; rw [inV_pair]; exact q⟩
theorem v_notInP (hK : X.K = K) : OpR X (compareOp .NotIn) (qInP K true) := fun pins s σ H x y v u Q I rx ry ⟨i, t, p, e1, e2, ht, q⟩ =>
  op_notIn_seq pins s σ H x y v u Q I rx ry ⟨t, pV p, e2, .inr (SqT.of ht), by rw [e1]; rfl, rfl, by rw [e1]; show Q (.bl (!inV (.int i) [.int p.1, .int p.2])) H; rw [inV_pair]; exact q⟩
end
/-! dicts by pairs -/
section
variable {α : Type}
def dT (f : α → V) (ps : List (PI2 × α)) : List (List Key × V) := ps.map fun p => (pk p.1, f p.2)
def getT (ps : List (PI2 × α)) (k : PI2) : Option α := (ps.find? fun p => decide (p.1 = k)).map (·.2)
def putT (ps : List (PI2 × α)) (k : PI2) (v : α) : List (PI2 × α) := if (ps.any fun p => decide (p.1 = k)) = true then ps.map (fun p => if p.1 = k then (p.1, v) else p) else ps ++ [(k, v)]
theorem pk_inj {p q : PI2} (h : pk p = pk q) : p = q := by
  obtain ⟨h1, h2⟩ := List.cons.inj h
  obtain ⟨h2, _⟩ := List.cons.inj h2
  exact Prod.ext (Sum.inl.inj h1) (Sum.inl.inj h2)
theorem pkeq (a b : PI2) : decide (pk a = pk b) = decide (a = b) := by
  by_cases h : a = b
  · rw [h, decide_eq_true rfl, decide_eq_true rfl]
  · rw [decide_eq_false h, decide_eq_false fun e => h (pk_inj e)]
theorem getT_pos {p : PI2 × α} {r : List (PI2 × α)} {k : PI2} (e : p.1 = k) : getT (p :: r) k = some p.2 := by simp [getT, List.find?_cons, e]
theorem getT_neg {p : PI2 × α} {r : List (PI2 × α)} {k : PI2} (e : ¬ p.1 = k) : getT (p :: r) k = getT r k := by simp [getT, List.find?_cons, e]
theorem valV_dT (f : α → V) (k : PI2) : ∀ ps : List (PI2 × α), valV (dT f ps) (pk k) = (getT ps k).map f
  | [] => rfl
  | p :: r => by
    by_cases e : p.1 = k
    · rw [getT_pos e]
      exact valV_pos (p := (pk p.1, f p.2)) (by rw [e])
    · rw [getT_neg e, ← valV_dT f k r]
      exact valV_neg (p := (pk p.1, f p.2)) (fun z => e (pk_inj z))
theorem putK_dT (f : α → V) (ps : List (PI2 × α)) (k : PI2) (v : α) : putK (dT f ps) (pk k) (f v) = dT f (putT ps k v) := by
  unfold putK putT
  have e : ((dT f ps).any fun kv => decide (kv.1 = pk k)) = ps.any fun p => decide (p.1 = k) := by
    unfold dT
    rw [List.any_map]
    congr 1
    funext p
    exact pkeq p.1 k
  rw [e]
  split
  · unfold dT
    rw [List.map_map, List.map_map]
    congr 1
    funext p
    show (if pk p.1 = pk k then (pk p.1, f v) else (pk p.1, f p.2)) = (pk (if p.1 = k then (p.1, v) else p).1, f (if p.1 = k then (p.1, v) else p).2)
    by_cases h : p.1 = k
    · rw [if_pos h, if_pos (by rw [h])]
    · rw [if_neg h, if_neg fun z => h (pk_inj z)]
  · unfold dT
    rw [List.map_append]
    rfl
theorem getT_some {k : PI2} : ∀ {ps : List (PI2 × α)}, (getT ps k).isSome = decide (k ∈ ps.map (·.1))
  | [] => rfl
  | p :: r => by
    by_cases e : p.1 = k
    · rw [getT_pos e]
      simp [e]
    · rw [getT_neg e, getT_some (ps := r)]
      have e' : ¬ k = p.1 := fun z => e z.symm
      simp [e']
theorem putT_new {ps : List (PI2 × α)} {k : PI2} {v : α} (h : k ∉ ps.map (·.1)) : putT ps k v = ps ++ [(k, v)] := by
  unfold putT
  rw [if_neg]
  intro z
  obtain ⟨p, hp, e⟩ := List.any_eq_true.mp z
  exact h (List.mem_map.mpr ⟨p, hp, of_decide_eq_true e⟩)
end
def kDIn (y : V) (neg : Bool) (Q : VK) : VK := fun x H2 => ∃ a o, x = .ref a ∧ DGet H2 a y o ∧ Q (.bl (if neg then !o.isSome else o.isSome)) H2
section
variable {σ : L2.St} {H : Hp} {Q : VK} {t d : Addr} {k : PI2} {α : Type} {f : α → V} {ps : List (PI2 × α)} {ty td : TE} {L : List Asr} {D : Ends}
theorem g_din (h : ty σ H fun y H1 => td σ H1 (kDIn y false Q)) : tDIn ty td σ H Q := h
theorem g_dnotin (h : ty σ H fun y H1 => td σ H1 (kDIn y true Q)) : tDNotIn ty td σ H Q := h
theorem g_kDInT {i j : Int} (h : H d = some (.dT (dT f ps))) (e : H t = some (.tup [.int i, .int j])) (q : Q (.bl (decide ((i, j) ∈ ps.map (·.1)))) H) : kDIn (.ref t) false Q (.ref d) H :=
  ⟨d, _, rfl, DGet.t (k := pk (i, j)) h e, by
    show Q (.bl ((valV (dT f ps) (pk (i, j))).isSome)) H
    rw [valV_dT, Option.isSome_map, getT_some]; exact q⟩
theorem g_kDNotInT {i j : Int} (h : H d = some (.dT (dT f ps))) (e : H t = some (.tup [.int i, .int j])) (q : Q (.bl (!decide ((i, j) ∈ ps.map (·.1)))) H) : kDIn (.ref t) true Q (.ref d) H :=
  ⟨d, _, rfl, DGet.t (k := pk (i, j)) h e, by
    show Q (.bl (!(valV (dT f ps) (pk (i, j))).isSome)) H
    rw [valV_dT, Option.isSome_map, getT_some]
    exact q⟩
end
/-- d[k] = v, k a pair -/
def qSetT {α : Type} (f : α → V) : TSet := fun o i v H Q => ∃ p t k, o = .ref p ∧ i = .ref t ∧ H t = some (.tup (pV k)) ∧ ∃ j, v = f j ∧ ∃ ps L, Sts H (pto p (.dT (dT f ps)) :: L) ∧ ps.length ≤ 1000000 ∧ ∀ H', Sts H' (pto p (.dT (dT f (putT ps k j))) :: L) → Q H'
theorem v_setT {X : Cx} {α : Type} (f : α → V) (hu : X.A.units + 1 < cLine) : PSet X (qSetT f) := by
  intro pn s0 σ H o i v ov iv u Q J ro ri rv ⟨p, t, k, eo, ei, ht, j, ev, ps, L, S, hl, q⟩
  subst eo ei ev
  cases ro
  refine d_setItem hu J (DPut.t (k := pk k) S.hd ht (small (by unfold dT; rw [List.length_map]; exact hl))) ri rv fun s1 J1 => ⟨_, J1, q _ ?_⟩
  rw [putK_dT]
  exact S.put _
theorem g_setT {α : Type} {f : α → V} {H : Hp} {p t : Addr} {x y : Int} {j : α} {ps : List (PI2 × α)} {L : List Asr} {R : Hp → Prop} (S : Sts H (pto p (.dT (dT f ps)) :: L)) (ht : H t = some (.tup [.int x, .int y])) (hl : ps.length ≤ 1000000) (q : ∀ H', Sts H' (pto p (.dT (dT f (putT ps (x, y) j))) :: L) → R H') : qSetT f (.ref p) (.ref t) (f j) H R :=
  ⟨p, t, (x, y), rfl, rfl, ht, j, rfl, ps, L, S, hl, q⟩
/-! reading pairs -/
section
variable {H : Hp} {τ υ : Tmap} {L : List Asr} {t : Addr} {p : PI2} {ts : List Addr} {ps : List PI2}
theorem Le.ap (l : Le τ υ) {vs : List V} (e : τ t = some vs) : υ t = some vs := l t vs e
theorem Sts.prs (S : Sts H (.im τ :: L)) (h : Prs τ ts ps) : PrH H ts ps := by
  unfold PrH
  have z : ts.map H = ts.map fun t => (τ t).map HO.tup := List.map_congr_left fun t ht => by
    have m : τ t ∈ ts.map τ := List.mem_map_of_mem ht
    rw [h] at m
    obtain ⟨p, _, e⟩ := List.mem_map.mp m
    rw [← e]
    exact S.tp e.symm
  rw [z]
  have y : (ts.map fun t => (τ t).map HO.tup) = (ts.map τ).map fun o => o.map HO.tup := by
    rw [List.map_map]
    rfl
  rw [y, h, List.map_map]
  rfl
end
/-! rows: lists that stand side by side -/
abbrev RowL := Addr × List Int
def rws (rs : List RowL) : List Asr := rs.map fun q => pto q.1 (.lst (q.2.map V.int))
structure rowc (rs : List RowL) (h : Hp) : Prop where
  st : St h (rws rs)
theorem rws_im {rs : List RowL} {τ : Tmap} : Asr.im τ ∉ rws rs := fun h => by
  obtain ⟨q, _, e⟩ := List.mem_map.mp h
  cases e
theorem rowc_open {rs : List RowL} {L : List Asr} {H : Hp} (S : Sts H (rowc rs :: L)) : Sts H (rws rs ++ L) := by
  obtain ⟨_, S⟩ := S.opn (f := fun _ : Unit => rws rs) (fun h a => ⟨(), a.st⟩) (fun _ _ => rws_im)
  exact S
theorem rowc_close {rs : List RowL} {L : List Asr} {H : Hp} (S : Sts H (rws rs ++ L)) : Sts H (rowc rs :: L) := S.cls fun h a => ⟨a⟩
theorem rowc_nil {L : List Asr} {H : Hp} (S : Sts H L) : Sts H (rowc [] :: L) := rowc_close S
theorem rws_perm {rs us : List RowL} (h : rs.Perm us) : (rws rs).Perm (rws us) := h.map _
theorem rowc_add {rs : List RowL} {a : Addr} {l : List Int} {L : List Asr} {H : Hp} (S : Sts H (pto a (.lst (l.map V.int)) :: rowc rs :: L)) : Sts H (rowc (rs ++ [(a, l)]) :: L) := by
  have S2 : Sts H (pto a (.lst (l.map V.int)) :: (rws rs ++ L)) := S.under fun K T => rowc_open T
  refine rowc_close (S2.perm ?_)
  show ((rws ((a, l) :: rs)) ++ L).Perm _
  exact List.Perm.append_right L (rws_perm (List.perm_append_singleton _ _).symm)
/-- row i alone, the others -/
def rowx (rs : List RowL) (i : Nat) : Hp → Prop := rowc (rs.eraseIdx i)
theorem row_perm : ∀ {rs : List RowL} {i : Nat} {x : RowL}, rs[i]? = some x → rs.Perm (x :: rs.eraseIdx i)
  | [], i, _, e => by simp at e
  | r :: rs, 0, x, e => by
    have e : r = x := by simpa using e
    subst e
    exact List.Perm.refl _
  | r :: rs, i + 1, x, e => by
    have e : rs[i]? = some x := by simpa using e
    exact ((row_perm e).cons r).trans (List.Perm.swap x r _)
theorem rowc_take {rs : List RowL} {i : Nat} {a : Addr} {l : List Int} {L : List Asr} {H : Hp} (S : Sts H (rowc rs :: L)) (e : rs[i]? = some (a, l)) : Sts H (pto a (.lst (l.map V.int)) :: rowx rs i :: L) := by
  have S2 := (rowc_open S).perm (List.Perm.append_right L (rws_perm (row_perm e)))
  have S3 : Sts H (pto a (.lst (l.map V.int)) :: (rws (rs.eraseIdx i) ++ L)) := S2
  exact S3.under fun K T => rowc_close T
theorem rowc_put {rs : List RowL} {i : Nat} {a : Addr} {l : List Int} {L : List Asr} {H : Hp} (hi : i < rs.length) (S : Sts H (pto a (.lst (l.map V.int)) :: rowx rs i :: L)) : Sts H (rowc (rs.set i (a, l)) :: L) := by
  have S2 : Sts H (pto a (.lst (l.map V.int)) :: (rws (rs.eraseIdx i) ++ L)) := S.under fun K T => rowc_open T
  refine rowc_close (S2.perm ?_)
  have hp : (rs.set i (a, l)).Perm ((a, l) :: rs.eraseIdx i) := by
    have z := row_perm (rs := rs.set i (a, l)) (i := i) (x := (a, l)) (by rw [List.getElem?_set_self hi])
    rwa [List.eraseIdx_set_eq] at z
  show ((rws ((a, l) :: rs.eraseIdx i)) ++ L).Perm _
  exact List.Perm.append_right L (rws_perm hp.symm)
/-! loops over pairs -/
theorem for_prs {K : PySem.W.Frag} {a : Addr} {g : TG} {tb : TS} {D : Ends} {σ : L2.St} {H : Hp} {τ : Tmap} {ts : List Addr} {ps : List PI2} (hp : Prs τ ts ps) (Pv : Nat → L2.St → Hp → Prop) (h0 : Pv 0 σ H) (hl : ∀ i σ H, Pv i σ H → SqL K H a (ts.map V.ref))
    (hs : ∀ i t p σ H, ps[i]? = some p → τ t = some (pV p) → Pv i σ H → g (.ref t) σ H fun σ2 H2 => tb { D with nx := Pv (i + 1), ct := Pv (i + 1), bk := D.nx } σ2 H2) (hd : ∀ σ H, Pv ps.length σ H → D.nx σ H) :
    kFor g tb D σ (Itl K a) H := by
  refine for_list (K := K) (a := a) (xs := ts.map V.ref) Pv h0 (fun i σ H _ h2 => hl i σ H h2) (fun i x σ H hx h2 => ?_) (fun σ H h => ?_)
  · rw [List.getElem?_map] at hx
    cases e : ts[i]? with
    | none =>
      rw [e] at hx
      cases hx
    | some t =>
      rw [e] at hx
      have ex : x = V.ref t := (Option.some.inj hx).symm
      subst ex
      obtain ⟨p, e1, e2⟩ := hp.at e
      exact hs i t p σ H e1 e2 h2
  · rw [List.length_map, hp.len] at h
    exact hd σ H h
/-- for i, x in enumerate(a), pairs -/
theorem for_enumP {K : PySem.W.Frag} {a : Addr} {g : TG} {tb : TS} {D : Ends} {σ : L2.St} {H : Hp} {τ : Tmap} {ts : List Addr} {ps : List PI2} (hp : Prs τ ts ps) (Pv : Nat → L2.St → Hp → Prop) (h0 : Pv 0 σ H) (hl : ∀ i σ H, Pv i σ H → SqL K H a (ts.map V.ref))
    (hs : ∀ i t p σ H T, ps[i]? = some p → τ t = some (pV p) → Pv i σ H → H T = none → g (.ref T) σ (upd H T (.tup [.int (i : Nat), .ref t])) fun σ2 H2 => tb { D with nx := Pv (i + 1), ct := Pv (i + 1), bk := D.nx } σ2 H2) (hd : ∀ σ H, Pv ps.length σ H → D.nx σ H) :
    kFor g tb D σ (Ite K a) H := by
  have hlen : (ts.map V.ref).length = ps.length := by rw [List.length_map, hp.len]
  refine for_it (n := ps.length) (hlen ▸ walk_enum (xs := ts.map V.ref)) Pv h0 (fun i σ H _ p => hl i σ H p) (fun i x σ H H' hi p y => ?_) hd
  obtain ⟨T, u, z, e1, e2, e3, e4, e5⟩ := y
  cases e4
  obtain ⟨t, e, rfl⟩ := Option.map_eq_some_iff.mp ((List.getElem?_map ..).symm.trans e5)
  obtain ⟨q, f1, f2⟩ := hp.at e
  subst e1 e3
  exact hs i t q σ H T f1 f2 p e2
/-- a comprehension over pairs -/
theorem lc_prs {K : PySem.W.Frag} {a : Addr} {g : TG} {tt : TT} {te : TE} {vs : List Nat} {σ : L2.St} {H : Hp} {Q : VK} {D : Addr} {τ : Tmap} {ts : List Addr} {ps : List PI2} (hp : Prs τ ts ps) (Pv : Nat → Hp → Prop) (h0 : Pv 0 H) (hl : ∀ i H, Pv i H → SqL K H a (ts.map V.ref))
    (hs : ∀ i t p H, ps[i]? = some p → τ t = some (pV p) → Pv i H → g (.ref t) (wipe σ vs) H fun σ2 H2 => wipe σ2 vs = wipe σ vs ∧ tt σ2 H2 fun b H3 =>
      if b = true then te σ2 H3 fun y H4 => ∃ acc, H4 D = some (.lst acc) ∧ acc.length < sizeLine ∧ Pv (i + 1) (upd H4 D (.lst (acc ++ [y]))) else Pv (i + 1) H3) (hd : ∀ H, Pv ps.length H → Q (.ref D) H) (hD : H D = some (.lst []) := by exact Sts.hd (by assumption)) : kLw (Itl K a) g tt te vs σ Q D H := by
  have hlen : (ts.map V.ref).length = ps.length := by rw [List.length_map, hp.len]
  refine oc_lcL (K := K) (a := a) (xs := ts.map V.ref) Pv h0 (fun i H p => hl i H p) (fun i x H hx p => ?_) (fun H p => hd H (by rw [hlen] at p; exact p)) hD
  rw [List.getElem?_map] at hx
  cases e : ts[i]? with
  | none =>
    rw [e] at hx
    cases hx
  | some t =>
    rw [e] at hx
    have ex : x = V.ref t := (Option.some.inj hx).symm
    subst ex
    obtain ⟨q, f1, f2⟩ := hp.at e
    exact hs i t q H f1 f2 p
theorem dT_keys {α : Type} (f : α → V) (qs : List (PI2 × α)) : (dT f qs).map (·.1) = (qs.map (·.1)).map pk := by
  unfold dT
  rw [List.map_map, List.map_map]
  rfl
theorem g_sortDT {H : Hp} {Q : VK} {d : Addr} {α : Type} {f : α → V} {qs : List (PI2 × α)} (h : H d = some (.dT (dT f qs))) (k : ∀ us, PrH H us (srt (qs.map (·.1))) → qNew H (.lst (us.map V.ref)) Q) : qSortDT [.ref d] H Q := ⟨d, _, _, rfl, h, dT_keys f qs, k⟩
theorem g_sortP {K : PySem.W.Frag} {H : Hp} {Q : VK} {a : Addr} {ts : List Addr} {ps : List PI2} (h : SqL K H a (ts.map V.ref)) (e : PrH H ts ps) (k : ∀ us, PrH H us (srt ps) → qNew H (.lst (us.map V.ref)) Q) : qSortP K [.ref a] H Q := ⟨a, ts, ps, rfl, h, e, k⟩
/-- for i, x in enumerate(a), ints -/
theorem for_enumI {K : PySem.W.Frag} {a : Addr} {g : TG} {tb : TS} {D : Ends} {σ : L2.St} {H : Hp} (ns : List Int) (Pv : Nat → L2.St → Hp → Prop) (h0 : Pv 0 σ H) (hl : ∀ i σ H, Pv i σ H → SqL K H a (ns.map V.int))
    (hs : ∀ i x σ H T, ns[i]? = some x → Pv i σ H → H T = none → g (.ref T) σ (upd H T (.tup [.int (i : Nat), .int x])) fun σ2 H2 => tb { D with nx := Pv (i + 1), ct := Pv (i + 1), bk := D.nx } σ2 H2) (hd : ∀ σ H, Pv ns.length σ H → D.nx σ H) :
    kFor g tb D σ (Ite K a) H := by
  have hlen : (ns.map V.int).length = ns.length := List.length_map _
  refine for_it (n := ns.length) (hlen ▸ walk_enum (xs := ns.map V.int)) Pv h0 (fun i σ H _ p => hl i σ H p) (fun i x σ H H' hi p y => ?_) hd
  obtain ⟨T, u, z, e1, e2, e3, e4, e5⟩ := y
  cases e4
  obtain ⟨n, f1, f2⟩ := at_int e5
  subst f2 e1 e3
  exact hs i n σ H T f1 p e2
/-- for x, y in zip(a, b): pairs and ints, of one length -/
theorem for_zipP {K : PySem.W.Frag} {a b : Addr} {g : TG} {tb : TS} {D : Ends} {σ : L2.St} {H : Hp} {τ : Tmap} {ts : List Addr} {ps : List PI2} (hp : Prs τ ts ps) (ns : List Int) (he : ns.length = ps.length) (Pv : Nat → L2.St → Hp → Prop) (h0 : Pv 0 σ H) (hl : ∀ i σ H, Pv i σ H → SqL K H a (ts.map V.ref)) (hl2 : ∀ i σ H, Pv i σ H → SqL K H b (ns.map V.int))
    (hs : ∀ i t p x σ H T, ps[i]? = some p → τ t = some (pV p) → ns[i]? = some x → Pv i σ H → H T = none → g (.ref T) σ (upd H T (.tup [.ref t, .int x])) fun σ2 H2 => tb { D with nx := Pv (i + 1), ct := Pv (i + 1), bk := D.nx } σ2 H2) (hd : ∀ σ H, Pv ps.length σ H → D.nx σ H) :
    kFor g tb D σ (Itz K a b) H := by
  have hlen : (ts.map V.ref).length = ps.length := by rw [List.length_map, hp.len]
  have hlen2 : (ns.map V.int).length = ps.length := by rw [List.length_map, he]
  refine for_it (n := ps.length) (walk_zip (xs := ts.map V.ref) (ys := ns.map V.int) (by omega)) Pv h0 (fun i σ H _ p => ⟨hl i σ H p, hl2 i σ H p⟩) (fun i x σ H H' hi p y => ?_) hd
  obtain ⟨T, u, v, e1, e2, e3, e4, e5⟩ := y
  obtain ⟨n, f1, f2⟩ := at_int e5
  obtain ⟨t, e, rfl⟩ := Option.map_eq_some_iff.mp ((List.getElem?_map ..).symm.trans e4)
  obtain ⟨q, f3, f4⟩ := hp.at e
  subst f2 e1 e3
  exact hs i t q n σ H T f3 f4 f1 p e2
end Oc
/-! ### further rules: a[i] op= e, count, sorted of ints, x or y, slices from behind -/
namespace Oc
open PySem PySem.Spec PyProof.Rows L2
theorem room65 {k : Nat} {A : Around} (r : L2.Room k A) : A.units + 65 < cLine := by
  have := r.un
  omega
def qGetI (K : PySem.W.Frag) : V → V → Hp → VK → Prop := fun x y H Q => ∃ p, ∃ (ns : List Int) (i : Int), x = .ref p ∧ y = .int i ∧ SqL K H p (ns.map V.int) ∧ (0 ≤ i ∧ i < ns.length) ∧ Q (.int (gI ns i)) H
section
variable {X : Cx} {K : PySem.W.Frag}
theorem v_getI (hK : X.K = K) : PGet X (qGetI K) := by
  subst hK
  intro pins s σ H o i ov iv Q I ro ri ⟨p, ns, j, e1, e2, hq, ⟨b0, b1⟩, q⟩
  subst e1 e2
  cases ro
  obtain ⟨t, rfl⟩ := ri
  obtain ⟨its, r, pl, hz⟩ := I.list hq
  have hl := r.length
  rw [List.length_map] at hl
  have he := atI_ints (ns := ns) b0 b1
  obtain ⟨k, h1, h2, h3, h4, h5⟩ := atI_get he
  obtain ⟨w, ew, rw'⟩ := r.get h2
  have hn := line63
  have hk : j.toNat = k := by
    rw [seqIndex_of b0 h5] at h1
    exact Option.some.inj h1
  exact PyProof.Rows.getItem_listL pl.isList b0 (by omega) (by rw [hk]; exact ew) ⟨_, H, I, rw', q⟩
theorem v_countI (hK : X.K = K) : MtR X "list.count" (rCntI K) := hK ▸ mt_lcount
theorem v_sortI (hK : X.K = K) : CallR X (.builtin "sorted") (rSortedI K) := hK ▸ cr_sortedI
theorem v_orT {a b : Expr} {rest : List Expr} {pos : Pos} {ta tb : TE} (hK : X.K = K) (ha : PE X a ta) (hb : PE X (.BoolOp .Or (b :: rest) pos) tb) : PE X (.BoolOp .Or (a :: b :: rest) pos) (tOrT K ta tb) := hK ▸ pe_orT ha hb
end
section
variable {K : PySem.W.Frag} {σ : L2.St} {H : Hp} {Q : VK} {i : Int} {a : Addr} {ns : List Int} {x : V} {ta tb to ti te : TE} {D : Ends}
theorem g_getI (h : SqL K H a (ns.map V.int)) (b : 0 ≤ i ∧ i < ns.length) (k : Q (.int (gI ns i)) H) : qGetI K (.ref a) (.int i) H Q := ⟨a, ns, i, rfl, rfl, h, b, k⟩
theorem g_cntI (h : SqL K H a (ns.map V.int)) (k : Q (.int (ns.count i : Nat)) H) : rCntI K (.ref a) [.int i] H Q := ⟨a, ns, i, rfl, rfl, h, k⟩
theorem g_sortI (h : SqL K H a (ns.map V.int)) (k : ∀ ms : List Int, ms.Perm ns → ms.Pairwise (· ≤ ·) → qNew H (.lst (ms.map V.int)) Q) : rSortedI K [.ref a] H Q := ⟨a, ns, rfl, h, fun ms p h1 h2 np => k ms h1 h2 p np⟩
def kOrT (K : PySem.W.Frag) (tb : TE) (σ : L2.St) (Q : VK) : VK := fun x H1 => ∃ k, TruV K x H1 k ∧ if k = true then Q x H1 else tb σ H1 Q
theorem g_orT (k : ta σ H (kOrT K tb σ Q)) : tOrT K ta tb σ H Q := k
theorem g_kOrTI (h : SqL K H a (ns.map V.int)) (k : if (!ns.isEmpty) = true then Q (.ref a) H else tb σ H Q) : kOrT K tb σ Q (.ref a) H := ⟨_, .inl ⟨_, h, rfl⟩, by rw [isE_map]; exact k⟩
theorem g_augS {tget : V → V → Hp → VK → Prop} {tip : TIp} {tset : TSet} (k : to σ H fun o H1 => ti σ H1 fun i H2 => tget o i H2 fun x H3 => te σ H3 fun y H4 => tip x y H4 fun z H5 => tset o i z H5 fun H6 => D.nx σ H6) : tAugS to ti te tget tip tset D σ H := k
theorem g_inPT {t : Addr} {p : PI2} (h : H t = some (.tup (pV p))) (k : Q (.bl (decide (i = p.1 ∨ i = p.2))) H) : qInP K false (.int i) (.ref t) H Q := ⟨i, t, p, rfl, rfl, h, k⟩
theorem g_inPF {t : Addr} {p : PI2} (h : H t = some (.tup (pV p))) (k : Q (.bl (!decide (i = p.1 ∨ i = p.2))) H) : qInP K true (.int i) (.ref t) H Q := ⟨i, t, p, rfl, rfl, h, k⟩
theorem g_inPsT {t : Addr} {p : PI2} {ts : List Addr} {ps : List PI2} (h : H t = some (.tup (pV p))) (h2 : SqL K H a (ts.map V.ref)) (h3 : PrH H ts ps) (k : Q (.bl (decide (p ∈ ps))) H) : qInPs K false (.ref t) (.ref a) H Q := ⟨t, a, ts, p, ps, rfl, rfl, h, h2, h3, k⟩
theorem g_inPsF {t : Addr} {p : PI2} {ts : List Addr} {ps : List PI2} (h : H t = some (.tup (pV p))) (h2 : SqL K H a (ts.map V.ref)) (h3 : PrH H ts ps) (k : Q (.bl (!decide (p ∈ ps))) H) : qInPs K true (.ref t) (.ref a) H Q := ⟨t, a, ts, p, ps, rfl, rfl, h, h2, h3, k⟩
theorem g_eqPsT {b : Addr} {ts us : List Addr} {ps qs : List PI2} (h : SqL K H a (ts.map V.ref)) (h2 : PrH H ts ps) (h3 : SqL K H b (us.map V.ref)) (h4 : PrH H us qs) (k : Q (.bl (decide (ps = qs))) H) : qEqPs K false (.ref a) (.ref b) H Q := ⟨a, b, ts, us, ps, qs, rfl, rfl, h, h2, h3, h4, k⟩
theorem g_eqPsF {b : Addr} {ts us : List Addr} {ps qs : List PI2} (h : SqL K H a (ts.map V.ref)) (h2 : PrH H ts ps) (h3 : SqL K H b (us.map V.ref)) (h4 : PrH H us qs) (k : Q (.bl (!decide (ps = qs))) H) : qEqPs K true (.ref a) (.ref b) H Q := ⟨a, b, ts, us, ps, qs, rfl, rfl, h, h2, h3, h4, k⟩
theorem g_kOrTR {ts : List Addr} (h : SqL K H a (ts.map V.ref)) (k : if (!ts.isEmpty) = true then Q (.ref a) H else tb σ H Q) : kOrT K tb σ Q (.ref a) H := ⟨_, .inl ⟨_, h, rfl⟩, by cases ts <;> exact k⟩
theorem atI_ref {xs : List Addr} {ps : List PI2} {τ : Tmap} (h : Prs τ xs ps) (h0 : 0 ≤ i) (h1 : i < ps.length) : ∃ t p, ps[i.toNat]? = some p ∧ τ t = some (pV p) ∧ atI (xs.map V.ref) i = some (.ref t) := by
  have hl := h.len
  have e : ps[i.toNat]? = some (ps[i.toNat]'(by omega)) := List.getElem?_eq_getElem (by omega)
  obtain ⟨t, e1, e2⟩ := h.at' e
  exact ⟨t, _, e, e2, atI_of h0 (by rw [List.getElem?_map, e1]; rfl)⟩
end
end Oc
/-! ### isinstance(x, tuple) -/
namespace Oc
open PySem PySem.Spec PyProof.Rows L2
def qIsTT : List V → Hp → VK → Prop := fun xs H Q => ∃ a ys, xs = [.ref a, .ty "tuple"] ∧ H a = some (.tup ys) ∧ Q (.bl true) H
theorem v_isTT {X : Cx} : CallR X (.builtin "isinstance") qIsTT := fun pins s σ H xs us Q I rr ⟨a, ys, e, h, q⟩ =>
  call_isi pins s σ H xs us Q I rr ⟨_, _, _, _, true, e, .ty "tuple", .base (.tup h), kit_ty (by decide +kernel), q⟩
theorem g_isTT {t : Addr} {ys : List V} {H : Hp} {Q : VK} (h : H t = some (.tup ys)) (k : Q (.bl true) H) : qIsTT [.ref t, .ty "tuple"] H Q := ⟨t, ys, rfl, h, k⟩
end Oc
/-! ### values of mixed kinds: rows that are never reached, isinstance, len of an own class, a property -/
namespace Oc
open PySem PySem.Spec PyProof.Rows L2
section
variable {X : Cx}
def tDeadE : TE := fun _ _ _ => False
def tDeadT : TT := fun _ _ _ => False
def tDeadS : TS := fun _ _ _ => False
theorem pe_dead {e : Expr} : PE X e tDeadE := ⟨fun _ _ _ _ _ _ h => h.elim⟩
theorem pt_dead {e : Expr} : PT X e tDeadT := ⟨fun _ _ _ _ _ _ h => h.elim⟩
theorem ps_dead {st : Stmt} : PS X st tDeadS := ⟨fun _ _ _ _ _ _ h => h.elim⟩
/-- isinstance of a text, a tuple, a list -/
def qIsS (U : String) (r : Bool) : List V → Hp → VK → Prop := fun xs H Q => ∃ z, xs = [.str z, .ty U] ∧ Q (.bl r) H
def qIsTu (U : String) (r : Bool) : List V → Hp → VK → Prop := fun xs H Q => ∃ a ys, xs = [.ref a, .ty U] ∧ H a = some (.tup ys) ∧ Q (.bl r) H
def qIsLi (U : String) (r : Bool) : List V → Hp → VK → Prop := fun xs H Q => ∃ a ys, xs = [.ref a, .ty U] ∧ H a = some (.lst ys) ∧ Q (.bl r) H
def qIsIn (U : String) (r : Bool) : List V → Hp → VK → Prop := fun xs H Q => ∃ i, xs = [.int i, .ty U] ∧ Q (.bl r) H
theorem v_isS {U : String} {r : Bool} (h : kitB "str" U = some r) : CallR X (.builtin "isinstance") (qIsS U r) := fun pins s σ H xs us Q I rr ⟨z, e, q⟩ => oc_isi_ty h pins s σ H xs us Q I rr ⟨_, e, .base (.str z), q⟩
theorem v_isTu {U : String} {r : Bool} (h : kitB "tuple" U = some r) : CallR X (.builtin "isinstance") (qIsTu U r) := fun pins s σ H xs us Q I rr ⟨a, ys, e, g, q⟩ => oc_isi_ty h pins s σ H xs us Q I rr ⟨_, e, .base (.tup g), q⟩
theorem v_isLi {U : String} {r : Bool} (h : kitB "list" U = some r) : CallR X (.builtin "isinstance") (qIsLi U r) := fun pins s σ H xs us Q I rr ⟨a, ys, e, g, q⟩ => oc_isi_ty h pins s σ H xs us Q I rr ⟨_, e, .base (.lst g), q⟩
theorem v_isIn {U : String} {r : Bool} (h : kitB "int" U = some r) : CallR X (.builtin "isinstance") (qIsIn U r) := fun pins s σ H xs us Q I rr ⟨i, e, q⟩ => oc_isi_ty h pins s σ H xs us Q I rr ⟨_, e, .base (.int i), q⟩
theorem g_isS {U : String} {r : Bool} {z : Str} {H : Hp} {Q : VK} (k : Q (.bl r) H) : qIsS U r [.str z, .ty U] H Q := ⟨z, rfl, k⟩
theorem g_isTu {U : String} {r : Bool} {a : Addr} {ys : List V} {H : Hp} {Q : VK} (h : H a = some (.tup ys)) (k : Q (.bl r) H) : qIsTu U r [.ref a, .ty U] H Q := ⟨a, ys, rfl, h, k⟩
theorem g_isLi {U : String} {r : Bool} {a : Addr} {ys : List V} {H : Hp} {Q : VK} (h : H a = some (.lst ys)) (k : Q (.bl r) H) : qIsLi U r [.ref a, .ty U] H Q := ⟨a, ys, rfl, h, k⟩
theorem g_isIn {U : String} {r : Bool} {i : Int} {H : Hp} {Q : VK} (k : Q (.bl r) H) : qIsIn U r [.int i, .ty U] H Q := ⟨i, rfl, k⟩
/-- len(x), x of an own class with its own __len__ -/
def qLenO (C : Addr) (sp : Sp) : List V → Hp → VK → Prop := fun xs H Q => ∃ p, xs = [.ref p] ∧ (∃ dx fs, H p = some (.ins C dx fs)) ∧ sp [.ref p] H (fun v H' => ∃ n : Int, v = .int n ∧ (0 ≤ n ∧ n < 2 ^ 63) ∧ Q (.int n) H') E0
theorem v_lenO {k : Nat} {C g : Addr} {fd : FuncData} {ps : List Str} {sp : Sp} (hs : PySem.W.findIn X.K (.ref C) "__len__" = some (some (.ref g))) (hf : PySem.W.isFn X.K (.ref g) = true)
    (F : FnOk X.prog X.w X.K X.mg X.base CX0 k g fd ps sp) (hr : Room (k + 1) X.A) (hb : Binds X.K fd ps []) : CallR X (.builtin "len") (qLenO C sp) := by
  intro pins s σ H xs us Q I r ⟨p, ex, ⟨dx, fs, ea⟩, h⟩
  subst ex
  obtain ⟨u, rfl, rfl⟩ : ∃ u, us = [u] ∧ u = .ref p := by
    cases r with
    | cons a r =>
      cases r
      exact ⟨_, rfl, a⟩
  obtain ⟨m, fr⟩ := I.fr
  obtain ⟨od, i1⟩ := ins_at I ea
  have bi := hb s [.ref p] I.kIn (by rw [List.append_nil, ← F.len _ _ _ _ h]; rfl)
  rw [List.append_nil] at bi
  refine PySem.W.len_K fr I.ok.mod.kin i1 hs hf (wpAny_call (codeAny_mono (F.run X.A.in1 X.stack s H ⟨[.ref p], []⟩ [.ref p] [.ref p] _ E0 hr.in1 I.env0.in1 bi (.cons rfl .nil) h) fun r s' z => ?_))
  match r, z with
  | .error _, z => exact z.elim
  | .ok (.ret u), z =>
    obtain ⟨v, H', J, rv, n, ev, hn, q⟩ := I.after z
    subst ev
    obtain ⟨t, rfl⟩ := rv
    exact ⟨hn, .int n, H', J.tok _, ⟨_, rfl⟩, q⟩
/-- a property's setter -/
structure PSetOf (K : PySem.W.Frag) (C : Addr) (f : Str) (g : Addr) : Prop where
  ex : ∃ p a rest, PySem.W.takerIn K C f = some (some (.ref p)) ∧ PySem.W.typeIn K (.ref p) = some (.type "property") ∧ PySem.W.recIn K p "property" = some (a :: .ref g :: rest)
/-- o.f = value, f a property: what its setter promises -/
def sPset (C : Addr) (sp : Sp) (E : XK) (ta tv : TE) : TS := fun D σ H => tv σ H fun y H1 => ta σ H1 fun x H2 => ∃ p, x = .ref p ∧ (∃ dx fs, H2 p = some (.ins C dx fs)) ∧ sp [.ref p, y] H2 (fun _ H3 => D.nx σ H3) E
theorem oc_pset {CX : CXT} {k : Nat} {C g : Addr} {fd : FuncData} {ps : List Str} {sp : Sp} {E : XK} {o value : Expr} {f : Str} {pos pos' : Pos} {ta tv : TE} (c : Cls X.K C) (hp : PSetOf X.K C f g) (F : FnOk X.prog X.w X.K X.mg X.base CX k g fd ps sp) (hr : Room (k + 2) X.A) (hb : Binds X.K fd ps [])
    (hx : Passes CX X E) (ha : PE X o ta) (hv : PE X value tv) (hs : swapsWith value (some (.Attribute o f pos')) pos.line X.env = pure false := by rfl) : PS X (.Assign [.Attribute o f pos'] value pos) (sPset C sp E ta tv) := by
  refine ⟨fun pins s0 σ H0 D I0 h0 => plainObj_wpAny_Assign_Attribute (thn (hv.run pins s0 σ H0 _ I0 h0) fun u s1 ⟨y, H1, I1, ry, q1⟩ => thn (ha.run pins s1 σ H1 _ I1 q1) fun ov s ⟨x, H, I, rx, p, ex, ⟨dx, fs, ea⟩, h⟩ => ?_) hs⟩
  subst ex
  obtain rfl : ov = .ref p := rx
  obtain ⟨m, fr⟩ := I.fr
  obtain ⟨od, i1⟩ := ins_at I ea
  obtain ⟨a, b, rest, e1, e2, e3⟩ := hp.ex
  have J := I.tok (s.toks + 1)
  have bi := hb { s with toks := s.toks + 1 } [.ref p, u] J.kIn (by rw [List.append_nil, ← F.len _ _ _ _ h]; rfl)
  rw [List.append_nil] at bi
  refine PySem.W.set_prop fr I.ok.mod.kin i1 c.sa c.po e1 e2 e3 (codeAny_mono (F.run X.A.in1.in1 X.stack { s with toks := s.toks + 1 } H ⟨[.ref p, u], []⟩ [.ref p, u] [.ref p, y] _ E hr.in1.in1 J.env0.in1.in1 bi (.cons rfl (.cons ry .nil)) h) fun r s' z => ?_)
  match r, z with
  | .error er, z => exact hx pins σ H _ er s' (J.wish _) z
  | .ok (.ret u), z =>
    obtain ⟨v, H', J2, _, q⟩ := J.after z
    exact ⟨σ, H', J2, q⟩
/-- C(), C's __init__ with defaults alone -/
theorem oc_make0 {p pos : Pos} {x : Str} {k : Nat} {C g : Addr} {fd : FuncData} {ps : List Str} {sp : Sp} {dvs : List V} {ds : List Value} (M : Mk X.K C g) (F : FnOk X.prog X.w X.K X.mg X.base CX0 k g fd ps sp) (hr : Room (k + 1) X.A) (hg : Gl X x) (hm : X.mg x = some (.ref C)) (hb : Binds X.K fd ps ds) (hd : Vals dvs ds)
    (hdb : (x == ("__debug__" : Str)) = false := by decide) : PE X (.Call (.Name x p) [] [] pos) (tMakeO C sp dvs tNil) :=
  ⟨fun pn s σ H Q J ⟨L, S, q⟩ => (pe_make0 (E := E0) M F hr hg hm hb hd pass0 hdb).run pn s σ H Q J fun x dx h1 h2 ne => q x dx _ (S.made h1 h2 ne)⟩
/-- what is wished of an exception, whatever the slots hold -/
def WA (W : WX) (n : Nat) : XK := fun cls d H => ∀ σ : L2.St, σ.length = n → W cls d σ H
theorem passA {W : WX} {n : Nat} (tk : L2N.Takes X W) (hn : X.N.length = n) : Passes (L2N.CX X.prog X.w) X (WA W n) := fun _ σ _ _ e s' I c => tk e s' (L2N.XE.of_call I (fun _ _ _ h => h σ (by rw [← hn]; exact I.len)) c)
end
section
variable {X : Cx}
/-- e.f, e the exception that a def was handed -/
theorem oc_xfP {p : Addr × Obj} {C : Addr} {cls : Value} {d : Option Addr} {e : Expr} {te : TE} {pos : Pos} {n : Str} (hp : p ∈ X.pn) (T : XfC X.K C) (hno : PySem.W.findIn X.K (.ref C) n = some none) (hz : Zc cls d p.2) (hf : ∃ vs, p.2.data = .fields vs)
    (he : PE X e te) (hb : attributeBase e n X.env (eval e X.env) = eval e X.env := by rfl) : PE X (.Attribute e n pos) (tXf p.1 cls d C n te) := by
  refine ⟨fun pins s σ H Q I h => attr_of hb (thn (he.run pins s σ H _ I h) fun u s1 ⟨x, H1, J, rx, ex, ec, dd, fs, v, ed, ea, l, q⟩ => ?_)⟩
  subst ex ec ed
  obtain rfl : u = .ref p.1 := rx
  obtain ⟨vs, hv⟩ := hf
  obtain ⟨mA, hns, hr⟩ := (show ObjOk X.prog X.w H1 s1.heap dd (.xd fs) from J.hok dd _ ea)
  obtain ⟨od, ho, hl⟩ := lookIn_ns hns
  obtain ⟨z, hu, rz⟩ := RelO.some_of (v := v) (o := mA n) (by rw [← l]; exact hr n)
  have at_ : PySem.W.InstAt s1.heap p.1 p.2 C (some od) := ⟨(J.pin p (List.mem_append_left _ hp)).1, hz.1, by unfold PySem.W.notCls; rw [hv] <;> rfl, by rw [hz.2]; exact ho⟩
  exact HandSPX.exc_get J.kIn at_ T.ga T.gg T.exC (PySem.W.findObj_own T.hdC hno rfl (by rw [hl, hu])) (handed_of rz) ⟨v, H1, J.tok _, rz, q⟩
end
/-! == of lists of bools -/
theorem dp_bools {K : PySem.W.Frag} {H : Hp} : ∀ bs : List Bool, DpAll K H (bs.map V.bl) (bs.map PyData.bool)
  | [] => .nil
  | b :: bs => .cons (.bl b) (dp_bools bs)
theorem eqv_bools : ∀ bs cs : List Bool, PyData.eqvAll (bs.map PyData.bool) (cs.map PyData.bool) = decide (bs = cs)
  | [], [] => by simp [PyData.eqvAll]
  | [], _ :: _ => by simp [PyData.eqvAll]
  | _ :: _, [] => by simp [PyData.eqvAll]
  | b :: bs, c :: cs => by
    have e : PyData.eqv (.bool b) (.bool c) = decide (b = c) := by cases b <;> cases c <;> simp [PyData.eqv]
    simp only [List.map_cons, PyData.eqvAll, e, eqv_bools bs cs]
    by_cases h1 : b = c <;> by_cases h2 : bs = cs <;> simp [h1, h2]
theorem shaped_bools (bs : List Bool) : SeqAt.shaped (.list (bs.map PyData.bool)) = true := by
  have h1 : ∀ bs : List Bool, PyData.canLayAll0 (bs.map PyData.bool) = true := fun bs => by
    induction bs with
    | nil => simp [PyData.canLayAll0]
    | cons b bs ih => simp [PyData.canLayAll0, PyData.canLay0, ih]
  have h2 : ∀ bs : List Bool, PyData.depthAll (bs.map PyData.bool) = 0 := fun bs => by
    induction bs with
    | nil => simp [PyData.depthAll]
    | cons b bs ih => simp [PyData.depthAll, PyData.depth, ih]
  unfold SeqAt.shaped
  simp [PyData.canLay0, PyData.depth, h1, h2]
theorem g_eqBs {K : PySem.W.Frag} {H : Hp} {Q : VK} {a b : Addr} (bs cs : List Bool) (ha : SqL K H a (bs.map V.bl)) (hb : SqL K H b (cs.map V.bl)) (q : Q (.bl (decide (bs = cs))) H) : rEqD K (.ref a) (.ref b) H Q :=
  ⟨.list (bs.map PyData.bool), .list (cs.map PyData.bool), .lst ha (dp_bools bs), .lst hb (dp_bools cs), shaped_bools bs, shaped_bools cs, by
    have e : PyData.eqv (.list (bs.map PyData.bool)) (.list (cs.map PyData.bool)) = decide (bs = cs) := by
      rw [← eqv_bools]
      simp only [PyData.eqv]
    rw [e]
    exact q⟩
/-- a def with defaults: all parameters given, or the defaults behind the given ones -/
theorem bindsD {K : PySem.W.Frag} {fd : FuncData} {ps : List Str} {T : Addr} {o : Obj} {its : Array Value} {n : Nat} (lT : K.lookup T = some o) (oT : o.data = .seq its n)
    (h : ∀ us : List Value, us.length = ps.length → ∃ k, bindArgs fd ⟨us, []⟩ = seqItems? (.ref T) >>= k ∧ k (some its) = pure (ps.zip us)) : Binds K fd ps [] := fun s us X hl => by
  rw [List.append_nil] at hl ⊢
  obtain ⟨k, e1, e2⟩ := h us hl
  refine BindsTo.of_looks fun M => ?_
  rw [e1]
  exact looks_items X lT oT (.of_pure e2)
theorem bindsE {K : PySem.W.Frag} {fd : FuncData} {ps : List Str} {T : Addr} {o : Obj} {its : List Value} {n : Nat} (m : Nat) (hm : m + its.length = ps.length) (lT : K.lookup T = some o) (oT : o.data = .seq its.toArray n)
    (h : ∀ us : List Value, us.length = m → ∃ k, bindArgs fd ⟨us, []⟩ = seqItems? (.ref T) >>= k ∧ k (some its.toArray) = pure (ps.zip (us ++ its))) : Binds K fd ps its := fun s us X hl => by
  rw [List.length_append] at hl
  obtain ⟨k, e1, e2⟩ := h us (by omega)
  refine BindsTo.of_looks fun M => ?_
  rw [e1]
  exact looks_items X lT oT (.of_pure e2)
end Oc
theorem L2H.RoomH.units {k : Nat} {A : PySem.Around} (r : L2H.RoomH k A) : A.units + 64 < PySem.cLine := by
  have := r.un
  omega
/-! ### try with named clauses, one behind the other -/
namespace Oc
open PySem PySem.Spec PyProof.Rows L2
/-- an exception of the class cls, with the dict at d, has landed: its object lies at a in s, beside what X's state told at its raise -/
def Landed (X : Cx) (pins : List (Addr × Obj)) (σ : L2.St) (H : Hp) (a : Addr) (cls : Value) (d : Option Addr) (s : Shared) : Prop :=
  ∃ (B : Heap) (sI : Shared), Inv X pins σ H sI ∧ (∀ b o, sI.heap.get? b = some o → b ∉ frs X.stack → B.get? b = some o) ∧ sI.heap.UpToSlots s.heap ∧ HandSPX.FlyingZ B X.stack a (L2N.Zn cls d) s.heap ∧ H a = none ∧ s.os = sI.os ∧ AllBare s.gens
section
variable {X : Cx} {pins : List (Addr × Obj)} {σ : L2.St} {H : Hp} {a : Addr} {cls : Value} {d : Option Addr} {s : Shared} {D : Ends}
theorem Landed.inv (L : Landed X pins σ H a cls d s) : Inv X pins σ H s := by
  obtain ⟨B, sI, I, nb, up, fl, na, os, ag⟩ := L
  exact I.landed nb fl.1 up os ag
/-- the suite's context stands -/
theorem Landed.suite (L : Landed X pins σ H a cls d s) (hs : X.stack = X.env :: X.outer) (hf : X.env.frame = some X.env.locals) :
    ∃ oe vs, s.heap.get? a = some oe ∧ L2N.Zn cls d oe ∧ oe.data = .fields vs ∧ Inv (X.suite a ((a, oe) :: (X.pn ++ pins))) [] σ H s := by
  have I := L.inv
  obtain ⟨B, sI, _, _, _, fl, na, _, _⟩ := L
  obtain ⟨oe, vs, he, hz, hd⟩ := fl.there
  have out : a ∉ frs X.stack := fun m => by
    obtain ⟨_, o, e, nd⟩ := fl.2.2.1.mem m
    rw [he] at e
    cases e
    exact nd _ hd
  rw [hs] at out
  refine ⟨oe, vs, he, hz, hd, I.suite he hd na (fun z => out ?_) fun m => out ?_⟩
  · rw [z]
    exact List.mem_filterMap.mpr ⟨X.env, List.mem_cons_self, hf⟩
  · obtain ⟨e, he, q⟩ := List.mem_filterMap.mp m
    exact List.mem_filterMap.mpr ⟨e, List.mem_cons_of_mem _ he, q⟩
/-- no clause is left: the exception goes on -/
theorem Landed.out {Wout : L2.WX} (L : Landed X pins σ H a cls d s) (hs : X.stack = X.env :: X.outer) (hf : X.env.frame = some X.env.locals) (tk : L2N.Takes X Wout) (w : Wout cls d σ H) : wpAny (model X.prog X.w) X.A (handleBy (.ref a) X.env []) (SP X pins D) X.xe s := by
  obtain ⟨B, sI, I, nb, up, fl, na, os, ag⟩ := L
  obtain ⟨oe, vs, T, oT, ts, he, hz, hd, h1, hr⟩ := fl.2.2.2
  refine wpAny_handleBy_nil ?_
  unfold PySem.passOn
  refine wpAny_bind (wpAny_field he hd h1 ?_)
  rw [if_neg (by simp), hf]
  have go : wpAny (model X.prog X.w) X.A (setFlight (.ref a) (some X.env.locals)) (fun _ s1 => wpAny (model X.prog X.w) X.A (throw (.ref a) : Sem Flow) (SP X pins D) X.xe s1) X.xe s :=
    HandSPX.setFlight_upZ fl fun h hh u => wpAny_throw (tk _ _ ⟨a, B, sI, pins, σ, H, cls, d, rfl, I, nb, up.trans u, .inr (.inr hh), na, os, ag, w⟩)
  first
    | exact wpAny_bind go
    | exact wpAny_bind (wpAny_pure (wpAny_bind go))
/-- the clause's type, read in the suite's context -/
theorem Landed.named {x : Str} {c : Value} {np : Pos} {Q : Value → Shared → Prop} {E : Value → Shared → Prop} (L : Landed X pins σ H a cls d s) (hs : X.stack = X.env :: X.outer) (hf : X.env.frame = some X.env.locals) (hc : Names X x c) (q : Q c s) :
    wpAny (model X.prog X.w) (X.A.mark (some (.ref a))) (eval (.Name x np) X.env) Q E s := by
  obtain ⟨oe, vs, _, _, _, S⟩ := L.suite hs hf
  obtain ⟨hg, hb, hm | ⟨hm, hv, hn⟩⟩ := hc
  · exact ld_glob (X := X.suite a ((a, oe) :: (X.pn ++ pins))) S hg hm q hb
  · exact ld_blt (X := X.suite a ((a, oe) :: (X.pn ++ pins))) S hg hm hv q hn hb
/-- one clause with a name; what it does not take goes to the clauses behind it -/
theorem Landed.clause {x n : Str} {c : Value} {i : Nat} {b₀ : Stmt} {suite : List Stmt} {np pos : Pos} {hds : List ExceptHandler} {ts : Addr → Value → Option Addr → TS} {Wr : WX} (L : Landed X pins σ H a cls d s) (ok : X.Ok) (hs : X.stack = X.env :: X.outer) (hf : X.env.frame = some X.env.locals)
    (hN : X.N.Nodup) (hi : X.N[i]? = some n) (hln : X.env.kindOf n = some .local) (hc : Names X x c)
    (hsu : ∀ (a : Addr) (oe : Obj) (cls : Value) (d : Option Addr) (pn : List (Addr × Obj)), L2N.Zn cls d oe → (∃ vs, oe.data = .fields vs) → PSs (X.suite a ((a, oe) :: pn)) (b₀ :: suite) (ts a cls d))
    (next : Wr cls d σ H → wpAny (model X.prog X.w) X.A (handleBy (.ref a) X.env hds) (SP X pins D) X.xe s) (w : wAs X.K c i ts Wr D cls d σ H) :
    wpAny (model X.prog X.w) X.A (handleBy (.ref a) X.env (.ExceptHandler (some (.Name x np)) (some n) (b₀ :: suite) pos :: hds)) (SP X pins D) X.xe s := by
  obtain ⟨b, hb, yes, no⟩ := w
  obtain ⟨oe, vs, he, hz, _, _⟩ := L.suite hs hf
  have ty : PySem.W.Looks (model X.prog X.w) s.heap (typeOf (.ref a)) cls := fun A Q E s k q => wpAny_typeOf_ref (k _ _ he) (by rw [hz.1]; exact q)
  refine wpAny_handleBy_cons (codeAny_handlers_test (L.named hs hf hc ((PySem.W.exm_one (M := model X.prog X.w) L.inv.kIn ty hb).here ?_))) (by intro q; cases q)
  cases b with
  | false => exact next (no rfl)
  | true =>
    obtain ⟨B, sI, I, nb, up, fl, na, os, ag⟩ := id L
    refine codeAny_handlers_suite_as (HandSPX.lands_againZ fl fun h' fl' up' => ?_)
    have L' : Landed X pins σ H a cls d { s with heap := h' } := ⟨B, sI, I, nb, up.trans up', fl', na, os, ag⟩
    obtain ⟨oe', vs', _, hz', hd', S⟩ := L'.suite hs hf
    refine store_ok (X := X.suite a ((a, oe') :: (X.pn ++ pins))) (v := .ref a) S hN hi (.inl hln) rfl (fun s2 S2 => ?_) (.inr hln)
    refine wpAny_mono ((hsu a oe' cls d (X.pn ++ pins) hz' ⟨_, hd'⟩).run [] s2 _ H _ S2 (yes rfl a na)) (fun f s3 q => ?_) fun _ _ z => z.elim
    match f, q with
    | .next, ⟨_, _, S3, q⟩ => exact gone_ok (S3.unsuite ok) hN hi hln fun s4 J => ⟨_, _, J, q⟩
    | .brk, ⟨_, _, S3, q⟩ => exact gone_ok (S3.unsuite ok) hN hi hln fun s4 J => ⟨_, _, J, q⟩
    | .cont, ⟨_, _, S3, q⟩ => exact gone_ok (S3.unsuite ok) hN hi hln fun s4 J => ⟨_, _, J, q⟩
    | .ret u, ⟨_, _, _, S3, r, q⟩ => exact gone_ok (S3.unsuite ok) hN hi hln fun s4 J => ⟨_, _, _, J, r, q⟩
end
section
variable {X : Cx} {body : List Stmt} {hds : List ExceptHandler} {pos : Pos} {tb : WX → TS}
/-- try: what the clauses do with an exception that has landed is all there is to be shown -/
theorem ps_tryL (Wd : Ends → WX) (hs : X.stack = X.env :: X.outer) (hf : X.env.frame = some X.env.locals) (h0 : hds ≠ [])
    (hb : ∀ (W : WX) (pn : List (Addr × Obj)) (xe : Value → Shared → Prop), L2N.Takes (X.tr pn xe) W → PassesOwn (model X.prog X.w) X.A X.env xe → PSs (X.tr pn xe) body (tb W))
    (catch_ : ∀ (pins : List (Addr × Obj)) (σ : L2.St) (H : Hp) (a : Addr) (cls : Value) (d : Option Addr) (s : Shared) (D : Ends), Landed X pins σ H a cls d s → X.Ok → Wd D cls d σ H → wpAny (model X.prog X.w) X.A (handleBy (.ref a) X.env hds) (SP X pins D) X.xe s) :
    PS X (.Try body hds [] [] pos) (fun D σ H => tb (Wd D) D σ H) := by
  refine ⟨fun pins s σ H D I h => ?_⟩
  have ok := I.ok
  have fr : X.A.frames = some (X.env :: X.outer) := by rw [ok.frames, hs]
  obtain ⟨hd1, tl, rfl⟩ := List.exists_cons_of_ne_nil h0
  refine wpAny_Try_except ?_
  have takes : L2N.Takes (X.tr (X.pn ++ pins) fun e s₁ => wpAny (model X.prog X.w) X.A (noteFrame e X.env) (fun _ s₂ => wpAny (model X.prog X.w) X.A (setFlight e none) (fun _ s₃ => wpAny (model X.prog X.w) X.A (handleBy e X.env (hd1 :: tl)) (SP X pins D) X.xe s₃) X.xe s₂) X.xe s₁) (Wd D) := by
    rintro _ s1 ⟨a, B, sI, pn, σ1, H1, cls, d, rfl, J, nb, up, sky, na, os, ag, w⟩
    refine L2N.Sky.land L2N.Zn.steady fr hf (by rw [← hs]; exact sky) fun h fl u => catch_ pins σ1 H1 a cls d { s1 with heap := h } D ⟨B, sI, J.ofTry ok, nb, up.trans u, ?_, na, os, ag⟩ ok w
    rw [hs]
    exact fl
  refine wpAny_mono ((hb (Wd D) _ _ takes PassesOwn.looking).run [] s σ H D (I.toTry _) h) (fun f s1 q => ?_) fun _ _ z => z
  match f, q with
  | .next, ⟨_, _, J, q⟩ => exact wpAny_execs_nil ⟨_, _, J.ofTry ok, q⟩
  | .brk, ⟨_, _, J, q⟩ => exact ⟨_, _, J.ofTry ok, q⟩
  | .cont, ⟨_, _, J, q⟩ => exact ⟨_, _, J.ofTry ok, q⟩
  | .ret u, ⟨_, _, _, J, r, q⟩ => exact ⟨_, _, _, J.ofTry ok, r, q⟩
/-- try .. except x as n: .. except y as m: .. -/
theorem oc_try2 {x n y m : Str} {c e : Value} {i j : Nat} {b₀ b₁ : Stmt} {suite suite' : List Stmt} {np np' pos' pos'' : Pos} {ts ts' : Addr → Value → Option Addr → TS} {Wout : WX} (hs : X.stack = X.env :: X.outer) (hf : X.env.frame = some X.env.locals) (hN : X.N.Nodup)
    (hi : X.N[i]? = some n) (hj : X.N[j]? = some m) (hn : X.env.kindOf n = some .local) (hm : X.env.kindOf m = some .local) (hx : Names X x c) (hy : Names X y e) (tk : L2N.Takes X Wout)
    (hb : ∀ (W : WX) (pn : List (Addr × Obj)) (xe : Value → Shared → Prop), L2N.Takes (X.tr pn xe) W → PassesOwn (model X.prog X.w) X.A X.env xe → PSs (X.tr pn xe) body (tb W))
    (h1 : ∀ (a : Addr) (oe : Obj) (cls : Value) (d : Option Addr) (pn : List (Addr × Obj)), L2N.Zn cls d oe → (∃ vs, oe.data = .fields vs) → PSs (X.suite a ((a, oe) :: pn)) (b₀ :: suite) (ts a cls d))
    (h2 : ∀ (a : Addr) (oe : Obj) (cls : Value) (d : Option Addr) (pn : List (Addr × Obj)), L2N.Zn cls d oe → (∃ vs, oe.data = .fields vs) → PSs (X.suite a ((a, oe) :: pn)) (b₁ :: suite') (ts' a cls d)) :
    PS X (.Try body [.ExceptHandler (some (.Name x np)) (some n) (b₀ :: suite) pos', .ExceptHandler (some (.Name y np')) (some m) (b₁ :: suite') pos''] [] [] pos) (fun D σ H => tb (wAs X.K c i ts (wAs X.K e j ts' Wout D) D) D σ H) :=
  ps_tryL (fun D => wAs X.K c i ts (wAs X.K e j ts' Wout D) D) hs hf (by simp) hb fun pins σ H a cls d s D L ok w =>
    L.clause ok hs hf hN hi hn hx h1 (fun w => L.clause ok hs hf hN hj hm hy h2 (fun w => L.out hs hf tk w) w) w
end
end Oc
/-! ### the exception of a suite, handed to a def -/
namespace Oc
open PySem PySem.Spec PyProof.Rows L2
/-- what a def promises that is called in an except suite with the exception as its first argument: sp knows the exception's class and dict -/
structure FnE (P : Program) (w : World) (K : PySem.W.Frag) (mg : Str → Option Value) (base : Heap) (CX : CXT) (k : Nat) (f : Addr) (fd : FuncData) (ps : List Str) (sp : Value → Option Addr → Sp) : Prop where
  len : ∀ cls d vs H Q E, sp cls d vs H Q E → vs.length = ps.length
  run : ∀ (A : Around) (outer : List Env) (s : Shared) (H : Hp) (args : Args) (us : List Value) (vs : List V) (Q : VK) (E : XK) (p : Addr × Obj) (cls : Value) (d : Option Addr), L2H.RoomH k A → L2H.Hot1 A p → L2H.PinOk outer H s p → L2N.Zn cls d p.2 → vs.head? = some (.ref p.1) →
    Env0 P w K mg base A outer s H → BindsTo s fd args (ps.zip us) → Vals vs us → sp cls d vs H Q E → codeAny (model P w) A (.call (.ref f) args) (CR CX outer P w H s Q E) s
section
variable {P : Program} {w : World} {K : PySem.W.Frag} {mg : Str → Option Value} {base : Heap} {CX : CXT} {k : Nat} {f : Addr} {fd : FuncData} {ps N : List Str} {sp : Value → Option Addr → Sp} {x qual : Str} {st : Stmt}
/-- .. shown by its body, the exception at hand -/
theorem okE (F : Fun K x qual st f fd) (S : FnScope N ps (defScope st)) (len : ∀ cls d vs H Q E, sp cls d vs H Q E → vs.length = ps.length)
    (hbody : ∀ (cdv : Value) (A : Around) (outer : List Env) (s : Shared) (H : Hp) (vs : List V) (Q : VK) (E : XK) (p : Addr × Obj) (cls : Value) (d : Option Addr), L2H.Hot1 A p → L2N.Zn cls d p.2 → vs.head? = some (.ref p.1) → L2H.RoomH k (A.deeper (envOfC qual (defScope st) s.heap.objs.size f cdv)) → sp cls d vs H Q E →
      ∃ t, PSs (L2H.cxH CX P w K mg base N qual (defScope st) f cdv A outer s H E p) (defBody st) t ∧ t { nx := fun _ H' => Q .non H', rt := Q } (start N vs) H) : FnE P w K mg base CX (k + 1) f fd ps sp := by
  obtain ⟨oc, od, kV, doc, pm, an, cdv, ct, osl, rfl, lk, hcd⟩ := F.ex
  refine ⟨len, fun A outer s H args us vs Q E p cls d hr hot pin hz hv e0 hb r h => ?_⟩
  have up : K.In s.heap := e0.mod.kin.keeps fun b o e => (e0.bs b o e).1
  refine codeAny_call_function hr.depth (up _ _ lk) rfl S.co S.gen rfl (PySem.W.codeRec_of up hcd) (hb _ _ _ _ (wpAny_newFunctionEnv_cells S.kind (fun y hy => (S.par y.1 (List.of_mem_zip hy).1).imp id fun q => ⟨q, PySem.W.cellsFrom_some _ _ _ (.inl q)⟩) fun env he s1 made => ?_))
  subst he
  refine ⟨(e0.mod.nolimit.keeps fun b o e => (e0.bs b o e).1).keeps made.toInCall.keep, codeAny_func ?_⟩
  obtain ⟨t, ht, q⟩ := hbody cdv A outer s H vs Q E p cls d hot hz hv (hr.deeper _) h
  refine wpAny_mono (ht.run [] s1 (start N vs) H _ (L2H.inv_startH S pin e0 (len _ _ _ _ _ _ h) r made) q) (fun fl s2 z => ?_) fun _ _ z => z
  match fl, z with
  | .ret u, ⟨v, _, H', J, rv, q⟩ => exact ⟨v, H', J.os, J.bare, J.base, J.hok, rv, q⟩
  | .next, ⟨_, H', J, q⟩ => exact ⟨.non, H', J.os, J.bare, J.base, J.hok, rfl, q⟩
  | .brk, ⟨_, _, _, z⟩ => exact z.elim
  | .cont, ⟨_, _, _, z⟩ => exact z.elim
end
section
variable {X : Cx} {k : Nat} {f : Addr} {fd : FuncData} {ps : List Str} {sp : Value → Option Addr → Sp} {x : Str} {q pos : Pos} {e : Expr} {es : List Expr} {t : TA} {p : Addr × Obj} {cls : Value} {d : Option Addr}
/-- the reading of such a call -/
def tCallE (sp : Value → Option Addr → Sp) (a : Addr) (cls : Value) (d : Option Addr) (t : TA) : TE := fun σ H Q => t σ H fun vs H1 => vs.head? = some (.ref a) ∧ sp cls d vs H1 Q E0
theorem pe_callE (F : FnE X.prog X.w X.K X.mg X.base CX0 k f fd ps sp) (hr : L2H.RoomH k X.A) (hot : L2H.Hot1 X.A p) (hp : p ∈ X.pn) (hz : L2N.Zn cls d p.2) (hg : Gl X x) (hm : X.mg x = some (.ref f)) (hk : PySem.W.keepIn X.K (.ref f) = true) (hb : Binds X.K fd ps [])
    (ha : PA X (e :: es) t) (hdb : (x == ("__debug__" : Str)) = false := by decide) (he : starEach (e :: es) X.env = (false, eval e X.env) :: starEach es X.env := by rfl) (hpl : (backTo pos (starEach es X.env)).any (·.1) = false := by rfl) :
    PE X (.Call (.Name x q) (e :: es) [] pos) (tCallE sp p.1 cls d t) := by
  refine ⟨fun pins s σ H Q I h => wpAny_Call_Name_kw (ld_glob I hg hm ?_ hdb)⟩
  refine PySem.W.callWith_K (h₀ := X.base) I.ok.mod.kin hk (thn (ha.run pos pins s σ H _ I h) fun us s1 ⟨vs, H1, J, r, hv, q⟩ => ⟨J.kIn, ?_⟩) he hpl
  have g := J.pin p (List.mem_append_left _ hp)
  have pin : L2H.PinOk X.stack H1 s1 p := ⟨g.1, g.2.1, fun m => (List.mem_cons.mp (J.stkSub p.1 m)).elim g.2.2.1 g.2.2.2.1, g.2.2.2.2⟩
  have bi := hb s1 us J.kIn (by rw [List.append_nil, ← r.length]; exact F.len _ _ _ _ _ _ q)
  rw [List.append_nil] at bi
  refine wpAny_call (codeAny_mono (F.run X.A X.stack s1 H1 ⟨us, []⟩ us vs Q E0 p cls d hr hot pin hz hv J.env0 bi r q) fun r s2 z => ?_)
  match r, z with
  | .error er, z => exact pass0 pins σ _ _ er s2 J z
  | .ok (.ret u), z => exact J.after z
/-- isinstance(e, c), e an exception that is pinned, with a dict -/
theorem oc_isP {D : Addr} {c : V} {cv : Value} {b : Bool} (hp : p ∈ X.pn) (C : ExcC X.K D) (hz : Zc cls d p.2) (hf : ∃ vs, p.2.data = .fields vs) (hk : PySem.W.kitOne X.K (.ref D) cv = some b) (hcv : ∀ u, RelV c u → u = cv) :
    CallR X (.builtin "isinstance") (fun xs H Q => cls = .ref D ∧ xs = [.ref p.1, c] ∧ (∃ dd fs, d = some dd ∧ H dd = some (.xd fs)) ∧ Q (.bl b) H) := by
  rintro pins s σ H xs us Q I r ⟨rfl, rfl, ⟨dd, fs, rfl, ea⟩, q⟩
  obtain ⟨u, t, rfl, rfl, rt⟩ : ∃ u t, us = [u, t] ∧ u = .ref p.1 ∧ RelV c t := by
    cases r with
    | cons a r =>
      cases r with
      | cons b r =>
        cases r
        exact ⟨_, _, rfl, a, b⟩
  obtain rfl := hcv _ rt
  obtain ⟨vs, hv⟩ := hf
  obtain ⟨_, hns, _⟩ := (show ObjOk X.prog X.w H s.heap dd (.xd fs) from I.hok dd _ ea)
  obtain ⟨od, ho, _⟩ := lookIn_ns hns
  obtain ⟨_, hcD, _⟩ := PySem.W.any_some C.hd
  have J : PySem.W.InstAt s.heap p.1 p.2 D (some od) := ⟨(I.pin p (List.mem_append_left _ hp)).1, hz.1, by unfold PySem.W.notCls; rw [hv] <;> rfl, by rw [hz.2]; exact ho⟩
  exact PySem.W.kia_one (PySem.W.kitx_exc (by rw [hcD]; rfl) C.hg C.hk C.hs C.ha C.hn C.ht C.hm) I.kIn J hk (fun z => nomatch z) fun tk => ⟨.bl b, H, I.kept (t' := tk) fun _ _ z => z, rfl, q⟩
theorem v_isP {D : Addr} {c : V} {cv : Value} {b : Bool} (hp : p ∈ X.pn) (C : ExcC X.K D) (hz : Zc cls d p.2) (hf : ∃ vs, p.2.data = .fields vs) (hk : PySem.W.kitOne X.K (.ref D) cv = some b) (hcv : ∀ u, RelV c u → u = cv) : CallR X (.builtin "isinstance") (qIsE D cls d p.1 c b) := oc_isP hp C hz hf hk hcv
theorem hot1 {a : Addr} {oe : Obj} {pn : List (Addr × Obj)} (hz : L2N.Zn cls d oe) (hf : ∃ vs, oe.data = .fields vs) : L2H.Hot1 (X.suite a ((a, oe) :: pn)).A (a, oe) := by
  obtain ⟨vs, hd⟩ := hf
  exact ⟨rfl, vs, hd, hz.2.2 vs hd⟩
theorem hotF {A : Around} (h : L2H.Hot1 A p) : ∃ vs, p.2.data = .fields vs := by
  obtain ⟨_, vs, e, _⟩ := h
  exact ⟨vs, e⟩
theorem pe_callEa {a : Addr} {oe : Obj} (F : FnE X.prog X.w X.K X.mg X.base CX0 k f fd ps sp) (hr : L2H.RoomH k X.A) (hot : L2H.Hot1 X.A (a, oe)) (hp : (a, oe) ∈ X.pn) (hz : L2N.Zn cls d oe) (hg : Gl X x) (hm : X.mg x = some (.ref f)) (hk : PySem.W.keepIn X.K (.ref f) = true) (hb : Binds X.K fd ps [])
    (ha : PA X (e :: es) t) (hdb : (x == ("__debug__" : Str)) = false := by decide) (he : starEach (e :: es) X.env = (false, eval e X.env) :: starEach es X.env := by rfl) (hpl : (backTo pos (starEach es X.env)).any (·.1) = false := by rfl) :
    PE X (.Call (.Name x q) (e :: es) [] pos) (tCallE sp a cls d t) := pe_callE (p := (a, oe)) F hr hot hp hz hg hm hk hb ha hdb he hpl
def kCE (sp : Value → Option Addr → Sp) (a : Addr) (cls : Value) (d : Option Addr) (Q : VK) (vs : List V) (H1 : Hp) : Prop := vs.head? = some (.ref a) ∧ sp cls d vs H1 Q E0
theorem g_callE {a : Addr} {σ : L2.St} {H : Hp} {Q : VK} (k : t σ H (kCE sp a cls d Q)) : tCallE sp a cls d t σ H Q := k
theorem g_kCE {a : Addr} {vs : List V} {H : Hp} {Q : VK} (k : sp cls d (.ref a :: vs) H Q E0) : kCE sp a cls d Q (.ref a :: vs) H := ⟨rfl, k⟩
end
end Oc
/-! ### short tactics -/
local macro_rules | `(tactic| fail "fr1") => `(tactic| first | exact Oc.Sts.to0 (by assumption) | exact Oc.Sts.to1 (by assumption) | exact Oc.Sts.to2 (by assumption) | exact Oc.Sts.to3 (by assumption) | exact Oc.Sts.to4 (by assumption) | exact Oc.Sts.to5 (by assumption) | exact Oc.Sts.to6 (by assumption) | exact Oc.Sts.to7 (by assumption) | exact Oc.Sts.to8 (by assumption) | exact Oc.Sts.to9 (by assumption) | exact Oc.Sts.to10 (by assumption) | exact Oc.Sts.to11 (by assumption) | exact Oc.Sts.to12 (by assumption) | exact Oc.Sts.to13 (by assumption) | exact Oc.Sts.to14 (by assumption) | exact Oc.Sts.to15 (by assumption) | exact Oc.Sts.to16 (by assumption) | exact Oc.Sts.to17 (by assumption) | exact Oc.Sts.to18 (by assumption) | exact Oc.Sts.to19 (by assumption) | exact Oc.Sts.to20 (by assumption) | exact Oc.Sts.to21 (by assumption) | exact Oc.Sts.to22 (by assumption) | exact Oc.Sts.to23 (by assumption) | exact Oc.Sts.to24 (by assumption))
local macro_rules | `(tactic| fail "hp") => `(tactic| first | exact Oc.Sts.hd (Oc.Sts.to0 (by assumption)) | exact Oc.Sts.hd (Oc.Sts.to1 (by assumption)) | exact Oc.Sts.hd (Oc.Sts.to2 (by assumption)) | exact Oc.Sts.hd (Oc.Sts.to3 (by assumption)) | exact Oc.Sts.hd (Oc.Sts.to4 (by assumption)) | exact Oc.Sts.hd (Oc.Sts.to5 (by assumption)) | exact Oc.Sts.hd (Oc.Sts.to6 (by assumption)) | exact Oc.Sts.hd (Oc.Sts.to7 (by assumption)) | exact Oc.Sts.hd (Oc.Sts.to8 (by assumption)) | exact Oc.Sts.hd (Oc.Sts.to9 (by assumption)) | exact Oc.Sts.hd (Oc.Sts.to10 (by assumption)) | exact Oc.Sts.hd (Oc.Sts.to11 (by assumption)) | exact Oc.Sts.hd (Oc.Sts.to12 (by assumption)) | exact Oc.Sts.hd (Oc.Sts.to13 (by assumption)) | exact Oc.Sts.hd (Oc.Sts.to14 (by assumption)) | exact Oc.Sts.hd (Oc.Sts.to15 (by assumption)) | exact Oc.Sts.hd (Oc.Sts.to16 (by assumption)) | exact Oc.Sts.hd (Oc.Sts.to17 (by assumption)) | exact Oc.Sts.hd (Oc.Sts.to18 (by assumption)) | exact Oc.Sts.hd (Oc.Sts.to19 (by assumption)) | exact Oc.Sts.hd (Oc.Sts.to20 (by assumption)) | exact Oc.Sts.hd (Oc.Sts.to21 (by assumption)) | exact Oc.Sts.hd (Oc.Sts.to22 (by assumption)) | exact Oc.Sts.hd (Oc.Sts.to23 (by assumption)) | exact Oc.Sts.hd (Oc.Sts.to24 (by assumption)))
local macro_rules | `(tactic| fail "sq") => `(tactic| first | exact L2.SqL.of (by fail "hp") | exact Oc.Sts.sq (by fail "fr1") | exact L2.SqL.of (Oc.hI1 (by fail "hp")) | exact L2.SqL.of (Oc.hI0 (by fail "hp")) | exact L2.SqL.of (Oc.hI2 (by fail "hp")) | exact L2.SqL.of (Oc.hI3 (by fail "hp")) | exact L2.SqL.of (Oc.hI7 (by fail "hp")) | exact L2.SqL.of (Oc.hI4 (by fail "hp")))
local macro_rules | `(tactic| fail "hpI") => `(tactic| first | fail "hp" | exact Oc.hI1 (by fail "hp") | exact Oc.hI0 (by fail "hp") | exact Oc.hI2 (by fail "hp") | exact Oc.hI3 (by fail "hp") | exact Oc.hI7 (by fail "hp") | exact Oc.hI4 (by fail "hp"))
local macro_rules | `(tactic| fail "frI") => `(tactic| first | fail "fr1" | exact Oc.gI0 (by fail "fr1") | exact Oc.gI1 (by fail "fr1") | exact Oc.gI2 (by fail "fr1"))
local macro_rules | `(tactic| fail "fr2") => `(tactic| first | (refine Oc.Sts.under (fun _ ot => ?_) (Oc.Sts.to0 (by assumption)); fail "fr1") | (refine Oc.Sts.under (fun _ ot => ?_) (Oc.Sts.to1 (by assumption)); fail "fr1") | (refine Oc.Sts.under (fun _ ot => ?_) (Oc.Sts.to2 (by assumption)); fail "fr1") | (refine Oc.Sts.under (fun _ ot => ?_) (Oc.Sts.to3 (by assumption)); fail "fr1") | (refine Oc.Sts.under (fun _ ot => ?_) (Oc.Sts.to4 (by assumption)); fail "fr1") | (refine Oc.Sts.under (fun _ ot => ?_) (Oc.Sts.to5 (by assumption)); fail "fr1") | (refine Oc.Sts.under (fun _ ot => ?_) (Oc.Sts.to6 (by assumption)); fail "fr1") | (refine Oc.Sts.under (fun _ ot => ?_) (Oc.Sts.to7 (by assumption)); fail "fr1") | (refine Oc.Sts.under (fun _ ot => ?_) (Oc.Sts.to8 (by assumption)); fail "fr1") | (refine Oc.Sts.under (fun _ ot => ?_) (Oc.Sts.to9 (by assumption)); fail "fr1") | (refine Oc.Sts.under (fun _ ot => ?_) (Oc.Sts.to10 (by assumption)); fail "fr1") | (refine Oc.Sts.under (fun _ ot => ?_) (Oc.Sts.to11 (by assumption)); fail "fr1") | (refine Oc.Sts.under (fun _ ot => ?_) (Oc.Sts.to12 (by assumption)); fail "fr1") | (refine Oc.Sts.under (fun _ ot => ?_) (Oc.Sts.to13 (by assumption)); fail "fr1") | (refine Oc.Sts.under (fun _ ot => ?_) (Oc.Sts.to14 (by assumption)); fail "fr1") | (refine Oc.Sts.under (fun _ ot => ?_) (Oc.Sts.to15 (by assumption)); fail "fr1") | (refine Oc.Sts.under (fun _ ot => ?_) (Oc.Sts.to16 (by assumption)); fail "fr1") | (refine Oc.Sts.under (fun _ ot => ?_) (Oc.Sts.to17 (by assumption)); fail "fr1") | (refine Oc.Sts.under (fun _ ot => ?_) (Oc.Sts.to18 (by assumption)); fail "fr1") | (refine Oc.Sts.under (fun _ ot => ?_) (Oc.Sts.to19 (by assumption)); fail "fr1") | (refine Oc.Sts.under (fun _ ot => ?_) (Oc.Sts.to20 (by assumption)); fail "fr1") | (refine Oc.Sts.under (fun _ ot => ?_) (Oc.Sts.to21 (by assumption)); fail "fr1") | (refine Oc.Sts.under (fun _ ot => ?_) (Oc.Sts.to22 (by assumption)); fail "fr1") | (refine Oc.Sts.under (fun _ ot => ?_) (Oc.Sts.to23 (by assumption)); fail "fr1") | (refine Oc.Sts.under (fun _ ot => ?_) (Oc.Sts.to24 (by assumption)); fail "fr1"))
local macro_rules | `(tactic| fail "fr3") => `(tactic| first | (refine Oc.Sts.under (fun _ ot => ?_) (Oc.Sts.to0 (by assumption)); fail "fr2") | (refine Oc.Sts.under (fun _ ot => ?_) (Oc.Sts.to1 (by assumption)); fail "fr2") | (refine Oc.Sts.under (fun _ ot => ?_) (Oc.Sts.to2 (by assumption)); fail "fr2") | (refine Oc.Sts.under (fun _ ot => ?_) (Oc.Sts.to3 (by assumption)); fail "fr2") | (refine Oc.Sts.under (fun _ ot => ?_) (Oc.Sts.to4 (by assumption)); fail "fr2") | (refine Oc.Sts.under (fun _ ot => ?_) (Oc.Sts.to5 (by assumption)); fail "fr2") | (refine Oc.Sts.under (fun _ ot => ?_) (Oc.Sts.to6 (by assumption)); fail "fr2") | (refine Oc.Sts.under (fun _ ot => ?_) (Oc.Sts.to7 (by assumption)); fail "fr2") | (refine Oc.Sts.under (fun _ ot => ?_) (Oc.Sts.to8 (by assumption)); fail "fr2") | (refine Oc.Sts.under (fun _ ot => ?_) (Oc.Sts.to9 (by assumption)); fail "fr2") | (refine Oc.Sts.under (fun _ ot => ?_) (Oc.Sts.to10 (by assumption)); fail "fr2") | (refine Oc.Sts.under (fun _ ot => ?_) (Oc.Sts.to11 (by assumption)); fail "fr2") | (refine Oc.Sts.under (fun _ ot => ?_) (Oc.Sts.to12 (by assumption)); fail "fr2") | (refine Oc.Sts.under (fun _ ot => ?_) (Oc.Sts.to13 (by assumption)); fail "fr2") | (refine Oc.Sts.under (fun _ ot => ?_) (Oc.Sts.to14 (by assumption)); fail "fr2") | (refine Oc.Sts.under (fun _ ot => ?_) (Oc.Sts.to15 (by assumption)); fail "fr2") | (refine Oc.Sts.under (fun _ ot => ?_) (Oc.Sts.to16 (by assumption)); fail "fr2") | (refine Oc.Sts.under (fun _ ot => ?_) (Oc.Sts.to17 (by assumption)); fail "fr2") | (refine Oc.Sts.under (fun _ ot => ?_) (Oc.Sts.to18 (by assumption)); fail "fr2") | (refine Oc.Sts.under (fun _ ot => ?_) (Oc.Sts.to19 (by assumption)); fail "fr2") | (refine Oc.Sts.under (fun _ ot => ?_) (Oc.Sts.to20 (by assumption)); fail "fr2") | (refine Oc.Sts.under (fun _ ot => ?_) (Oc.Sts.to21 (by assumption)); fail "fr2") | (refine Oc.Sts.under (fun _ ot => ?_) (Oc.Sts.to22 (by assumption)); fail "fr2") | (refine Oc.Sts.under (fun _ ot => ?_) (Oc.Sts.to23 (by assumption)); fail "fr2") | (refine Oc.Sts.under (fun _ ot => ?_) (Oc.Sts.to24 (by assumption)); fail "fr2"))
local macro_rules | `(tactic| fail "fp") => `(tactic| first | assumption | exact trivial | exact Oc.Sts.tail (by assumption) | exact Oc.Sts.tail (Oc.Sts.tail (by assumption)) | exact Oc.Sts.tail (Oc.Sts.tail (Oc.Sts.tail (by assumption))) | exact Oc.Sts.tail (Oc.Sts.tail (Oc.Sts.tail (Oc.Sts.tail (by assumption)))) | exact Oc.Sts.tail (Oc.Sts.tail (Oc.Sts.tail (Oc.Sts.tail (Oc.Sts.tail (by assumption))))) | exact Oc.Sts.tail (Oc.Sts.tail (Oc.Sts.tail (Oc.Sts.tail (Oc.Sts.tail (Oc.Sts.tail (by assumption)))))) | exact Oc.Sts.tail (Oc.Sts.tail (Oc.Sts.tail (Oc.Sts.tail (Oc.Sts.tail (Oc.Sts.tail (Oc.Sts.tail (by assumption))))))) | exact Oc.Sts.tail (Oc.Sts.tail (Oc.Sts.tail (Oc.Sts.tail (Oc.Sts.tail (Oc.Sts.tail (Oc.Sts.tail (Oc.Sts.tail (by assumption)))))))) | exact Oc.Sts.tail (Oc.Sts.tail (Oc.Sts.tail (Oc.Sts.tail (Oc.Sts.tail (Oc.Sts.tail (Oc.Sts.tail (Oc.Sts.tail (Oc.Sts.tail (by assumption))))))))) | exact Oc.Sts.tail (Oc.Sts.tail (Oc.Sts.tail (Oc.Sts.tail (Oc.Sts.tail (Oc.Sts.tail (Oc.Sts.tail (Oc.Sts.tail (Oc.Sts.tail (Oc.Sts.tail (by assumption)))))))))) | exact Oc.Sts.tail (Oc.Sts.tail (Oc.Sts.tail (Oc.Sts.tail (Oc.Sts.tail (Oc.Sts.tail (Oc.Sts.tail (Oc.Sts.tail (Oc.Sts.tail (Oc.Sts.tail (Oc.Sts.tail (by assumption))))))))))) | exact Oc.Sts.tail (Oc.Sts.tail (Oc.Sts.tail (Oc.Sts.tail (Oc.Sts.tail (Oc.Sts.tail (Oc.Sts.tail (Oc.Sts.tail (Oc.Sts.tail (Oc.Sts.tail (Oc.Sts.tail (Oc.Sts.tail (by assumption)))))))))))) | exact Oc.Sts.tail (Oc.Sts.tail (Oc.Sts.tail (Oc.Sts.tail (Oc.Sts.tail (Oc.Sts.tail (Oc.Sts.tail (Oc.Sts.tail (Oc.Sts.tail (Oc.Sts.tail (Oc.Sts.tail (Oc.Sts.tail (Oc.Sts.tail (by assumption))))))))))))) | exact Oc.Sts.tail (Oc.Sts.tail (Oc.Sts.tail (Oc.Sts.tail (Oc.Sts.tail (Oc.Sts.tail (Oc.Sts.tail (Oc.Sts.tail (Oc.Sts.tail (Oc.Sts.tail (Oc.Sts.tail (Oc.Sts.tail (Oc.Sts.tail (Oc.Sts.tail (by assumption)))))))))))))) | exact Oc.Sts.tail (Oc.Sts.tail (Oc.Sts.tail (Oc.Sts.tail (Oc.Sts.tail (Oc.Sts.tail (Oc.Sts.tail (Oc.Sts.tail (Oc.Sts.tail (Oc.Sts.tail (Oc.Sts.tail (Oc.Sts.tail (Oc.Sts.tail (Oc.Sts.tail (Oc.Sts.tail (by assumption))))))))))))))) | exact Oc.Sts.tail (Oc.Sts.tail (Oc.Sts.tail (Oc.Sts.tail (Oc.Sts.tail (Oc.Sts.tail (Oc.Sts.tail (Oc.Sts.tail (Oc.Sts.tail (Oc.Sts.tail (Oc.Sts.tail (Oc.Sts.tail (Oc.Sts.tail (Oc.Sts.tail (Oc.Sts.tail (Oc.Sts.tail (by assumption)))))))))))))))) | exact Oc.Sts.tail (Oc.Sts.tail (Oc.Sts.tail (Oc.Sts.tail (Oc.Sts.tail (Oc.Sts.tail (Oc.Sts.tail (Oc.Sts.tail (Oc.Sts.tail (Oc.Sts.tail (Oc.Sts.tail (Oc.Sts.tail (Oc.Sts.tail (Oc.Sts.tail (Oc.Sts.tail (Oc.Sts.tail (Oc.Sts.tail (by assumption))))))))))))))))) | exact Oc.Sts.tail (Oc.Sts.tail (Oc.Sts.tail (Oc.Sts.tail (Oc.Sts.tail (Oc.Sts.tail (Oc.Sts.tail (Oc.Sts.tail (Oc.Sts.tail (Oc.Sts.tail (Oc.Sts.tail (Oc.Sts.tail (Oc.Sts.tail (Oc.Sts.tail (Oc.Sts.tail (Oc.Sts.tail (Oc.Sts.tail (Oc.Sts.tail (by assumption)))))))))))))))))) | exact Oc.Sts.tail (Oc.Sts.tail (Oc.Sts.tail (Oc.Sts.tail (Oc.Sts.tail (Oc.Sts.tail (Oc.Sts.tail (Oc.Sts.tail (Oc.Sts.tail (Oc.Sts.tail (Oc.Sts.tail (Oc.Sts.tail (Oc.Sts.tail (Oc.Sts.tail (Oc.Sts.tail (Oc.Sts.tail (Oc.Sts.tail (Oc.Sts.tail (Oc.Sts.tail (by assumption))))))))))))))))))) | exact Oc.Sts.tail (Oc.Sts.tail (Oc.Sts.tail (Oc.Sts.tail (Oc.Sts.tail (Oc.Sts.tail (Oc.Sts.tail (Oc.Sts.tail (Oc.Sts.tail (Oc.Sts.tail (Oc.Sts.tail (Oc.Sts.tail (Oc.Sts.tail (Oc.Sts.tail (Oc.Sts.tail (Oc.Sts.tail (Oc.Sts.tail (Oc.Sts.tail (Oc.Sts.tail (Oc.Sts.tail (by assumption)))))))))))))))))))) | (refine Oc.Sts.under (fun _ ot => ?_) (Oc.Sts.to0 (by assumption)); fail "fp") | (refine Oc.Sts.under (fun _ ot => ?_) (Oc.Sts.to1 (by assumption)); fail "fp") | (refine Oc.Sts.under (fun _ ot => ?_) (Oc.Sts.to2 (by assumption)); fail "fp") | (refine Oc.Sts.under (fun _ ot => ?_) (Oc.Sts.to3 (by assumption)); fail "fp") | (refine Oc.Sts.under (fun _ ot => ?_) (Oc.Sts.to4 (by assumption)); fail "fp") | (refine Oc.Sts.under (fun _ ot => ?_) (Oc.Sts.to5 (by assumption)); fail "fp") | (refine Oc.Sts.under (fun _ ot => ?_) (Oc.Sts.to6 (by assumption)); fail "fp") | (refine Oc.Sts.under (fun _ ot => ?_) (Oc.Sts.to7 (by assumption)); fail "fp") | (refine Oc.Sts.under (fun _ ot => ?_) (Oc.Sts.to8 (by assumption)); fail "fp") | (refine Oc.Sts.under (fun _ ot => ?_) (Oc.Sts.to9 (by assumption)); fail "fp") | (refine Oc.Sts.under (fun _ ot => ?_) (Oc.Sts.to10 (by assumption)); fail "fp") | (refine Oc.Sts.under (fun _ ot => ?_) (Oc.Sts.to11 (by assumption)); fail "fp") | (refine Oc.Sts.under (fun _ ot => ?_) (Oc.Sts.to12 (by assumption)); fail "fp") | (refine Oc.Sts.under (fun _ ot => ?_) (Oc.Sts.to13 (by assumption)); fail "fp") | (refine Oc.Sts.under (fun _ ot => ?_) (Oc.Sts.to14 (by assumption)); fail "fp") | (refine Oc.Sts.under (fun _ ot => ?_) (Oc.Sts.to15 (by assumption)); fail "fp") | (refine Oc.Sts.under (fun _ ot => ?_) (Oc.Sts.to16 (by assumption)); fail "fp") | (refine Oc.Sts.under (fun _ ot => ?_) (Oc.Sts.to17 (by assumption)); fail "fp") | (refine Oc.Sts.under (fun _ ot => ?_) (Oc.Sts.to18 (by assumption)); fail "fp") | (refine Oc.Sts.under (fun _ ot => ?_) (Oc.Sts.to19 (by assumption)); fail "fp") | (refine Oc.Sts.under (fun _ ot => ?_) (Oc.Sts.to20 (by assumption)); fail "fp") | (refine Oc.Sts.under (fun _ ot => ?_) (Oc.Sts.to21 (by assumption)); fail "fp") | (refine Oc.Sts.under (fun _ ot => ?_) (Oc.Sts.to22 (by assumption)); fail "fp") | (refine Oc.Sts.under (fun _ ot => ?_) (Oc.Sts.to23 (by assumption)); fail "fp") | (refine Oc.Sts.under (fun _ ot => ?_) (Oc.Sts.to24 (by assumption)); fail "fp"))
local macro_rules | `(tactic| fail "side") => `(tactic| first | omega | (dsimp only; omega) | exact Oc.le_cut2 (by omega) | exact Or.inr ⟨by omega, by omega⟩ | exact Or.inl ⟨by omega, by omega⟩ | exact ⟨by omega, by omega⟩ | exact ⟨by omega, by omega, by decide⟩ | exact Oc.small (by simp only [List.length_map, List.length_append, List.length_cons, List.length_nil, List.length_set, List.length_range, List.length_reverse, List.length_take, List.length_drop, Oc.len_rep]; omega) | exact Oc.small' (by simp only [List.length_map, List.length_append, List.length_cons, List.length_nil, List.length_set, List.length_range, List.length_reverse, List.length_take, List.length_drop, Oc.len_rep]; omega) | (simp only [List.length_map, List.length_append, List.length_cons, List.length_nil, List.length_set, List.length_range, List.length_reverse, List.length_take, List.length_drop, Oc.len_rep]; omega))
local macro_rules | `(tactic| fail "sideC") => `(tactic| first | omega | exact Or.inr ⟨by omega, by omega⟩ | exact Or.inl ⟨by omega, by omega⟩ | exact ⟨by omega, by omega⟩ | exact ⟨by omega, by omega, by decide⟩)
local macro_rules | `(tactic| fail "sideR") => `(tactic| first | exact ⟨by omega, by omega, by omega⟩ | exact ⟨by omega, by omega, by simp only [List.length_cons, List.length_nil]; omega⟩)
local macro_rules | `(tactic| fail "sideZ") => `(tactic| first | exact Oc.small (Nat.le_of_ble_eq_true rfl) | fail "side")
local macro_rules | `(tactic| fail "side3") => `(tactic| first | exact ⟨by omega, by omega, by omega⟩ | exact ⟨by simp only [List.length_map, List.length_append, List.length_cons, List.length_nil, List.length_set, List.length_range, List.length_reverse, List.length_take, List.length_drop, Oc.len_rep]; omega, by omega, by omega⟩)
local macro_rules | `(tactic| fail "le") => `(tactic| first | assumption | exact Oc.Le.refl _ | (refine Oc.Le.trans (by assumption) ?_; fail "le"))
local macro_rules | `(tactic| fail "te") => `(tactic| first | assumption | (refine Oc.Le.ap ?_ (by assumption); fail "le"))
local macro_rules | `(tactic| fail "tp") => `(tactic| exact Oc.Sts.tp (by fail "fr1") (by fail "te"))
local macro_rules | `(tactic| fail "sqT") => `(tactic| exact L2.SqT.of (by fail "tp"))
local macro_rules | `(tactic| fail "fld") => `(tactic| exact Oc.fldAt_of (by fail "fr1") rfl)
local macro_rules | `(tactic| fail "isc") => `(tactic| exact Oc.isC_of (by fail "fr1"))
local macro_rules | `(tactic| fail "ins") => `(tactic| exact Oc.isIns_of (by fail "fr1") rfl)
local macro_rules | `(tactic| fail "sqO") => `(tactic| exact L2.SqL.of (by fail "hp"))
local macro_rules | `(tactic| fail "st") => `(tactic| with_reducible first
  | refine Oc.g_cons ?_
  | refine Oc.g_nil ?_
  | refine Oc.g_c ?_
  | refine Oc.g_cb ?_
  | refine Oc.g_callX ?_
  | refine Oc.g_op ?_
  | refine Oc.g_asg ?_
  | refine Oc.g_seq ?_
  | refine Oc.g_ifS ?_
  | refine Oc.g_test ?_
  | refine Oc.g_bl ?_
  | refine Oc.g_not ?_
  | refine Oc.g_or ?_
  | refine Oc.g_and ?_
  | refine Oc.g_tB ?_
  | refine Oc.g_ret ?_
  | refine Oc.g_drop ?_
  | refine Oc.g_next ?_
  | refine Oc.g_I0 ?_
  | refine Oc.g_eqI ?_
  | refine Oc.g_neI ?_
  | refine Oc.g_isNI ?_
  | refine Oc.g_isNR ?_
  | refine Oc.g_isNN ?_
  | refine Oc.g_isNO ?_
  | refine Oc.g_notNI ?_
  | refine Oc.g_notNR ?_
  | refine Oc.g_notNN ?_
  | refine Oc.g_notNO ?_
  | refine Oc.g_bm ?_
  | refine Oc.g_lst ?_
  | refine Oc.g_tup ?_
  | refine Oc.g_for ?_
  | refine Oc.g_lc ?_
  | refine Oc.g_iList ?_
  | refine Oc.g_iRng1 ?_
  | refine Oc.g_iRng2 ?_
  | refine Oc.g_truO ?_
  | refine Oc.g_truN ?_
  | refine Oc.g_truB ?_
  | refine Oc.g_truI ?_
  | refine Oc.g_ipI ?_
  | refine Oc.g_U ?_
  | refine Oc.g_un ?_
  | refine Oc.g_gsub ?_
  | refine Oc.g_gcons ?_
  | refine Oc.g_gnil ?_
  | refine Oc.g_sl ?_
  | refine Oc.g_noPart ?_
  | refine Oc.g_part ?_
  | refine Oc.g_kPart ?_
  | refine Oc.g_callS ?_
  | refine Oc.g_andV ?_
  | refine Oc.g_orV ?_
  | refine Oc.g_notV ?_
  | refine Oc.g_kAndV ?_
  | refine Oc.g_kOrV ?_
  | refine Oc.g_kNotV ?_
  | refine Oc.g_if ?_
  | refine Oc.g_chain ?_
  | refine Oc.g_kChain ?_
  | refine Oc.g_retN ?_
  | refine Oc.g_brk ?_
  | refine Oc.g_cont ?_
  | refine Oc.g_bm0 ?_
  | refine Oc.g_intI ?_
  | refine Oc.g_intB ?_
  | refine Oc.g_min2 ?_
  | refine Oc.g_max2 ?_
  | refine Oc.g_abs ?_
  | refine Oc.g_and1 ?_
  | refine Oc.g_powc ?_
  | refine Oc.g_isII ?_
  | refine Oc.g_isIB ?_
  | refine Oc.g_isBB ?_
  | refine Oc.g_eqB ?_
  | refine Oc.g_neB ?_
  | refine Oc.g_eqO ?_
  | refine Oc.g_neO ?_
  | refine Oc.g_isN ?_
  | refine Oc.g_notN ?_
  | refine Oc.g_iEnum ?_
  | refine Oc.g_iZip ?_
  | refine Oc.g_iRevR ?_
  | refine Oc.g_rg1 ?_
  | refine Oc.g_kRg1 ?_
  | refine Oc.g_rg2 ?_
  | refine Oc.g_kRg2 ?_
  | refine Oc.g_yes ?_
  | refine Oc.g_dnewT ?_
  | refine Oc.g_dnewK ?_
  | refine Oc.g_nx ?_
  | refine Oc.g_rt ?_
  | refine Oc.g_lstRg ?_
  | refine Oc.g_revL ?_
  | refine Oc.g_call ?_)
local macro_rules | `(tactic| fail "stc") => `(tactic| with_reducible first
  | refine Oc.g_fld ?_
  | refine Oc.g_meth ?_
  | refine Oc.g_set ?_
  | refine Oc.g_make ?_
  | refine Oc.g_makeE ?_
  | refine Oc.g_own2 ?_
  | refine Oc.g_nonR ?_
  | refine Oc.g_ost1 ?_
  | refine Oc.g_din ?_
  | refine Oc.g_dnotin ?_
  | refine Oc.g_orT ?_
  | refine Oc.g_augS ?_
  | refine Oc.g_xf ?_
  | refine Oc.g_ost2 ?_
  | refine Oc.g_mkX ?_
  | refine Oc.g_raise ?_)
local macro_rules | `(tactic| fail "sv") => `(tactic| first
  | ((with_reducible apply Oc.g_var); exact rfl)
  | ((with_reducible apply Oc.g_newT); fail "fr1"; intro op oh ou ol oe os)
  | ((with_reducible apply Oc.g_newT0); assumption; intro op oh os)
  | ((with_reducible apply Oc.g_new); assumption; exact rfl; intro op oh os)
  | ((with_reducible apply Oc.g_kLst); exact Oc.small' (Nat.le_of_ble_eq_true rfl))
  | ((with_reducible apply Oc.g_kTup); exact Oc.small' (Nat.le_of_ble_eq_true rfl))
  | ((with_reducible apply Oc.g_I); fail "sideC")
  | ((with_reducible apply Oc.g_lenI); fail "sq")
  | ((with_reducible apply Oc.g_len); fail "sq")
  | ((with_reducible apply Oc.g_list); fail "sq")
  | ((with_reducible apply Oc.g_sum); fail "sq")
  | ((with_reducible apply Oc.g_anyI); fail "sq")
  | ((with_reducible apply Oc.g_any); fail "sq")
  | ((with_reducible apply Oc.g_all); fail "sq")
  | ((with_reducible apply Oc.g_slI); fail "sq")
  | ((with_reducible apply Oc.g_slA); fail "sq")
  | ((with_reducible apply Oc.g_kIL); fail "sq")
  | ((with_reducible apply Oc.g_kRevI); fail "sq")
  | ((with_reducible apply Oc.g_kRev); fail "sq")
  | ((with_reducible apply Oc.g_truIs); fail "sq")
  | ((with_reducible apply Oc.g_truL); fail "sq")
  | ((with_reducible apply Oc.g_kBML); fail "sq")
  | ((with_reducible apply Oc.g_kBM0L); fail "sq")
  | ((with_reducible apply Oc.g_inIs); fail "sq")
  | ((with_reducible apply Oc.g_kEn); fail "sq")
  | ((with_reducible apply Oc.g_tuple); fail "sq")
  | ((with_reducible apply Oc.g_lenT); fail "sqT")
  | ((with_reducible apply Oc.g_listT); fail "sqT")
  | ((with_reducible apply Oc.g_isLL); fail "hp")
  | ((with_reducible refine Oc.g_kBMS ?_))
  | ((with_reducible apply Oc.g_wipe); exact rfl)
  | ((with_reducible apply Oc.g_aug); exact rfl)
  | ((with_reducible apply Oc.g_intBA); intro oo o0 o1 ob)
  | ((with_reducible apply Oc.g_kR1); exact ⟨by omega, by omega⟩)
  | ((with_reducible apply Oc.g_kR2); exact ⟨⟨by omega, by omega⟩, by omega, by omega⟩)
  | ((with_reducible apply Oc.g_kRv); exact ⟨⟨by omega, by omega⟩, by omega, by omega⟩)
  | ((with_reducible apply Oc.g_kLR); exact ⟨by omega, by omega, by omega, by omega⟩)
  | ((with_reducible apply Oc.g_ixI); fail "sq"; fail "side")
  | ((with_reducible apply Oc.g_ix); fail "sq"; exact rfl)
  | ((with_reducible apply Oc.g_ixT); fail "sqT"; exact rfl)
  | ((with_reducible apply Oc.g_eqIs); fail "sq"; fail "sq")
  | ((with_reducible apply Oc.g_neIs); fail "sq"; fail "sq")
  | ((with_reducible apply Oc.g_kZp); fail "sq"; fail "sq")
  | ((with_reducible apply Oc.g_catI); fail "hpI"; fail "hpI"; fail "side")
  | ((with_reducible apply Oc.g_repI); fail "hpI"; fail "sideR")
  | ((with_reducible apply Oc.g_appI); fail "frI"; fail "side"; intro oh os)
  | ((with_reducible apply Oc.g_app); fail "fr1"; fail "sideZ"; intro oh os)
  | ((with_reducible apply Oc.g_ext); fail "fr1"; fail "hp"; fail "side"; intro oh os)
  | ((with_reducible apply Oc.g_setI); fail "frI"; fail "side"; intro oh os)
  | ((with_reducible apply Oc.g_setL); fail "fr1"; fail "side"; intro oh os)
  | ((with_reducible apply Oc.g_gtup); fail "sqT"; exact rfl)
  | ((with_reducible apply Oc.g_kLc); assumption; intro od oh os)
  | ((with_reducible apply Oc.g_eq); exact rfl)
  | ((with_reducible apply Oc.g_ne); exact rfl))
local macro_rules | `(tactic| fail "svc") => `(tactic| first
  | ((with_reducible apply Oc.g_kFld); fail "fld")
  | ((with_reducible apply Oc.g_kMeth); fail "ins")
  | ((with_reducible apply Oc.g_kSet); fail "fr1"; exact Nat.le_of_ble_eq_true rfl; intro oh os)
  | ((with_reducible apply Oc.g_isE); fail "hp")
  | ((with_reducible apply Oc.g_kXf); fail "hp"; exact rfl)
  | ((with_reducible apply Oc.g_getI); fail "sq"; fail "side")
  | ((with_reducible apply Oc.g_cntI); fail "sq")
  | ((with_reducible apply Oc.g_kOrTI); fail "sq")
  | ((with_reducible apply Oc.g_inPT); fail "tp")
  | ((with_reducible apply Oc.g_inPF); fail "tp")
  | ((with_reducible apply Oc.g_inPsT); fail "tp"; fail "sq"; fail "prs")
  | ((with_reducible apply Oc.g_inPsF); fail "tp"; fail "sq"; fail "prs")
  | ((with_reducible apply Oc.g_eqPsT); fail "sq"; fail "prs"; fail "sq"; fail "prs")
  | ((with_reducible apply Oc.g_eqPsF); fail "sq"; fail "prs"; fail "sq"; fail "prs")
  | ((with_reducible apply Oc.g_kOrTR); fail "sq")
  | ((with_reducible apply Oc.g_kDInT); fail "hp"; fail "tp")
  | ((with_reducible apply Oc.g_kDNotInT); fail "hp"; fail "tp")
  | ((with_reducible apply Oc.g_setT); fail "fr1"; fail "tp"; fail "side"; intro oh os)
  | ((with_reducible apply Oc.g_kOst1); fail "fr1"; intro od oh os)
  | ((with_reducible apply Oc.g_kOst2); fail "fr2"; exact Nat.le_of_ble_eq_true rfl; intro oh os)
  | ((with_reducible apply Oc.g_kOwn); fail "isc"; fail "isc")
  | ((with_reducible apply Oc.g_eqOwn); fail "isc"; fail "isc")
  | ((with_reducible apply Oc.g_isiC); fail "isc")
  | ((with_reducible apply Oc.g_eqOs); fail "sqO"; fail "sqO")
  | ((with_reducible apply Oc.g_neOs); fail "sqO"; fail "sqO")
  | ((with_reducible apply Oc.g_ixO); fail "sqO"; fail "side")
  | ((with_reducible apply Oc.g_insI); fail "frI"; fail "side3"; intro oh os))
local macro_rules | `(tactic| fail "gn") => `(tactic| ((with_reducible show L2.gName _ _ _ _ _); first
  | (with_reducible refine Oc.g_name0 ?_)
  | (with_reducible refine Oc.g_name1 ?_)
  | (with_reducible refine Oc.g_name2 ?_)
  | (with_reducible refine Oc.g_name3 ?_)
  | (with_reducible refine Oc.g_name4 ?_)
  | (with_reducible refine Oc.g_name5 ?_)
  | (with_reducible refine Oc.g_name6 ?_)
  | (with_reducible refine Oc.g_name7 ?_)
  | (with_reducible refine Oc.g_name8 ?_)
  | (with_reducible refine Oc.g_name9 ?_)
  | (with_reducible refine Oc.g_name10 ?_)
  | (with_reducible refine Oc.g_name11 ?_)
  | (with_reducible refine Oc.g_name12 ?_)
  | (with_reducible refine Oc.g_name13 ?_)
  | (with_reducible refine Oc.g_name14 ?_)
  | (with_reducible refine Oc.g_name15 ?_)
  | (with_reducible refine Oc.g_name16 ?_)
  | (with_reducible refine Oc.g_name17 ?_)
  | refine Oc.g_nameG ?_))
local macro_rules | `(tactic| fail "go") => `(tactic| repeat (first | fail "ife" | fail "st" | fail "gn" | fail "sv" | fail "gs" | fail "stc" | fail "svc"))
local macro_rules | `(tactic| fail "gd") => `(tactic| repeat (first | fail "ife" | fail "ifd" | fail "st" | fail "gn" | fail "sv" | fail "gs" | fail "stc" | fail "svc"))
local macro_rules | `(tactic| fail "ife") => `(tactic| with_reducible first | refine Oc.ifTT ?_ | refine Oc.ifFF ?_ | refine Oc.ifNT ?_ | refine Oc.ifNF ?_ | refine Oc.ifDE ?_ | refine Oc.ifNE ?_)
local macro_rules | `(tactic| fail "lce") => `(tactic| (refine ⟨_, (by fail "hp"), Oc.small (by simp only [List.length_map, List.length_append, List.length_cons, List.length_nil, List.length_set, List.length_range, List.length_reverse, List.length_take, List.length_drop, Oc.len_rep]; omega), ?_⟩; generalize hw : L2.upd _ _ _ = oh; have os := Oc.Sts.putE (by fail "fr1") hw; clear hw))
local macro_rules | `(tactic| fail "ifd") => `(tactic| first
  | ((with_reducible refine Oc.ivT ?c ?_); case c => omega)
  | ((with_reducible refine Oc.ivF ?c ?_); case c => omega)
  | ((with_reducible refine Oc.iwT ?c ?_); case c => omega)
  | ((with_reducible refine Oc.iwF ?c ?_); case c => omega)
  | ((with_reducible refine Oc.idT ?c ?_); case c => omega)
  | ((with_reducible refine Oc.idF ?c ?_); case c => omega)
  | ((with_reducible refine Oc.inT ?c ?_); case c => omega)
  | ((with_reducible refine Oc.inF ?c ?_); case c => omega))
local macro_rules | `(tactic| fail "prl") => `(tactic| first | assumption | (refine Oc.Prs.mono ?_ (by assumption); fail "le"))
local macro_rules | `(tactic| fail "prs") => `(tactic| exact Oc.Sts.prs (by fail "fr1") (by fail "prl"))

--%CATCH InvalidAllowance OnecopyError
--%LEVEL law_same 3
namespace K19
open PySem PySem.Spec PyProof.Rows L2 Oc
set_option maxHeartbeats 4000000
def topS (i : Nat) : Stmt := PySem.Challenge.pw_onecopy_k19_cells.main.body.getD i (.Pass ⟨0, 0, 0, 0⟩)
abbrev s_Stopped_init : Stmt := inClass (topS 2) 0
abbrev s_InvalidAllowance_init : Stmt := inClass (topS 3) 0
abbrev s_Disk_init : Stmt := inClass (topS 5) 0
abbrev s_Disk_len : Stmt := inClass (topS 5) 1
abbrev s_Disk_cells : Stmt := inClass (topS 5) 2
abbrev s_Disk_read_cell : Stmt := inClass (topS 5) 3
abbrev s_Disk_write_cell : Stmt := inClass (topS 5) 4
abbrev s_Disk_allowance : Stmt := inClass (topS 5) 5
abbrev s_Disk_allowance_set : Stmt := inClass (topS 5) 6
abbrev s_Disk_allow : Stmt := inClass (topS 5) 7
abbrev s_law_pool : Stmt := topS 7
abbrev s_law_draw : Stmt := topS 8
abbrev s_law_same : Stmt := topS 9
abbrev s_law_text : Stmt := topS 10
abbrev s_law_plain : Stmt := topS 11
abbrev s_law_content : Stmt := topS 12
abbrev s_law_refusal : Stmt := topS 13
abbrev s_law_written : Stmt := topS 14
abbrev s_law_allowed : Stmt := topS 15
abbrev s_law_world : Stmt := topS 16
abbrev s_law_stands : Stmt := topS 17
abbrev s_law_stopped : Stmt := topS 18
abbrev s_law_write_step : Stmt := topS 19
abbrev s_law_allow_step : Stmt := topS 20
abbrev s_law_whole : Stmt := topS 21
abbrev s_law_copied : Stmt := topS 22
abbrev s_law : Stmt := topS 23
theorem sc_Stopped_init : NdefX.NScope ["self", "writes", "__class__"] ["self", "writes"] ["__class__"] (defScope s_Stopped_init) := NdefX.nscope_by (by decide +kernel)
theorem sc_InvalidAllowance_init : NdefX.NScope ["self", "allowed", "__class__"] ["self", "allowed"] ["__class__"] (defScope s_InvalidAllowance_init) := NdefX.nscope_by (by decide +kernel)
theorem sc_Disk_init : FnScope ["self", "cells"] ["self", "cells"] (defScope s_Disk_init) := ⟨rfl, rfl, rfl, by decide +kernel, rfl, by decide +kernel, by decide +kernel⟩
theorem sc_Disk_len : FnScope ["self"] ["self"] (defScope s_Disk_len) := ⟨rfl, rfl, rfl, by decide +kernel, rfl, by decide +kernel, by decide +kernel⟩
theorem sc_Disk_cells : FnScope ["self"] ["self"] (defScope s_Disk_cells) := ⟨rfl, rfl, rfl, by decide +kernel, rfl, by decide +kernel, by decide +kernel⟩
theorem sc_Disk_read_cell : FnScope ["self", "index"] ["self", "index"] (defScope s_Disk_read_cell) := ⟨rfl, rfl, rfl, by decide +kernel, rfl, by decide +kernel, by decide +kernel⟩
theorem sc_Disk_write_cell : FnScope ["self", "index", "content", "missing"] ["self", "index", "content"] (defScope s_Disk_write_cell) := ⟨rfl, rfl, rfl, by decide +kernel, rfl, by decide +kernel, by decide +kernel⟩
theorem sc_Disk_allowance : FnScope ["self"] ["self"] (defScope s_Disk_allowance) := ⟨rfl, rfl, rfl, by decide +kernel, rfl, by decide +kernel, by decide +kernel⟩
theorem sc_Disk_allowance_set : FnScope ["self", "allowed"] ["self", "allowed"] (defScope s_Disk_allowance_set) := ⟨rfl, rfl, rfl, by decide +kernel, rfl, by decide +kernel, by decide +kernel⟩
theorem sc_Disk_allow : FnScope ["self", "allowed"] ["self", "allowed"] (defScope s_Disk_allow) := ⟨rfl, rfl, rfl, by decide +kernel, rfl, by decide +kernel, by decide +kernel⟩
theorem sc_law_pool : FnScope ["script", "cell"] ["script"] (defScope s_law_pool) := ⟨rfl, rfl, rfl, by decide +kernel, rfl, by decide +kernel, by decide +kernel⟩
theorem sc_law_draw : FnScope ["pool", "size", "cell", "digit"] ["pool", "size"] (defScope s_law_draw) := ⟨rfl, rfl, rfl, by decide +kernel, rfl, by decide +kernel, by decide +kernel⟩
theorem sc_law_same : FnScope ["told", "due", "k"] ["told", "due"] (defScope s_law_same) := ⟨rfl, rfl, rfl, by decide +kernel, rfl, by decide +kernel, by decide +kernel⟩
theorem sc_law_text : FnScope ["pool", "letters", "k"] ["pool"] (defScope s_law_text) := ⟨rfl, rfl, rfl, by decide +kernel, rfl, by decide +kernel, by decide +kernel⟩
theorem sc_law_plain : FnScope ["pool", "pick"] ["pool"] (defScope s_law_plain) := ⟨rfl, rfl, rfl, by decide +kernel, rfl, by decide +kernel, by decide +kernel⟩
theorem sc_law_content : FnScope ["pool", "k"] ["pool"] (defScope s_law_content) := ⟨rfl, rfl, rfl, by decide +kernel, rfl, by decide +kernel, by decide +kernel⟩
theorem sc_law_refusal : FnScope ["raised", "kinds"] ["raised"] (defScope s_law_refusal) := ⟨rfl, rfl, rfl, by decide +kernel, rfl, by decide +kernel, by decide +kernel⟩
theorem sc_law_written : FnScope ["disk", "index", "content", "raised"] ["disk", "index", "content"] (defScope s_law_written) := ⟨rfl, rfl, rfl, by decide +kernel, rfl, by decide +kernel, by decide +kernel⟩
theorem sc_law_allowed : FnScope ["disk", "number", "raised"] ["disk", "number"] (defScope s_law_allowed) := ⟨rfl, rfl, rfl, by decide +kernel, rfl, by decide +kernel, by decide +kernel⟩
theorem sc_law_world : FnScope ["pool", "way", "given", "held", "disk", "k"] ["pool"] (defScope s_law_world) := ⟨rfl, rfl, rfl, by decide +kernel, rfl, by decide +kernel, by decide +kernel⟩
theorem sc_law_stands : FnScope ["pool", "world", "disk", "held", "told", "index", "due"] ["pool", "world"] (defScope s_law_stands) := ⟨rfl, rfl, rfl, by decide +kernel, rfl, by decide +kernel, by decide +kernel⟩
theorem sc_law_stopped : FnScope ["pool", "world", "index", "content", "k", "told"] ["pool", "world", "index", "content"] (defScope s_law_stopped) := ⟨rfl, rfl, rfl, by decide +kernel, rfl, by decide +kernel, by decide +kernel⟩
theorem sc_law_write_step : FnScope ["pool", "world", "held", "index", "content", "k"] ["pool", "world"] (defScope s_law_write_step) := ⟨rfl, rfl, rfl, by decide +kernel, rfl, by decide +kernel, by decide +kernel⟩
theorem sc_law_allow_step : FnScope ["pool", "world", "pick", "number"] ["pool", "world"] (defScope s_law_allow_step) := ⟨rfl, rfl, rfl, by decide +kernel, rfl, by decide +kernel, by decide +kernel⟩
theorem sc_law_whole : FnScope ["world", "told"] ["world"] (defScope s_law_whole) := ⟨rfl, rfl, rfl, by decide +kernel, rfl, by decide +kernel, by decide +kernel⟩
theorem sc_law_copied : FnScope ["pool", "world", "other"] ["pool", "world"] (defScope s_law_copied) := ⟨rfl, rfl, rfl, by decide +kernel, rfl, by decide +kernel, by decide +kernel⟩
theorem sc_law : FnScope ["script", "pool", "worlds", "steps", "k", "world", "good"] ["script"] (defScope s_law) := ⟨rfl, rfl, rfl, by decide +kernel, rfl, by decide +kernel, by decide +kernel⟩
theorem st_1_0 {N : List Str} {t : TS} {D : Ends} {H : Hp} {a0 : V} (h : N.length = 1) (k : t D [some a0] H) : t D (L2.start N [a0]) H := by
  unfold L2.start
  rw [h]
  exact k
theorem st_1_1 {N : List Str} {t : TS} {D : Ends} {H : Hp} {a0 : V} (h : N.length = 2) (k : t D [some a0, none] H) : t D (L2.start N [a0]) H := by
  unfold L2.start
  rw [h]
  exact k
theorem st_1_2 {N : List Str} {t : TS} {D : Ends} {H : Hp} {a0 : V} (h : N.length = 3) (k : t D [some a0, none, none] H) : t D (L2.start N [a0]) H := by
  unfold L2.start
  rw [h]
  exact k
theorem st_1_5 {N : List Str} {t : TS} {D : Ends} {H : Hp} {a0 : V} (h : N.length = 6) (k : t D [some a0, none, none, none, none, none] H) : t D (L2.start N [a0]) H := by
  unfold L2.start
  rw [h]
  exact k
theorem st_1_6 {N : List Str} {t : TS} {D : Ends} {H : Hp} {a0 : V} (h : N.length = 7) (k : t D [some a0, none, none, none, none, none, none] H) : t D (L2.start N [a0]) H := by
  unfold L2.start
  rw [h]
  exact k
theorem st_2_0 {N : List Str} {t : TS} {D : Ends} {H : Hp} {a0 a1 : V} (h : N.length = 2) (k : t D [some a0, some a1] H) : t D (L2.start N [a0, a1]) H := by
  unfold L2.start
  rw [h]
  exact k
theorem st_2_1 {N : List Str} {t : TS} {D : Ends} {H : Hp} {a0 a1 : V} (h : N.length = 3) (k : t D [some a0, some a1, none] H) : t D (L2.start N [a0, a1]) H := by
  unfold L2.start
  rw [h]
  exact k
theorem st_2_2 {N : List Str} {t : TS} {D : Ends} {H : Hp} {a0 a1 : V} (h : N.length = 4) (k : t D [some a0, some a1, none, none] H) : t D (L2.start N [a0, a1]) H := by
  unfold L2.start
  rw [h]
  exact k
theorem st_2_4 {N : List Str} {t : TS} {D : Ends} {H : Hp} {a0 a1 : V} (h : N.length = 6) (k : t D [some a0, some a1, none, none, none, none] H) : t D (L2.start N [a0, a1]) H := by
  unfold L2.start
  rw [h]
  exact k
theorem st_2_5 {N : List Str} {t : TS} {D : Ends} {H : Hp} {a0 a1 : V} (h : N.length = 7) (k : t D [some a0, some a1, none, none, none, none, none] H) : t D (L2.start N [a0, a1]) H := by
  unfold L2.start
  rw [h]
  exact k
theorem st_3_1 {N : List Str} {t : TS} {D : Ends} {H : Hp} {a0 a1 a2 : V} (h : N.length = 4) (k : t D [some a0, some a1, some a2, none] H) : t D (L2.start N [a0, a1, a2]) H := by
  unfold L2.start
  rw [h]
  exact k
theorem st_4_2 {N : List Str} {t : TS} {D : Ends} {H : Hp} {a0 a1 a2 a3 : V} (h : N.length = 6) (k : t D [some a0, some a1, some a2, some a3, none, none] H) : t D (L2.start N [a0, a1, a2, a3]) H := by
  unfold L2.start
  rw [h]
  exact k
structure Txt (P : Program) (K : PySem.W.Frag) (mg : Str → Option Value) where
  c_OnecopyError : Addr
  gc_OnecopyError : mg "OnecopyError" = some (.ref c_OnecopyError)
  c_Stopped : Addr
  gc_Stopped : mg "Stopped" = some (.ref c_Stopped)
  c_InvalidAllowance : Addr
  gc_InvalidAllowance : mg "InvalidAllowance" = some (.ref c_InvalidAllowance)
  c_Disk : Addr
  gc_Disk : mg "Disk" = some (.ref c_Disk)
  f_Stopped_init : Addr
  fd_Stopped_init : FuncData
  X_Stopped_init : XFun P K mg "__init__" "Stopped.__init__" s_Stopped_init f_Stopped_init fd_Stopped_init c_Stopped
  b_Stopped_init : Binds K fd_Stopped_init ["self", "writes"] []
  f_InvalidAllowance_init : Addr
  fd_InvalidAllowance_init : FuncData
  X_InvalidAllowance_init : XFun P K mg "__init__" "InvalidAllowance.__init__" s_InvalidAllowance_init f_InvalidAllowance_init fd_InvalidAllowance_init c_InvalidAllowance
  b_InvalidAllowance_init : Binds K fd_InvalidAllowance_init ["self", "allowed"] []
  f_Disk_init : Addr
  fd_Disk_init : FuncData
  F_Disk_init : FunD K "__init__" "Disk.__init__" (defArgs s_Disk_init) (defBody s_Disk_init) (defScope s_Disk_init) [.non] [] f_Disk_init fd_Disk_init
  bd_Disk_init : Binds K fd_Disk_init ["self", "cells"] [.none]
  b_Disk_init : Binds K fd_Disk_init ["self", "cells"] []
  f_Disk_len : Addr
  fd_Disk_len : FuncData
  F_Disk_len : Fun K "__len__" "Disk.__len__" s_Disk_len f_Disk_len fd_Disk_len
  b_Disk_len : Binds K fd_Disk_len ["self"] []
  f_Disk_cells : Addr
  fd_Disk_cells : FuncData
  F_Disk_cells : Fun K "cells" "Disk.cells" s_Disk_cells f_Disk_cells fd_Disk_cells
  b_Disk_cells : Binds K fd_Disk_cells ["self"] []
  f_Disk_read_cell : Addr
  fd_Disk_read_cell : FuncData
  F_Disk_read_cell : Fun K "read_cell" "Disk.read_cell" s_Disk_read_cell f_Disk_read_cell fd_Disk_read_cell
  b_Disk_read_cell : Binds K fd_Disk_read_cell ["self", "index"] []
  f_Disk_write_cell : Addr
  fd_Disk_write_cell : FuncData
  F_Disk_write_cell : Fun K "write_cell" "Disk.write_cell" s_Disk_write_cell f_Disk_write_cell fd_Disk_write_cell
  b_Disk_write_cell : Binds K fd_Disk_write_cell ["self", "index", "content"] []
  f_Disk_allowance : Addr
  fd_Disk_allowance : FuncData
  F_Disk_allowance : Fun K "allowance" "Disk.allowance" s_Disk_allowance f_Disk_allowance fd_Disk_allowance
  b_Disk_allowance : Binds K fd_Disk_allowance ["self"] []
  f_Disk_allowance_set : Addr
  fd_Disk_allowance_set : FuncData
  F_Disk_allowance_set : Fun K "allowance" "Disk.allowance" s_Disk_allowance_set f_Disk_allowance_set fd_Disk_allowance_set
  b_Disk_allowance_set : Binds K fd_Disk_allowance_set ["self", "allowed"] []
  f_Disk_allow : Addr
  fd_Disk_allow : FuncData
  F_Disk_allow : Fun K "allow" "Disk.allow" s_Disk_allow f_Disk_allow fd_Disk_allow
  b_Disk_allow : Binds K fd_Disk_allow ["self", "allowed"] []
  f_law_pool : Addr
  fd_law_pool : FuncData
  F_law_pool : Fun K "_law_pool" "_law_pool" s_law_pool f_law_pool fd_law_pool
  g_law_pool : mg "_law_pool" = some (.ref f_law_pool)
  b_law_pool : Binds K fd_law_pool ["script"] []
  f_law_draw : Addr
  fd_law_draw : FuncData
  F_law_draw : Fun K "_law_draw" "_law_draw" s_law_draw f_law_draw fd_law_draw
  g_law_draw : mg "_law_draw" = some (.ref f_law_draw)
  b_law_draw : Binds K fd_law_draw ["pool", "size"] []
  f_law_same : Addr
  fd_law_same : FuncData
  F_law_same : Fun K "_law_same" "_law_same" s_law_same f_law_same fd_law_same
  g_law_same : mg "_law_same" = some (.ref f_law_same)
  b_law_same : Binds K fd_law_same ["told", "due"] []
  f_law_text : Addr
  fd_law_text : FuncData
  F_law_text : Fun K "_law_text" "_law_text" s_law_text f_law_text fd_law_text
  g_law_text : mg "_law_text" = some (.ref f_law_text)
  b_law_text : Binds K fd_law_text ["pool"] []
  f_law_plain : Addr
  fd_law_plain : FuncData
  F_law_plain : Fun K "_law_plain" "_law_plain" s_law_plain f_law_plain fd_law_plain
  g_law_plain : mg "_law_plain" = some (.ref f_law_plain)
  b_law_plain : Binds K fd_law_plain ["pool"] []
  f_law_content : Addr
  fd_law_content : FuncData
  F_law_content : Fun K "_law_content" "_law_content" s_law_content f_law_content fd_law_content
  g_law_content : mg "_law_content" = some (.ref f_law_content)
  b_law_content : Binds K fd_law_content ["pool"] []
  f_law_refusal : Addr
  fd_law_refusal : FuncData
  F_law_refusal : Fun K "_law_refusal" "_law_refusal" s_law_refusal f_law_refusal fd_law_refusal
  g_law_refusal : mg "_law_refusal" = some (.ref f_law_refusal)
  b_law_refusal : Binds K fd_law_refusal ["raised"] []
  f_law_written : Addr
  fd_law_written : FuncData
  F_law_written : Fun K "_law_written" "_law_written" s_law_written f_law_written fd_law_written
  g_law_written : mg "_law_written" = some (.ref f_law_written)
  b_law_written : Binds K fd_law_written ["disk", "index", "content"] []
  f_law_allowed : Addr
  fd_law_allowed : FuncData
  F_law_allowed : Fun K "_law_allowed" "_law_allowed" s_law_allowed f_law_allowed fd_law_allowed
  g_law_allowed : mg "_law_allowed" = some (.ref f_law_allowed)
  b_law_allowed : Binds K fd_law_allowed ["disk", "number"] []
  f_law_world : Addr
  fd_law_world : FuncData
  F_law_world : Fun K "_law_world" "_law_world" s_law_world f_law_world fd_law_world
  g_law_world : mg "_law_world" = some (.ref f_law_world)
  b_law_world : Binds K fd_law_world ["pool"] []
  f_law_stands : Addr
  fd_law_stands : FuncData
  F_law_stands : Fun K "_law_stands" "_law_stands" s_law_stands f_law_stands fd_law_stands
  g_law_stands : mg "_law_stands" = some (.ref f_law_stands)
  b_law_stands : Binds K fd_law_stands ["pool", "world"] []
  f_law_stopped : Addr
  fd_law_stopped : FuncData
  F_law_stopped : Fun K "_law_stopped" "_law_stopped" s_law_stopped f_law_stopped fd_law_stopped
  g_law_stopped : mg "_law_stopped" = some (.ref f_law_stopped)
  b_law_stopped : Binds K fd_law_stopped ["pool", "world", "index", "content"] []
  f_law_write_step : Addr
  fd_law_write_step : FuncData
  F_law_write_step : Fun K "_law_write_step" "_law_write_step" s_law_write_step f_law_write_step fd_law_write_step
  g_law_write_step : mg "_law_write_step" = some (.ref f_law_write_step)
  b_law_write_step : Binds K fd_law_write_step ["pool", "world"] []
  f_law_allow_step : Addr
  fd_law_allow_step : FuncData
  F_law_allow_step : Fun K "_law_allow_step" "_law_allow_step" s_law_allow_step f_law_allow_step fd_law_allow_step
  g_law_allow_step : mg "_law_allow_step" = some (.ref f_law_allow_step)
  b_law_allow_step : Binds K fd_law_allow_step ["pool", "world"] []
  f_law_whole : Addr
  fd_law_whole : FuncData
  F_law_whole : Fun K "_law_whole" "_law_whole" s_law_whole f_law_whole fd_law_whole
  g_law_whole : mg "_law_whole" = some (.ref f_law_whole)
  b_law_whole : Binds K fd_law_whole ["world"] []
  f_law_copied : Addr
  fd_law_copied : FuncData
  F_law_copied : Fun K "_law_copied" "_law_copied" s_law_copied f_law_copied fd_law_copied
  g_law_copied : mg "_law_copied" = some (.ref f_law_copied)
  b_law_copied : Binds K fd_law_copied ["pool", "world"] []
  f_law : Addr
  fd_law : FuncData
  F_law : Fun K "law" "law" s_law f_law fd_law
  g_law : mg "law" = some (.ref f_law)
  b_law : Binds K fd_law ["script"] []
  ox_Stopped : OexC K c_Stopped
  su_Stopped : SupC K c_Stopped c_Stopped
  te_Stopped_OnecopyError : PySem.W.exmOne K (.ref c_Stopped) (.ref c_OnecopyError) = some true
  ix_Stopped : PySem.W.findIn K (.ref c_Stopped) "__init__" = some (some (.ref f_Stopped_init))
  ti_Stopped : PySem.W.typeIn K (.ref f_Stopped_init) = some (.type "function")
  xf_Stopped : XfC K c_Stopped
  xc_Stopped : ExcC K c_Stopped
  te_Stopped : PySem.W.exmOne K (.ref c_Stopped) (.ref c_Stopped) = some true
  nx_Stopped_writes : PySem.W.findIn K (.ref c_Stopped) "writes" = some none
  ox_InvalidAllowance : OexC K c_InvalidAllowance
  su_InvalidAllowance : SupC K c_InvalidAllowance c_InvalidAllowance
  te_InvalidAllowance_OnecopyError : PySem.W.exmOne K (.ref c_InvalidAllowance) (.ref c_OnecopyError) = some true
  ix_InvalidAllowance : PySem.W.findIn K (.ref c_InvalidAllowance) "__init__" = some (some (.ref f_InvalidAllowance_init))
  ti_InvalidAllowance : PySem.W.typeIn K (.ref f_InvalidAllowance_init) = some (.type "function")
  xf_InvalidAllowance : XfC K c_InvalidAllowance
  xc_InvalidAllowance : ExcC K c_InvalidAllowance
  te_InvalidAllowance : PySem.W.exmOne K (.ref c_InvalidAllowance) (.ref c_InvalidAllowance) = some true
  nx_InvalidAllowance_allowed : PySem.W.findIn K (.ref c_InvalidAllowance) "allowed" = some none
  cl_Disk : Cls K c_Disk
  mk_Disk : Mk K c_Disk f_Disk_init
  n_Disk_writes : NoAttr K c_Disk "writes"
  n_Disk__cells : NoAttr K c_Disk "_cells"
  n_Disk__left : NoAttr K c_Disk "_left"
  pa_Disk_allowance : Addr
  pg_Disk_allowance : PropOf K c_Disk "allowance" pa_Disk_allowance f_Disk_allowance
  ps_Disk_allowance : PSetOf K c_Disk "allowance" f_Disk_allowance_set
  fa_Disk_len : PySem.W.findIn K (.ref c_Disk) "__len__" = some (some (.ref f_Disk_len))
  ia_Disk_len : PySem.W.isFn K (.ref f_Disk_len) = true
  me_Disk_cells : Meth K c_Disk "cells" f_Disk_cells
  me_Disk_read_cell : Meth K c_Disk "read_cell" f_Disk_read_cell
  me_Disk_write_cell : Meth K c_Disk "write_cell" f_Disk_write_cell
  me_Disk_allow : Meth K c_Disk "allow" f_Disk_allow
  ki_InvalidAllowance_InvalidAllowance : PySem.W.kitOne K (.ref c_InvalidAllowance) (.ref c_InvalidAllowance) = some true
  ki_InvalidAllowance_Stopped : PySem.W.kitOne K (.ref c_InvalidAllowance) (.ref c_Stopped) = some false
  ki_InvalidAllowance_ValueError : PySem.W.kitOne K (.ref c_InvalidAllowance) (.type "ValueError") = some true
  ki_Stopped_InvalidAllowance : PySem.W.kitOne K (.ref c_Stopped) (.ref c_InvalidAllowance) = some false
  ki_Stopped_Stopped : PySem.W.kitOne K (.ref c_Stopped) (.ref c_Stopped) = some true
  ki_Stopped_ValueError : PySem.W.kitOne K (.ref c_Stopped) (.type "ValueError") = some true
  z_ValueError : mg "ValueError" = none
  z_bool : mg "bool" = none
  z_int : mg "int" = none
  z_isinstance : mg "isinstance" = none
  z_len : mg "len" = none
  z_list : mg "list" = none
  z_range : mg "range" = none
  z_str : mg "str" = none
  z_tuple : mg "tuple" = none
section
variable {P : Program} {w : World} {K : PySem.W.Frag} {mg : Str → Option Value} {base : Heap}
set_option maxHeartbeats 4000000
/-! ### the law's pool of numbers -/
structure pool (p : Addr) (h : Hp) : Prop where
  ex : ∃ x : Addr × List Int × Nat × Int × Int × Int, St h [pto p (.lst [.ref x.1, .int (x.2.2.1 : Nat), .int x.2.2.2.1, .int x.2.2.2.2.1, .int x.2.2.2.2.2]), pto x.1 (.lst (x.2.1.map V.int))]
theorem gP {H : Hp} {a : Addr} {L : List Asr} (h : Sts H (pool a :: L)) : Sts H (pool a :: L) := h
theorem pool_mk {p l : Addr} {ns : List Int} {i : Nat} {j c s n : Int} {L : List Asr} {H : Hp} (S : Sts H (pto p (.lst [.ref l, .int j, .int c, .int s, .int n]) :: pto l (.lst (ns.map V.int)) :: L)) (e : j = (i : Nat)) : Sts H (pool p :: L) := by
  subst e
  exact Sts.cls (M := [_, _]) S fun h a => ⟨⟨(l, ns, i, c, s, n), a⟩⟩
theorem pool_open {p : Addr} {L : List Asr} {H : Hp} (S : Sts H (pool p :: L)) : ∃ (l : Addr) (ns : List Int) (i : Nat) (c s n : Int), Sts H (pto p (.lst [.ref l, .int (i : Nat), .int c, .int s, .int n]) :: pto l (.lst (ns.map V.int)) :: L) := by
  obtain ⟨⟨l, ns, i, c, s, n⟩, S⟩ := S.opn (f := fun x : Addr × List Int × Nat × Int × Int × Int => [pto p (.lst [.ref x.1, .int (x.2.2.1 : Nat), .int x.2.2.2.1, .int x.2.2.2.2.1, .int x.2.2.2.2.2]), pto x.1 (.lst (x.2.1.map V.int))]) (fun h a => a.ex) (fun x τ h => by simp at h)
  exact ⟨l, ns, i, c, s, n, S⟩
local macro_rules | `(tactic| fail "sideC") => `(tactic| exact L2.wide_div (b := 100) (by omega) (by omega) (by decide) (by decide))
def spPool (K : PySem.W.Frag) : Sp := fun vs H Q _ => ∃ (a : Addr) (ns : List Int) (F : List Asr), vs = [.ref a] ∧ Sts H (sqc K a (ns.map V.int) :: F) ∧ ns.length ≤ 1000 ∧ ∀ (p : Addr) (H' : Hp), Sts H' (pool p :: sqc K a (ns.map V.int) :: F) → Q (.ref p) H'
theorem ok_law_pool (T : Txt P K mg) : FnOk P w K mg base CX0 1 T.f_law_pool T.fd_law_pool ["script"] (spPool K) := by
  refine T.F_law_pool.ok sc_law_pool (fun vs H Q E h => by obtain ⟨a, ns, F, rfl, _⟩ := h; rfl) (fun cdv A outer s H vs Q E hr h => ?_)
  obtain ⟨a, ns, F, rfl, S, hl, q⟩ := h
  refine ⟨_, (pss_one (ps_ret (pe_lst (pa_cons (pe_lc (own := [("cell", 1)]) (g := gName 1) (tt := tYes) rfl sc_law_pool.nd (pi_list (pe_slice (v_slI (K := K) rfl) (pv 0) po_none (po_some pe_int))) (blkOk_by (own := [("cell", 1)]) (N := ["script", "cell"]) (sc := defScope s_law_pool) (by decide +kernel)) (fun _ _ _ _ _ => (pg_name (i := 1) sc_law_pool.nd rfl (Or.inl rfl))) (fun _ _ _ _ _ => pts_nil) (fun _ _ _ _ _ => (pe_callTy v_intI (by rfl) T.z_int PyProof.Rows.boot_int (pa_cons (pv 1) pa_nil)))) (pa_cons pe_int (pa_cons pe_int (pa_cons pe_int (pa_cons pe_int pa_nil)))))))), st_1_1 rfl ?_⟩
  fail "go"
  rename_i c H1 S1 D H2 S2
  have hc : (cutL ns none (some 63)).length ≤ 1000000 := Nat.le_trans (Oc.cutL_len _ _ _) (by omega)
  refine lc_pureI (K := K) (a := c) (k := 1) (cutL ns none (some 63)) V.int S2 (fun H S => by fail "sq") hc (fun x => rfl) (fun x H Q' _ S q => ?_) fun H3 S3 => ?_
  · fail "go"
    exact q
  · clear S S1 S2
    fail "go"
    rename_i p H4 S4
    exact q p _ (pool_mk (i := 0) (by fail "fp") rfl)
def spDraw : Sp := fun vs H Q _ => ∃ (p : Addr) (m : Int) (F : List Asr), vs = [.ref p, .int m] ∧ (0 < m ∧ m < 1180591620717411303424) ∧ Sts H (pool p :: F) ∧ ∀ (d : Int) (H' : Hp), 0 ≤ d → d < m → Sts H' (pool p :: F) → Q (.int d) H'
theorem ok_law_draw (T : Txt P K mg) : FnOk P w K mg base CX0 1 T.f_law_draw T.fd_law_draw ["pool", "size"] spDraw := by
  refine T.F_law_draw.ok sc_law_draw (fun vs H Q E h => by obtain ⟨a, ns, F, rfl, _⟩ := h; rfl) (fun cdv A outer s H vs Q E hr h => ?_)
  obtain ⟨p, m, F, rfl, hm, S, q⟩ := h
  obtain ⟨l, ns, i, c, z, n, S⟩ := pool_open S
  refine ⟨_, (oc_cut (ps_if (PW.pt (pw_and (pt_cmpR op_eq (pe_ix (v_ix (K := K) rfl) (pv 0) pe_int (fun _ _ => rfl)) pe_int (nomark _)) (pw_and1 (pt_cmpR op_lt (pe_ix (v_ix (K := K) rfl) (pv 0) pe_int (fun _ _ => rfl)) (pe_callB (v_lenI (K := K) rfl) (by rfl) T.z_len PySem.boot_len (pa_cons (pe_ix (v_ix (K := K) rfl) (pv 0) pe_int (fun _ _ => rfl)) pa_nil)) (nomark _)))))
      (pss_cons (ps_set (i := 2) sc_law_draw.nd rfl (Or.inl rfl) (pe_ix (v_ixI (K := K) rfl) (pe_ix (v_ix (K := K) rfl) (pv 0) pe_int (fun _ _ => rfl)) (pe_ix (v_ix (K := K) rfl) (pv 0) pe_int (fun _ _ => rfl)) (fun _ _ => rfl)))
      (pss_cons (ps_asg (pe_op op_add (pe_ix (v_ix (K := K) rfl) (pv 0) pe_int (fun _ _ => rfl)) pe_int) (pg_sub (pv 0) pe_int v_setL))
      (pss_one (ps_if (pt_cmpR op_ge (pv 2) (pe_op (v_powc 10 18 1000000000000000000 ⟨by decide, by decide, by decide⟩ (by decide +kernel)) pe_int pe_int) (nomark _))
      (pss_one (ps_asg (pv 2) (pg_sub (pv 0) pe_int v_setL)))
      (pss_one (ps_asg (pe_op op_mod (pe_callTy v_intI (by rfl) T.z_int PyProof.Rows.boot_int (pa_cons (pe_op op_add (pe_op op_add (pe_op op_mul (pe_ix (v_ix (K := K) rfl) (pv 0) pe_int (fun _ _ => rfl)) pe_int) (pe_op op_mod (pe_callTy v_intI (by rfl) T.z_int PyProof.Rows.boot_int (pa_cons (pv 2) pa_nil)) pe_int)) pe_int) pa_nil)) pe_int) (pg_sub (pv 0) pe_int v_setL)))))))
      pss_nil)
      (pss_cons (ps_if (pt_cmpR op_gt (pe_ix (v_ix (K := K) rfl) (pv 0) pe_int (fun _ _ => rfl)) pe_int (nomark _))
      (pss_cons (ps_set (i := 3) sc_law_draw.nd rfl (Or.inl rfl) (pe_op op_mod (pe_callTy v_intI (by rfl) T.z_int PyProof.Rows.boot_int (pa_cons (pe_ix (v_ix (K := K) rfl) (pv 0) pe_int (fun _ _ => rfl)) pa_nil)) (pv 1)))
      (pss_cons (ps_asg (pe_op op_fdivW (pe_ix (v_ix (K := K) rfl) (pv 0) pe_int (fun _ _ => rfl)) (pv 1)) (pg_sub (pv 0) pe_int v_setL))
      (pss_one (ps_ret (pv 3)))))
      pss_nil)
      (pss_cons (ps_asg (pe_op op_add (pe_ix (v_ix (K := K) rfl) (pv 0) pe_int (fun _ _ => rfl)) pe_int) (pg_sub (pv 0) pe_int v_setL))
      (pss_cons (ps_asg (pe_op op_mod (pe_callTy v_intI (by rfl) T.z_int PyProof.Rows.boot_int (pa_cons (pe_op op_add (pe_op op_mul (pe_ix (v_ix (K := K) rfl) (pv 0) pe_int (fun _ _ => rfl)) pe_int) (pe_ix (v_ix (K := K) rfl) (pv 0) pe_int (fun _ _ => rfl))) pa_nil)) pe_int) (pg_sub (pv 0) pe_int v_setL))
      (pss_one (ps_ret (pe_op op_mod (pe_op op_fdiv (pe_op op_mod (pe_callTy v_intI (by rfl) T.z_int PyProof.Rows.boot_int (pa_cons (pe_op op_add (pe_op op_mul (pe_ix (v_ix (K := K) rfl) (pv 0) pe_int (fun _ _ => rfl)) pe_int) (pe_op op_mul (pe_ix (v_ix (K := K) rfl) (pv 0) pe_int (fun _ _ => rfl)) pe_int)) pa_nil)) pe_int) pe_int) (pv 1)))))))), st_2_2 rfl ?_⟩
  refine ⟨fun σ H => ∃ (i : Nat) (c z n : Int) (x : Option V), σ = [some (.ref p), some (.int m), x, none] ∧ Sts H (pto p (.lst [.ref l, .int (i : Nat), .int c, .int z, .int n]) :: pto l (.lst (ns.map V.int)) :: F), ?_, ?_⟩
  · fail "go"
    with_reducible refine ifB (fun c1 => ?_) (fun c1 => ?_)
    · fail "go"
      with_reducible refine ifB (fun c2 => ?_) (fun c2 => ?_)
      · have c2 := odt c2
        fail "go"
        with_reducible refine ifB (fun c3 => ?_) (fun c3 => ?_)
        · fail "go"
          exact ⟨i + 1, _, _, _, _, rfl, by fail "fp"⟩
        · fail "go"
          exact ⟨i + 1, _, _, _, _, rfl, by fail "fp"⟩
      · fail "go"
        exact ⟨i, c, z, n, _, rfl, by fail "fp"⟩
    · fail "go"
      exact ⟨i, c, z, n, _, rfl, by fail "fp"⟩
  rintro σ H ⟨i, c, z, n, x, rfl, S⟩
  fail "go"
  with_reducible refine ifB (fun c1 => ?_) (fun c1 => ?_)
  · fail "go"
    exact q _ _ (Int.emod_nonneg _ (by omega)) (Int.emod_lt_of_pos _ hm.1) (pool_mk (by fail "fp") rfl)
  · fail "go"
    exact q _ _ (Int.emod_nonneg _ (by omega)) (Int.emod_lt_of_pos _ hm.1) (pool_mk (by fail "fp") rfl)
local macro_rules | `(tactic| fail "gs") => `(tactic| ((with_reducible show K19.spDraw _ _ _ _); refine ⟨_, _, _, rfl, Oc.pr (by fail "side"), K19.gP (by fail "fr1"), fun (od : Int) (oh : L2.Hp) o0 o1 os => ?_⟩))
local macro_rules | `(tactic| fail "gs") => `(tactic| ((with_reducible show K19.spPool _ _ _ _ _); refine ⟨_, _, _, rfl, Oc.gQ (by fail "fr1"), Oc.pr (by fail "side"), fun (op : PySem.Addr) (oh : L2.Hp) os => ?_⟩))

--PART
/-! ### the program: errors and the disk -/
def spStp (cX : Addr) (f : Str) : Sp := fun vs H Q _ => ∃ (a : Addr) (x : V) (F : List Asr), vs = [.ref a, x] ∧ Sts H (pto a (exo a cX none) :: F) ∧ ∀ d H', Sts H' (pto a (exo a cX (some d)) :: pto d (exd d [(f, x)]) :: F) → Q .non H'
theorem ok_Stopped_init (T : Txt P K mg) : FnOk P w K mg base CX0 1 T.f_Stopped_init T.fd_Stopped_init ["self", "writes"] (spStp T.c_Stopped "writes") := by
  refine T.X_Stopped_init.ok sc_Stopped_init rfl rfl rfl rfl _ (fun _ _ _ => rfl) (fun _ => rfl) (fun _ => rfl) (fun _ _ _ => rfl) (fun vs H Q E h => by obtain ⟨a, x, F, rfl, _⟩ := h; rfl) (fun cc c A outer s H vs Q E hr h => ?_)
  obtain ⟨a, x, F, rfl, S, q⟩ := h
  refine ⟨a, T.c_Stopped, [x], _, _, rfl, T.su_Stopped, S.hd, (pa_cons pe_str pa_nil), (pss_one (oc_ost1 T.ox_Stopped T.nx_Stopped_writes (pv 0) (pv 1))), ?_⟩
  refine ⟨Nat.le_of_ble_eq_true rfl, S.hd, ?_⟩
  fail "go"
  rename_i d H1 S1
  exact q _ _ S1
theorem ok_InvalidAllowance_init (T : Txt P K mg) : FnOk P w K mg base CX0 1 T.f_InvalidAllowance_init T.fd_InvalidAllowance_init ["self", "allowed"] (spStp T.c_InvalidAllowance "allowed") := by
  refine T.X_InvalidAllowance_init.ok sc_InvalidAllowance_init rfl rfl rfl rfl _ (fun _ _ _ => rfl) (fun _ => rfl) (fun _ => rfl) (fun _ _ _ => rfl) (fun vs H Q E h => by obtain ⟨a, x, F, rfl, _⟩ := h; rfl) (fun cc c A outer s H vs Q E hr h => ?_)
  obtain ⟨a, x, F, rfl, S, q⟩ := h
  refine ⟨a, T.c_InvalidAllowance, [x], _, _, rfl, T.su_InvalidAllowance, S.hd, (pa_cons pe_str pa_nil), (pss_one (oc_ost1 T.ox_InvalidAllowance T.nx_InvalidAllowance_allowed (pv 0) (pv 1))), ?_⟩
  refine ⟨Nat.le_of_ble_eq_true rfl, S.hd, ?_⟩
  fail "go"
  rename_i d H1 S1
  exact q _ _ S1
/-- a disk: n writes made, lf left, xs its cells -/
structure dsk (C d : Addr) (n : Int) (lf : Option Int) (xs : List V) (h : Hp) : Prop where
  ex : ∃ x : Addr × Addr, St h [pto d (.ins C x.1 [("writes", .int n), ("_cells", .ref x.2), ("_left", ov lf)]), pto x.1 (.own d), pto x.2 (.lst xs)]
theorem gD {H : Hp} {C d : Addr} {n : Int} {lf : Option Int} {xs : List V} {L : List Asr} (h : Sts H (dsk C d n lf xs :: L)) : Sts H (dsk C d n lf xs :: L) := h
theorem dsk_mk {C d dx c : Addr} {n : Int} {lf : Option Int} {xs : List V} {L : List Asr} {H : Hp} (S : Sts H (pto d (.ins C dx [("writes", .int n), ("_cells", .ref c), ("_left", ov lf)]) :: pto dx (.own d) :: pto c (.lst xs) :: L)) : Sts H (dsk C d n lf xs :: L) :=
  Sts.cls (M := [_, _, _]) S fun h a => ⟨⟨(dx, c), a⟩⟩
theorem dsk_open {C d : Addr} {n : Int} {lf : Option Int} {xs : List V} {L : List Asr} {H : Hp} (S : Sts H (dsk C d n lf xs :: L)) : ∃ dx c, Sts H (pto d (.ins C dx [("writes", .int n), ("_cells", .ref c), ("_left", ov lf)]) :: pto dx (.own d) :: pto c (.lst xs) :: L) := by
  obtain ⟨⟨dx, c⟩, S⟩ := S.opn (f := fun x : Addr × Addr => [pto d (.ins C x.1 [("writes", .int n), ("_cells", .ref x.2), ("_left", ov lf)]), pto x.1 (.own d), pto x.2 (.lst xs)]) (fun h a => a.ex) (fun x τ h => by simp at h)
  exact ⟨dx, c, S⟩
def spDInit (C : Addr) : Sp := fun vs H Q _ => ∃ (d dx : Addr) (v : V), vs = [.ref d, v] ∧
  ((v = .non ∧ ∃ F : List Asr, Sts H (pto d (.ins C dx []) :: pto dx (.own d) :: F) ∧ ∀ H', Sts H' (dsk C d 0 none [] :: F) → Q .non H') ∨
  (∃ (a : Addr) (xs : List V) (F : List Asr), v = .ref a ∧ Sts H (pto d (.ins C dx []) :: pto dx (.own d) :: pto a (.lst xs) :: F) ∧ xs.length ≤ 100000 ∧ ∀ H', Sts H' (dsk C d 0 none xs :: pto a (.lst xs) :: F) → Q .non H'))
theorem ok_Disk_init (T : Txt P K mg) : FnOk P w K mg base CX0 1 T.f_Disk_init T.fd_Disk_init ["self", "cells"] (spDInit T.c_Disk) := by
  refine T.F_Disk_init.ok sc_Disk_init (fun vs H Q E h => by obtain ⟨d, dx, v, rfl, _⟩ := h; rfl) (fun cdv A outer s H vs Q E hr h => ?_)
  obtain ⟨d, dx, v, rfl, ⟨rfl, F, S, q⟩ | ⟨a, xs, F, rfl, S, hl, q⟩⟩ := h
  · refine ⟨_, (pss_cons (oc_fldset T.cl_Disk T.n_Disk_writes (pv 0) pe_int)
      (pss_cons (oc_fldset T.cl_Disk T.n_Disk__cells (pv 0) (pe_ifExp (pt_cmpR v_isN (pv 1) pe_non (nomark _)) (pe_lst pa_nil) pe_dead))
      (pss_one (oc_fldset T.cl_Disk T.n_Disk__left (pv 0) pe_non)))), st_2_0 rfl ?_⟩
    fail "go"
    rename_i H1 S1 c H2 S2 H3 S3 H4 S4
    exact q _ (dsk_mk (dx := dx) (c := c) (lf := none) (by fail "fp"))
  · refine ⟨_, (pss_cons (oc_fldset T.cl_Disk T.n_Disk_writes (pv 0) pe_int)
      (pss_cons (oc_fldset T.cl_Disk T.n_Disk__cells (pv 0) (pe_ifExp (pt_cmpR v_isN (pv 1) pe_non (nomark _)) (pe_lst pa_nil) (pe_callTy (v_list (K := K) rfl) (by rfl) T.z_list PyProof.Rows.boot_list (pa_cons (pv 1) pa_nil))))
      (pss_one (oc_fldset T.cl_Disk T.n_Disk__left (pv 0) pe_non)))), st_2_0 rfl ?_⟩
    fail "go"
    rename_i H1 S1 c H2 S2 H3 S3 H4 S4
    exact q _ (dsk_mk (dx := dx) (c := c) (lf := none) (by fail "fp"))
def spDLen (C : Addr) : Sp := fun vs H Q _ => ∃ (d : Addr) (n : Int) (lf : Option Int) (xs : List V) (F : List Asr), vs = [.ref d] ∧ Sts H (dsk C d n lf xs :: F) ∧ ∀ H', Sts H' (dsk C d n lf xs :: F) → Q (.int xs.length) H'
theorem ok_Disk_len (T : Txt P K mg) : FnOk P w K mg base CX0 1 T.f_Disk_len T.fd_Disk_len ["self"] (spDLen T.c_Disk) := by
  refine T.F_Disk_len.ok sc_Disk_len (fun vs H Q E h => by obtain ⟨d, n, lf, xs, F, rfl, _⟩ := h; rfl) (fun cdv A outer s H vs Q E hr h => ?_)
  obtain ⟨d, n, lf, xs, F, rfl, S, q⟩ := h
  obtain ⟨dx, c, S⟩ := dsk_open S
  refine ⟨_, (pss_one (ps_ret (pe_callB (v_len (K := K) rfl) (by rfl) T.z_len PySem.boot_len (pa_cons (oc_fld T.cl_Disk T.n_Disk__cells (pv 0)) pa_nil)))), st_1_0 rfl ?_⟩
  fail "go"
  exact q _ (dsk_mk S)
local macro_rules | `(tactic| fail "gs") => `(tactic| ((with_reducible show K19.spDLen _ _ _ _ _); refine ⟨_, _, _, _, _, rfl, K19.gD (by fail "fr1"), fun (oh : L2.Hp) os => ?_⟩))
def spDCells (C : Addr) : Sp := fun vs H Q _ => ∃ (d : Addr) (n : Int) (lf : Option Int) (xs : List V) (F : List Asr), vs = [.ref d] ∧ Sts H (dsk C d n lf xs :: F) ∧ ∀ a H', Sts H' (pto a (.lst xs) :: dsk C d n lf xs :: F) → Q (.ref a) H'
theorem ok_Disk_cells (T : Txt P K mg) : FnOk P w K mg base CX0 1 T.f_Disk_cells T.fd_Disk_cells ["self"] (spDCells T.c_Disk) := by
  refine T.F_Disk_cells.ok sc_Disk_cells (fun vs H Q E h => by obtain ⟨d, n, lf, xs, F, rfl, _⟩ := h; rfl) (fun cdv A outer s H vs Q E hr h => ?_)
  obtain ⟨d, n, lf, xs, F, rfl, S, q⟩ := h
  obtain ⟨dx, c, S⟩ := dsk_open S
  refine ⟨_, (pss_one (ps_ret (pe_callTy (v_list (K := K) rfl) (by rfl) T.z_list PyProof.Rows.boot_list (pa_cons (oc_fld T.cl_Disk T.n_Disk__cells (pv 0)) pa_nil)))), st_1_0 rfl ?_⟩
  fail "go"
  rename_i a H1 S1
  have S2 : Sts H1 (pto d (.ins T.c_Disk dx [("writes", .int n), ("_cells", .ref c), ("_left", ov lf)]) :: pto dx (.own d) :: pto c (.lst xs) :: pto a (.lst xs) :: F) := by fail "fp"
  have S3 := dsk_mk S2
  exact q a _ (by fail "fp")
local macro_rules | `(tactic| fail "gs") => `(tactic| ((with_reducible show K19.spDCells _ _ _ _ _); refine ⟨_, _, _, _, _, rfl, K19.gD (by fail "fr1"), fun (op : PySem.Addr) (oh : L2.Hp) os => ?_⟩))
def spDRead (C : Addr) : Sp := fun vs H Q _ => ∃ (d : Addr) (n : Int) (lf : Option Int) (xs : List V) (i : Int) (F : List Asr), vs = [.ref d, .int i] ∧ 0 ≤ i ∧ Sts H (dsk C d n lf xs :: F) ∧ ∀ H', Sts H' (dsk C d n lf xs :: F) → Q ((xs[i.toNat]?).getD .non) H'
theorem ok_Disk_read_cell (T : Txt P K mg) : FnOk P w K mg base CX0 1 T.f_Disk_read_cell T.fd_Disk_read_cell ["self", "index"] (spDRead T.c_Disk) := by
  refine T.F_Disk_read_cell.ok sc_Disk_read_cell (fun vs H Q E h => by obtain ⟨d, n, lf, xs, i, F, rfl, _⟩ := h; rfl) (fun cdv A outer s H vs Q E hr h => ?_)
  obtain ⟨d, n, lf, xs, i, F, rfl, hi, S, q⟩ := h
  obtain ⟨dx, c, S⟩ := dsk_open S
  refine ⟨_, (pss_cons (ps_if (pt_cmpR op_lt (pv 1) (pe_callB (v_len (K := K) rfl) (by rfl) T.z_len PySem.boot_len (pa_cons (oc_fld T.cl_Disk T.n_Disk__cells (pv 0)) pa_nil)) (nomark _))
      (pss_one (ps_ret (pe_ix (v_ix (K := K) rfl) (oc_fld T.cl_Disk T.n_Disk__cells (pv 0)) (pv 1) (fun _ _ => rfl))))
      pss_nil)
      (pss_one (ps_ret pe_non))), st_2_0 rfl ?_⟩
  fail "go"
  with_reducible refine ifB (fun k => ?_) (fun k => ?_)
  · have k := odt k
    have e : xs[i.toNat]? = some (xs[i.toNat]'(by omega)) := List.getElem?_eq_getElem (by omega)
    rw [e] at q
    fail "go"
    refine g_ix (K := K) (by fail "sq") (atI_of hi e) ?_
    exact q _ (dsk_mk S)
  · have k := odf k
    rw [List.getElem?_eq_none (by omega)] at q
    fail "go"
    exact q _ (dsk_mk S)
local macro_rules | `(tactic| fail "gs") => `(tactic| ((with_reducible show K19.spDRead _ _ _ _ _); refine ⟨_, _, _, _, _, _, rfl, Oc.pr (by fail "side"), K19.gD (by fail "fr1"), fun (oh : L2.Hp) os => ?_⟩))
/-- the cells behind a write -/
def wr (xs : List V) (i : Nat) (v : V) : List V := (xs ++ List.replicate (i + 1 - xs.length) V.non).set i v
theorem wr_len (xs : List V) (i : Nat) (v : V) : (wr xs i v).length = max xs.length (i + 1) := by
  unfold wr
  rw [List.length_set, List.length_append, List.length_replicate]
  omega
def spDWrite (C cX : Addr) : Sp := fun vs H Q E => ∃ (d : Addr) (n : Int) (lf : Option Int) (xs : List V) (ix : Int) (i : Nat) (v : V) (F : List Asr), vs = [.ref d, .int ix, v] ∧ ix = i ∧ Sts H (dsk C d n lf xs :: F) ∧ (xs.length ≤ 10000 ∧ i ≤ 10000) ∧
  (lf ≠ some 0 → ∀ H', Sts H' (dsk C d (n + 1) (lf.map (· - 1)) (wr xs i v) :: F) → Q .non H') ∧
  (lf = some 0 → ∀ e H', Sts H' (pto e (.xd [("writes", .int n)]) :: dsk C d n lf xs :: F) → E (.ref cX) (some e) H')
theorem ok_Disk_write_cell (T : Txt P K mg) : FnOk P w K mg base (L2N.CX P w) 3 T.f_Disk_write_cell T.fd_Disk_write_cell ["self", "index", "content"] (spDWrite T.c_Disk T.c_Stopped) := by
  refine okN T.F_Disk_write_cell sc_Disk_write_cell (fun vs H Q E h => by obtain ⟨d, n, lf, xs, ix, i, v, F, rfl, _⟩ := h; rfl) (fun cdv A outer s H vs Q E hr h => ?_)
  obtain ⟨d, n, lf, xs, ix, i, v, F, rfl, rfl, S, ⟨hl, hi⟩, q1, q2⟩ := h
  obtain ⟨dx, c, S⟩ := dsk_open S
  refine ⟨_, (pss_cons (ps_if (pt_cmpR op_eq (oc_fld T.cl_Disk T.n_Disk__left (pv 0)) pe_int (nomark _))
      (pss_one (v_raise rfl (L2N.takes_of rfl rfl rfl rfl) (oc_mkx T.ox_Stopped T.ix_Stopped T.ti_Stopped (ok_Stopped_init T) (hr.mono (by decide)) T.b_Stopped_init .nil pass0 (by rfl) T.gc_Stopped (pa_cons (oc_fld T.cl_Disk T.n_Disk_writes (pv 0)) pa_nil))))
      pss_nil)
      (pss_cons (ps_set (i := 3) sc_Disk_write_cell.nd rfl (Or.inl rfl) (pe_op op_sub (pe_op op_add (pv 1) pe_int) (pe_callB (v_len (K := K) rfl) (by rfl) T.z_len PySem.boot_len (pa_cons (oc_fld T.cl_Disk T.n_Disk__cells (pv 0)) pa_nil))))
      (oc_cut (ps_if (pt_cmpR op_gt (pv 3) pe_int (nomark _))
      (pss_one (ps_expr (pe_bm PySem.F.plainAttrs_list PySem.F.slot_list_extend PySem.F.type_list_extend v_extend (oc_fld T.cl_Disk T.n_Disk__cells (pv 0)) (pa_cons (pe_op op_rep (pe_lst (pa_cons pe_non pa_nil)) (pv 3)) pa_nil))))
      pss_nil)
      (pss_cons (ps_asg (pv 2) (pg_sub (oc_fld T.cl_Disk T.n_Disk__cells (pv 0)) (pv 1) v_setL))
      (pss_cons (oc_fldset T.cl_Disk T.n_Disk_writes (pv 0) (pe_op op_add (oc_fld T.cl_Disk T.n_Disk_writes (pv 0)) pe_int))
      (pss_one (ps_if (pt_cmpR v_notN (oc_fld T.cl_Disk T.n_Disk__left (pv 0)) pe_non (nomark _))
      (pss_one (oc_fldset T.cl_Disk T.n_Disk__left (pv 0) (pe_op op_sub (oc_fld T.cl_Disk T.n_Disk__left (pv 0)) pe_int)))
      pss_nil))))))), st_3_1 rfl ?_⟩
  fail "go"
  show rEq (ov lf) (ov (some 0)) _ _
  refine g_eqO ?_
  fail "go"
  with_reducible refine ifB (fun k => ?_) (fun k => ?_)
  · have k := odt k
    fail "go"
    refine g_kMkX (Nat.le_of_ble_eq_true rfl) S fun y H' S' => ?_
    refine ⟨y, _, _, rfl, S', fun e H2 S2 => g_kXR S2 fun H3 S3 => q2 k e _ ?_⟩
    have S4 : Sts H3 (pto d (.ins T.c_Disk dx [("writes", .int n), ("_cells", .ref c), ("_left", ov lf)]) :: pto dx (.own d) :: pto c (.lst xs) :: pto e (.xd [("writes", .int n)]) :: F) := by fail "fp"
    have S5 := dsk_mk S4
    exact (by fail "fp")
  · have k := odf k
    have rl : ([V.non] : List V).length * ((i : Int) + 1 - (xs.length : Nat)).toNat ≤ 1000000 := by
      simp
      omega
    have re : (List.replicate ((i : Int) + 1 - (xs.length : Nat)).toNat [V.non]).flatten = List.replicate (i + 1 - xs.length) V.non := by
      have e : ((i : Int) + 1 - (xs.length : Nat)).toNat = i + 1 - xs.length := by omega
      rw [e]
      induction (i + 1 - xs.length) with
      | zero => rfl
      | succ k ih => rw [List.replicate_succ, List.replicate_succ, List.flatten_cons, ih]; rfl
    fail "go"
    refine ⟨fun σ H => ∃ x : Option V, σ = [some (.ref d), some (.int i), some v, x] ∧ Sts H (pto d (.ins T.c_Disk dx [("writes", .int n), ("_cells", .ref c), ("_left", ov lf)]) :: pto dx (.own d) :: pto c (.lst (xs ++ List.replicate (i + 1 - xs.length) V.non)) :: F), ?_, ?_⟩
    · fail "go"
      with_reducible refine ifB (fun k2 => ?_) (fun k2 => ?_)
      · have k2 := odt k2
        fail "go"
        rename_i b H1 S1
        refine ⟨b, _, _, rfl, rfl, S1.hd, by omega, by omega, Oc.small' rl, fun e np => ?_⟩
        rw [re]
        have S2 := S1.new (.lst (List.replicate (i + 1 - xs.length) V.non)) np
        have S3 : Sts (upd H1 e (.lst (List.replicate (i + 1 - xs.length) V.non))) (pto c (.lst xs) :: pto e (.lst (List.replicate (i + 1 - xs.length) V.non)) :: pto d (.ins T.c_Disk dx [("writes", .int n), ("_cells", .ref c), ("_left", ov lf)]) :: pto dx (.own d) :: F) := by fail "fp"
        fail "go"
        refine g_ext S3 S3.tail.hd (Oc.small' (by rw [List.length_replicate]; omega)) fun H2 S4 => ?_
        exact ⟨_, rfl, by fail "fp"⟩
      · have k2 := odf k2
        have e : i + 1 - xs.length = 0 := by omega
        rw [e, List.replicate_zero, List.append_nil]
        fail "go"
        exact ⟨_, rfl, S⟩
    · clear S
      rintro σ H ⟨x, rfl, S⟩
      fail "go"
      refine g_setL (L := pto d (.ins T.c_Disk dx [("writes", .int n), ("_cells", .ref c), ("_left", ov lf)]) :: pto dx (.own d) :: F) (by fail "fp") ⟨by omega, by rw [List.length_append, List.length_replicate]; omega⟩ fun H2 S2 => ?_
      clear S
      have ew : (xs ++ List.replicate (i + 1 - xs.length) V.non).set (i : Int).toNat v = wr xs i v := by rw [Int.toNat_natCast]; rfl
      rw [ew] at S2
      fail "go"
      cases lf with
      | none =>
        refine ifF rfl ?_
        fail "go"
        rename_i H3 S3
        exact q1 k _ (dsk_mk (dx := dx) (c := c) (lf := none) (by fail "fp"))
      | some m =>
        refine ifT rfl ?_
        fail "go"
        show rI0 _ (.int m) (.int 1) _ _
        fail "go"
        rename_i H3 S3 H4 S4
        exact q1 k _ (dsk_mk (dx := dx) (c := c) (lf := some (m - 1)) (by fail "fp"))
local macro_rules | `(tactic| fail "gs") => `(tactic| ((with_reducible show K19.spDWrite _ _ _ _ _ _); refine ⟨_, _, _, _, _, _, _, _, rfl, rfl, K19.gD (by fail "fr1"), Oc.pr (by fail "side"), ?_⟩))
def spDGet (C : Addr) : Sp := fun vs H Q _ => ∃ (d : Addr) (n : Int) (lf : Option Int) (xs : List V) (F : List Asr), vs = [.ref d] ∧ Sts H (dsk C d n lf xs :: F) ∧ ∀ H', Sts H' (dsk C d n lf xs :: F) → Q (ov lf) H'
theorem ok_Disk_allowance (T : Txt P K mg) : FnOk P w K mg base CX0 1 T.f_Disk_allowance T.fd_Disk_allowance ["self"] (spDGet T.c_Disk) := by
  refine T.F_Disk_allowance.ok sc_Disk_allowance (fun vs H Q E h => by obtain ⟨d, n, lf, xs, F, rfl, _⟩ := h; rfl) (fun cdv A outer s H vs Q E hr h => ?_)
  obtain ⟨d, n, lf, xs, F, rfl, S, q⟩ := h
  obtain ⟨dx, c, S⟩ := dsk_open S
  refine ⟨_, (pss_one (ps_ret (oc_fld T.cl_Disk T.n_Disk__left (pv 0)))), st_1_0 rfl ?_⟩
  fail "go"
  exact q _ (dsk_mk S)
local macro_rules | `(tactic| fail "gs") => `(tactic| ((with_reducible show K19.spDGet _ _ _ _ _); refine ⟨_, _, _, _, _, rfl, K19.gD (by fail "fr1"), fun (oh : L2.Hp) os => ?_⟩))
def spDSet (C cX : Addr) : Sp := fun vs H Q E => ∃ (d : Addr) (n : Int) (lf mf : Option Int) (xs : List V) (F : List Asr), vs = [.ref d, ov mf] ∧ Sts H (dsk C d n lf xs :: F) ∧
  ((∀ m, mf = some m → 0 ≤ m) → ∀ H', Sts H' (dsk C d n mf xs :: F) → Q .non H') ∧
  (∀ m, mf = some m → m < 0 → ∀ e H', Sts H' (pto e (.xd [("allowed", .int m)]) :: dsk C d n lf xs :: F) → E (.ref cX) (some e) H')
theorem ok_Disk_allowance_set (T : Txt P K mg) : FnOk P w K mg base (L2N.CX P w) 3 T.f_Disk_allowance_set T.fd_Disk_allowance_set ["self", "allowed"] (spDSet T.c_Disk T.c_InvalidAllowance) := by
  refine okN T.F_Disk_allowance_set sc_Disk_allowance_set (fun vs H Q E h => by obtain ⟨d, n, lf, mf, xs, F, rfl, _⟩ := h; rfl) (fun cdv A outer s H vs Q E hr h => ?_)
  obtain ⟨d, n, lf, mf, xs, F, rfl, S, q1, q2⟩ := h
  obtain ⟨dx, c, S⟩ := dsk_open S
  cases mf with
  | none =>
    refine ⟨_, (pss_cons (ps_if (PW.pt (pw_and (pt_cmpR v_notN (pv 1) pe_non (nomark _)) (pw_and1 pt_dead)))
      (pss_one (v_raise rfl (L2N.takes_of rfl rfl rfl rfl) (oc_mkx T.ox_InvalidAllowance T.ix_InvalidAllowance T.ti_InvalidAllowance (ok_InvalidAllowance_init T) (hr.mono (by decide)) T.b_InvalidAllowance_init .nil pass0 (by rfl) T.gc_InvalidAllowance (pa_cons (pv 1) pa_nil))))
      pss_nil)
      (pss_one (oc_fldset T.cl_Disk T.n_Disk__left (pv 0) (pv 1)))), st_2_0 rfl ?_⟩
    fail "go"
    refine ifF rfl ?_
    refine ifF rfl ?_
    fail "go"
    rename_i H1 S1
    exact q1 (fun m h => nomatch h) _ (dsk_mk (lf := none) (by fail "fp"))
  | some m =>
    refine ⟨_, (pss_cons (ps_if (PW.pt (pw_and (pt_cmpR v_notN (pv 1) pe_non (nomark _)) (pw_and1 (pt_cmpR op_lt (pv 1) pe_int (nomark _)))))
      (pss_one (v_raise rfl (L2N.takes_of rfl rfl rfl rfl) (oc_mkx T.ox_InvalidAllowance T.ix_InvalidAllowance T.ti_InvalidAllowance (ok_InvalidAllowance_init T) (hr.mono (by decide)) T.b_InvalidAllowance_init .nil pass0 (by rfl) T.gc_InvalidAllowance (pa_cons (pv 1) pa_nil))))
      pss_nil)
      (pss_one (oc_fldset T.cl_Disk T.n_Disk__left (pv 0) (pv 1)))), st_2_0 rfl ?_⟩
    fail "go"
    refine ifT rfl ?_
    show tTest (tOp (rI0 fun i j => V.bl (decide (i < j))) (tVar 1) (tC (V.int 0))) [some (V.ref d), some (.int m)] _ _
    fail "go"
    with_reducible refine ifB (fun k => ?_) (fun k => ?_)
    · have k := odt k
      fail "go"
      refine g_kMkX (Nat.le_of_ble_eq_true rfl) S fun y H' S' => ?_
      refine ⟨y, _, _, rfl, S', fun e H2 S2 => g_kXR S2 fun H3 S3 => q2 m rfl k e _ ?_⟩
      have S4 : Sts H3 (pto d (.ins T.c_Disk dx [("writes", .int n), ("_cells", .ref c), ("_left", ov lf)]) :: pto dx (.own d) :: pto c (.lst xs) :: pto e (.xd [("allowed", .int m)]) :: F) := by fail "fp"
      have S5 := dsk_mk S4
      exact (by fail "fp")
    · have k := odf k
      fail "go"
      rename_i H1 S1
      exact q1 (fun m' h => by cases h; omega) _ (dsk_mk (lf := some m) (by fail "fp"))
theorem ok_Disk_allow (T : Txt P K mg) : FnOk P w K mg base (L2N.CX P w) 6 T.f_Disk_allow T.fd_Disk_allow ["self", "allowed"] (spDSet T.c_Disk T.c_InvalidAllowance) := by
  refine okN T.F_Disk_allow sc_Disk_allow (fun vs H Q E h => by obtain ⟨d, n, lf, mf, xs, F, rfl, _⟩ := h; rfl) (fun cdv A outer s H vs Q E hr h => ?_)
  obtain ⟨d, n, lf, mf, xs, F, rfl, S, q1, q2⟩ := h
  refine ⟨_, (pss_one (oc_pset (CX := L2N.CX _ _) (E := E) T.cl_Disk T.ps_Disk_allowance (ok_Disk_allowance_set T) (hr.mono (by decide)) T.b_Disk_allowance_set (L2N.passes_call (W := fun cls d _ H => E cls d H) (L2N.takes_of rfl rfl rfl rfl) (fun _ _ _ _ h => h)) (pv 0) (pv 1))), st_2_0 rfl ?_⟩
  refine ⟨_, rfl, _, rfl, d, rfl, ?_, d, n, lf, mf, xs, F, rfl, S, q1, q2⟩
  obtain ⟨dx, c, S⟩ := dsk_open S
  exact ⟨_, _, S.hd⟩
local macro_rules | `(tactic| fail "gs") => `(tactic| ((with_reducible show K19.spDInit _ _ _ _ _); refine ⟨_, _, _, rfl, ?_⟩))

--PART
/-! ### the law's comparison -/
def Sc (v : V) : Prop := v = .non ∨ (∃ i, v = .int i) ∨ ∃ z, v = .str z
/-- a cell's content: nothing, an integer, a text or a tuple of such -/
def Ct (τ : Tmap) (v : V) : Prop := Sc v ∨ ∃ t ys, v = .ref t ∧ τ t = some ys ∧ (∀ y ∈ ys, Sc y) ∧ ys.length ≤ 10
theorem Ct.mono {τ υ : Tmap} {v : V} (h : Ct τ v) (l : Le τ υ) : Ct υ v := h.imp id fun ⟨t, ys, e, e2, h⟩ => ⟨t, ys, e, l _ _ e2, h⟩
theorem Cts.mono {τ υ : Tmap} {xs : List V} (h : ∀ x ∈ xs, Ct τ x) (l : Le τ υ) : ∀ x ∈ xs, Ct υ x := fun x hx => (h x hx).mono l
local macro_rules | `(tactic| fail "gs") => `(tactic| ((with_reducible apply Oc.g_isTu); fail "tp"))
local macro_rules | `(tactic| fail "gs") => `(tactic| ((with_reducible apply Oc.g_isLi); fail "hp"))
local macro_rules | `(tactic| fail "gs") => `(tactic| with_reducible refine Oc.g_isS ?_)
local macro_rules | `(tactic| fail "gs") => `(tactic| with_reducible refine Oc.g_isIn ?_)
local macro_rules | `(tactic| fail "gs") => `(tactic| ((with_reducible apply Oc.g_isTT); fail "tp"))
theorem at_is {ys : List V} {i : Nat} (h : i < ys.length) : ∃ v, v ∈ ys ∧ ys[i]? = some v ∧ atI ys (0 + (i : Int)) = some v := by
  refine ⟨ys[i], List.getElem_mem h, List.getElem?_eq_getElem h, ?_⟩
  rw [Int.zero_add]
  exact atI_of (Int.natCast_nonneg i) (by rw [Int.toNat_natCast]; exact List.getElem?_eq_getElem h)
def spSame0 : Sp := fun vs H Q _ => ∃ v : V, vs = [v, v] ∧ Sc v ∧ Q (.bl true) H
namespace D0
theorem ok_law_same (T : Txt P K mg) : FnOk P w K mg base CX0 0 T.f_law_same T.fd_law_same ["told", "due"] (fun _ _ _ _ => False) := ⟨fun _ _ _ _ h => h.elim, fun _ _ _ _ _ _ _ _ _ _ _ _ _ h => h.elim⟩
end D0
open D0 in
theorem same0 (T : Txt P K mg) : FnOk P w K mg base CX0 1 T.f_law_same T.fd_law_same ["told", "due"] spSame0 := by
  refine T.F_law_same.ok sc_law_same (fun vs H Q E h => by obtain ⟨v, rfl, _⟩ := h; rfl) (fun cdv A outer s H vs Q E hr h => ?_)
  obtain ⟨v, rfl, rfl | ⟨i, rfl⟩ | ⟨z, rfl⟩, q⟩ := h
  · refine ⟨_, (pss_cons (ps_if (pt_cmpR v_isN (pv 1) pe_non (nomark _))
      (pss_one (ps_ret (pe_cmpR v_isN (pv 0) pe_non (nomark _))))
      pss_nil)
      (pss_cons ps_dead
      (pss_cons ps_dead
      (pss_cons ps_dead
      (pss_cons ps_dead
      (pss_cons ps_dead
      (pss_cons ps_dead
      (pss_one (ps_ret pe_bl))))))))), st_2_1 rfl ?_⟩
    fail "go"
    exact q
  · refine ⟨_, (pss_cons (ps_if (pt_cmpR v_isN (pv 1) pe_non (nomark _))
      (pss_one (ps_ret (pe_cmpR v_isN (pv 0) pe_non (nomark _))))
      pss_nil)
      (pss_cons (ps_if (pt_val (pe_callB v_isIB (by rfl) T.z_isinstance PyProof.Rows.boot_isinstance (pa_cons (pv 1) (pa_cons (pe_bltn (v := .ty "bool") (by rfl) T.z_bool PyProof.Rows.boot_bool rfl) pa_nil))))
      (pss_one (ps_ret (pe_and (pe_callB v_isIB (by rfl) T.z_isinstance PyProof.Rows.boot_isinstance (pa_cons (pv 0) (pa_cons (pe_bltn (v := .ty "bool") (by rfl) T.z_bool PyProof.Rows.boot_bool rfl) pa_nil))) (pe_one (pe_cmpR op_eq (pv 0) (pv 1) (nomark _))))))
      pss_nil)
      (pss_cons (ps_if (pt_val (pe_callB v_isII (by rfl) T.z_isinstance PyProof.Rows.boot_isinstance (pa_cons (pv 1) (pa_cons (pe_bltn (v := .ty "int") (by rfl) T.z_int PyProof.Rows.boot_int rfl) pa_nil))))
      (pss_one (ps_ret (pe_and (pe_callB v_isII (by rfl) T.z_isinstance PyProof.Rows.boot_isinstance (pa_cons (pv 0) (pa_cons (pe_bltn (v := .ty "int") (by rfl) T.z_int PyProof.Rows.boot_int rfl) pa_nil))) (pe_and (pe_not (pe_callB v_isIB (by rfl) T.z_isinstance PyProof.Rows.boot_isinstance (pa_cons (pv 0) (pa_cons (pe_bltn (v := .ty "bool") (by rfl) T.z_bool PyProof.Rows.boot_bool rfl) pa_nil)))) (pe_one (pe_cmpR op_eq (pv 0) (pv 1) (nomark _)))))))
      pss_nil)
      (pss_cons (ps_if (pt_val (pe_callB (v_isIn (U := "str") (r := false) (by decide +kernel)) (by rfl) T.z_isinstance PyProof.Rows.boot_isinstance (pa_cons (pv 1) (pa_cons (pe_bltn (v := .ty "str") (by rfl) T.z_str PyProof.Rows.boot_str rfl) pa_nil))))
      (pss_one (ps_ret (pe_and (pe_callB (v_isIn (U := "str") (r := false) (by decide +kernel)) (by rfl) T.z_isinstance PyProof.Rows.boot_isinstance (pa_cons (pv 0) (pa_cons (pe_bltn (v := .ty "str") (by rfl) T.z_str PyProof.Rows.boot_str rfl) pa_nil))) (pe_one (pe_cmpR op_eq (pv 0) (pv 1) (nomark _))))))
      pss_nil)
      (pss_cons (ps_if (pt_val (pe_callB (v_isIn (U := "tuple") (r := false) (by decide +kernel)) (by rfl) T.z_isinstance PyProof.Rows.boot_isinstance (pa_cons (pv 1) (pa_cons (pe_bltn (v := .ty "tuple") (by rfl) T.z_tuple PyProof.Rows.boot_tuple rfl) pa_nil))))
      (pss_one (ps_if (pt_not (pt_val (pe_callB (v_isIn (U := "tuple") (r := false) (by decide +kernel)) (by rfl) T.z_isinstance PyProof.Rows.boot_isinstance (pa_cons (pv 0) (pa_cons (pe_bltn (v := .ty "tuple") (by rfl) T.z_tuple PyProof.Rows.boot_tuple rfl) pa_nil)))))
      (pss_one (ps_ret pe_bl))
      pss_nil))
      (pss_one (ps_if (pt_not (pt_val (pe_callB (v_isIn (U := "list") (r := false) (by decide +kernel)) (by rfl) T.z_isinstance PyProof.Rows.boot_isinstance (pa_cons (pv 0) (pa_cons (pe_bltn (v := .ty "list") (by rfl) T.z_list PyProof.Rows.boot_list rfl) pa_nil)))))
      (pss_one (ps_ret pe_bl))
      pss_nil)))
      (pss_cons ps_dead
      (pss_cons ps_dead
      (pss_one (ps_ret pe_bl))))))))), st_2_1 rfl ?_⟩
    fail "go"
    rw [decide_eq_true rfl]
    exact q
  · refine ⟨_, (pss_cons (ps_if (pt_cmpR v_isN (pv 1) pe_non (nomark _))
      (pss_one (ps_ret (pe_cmpR v_isN (pv 0) pe_non (nomark _))))
      pss_nil)
      (pss_cons (ps_if (pt_val (pe_callB (v_isS (U := "bool") (r := false) (by decide +kernel)) (by rfl) T.z_isinstance PyProof.Rows.boot_isinstance (pa_cons (pv 1) (pa_cons (pe_bltn (v := .ty "bool") (by rfl) T.z_bool PyProof.Rows.boot_bool rfl) pa_nil))))
      (pss_one (ps_ret (pe_and (pe_callB (v_isS (U := "bool") (r := false) (by decide +kernel)) (by rfl) T.z_isinstance PyProof.Rows.boot_isinstance (pa_cons (pv 0) (pa_cons (pe_bltn (v := .ty "bool") (by rfl) T.z_bool PyProof.Rows.boot_bool rfl) pa_nil))) (pe_one (pe_cmpR op_eq (pv 0) (pv 1) (nomark _))))))
      pss_nil)
      (pss_cons (ps_if (pt_val (pe_callB (v_isS (U := "int") (r := false) (by decide +kernel)) (by rfl) T.z_isinstance PyProof.Rows.boot_isinstance (pa_cons (pv 1) (pa_cons (pe_bltn (v := .ty "int") (by rfl) T.z_int PyProof.Rows.boot_int rfl) pa_nil))))
      (pss_one (ps_ret (pe_and (pe_callB (v_isS (U := "int") (r := false) (by decide +kernel)) (by rfl) T.z_isinstance PyProof.Rows.boot_isinstance (pa_cons (pv 0) (pa_cons (pe_bltn (v := .ty "int") (by rfl) T.z_int PyProof.Rows.boot_int rfl) pa_nil))) (pe_and (pe_not (pe_callB (v_isS (U := "bool") (r := false) (by decide +kernel)) (by rfl) T.z_isinstance PyProof.Rows.boot_isinstance (pa_cons (pv 0) (pa_cons (pe_bltn (v := .ty "bool") (by rfl) T.z_bool PyProof.Rows.boot_bool rfl) pa_nil)))) (pe_one (pe_cmpR op_eq (pv 0) (pv 1) (nomark _)))))))
      pss_nil)
      (pss_cons (ps_if (pt_val (pe_callB (v_isS (U := "str") (r := true) (by decide +kernel)) (by rfl) T.z_isinstance PyProof.Rows.boot_isinstance (pa_cons (pv 1) (pa_cons (pe_bltn (v := .ty "str") (by rfl) T.z_str PyProof.Rows.boot_str rfl) pa_nil))))
      (pss_one (ps_ret (pe_and (pe_callB (v_isS (U := "str") (r := true) (by decide +kernel)) (by rfl) T.z_isinstance PyProof.Rows.boot_isinstance (pa_cons (pv 0) (pa_cons (pe_bltn (v := .ty "str") (by rfl) T.z_str PyProof.Rows.boot_str rfl) pa_nil))) (pe_one (pe_cmpR op_eq (pv 0) (pv 1) (nomark _))))))
      pss_nil)
      (pss_cons (ps_if (pt_val (pe_callB (v_isS (U := "tuple") (r := false) (by decide +kernel)) (by rfl) T.z_isinstance PyProof.Rows.boot_isinstance (pa_cons (pv 1) (pa_cons (pe_bltn (v := .ty "tuple") (by rfl) T.z_tuple PyProof.Rows.boot_tuple rfl) pa_nil))))
      (pss_one (ps_if (pt_not (pt_val (pe_callB (v_isS (U := "tuple") (r := false) (by decide +kernel)) (by rfl) T.z_isinstance PyProof.Rows.boot_isinstance (pa_cons (pv 0) (pa_cons (pe_bltn (v := .ty "tuple") (by rfl) T.z_tuple PyProof.Rows.boot_tuple rfl) pa_nil)))))
      (pss_one (ps_ret pe_bl))
      pss_nil))
      (pss_one (ps_if (pt_not (pt_val (pe_callB (v_isS (U := "list") (r := false) (by decide +kernel)) (by rfl) T.z_isinstance PyProof.Rows.boot_isinstance (pa_cons (pv 0) (pa_cons (pe_bltn (v := .ty "list") (by rfl) T.z_list PyProof.Rows.boot_list rfl) pa_nil)))))
      (pss_one (ps_ret pe_bl))
      pss_nil)))
      (pss_cons (ps_if (pt_cmpR op_ne (pe_callB call_len_str (by rfl) T.z_len PySem.boot_len (pa_cons (pv 0) pa_nil)) (pe_callB call_len_str (by rfl) T.z_len PySem.boot_len (pa_cons (pv 1) pa_nil)) (nomark _))
      (pss_one (ps_ret pe_bl))
      pss_nil)
      (pss_cons (ps_for PassesOwn.never rfl (pi_range1 rfl T.z_range (pa_cons (pe_callB call_len_str (by rfl) T.z_len PySem.boot_len (pa_cons (pv 1) pa_nil)) pa_nil)) (pg_name (i := 2) sc_law_same.nd rfl (Or.inl rfl))
      (pss_one (ps_if (pt_not (pt_val (v_call (ok_law_same T) (hr.mono (by decide)) (by rfl) T.g_law_same T.F_law_same.kp T.b_law_same (pa_cons (pe_ix ix_str (pv 0) (pv 2) (fun _ _ => rfl)) (pa_cons (pe_ix ix_str (pv 1) (pv 2) (fun _ _ => rfl)) pa_nil)))))
      (pss_one (ps_ret pe_bl))
      pss_nil)))
      (pss_one (ps_ret pe_bl))))))))), st_2_1 rfl ?_⟩
    fail "go"
    refine ifF (decide_eq_false (fun h => nomatch h)) ?_
    fail "go"
    rw [decide_eq_true rfl]
    exact q
namespace A0
theorem ok_law_same (T : Txt P K mg) : FnOk P w K mg base CX0 1 T.f_law_same T.fd_law_same ["told", "due"] spSame0 := same0 T
end A0
def spSame1 : Sp := fun vs H Q _ => ∃ (v u : V), vs = [v, u] ∧ ((v = u ∧ Sc v ∧ Q (.bl true) H) ∨
  ∃ (t r : Addr) (ys : List V) (τ : Tmap) (F : List Asr), v = .ref t ∧ u = .ref r ∧ Sts H (im τ :: F) ∧ τ t = some ys ∧ τ r = some ys ∧ (∀ y ∈ ys, Sc y) ∧ ys.length ≤ 10 ∧ ∀ H', Sts H' (im τ :: F) → Q (.bl true) H')
open A0 in
theorem same1 (T : Txt P K mg) : FnOk P w K mg base CX0 2 T.f_law_same T.fd_law_same ["told", "due"] spSame1 := by
  refine T.F_law_same.ok sc_law_same (fun vs H Q E h => by obtain ⟨v, u, rfl, _⟩ := h; rfl) (fun cdv A outer s H vs Q E hr h => ?_)
  obtain ⟨v, u, rfl, ⟨rfl, rfl | ⟨i, rfl⟩ | ⟨z, rfl⟩, q⟩ | ⟨t, r, ys, τ, F, rfl, rfl, S, e1, e2, hs, hl, q⟩⟩ := h
  · refine ⟨_, (pss_cons (ps_if (pt_cmpR v_isN (pv 1) pe_non (nomark _))
      (pss_one (ps_ret (pe_cmpR v_isN (pv 0) pe_non (nomark _))))
      pss_nil)
      (pss_cons ps_dead
      (pss_cons ps_dead
      (pss_cons ps_dead
      (pss_cons ps_dead
      (pss_cons ps_dead
      (pss_cons ps_dead
      (pss_one (ps_ret pe_bl))))))))), st_2_1 rfl ?_⟩
    fail "go"
    exact q
  · refine ⟨_, (pss_cons (ps_if (pt_cmpR v_isN (pv 1) pe_non (nomark _))
      (pss_one (ps_ret (pe_cmpR v_isN (pv 0) pe_non (nomark _))))
      pss_nil)
      (pss_cons (ps_if (pt_val (pe_callB v_isIB (by rfl) T.z_isinstance PyProof.Rows.boot_isinstance (pa_cons (pv 1) (pa_cons (pe_bltn (v := .ty "bool") (by rfl) T.z_bool PyProof.Rows.boot_bool rfl) pa_nil))))
      (pss_one (ps_ret (pe_and (pe_callB v_isIB (by rfl) T.z_isinstance PyProof.Rows.boot_isinstance (pa_cons (pv 0) (pa_cons (pe_bltn (v := .ty "bool") (by rfl) T.z_bool PyProof.Rows.boot_bool rfl) pa_nil))) (pe_one (pe_cmpR op_eq (pv 0) (pv 1) (nomark _))))))
      pss_nil)
      (pss_cons (ps_if (pt_val (pe_callB v_isII (by rfl) T.z_isinstance PyProof.Rows.boot_isinstance (pa_cons (pv 1) (pa_cons (pe_bltn (v := .ty "int") (by rfl) T.z_int PyProof.Rows.boot_int rfl) pa_nil))))
      (pss_one (ps_ret (pe_and (pe_callB v_isII (by rfl) T.z_isinstance PyProof.Rows.boot_isinstance (pa_cons (pv 0) (pa_cons (pe_bltn (v := .ty "int") (by rfl) T.z_int PyProof.Rows.boot_int rfl) pa_nil))) (pe_and (pe_not (pe_callB v_isIB (by rfl) T.z_isinstance PyProof.Rows.boot_isinstance (pa_cons (pv 0) (pa_cons (pe_bltn (v := .ty "bool") (by rfl) T.z_bool PyProof.Rows.boot_bool rfl) pa_nil)))) (pe_one (pe_cmpR op_eq (pv 0) (pv 1) (nomark _)))))))
      pss_nil)
      (pss_cons (ps_if (pt_val (pe_callB (v_isIn (U := "str") (r := false) (by decide +kernel)) (by rfl) T.z_isinstance PyProof.Rows.boot_isinstance (pa_cons (pv 1) (pa_cons (pe_bltn (v := .ty "str") (by rfl) T.z_str PyProof.Rows.boot_str rfl) pa_nil))))
      (pss_one (ps_ret (pe_and (pe_callB (v_isIn (U := "str") (r := false) (by decide +kernel)) (by rfl) T.z_isinstance PyProof.Rows.boot_isinstance (pa_cons (pv 0) (pa_cons (pe_bltn (v := .ty "str") (by rfl) T.z_str PyProof.Rows.boot_str rfl) pa_nil))) (pe_one (pe_cmpR op_eq (pv 0) (pv 1) (nomark _))))))
      pss_nil)
      (pss_cons (ps_if (pt_val (pe_callB (v_isIn (U := "tuple") (r := false) (by decide +kernel)) (by rfl) T.z_isinstance PyProof.Rows.boot_isinstance (pa_cons (pv 1) (pa_cons (pe_bltn (v := .ty "tuple") (by rfl) T.z_tuple PyProof.Rows.boot_tuple rfl) pa_nil))))
      (pss_one (ps_if (pt_not (pt_val (pe_callB (v_isIn (U := "tuple") (r := false) (by decide +kernel)) (by rfl) T.z_isinstance PyProof.Rows.boot_isinstance (pa_cons (pv 0) (pa_cons (pe_bltn (v := .ty "tuple") (by rfl) T.z_tuple PyProof.Rows.boot_tuple rfl) pa_nil)))))
      (pss_one (ps_ret pe_bl))
      pss_nil))
      (pss_one (ps_if (pt_not (pt_val (pe_callB (v_isIn (U := "list") (r := false) (by decide +kernel)) (by rfl) T.z_isinstance PyProof.Rows.boot_isinstance (pa_cons (pv 0) (pa_cons (pe_bltn (v := .ty "list") (by rfl) T.z_list PyProof.Rows.boot_list rfl) pa_nil)))))
      (pss_one (ps_ret pe_bl))
      pss_nil)))
      (pss_cons ps_dead
      (pss_cons ps_dead
      (pss_one (ps_ret pe_bl))))))))), st_2_1 rfl ?_⟩
    fail "go"
    rw [decide_eq_true rfl]
    exact q
  · refine ⟨_, (pss_cons (ps_if (pt_cmpR v_isN (pv 1) pe_non (nomark _))
      (pss_one (ps_ret (pe_cmpR v_isN (pv 0) pe_non (nomark _))))
      pss_nil)
      (pss_cons (ps_if (pt_val (pe_callB (v_isS (U := "bool") (r := false) (by decide +kernel)) (by rfl) T.z_isinstance PyProof.Rows.boot_isinstance (pa_cons (pv 1) (pa_cons (pe_bltn (v := .ty "bool") (by rfl) T.z_bool PyProof.Rows.boot_bool rfl) pa_nil))))
      (pss_one (ps_ret (pe_and (pe_callB (v_isS (U := "bool") (r := false) (by decide +kernel)) (by rfl) T.z_isinstance PyProof.Rows.boot_isinstance (pa_cons (pv 0) (pa_cons (pe_bltn (v := .ty "bool") (by rfl) T.z_bool PyProof.Rows.boot_bool rfl) pa_nil))) (pe_one (pe_cmpR op_eq (pv 0) (pv 1) (nomark _))))))
      pss_nil)
      (pss_cons (ps_if (pt_val (pe_callB (v_isS (U := "int") (r := false) (by decide +kernel)) (by rfl) T.z_isinstance PyProof.Rows.boot_isinstance (pa_cons (pv 1) (pa_cons (pe_bltn (v := .ty "int") (by rfl) T.z_int PyProof.Rows.boot_int rfl) pa_nil))))
      (pss_one (ps_ret (pe_and (pe_callB (v_isS (U := "int") (r := false) (by decide +kernel)) (by rfl) T.z_isinstance PyProof.Rows.boot_isinstance (pa_cons (pv 0) (pa_cons (pe_bltn (v := .ty "int") (by rfl) T.z_int PyProof.Rows.boot_int rfl) pa_nil))) (pe_and (pe_not (pe_callB (v_isS (U := "bool") (r := false) (by decide +kernel)) (by rfl) T.z_isinstance PyProof.Rows.boot_isinstance (pa_cons (pv 0) (pa_cons (pe_bltn (v := .ty "bool") (by rfl) T.z_bool PyProof.Rows.boot_bool rfl) pa_nil)))) (pe_one (pe_cmpR op_eq (pv 0) (pv 1) (nomark _)))))))
      pss_nil)
      (pss_cons (ps_if (pt_val (pe_callB (v_isS (U := "str") (r := true) (by decide +kernel)) (by rfl) T.z_isinstance PyProof.Rows.boot_isinstance (pa_cons (pv 1) (pa_cons (pe_bltn (v := .ty "str") (by rfl) T.z_str PyProof.Rows.boot_str rfl) pa_nil))))
      (pss_one (ps_ret (pe_and (pe_callB (v_isS (U := "str") (r := true) (by decide +kernel)) (by rfl) T.z_isinstance PyProof.Rows.boot_isinstance (pa_cons (pv 0) (pa_cons (pe_bltn (v := .ty "str") (by rfl) T.z_str PyProof.Rows.boot_str rfl) pa_nil))) (pe_one (pe_cmpR op_eq (pv 0) (pv 1) (nomark _))))))
      pss_nil)
      (pss_cons (ps_if (pt_val (pe_callB (v_isS (U := "tuple") (r := false) (by decide +kernel)) (by rfl) T.z_isinstance PyProof.Rows.boot_isinstance (pa_cons (pv 1) (pa_cons (pe_bltn (v := .ty "tuple") (by rfl) T.z_tuple PyProof.Rows.boot_tuple rfl) pa_nil))))
      (pss_one (ps_if (pt_not (pt_val (pe_callB (v_isS (U := "tuple") (r := false) (by decide +kernel)) (by rfl) T.z_isinstance PyProof.Rows.boot_isinstance (pa_cons (pv 0) (pa_cons (pe_bltn (v := .ty "tuple") (by rfl) T.z_tuple PyProof.Rows.boot_tuple rfl) pa_nil)))))
      (pss_one (ps_ret pe_bl))
      pss_nil))
      (pss_one (ps_if (pt_not (pt_val (pe_callB (v_isS (U := "list") (r := false) (by decide +kernel)) (by rfl) T.z_isinstance PyProof.Rows.boot_isinstance (pa_cons (pv 0) (pa_cons (pe_bltn (v := .ty "list") (by rfl) T.z_list PyProof.Rows.boot_list rfl) pa_nil)))))
      (pss_one (ps_ret pe_bl))
      pss_nil)))
      (pss_cons (ps_if (pt_cmpR op_ne (pe_callB call_len_str (by rfl) T.z_len PySem.boot_len (pa_cons (pv 0) pa_nil)) (pe_callB call_len_str (by rfl) T.z_len PySem.boot_len (pa_cons (pv 1) pa_nil)) (nomark _))
      (pss_one (ps_ret pe_bl))
      pss_nil)
      (pss_cons (ps_for PassesOwn.never rfl (pi_range1 rfl T.z_range (pa_cons (pe_callB call_len_str (by rfl) T.z_len PySem.boot_len (pa_cons (pv 1) pa_nil)) pa_nil)) (pg_name (i := 2) sc_law_same.nd rfl (Or.inl rfl))
      (pss_one (ps_if (pt_not (pt_val (v_call (ok_law_same T) (hr.mono (by decide)) (by rfl) T.g_law_same T.F_law_same.kp T.b_law_same (pa_cons (pe_ix ix_str (pv 0) (pv 2) (fun _ _ => rfl)) (pa_cons (pe_ix ix_str (pv 1) (pv 2) (fun _ _ => rfl)) pa_nil)))))
      (pss_one (ps_ret pe_bl))
      pss_nil)))
      (pss_one (ps_ret pe_bl))))))))), st_2_1 rfl ?_⟩
    fail "go"
    refine ifF (decide_eq_false (fun h => nomatch h)) ?_
    fail "go"
    rw [decide_eq_true rfl]
    exact q
  · refine ⟨_, (pss_cons (ps_if (pt_cmpR v_isN (pv 1) pe_non (nomark _))
      (pss_one (ps_ret (pe_cmpR v_isN (pv 0) pe_non (nomark _))))
      pss_nil)
      (pss_cons (ps_if (pt_val (pe_callB (v_isTu (U := "bool") (r := false) (by decide +kernel)) (by rfl) T.z_isinstance PyProof.Rows.boot_isinstance (pa_cons (pv 1) (pa_cons (pe_bltn (v := .ty "bool") (by rfl) T.z_bool PyProof.Rows.boot_bool rfl) pa_nil))))
      (pss_one (ps_ret (pe_and (pe_callB (v_isTu (U := "bool") (r := false) (by decide +kernel)) (by rfl) T.z_isinstance PyProof.Rows.boot_isinstance (pa_cons (pv 0) (pa_cons (pe_bltn (v := .ty "bool") (by rfl) T.z_bool PyProof.Rows.boot_bool rfl) pa_nil))) (pe_one (pe_cmpR (op_eqD hr.units) (pv 0) (pv 1) (nomark _))))))
      pss_nil)
      (pss_cons (ps_if (pt_val (pe_callB (v_isTu (U := "int") (r := false) (by decide +kernel)) (by rfl) T.z_isinstance PyProof.Rows.boot_isinstance (pa_cons (pv 1) (pa_cons (pe_bltn (v := .ty "int") (by rfl) T.z_int PyProof.Rows.boot_int rfl) pa_nil))))
      (pss_one (ps_ret (pe_and (pe_callB (v_isTu (U := "int") (r := false) (by decide +kernel)) (by rfl) T.z_isinstance PyProof.Rows.boot_isinstance (pa_cons (pv 0) (pa_cons (pe_bltn (v := .ty "int") (by rfl) T.z_int PyProof.Rows.boot_int rfl) pa_nil))) (pe_and (pe_not (pe_callB (v_isTu (U := "bool") (r := false) (by decide +kernel)) (by rfl) T.z_isinstance PyProof.Rows.boot_isinstance (pa_cons (pv 0) (pa_cons (pe_bltn (v := .ty "bool") (by rfl) T.z_bool PyProof.Rows.boot_bool rfl) pa_nil)))) (pe_one (pe_cmpR (op_eqD hr.units) (pv 0) (pv 1) (nomark _)))))))
      pss_nil)
      (pss_cons (ps_if (pt_val (pe_callB (v_isTu (U := "str") (r := false) (by decide +kernel)) (by rfl) T.z_isinstance PyProof.Rows.boot_isinstance (pa_cons (pv 1) (pa_cons (pe_bltn (v := .ty "str") (by rfl) T.z_str PyProof.Rows.boot_str rfl) pa_nil))))
      (pss_one (ps_ret (pe_and (pe_callB (v_isTu (U := "str") (r := false) (by decide +kernel)) (by rfl) T.z_isinstance PyProof.Rows.boot_isinstance (pa_cons (pv 0) (pa_cons (pe_bltn (v := .ty "str") (by rfl) T.z_str PyProof.Rows.boot_str rfl) pa_nil))) (pe_one (pe_cmpR (op_eqD hr.units) (pv 0) (pv 1) (nomark _))))))
      pss_nil)
      (pss_cons (ps_if (pt_val (pe_callB v_isTT (by rfl) T.z_isinstance PyProof.Rows.boot_isinstance (pa_cons (pv 1) (pa_cons (pe_bltn (v := .ty "tuple") (by rfl) T.z_tuple PyProof.Rows.boot_tuple rfl) pa_nil))))
      (pss_one (ps_if (pt_not (pt_val (pe_callB v_isTT (by rfl) T.z_isinstance PyProof.Rows.boot_isinstance (pa_cons (pv 0) (pa_cons (pe_bltn (v := .ty "tuple") (by rfl) T.z_tuple PyProof.Rows.boot_tuple rfl) pa_nil)))))
      (pss_one (ps_ret pe_bl))
      pss_nil))
      (pss_one (ps_if (pt_not (pt_val (pe_callB (v_isTu (U := "list") (r := false) (by decide +kernel)) (by rfl) T.z_isinstance PyProof.Rows.boot_isinstance (pa_cons (pv 0) (pa_cons (pe_bltn (v := .ty "list") (by rfl) T.z_list PyProof.Rows.boot_list rfl) pa_nil)))))
      (pss_one (ps_ret pe_bl))
      pss_nil)))
      (pss_cons (ps_if (pt_cmpR op_ne (pe_callB (v_lenT (K := K) rfl) (by rfl) T.z_len PySem.boot_len (pa_cons (pv 0) pa_nil)) (pe_callB (v_lenT (K := K) rfl) (by rfl) T.z_len PySem.boot_len (pa_cons (pv 1) pa_nil)) (nomark _))
      (pss_one (ps_ret pe_bl))
      pss_nil)
      (pss_cons (ps_for PassesOwn.never rfl (pi_range1 rfl T.z_range (pa_cons (pe_callB (v_lenT (K := K) rfl) (by rfl) T.z_len PySem.boot_len (pa_cons (pv 1) pa_nil)) pa_nil)) (pg_name (i := 2) sc_law_same.nd rfl (Or.inl rfl))
      (pss_one (ps_if (pt_not (pt_val (v_call (ok_law_same T) (hr.mono (by decide)) (by rfl) T.g_law_same T.F_law_same.kp T.b_law_same (pa_cons (pe_ix (v_ixT (K := K) rfl) (pv 0) (pv 2) (fun _ _ => rfl)) (pa_cons (pe_ix (v_ixT (K := K) rfl) (pv 1) (pv 2) (fun _ _ => rfl)) pa_nil)))))
      (pss_one (ps_ret pe_bl))
      pss_nil)))
      (pss_one (ps_ret pe_bl))))))))), st_2_1 rfl ?_⟩
    fail "go"
    refine for_range (lo := 0) (n := ((ys.length : Nat) : Int).toNat) (fun i σ H => ∃ x : Option V, σ = [some (.ref t), some (.ref r), x] ∧ Sts H (im τ :: F)) ⟨none, rfl, S⟩ ?_ ?_
    · clear S
      rintro i σ H hi ⟨x, rfl, S⟩
      rw [Int.toNat_natCast] at hi
      obtain ⟨v, hv, _, ev⟩ := at_is hi
      fail "go"
      refine g_ixT (K := K) (by fail "sqT") ev ?_
      fail "go"
      refine g_ixT (K := K) (by fail "sqT") ev ?_
      fail "go"
      refine ⟨v, rfl, hs v hv, ?_⟩
      fail "go"
      exact ⟨_, rfl, S⟩
    · clear S
      rintro σ H ⟨x, rfl, S⟩
      fail "go"
      exact q _ S
namespace B0
theorem ok_law_same (T : Txt P K mg) : FnOk P w K mg base CX0 2 T.f_law_same T.fd_law_same ["told", "due"] spSame1 := same1 T
end B0
def spSame : Sp := fun vs H Q _ => ∃ (v u : V), vs = [v, u] ∧ ((v = u ∧ Sc v ∧ Q (.bl true) H) ∨
  (∃ (t r : Addr) (ys : List V) (τ : Tmap) (F : List Asr), v = .ref t ∧ u = .ref r ∧ Sts H (im τ :: F) ∧ τ t = some ys ∧ τ r = some ys ∧ (∀ y ∈ ys, Sc y) ∧ ys.length ≤ 10 ∧ ∀ H', Sts H' (im τ :: F) → Q (.bl true) H') ∨
  (∃ (a b : Addr) (xs : List V) (τ : Tmap) (F : List Asr), v = .ref a ∧ u = .ref b ∧ Sts H (pto a (.lst xs) :: pto b (.lst xs) :: im τ :: F) ∧ (∀ x ∈ xs, Ct τ x) ∧ xs.length ≤ 100000 ∧ ∀ H', Sts H' (pto a (.lst xs) :: pto b (.lst xs) :: im τ :: F) → Q (.bl true) H'))
open B0 in
theorem same2 (T : Txt P K mg) : FnOk P w K mg base CX0 3 T.f_law_same T.fd_law_same ["told", "due"] spSame := by
  refine T.F_law_same.ok sc_law_same (fun vs H Q E h => by obtain ⟨v, u, rfl, _⟩ := h; rfl) (fun cdv A outer s H vs Q E hr h => ?_)
  obtain ⟨v, u, rfl, ⟨rfl, rfl | ⟨i, rfl⟩ | ⟨z, rfl⟩, q⟩ | ⟨t, r, ys, τ, F, rfl, rfl, S, e1, e2, hs, hl, q⟩ | ⟨a, b, xs, τ, F, rfl, rfl, S, hs, hl, q⟩⟩ := h
  · refine ⟨_, (pss_cons (ps_if (pt_cmpR v_isN (pv 1) pe_non (nomark _))
      (pss_one (ps_ret (pe_cmpR v_isN (pv 0) pe_non (nomark _))))
      pss_nil)
      (pss_cons ps_dead
      (pss_cons ps_dead
      (pss_cons ps_dead
      (pss_cons ps_dead
      (pss_cons ps_dead
      (pss_cons ps_dead
      (pss_one (ps_ret pe_bl))))))))), st_2_1 rfl ?_⟩
    fail "go"
    exact q
  · refine ⟨_, (pss_cons (ps_if (pt_cmpR v_isN (pv 1) pe_non (nomark _))
      (pss_one (ps_ret (pe_cmpR v_isN (pv 0) pe_non (nomark _))))
      pss_nil)
      (pss_cons (ps_if (pt_val (pe_callB v_isIB (by rfl) T.z_isinstance PyProof.Rows.boot_isinstance (pa_cons (pv 1) (pa_cons (pe_bltn (v := .ty "bool") (by rfl) T.z_bool PyProof.Rows.boot_bool rfl) pa_nil))))
      (pss_one (ps_ret (pe_and (pe_callB v_isIB (by rfl) T.z_isinstance PyProof.Rows.boot_isinstance (pa_cons (pv 0) (pa_cons (pe_bltn (v := .ty "bool") (by rfl) T.z_bool PyProof.Rows.boot_bool rfl) pa_nil))) (pe_one (pe_cmpR op_eq (pv 0) (pv 1) (nomark _))))))
      pss_nil)
      (pss_cons (ps_if (pt_val (pe_callB v_isII (by rfl) T.z_isinstance PyProof.Rows.boot_isinstance (pa_cons (pv 1) (pa_cons (pe_bltn (v := .ty "int") (by rfl) T.z_int PyProof.Rows.boot_int rfl) pa_nil))))
      (pss_one (ps_ret (pe_and (pe_callB v_isII (by rfl) T.z_isinstance PyProof.Rows.boot_isinstance (pa_cons (pv 0) (pa_cons (pe_bltn (v := .ty "int") (by rfl) T.z_int PyProof.Rows.boot_int rfl) pa_nil))) (pe_and (pe_not (pe_callB v_isIB (by rfl) T.z_isinstance PyProof.Rows.boot_isinstance (pa_cons (pv 0) (pa_cons (pe_bltn (v := .ty "bool") (by rfl) T.z_bool PyProof.Rows.boot_bool rfl) pa_nil)))) (pe_one (pe_cmpR op_eq (pv 0) (pv 1) (nomark _)))))))
      pss_nil)
      (pss_cons (ps_if (pt_val (pe_callB (v_isIn (U := "str") (r := false) (by decide +kernel)) (by rfl) T.z_isinstance PyProof.Rows.boot_isinstance (pa_cons (pv 1) (pa_cons (pe_bltn (v := .ty "str") (by rfl) T.z_str PyProof.Rows.boot_str rfl) pa_nil))))
      (pss_one (ps_ret (pe_and (pe_callB (v_isIn (U := "str") (r := false) (by decide +kernel)) (by rfl) T.z_isinstance PyProof.Rows.boot_isinstance (pa_cons (pv 0) (pa_cons (pe_bltn (v := .ty "str") (by rfl) T.z_str PyProof.Rows.boot_str rfl) pa_nil))) (pe_one (pe_cmpR op_eq (pv 0) (pv 1) (nomark _))))))
      pss_nil)
      (pss_cons (ps_if (pt_val (pe_callB (v_isIn (U := "tuple") (r := false) (by decide +kernel)) (by rfl) T.z_isinstance PyProof.Rows.boot_isinstance (pa_cons (pv 1) (pa_cons (pe_bltn (v := .ty "tuple") (by rfl) T.z_tuple PyProof.Rows.boot_tuple rfl) pa_nil))))
      (pss_one (ps_if (pt_not (pt_val (pe_callB (v_isIn (U := "tuple") (r := false) (by decide +kernel)) (by rfl) T.z_isinstance PyProof.Rows.boot_isinstance (pa_cons (pv 0) (pa_cons (pe_bltn (v := .ty "tuple") (by rfl) T.z_tuple PyProof.Rows.boot_tuple rfl) pa_nil)))))
      (pss_one (ps_ret pe_bl))
      pss_nil))
      (pss_one (ps_if (pt_not (pt_val (pe_callB (v_isIn (U := "list") (r := false) (by decide +kernel)) (by rfl) T.z_isinstance PyProof.Rows.boot_isinstance (pa_cons (pv 0) (pa_cons (pe_bltn (v := .ty "list") (by rfl) T.z_list PyProof.Rows.boot_list rfl) pa_nil)))))
      (pss_one (ps_ret pe_bl))
      pss_nil)))
      (pss_cons ps_dead
      (pss_cons ps_dead
      (pss_one (ps_ret pe_bl))))))))), st_2_1 rfl ?_⟩
    fail "go"
    rw [decide_eq_true rfl]
    exact q
  · refine ⟨_, (pss_cons (ps_if (pt_cmpR v_isN (pv 1) pe_non (nomark _))
      (pss_one (ps_ret (pe_cmpR v_isN (pv 0) pe_non (nomark _))))
      pss_nil)
      (pss_cons (ps_if (pt_val (pe_callB (v_isS (U := "bool") (r := false) (by decide +kernel)) (by rfl) T.z_isinstance PyProof.Rows.boot_isinstance (pa_cons (pv 1) (pa_cons (pe_bltn (v := .ty "bool") (by rfl) T.z_bool PyProof.Rows.boot_bool rfl) pa_nil))))
      (pss_one (ps_ret (pe_and (pe_callB (v_isS (U := "bool") (r := false) (by decide +kernel)) (by rfl) T.z_isinstance PyProof.Rows.boot_isinstance (pa_cons (pv 0) (pa_cons (pe_bltn (v := .ty "bool") (by rfl) T.z_bool PyProof.Rows.boot_bool rfl) pa_nil))) (pe_one (pe_cmpR op_eq (pv 0) (pv 1) (nomark _))))))
      pss_nil)
      (pss_cons (ps_if (pt_val (pe_callB (v_isS (U := "int") (r := false) (by decide +kernel)) (by rfl) T.z_isinstance PyProof.Rows.boot_isinstance (pa_cons (pv 1) (pa_cons (pe_bltn (v := .ty "int") (by rfl) T.z_int PyProof.Rows.boot_int rfl) pa_nil))))
      (pss_one (ps_ret (pe_and (pe_callB (v_isS (U := "int") (r := false) (by decide +kernel)) (by rfl) T.z_isinstance PyProof.Rows.boot_isinstance (pa_cons (pv 0) (pa_cons (pe_bltn (v := .ty "int") (by rfl) T.z_int PyProof.Rows.boot_int rfl) pa_nil))) (pe_and (pe_not (pe_callB (v_isS (U := "bool") (r := false) (by decide +kernel)) (by rfl) T.z_isinstance PyProof.Rows.boot_isinstance (pa_cons (pv 0) (pa_cons (pe_bltn (v := .ty "bool") (by rfl) T.z_bool PyProof.Rows.boot_bool rfl) pa_nil)))) (pe_one (pe_cmpR op_eq (pv 0) (pv 1) (nomark _)))))))
      pss_nil)
      (pss_cons (ps_if (pt_val (pe_callB (v_isS (U := "str") (r := true) (by decide +kernel)) (by rfl) T.z_isinstance PyProof.Rows.boot_isinstance (pa_cons (pv 1) (pa_cons (pe_bltn (v := .ty "str") (by rfl) T.z_str PyProof.Rows.boot_str rfl) pa_nil))))
      (pss_one (ps_ret (pe_and (pe_callB (v_isS (U := "str") (r := true) (by decide +kernel)) (by rfl) T.z_isinstance PyProof.Rows.boot_isinstance (pa_cons (pv 0) (pa_cons (pe_bltn (v := .ty "str") (by rfl) T.z_str PyProof.Rows.boot_str rfl) pa_nil))) (pe_one (pe_cmpR op_eq (pv 0) (pv 1) (nomark _))))))
      pss_nil)
      (pss_cons (ps_if (pt_val (pe_callB (v_isS (U := "tuple") (r := false) (by decide +kernel)) (by rfl) T.z_isinstance PyProof.Rows.boot_isinstance (pa_cons (pv 1) (pa_cons (pe_bltn (v := .ty "tuple") (by rfl) T.z_tuple PyProof.Rows.boot_tuple rfl) pa_nil))))
      (pss_one (ps_if (pt_not (pt_val (pe_callB (v_isS (U := "tuple") (r := false) (by decide +kernel)) (by rfl) T.z_isinstance PyProof.Rows.boot_isinstance (pa_cons (pv 0) (pa_cons (pe_bltn (v := .ty "tuple") (by rfl) T.z_tuple PyProof.Rows.boot_tuple rfl) pa_nil)))))
      (pss_one (ps_ret pe_bl))
      pss_nil))
      (pss_one (ps_if (pt_not (pt_val (pe_callB (v_isS (U := "list") (r := false) (by decide +kernel)) (by rfl) T.z_isinstance PyProof.Rows.boot_isinstance (pa_cons (pv 0) (pa_cons (pe_bltn (v := .ty "list") (by rfl) T.z_list PyProof.Rows.boot_list rfl) pa_nil)))))
      (pss_one (ps_ret pe_bl))
      pss_nil)))
      (pss_cons (ps_if (pt_cmpR op_ne (pe_callB call_len_str (by rfl) T.z_len PySem.boot_len (pa_cons (pv 0) pa_nil)) (pe_callB call_len_str (by rfl) T.z_len PySem.boot_len (pa_cons (pv 1) pa_nil)) (nomark _))
      (pss_one (ps_ret pe_bl))
      pss_nil)
      (pss_cons (ps_for PassesOwn.never rfl (pi_range1 rfl T.z_range (pa_cons (pe_callB call_len_str (by rfl) T.z_len PySem.boot_len (pa_cons (pv 1) pa_nil)) pa_nil)) (pg_name (i := 2) sc_law_same.nd rfl (Or.inl rfl))
      (pss_one (ps_if (pt_not (pt_val (v_call (ok_law_same T) (hr.mono (by decide)) (by rfl) T.g_law_same T.F_law_same.kp T.b_law_same (pa_cons (pe_ix ix_str (pv 0) (pv 2) (fun _ _ => rfl)) (pa_cons (pe_ix ix_str (pv 1) (pv 2) (fun _ _ => rfl)) pa_nil)))))
      (pss_one (ps_ret pe_bl))
      pss_nil)))
      (pss_one (ps_ret pe_bl))))))))), st_2_1 rfl ?_⟩
    fail "go"
    refine ifF (decide_eq_false (fun h => nomatch h)) ?_
    fail "go"
    rw [decide_eq_true rfl]
    exact q
  · refine ⟨_, (pss_cons (ps_if (pt_cmpR v_isN (pv 1) pe_non (nomark _))
      (pss_one (ps_ret (pe_cmpR v_isN (pv 0) pe_non (nomark _))))
      pss_nil)
      (pss_cons (ps_if (pt_val (pe_callB (v_isTu (U := "bool") (r := false) (by decide +kernel)) (by rfl) T.z_isinstance PyProof.Rows.boot_isinstance (pa_cons (pv 1) (pa_cons (pe_bltn (v := .ty "bool") (by rfl) T.z_bool PyProof.Rows.boot_bool rfl) pa_nil))))
      (pss_one (ps_ret (pe_and (pe_callB (v_isTu (U := "bool") (r := false) (by decide +kernel)) (by rfl) T.z_isinstance PyProof.Rows.boot_isinstance (pa_cons (pv 0) (pa_cons (pe_bltn (v := .ty "bool") (by rfl) T.z_bool PyProof.Rows.boot_bool rfl) pa_nil))) (pe_one (pe_cmpR (op_eqD hr.units) (pv 0) (pv 1) (nomark _))))))
      pss_nil)
      (pss_cons (ps_if (pt_val (pe_callB (v_isTu (U := "int") (r := false) (by decide +kernel)) (by rfl) T.z_isinstance PyProof.Rows.boot_isinstance (pa_cons (pv 1) (pa_cons (pe_bltn (v := .ty "int") (by rfl) T.z_int PyProof.Rows.boot_int rfl) pa_nil))))
      (pss_one (ps_ret (pe_and (pe_callB (v_isTu (U := "int") (r := false) (by decide +kernel)) (by rfl) T.z_isinstance PyProof.Rows.boot_isinstance (pa_cons (pv 0) (pa_cons (pe_bltn (v := .ty "int") (by rfl) T.z_int PyProof.Rows.boot_int rfl) pa_nil))) (pe_and (pe_not (pe_callB (v_isTu (U := "bool") (r := false) (by decide +kernel)) (by rfl) T.z_isinstance PyProof.Rows.boot_isinstance (pa_cons (pv 0) (pa_cons (pe_bltn (v := .ty "bool") (by rfl) T.z_bool PyProof.Rows.boot_bool rfl) pa_nil)))) (pe_one (pe_cmpR (op_eqD hr.units) (pv 0) (pv 1) (nomark _)))))))
      pss_nil)
      (pss_cons (ps_if (pt_val (pe_callB (v_isTu (U := "str") (r := false) (by decide +kernel)) (by rfl) T.z_isinstance PyProof.Rows.boot_isinstance (pa_cons (pv 1) (pa_cons (pe_bltn (v := .ty "str") (by rfl) T.z_str PyProof.Rows.boot_str rfl) pa_nil))))
      (pss_one (ps_ret (pe_and (pe_callB (v_isTu (U := "str") (r := false) (by decide +kernel)) (by rfl) T.z_isinstance PyProof.Rows.boot_isinstance (pa_cons (pv 0) (pa_cons (pe_bltn (v := .ty "str") (by rfl) T.z_str PyProof.Rows.boot_str rfl) pa_nil))) (pe_one (pe_cmpR (op_eqD hr.units) (pv 0) (pv 1) (nomark _))))))
      pss_nil)
      (pss_cons (ps_if (pt_val (pe_callB v_isTT (by rfl) T.z_isinstance PyProof.Rows.boot_isinstance (pa_cons (pv 1) (pa_cons (pe_bltn (v := .ty "tuple") (by rfl) T.z_tuple PyProof.Rows.boot_tuple rfl) pa_nil))))
      (pss_one (ps_if (pt_not (pt_val (pe_callB v_isTT (by rfl) T.z_isinstance PyProof.Rows.boot_isinstance (pa_cons (pv 0) (pa_cons (pe_bltn (v := .ty "tuple") (by rfl) T.z_tuple PyProof.Rows.boot_tuple rfl) pa_nil)))))
      (pss_one (ps_ret pe_bl))
      pss_nil))
      (pss_one (ps_if (pt_not (pt_val (pe_callB (v_isTu (U := "list") (r := false) (by decide +kernel)) (by rfl) T.z_isinstance PyProof.Rows.boot_isinstance (pa_cons (pv 0) (pa_cons (pe_bltn (v := .ty "list") (by rfl) T.z_list PyProof.Rows.boot_list rfl) pa_nil)))))
      (pss_one (ps_ret pe_bl))
      pss_nil)))
      (pss_cons (ps_if (pt_cmpR op_ne (pe_callB (v_lenT (K := K) rfl) (by rfl) T.z_len PySem.boot_len (pa_cons (pv 0) pa_nil)) (pe_callB (v_lenT (K := K) rfl) (by rfl) T.z_len PySem.boot_len (pa_cons (pv 1) pa_nil)) (nomark _))
      (pss_one (ps_ret pe_bl))
      pss_nil)
      (pss_cons (ps_for PassesOwn.never rfl (pi_range1 rfl T.z_range (pa_cons (pe_callB (v_lenT (K := K) rfl) (by rfl) T.z_len PySem.boot_len (pa_cons (pv 1) pa_nil)) pa_nil)) (pg_name (i := 2) sc_law_same.nd rfl (Or.inl rfl))
      (pss_one (ps_if (pt_not (pt_val (v_call (ok_law_same T) (hr.mono (by decide)) (by rfl) T.g_law_same T.F_law_same.kp T.b_law_same (pa_cons (pe_ix (v_ixT (K := K) rfl) (pv 0) (pv 2) (fun _ _ => rfl)) (pa_cons (pe_ix (v_ixT (K := K) rfl) (pv 1) (pv 2) (fun _ _ => rfl)) pa_nil)))))
      (pss_one (ps_ret pe_bl))
      pss_nil)))
      (pss_one (ps_ret pe_bl))))))))), st_2_1 rfl ?_⟩
    fail "go"
    refine for_range (lo := 0) (n := ((ys.length : Nat) : Int).toNat) (fun i σ H => ∃ x : Option V, σ = [some (.ref t), some (.ref r), x] ∧ Sts H (im τ :: F)) ⟨none, rfl, S⟩ ?_ ?_
    · clear S
      rintro i σ H hi ⟨x, rfl, S⟩
      rw [Int.toNat_natCast] at hi
      obtain ⟨v, hv, _, ev⟩ := at_is hi
      fail "go"
      refine g_ixT (K := K) (by fail "sqT") ev ?_
      fail "go"
      refine g_ixT (K := K) (by fail "sqT") ev ?_
      fail "go"
      refine ⟨v, v, rfl, .inl ⟨rfl, hs v hv, ?_⟩⟩
      fail "go"
      exact ⟨_, rfl, S⟩
    · clear S
      rintro σ H ⟨x, rfl, S⟩
      fail "go"
      exact q _ S
  · refine ⟨_, (pss_cons (ps_if (pt_cmpR v_isN (pv 1) pe_non (nomark _))
      (pss_one (ps_ret (pe_cmpR v_isN (pv 0) pe_non (nomark _))))
      pss_nil)
      (pss_cons (ps_if (pt_val (pe_callB (v_isLi (U := "bool") (r := false) (by decide +kernel)) (by rfl) T.z_isinstance PyProof.Rows.boot_isinstance (pa_cons (pv 1) (pa_cons (pe_bltn (v := .ty "bool") (by rfl) T.z_bool PyProof.Rows.boot_bool rfl) pa_nil))))
      (pss_one (ps_ret (pe_and (pe_callB (v_isLi (U := "bool") (r := false) (by decide +kernel)) (by rfl) T.z_isinstance PyProof.Rows.boot_isinstance (pa_cons (pv 0) (pa_cons (pe_bltn (v := .ty "bool") (by rfl) T.z_bool PyProof.Rows.boot_bool rfl) pa_nil))) (pe_one (pe_cmpR (v_eqIs (K := K) rfl hr.units) (pv 0) (pv 1) (nomark _))))))
      pss_nil)
      (pss_cons (ps_if (pt_val (pe_callB (v_isLi (U := "int") (r := false) (by decide +kernel)) (by rfl) T.z_isinstance PyProof.Rows.boot_isinstance (pa_cons (pv 1) (pa_cons (pe_bltn (v := .ty "int") (by rfl) T.z_int PyProof.Rows.boot_int rfl) pa_nil))))
      (pss_one (ps_ret (pe_and (pe_callB (v_isLi (U := "int") (r := false) (by decide +kernel)) (by rfl) T.z_isinstance PyProof.Rows.boot_isinstance (pa_cons (pv 0) (pa_cons (pe_bltn (v := .ty "int") (by rfl) T.z_int PyProof.Rows.boot_int rfl) pa_nil))) (pe_and (pe_not (pe_callB (v_isLi (U := "bool") (r := false) (by decide +kernel)) (by rfl) T.z_isinstance PyProof.Rows.boot_isinstance (pa_cons (pv 0) (pa_cons (pe_bltn (v := .ty "bool") (by rfl) T.z_bool PyProof.Rows.boot_bool rfl) pa_nil)))) (pe_one (pe_cmpR (v_eqIs (K := K) rfl hr.units) (pv 0) (pv 1) (nomark _)))))))
      pss_nil)
      (pss_cons (ps_if (pt_val (pe_callB (v_isLi (U := "str") (r := false) (by decide +kernel)) (by rfl) T.z_isinstance PyProof.Rows.boot_isinstance (pa_cons (pv 1) (pa_cons (pe_bltn (v := .ty "str") (by rfl) T.z_str PyProof.Rows.boot_str rfl) pa_nil))))
      (pss_one (ps_ret (pe_and (pe_callB (v_isLi (U := "str") (r := false) (by decide +kernel)) (by rfl) T.z_isinstance PyProof.Rows.boot_isinstance (pa_cons (pv 0) (pa_cons (pe_bltn (v := .ty "str") (by rfl) T.z_str PyProof.Rows.boot_str rfl) pa_nil))) (pe_one (pe_cmpR (v_eqIs (K := K) rfl hr.units) (pv 0) (pv 1) (nomark _))))))
      pss_nil)
      (pss_cons (ps_if (pt_val (pe_callB (v_isLi (U := "tuple") (r := false) (by decide +kernel)) (by rfl) T.z_isinstance PyProof.Rows.boot_isinstance (pa_cons (pv 1) (pa_cons (pe_bltn (v := .ty "tuple") (by rfl) T.z_tuple PyProof.Rows.boot_tuple rfl) pa_nil))))
      (pss_one (ps_if (pt_not (pt_val (pe_callB (v_isLi (U := "tuple") (r := false) (by decide +kernel)) (by rfl) T.z_isinstance PyProof.Rows.boot_isinstance (pa_cons (pv 0) (pa_cons (pe_bltn (v := .ty "tuple") (by rfl) T.z_tuple PyProof.Rows.boot_tuple rfl) pa_nil)))))
      (pss_one (ps_ret pe_bl))
      pss_nil))
      (pss_one (ps_if (pt_not (pt_val (pe_callB v_isLL (by rfl) T.z_isinstance PyProof.Rows.boot_isinstance (pa_cons (pv 0) (pa_cons (pe_bltn (v := .ty "list") (by rfl) T.z_list PyProof.Rows.boot_list rfl) pa_nil)))))
      (pss_one (ps_ret pe_bl))
      pss_nil)))
      (pss_cons (ps_if (pt_cmpR op_ne (pe_callB (v_len (K := K) rfl) (by rfl) T.z_len PySem.boot_len (pa_cons (pv 0) pa_nil)) (pe_callB (v_len (K := K) rfl) (by rfl) T.z_len PySem.boot_len (pa_cons (pv 1) pa_nil)) (nomark _))
      (pss_one (ps_ret pe_bl))
      pss_nil)
      (pss_cons (ps_for PassesOwn.never rfl (pi_range1 rfl T.z_range (pa_cons (pe_callB (v_len (K := K) rfl) (by rfl) T.z_len PySem.boot_len (pa_cons (pv 1) pa_nil)) pa_nil)) (pg_name (i := 2) sc_law_same.nd rfl (Or.inl rfl))
      (pss_one (ps_if (pt_not (pt_val (v_call (ok_law_same T) (hr.mono (by decide)) (by rfl) T.g_law_same T.F_law_same.kp T.b_law_same (pa_cons (pe_ix (v_ix (K := K) rfl) (pv 0) (pv 2) (fun _ _ => rfl)) (pa_cons (pe_ix (v_ix (K := K) rfl) (pv 1) (pv 2) (fun _ _ => rfl)) pa_nil)))))
      (pss_one (ps_ret pe_bl))
      pss_nil)))
      (pss_one (ps_ret pe_bl))))))))), st_2_1 rfl ?_⟩
    fail "go"
    refine for_range (lo := 0) (n := ((xs.length : Nat) : Int).toNat) (fun i σ H => ∃ x : Option V, σ = [some (.ref a), some (.ref b), x] ∧ Sts H (pto a (.lst xs) :: pto b (.lst xs) :: im τ :: F)) ⟨none, rfl, S⟩ ?_ ?_
    · clear S
      rintro i σ H hi ⟨x, rfl, S⟩
      rw [Int.toNat_natCast] at hi
      obtain ⟨v, hv, _, ev⟩ := at_is hi
      fail "go"
      refine g_ix (K := K) (by fail "sq") ev ?_
      fail "go"
      refine g_ix (K := K) (by fail "sq") ev ?_
      fail "go"
      rcases hs v hv with h | ⟨t, ys, rfl, et, hy, hyl⟩
      · refine ⟨v, v, rfl, .inl ⟨rfl, h, ?_⟩⟩
        fail "go"
        exact ⟨_, rfl, S⟩
      · refine ⟨_, _, rfl, .inr ⟨t, t, ys, τ, _, rfl, rfl, (show Sts H (im τ :: pto a (.lst xs) :: pto b (.lst xs) :: F) by fail "fp"), et, et, hy, hyl, fun H2 S2 => ?_⟩⟩
        clear S
        fail "go"
        exact ⟨_, rfl, by fail "fp"⟩
    · clear S
      rintro σ H ⟨x, rfl, S⟩
      fail "go"
      exact q _ S
theorem ok_law_same (T : Txt P K mg) : FnOk P w K mg base CX0 3 T.f_law_same T.fd_law_same ["told", "due"] spSame := same2 T

--PART
/-! ### drawn contents -/
def spText : Sp := fun vs H Q _ => ∃ (p : Addr) (F : List Asr), vs = [.ref p] ∧ Sts H (pool p :: F) ∧ ∀ (z : Str) (H' : Hp), Sts H' (pool p :: F) → Q (.str z) H'
theorem ok_law_text (T : Txt P K mg) : FnOk P w K mg base CX0 2 T.f_law_text T.fd_law_text ["pool"] spText := by
  refine T.F_law_text.ok sc_law_text (fun vs H Q E h => by obtain ⟨p, F, rfl, _⟩ := h; rfl) (fun cdv A outer s H vs Q E hr h => ?_)
  obtain ⟨p, F, rfl, S, q⟩ := h
  refine ⟨_, (pss_cons (ps_set (i := 1) sc_law_text.nd rfl (Or.inr rfl) pe_str)
      (pss_cons (ps_set (i := 1) sc_law_text.nd rfl (Or.inr rfl) (pe_op v_addS (pv 1) pe_str))
      (pss_one (ps_ret (pe_join pe_str (pe_lc (own := [("k", 2)]) (g := gName 2) (tt := tYes) rfl sc_law_text.nd (pi_range1 rfl T.z_range (pa_cons (v_call (ok_law_draw T) (hr.mono (by decide)) (by rfl) T.g_law_draw T.F_law_draw.kp T.b_law_draw (pa_cons (pv 0) (pa_cons pe_int pa_nil))) pa_nil)) (blkOk_by (own := [("k", 2)]) (N := ["pool", "letters", "k"]) (sc := defScope s_law_text) (by decide +kernel)) (fun _ _ _ _ _ => (pg_name (i := 2) sc_law_text.nd rfl (Or.inl rfl))) (fun _ _ _ _ _ => pts_nil) (fun _ _ _ _ _ => (pe_ix ix_str (pv 1) (v_call (ok_law_draw T) (hr.mono (by decide)) (by rfl) T.g_law_draw T.F_law_draw.kp T.b_law_draw (pa_cons (pv 0) (pa_cons (pe_callB call_len_str (by rfl) T.z_len PySem.boot_len (pa_cons (pv 1) pa_nil)) pa_nil))) (fun _ _ => rfl))))))))), st_1_2 rfl ?_⟩
  fail "go"
  refine g_addS (by decide +kernel) ?_
  have hN : 0 < ((" !\"#$&'()*+,-./0123456789:;<=>?@ABCDEFGHIJKLMNOPQRSTUVWXYZ[\\]^_`" : Str) ++ ("abcdefghijklmnopqrstuvwxyz{|}~" : Str)).length ∧ ((" !\"#$&'()*+,-./0123456789:;<=>?@ABCDEFGHIJKLMNOPQRSTUVWXYZ[\\]^_`" : Str) ++ ("abcdefghijklmnopqrstuvwxyz{|}~" : Str)).length ≤ 1000 := by decide +kernel
  generalize ((" !\"#$&'()*+,-./0123456789:;<=>?@ABCDEFGHIJKLMNOPQRSTUVWXYZ[\\]^_`" : Str) ++ ("abcdefghijklmnopqrstuvwxyz{|}~" : Str)) = Lz at hN ⊢
  fail "go"
  refine ⟨⟨_, rfl⟩, ?_⟩
  fail "go"
  rename_i m H1 m0 m1 S1 D H2 S2
  clear S S1
  refine oc_lcR (lo := 0) (n := m.toNat) (fun i H => ∃ zs : List Str, zs.length = i ∧ (∀ z ∈ zs, z.length = 1) ∧ Sts H (pto D (.lst (zs.map V.str)) :: pool p :: F)) ⟨[], rfl, (fun _ h => nomatch h), S2⟩ ?_ ?_
  · clear S2
    rintro i H hi ⟨zs, hl, hz, S⟩
    fail "go"
    refine ⟨Lz, rfl, small' (by omega), ?_⟩
    fail "go"
    rename_i d H3 d0 d1 S3
    have hd : d.toNat < Lz.cps.toList.length := by
      have e : Lz.cps.toList.length = Lz.length := by simp [Str.length]
      omega
    refine ⟨Lz, d, Lz.cps.toList[d.toNat], rfl, rfl, small' (by omega), ?_, ?_⟩
    · unfold atI ixN
      rw [if_pos d0, if_pos (by omega)]
      exact List.getElem?_eq_getElem hd
    · have S4 : Sts H3 (pto D (.lst (zs.map V.str)) :: pool p :: F) := by fail "fp"
      refine ⟨_, S4.hd, small (by rw [List.length_map]; omega), zs ++ [⟨#[Lz.cps.toList[d.toNat]]⟩], by rw [List.length_append, hl]; rfl, fun z h => ?_, ?_⟩
      · rcases List.mem_append.mp h with h | h
        · exact hz z h
        · rw [List.mem_singleton.mp h]
          rfl
      · rw [List.map_append]
        exact S4.put _
  · clear S2
    rintro H ⟨zs, hl, hz, S⟩
    have sum : (zs.map (·.length)).sum = zs.length := by
      clear hl S
      induction zs with
      | nil => rfl
      | cons z zs ih =>
        rw [List.map_cons, List.sum_cons, ih fun x hx => hz x (List.mem_cons_of_mem _ hx), hz z List.mem_cons_self, List.length_cons]
        omega
    have z0 : (Str.ofString "").length = 0 := by decide +kernel
    refine ⟨_, D, zs, rfl, rfl, .inl (by fail "sq"), ?_, q _ _ (by fail "fp")⟩
    rw [sum, z0]
    omega
local macro_rules | `(tactic| fail "gs") => `(tactic| ((with_reducible show K19.spText _ _ _ _); refine ⟨_, _, rfl, K19.gP (by fail "fr1"), fun (oz : PySem.Str) (oh : L2.Hp) os => ?_⟩))
def spPlain : Sp := fun vs H Q _ => ∃ (p : Addr) (F : List Asr), vs = [.ref p] ∧ Sts H (pool p :: F) ∧ ∀ (v : V) (H' : Hp), Sc v → Sts H' (pool p :: F) → Q v H'
theorem ok_law_plain (T : Txt P K mg) : FnOk P w K mg base CX0 3 T.f_law_plain T.fd_law_plain ["pool"] spPlain := by
  refine T.F_law_plain.ok sc_law_plain (fun vs H Q E h => by obtain ⟨p, F, rfl, _⟩ := h; rfl) (fun cdv A outer s H vs Q E hr h => ?_)
  obtain ⟨p, F, rfl, S, q⟩ := h
  refine ⟨_, (pss_cons (ps_set (i := 1) sc_law_plain.nd rfl (Or.inl rfl) (v_call (ok_law_draw T) (hr.mono (by decide)) (by rfl) T.g_law_draw T.F_law_draw.kp T.b_law_draw (pa_cons (pv 0) (pa_cons pe_int pa_nil))))
      (pss_cons (ps_if (pt_cmpR op_eq (pv 1) pe_int (nomark _))
      (pss_one (ps_ret pe_non))
      pss_nil)
      (pss_cons (ps_if (pt_cmpR op_eq (pv 1) pe_int (nomark _))
      (pss_one (ps_ret (pe_op op_sub (v_call (ok_law_draw T) (hr.mono (by decide)) (by rfl) T.g_law_draw T.F_law_draw.kp T.b_law_draw (pa_cons (pv 0) (pa_cons pe_int pa_nil))) pe_int)))
      pss_nil)
      (pss_cons (ps_if (pt_cmpR op_eq (pv 1) pe_int (nomark _))
      (pss_one (ps_ret (v_call (ok_law_text T) (hr.mono (by decide)) (by rfl) T.g_law_text T.F_law_text.kp T.b_law_text (pa_cons (pv 0) pa_nil))))
      pss_nil)
      (pss_one (ps_ret (pe_op op_sub (v_call (ok_law_draw T) (hr.mono (by decide)) (by rfl) T.g_law_draw T.F_law_draw.kp T.b_law_draw (pa_cons (pv 0) (pa_cons (pe_op (v_powc 10 20 100000000000000000000 ⟨by decide, by decide, by decide⟩ (by decide +kernel)) pe_int pe_int) pa_nil))) (pe_op (v_powc 10 19 10000000000000000000 ⟨by decide, by decide, by decide⟩ (by decide +kernel)) pe_int pe_int)))))))), st_1_1 rfl ?_⟩
  fail "go"
  with_reducible refine ifB (fun c1 => ?_) (fun c1 => ?_)
  · fail "go"
    exact q _ _ (.inl rfl) (by fail "fp")
  · fail "go"
    with_reducible refine ifB (fun c2 => ?_) (fun c2 => ?_)
    · fail "go"
      exact q _ _ (.inr (.inl ⟨_, rfl⟩)) (by fail "fp")
    · fail "go"
      with_reducible refine ifB (fun c3 => ?_) (fun c3 => ?_)
      · fail "go"
        exact q _ _ (.inr (.inr ⟨_, rfl⟩)) (by fail "fp")
      · fail "go"
        exact q _ _ (.inr (.inl ⟨_, rfl⟩)) (by fail "fp")
local macro_rules | `(tactic| fail "gs") => `(tactic| ((with_reducible show K19.spPlain _ _ _ _); refine ⟨_, _, rfl, K19.gP (by fail "fr1"), fun (ov : L2.V) (oh : L2.Hp) oc os => ?_⟩))
def spContent : Sp := fun vs H Q _ => ∃ (p : Addr) (τ : Tmap) (F : List Asr), vs = [.ref p] ∧ Sts H (pool p :: im τ :: F) ∧ ∀ (v : V) (υ : Tmap) (H' : Hp), Le τ υ → Ct υ v → Sts H' (pool p :: im υ :: F) → Q v H'
theorem ok_law_content (T : Txt P K mg) : FnOk P w K mg base CX0 4 T.f_law_content T.fd_law_content ["pool"] spContent := by
  refine T.F_law_content.ok sc_law_content (fun vs H Q E h => by obtain ⟨p, τ, F, rfl, _⟩ := h; rfl) (fun cdv A outer s H vs Q E hr h => ?_)
  obtain ⟨p, τ, F, rfl, S, q⟩ := h
  refine ⟨_, (pss_cons (ps_if (pt_cmpR op_eq (v_call (ok_law_draw T) (hr.mono (by decide)) (by rfl) T.g_law_draw T.F_law_draw.kp T.b_law_draw (pa_cons (pv 0) (pa_cons pe_int pa_nil))) pe_int (nomark _))
      (pss_one (ps_ret (pe_callTy (v_tuple (K := K) rfl) (by rfl) T.z_tuple PyProof.Rows.boot_tuple (pa_cons (pe_lc (own := [("k", 1)]) (g := gName 1) (tt := tYes) rfl sc_law_content.nd (pi_range1 rfl T.z_range (pa_cons (v_call (ok_law_draw T) (hr.mono (by decide)) (by rfl) T.g_law_draw T.F_law_draw.kp T.b_law_draw (pa_cons (pv 0) (pa_cons pe_int pa_nil))) pa_nil)) (blkOk_by (own := [("k", 1)]) (N := ["pool", "k"]) (sc := defScope s_law_content) (by decide +kernel)) (fun _ _ _ _ _ => (pg_name (i := 1) sc_law_content.nd rfl (Or.inl rfl))) (fun _ _ _ _ _ => pts_nil) (fun _ _ _ _ _ => (v_call (ok_law_plain T) (hr.mono (by decide)) (by rfl) T.g_law_plain T.F_law_plain.kp T.b_law_plain (pa_cons (pv 0) pa_nil)))) pa_nil))))
      pss_nil)
      (pss_one (ps_ret (v_call (ok_law_plain T) (hr.mono (by decide)) (by rfl) T.g_law_plain T.F_law_plain.kp T.b_law_plain (pa_cons (pv 0) pa_nil))))), st_1_1 rfl ?_⟩
  fail "go"
  with_reducible refine ifB (fun c1 => ?_) (fun c1 => ?_)
  · fail "go"
    rename_i d0 H1 d01 d02 S1 m H2 m0 m1 S2 D H3 S3
    clear S S1 S2
    refine oc_lcR (lo := 0) (n := m.toNat) (fun i H => ∃ ys : List V, ys.length = i ∧ (∀ y ∈ ys, Sc y) ∧ Sts H (pto D (.lst ys) :: pool p :: im τ :: F)) ⟨[], rfl, (fun _ h => nomatch h), S3⟩ ?_ ?_
    · clear S3
      rintro i H hi ⟨ys, hl, hs, S⟩
      fail "go"
      rename_i v H4 hv S4
      have S5 : Sts H4 (pto D (.lst ys) :: pool p :: im τ :: F) := by fail "fp"
      refine ⟨_, S5.hd, small (by omega), ys ++ [v], by rw [List.length_append, hl]; rfl, fun y hy => ?_, S5.put _⟩
      rcases List.mem_append.mp hy with h | h
      · exact hs y h
      · rw [List.mem_singleton.mp h]
        exact hv
    · clear S3
      rintro H ⟨ys, hl, hs, S⟩
      fail "go"
      rename_i t H4 υ l1 e1 S4
      exact q _ υ _ l1 (.inr ⟨t, ys, rfl, e1, hs, by omega⟩) (by fail "fp")
  · fail "go"
    exact q _ τ _ (Le.refl _) (.inl (by assumption)) (by fail "fp")
local macro_rules | `(tactic| fail "gs") => `(tactic| ((with_reducible show K19.spContent _ _ _ _); refine ⟨_, _, _, rfl, (by fail "fr2"), fun (ov : L2.V) (oυ : Oc.Tmap) (oh : L2.Hp) ol oc os => ?_⟩))

--PART
/-! ### what is refused -/
def spRefusal (cS cI : Addr) (cls : Value) (d : Option Addr) : Sp := fun vs H Q _ => ∃ (p dd : Addr) (i : Int) (τ : Tmap) (F : List Asr), vs = [.ref p] ∧ d = some dd ∧
  ((cls = .ref cS ∧ Sts H (pto dd (.xd [("writes", .int i)]) :: im τ :: F) ∧ ∀ (t : Addr) (υ : Tmap) (H' : Hp), Le τ υ → υ t = some [.str "refused", .str "Stopped", .int i] → Sts H' (im υ :: F) → Q (.ref t) H') ∨
  (cls = .ref cI ∧ Sts H (pto dd (.xd [("allowed", .int i)]) :: im τ :: F) ∧ ∀ (t : Addr) (υ : Tmap) (H' : Hp), Le τ υ → υ t = some [.str "refused", .str "InvalidAllowance", .int i] → Sts H' (im υ :: F) → Q (.ref t) H'))
theorem okE_law_refusal (T : Txt P K mg) : FnE P w K mg base CX0 1 T.f_law_refusal T.fd_law_refusal ["raised"] (spRefusal T.c_Stopped T.c_InvalidAllowance) := by
  refine okE T.F_law_refusal sc_law_refusal (fun cls d vs H Q E h => by obtain ⟨p, dd, i, τ, F, rfl, _⟩ := h; rfl) (fun cdv A outer s H vs Q E p cls d hot hz hv hr h => ?_)
  obtain ⟨p2, dd, i, τ, F, rfl, rfl, hc⟩ := h
  obtain rfl : p2 = p.1 := by
    have z := Option.some.inj hv
    cases z
    rfl
  rcases hc with ⟨rfl, S, q⟩ | ⟨rfl, S, q⟩
  · refine ⟨_, (pss_cons (ps_set (i := 1) sc_law_refusal.nd rfl (Or.inl rfl) (pe_lst (pa_cons (pe_callB (v_isP (p := p) (c := (.ref T.c_Stopped)) (List.mem_singleton_self p) T.xc_Stopped hz.zc (hotF hot) T.ki_Stopped_Stopped (fun _ r => r)) (by rfl) T.z_isinstance PyProof.Rows.boot_isinstance (pa_cons (pv 0) (pa_cons (pe_glob (v := .ref T.c_Stopped) (by rfl) T.gc_Stopped rfl) pa_nil))) (pa_cons (pe_callB (v_isP (p := p) (c := (.ref T.c_InvalidAllowance)) (List.mem_singleton_self p) T.xc_Stopped hz.zc (hotF hot) T.ki_Stopped_InvalidAllowance (fun _ r => r)) (by rfl) T.z_isinstance PyProof.Rows.boot_isinstance (pa_cons (pv 0) (pa_cons (pe_glob (v := .ref T.c_InvalidAllowance) (by rfl) T.gc_InvalidAllowance rfl) pa_nil))) pa_nil))))
      (pss_cons (ps_set (i := 1) sc_law_refusal.nd rfl (Or.inl rfl) (pe_op op_cat (pv 1) (pe_lst (pa_cons (pe_callB (v_isP (p := p) (c := (.ty "ValueError")) (List.mem_singleton_self p) T.xc_Stopped hz.zc (hotF hot) T.ki_Stopped_ValueError (fun _ r => r)) (by rfl) T.z_isinstance PyProof.Rows.boot_isinstance (pa_cons (pv 0) (pa_cons (pe_bltn (v := .ty "ValueError") (by rfl) T.z_ValueError PyProof.Rows.Boot.«ValueError» rfl) pa_nil))) pa_nil))))
      (pss_cons (ps_if (pt_cmpR (op_eqD hr.units) (pv 1) (pe_lst (pa_cons pe_bl (pa_cons pe_bl (pa_cons pe_bl pa_nil)))) (nomark _))
      (pss_one (ps_ret (pe_tup (pa_cons pe_str (pa_cons pe_str (pa_cons (oc_xfP (List.mem_singleton_self p) T.xf_Stopped T.nx_Stopped_writes hz.zc (hotF hot) (pv 0)) pa_nil))))))
      pss_nil)
      (pss_cons (ps_if (pt_cmpR (op_eqD hr.units) (pv 1) (pe_lst (pa_cons pe_bl (pa_cons pe_bl (pa_cons pe_bl pa_nil)))) (nomark _))
      (pss_one ps_dead)
      pss_nil)
      (pss_one (ps_ret (pe_tup (pa_cons pe_str (pa_cons pe_str (pa_cons pe_non pa_nil)))))))))), st_1_1 rfl ?_⟩
    fail "go"
    rename_i a H1 S1 b H2 S2
    refine ⟨a, b, [.bl true, .bl false], [.bl true], rfl, rfl, S2.tail.hd, S2.hd, small' (by simp), fun c np => ?_⟩
    have S3 := S2.new (.lst [.bl true, .bl false, .bl true]) np
    show gName _ _ _ (upd H2 c (.lst [.bl true, .bl false, .bl true])) _
    fail "go"
    rename_i e H3 S4
    refine g_eqBs [true, false, true] [true, false, true] (SqL.of S4.tail.hd) (SqL.of S4.hd) ?_
    rw [decide_eq_true rfl]
    fail "go"
    rename_i t H4 υ l1 e1 S5
    exact q t υ _ l1 e1 (by fail "fp")
  · refine ⟨_, (pss_cons (ps_set (i := 1) sc_law_refusal.nd rfl (Or.inl rfl) (pe_lst (pa_cons (pe_callB (v_isP (p := p) (c := (.ref T.c_Stopped)) (List.mem_singleton_self p) T.xc_InvalidAllowance hz.zc (hotF hot) T.ki_InvalidAllowance_Stopped (fun _ r => r)) (by rfl) T.z_isinstance PyProof.Rows.boot_isinstance (pa_cons (pv 0) (pa_cons (pe_glob (v := .ref T.c_Stopped) (by rfl) T.gc_Stopped rfl) pa_nil))) (pa_cons (pe_callB (v_isP (p := p) (c := (.ref T.c_InvalidAllowance)) (List.mem_singleton_self p) T.xc_InvalidAllowance hz.zc (hotF hot) T.ki_InvalidAllowance_InvalidAllowance (fun _ r => r)) (by rfl) T.z_isinstance PyProof.Rows.boot_isinstance (pa_cons (pv 0) (pa_cons (pe_glob (v := .ref T.c_InvalidAllowance) (by rfl) T.gc_InvalidAllowance rfl) pa_nil))) pa_nil))))
      (pss_cons (ps_set (i := 1) sc_law_refusal.nd rfl (Or.inl rfl) (pe_op op_cat (pv 1) (pe_lst (pa_cons (pe_callB (v_isP (p := p) (c := (.ty "ValueError")) (List.mem_singleton_self p) T.xc_InvalidAllowance hz.zc (hotF hot) T.ki_InvalidAllowance_ValueError (fun _ r => r)) (by rfl) T.z_isinstance PyProof.Rows.boot_isinstance (pa_cons (pv 0) (pa_cons (pe_bltn (v := .ty "ValueError") (by rfl) T.z_ValueError PyProof.Rows.Boot.«ValueError» rfl) pa_nil))) pa_nil))))
      (pss_cons (ps_if (pt_cmpR (op_eqD hr.units) (pv 1) (pe_lst (pa_cons pe_bl (pa_cons pe_bl (pa_cons pe_bl pa_nil)))) (nomark _))
      (pss_one ps_dead)
      pss_nil)
      (pss_cons (ps_if (pt_cmpR (op_eqD hr.units) (pv 1) (pe_lst (pa_cons pe_bl (pa_cons pe_bl (pa_cons pe_bl pa_nil)))) (nomark _))
      (pss_one (ps_ret (pe_tup (pa_cons pe_str (pa_cons pe_str (pa_cons (oc_xfP (List.mem_singleton_self p) T.xf_InvalidAllowance T.nx_InvalidAllowance_allowed hz.zc (hotF hot) (pv 0)) pa_nil))))))
      pss_nil)
      (pss_one (ps_ret (pe_tup (pa_cons pe_str (pa_cons pe_str (pa_cons pe_non pa_nil)))))))))), st_1_1 rfl ?_⟩
    fail "go"
    rename_i a H1 S1 b H2 S2
    refine ⟨a, b, [.bl false, .bl true], [.bl true], rfl, rfl, S2.tail.hd, S2.hd, small' (by simp), fun c np => ?_⟩
    have S3 := S2.new (.lst [.bl false, .bl true, .bl true]) np
    show gName _ _ _ (upd H2 c (.lst [.bl false, .bl true, .bl true])) _
    fail "go"
    rename_i e H3 S4
    refine g_eqBs [false, true, true] [true, false, true] (SqL.of S4.tail.hd) (SqL.of S4.hd) ?_
    rw [show decide ([false, true, true] = [true, false, true]) = false from rfl]
    fail "go"
    rename_i f H5 S5
    refine g_eqBs [false, true, true] [false, true, true] (SqL.of (Sts.hd (by fail "fp"))) (SqL.of S5.hd) ?_
    rw [decide_eq_true rfl]
    fail "go"
    rename_i t H4 υ l1 e1 S6
    exact q t υ _ l1 e1 (by fail "fp")
local macro_rules | `(tactic| fail "gs") => `(tactic| with_reducible refine Oc.g_callE ?_)
local macro_rules | `(tactic| fail "gs") => `(tactic| with_reducible refine Oc.g_kCE ?_)
theorem len4 {σ : L2.St} (h : σ.length = 4) : ∃ a b c d, σ = [a, b, c, d] := by
  match σ, h with
  | [a, b, c, d], _ => exact ⟨a, b, c, d, rfl⟩
theorem len3 {σ : L2.St} (h : σ.length = 3) : ∃ a b c, σ = [a, b, c] := by
  match σ, h with
  | [a, b, c], _ => exact ⟨a, b, c, rfl⟩
def spWritten (C : Addr) : Sp := fun vs H Q _ => ∃ (d : Addr) (n : Int) (lf : Option Int) (xs : List V) (ix : Int) (i : Nat) (v : V) (τ : Tmap) (F : List Asr), vs = [.ref d, .int ix, v] ∧ ix = i ∧ Sts H (dsk C d n lf xs :: im τ :: F) ∧ (xs.length ≤ 10000 ∧ i ≤ 10000) ∧
  (lf ≠ some 0 → ∀ (t : Addr) (υ : Tmap) (H' : Hp), Le τ υ → υ t = some [.str "done"] → Sts H' (dsk C d (n + 1) (lf.map (· - 1)) (wr xs i v) :: im υ :: F) → Q (.ref t) H') ∧
  (lf = some 0 → ∀ (t : Addr) (υ : Tmap) (H' : Hp), Le τ υ → υ t = some [.str "refused", .str "Stopped", .int n] → Sts H' (dsk C d n lf xs :: im υ :: F) → Q (.ref t) H')
theorem ok_law_written (T : Txt P K mg) : FnOk P w K mg base CX0 4 T.f_law_written T.fd_law_written ["disk", "index", "content"] (spWritten T.c_Disk) := by
  refine T.F_law_written.ok sc_law_written (fun vs H Q E h => by obtain ⟨d, n, lf, xs, ix, i, v, τ, F, rfl, _⟩ := h; rfl) (fun cdv A outer s H vs Q E hr h => ?_)
  obtain ⟨d, n, lf, xs, ix, i, v, τ, F, rfl, rfl, S, hl, q1, q2⟩ := h
  refine ⟨_, (pss_cons (L2N.ps_try_as (i := 3) (Wout := fun _ _ _ _ => False) rfl rfl sc_law_written.nd rfl rfl ⟨rfl, by decide, Or.inl T.gc_OnecopyError⟩ takes0N
      (fun W pn xe tk hp => (pss_one (ps_expr (L2.pe_meth (CX := L2N.CX _ _) (E := WA W 4) (pv 0) T.cl_Disk T.me_Disk_write_cell (ok_Disk_write_cell T) (hr.mono (by decide)) T.b_Disk_write_cell .nil (passA tk rfl) (pa_cons (pv 1) (pa_cons (pv 2) pa_nil))))))
      (fun a oe cls d pn hz hf => (pss_one (ps_ret (pe_callEa (a := a) (oe := oe) (okE_law_refusal T) (L2H.roomH_mark (hr.mono (by decide)) _) (hot1 hz hf) List.mem_cons_self hz (by rfl) T.g_law_refusal T.F_law_refusal.kp T.b_law_refusal (pa_cons (pv 3) pa_nil))))))
      (pss_one (ps_ret (pe_tup (pa_cons pe_str pa_nil))))), st_3_1 rfl ?_⟩
  fail "go"
  obtain ⟨dx, c, S0⟩ := dsk_open S
  refine ⟨_, rfl, d, dx, _, rfl, S0.hd, rfl, _, rfl, _, rfl, ?_⟩
  clear S0
  refine ⟨d, n, lf, xs, (i : Int), i, v, im τ :: F, rfl, rfl, S, hl, fun k H1 S1 => ?_, fun k e H1 S1 => ?_⟩
  · clear S
    fail "go"
    rename_i t H2 υ l1 e1 S2
    exact q1 k t υ _ l1 e1 (by fail "fp")
  · clear S
    intro σ hσ
    obtain ⟨y0, y1, y2, y3, rfl⟩ := len4 hσ
    refine ⟨true, T.te_Stopped_OnecopyError, fun _ a0 na => ?_, fun z => nomatch z⟩
    fail "go"
    refine ⟨a0, e, n, τ, _, rfl, rfl, .inl ⟨rfl, (show Sts H1 (pto e (.xd [("writes", .int n)]) :: im τ :: dsk T.c_Disk d n lf xs :: F) by fail "fp"), fun t υ H2 l1 e1 S2 => ?_⟩⟩
    exact q2 k t υ _ l1 e1 (by fail "fp")
def spAllowed (C : Addr) : Sp := fun vs H Q _ => ∃ (d : Addr) (n : Int) (lf mf : Option Int) (xs : List V) (τ : Tmap) (F : List Asr), vs = [.ref d, ov mf] ∧ Sts H (dsk C d n lf xs :: im τ :: F) ∧
  ((∀ m, mf = some m → 0 ≤ m) → ∀ (t : Addr) (υ : Tmap) (H' : Hp), Le τ υ → υ t = some [.str "done"] → Sts H' (dsk C d n mf xs :: im υ :: F) → Q (.ref t) H') ∧
  (∀ m, mf = some m → m < 0 → ∀ (t : Addr) (υ : Tmap) (H' : Hp), Le τ υ → υ t = some [.str "refused", .str "InvalidAllowance", .int m] → Sts H' (dsk C d n lf xs :: im υ :: F) → Q (.ref t) H')
theorem ok_law_allowed (T : Txt P K mg) : FnOk P w K mg base CX0 7 T.f_law_allowed T.fd_law_allowed ["disk", "number"] (spAllowed T.c_Disk) := by
  refine T.F_law_allowed.ok sc_law_allowed (fun vs H Q E h => by obtain ⟨d, n, lf, mf, xs, τ, F, rfl, _⟩ := h; rfl) (fun cdv A outer s H vs Q E hr h => ?_)
  obtain ⟨d, n, lf, mf, xs, τ, F, rfl, S, q1, q2⟩ := h
  refine ⟨_, (pss_cons (L2N.ps_try_as (i := 2) (Wout := fun _ _ _ _ => False) rfl rfl sc_law_allowed.nd rfl rfl ⟨rfl, by decide, Or.inl T.gc_OnecopyError⟩ takes0N
      (fun W pn xe tk hp => (pss_one (ps_expr (L2.pe_meth (CX := L2N.CX _ _) (E := WA W 3) (pv 0) T.cl_Disk T.me_Disk_allow (ok_Disk_allow T) (hr.mono (by decide)) T.b_Disk_allow .nil (passA tk rfl) (pa_cons (pv 1) pa_nil)))))
      (fun a oe cls d pn hz hf => (pss_one (ps_ret (pe_callEa (a := a) (oe := oe) (okE_law_refusal T) (L2H.roomH_mark (hr.mono (by decide)) _) (hot1 hz hf) List.mem_cons_self hz (by rfl) T.g_law_refusal T.F_law_refusal.kp T.b_law_refusal (pa_cons (pv 2) pa_nil))))))
      (pss_one (ps_ret (pe_tup (pa_cons pe_str pa_nil))))), st_2_1 rfl ?_⟩
  fail "go"
  obtain ⟨dx, c, S0⟩ := dsk_open S
  refine ⟨_, rfl, d, dx, _, rfl, S0.hd, rfl, _, rfl, ?_⟩
  clear S0
  refine ⟨d, n, lf, mf, xs, im τ :: F, rfl, S, fun k H1 S1 => ?_, fun m em k e H1 S1 => ?_⟩
  · clear S
    fail "go"
    rename_i t H2 υ l1 e1 S2
    exact q1 k t υ _ l1 e1 (by fail "fp")
  · clear S
    intro σ hσ
    obtain ⟨y0, y1, y2, rfl⟩ := len3 hσ
    refine ⟨true, T.te_InvalidAllowance_OnecopyError, fun _ a0 na => ?_, fun z => nomatch z⟩
    fail "go"
    refine ⟨a0, e, m, τ, _, rfl, rfl, .inr ⟨rfl, (show Sts H1 (pto e (.xd [("allowed", .int m)]) :: im τ :: dsk T.c_Disk d n lf xs :: F) by fail "fp"), fun t υ H2 l1 e1 S2 => ?_⟩⟩
    exact q2 m em k t υ _ l1 e1 (by fail "fp")

--PART
/-! ### worlds -/
/-- a world: its disk, the cells that are due -/
structure wld (C w d h : Addr) (n : Int) (lf : Option Int) (xs : List V) (hp : Hp) : Prop where
  ex : ∃ x : Unit, St hp [pto w (.lst [.ref d, .ref h, .int n, ov lf]), dsk C d n lf xs, pto h (.lst xs)]
theorem gW {H : Hp} {C w d h : Addr} {n : Int} {lf : Option Int} {xs : List V} {L : List Asr} (S : Sts H (wld C w d h n lf xs :: L)) : Sts H (wld C w d h n lf xs :: L) := S
theorem wld_mk {C w d h : Addr} {n : Int} {lf : Option Int} {xs : List V} {L : List Asr} {H : Hp} (S : Sts H (pto w (.lst [.ref d, .ref h, .int n, ov lf]) :: dsk C d n lf xs :: pto h (.lst xs) :: L)) : Sts H (wld C w d h n lf xs :: L) := Sts.cls (M := [_, _, _]) S fun hp a => ⟨⟨(), a⟩⟩
theorem wld_open {C w d h : Addr} {n : Int} {lf : Option Int} {xs : List V} {L : List Asr} {H : Hp} (S : Sts H (wld C w d h n lf xs :: L)) : Sts H (pto w (.lst [.ref d, .ref h, .int n, ov lf]) :: dsk C d n lf xs :: pto h (.lst xs) :: L) := by
  obtain ⟨_, S⟩ := S.opn (f := fun _ : Unit => [pto w (.lst [.ref d, .ref h, .int n, ov lf]), dsk C d n lf xs, pto h (.lst xs)]) (fun hp a => a.ex) (fun x τ h => by simp at h)
  exact S
/-- what is known of a world -/
def Wo (τ : Tmap) (n : Int) (lf : Option Int) (xs : List V) (m : Nat) : Prop := (∀ x ∈ xs, Ct τ x) ∧ (∀ k, lf = some k → 0 ≤ k) ∧ xs.length ≤ m
theorem Wo.mono {τ υ : Tmap} {n : Int} {lf : Option Int} {xs : List V} {m : Nat} (h : Wo τ n lf xs m) (l : Le τ υ) : Wo υ n lf xs m := ⟨Cts.mono h.1 l, h.2⟩
theorem mkD0 {C : Addr} {H1 : Hp} {L : List Asr} {Q : VK} (S : Sts H1 L) (k : ∀ d H', Sts H' (dsk C d 0 none [] :: L) → Q (.ref d) H') : kMake C (spDInit C) [.non] Q [] H1 :=
  ⟨_, S, fun x dx H2 S2 => ⟨x, dx, .non, rfl, .inl ⟨rfl, _, S2, fun H' S' => ⟨rfl, k x H' S'⟩⟩⟩⟩
theorem mkD1 {C : Addr} {H1 : Hp} {L : List Asr} {Q : VK} (S : Sts H1 L) (k : ∀ d H', Sts H' (dsk C d 0 none [] :: L) → Q (.ref d) H') : kMake C (spDInit C) [] Q [.non] H1 :=
  ⟨_, S, fun x dx H2 S2 => ⟨x, dx, .non, rfl, .inl ⟨rfl, _, S2, fun H' S' => ⟨rfl, k x H' S'⟩⟩⟩⟩
theorem mkD2 {C a : Addr} {xs : List V} {H1 : Hp} {L : List Asr} {Q : VK} (S : Sts H1 (pto a (.lst xs) :: L)) (hl : xs.length ≤ 100000) (k : ∀ d H', Sts H' (dsk C d 0 none xs :: pto a (.lst xs) :: L) → Q (.ref d) H') : kMake C (spDInit C) [] Q [.ref a] H1 :=
  ⟨_, S, fun x dx H2 S2 => ⟨x, dx, .ref a, rfl, .inr ⟨a, xs, L, rfl, S2, hl, fun H' S' => ⟨rfl, k x H' S'⟩⟩⟩⟩
def spWorld (C : Addr) : Sp := fun vs H Q _ => ∃ (p : Addr) (τ : Tmap) (F : List Asr), vs = [.ref p] ∧ Sts H (pool p :: im τ :: F) ∧ ∀ (w d h : Addr) (xs : List V) (υ : Tmap) (H' : Hp), Le τ υ → Wo υ 0 none xs 6 → Sts H' (wld C w d h 0 none xs :: pool p :: im υ :: F) → Q (.ref w) H'
theorem ok_law_world (T : Txt P K mg) : FnOk P w K mg base CX0 5 T.f_law_world T.fd_law_world ["pool"] (spWorld T.c_Disk) := by
  refine T.F_law_world.ok sc_law_world (fun vs H Q E h => by obtain ⟨p, τ, F, rfl, _⟩ := h; rfl) (fun cdv A outer s H vs Q E hr h => ?_)
  obtain ⟨p, τ, F, rfl, S, q⟩ := h
  refine ⟨_, (pss_cons (ps_set (i := 1) sc_law_world.nd rfl (Or.inl rfl) (v_call (ok_law_draw T) (hr.mono (by decide)) (by rfl) T.g_law_draw T.F_law_draw.kp T.b_law_draw (pa_cons (pv 0) (pa_cons pe_int pa_nil))))
      (pss_cons (ps_if (pt_cmpR op_eq (pv 1) pe_int (nomark _))
      (pss_one (ps_ret (pe_lst (pa_cons (oc_make0 (dvs := [.non]) T.mk_Disk (ok_Disk_init T) (hr.mono (by decide)) (by rfl) T.gc_Disk T.bd_Disk_init (.cons rfl .nil)) (pa_cons (pe_lst pa_nil) (pa_cons pe_int (pa_cons pe_non pa_nil)))))))
      pss_nil)
      (pss_cons (ps_if (pt_cmpR op_eq (pv 1) pe_int (nomark _))
      (pss_one (ps_ret (pe_lst (pa_cons (oc_make T.mk_Disk (ok_Disk_init T) (hr.mono (by decide)) (by rfl) T.gc_Disk T.b_Disk_init .nil (pa_cons pe_non pa_nil)) (pa_cons (pe_lst pa_nil) (pa_cons pe_int (pa_cons pe_non pa_nil)))))))
      pss_nil)
      (pss_cons (ps_setLc (i := 2) (own := [("k", 5)]) (g := gName 5) (tt := tYes) rfl sc_law_world.nd rfl rfl (sw_true rfl rfl rfl (by decide +kernel)) (pi_range1 rfl T.z_range (pa_cons (v_call (ok_law_draw T) (hr.mono (by decide)) (by rfl) T.g_law_draw T.F_law_draw.kp T.b_law_draw (pa_cons (pv 0) (pa_cons pe_int pa_nil))) pa_nil)) (blkOk_by (own := [("k", 5)]) (N := ["pool", "way", "given", "held", "disk", "k"]) (sc := defScope s_law_world) (by decide +kernel)) (fun _ _ _ _ _ => (pg_name (i := 5) sc_law_world.nd rfl (Or.inl rfl))) (fun _ _ _ _ _ => pts_nil) (fun _ _ _ _ _ => (v_call (ok_law_content T) (hr.mono (by decide)) (by rfl) T.g_law_content T.F_law_content.kp T.b_law_content (pa_cons (pv 0) pa_nil))))
      (pss_cons (ps_set (i := 3) sc_law_world.nd rfl (Or.inl rfl) (pe_callTy (v_list (K := K) rfl) (by rfl) T.z_list PyProof.Rows.boot_list (pa_cons (pv 2) pa_nil)))
      (pss_cons (ps_set (i := 4) sc_law_world.nd rfl (Or.inl rfl) (oc_make T.mk_Disk (ok_Disk_init T) (hr.mono (by decide)) (by rfl) T.gc_Disk T.b_Disk_init .nil (pa_cons (pv 2) pa_nil)))
      (pss_cons (ps_expr (pe_bm PySem.F.plainAttrs_list PySem.F.slot_list_append PySem.F.type_list_append v_append (pv 2) (pa_cons pe_str pa_nil)))
      (pss_cons (ps_asg pe_str (pg_sub (pv 2) pe_int v_setL))
      (pss_one (ps_ret (pe_lst (pa_cons (pv 4) (pa_cons (pv 3) (pa_cons pe_int (pa_cons pe_non pa_nil))))))))))))))), st_1_5 rfl ?_⟩
  fail "go"
  with_reducible refine ifB (fun c1 => ?_) (fun c1 => ?_)
  · fail "go"
    rename_i e0 H1 e1 e2 S1
    clear S
    refine mkD0 S1 fun d H2 S2 => ?_
    clear S1
    fail "go"
    rename_i h H3 S3 w H4 S4
    have S5 : Sts H4 (pto w (.lst [.ref d, .ref h, .int 0, ov none]) :: dsk T.c_Disk d 0 none [] :: pto h (.lst []) :: pool p :: im τ :: F) := by fail "fp"
    exact q w d h [] τ _ (Le.refl _) ⟨(fun _ h => nomatch h), (fun _ h => nomatch h), Nat.zero_le _⟩ (wld_mk S5)
  · fail "go"
    with_reducible refine ifB (fun c2 => ?_) (fun c2 => ?_)
    · fail "go"
      rename_i e0 H1 e1 e2 S1
      clear S
      refine mkD1 S1 fun d H2 S2 => ?_
      clear S1
      fail "go"
      rename_i h H3 S3 w H4 S4
      have S5 : Sts H4 (pto w (.lst [.ref d, .ref h, .int 0, ov none]) :: dsk T.c_Disk d 0 none [] :: pto h (.lst []) :: pool p :: im τ :: F) := by fail "fp"
      exact q w d h [] τ _ (Le.refl _) ⟨(fun _ h => nomatch h), (fun _ h => nomatch h), Nat.zero_le _⟩ (wld_mk S5)
    · fail "go"
      rename_i e0 H1 e1 e2 S1 m H2 m0 m1 S2 D H3 S3
      clear S S1 S2
      refine oc_lcR (lo := 0) (n := m.toNat) (fun i H => ∃ (xs : List V) (υ : Tmap), Le τ υ ∧ xs.length = i ∧ (∀ x ∈ xs, Ct υ x) ∧ Sts H (pto D (.lst xs) :: pool p :: im υ :: F)) ⟨[], τ, Le.refl _, rfl, (fun _ h => nomatch h), S3⟩ ?_ ?_
      · clear S3
        rintro i H hi ⟨xs, υ, l1, hl, hs, S⟩
        fail "go"
        rename_i v υ2 H4 l2 hv S4
        clear S
        have S5 : Sts H4 (pto D (.lst xs) :: pool p :: im υ2 :: F) := by fail "fp"
        refine ⟨_, S5.hd, small (by omega), xs ++ [v], υ2, l1.trans l2, by rw [List.length_append, hl]; rfl, fun y hy => ?_, S5.put _⟩
        rcases List.mem_append.mp hy with h | h
        · exact (hs y h).mono l2
        · rw [List.mem_singleton.mp h]
          exact hv
      · clear S3
        rintro H ⟨xs, υ, l1, hl, hs, S⟩
        fail "go"
        rename_i h H4 S4
        have S5 : Sts H4 (pto D (.lst xs) :: pto h (.lst xs) :: pool p :: im υ :: F) := by fail "fp"
        refine mkD2 S5 (by omega) fun d H5 S6 => ?_
        clear S S4 S5
        fail "go"
        refine g_app (L := dsk T.c_Disk d 0 none xs :: pto h (.lst xs) :: pool p :: im υ :: F) (by fail "fp") (small (by omega)) fun H6 S7 => ?_
        clear S6
        fail "go"
        rename_i H7 S8 w H8 S9
        have S10 : Sts H8 (pto w (.lst [.ref d, .ref h, .int 0, ov none]) :: dsk T.c_Disk d 0 none xs :: pto h (.lst xs) :: pool p :: im υ :: F) := by fail "fp"
        exact q w d h xs υ _ l1 ⟨hs, (fun _ h => nomatch h), by omega⟩ (wld_mk S10)
theorem g_lenD {C d : Addr} {n : Int} {lf : Option Int} {xs : List V} {L : List Asr} {H : Hp} {Q : VK} (S : Sts H (dsk C d n lf xs :: L)) (hl : xs.length ≤ 100000) (k : ∀ H', Sts H' (dsk C d n lf xs :: L) → Q (.int xs.length) H') : qLenO C (spDLen C) [.ref d] H Q := by
  obtain ⟨dx, c, S0⟩ := dsk_open S
  exact ⟨d, rfl, ⟨_, _, S0.hd⟩, d, n, lf, xs, L, rfl, S, fun H' S' => ⟨_, rfl, ⟨Int.natCast_nonneg _, by omega⟩, k H' S'⟩⟩
def kProp (C : Addr) (sp : Sp) (dvs : List V) (E : XK) (Q : VK) : VK := fun x H1 => ∃ a dx fs, x = .ref a ∧ H1 a = some (.ins C dx fs) ∧ sp (.ref a :: dvs) H1 Q E
theorem g_prop {C : Addr} {sp : Sp} {dvs : List V} {E : XK} {ta : TE} {σ : L2.St} {H : Hp} {Q : VK} (k : ta σ H (kProp C sp dvs E Q)) : tProp C sp dvs E ta σ H Q := k
theorem g_kPropD {C d : Addr} {n : Int} {lf : Option Int} {xs : List V} {L : List Asr} {H : Hp} {E : XK} {Q : VK} (S : Sts H (dsk C d n lf xs :: L)) (k : ∀ H', Sts H' (dsk C d n lf xs :: L) → Q (ov lf) H') : kProp C (spDGet C) [] E Q (.ref d) H := by
  obtain ⟨dx, c, S0⟩ := dsk_open S
  exact ⟨d, dx, _, rfl, S0.hd, d, n, lf, xs, L, rfl, S, k⟩
theorem g_fldW {C d : Addr} {n : Int} {lf : Option Int} {xs : List V} {L : List Asr} {H : Hp} (S : Sts H (dsk C d n lf xs :: L)) : FldAt C "writes" H d (.int n) := by
  obtain ⟨dx, c, S0⟩ := dsk_open S
  exact ⟨dx, _, S0.hd, rfl⟩
theorem g_kFldW {C d : Addr} {n : Int} {lf : Option Int} {xs : List V} {L : List Asr} {H : Hp} {Q : VK} (S : Sts H (dsk C d n lf xs :: L)) (k : Q (.int n) H) : kFld C "writes" Q (.ref d) H := ⟨d, _, rfl, g_fldW S, k⟩
theorem g_isD {C d : Addr} {n : Int} {lf : Option Int} {xs : List V} {L : List Asr} {H : Hp} {m : Str} (S : Sts H (dsk C d n lf xs :: L)) (hm : ([("writes", V.int 0), ("_cells", V.int 0), ("_left", V.int 0)] : List (Str × V)).lookup m = none) : IsIns C m H d := by
  obtain ⟨dx, c, S0⟩ := dsk_open S
  refine ⟨dx, _, S0.hd, ?_⟩
  simp only [List.lookup] at hm ⊢
  split at hm
  · cases hm
  · split at hm
    · cases hm
    · split at hm
      · cases hm
      · rfl
local macro_rules | `(tactic| fail "gs") => `(tactic| ((with_reducible apply K19.g_lenD); fail "fr1"; fail "side"; intro oh os))
local macro_rules | `(tactic| fail "gs") => `(tactic| with_reducible refine K19.g_prop ?_)
local macro_rules | `(tactic| fail "gs") => `(tactic| ((with_reducible apply K19.g_kPropD); fail "fr1"; intro oh os))
local macro_rules | `(tactic| fail "gs") => `(tactic| ((with_reducible apply K19.g_kFldW); fail "fr1"))
theorem sc_ov : ∀ lf : Option Int, Sc (ov lf)
  | none => .inl rfl
  | some m => .inr (.inl ⟨m, rfl⟩)
theorem ct3 {τ : Tmap} {i n : Int} {lf : Option Int} : ∀ x ∈ ([.int i, .int n, ov lf] : List V), Ct τ x := fun x hx => by
  rcases List.mem_cons.mp hx with rfl | hx
  · exact .inl (.inr (.inl ⟨_, rfl⟩))
  · rcases List.mem_cons.mp hx with rfl | hx
    · exact .inl (.inr (.inl ⟨_, rfl⟩))
    · rw [List.mem_singleton.mp hx]
      exact .inl (sc_ov lf)
local macro_rules | `(tactic| fail "ins") => `(tactic| exact K19.g_isD (by fail "fr1") rfl)
theorem same_ct {τ : Tmap} {v : V} {H : Hp} {F : List Asr} {Q : VK} {E : XK} (hv : Ct τ v) (S : Sts H (im τ :: F)) (k : ∀ H', Sts H' (im τ :: F) → Q (.bl true) H') : spSame [v, v] H Q E := by
  rcases hv with h | ⟨t, ys, rfl, et, hy, hyl⟩
  · exact ⟨v, v, rfl, .inl ⟨rfl, h, k H S⟩⟩
  · exact ⟨_, _, rfl, .inr (.inl ⟨t, t, ys, τ, F, rfl, rfl, S, et, et, hy, hyl, k⟩)⟩
theorem ct_get {τ : Tmap} {xs : List V} (hs : ∀ x ∈ xs, Ct τ x) (j : Nat) : Ct τ ((xs[j]?).getD .non) := by
  cases h : xs[j]? with
  | none => exact .inl (.inl rfl)
  | some v => exact hs v (List.mem_of_getElem? h)
def spStands (C : Addr) : Sp := fun vs H Q _ => ∃ (p w d h : Addr) (n : Int) (lf : Option Int) (xs : List V) (τ : Tmap) (F : List Asr), vs = [.ref p, .ref w] ∧ Sts H (pool p :: wld C w d h n lf xs :: im τ :: F) ∧ Wo τ n lf xs 10000 ∧
  ∀ H', Sts H' (pool p :: wld C w d h n lf xs :: im τ :: F) → Q (.bl true) H'
theorem ok_law_stands (T : Txt P K mg) : FnOk P w K mg base CX0 4 T.f_law_stands T.fd_law_stands ["pool", "world"] (spStands T.c_Disk) := by
  refine T.F_law_stands.ok sc_law_stands (fun vs H Q E h => by obtain ⟨p, w, d, h, n, lf, xs, τ, F, rfl, _⟩ := h; rfl) (fun cdv A outer s H vs Q E hr h => ?_)
  obtain ⟨p, w, d, h, n, lf, xs, τ, F, rfl, S, hw, q⟩ := h
  refine ⟨_, (pss_cons (ps_set (i := 2) sc_law_stands.nd rfl (Or.inl rfl) (pe_ix (v_ix (K := K) rfl) (pv 1) pe_int (fun _ _ => rfl)))
      (pss_cons (ps_set (i := 3) sc_law_stands.nd rfl (Or.inl rfl) (pe_ix (v_ix (K := K) rfl) (pv 1) pe_int (fun _ _ => rfl)))
      (pss_cons (ps_set (i := 4) sc_law_stands.nd rfl (Or.inl rfl) (pe_lst (pa_cons (pe_callB (v_lenO T.fa_Disk_len T.ia_Disk_len (ok_Disk_len T) (hr.mono (by decide)) T.b_Disk_len) (by rfl) T.z_len PySem.boot_len (pa_cons (pv 2) pa_nil)) (pa_cons (oc_fld T.cl_Disk T.n_Disk_writes (pv 2)) (pa_cons (pe_prop (E := E0) (pv 2) T.cl_Disk T.pg_Disk_allowance (ok_Disk_allowance T) (hr.mono (by decide)) T.b_Disk_allowance .nil pass0 rfl) pa_nil)))))
      (pss_cons (ps_if (pt_not (pt_val (v_call (ok_law_same T) (hr.mono (by decide)) (by rfl) T.g_law_same T.F_law_same.kp T.b_law_same (pa_cons (pv 4) (pa_cons (pe_lst (pa_cons (pe_callB (v_len (K := K) rfl) (by rfl) T.z_len PySem.boot_len (pa_cons (pv 3) pa_nil)) (pa_cons (pe_ix (v_ix (K := K) rfl) (pv 1) pe_int (fun _ _ => rfl)) (pa_cons (pe_ix (v_ix (K := K) rfl) (pv 1) pe_int (fun _ _ => rfl)) pa_nil)))) pa_nil)))))
      (pss_one (ps_ret pe_bl))
      pss_nil)
      (pss_cons (ps_set (i := 5) sc_law_stands.nd rfl (Or.inl rfl) (v_call (ok_law_draw T) (hr.mono (by decide)) (by rfl) T.g_law_draw T.F_law_draw.kp T.b_law_draw (pa_cons (pv 0) (pa_cons (pe_op op_add (pe_callB (v_len (K := K) rfl) (by rfl) T.z_len PySem.boot_len (pa_cons (pv 3) pa_nil)) pe_int) pa_nil))))
      (oc_cut (ps_set (i := 6) sc_law_stands.nd rfl (Or.inl rfl) (pe_ifExp (pt_cmpR op_lt (pv 5) (pe_callB (v_len (K := K) rfl) (by rfl) T.z_len PySem.boot_len (pa_cons (pv 3) pa_nil)) (nomark _)) (pe_ix (v_ix (K := K) rfl) (pv 3) (pv 5) (fun _ _ => rfl)) pe_non))
      (pss_cons (ps_if (pt_not (pt_val (v_call (ok_law_same T) (hr.mono (by decide)) (by rfl) T.g_law_same T.F_law_same.kp T.b_law_same (pa_cons (oc_meth (pv 2) T.cl_Disk T.me_Disk_read_cell (ok_Disk_read_cell T) (hr.mono (by decide)) T.b_Disk_read_cell (pa_cons (pv 5) pa_nil)) (pa_cons (pv 6) pa_nil)))))
      (pss_one (ps_ret pe_bl))
      pss_nil)
      (pss_one (ps_ret (pe_cmpR v_isN (oc_meth (pv 2) T.cl_Disk T.me_Disk_read_cell (ok_Disk_read_cell T) (hr.mono (by decide)) T.b_Disk_read_cell (pa_cons (pe_op op_add (pe_callB (v_len (K := K) rfl) (by rfl) T.z_len PySem.boot_len (pa_cons (pv 3) pa_nil)) (v_call (ok_law_draw T) (hr.mono (by decide)) (by rfl) T.g_law_draw T.F_law_draw.kp T.b_law_draw (pa_cons (pv 0) (pa_cons (pe_op (v_powc 10 6 1000000 ⟨by decide, by decide, by decide⟩ (by decide +kernel)) pe_int pe_int) pa_nil)))) pa_nil)) pe_non (nomark _))))))))))), st_2_5 rfl ?_⟩
  have S2 := wld_open S.swap
  clear S
  have hw3 := hw.2.2
  fail "go"
  rename_i H3 S3 H4 S4 a H5 S5 b H6 S6
  clear S2 S3 S4 S5
  refine ⟨_, _, rfl, .inr (.inr ⟨a, b, [.int xs.length, .int n, ov lf], τ, _, rfl, rfl, (show Sts H6 (pto a (.lst [.int xs.length, .int n, ov lf]) :: pto b (.lst [.int xs.length, .int n, ov lf]) :: im τ :: dsk T.c_Disk d n lf xs :: pto w (.lst [.ref d, .ref h, .int n, ov lf]) :: pto h (.lst xs) :: pool p :: F) by fail "fp"), ct3, by simp, fun H7 S7 => ?_⟩)⟩
  clear S6
  fail "go"
  rename_i i H8 i0 i1 S8
  clear S7
  refine ⟨fun σ H => σ = [some (.ref p), some (.ref w), some (.ref d), some (.ref h), some (.ref a), some (.int i), some ((xs[i.toNat]?).getD .non)] ∧ Sts H (dsk T.c_Disk d n lf xs :: pool p :: im τ :: pto w (.lst [.ref d, .ref h, .int n, ov lf]) :: pto h (.lst xs) :: F), ?_, ?_⟩
  · fail "go"
    with_reducible refine ifB (fun k => ?_) (fun k => ?_)
    · have k := odt k
      have e : xs[i.toNat]? = some (xs[i.toNat]'(by omega)) := List.getElem?_eq_getElem (by omega)
      fail "go"
      refine g_ix (K := K) (by fail "sq") (atI_of i0 e) ?_
      fail "go"
      exact ⟨by rw [e]; rfl, by fail "fp"⟩
    · have k := odf k
      fail "go"
      exact ⟨by rw [List.getElem?_eq_none (by omega)]; rfl, by fail "fp"⟩
  · clear S8
    rintro σ H ⟨rfl, S⟩
    fail "go"
    rename_i H9 S9
    clear S
    refine same_ct (ct_get hw.1 _) (show Sts H9 (im τ :: dsk T.c_Disk d n lf xs :: pool p :: pto w (.lst [.ref d, .ref h, .int n, ov lf]) :: pto h (.lst xs) :: F) by fail "fp") fun H10 S10 => ?_
    clear S9
    fail "go"
    rename_i m H11 m0 m1 S11 H12 S12
    have e : xs[((xs.length : Nat) + m).toNat]? = none := List.getElem?_eq_none (by omega)
    rw [e]
    rw [show decide (Option.getD (none : Option V) V.non = V.non) = true from rfl]
    have S13 := wld_mk (show Sts H12 (pto w (.lst [.ref d, .ref h, .int n, ov lf]) :: dsk T.c_Disk d n lf xs :: pto h (.lst xs) :: pool p :: im τ :: F) by fail "fp")
    exact q _ (by fail "fp")
local macro_rules | `(tactic| fail "gs") => `(tactic| ((with_reducible show K19.spStands _ _ _ _ _); refine ⟨_, _, _, _, _, _, _, _, _, rfl, (by fail "fr3"), (by assumption), fun (oh : L2.Hp) os => ?_⟩))

--PART
/-! ### writes and allowances -/
theorem wo_set {τ : Tmap} {n n2 : Int} {lf mf : Option Int} {xs : List V} {m : Nat} (h : Wo τ n lf xs m) (hm : ∀ k, mf = some k → 0 ≤ k) : Wo τ n2 mf xs m := ⟨h.1, hm, h.2.2⟩
theorem same_tup {τ : Tmap} {t u : Addr} {ys : List V} {H : Hp} {F : List Asr} {Q : VK} {E : XK} (S : Sts H (im τ :: F)) (e1 : τ t = some ys) (e2 : τ u = some ys) (hs : ∀ y ∈ ys, Sc y) (hl : ys.length ≤ 10) (k : ∀ H', Sts H' (im τ :: F) → Q (.bl true) H') : spSame [.ref t, .ref u] H Q E :=
  ⟨_, _, rfl, .inr (.inl ⟨t, u, ys, τ, F, rfl, rfl, S, e1, e2, hs, hl, k⟩)⟩
theorem same_lst {τ : Tmap} {a b : Addr} {xs : List V} {H : Hp} {F : List Asr} {Q : VK} {E : XK} (S : Sts H (pto a (.lst xs) :: pto b (.lst xs) :: im τ :: F)) (hs : ∀ x ∈ xs, Ct τ x) (hl : xs.length ≤ 100000) (k : ∀ H', Sts H' (pto a (.lst xs) :: pto b (.lst xs) :: im τ :: F) → Q (.bl true) H') : spSame [.ref a, .ref b] H Q E :=
  ⟨_, _, rfl, .inr (.inr ⟨a, b, xs, τ, F, rfl, rfl, S, hs, hl, k⟩)⟩
theorem sc3 {a b : Str} {n : Int} : ∀ y ∈ ([.str a, .str b, .int n] : List V), Sc y := fun y hy => by
  rcases List.mem_cons.mp hy with rfl | hy
  · exact .inr (.inr ⟨_, rfl⟩)
  · rcases List.mem_cons.mp hy with rfl | hy
    · exact .inr (.inr ⟨_, rfl⟩)
    · rw [List.mem_singleton.mp hy]
      exact .inr (.inl ⟨_, rfl⟩)
theorem sc1 {a : Str} : ∀ y ∈ ([.str a] : List V), Sc y := fun y hy => by
  rw [List.mem_singleton.mp hy]
  exact .inr (.inr ⟨_, rfl⟩)
def spStoppd (C : Addr) : Sp := fun vs H Q _ => ∃ (p w d h : Addr) (n : Int) (xs : List V) (ix : Int) (i : Nat) (v : V) (τ : Tmap) (F : List Asr), vs = [.ref p, .ref w, .int ix, v] ∧ ix = i ∧ Sts H (pool p :: wld C w d h n (some 0) xs :: im τ :: F) ∧ Wo τ n (some 0) xs 10000 ∧ i ≤ 10000 ∧
  ∀ (m : Int) (υ : Tmap) (H' : Hp), 1 ≤ m → Le τ υ → Sts H' (pool p :: wld C w d h n (some m) xs :: im υ :: F) → Q (.bl true) H'
theorem ok_law_stopped (T : Txt P K mg) : FnOk P w K mg base CX0 8 T.f_law_stopped T.fd_law_stopped ["pool", "world", "index", "content"] (spStoppd T.c_Disk) := by
  refine T.F_law_stopped.ok sc_law_stopped (fun vs H Q E h => by obtain ⟨p, w, d, h, n, xs, ix, i, v, τ, F, rfl, _⟩ := h; rfl) (fun cdv A outer s H vs Q E hr h => ?_)
  obtain ⟨p, w, d, h, n, xs, ix, i, v, τ, F, rfl, rfl, S, hw, hi, q⟩ := h
  refine ⟨_, (oc_cut (ps_for PassesOwn.never rfl (pi_range1 rfl T.z_range (pa_cons pe_int pa_nil)) (pg_name (i := 4) sc_law_stopped.nd rfl (Or.inl rfl))
      (pss_cons (ps_set (i := 5) sc_law_stopped.nd rfl (Or.inl rfl) (v_call (ok_law_written T) (hr.mono (by decide)) (by rfl) T.g_law_written T.F_law_written.kp T.b_law_written (pa_cons (pe_ix (v_ix (K := K) rfl) (pv 1) pe_int (fun _ _ => rfl)) (pa_cons (pv 2) (pa_cons (pv 3) pa_nil)))))
      (pss_one (ps_if (PW.pt (pw_or (pt_not (pt_val (v_call (ok_law_same T) (hr.mono (by decide)) (by rfl) T.g_law_same T.F_law_same.kp T.b_law_same (pa_cons (pv 5) (pa_cons (pe_tup (pa_cons pe_str (pa_cons pe_str (pa_cons (pe_ix (v_ix (K := K) rfl) (pv 1) pe_int (fun _ _ => rfl)) pa_nil)))) pa_nil))))) (pw_or1 (pt_not (pt_val (v_call (ok_law_stands T) (hr.mono (by decide)) (by rfl) T.g_law_stands T.F_law_stands.kp T.b_law_stands (pa_cons (pv 0) (pa_cons (pv 1) pa_nil))))))))
      (pss_one (ps_ret pe_bl))
      pss_nil))))
      (pss_cons (ps_asg (pe_op op_add pe_int (v_call (ok_law_draw T) (hr.mono (by decide)) (by rfl) T.g_law_draw T.F_law_draw.kp T.b_law_draw (pa_cons (pv 0) (pa_cons pe_int pa_nil)))) (pg_sub (pv 1) pe_int v_setL))
      (pss_one (ps_ret (v_call (ok_law_same T) (hr.mono (by decide)) (by rfl) T.g_law_same T.F_law_same.kp T.b_law_same (pa_cons (v_call (ok_law_allowed T) (hr.mono (by decide)) (by rfl) T.g_law_allowed T.F_law_allowed.kp T.b_law_allowed (pa_cons (pe_ix (v_ix (K := K) rfl) (pv 1) pe_int (fun _ _ => rfl)) (pa_cons (pe_ix (v_ix (K := K) rfl) (pv 1) pe_int (fun _ _ => rfl)) pa_nil))) (pa_cons (pe_tup (pa_cons pe_str pa_nil)) pa_nil))))))), st_4_2 rfl ?_⟩
  fail "go"
  refine ⟨fun σ H => ∃ (x4 x5 : Option V) (υ : Tmap), Le τ υ ∧ σ = [some (.ref p), some (.ref w), some (.int i), some v, x4, x5] ∧ Sts H (pool p :: wld T.c_Disk w d h n (some 0) xs :: im υ :: F), ?_, ?_⟩
  · fail "go"
    refine for_range (lo := 0) (n := (2 : Int).toNat) (fun _ σ H => ∃ (x4 x5 : Option V) (υ : Tmap), Le τ υ ∧ σ = [some (.ref p), some (.ref w), some (.int i), some v, x4, x5] ∧ Sts H (pool p :: wld T.c_Disk w d h n (some 0) xs :: im υ :: F)) ⟨none, none, τ, Le.refl _, rfl, S⟩ ?_ ?_
    · clear S
      rintro j σ H hj ⟨x4, x5, υ, l1, rfl, S⟩
      have S1 := wld_open S.swap
      clear S
      fail "go"
      refine ⟨d, n, some 0, xs, (i : Int), i, v, υ, _, rfl, rfl, (show Sts H (dsk T.c_Disk d n (some 0) xs :: im υ :: pto w (.lst [.ref d, .ref h, .int n, ov (some 0)]) :: pto h (.lst xs) :: pool p :: F) by fail "fp"), ⟨hw.2.2, hi⟩, fun k => absurd rfl k, fun _ t υ2 H2 l2 e2 S2 => ?_⟩
      clear S1
      fail "go"
      rename_i u H3 υ3 l3 e3 S3
      clear S2
      refine same_tup (show Sts H3 (im υ3 :: dsk T.c_Disk d n (some 0) xs :: pto w (.lst [.ref d, .ref h, .int n, ov (some 0)]) :: pto h (.lst xs) :: pool p :: F) by fail "fp") (l3 _ _ e2) e3 sc3 (by simp) fun H4 S4 => ?_
      clear S3
      have S5 := wld_mk (show Sts H4 (pto w (.lst [.ref d, .ref h, .int n, ov (some 0)]) :: dsk T.c_Disk d n (some 0) xs :: pto h (.lst xs) :: im υ3 :: pool p :: F) by fail "fp")
      clear S4
      have hw2 := hw.mono ((l1.trans l2).trans l3)
      fail "go"
      exact ⟨_, _, υ3, (l1.trans l2).trans l3, rfl, by fail "fp"⟩
    · clear S
      rintro σ H ⟨x4, x5, υ, l1, rfl, S⟩
      fail "go"
      exact ⟨_, _, υ, l1, rfl, S⟩
  · clear S
    rintro σ H ⟨x4, x5, υ, l1, rfl, S⟩
    have S1 := wld_open S.swap
    clear S
    fail "go"
    rename_i m H1 m0 m1 S2 H2 S3
    refine ⟨d, n, some 0, some (1 + m), xs, υ, _, rfl, (show Sts H2 (dsk T.c_Disk d n (some 0) xs :: im υ :: pto w (.lst [.ref d, .ref h, .int n, ov (some (1 + m))]) :: pto h (.lst xs) :: pool p :: F) by fail "fp"), fun _ t υ2 H3 l2 e2 S4 => ?_, fun m' em hm => by cases em; omega⟩
    clear S1 S2 S3
    fail "go"
    rename_i u H4 υ3 l3 e3 S5
    clear S4
    refine same_tup (show Sts H4 (im υ3 :: dsk T.c_Disk d n (some (1 + m)) xs :: pto w (.lst [.ref d, .ref h, .int n, ov (some (1 + m))]) :: pto h (.lst xs) :: pool p :: F) by fail "fp") (l3 _ _ e2) e3 sc1 (by simp) fun H5 S6 => ?_
    have S7 := wld_mk (show Sts H5 (pto w (.lst [.ref d, .ref h, .int n, ov (some (1 + m))]) :: dsk T.c_Disk d n (some (1 + m)) xs :: pto h (.lst xs) :: im υ3 :: pool p :: F) by fail "fp")
    exact q (1 + m) υ3 _ (by omega) ((l1.trans l2).trans l3) (by fail "fp")
def spWhole (C : Addr) : Sp := fun vs H Q _ => ∃ (w d h : Addr) (n : Int) (lf : Option Int) (xs : List V) (τ : Tmap) (F : List Asr), vs = [.ref w] ∧ Sts H (wld C w d h n lf xs :: im τ :: F) ∧ Wo τ n lf xs 10000 ∧
  ∀ H', Sts H' (wld C w d h n lf xs :: im τ :: F) → Q (.bl true) H'
theorem ok_law_whole (T : Txt P K mg) : FnOk P w K mg base CX0 4 T.f_law_whole T.fd_law_whole ["world"] (spWhole T.c_Disk) := by
  refine T.F_law_whole.ok sc_law_whole (fun vs H Q E h => by obtain ⟨w, d, h, n, lf, xs, τ, F, rfl, _⟩ := h; rfl) (fun cdv A outer s H vs Q E hr h => ?_)
  obtain ⟨w, d, h, n, lf, xs, τ, F, rfl, S, hw, q⟩ := h
  refine ⟨_, (pss_cons (ps_set (i := 1) sc_law_whole.nd rfl (Or.inl rfl) (oc_meth0 (pe_ix (v_ix (K := K) rfl) (pv 0) pe_int (fun _ _ => rfl)) T.cl_Disk T.me_Disk_cells (ok_Disk_cells T) (hr.mono (by decide)) T.b_Disk_cells))
      (pss_cons (ps_if (pt_not (pt_val (v_call (ok_law_same T) (hr.mono (by decide)) (by rfl) T.g_law_same T.F_law_same.kp T.b_law_same (pa_cons (pv 1) (pa_cons (pe_ix (v_ix (K := K) rfl) (pv 0) pe_int (fun _ _ => rfl)) pa_nil)))))
      (pss_one (ps_ret pe_bl))
      pss_nil)
      (pss_cons (ps_expr (pe_bm PySem.F.plainAttrs_list PySem.F.slot_list_append PySem.F.type_list_append v_append (pv 1) (pa_cons pe_str pa_nil)))
      (pss_cons (ps_asg pe_str (pg_sub (pv 1) pe_int v_setL))
      (pss_one (ps_ret (v_call (ok_law_same T) (hr.mono (by decide)) (by rfl) T.g_law_same T.F_law_same.kp T.b_law_same (pa_cons (oc_meth0 (pe_ix (v_ix (K := K) rfl) (pv 0) pe_int (fun _ _ => rfl)) T.cl_Disk T.me_Disk_cells (ok_Disk_cells T) (hr.mono (by decide)) T.b_Disk_cells) (pa_cons (pe_ix (v_ix (K := K) rfl) (pv 0) pe_int (fun _ _ => rfl)) pa_nil))))))))), st_1_1 rfl ?_⟩
  have hw3 := hw.2.2
  have S1 := wld_open S
  clear S
  fail "go"
  rename_i a H2 S2
  clear S1
  refine same_lst (show Sts H2 (pto a (.lst xs) :: pto h (.lst xs) :: im τ :: dsk T.c_Disk d n lf xs :: pto w (.lst [.ref d, .ref h, .int n, ov lf]) :: F) by fail "fp") hw.1 (by omega) fun H3 S3 => ?_
  clear S2
  fail "go"
  refine g_app S3 (small (by omega)) fun H4 S4 => ?_
  clear S3
  have hl2 : 0 < (xs ++ [V.str "later"]).length := by
    rw [List.length_append, List.length_singleton]
    omega
  fail "go"
  rename_i H5 S5 b H6 S6
  clear S4 S5
  refine same_lst (show Sts H6 (pto b (.lst xs) :: pto h (.lst xs) :: im τ :: dsk T.c_Disk d n lf xs :: pto w (.lst [.ref d, .ref h, .int n, ov lf]) :: F) by fail "fp") hw.1 (by omega) fun H7 S7 => ?_
  exact q _ (wld_mk (show Sts H7 (pto w (.lst [.ref d, .ref h, .int n, ov lf]) :: dsk T.c_Disk d n lf xs :: pto h (.lst xs) :: im τ :: F) by fail "fp"))
def spAllowStep (C : Addr) : Sp := fun vs H Q _ => ∃ (p w d h : Addr) (n : Int) (lf : Option Int) (xs : List V) (m : Nat) (τ : Tmap) (F : List Asr), vs = [.ref p, .ref w] ∧ Sts H (pool p :: wld C w d h n lf xs :: im τ :: F) ∧ Wo τ n lf xs m ∧
  ∀ (mf : Option Int) (υ : Tmap) (H' : Hp), Le τ υ → Wo υ n mf xs m → Sts H' (pool p :: wld C w d h n mf xs :: im υ :: F) → Q (.bl true) H'
theorem ok_law_allow_step (T : Txt P K mg) : FnOk P w K mg base CX0 8 T.f_law_allow_step T.fd_law_allow_step ["pool", "world"] (spAllowStep T.c_Disk) := by
  refine T.F_law_allow_step.ok sc_law_allow_step (fun vs H Q E h => by obtain ⟨p, w, d, h, n, lf, xs, m, τ, F, rfl, _⟩ := h; rfl) (fun cdv A outer s H vs Q E hr h => ?_)
  obtain ⟨p, w, d, h, n, lf, xs, m, τ, F, rfl, S, hw, q⟩ := h
  refine ⟨_, (pss_cons (ps_set (i := 2) sc_law_allow_step.nd rfl (Or.inl rfl) (v_call (ok_law_draw T) (hr.mono (by decide)) (by rfl) T.g_law_draw T.F_law_draw.kp T.b_law_draw (pa_cons (pv 0) (pa_cons pe_int pa_nil))))
      (pss_cons (ps_set (i := 3) sc_law_allow_step.nd rfl (Or.inl rfl) (v_call (ok_law_draw T) (hr.mono (by decide)) (by rfl) T.g_law_draw T.F_law_draw.kp T.b_law_draw (pa_cons (pv 0) (pa_cons pe_int pa_nil))))
      (oc_cut (ps_if (pt_cmpR op_eq (pv 2) pe_int (nomark _))
      (pss_one (ps_set (i := 3) sc_law_allow_step.nd rfl (Or.inl rfl) pe_non))
      pss_nil)
      (oc_cut (ps_if (pt_cmpR op_eq (pv 2) pe_int (nomark _))
      (pss_one (ps_set (i := 3) sc_law_allow_step.nd rfl (Or.inl rfl) (pe_op op_add (pe_op (v_powc 10 20 100000000000000000000 ⟨by decide, by decide, by decide⟩ (by decide +kernel)) pe_int pe_int) (v_call (ok_law_draw T) (hr.mono (by decide)) (by rfl) T.g_law_draw T.F_law_draw.kp T.b_law_draw (pa_cons (pv 0) (pa_cons (pe_op (v_powc 10 6 1000000 ⟨by decide, by decide, by decide⟩ (by decide +kernel)) pe_int pe_int) pa_nil))))))
      pss_nil)
      (pss_cons (ps_if (pt_cmpR op_eq (pv 2) pe_int (nomark _))
      (pss_cons (ps_set (i := 3) sc_law_allow_step.nd rfl (Or.inl rfl) (pe_op op_sub (pe_un un_neg pe_int) (pv 3)))
      (pss_one (ps_ret (v_call (ok_law_same T) (hr.mono (by decide)) (by rfl) T.g_law_same T.F_law_same.kp T.b_law_same (pa_cons (v_call (ok_law_allowed T) (hr.mono (by decide)) (by rfl) T.g_law_allowed T.F_law_allowed.kp T.b_law_allowed (pa_cons (pe_ix (v_ix (K := K) rfl) (pv 1) pe_int (fun _ _ => rfl)) (pa_cons (pv 3) pa_nil))) (pa_cons (pe_tup (pa_cons pe_str (pa_cons pe_str (pa_cons (pv 3) pa_nil)))) pa_nil))))))
      pss_nil)
      (pss_cons (ps_asg (pv 3) (pg_sub (pv 1) pe_int v_setL))
      (pss_one (ps_ret (v_call (ok_law_same T) (hr.mono (by decide)) (by rfl) T.g_law_same T.F_law_same.kp T.b_law_same (pa_cons (v_call (ok_law_allowed T) (hr.mono (by decide)) (by rfl) T.g_law_allowed T.F_law_allowed.kp T.b_law_allowed (pa_cons (pe_ix (v_ix (K := K) rfl) (pv 1) pe_int (fun _ _ => rfl)) (pa_cons (pv 3) pa_nil))) (pa_cons (pe_tup (pa_cons pe_str pa_nil)) pa_nil))))))))))), st_2_2 rfl ?_⟩
  have S1 := wld_open S.swap
  clear S
  fail "go"
  rename_i pk H2 p0 p1 S2 nb H3 n0 n1 S3
  clear S1 S2
  refine ⟨fun σ H => ∃ mf : Option Int, (∀ k, mf = some k → 0 ≤ k) ∧ (pk = 1 → ∃ k, mf = some k) ∧ σ = [some (.ref p), some (.ref w), some (.int pk), some (ov mf)] ∧
    Sts H (pto w (.lst [.ref d, .ref h, .int n, ov lf]) :: dsk T.c_Disk d n lf xs :: pto h (.lst xs) :: pool p :: im τ :: F), ?_, ?_⟩
  · fail "go"
    with_reducible refine ifB (fun k => ?_) (fun k => ?_)
    · have k := odt k
      fail "go"
      exact ⟨none, (fun _ h => nomatch h), (fun h => by omega), rfl, by fail "fp"⟩
    · fail "go"
      exact ⟨some nb, (fun k h => by cases h; omega), (fun _ => ⟨_, rfl⟩), rfl, by fail "fp"⟩
  clear S3
  rintro σ H ⟨mf, h1, h2, rfl, S⟩
  refine ⟨fun σ H => ∃ mf : Option Int, (∀ k, mf = some k → 0 ≤ k) ∧ (pk = 1 → ∃ k, mf = some k) ∧ σ = [some (.ref p), some (.ref w), some (.int pk), some (ov mf)] ∧
    Sts H (pto w (.lst [.ref d, .ref h, .int n, ov lf]) :: dsk T.c_Disk d n lf xs :: pto h (.lst xs) :: pool p :: im τ :: F), ?_, ?_⟩
  · fail "go"
    with_reducible refine ifB (fun k => ?_) (fun k => ?_)
    · fail "go"
      exact ⟨some _, (fun k h => by cases h; omega), (fun _ => ⟨_, rfl⟩), rfl, by fail "fp"⟩
    · fail "go"
      exact ⟨mf, h1, h2, rfl, S⟩
  clear S h1 h2 mf
  rintro σ H ⟨mf, h1, h2, rfl, S⟩
  fail "go"
  with_reducible refine ifB (fun k => ?_) (fun k => ?_)
  · have k := odt k
    obtain ⟨z, rfl⟩ := h2 k
    fail "go"
    show rI0 _ (.int (-1)) (.int z) _ _
    fail "go"
    have hz := h1 z rfl
    refine ⟨d, n, lf, some (-1 - z), xs, τ, _, rfl, (show Sts H (dsk T.c_Disk d n lf xs :: im τ :: pto w (.lst [.ref d, .ref h, .int n, ov lf]) :: pto h (.lst xs) :: pool p :: F) by fail "fp"), fun hh => absurd (hh _ rfl) (by omega), fun m' em hm t υ H4 l1 e1 S4 => ?_⟩
    cases em
    clear S
    fail "go"
    rename_i u H5 υ3 l3 e3 S5
    clear S4
    refine same_tup (show Sts H5 (im υ3 :: dsk T.c_Disk d n lf xs :: pto w (.lst [.ref d, .ref h, .int n, ov lf]) :: pto h (.lst xs) :: pool p :: F) by fail "fp") (l3 _ _ e1) e3 sc3 (by simp) fun H6 S6 => ?_
    have S7 := wld_mk (show Sts H6 (pto w (.lst [.ref d, .ref h, .int n, ov lf]) :: dsk T.c_Disk d n lf xs :: pto h (.lst xs) :: im υ3 :: pool p :: F) by fail "fp")
    exact q lf υ3 _ (l1.trans l3) (hw.mono (l1.trans l3)) (by fail "fp")
  · fail "go"
    rename_i H4 S4
    refine ⟨d, n, lf, mf, xs, τ, _, rfl, (show Sts H4 (dsk T.c_Disk d n lf xs :: im τ :: pto w (.lst [.ref d, .ref h, .int n, ov mf]) :: pto h (.lst xs) :: pool p :: F) by fail "fp"), fun _ t υ H5 l1 e1 S5 => ?_, fun m' em hm => by have := h1 m' em; omega⟩
    clear S S4
    fail "go"
    rename_i u H6 υ3 l3 e3 S6
    clear S5
    refine same_tup (show Sts H6 (im υ3 :: dsk T.c_Disk d n mf xs :: pto w (.lst [.ref d, .ref h, .int n, ov mf]) :: pto h (.lst xs) :: pool p :: F) by fail "fp") (l3 _ _ e1) e3 sc1 (by simp) fun H7 S7 => ?_
    have S8 := wld_mk (show Sts H7 (pto w (.lst [.ref d, .ref h, .int n, ov mf]) :: dsk T.c_Disk d n mf xs :: pto h (.lst xs) :: im υ3 :: pool p :: F) by fail "fp")
    exact q mf υ3 _ (l1.trans l3) (wo_set (hw.mono (l1.trans l3)) h1) (by fail "fp")
theorem wr_ct {τ : Tmap} {xs : List V} {i : Nat} {v : V} (hs : ∀ x ∈ xs, Ct τ x) (hv : Ct τ v) : ∀ x ∈ wr xs i v, Ct τ x := fun x hx => by
  rcases List.mem_or_eq_of_mem_set hx with h | rfl
  · rcases List.mem_append.mp h with h | h
    · exact hs x h
    · rw [(List.mem_replicate.mp h).2]
      exact .inl (.inl rfl)
  · exact hv
theorem wr_at (xs : List V) (i : Nat) (v : V) : ((wr xs i v)[i]?).getD .non = v := by
  unfold wr
  rw [List.getElem?_set_self (by rw [List.length_append, List.length_replicate]; omega)]
  rfl
def spWriteStep (C : Addr) : Sp := fun vs H Q _ => ∃ (p w d h : Addr) (n : Int) (lf : Option Int) (xs : List V) (m : Nat) (τ : Tmap) (F : List Asr), vs = [.ref p, .ref w] ∧ Sts H (pool p :: wld C w d h n lf xs :: im τ :: F) ∧ Wo τ n lf xs m ∧ m ≤ 9000 ∧
  ∀ (n' : Int) (lf' : Option Int) (xs' : List V) (υ : Tmap) (H' : Hp), Le τ υ → Wo υ n' lf' xs' (m + 61) → Sts H' (pool p :: wld C w d h n' lf' xs' :: im υ :: F) → Q (.bl true) H'
theorem ok_law_write_step (T : Txt P K mg) : FnOk P w K mg base CX0 9 T.f_law_write_step T.fd_law_write_step ["pool", "world"] (spWriteStep T.c_Disk) := by
  refine T.F_law_write_step.ok sc_law_write_step (fun vs H Q E h => by obtain ⟨p, w, d, h, n, lf, xs, m, τ, F, rfl, _⟩ := h; rfl) (fun cdv A outer s H vs Q E hr h => ?_)
  obtain ⟨p, w, d, h, n, lf, xs, m, τ, F, rfl, S, hw, hm, q⟩ := h
  refine ⟨_, (pss_cons (ps_set (i := 2) sc_law_write_step.nd rfl (Or.inl rfl) (pe_ix (v_ix (K := K) rfl) (pv 1) pe_int (fun _ _ => rfl)))
      (pss_cons (ps_set (i := 3) sc_law_write_step.nd rfl (Or.inl rfl) (v_call (ok_law_draw T) (hr.mono (by decide)) (by rfl) T.g_law_draw T.F_law_draw.kp T.b_law_draw (pa_cons (pv 0) (pa_cons (pe_op op_add (pe_callB (v_len (K := K) rfl) (by rfl) T.z_len PySem.boot_len (pa_cons (pv 2) pa_nil)) pe_int) pa_nil))))
      (oc_cut (ps_if (pt_cmpR op_eq (v_call (ok_law_draw T) (hr.mono (by decide)) (by rfl) T.g_law_draw T.F_law_draw.kp T.b_law_draw (pa_cons (pv 0) (pa_cons pe_int pa_nil))) pe_int (nomark _))
      (pss_one (ps_set (i := 3) sc_law_write_step.nd rfl (Or.inl rfl) (pe_op op_add (pe_callB (v_len (K := K) rfl) (by rfl) T.z_len PySem.boot_len (pa_cons (pv 2) pa_nil)) (v_call (ok_law_draw T) (hr.mono (by decide)) (by rfl) T.g_law_draw T.F_law_draw.kp T.b_law_draw (pa_cons (pv 0) (pa_cons pe_int pa_nil))))))
      pss_nil)
      (pss_cons (ps_set (i := 4) sc_law_write_step.nd rfl (Or.inl rfl) (v_call (ok_law_content T) (hr.mono (by decide)) (by rfl) T.g_law_content T.F_law_content.kp T.b_law_content (pa_cons (pv 0) pa_nil)))
      (oc_cut (ps_if (PW.pt (pw_and (pt_cmpR op_lt (pv 3) (pe_callB (v_len (K := K) rfl) (by rfl) T.z_len PySem.boot_len (pa_cons (pv 2) pa_nil)) (nomark _)) (pw_and1 (pt_cmpR op_eq (v_call (ok_law_draw T) (hr.mono (by decide)) (by rfl) T.g_law_draw T.F_law_draw.kp T.b_law_draw (pa_cons (pv 0) (pa_cons pe_int pa_nil))) pe_int (nomark _)))))
      (pss_one (ps_set (i := 4) sc_law_write_step.nd rfl (Or.inl rfl) (pe_ix (v_ix (K := K) rfl) (pv 2) (pv 3) (fun _ _ => rfl))))
      pss_nil)
      (oc_cut (ps_if (pt_cmpR op_eq (pe_ix (v_ix (K := K) rfl) (pv 1) pe_int (fun _ _ => rfl)) pe_int (nomark _))
      (pss_one (ps_if (pt_not (pt_val (v_call (ok_law_stopped T) (hr.mono (by decide)) (by rfl) T.g_law_stopped T.F_law_stopped.kp T.b_law_stopped (pa_cons (pv 0) (pa_cons (pv 1) (pa_cons (pv 3) (pa_cons (pv 4) pa_nil)))))))
      (pss_one (ps_ret pe_bl))
      pss_nil))
      pss_nil)
      (oc_cut (ps_for PassesOwn.never rfl (pi_range1 rfl T.z_range (pa_cons (pe_op op_sub (pe_op op_add (pv 3) pe_int) (pe_callB (v_len (K := K) rfl) (by rfl) T.z_len PySem.boot_len (pa_cons (pv 2) pa_nil))) pa_nil)) (pg_name (i := 5) sc_law_write_step.nd rfl (Or.inl rfl))
      (pss_one (ps_expr (pe_bm PySem.F.plainAttrs_list PySem.F.slot_list_append PySem.F.type_list_append v_append (pv 2) (pa_cons pe_non pa_nil)))))
      (pss_cons (ps_asg (pv 4) (pg_sub (pv 2) (pv 3) v_setL))
      (pss_cons (ps_asg (pe_op op_add (pe_ix (v_ix (K := K) rfl) (pv 1) pe_int (fun _ _ => rfl)) pe_int) (pg_sub (pv 1) pe_int v_setL))
      (oc_cut (ps_if (pt_cmpR v_notN (pe_ix (v_ix (K := K) rfl) (pv 1) pe_int (fun _ _ => rfl)) pe_non (nomark _))
      (pss_one (ps_asg (pe_op op_sub (pe_ix (v_ix (K := K) rfl) (pv 1) pe_int (fun _ _ => rfl)) pe_int) (pg_sub (pv 1) pe_int v_setL)))
      pss_nil)
      (pss_cons (ps_if (pt_not (pt_val (v_call (ok_law_same T) (hr.mono (by decide)) (by rfl) T.g_law_same T.F_law_same.kp T.b_law_same (pa_cons (v_call (ok_law_written T) (hr.mono (by decide)) (by rfl) T.g_law_written T.F_law_written.kp T.b_law_written (pa_cons (pe_ix (v_ix (K := K) rfl) (pv 1) pe_int (fun _ _ => rfl)) (pa_cons (pv 3) (pa_cons (pv 4) pa_nil)))) (pa_cons (pe_tup (pa_cons pe_str pa_nil)) pa_nil)))))
      (pss_one (ps_ret pe_bl))
      pss_nil)
      (pss_one (ps_ret (v_call (ok_law_same T) (hr.mono (by decide)) (by rfl) T.g_law_same T.F_law_same.kp T.b_law_same (pa_cons (oc_meth (pe_ix (v_ix (K := K) rfl) (pv 1) pe_int (fun _ _ => rfl)) T.cl_Disk T.me_Disk_read_cell (ok_Disk_read_cell T) (hr.mono (by decide)) T.b_Disk_read_cell (pa_cons (pv 3) pa_nil)) (pa_cons (pv 4) pa_nil)))))))))))))))), st_2_4 rfl ?_⟩
  have S1 := wld_open S.swap
  clear S
  have hw3 := hw.2.2
  fail "go"
  rename_i i0 H2 i1 i2 S2
  clear S1
  obtain ⟨i0, rfl⟩ : ∃ j : Nat, i0 = j := ⟨i0.toNat, by omega⟩
  refine ⟨fun σ H => ∃ i : Nat, i ≤ xs.length + 60 ∧ σ = [some (.ref p), some (.ref w), some (.ref h), some (.int i), none, none] ∧
    Sts H (pto w (.lst [.ref d, .ref h, .int n, ov lf]) :: dsk T.c_Disk d n lf xs :: pto h (.lst xs) :: pool p :: im τ :: F), ?_, ?_⟩
  · fail "go"
    with_reducible refine ifB (fun k => ?_) (fun k => ?_)
    · fail "go"
      rename_i e H3 e0 e1 S3 u H4 u0 u1 S4
      obtain ⟨u, rfl⟩ : ∃ j : Nat, u = j := ⟨u.toNat, by omega⟩
      exact ⟨xs.length + u, by omega, by rw [Int.natCast_add], by fail "fp"⟩
    · fail "go"
      exact ⟨i0, by omega, rfl, by fail "fp"⟩
  clear S2
  rintro σ H ⟨i, hi, rfl, S⟩
  fail "go"
  rename_i v0 υ H3 l1 hv0 S3
  clear S
  have hwu := hw.mono l1
  refine ⟨fun σ H => ∃ v : V, Ct υ v ∧ σ = [some (.ref p), some (.ref w), some (.ref h), some (.int i), some v, none] ∧
    Sts H (pto w (.lst [.ref d, .ref h, .int n, ov lf]) :: dsk T.c_Disk d n lf xs :: pto h (.lst xs) :: pool p :: im υ :: F), ?_, ?_⟩
  · fail "go"
    with_reducible refine ifB (fun k => ?_) (fun k => ?_)
    · have k := odt k
      fail "go"
      with_reducible refine ifB (fun k2 => ?_) (fun k2 => ?_)
      · have e : xs[i]? = some (xs[i]'(by omega)) := List.getElem?_eq_getElem (by omega)
        fail "go"
        refine g_ix (K := K) (by fail "sq") (atI_of (Int.natCast_nonneg i) (by rw [Int.toNat_natCast]; exact e)) ?_
        fail "go"
        exact ⟨_, hwu.1 _ (List.getElem_mem _), rfl, by fail "fp"⟩
      · fail "go"
        exact ⟨v0, hv0, rfl, by fail "fp"⟩
    · fail "go"
      exact ⟨v0, hv0, rfl, by fail "fp"⟩
  clear S3 hv0
  rintro σ H ⟨v, hv, rfl, S⟩
  fail "go"
  refine ⟨fun σ H => ∃ (mf : Option Int) (υ2 : Tmap), mf ≠ some 0 ∧ (∀ k, mf = some k → 0 ≤ k) ∧ Le υ υ2 ∧ σ = [some (.ref p), some (.ref w), some (.ref h), some (.int i), some v, none] ∧
    Sts H (pto w (.lst [.ref d, .ref h, .int n, ov mf]) :: dsk T.c_Disk d n mf xs :: pto h (.lst xs) :: pool p :: im υ2 :: F), ?_, ?_⟩
  · fail "go"
    show rEq (ov lf) (ov (some 0)) _ _
    refine g_eqO ?_
    fail "go"
    with_reducible refine ifB (fun k => ?_) (fun k => ?_)
    · have k := odt k
      subst k
      have S4 := wld_mk S
      fail "go"
      refine ⟨p, w, d, h, n, xs, (i : Int), i, v, υ, F, rfl, rfl, (show Sts H (pool p :: wld T.c_Disk w d h n (some 0) xs :: im υ :: F) by fail "fp"), ⟨hwu.1, hwu.2.1, by omega⟩, by omega, fun z υ2 H5 hz l2 S5 => ?_⟩
      clear S S4
      have S6 := wld_open S5.swap
      clear S5
      fail "go"
      exact ⟨some z, υ2, (fun h => by cases h; omega), (fun k h => by cases h; omega), l2, rfl, S6⟩
    · have k := odf k
      fail "go"
      exact ⟨lf, υ, k, hwu.2.1, Le.refl _, rfl, S⟩
  clear S
  rintro σ H ⟨mf, υ2, hne, hpos, l2, rfl, S⟩
  fail "go"
  refine ⟨fun σ H => ∃ x5 : Option V, σ = [some (.ref p), some (.ref w), some (.ref h), some (.int i), some v, x5] ∧
    Sts H (pto h (.lst (xs ++ List.replicate (i + 1 - xs.length) V.non)) :: pto w (.lst [.ref d, .ref h, .int n, ov mf]) :: dsk T.c_Disk d n mf xs :: pool p :: im υ2 :: F), ?_, ?_⟩
  · fail "go"
    refine for_range (lo := 0) (n := ((i : Int) + 1 - (xs.length : Nat)).toNat) (fun j σ H => ∃ x5 : Option V, σ = [some (.ref p), some (.ref w), some (.ref h), some (.int i), some v, x5] ∧
      Sts H (pto h (.lst (xs ++ List.replicate j V.non)) :: pto w (.lst [.ref d, .ref h, .int n, ov mf]) :: dsk T.c_Disk d n mf xs :: pool p :: im υ2 :: F)) ⟨none, rfl, by rw [List.replicate_zero, List.append_nil]; exact (by fail "fp")⟩ ?_ ?_
    · clear S
      rintro j σ H hj ⟨x5, rfl, S⟩
      fail "go"
      refine g_app S (small (by rw [List.length_append, List.length_replicate]; omega)) fun H4 S4 => ?_
      rw [List.append_assoc, ← List.replicate_succ'] at S4
      exact ⟨_, rfl, S4⟩
    · clear S
      rintro σ H ⟨x5, rfl, S⟩
      have e : ((i : Int) + 1 - (xs.length : Nat)).toNat = i + 1 - xs.length := by omega
      rw [e] at S
      fail "go"
      exact ⟨x5, rfl, S⟩
  clear S
  rintro σ H ⟨x5, rfl, S⟩
  have hlen : i < (xs ++ List.replicate (i + 1 - xs.length) V.non).length := by
    rw [List.length_append, List.length_replicate]
    omega
  fail "go"
  rename_i H4 S4 H5 S5
  have S6 : Sts H5 (pto w (.lst [.ref d, .ref h, .int (n + 1), ov mf]) :: pto h (.lst (wr xs i v)) :: dsk T.c_Disk d n mf xs :: pool p :: im υ2 :: F) := by
    have ew : (xs ++ List.replicate (i + 1 - xs.length) V.non).set (i : Int).toNat v = wr xs i v := by rw [Int.toNat_natCast]; rfl
    rw [ew] at S5
    exact S5
  clear S S4 S5
  refine ⟨fun σ H => σ = [some (.ref p), some (.ref w), some (.ref h), some (.int i), some v, x5] ∧
    Sts H (pto w (.lst [.ref d, .ref h, .int (n + 1), ov (mf.map (· - 1))]) :: pto h (.lst (wr xs i v)) :: dsk T.c_Disk d n mf xs :: pool p :: im υ2 :: F), ?_, ?_⟩
  · fail "go"
    cases mf with
    | none =>
      refine ifF rfl ?_
      fail "go"
      exact ⟨rfl, S6⟩
    | some k =>
      refine ifT rfl ?_
      fail "go"
      show rI0 _ (.int k) (.int 1) _ _
      fail "go"
      rename_i H6 S7
      exact ⟨rfl, S7⟩
  clear S6
  rintro σ H ⟨rfl, S⟩
  fail "go"
  refine ⟨d, n, mf, xs, (i : Int), i, v, υ2, _, rfl, rfl, (show Sts H (dsk T.c_Disk d n mf xs :: im υ2 :: pto w (.lst [.ref d, .ref h, .int (n + 1), ov (mf.map (· - 1))]) :: pto h (.lst (wr xs i v)) :: pool p :: F) by fail "fp"), ⟨by omega, by omega⟩, fun _ t υ3 H6 l3 e3 S7 => ?_, fun k => absurd k hne⟩
  clear S
  fail "go"
  rename_i u H7 υ4 l4 e4 S8
  clear S7
  refine same_tup (show Sts H7 (im υ4 :: dsk T.c_Disk d (n + 1) (mf.map (· - 1)) (wr xs i v) :: pto w (.lst [.ref d, .ref h, .int (n + 1), ov (mf.map (· - 1))]) :: pto h (.lst (wr xs i v)) :: pool p :: F) by fail "fp") (l4 _ _ e3) e4 sc1 (by simp) fun H8 S9 => ?_
  clear S8
  fail "go"
  rename_i H9 S10
  clear S9
  have le : Le τ υ4 := ((l1.trans l2).trans l3).trans l4
  rw [Int.toNat_natCast, wr_at]
  refine same_ct (hv.mono ((l2.trans l3).trans l4)) (show Sts H9 (im υ4 :: dsk T.c_Disk d (n + 1) (mf.map (· - 1)) (wr xs i v) :: pto w (.lst [.ref d, .ref h, .int (n + 1), ov (mf.map (· - 1))]) :: pto h (.lst (wr xs i v)) :: pool p :: F) by fail "fp") fun H10 S11 => ?_
  have S12 := wld_mk (show Sts H10 (pto w (.lst [.ref d, .ref h, .int (n + 1), ov (mf.map (· - 1))]) :: dsk T.c_Disk d (n + 1) (mf.map (· - 1)) (wr xs i v) :: pto h (.lst (wr xs i v)) :: im υ4 :: pool p :: F) by fail "fp")
  refine q (n + 1) (mf.map (· - 1)) (wr xs i v) υ4 _ le ⟨wr_ct (hw.mono le).1 (hv.mono ((l2.trans l3).trans l4)), fun k hk => ?_, by rw [wr_len]; omega⟩ (by fail "fp")
  cases mf with
  | none => cases hk
  | some z =>
    have h1 := hpos z rfl
    have h2 : z ≠ 0 := fun h => hne (by rw [h])
    cases hk
    show 0 ≤ z - 1
    omega
local macro_rules | `(tactic| fail "gs") => `(tactic| ((with_reducible show K19.spWhole _ _ _ _ _); refine ⟨_, _, _, _, _, _, _, _, rfl, (by fail "fr2"), (by assumption), fun (oh : L2.Hp) os => ?_⟩))

--PART
/-! ### the law -/
theorem Wo.le {τ : Tmap} {n : Int} {lf : Option Int} {xs : List V} {m k : Nat} (h : Wo τ n lf xs m) (l : m ≤ k) : Wo τ n lf xs k := ⟨h.1, h.2.1, Nat.le_trans h.2.2 l⟩
def spCopied (C : Addr) : Sp := fun vs H Q _ => ∃ (p w d h : Addr) (n : Int) (lf : Option Int) (xs : List V) (m : Nat) (τ : Tmap) (F : List Asr), vs = [.ref p, .ref w] ∧ Sts H (pool p :: wld C w d h n lf xs :: im τ :: F) ∧ Wo τ n lf xs m ∧ m ≤ 8000 ∧
  ∀ (υ : Tmap) (H' : Hp), Le τ υ → Sts H' (pool p :: im υ :: F) → Q (.bl true) H'
theorem ok_law_copied (T : Txt P K mg) : FnOk P w K mg base CX0 10 T.f_law_copied T.fd_law_copied ["pool", "world"] (spCopied T.c_Disk) := by
  refine T.F_law_copied.ok sc_law_copied (fun vs H Q E h => by obtain ⟨p, w, d, h, n, lf, xs, m, τ, F, rfl, _⟩ := h; rfl) (fun cdv A outer s H vs Q E hr h => ?_)
  obtain ⟨p, w, d, h, n, lf, xs, m, τ, F, rfl, S, hw, hm, q⟩ := h
  refine ⟨_, (pss_cons (ps_set (i := 2) sc_law_copied.nd rfl (Or.inl rfl) (pe_lst (pa_cons (oc_make T.mk_Disk (ok_Disk_init T) (hr.mono (by decide)) (by rfl) T.gc_Disk T.b_Disk_init .nil (pa_cons (oc_meth0 (pe_ix (v_ix (K := K) rfl) (pv 1) pe_int (fun _ _ => rfl)) T.cl_Disk T.me_Disk_cells (ok_Disk_cells T) (hr.mono (by decide)) T.b_Disk_cells) pa_nil)) (pa_cons (pe_callTy (v_list (K := K) rfl) (by rfl) T.z_list PyProof.Rows.boot_list (pa_cons (pe_ix (v_ix (K := K) rfl) (pv 1) pe_int (fun _ _ => rfl)) pa_nil)) (pa_cons pe_int (pa_cons pe_non pa_nil))))))
      (pss_cons (ps_if (PW.pt (pw_or (pt_not (pt_val (v_call (ok_law_stands T) (hr.mono (by decide)) (by rfl) T.g_law_stands T.F_law_stands.kp T.b_law_stands (pa_cons (pv 0) (pa_cons (pv 2) pa_nil))))) (pw_or1 (pt_not (pt_val (v_call (ok_law_write_step T) (hr.mono (by decide)) (by rfl) T.g_law_write_step T.F_law_write_step.kp T.b_law_write_step (pa_cons (pv 0) (pa_cons (pv 2) pa_nil))))))))
      (pss_one (ps_ret pe_bl))
      pss_nil)
      (pss_cons (ps_if (PW.pt (pw_or (pt_not (pt_val (v_call (ok_law_stands T) (hr.mono (by decide)) (by rfl) T.g_law_stands T.F_law_stands.kp T.b_law_stands (pa_cons (pv 0) (pa_cons (pv 2) pa_nil))))) (pw_or1 (pt_not (pt_val (v_call (ok_law_whole T) (hr.mono (by decide)) (by rfl) T.g_law_whole T.F_law_whole.kp T.b_law_whole (pa_cons (pv 2) pa_nil)))))))
      (pss_one (ps_ret pe_bl))
      pss_nil)
      (pss_cons (ps_if (PW.pt (pw_or (pt_not (pt_val (v_call (ok_law_write_step T) (hr.mono (by decide)) (by rfl) T.g_law_write_step T.F_law_write_step.kp T.b_law_write_step (pa_cons (pv 0) (pa_cons (pv 1) pa_nil))))) (pw_or1 (pt_not (pt_val (v_call (ok_law_whole T) (hr.mono (by decide)) (by rfl) T.g_law_whole T.F_law_whole.kp T.b_law_whole (pa_cons (pv 2) pa_nil)))))))
      (pss_one (ps_ret pe_bl))
      pss_nil)
      (pss_one (ps_ret (pe_and (v_call (ok_law_stands T) (hr.mono (by decide)) (by rfl) T.g_law_stands T.F_law_stands.kp T.b_law_stands (pa_cons (pv 0) (pa_cons (pv 1) pa_nil))) (pe_one (v_call (ok_law_whole T) (hr.mono (by decide)) (by rfl) T.g_law_whole T.F_law_whole.kp T.b_law_whole (pa_cons (pv 1) pa_nil)))))))))), st_2_1 rfl ?_⟩
  have hw3 := hw.2.2
  have S1 := wld_open S.swap
  clear S
  fail "go"
  rename_i c H2 S2
  clear S1
  refine mkD2 S2 (by omega) fun d2 H3 S3 => ?_
  clear S2
  fail "go"
  rename_i h2 H4 S4 w2 H5 S5
  clear S3 S4
  have S6 := wld_mk (show Sts H5 (pto w2 (.lst [.ref d2, .ref h2, .int 0, ov none]) :: dsk T.c_Disk d2 0 none xs :: pto h2 (.lst xs) :: pto w (.lst [.ref d, .ref h, .int n, ov lf]) :: dsk T.c_Disk d n lf xs :: pto h (.lst xs) :: pool p :: im τ :: F) by fail "fp")
  have S7 := wld_mk (show Sts H5 (pto w (.lst [.ref d, .ref h, .int n, ov lf]) :: dsk T.c_Disk d n lf xs :: pto h (.lst xs) :: wld T.c_Disk w2 d2 h2 0 none xs :: pool p :: im τ :: F) by fail "fp")
  clear S5 S6
  have a1 : Wo τ 0 none xs 10000 := ⟨hw.1, (fun _ h => nomatch h), by omega⟩
  fail "go"
  rename_i H6 S8
  clear S7
  refine ⟨p, w2, d2, h2, 0, none, xs, m, τ, _, rfl, (show Sts H6 (pool p :: wld T.c_Disk w2 d2 h2 0 none xs :: im τ :: wld T.c_Disk w d h n lf xs :: F) by fail "fp"), ⟨hw.1, (fun _ h => nomatch h), hw3⟩, by omega, fun n2 lf2 xs2 υ H7 l1 b1 S9 => ?_⟩
  clear S8 a1
  have b2 := b1.le (show m + 61 ≤ 10000 by omega)
  fail "go"
  rename_i H8 S10 H9 S11
  clear S9 S10
  refine ⟨p, w, d, h, n, lf, xs, m, υ, _, rfl, (show Sts H9 (pool p :: wld T.c_Disk w d h n lf xs :: im υ :: wld T.c_Disk w2 d2 h2 n2 lf2 xs2 :: F) by fail "fp"), hw.mono l1, by omega, fun n3 lf3 xs3 υ2 H10 l2 c1 S12 => ?_⟩
  clear S11
  have b3 := b2.mono l2
  clear b2
  have c2 := c1.le (show m + 61 ≤ 10000 by omega)
  fail "go"
  exact q υ2 _ (l1.trans l2) (by fail "fp")
def spLaw (K : PySem.W.Frag) : Sp := fun vs H Q _ => ∃ (a : Addr) (ns : List Int), vs = [.ref a] ∧ SqL K H a (ns.map V.int) ∧ ns.length ≤ 63 ∧ ∀ H', Q (.bl true) H'
theorem ok_law (T : Txt P K mg) : FnOk P w K mg base CX0 11 T.f_law T.fd_law ["script"] (spLaw K) := by
  refine T.F_law.ok sc_law (fun vs H Q E h => by obtain ⟨a, ns, rfl, _⟩ := h; rfl) (fun cdv A outer s H vs Q E hr h => ?_)
  obtain ⟨a, ns, rfl, hS, hlen, q⟩ := h
  have S := (sts_script hS).im0
  clear hS
  refine ⟨_, (pss_cons (ps_set (i := 1) sc_law.nd rfl (Or.inl rfl) (v_call (ok_law_pool T) (hr.mono (by decide)) (by rfl) T.g_law_pool T.F_law_pool.kp T.b_law_pool (pa_cons (pv 0) pa_nil)))
      (pss_cons (ps_set (i := 2) sc_law.nd rfl (Or.inl rfl) (pe_lst (pa_cons (v_call (ok_law_world T) (hr.mono (by decide)) (by rfl) T.g_law_world T.F_law_world.kp T.b_law_world (pa_cons (pv 1) pa_nil)) (pa_cons (v_call (ok_law_world T) (hr.mono (by decide)) (by rfl) T.g_law_world T.F_law_world.kp T.b_law_world (pa_cons (pv 1) pa_nil)) pa_nil))))
      (pss_cons (ps_set (i := 3) sc_law.nd rfl (Or.inl rfl) (pe_op op_add pe_int (v_call (ok_law_draw T) (hr.mono (by decide)) (by rfl) T.g_law_draw T.F_law_draw.kp T.b_law_draw (pa_cons (pv 1) (pa_cons pe_int pa_nil)))))
      (oc_cut (ps_if (pt_cmpR op_eq (v_call (ok_law_draw T) (hr.mono (by decide)) (by rfl) T.g_law_draw T.F_law_draw.kp T.b_law_draw (pa_cons (pv 1) (pa_cons pe_int pa_nil))) pe_int (nomark _))
      (pss_one (ps_set (i := 3) sc_law.nd rfl (Or.inl rfl) (pe_op op_add (pv 3) (v_call (ok_law_draw T) (hr.mono (by decide)) (by rfl) T.g_law_draw T.F_law_draw.kp T.b_law_draw (pa_cons (pv 1) (pa_cons pe_int pa_nil))))))
      pss_nil)
      (pss_cons (ps_for PassesOwn.never rfl (pi_range1 rfl T.z_range (pa_cons (pv 3) pa_nil)) (pg_name (i := 4) sc_law.nd rfl (Or.inl rfl))
      (pss_cons (ps_set (i := 5) sc_law.nd rfl (Or.inl rfl) (pe_ix (v_ix (K := K) rfl) (pv 2) (v_call (ok_law_draw T) (hr.mono (by decide)) (by rfl) T.g_law_draw T.F_law_draw.kp T.b_law_draw (pa_cons (pv 1) (pa_cons pe_int pa_nil))) (fun _ _ => rfl)))
      (oc_cut (ps_if (pt_cmpR op_eq (v_call (ok_law_draw T) (hr.mono (by decide)) (by rfl) T.g_law_draw T.F_law_draw.kp T.b_law_draw (pa_cons (pv 1) (pa_cons pe_int pa_nil))) pe_int (nomark _))
      (pss_one (ps_set (i := 6) sc_law.nd rfl (Or.inl rfl) (v_call (ok_law_allow_step T) (hr.mono (by decide)) (by rfl) T.g_law_allow_step T.F_law_allow_step.kp T.b_law_allow_step (pa_cons (pv 1) (pa_cons (pv 5) pa_nil)))))
      (pss_one (ps_set (i := 6) sc_law.nd rfl (Or.inl rfl) (v_call (ok_law_write_step T) (hr.mono (by decide)) (by rfl) T.g_law_write_step T.F_law_write_step.kp T.b_law_write_step (pa_cons (pv 1) (pa_cons (pv 5) pa_nil))))))
      (pss_one (ps_if (PW.pt (pw_or (pt_not (pt_val (pv 6))) (pw_or (pt_not (pt_val (v_call (ok_law_stands T) (hr.mono (by decide)) (by rfl) T.g_law_stands T.F_law_stands.kp T.b_law_stands (pa_cons (pv 1) (pa_cons (pe_ix (v_ix (K := K) rfl) (pv 2) pe_int (fun _ _ => rfl)) pa_nil))))) (pw_or1 (pt_not (pt_val (v_call (ok_law_stands T) (hr.mono (by decide)) (by rfl) T.g_law_stands T.F_law_stands.kp T.b_law_stands (pa_cons (pv 1) (pa_cons (pe_ix (v_ix (K := K) rfl) (pv 2) pe_int (fun _ _ => rfl)) pa_nil)))))))))
      (pss_one (ps_ret pe_bl))
      pss_nil)))))
      (pss_cons (ps_for PassesOwn.never rfl (pi_list (pv 2)) (pg_name (i := 5) sc_law.nd rfl (Or.inl rfl))
      (pss_one (ps_if (PW.pt (pw_or (pt_not (pt_val (v_call (ok_law_whole T) (hr.mono (by decide)) (by rfl) T.g_law_whole T.F_law_whole.kp T.b_law_whole (pa_cons (pv 5) pa_nil)))) (pw_or1 (pt_not (pt_val (v_call (ok_law_stands T) (hr.mono (by decide)) (by rfl) T.g_law_stands T.F_law_stands.kp T.b_law_stands (pa_cons (pv 1) (pa_cons (pv 5) pa_nil))))))))
      (pss_one (ps_ret pe_bl))
      pss_nil)))
      (pss_one (ps_ret (pe_and (v_call (ok_law_copied T) (hr.mono (by decide)) (by rfl) T.g_law_copied T.F_law_copied.kp T.b_law_copied (pa_cons (pv 1) (pa_cons (pe_ix (v_ix (K := K) rfl) (pv 2) pe_int (fun _ _ => rfl)) pa_nil))) (pe_one (v_call (ok_law_whole T) (hr.mono (by decide)) (by rfl) T.g_law_whole T.F_law_whole.kp T.b_law_whole (pa_cons (pe_ix (v_ix (K := K) rfl) (pv 2) pe_int (fun _ _ => rfl)) pa_nil)))))))))))), st_1_6 rfl ?_⟩
  fail "go"
  rename_i p H1 S1
  clear S
  refine ⟨p, _, _, rfl, (show Sts H1 (pool p :: (im fun _ => none) :: [sqc K a (ns.map V.int)]) by fail "fp"), fun w1 d1 h1 xs1 τ1 H2 l1 a1 S2 => ?_⟩
  clear S1
  fail "go"
  refine ⟨p, τ1, _, rfl, (show Sts H2 (pool p :: im τ1 :: [wld T.c_Disk w1 d1 h1 0 none xs1, sqc K a (ns.map V.int)]) by fail "fp"), fun w2 d2 h2 xs2 τ2 H3 l2 a2 S3 => ?_⟩
  clear S2
  have a1 := a1.mono l2
  fail "go"
  rename_i ws H4 S4 f H5 f0 f1 S5
  clear S3 S4
  refine ⟨fun σ H => ∃ st : Int, 0 ≤ st ∧ st ≤ 40 ∧ σ = [some (.ref a), some (.ref p), some (.ref ws), some (.int st), none, none, none] ∧
    Sts H [pool p, wld T.c_Disk w1 d1 h1 0 none xs1, wld T.c_Disk w2 d2 h2 0 none xs2, im τ2, pto ws (.lst [.ref w1, .ref w2])], ?_, ?_⟩
  · fail "go"
    with_reducible refine ifB (fun k => ?_) (fun k => ?_)
    · fail "go"
      exact ⟨_, by omega, by omega, rfl, by fail "fp"⟩
    · fail "go"
      exact ⟨_, by omega, by omega, rfl, by fail "fp"⟩
  clear S5
  rintro σ H ⟨st, st0, st1, rfl, S⟩
  fail "go"
  refine for_range (lo := 0) (n := st.toNat) (fun i σ H => ∃ (n1 n2 : Int) (lf1 lf2 : Option Int) (xs1 xs2 : List V) (τ : Tmap) (x4 x5 x6 : Option V), Wo τ n1 lf1 xs1 (6 + 61 * i) ∧ Wo τ n2 lf2 xs2 (6 + 61 * i) ∧ σ = [some (.ref a), some (.ref p), some (.ref ws), some (.int st), x4, x5, x6] ∧
    Sts H [pool p, wld T.c_Disk w1 d1 h1 n1 lf1 xs1, wld T.c_Disk w2 d2 h2 n2 lf2 xs2, im τ, pto ws (.lst [.ref w1, .ref w2])]) ⟨0, 0, none, none, xs1, xs2, τ2, none, none, none, a1, a2, rfl, S⟩ ?_ ?_
  · clear S a1 a2
    rintro i σ H hi ⟨n1, n2, lf1, lf2, xs1, xs2, τ, x4, x5, x6, b1, b2, rfl, S⟩
    fail "go"
    rename_i g H6 g0 g1 S6
    clear S
    have eg : g = 0 ∨ g = 1 := by omega
    rcases eg with rfl | rfl
    · refine g_ix (K := K) (v := V.ref w1) (by fail "sq") rfl ?_
      fail "go"
      refine ⟨fun σ H => ∃ (n1 n2 : Int) (lf1 lf2 : Option Int) (xs1 xs2 : List V) (τ : Tmap), Wo τ n1 lf1 xs1 (6 + 61 * (i + 1)) ∧ Wo τ n2 lf2 xs2 (6 + 61 * (i + 1)) ∧ σ = [some (.ref a), some (.ref p), some (.ref ws), some (.int st), some (.int (0 + (i : Nat))), some (.ref w1), some (.bl true)] ∧
        Sts H [pool p, wld T.c_Disk w1 d1 h1 n1 lf1 xs1, wld T.c_Disk w2 d2 h2 n2 lf2 xs2, im τ, pto ws (.lst [.ref w1, .ref w2])], ?_, ?_⟩
      · fail "go"
        rename_i e H7 e0 e1 S7
        clear S6
        with_reducible refine ifB (fun k => ?_) (fun k => ?_)
        · fail "go"
          refine ⟨p, w1, d1, h1, n1, lf1, xs1, 6 + 61 * i, τ, _, rfl, (show Sts H7 (pool p :: wld T.c_Disk w1 d1 h1 n1 lf1 xs1 :: im τ :: [wld T.c_Disk w2 d2 h2 n2 lf2 xs2, pto ws (.lst [.ref w1, .ref w2])]) by fail "fp"), b1, fun mf υ H8 l hw S8 => ?_⟩
          clear S7
          fail "go"
          exact ⟨n1, n2, mf, lf2, xs1, xs2, υ, hw.le (by omega), (b2.mono l).le (by omega), rfl, by fail "fp"⟩
        · fail "go"
          refine ⟨p, w1, d1, h1, n1, lf1, xs1, 6 + 61 * i, τ, _, rfl, (show Sts H7 (pool p :: wld T.c_Disk w1 d1 h1 n1 lf1 xs1 :: im τ :: [wld T.c_Disk w2 d2 h2 n2 lf2 xs2, pto ws (.lst [.ref w1, .ref w2])]) by fail "fp"), b1, by omega, fun n' lf' xs' υ H8 l hw S8 => ?_⟩
          clear S7
          fail "go"
          exact ⟨n', n2, lf', lf2, xs', xs2, υ, hw.le (by omega), (b2.mono l).le (by omega), rfl, by fail "fp"⟩
      · clear S6 b1 b2
        rintro σ H ⟨n1, n2, lf1, lf2, xs1, xs2, τ, b1, b2, rfl, S⟩
        have c1 := b1.le (show 6 + 61 * (i + 1) ≤ 10000 by omega)
        have c2 := b2.le (show 6 + 61 * (i + 1) ≤ 10000 by omega)
        fail "go"
        exact ⟨n1, n2, lf1, lf2, xs1, xs2, τ, _, _, _, b1, b2, rfl, by fail "fp"⟩
    · refine g_ix (K := K) (v := V.ref w2) (by fail "sq") rfl ?_
      fail "go"
      refine ⟨fun σ H => ∃ (n1 n2 : Int) (lf1 lf2 : Option Int) (xs1 xs2 : List V) (τ : Tmap), Wo τ n1 lf1 xs1 (6 + 61 * (i + 1)) ∧ Wo τ n2 lf2 xs2 (6 + 61 * (i + 1)) ∧ σ = [some (.ref a), some (.ref p), some (.ref ws), some (.int st), some (.int (0 + (i : Nat))), some (.ref w2), some (.bl true)] ∧
        Sts H [pool p, wld T.c_Disk w1 d1 h1 n1 lf1 xs1, wld T.c_Disk w2 d2 h2 n2 lf2 xs2, im τ, pto ws (.lst [.ref w1, .ref w2])], ?_, ?_⟩
      · fail "go"
        rename_i e H7 e0 e1 S7
        clear S6
        with_reducible refine ifB (fun k => ?_) (fun k => ?_)
        · fail "go"
          refine ⟨p, w2, d2, h2, n2, lf2, xs2, 6 + 61 * i, τ, _, rfl, (show Sts H7 (pool p :: wld T.c_Disk w2 d2 h2 n2 lf2 xs2 :: im τ :: [wld T.c_Disk w1 d1 h1 n1 lf1 xs1, pto ws (.lst [.ref w1, .ref w2])]) by fail "fp"), b2, fun mf υ H8 l hw S8 => ?_⟩
          clear S7
          fail "go"
          exact ⟨n1, n2, lf1, mf, xs1, xs2, υ, (b1.mono l).le (by omega), hw.le (by omega), rfl, by fail "fp"⟩
        · fail "go"
          refine ⟨p, w2, d2, h2, n2, lf2, xs2, 6 + 61 * i, τ, _, rfl, (show Sts H7 (pool p :: wld T.c_Disk w2 d2 h2 n2 lf2 xs2 :: im τ :: [wld T.c_Disk w1 d1 h1 n1 lf1 xs1, pto ws (.lst [.ref w1, .ref w2])]) by fail "fp"), b2, by omega, fun n' lf' xs' υ H8 l hw S8 => ?_⟩
          clear S7
          fail "go"
          exact ⟨n1, n', lf1, lf', xs1, xs', υ, (b1.mono l).le (by omega), hw.le (by omega), rfl, by fail "fp"⟩
      · clear S6 b1 b2
        rintro σ H ⟨n1, n2, lf1, lf2, xs1, xs2, τ, b1, b2, rfl, S⟩
        have c1 := b1.le (show 6 + 61 * (i + 1) ≤ 10000 by omega)
        have c2 := b2.le (show 6 + 61 * (i + 1) ≤ 10000 by omega)
        fail "go"
        exact ⟨n1, n2, lf1, lf2, xs1, xs2, τ, _, _, _, b1, b2, rfl, by fail "fp"⟩
  · clear S a1 a2
    rintro σ H ⟨n1, n2, lf1, lf2, xs1, xs2, τ, x4, x5, x6, b1, b2, rfl, S⟩
    have c1 := b1.le (show 6 + 61 * st.toNat ≤ 10000 by omega)
    have c2 := b2.le (show 6 + 61 * st.toNat ≤ 10000 by omega)
    fail "go"
    refine for_list (K := K) (a := ws) (xs := [V.ref w1, V.ref w2]) (fun _ σ H => ∃ x4 x5 x6 : Option V, σ = [some (.ref a), some (.ref p), some (.ref ws), some (.int st), x4, x5, x6] ∧
      Sts H [pool p, wld T.c_Disk w1 d1 h1 n1 lf1 xs1, wld T.c_Disk w2 d2 h2 n2 lf2 xs2, im τ, pto ws (.lst [.ref w1, .ref w2])]) ⟨x4, x5, x6, rfl, S⟩ (fun i σ H _ ⟨_, _, _, _, S⟩ => by fail "sq") ?_ ?_
    · clear S
      rintro i x σ H hx ⟨x4, x5, x6, rfl, S⟩
      obtain rfl | rfl : x = .ref w1 ∨ x = .ref w2 := by
        match i, hx with
        | 0, hx =>
          cases hx
          exact .inl rfl
        | 1, hx =>
          cases hx
          exact .inr rfl
        | _ + 2, hx => cases hx
      · fail "go"
        exact ⟨_, _, _, rfl, by fail "fp"⟩
      · fail "go"
        exact ⟨_, _, _, rfl, by fail "fp"⟩
    · clear S
      rintro σ H ⟨x4, x5, x6, rfl, S⟩
      fail "go"
      refine ⟨p, w1, d1, h1, n1, lf1, xs1, 6 + 61 * st.toNat, τ, _, rfl, (show Sts H (pool p :: wld T.c_Disk w1 d1 h1 n1 lf1 xs1 :: im τ :: [wld T.c_Disk w2 d2 h2 n2 lf2 xs2, pto ws (.lst [.ref w1, .ref w2])]) by fail "fp"), b1, by omega, fun υ H7 l S7 => ?_⟩
      clear S
      have c3 := c2.mono l
      fail "go"
      exact q _

--PART
/-! -/

end
set_option maxHeartbeats 4000000
/-! ### what the top has written; the law's own head -/
theorem all_mk {w : World} {K : PySem.W.Frag} {h : Heap} {mg : Str → Option Value} {fa : Addr} (X : K.In h) (G : h.Ns mainGlobals mg) (hfa : mg "law" = some (.ref fa))
    {cc_OnecopyError : Addr}
    {cc_Stopped : Addr}
    {cc_InvalidAllowance : Addr}
    {cc_Disk : Addr}
    {pp_Disk_allowance : Addr} {pt_Disk_allowance : List Value}
    {f0 : Addr} {od0 an0 : Option Addr} {sl0 : Array (Option Value)} {oc0 kV0 dc0 pm0 ct0 : Value}
    {q0 h0 : Addr} {ql0 hl0 : Value} {qd0 hd0 : Option Addr} {qs0 hs0 : Array (Option Value)} {hv0 : Array Value} {hf0 : Str} {ht0 : Tok} {ci0 : ClassData}
    {f1 : Addr} {od1 an1 : Option Addr} {sl1 : Array (Option Value)} {oc1 kV1 dc1 pm1 ct1 : Value}
    {q1 h1 : Addr} {ql1 hl1 : Value} {qd1 hd1 : Option Addr} {qs1 hs1 : Array (Option Value)} {hv1 : Array Value} {hf1 : Str} {ht1 : Tok} {ci1 : ClassData}
    {f2 : Addr} {od2 an2 : Option Addr} {sl2 : Array (Option Value)} {oc2 kV2 dc2 pm2 cd2 ct2 : Value}
    {dT2 : Addr} {dtc2 : Value} {dtd2 : Option Addr} {dtm2 : Nat} {dts2 : Array (Option Value)}
    {f3 : Addr} {od3 an3 : Option Addr} {sl3 : Array (Option Value)} {oc3 kV3 dc3 pm3 cd3 ct3 : Value}
    {f4 : Addr} {od4 an4 : Option Addr} {sl4 : Array (Option Value)} {oc4 kV4 dc4 pm4 cd4 ct4 : Value}
    {f5 : Addr} {od5 an5 : Option Addr} {sl5 : Array (Option Value)} {oc5 kV5 dc5 pm5 cd5 ct5 : Value}
    {f6 : Addr} {od6 an6 : Option Addr} {sl6 : Array (Option Value)} {oc6 kV6 dc6 pm6 cd6 ct6 : Value}
    {f7 : Addr} {od7 an7 : Option Addr} {sl7 : Array (Option Value)} {oc7 kV7 dc7 pm7 cd7 ct7 : Value}
    {f8 : Addr} {od8 an8 : Option Addr} {sl8 : Array (Option Value)} {oc8 kV8 dc8 pm8 cd8 ct8 : Value}
    {f9 : Addr} {od9 an9 : Option Addr} {sl9 : Array (Option Value)} {oc9 kV9 dc9 pm9 cd9 ct9 : Value}
    {f10 : Addr} {od10 an10 : Option Addr} {sl10 : Array (Option Value)} {oc10 kV10 dc10 pm10 cd10 ct10 : Value}
    {f11 : Addr} {od11 an11 : Option Addr} {sl11 : Array (Option Value)} {oc11 kV11 dc11 pm11 cd11 ct11 : Value}
    {f12 : Addr} {od12 an12 : Option Addr} {sl12 : Array (Option Value)} {oc12 kV12 dc12 pm12 cd12 ct12 : Value}
    {f13 : Addr} {od13 an13 : Option Addr} {sl13 : Array (Option Value)} {oc13 kV13 dc13 pm13 cd13 ct13 : Value}
    {f14 : Addr} {od14 an14 : Option Addr} {sl14 : Array (Option Value)} {oc14 kV14 dc14 pm14 cd14 ct14 : Value}
    {f15 : Addr} {od15 an15 : Option Addr} {sl15 : Array (Option Value)} {oc15 kV15 dc15 pm15 cd15 ct15 : Value}
    {f16 : Addr} {od16 an16 : Option Addr} {sl16 : Array (Option Value)} {oc16 kV16 dc16 pm16 cd16 ct16 : Value}
    {f17 : Addr} {od17 an17 : Option Addr} {sl17 : Array (Option Value)} {oc17 kV17 dc17 pm17 cd17 ct17 : Value}
    {f18 : Addr} {od18 an18 : Option Addr} {sl18 : Array (Option Value)} {oc18 kV18 dc18 pm18 cd18 ct18 : Value}
    {f19 : Addr} {od19 an19 : Option Addr} {sl19 : Array (Option Value)} {oc19 kV19 dc19 pm19 cd19 ct19 : Value}
    {f20 : Addr} {od20 an20 : Option Addr} {sl20 : Array (Option Value)} {oc20 kV20 dc20 pm20 cd20 ct20 : Value}
    {f21 : Addr} {od21 an21 : Option Addr} {sl21 : Array (Option Value)} {oc21 kV21 dc21 pm21 cd21 ct21 : Value}
    {f22 : Addr} {od22 an22 : Option Addr} {sl22 : Array (Option Value)} {oc22 kV22 dc22 pm22 cd22 ct22 : Value}
    {f23 : Addr} {od23 an23 : Option Addr} {sl23 : Array (Option Value)} {oc23 kV23 dc23 pm23 cd23 ct23 : Value}
    {f24 : Addr} {od24 an24 : Option Addr} {sl24 : Array (Option Value)} {oc24 kV24 dc24 pm24 cd24 ct24 : Value}
    {f25 : Addr} {od25 an25 : Option Addr} {sl25 : Array (Option Value)} {oc25 kV25 dc25 pm25 cd25 ct25 : Value}
    {f26 : Addr} {od26 an26 : Option Addr} {sl26 : Array (Option Value)} {oc26 kV26 dc26 pm26 cd26 ct26 : Value}
    {xnm_Stopped xq_Stopped : Str} {xN_Stopped : Addr} {xbs_Stopped xbm_Stopped xsub_Stopped : List Value} {xsn_Stopped : List Str} {xab_Stopped : Bool} {xcol_Stopped : Option Bool} {xdd_Stopped : Option Addr} {x0_Stopped x1_Stopped x2_Stopped x3_Stopped x5_Stopped : Option Value}
    {xnm_InvalidAllowance xq_InvalidAllowance : Str} {xN_InvalidAllowance : Addr} {xbs_InvalidAllowance xbm_InvalidAllowance xsub_InvalidAllowance : List Value} {xsn_InvalidAllowance : List Str} {xab_InvalidAllowance : Bool} {xcol_InvalidAllowance : Option Bool} {xdd_InvalidAllowance : Option Addr} {x0_InvalidAllowance x1_InvalidAllowance x2_InvalidAllowance x3_InvalidAllowance x5_InvalidAllowance : Option Value}
    (gc_OnecopyError : PySem.W.nsIn K mainGlobals "OnecopyError" = some (some (.ref cc_OnecopyError)))
    (gc_Stopped : PySem.W.nsIn K mainGlobals "Stopped" = some (some (.ref cc_Stopped)))
    (gc_InvalidAllowance : PySem.W.nsIn K mainGlobals "InvalidAllowance" = some (some (.ref cc_InvalidAllowance)))
    (gc_Disk : PySem.W.nsIn K mainGlobals "Disk" = some (some (.ref cc_Disk)))
    (ap_Disk_allowance : PySem.W.findIn K (.ref cc_Disk) "allowance" = some (some (.ref pp_Disk_allowance)))
    (pr_Disk_allowance : PySem.W.recIn K pp_Disk_allowance "property" = some (.ref f7 :: .ref f8 :: pt_Disk_allowance))
    (pi_Disk_allowance : PySem.W.specialIn K (.ref pp_Disk_allowance) "__get__" = some (some (.builtin "property.__get__")))
    (pk_Disk_allowance : PySem.W.takesIn K (.ref pp_Disk_allowance) = some true)
    (pt_Disk_allowancex : PySem.W.takerIn K cc_Disk "allowance" = some (some (.ref pp_Disk_allowance)))
    (py_Disk_allowance : PySem.W.typeIn K (.ref pp_Disk_allowance) = some (.type "property"))
    (a0 : PySem.W.findIn K (.ref cc_Stopped) "__init__" = some (some (.ref f0)))
    (l0 : K.lookup f0 = some ⟨oc0, od0, .func (PySem.W.fnX "__init__" "Stopped.__init__" (defArgs s_Stopped_init) (defBody s_Stopped_init) (defScope s_Stopped_init) [("__class__", q0)] .none kV0 dc0 pm0 an0 (.ref h0) ct0), sl0⟩)
    (c0 : PySem.W.codeIn K (.ref h0) "Stopped.__init__" = true)
    (cq0 : K.lookup q0 = some ⟨ql0, qd0, .cell (some (.ref cc_Stopped)), qs0⟩)
    (ch0 : K.lookup h0 = some ⟨hl0, hd0, .fields hv0, hs0⟩)
    (cf0 : hv0[2]? = some (.str hf0 ht0))
    (cg0 : ((PySem.Challenge.rw_onecopy_k19_cells.prog.main.file : Str) == hf0) = true)
    (ci0x : PySem.W.clsIn K cc_Stopped = some ci0)
    (cs0 : PySem.W.nsIn K mainGlobals "super" = some none)
    (ct0x : (PySem.Challenge.rw_onecopy_k19_cells.prog.main.scope.names.lookup ("super" : Str)).isSome = false)
    (a1 : PySem.W.findIn K (.ref cc_InvalidAllowance) "__init__" = some (some (.ref f1)))
    (l1 : K.lookup f1 = some ⟨oc1, od1, .func (PySem.W.fnX "__init__" "InvalidAllowance.__init__" (defArgs s_InvalidAllowance_init) (defBody s_InvalidAllowance_init) (defScope s_InvalidAllowance_init) [("__class__", q1)] .none kV1 dc1 pm1 an1 (.ref h1) ct1), sl1⟩)
    (c1 : PySem.W.codeIn K (.ref h1) "InvalidAllowance.__init__" = true)
    (cq1 : K.lookup q1 = some ⟨ql1, qd1, .cell (some (.ref cc_InvalidAllowance)), qs1⟩)
    (ch1 : K.lookup h1 = some ⟨hl1, hd1, .fields hv1, hs1⟩)
    (cf1 : hv1[2]? = some (.str hf1 ht1))
    (cg1 : ((PySem.Challenge.rw_onecopy_k19_cells.prog.main.file : Str) == hf1) = true)
    (ci1x : PySem.W.clsIn K cc_InvalidAllowance = some ci1)
    (cs1 : PySem.W.nsIn K mainGlobals "super" = some none)
    (ct1x : (PySem.Challenge.rw_onecopy_k19_cells.prog.main.scope.names.lookup ("super" : Str)).isSome = false)
    (a2 : PySem.W.findIn K (.ref cc_Disk) "__init__" = some (some (.ref f2)))
    (l2 : K.lookup f2 = some ⟨oc2, od2, .func (PySem.W.fnOf "__init__" "Disk.__init__" (defArgs s_Disk_init) (defBody s_Disk_init) (defScope s_Disk_init) (.ref dT2) kV2 dc2 pm2 an2 cd2 ct2), sl2⟩)
    (dd2 : K.lookup dT2 = some ⟨dtc2, dtd2, .seq #[.none] dtm2, dts2⟩)
    (c2 : PySem.W.codeIn K cd2 "Disk.__init__" = true)
    (k2 : PySem.W.keepIn K (.ref f2) = true)
    (a3 : PySem.W.findIn K (.ref cc_Disk) "__len__" = some (some (.ref f3)))
    (l3 : K.lookup f3 = some ⟨oc3, od3, .func (PySem.W.fnOf "__len__" "Disk.__len__" (defArgs s_Disk_len) (defBody s_Disk_len) (defScope s_Disk_len) .none kV3 dc3 pm3 an3 cd3 ct3), sl3⟩)
    (c3 : PySem.W.codeIn K cd3 "Disk.__len__" = true)
    (k3 : PySem.W.keepIn K (.ref f3) = true)
    (a4 : PySem.W.findIn K (.ref cc_Disk) "cells" = some (some (.ref f4)))
    (l4 : K.lookup f4 = some ⟨oc4, od4, .func (PySem.W.fnOf "cells" "Disk.cells" (defArgs s_Disk_cells) (defBody s_Disk_cells) (defScope s_Disk_cells) .none kV4 dc4 pm4 an4 cd4 ct4), sl4⟩)
    (c4 : PySem.W.codeIn K cd4 "Disk.cells" = true)
    (k4 : PySem.W.keepIn K (.ref f4) = true)
    (a5 : PySem.W.findIn K (.ref cc_Disk) "read_cell" = some (some (.ref f5)))
    (l5 : K.lookup f5 = some ⟨oc5, od5, .func (PySem.W.fnOf "read_cell" "Disk.read_cell" (defArgs s_Disk_read_cell) (defBody s_Disk_read_cell) (defScope s_Disk_read_cell) .none kV5 dc5 pm5 an5 cd5 ct5), sl5⟩)
    (c5 : PySem.W.codeIn K cd5 "Disk.read_cell" = true)
    (k5 : PySem.W.keepIn K (.ref f5) = true)
    (a6 : PySem.W.findIn K (.ref cc_Disk) "write_cell" = some (some (.ref f6)))
    (l6 : K.lookup f6 = some ⟨oc6, od6, .func (PySem.W.fnOf "write_cell" "Disk.write_cell" (defArgs s_Disk_write_cell) (defBody s_Disk_write_cell) (defScope s_Disk_write_cell) .none kV6 dc6 pm6 an6 cd6 ct6), sl6⟩)
    (c6 : PySem.W.codeIn K cd6 "Disk.write_cell" = true)
    (k6 : PySem.W.keepIn K (.ref f6) = true)
    (l7 : K.lookup f7 = some ⟨oc7, od7, .func (PySem.W.fnOf "allowance" "Disk.allowance" (defArgs s_Disk_allowance) (defBody s_Disk_allowance) (defScope s_Disk_allowance) .none kV7 dc7 pm7 an7 cd7 ct7), sl7⟩)
    (c7 : PySem.W.codeIn K cd7 "Disk.allowance" = true)
    (k7 : PySem.W.keepIn K (.ref f7) = true)
    (l8 : K.lookup f8 = some ⟨oc8, od8, .func (PySem.W.fnOf "allowance" "Disk.allowance" (defArgs s_Disk_allowance_set) (defBody s_Disk_allowance_set) (defScope s_Disk_allowance_set) .none kV8 dc8 pm8 an8 cd8 ct8), sl8⟩)
    (c8 : PySem.W.codeIn K cd8 "Disk.allowance" = true)
    (k8 : PySem.W.keepIn K (.ref f8) = true)
    (a9 : PySem.W.findIn K (.ref cc_Disk) "allow" = some (some (.ref f9)))
    (l9 : K.lookup f9 = some ⟨oc9, od9, .func (PySem.W.fnOf "allow" "Disk.allow" (defArgs s_Disk_allow) (defBody s_Disk_allow) (defScope s_Disk_allow) .none kV9 dc9 pm9 an9 cd9 ct9), sl9⟩)
    (c9 : PySem.W.codeIn K cd9 "Disk.allow" = true)
    (k9 : PySem.W.keepIn K (.ref f9) = true)
    (a10 : PySem.W.nsIn K mainGlobals "_law_pool" = some (some (.ref f10)))
    (l10 : K.lookup f10 = some ⟨oc10, od10, .func (PySem.W.fnOf "_law_pool" "_law_pool" (defArgs s_law_pool) (defBody s_law_pool) (defScope s_law_pool) .none kV10 dc10 pm10 an10 cd10 ct10), sl10⟩)
    (c10 : PySem.W.codeIn K cd10 "_law_pool" = true)
    (k10 : PySem.W.keepIn K (.ref f10) = true)
    (a11 : PySem.W.nsIn K mainGlobals "_law_draw" = some (some (.ref f11)))
    (l11 : K.lookup f11 = some ⟨oc11, od11, .func (PySem.W.fnOf "_law_draw" "_law_draw" (defArgs s_law_draw) (defBody s_law_draw) (defScope s_law_draw) .none kV11 dc11 pm11 an11 cd11 ct11), sl11⟩)
    (c11 : PySem.W.codeIn K cd11 "_law_draw" = true)
    (k11 : PySem.W.keepIn K (.ref f11) = true)
    (a12 : PySem.W.nsIn K mainGlobals "_law_same" = some (some (.ref f12)))
    (l12 : K.lookup f12 = some ⟨oc12, od12, .func (PySem.W.fnOf "_law_same" "_law_same" (defArgs s_law_same) (defBody s_law_same) (defScope s_law_same) .none kV12 dc12 pm12 an12 cd12 ct12), sl12⟩)
    (c12 : PySem.W.codeIn K cd12 "_law_same" = true)
    (k12 : PySem.W.keepIn K (.ref f12) = true)
    (a13 : PySem.W.nsIn K mainGlobals "_law_text" = some (some (.ref f13)))
    (l13 : K.lookup f13 = some ⟨oc13, od13, .func (PySem.W.fnOf "_law_text" "_law_text" (defArgs s_law_text) (defBody s_law_text) (defScope s_law_text) .none kV13 dc13 pm13 an13 cd13 ct13), sl13⟩)
    (c13 : PySem.W.codeIn K cd13 "_law_text" = true)
    (k13 : PySem.W.keepIn K (.ref f13) = true)
    (a14 : PySem.W.nsIn K mainGlobals "_law_plain" = some (some (.ref f14)))
    (l14 : K.lookup f14 = some ⟨oc14, od14, .func (PySem.W.fnOf "_law_plain" "_law_plain" (defArgs s_law_plain) (defBody s_law_plain) (defScope s_law_plain) .none kV14 dc14 pm14 an14 cd14 ct14), sl14⟩)
    (c14 : PySem.W.codeIn K cd14 "_law_plain" = true)
    (k14 : PySem.W.keepIn K (.ref f14) = true)
    (a15 : PySem.W.nsIn K mainGlobals "_law_content" = some (some (.ref f15)))
    (l15 : K.lookup f15 = some ⟨oc15, od15, .func (PySem.W.fnOf "_law_content" "_law_content" (defArgs s_law_content) (defBody s_law_content) (defScope s_law_content) .none kV15 dc15 pm15 an15 cd15 ct15), sl15⟩)
    (c15 : PySem.W.codeIn K cd15 "_law_content" = true)
    (k15 : PySem.W.keepIn K (.ref f15) = true)
    (a16 : PySem.W.nsIn K mainGlobals "_law_refusal" = some (some (.ref f16)))
    (l16 : K.lookup f16 = some ⟨oc16, od16, .func (PySem.W.fnOf "_law_refusal" "_law_refusal" (defArgs s_law_refusal) (defBody s_law_refusal) (defScope s_law_refusal) .none kV16 dc16 pm16 an16 cd16 ct16), sl16⟩)
    (c16 : PySem.W.codeIn K cd16 "_law_refusal" = true)
    (k16 : PySem.W.keepIn K (.ref f16) = true)
    (a17 : PySem.W.nsIn K mainGlobals "_law_written" = some (some (.ref f17)))
    (l17 : K.lookup f17 = some ⟨oc17, od17, .func (PySem.W.fnOf "_law_written" "_law_written" (defArgs s_law_written) (defBody s_law_written) (defScope s_law_written) .none kV17 dc17 pm17 an17 cd17 ct17), sl17⟩)
    (c17 : PySem.W.codeIn K cd17 "_law_written" = true)
    (k17 : PySem.W.keepIn K (.ref f17) = true)
    (a18 : PySem.W.nsIn K mainGlobals "_law_allowed" = some (some (.ref f18)))
    (l18 : K.lookup f18 = some ⟨oc18, od18, .func (PySem.W.fnOf "_law_allowed" "_law_allowed" (defArgs s_law_allowed) (defBody s_law_allowed) (defScope s_law_allowed) .none kV18 dc18 pm18 an18 cd18 ct18), sl18⟩)
    (c18 : PySem.W.codeIn K cd18 "_law_allowed" = true)
    (k18 : PySem.W.keepIn K (.ref f18) = true)
    (a19 : PySem.W.nsIn K mainGlobals "_law_world" = some (some (.ref f19)))
    (l19 : K.lookup f19 = some ⟨oc19, od19, .func (PySem.W.fnOf "_law_world" "_law_world" (defArgs s_law_world) (defBody s_law_world) (defScope s_law_world) .none kV19 dc19 pm19 an19 cd19 ct19), sl19⟩)
    (c19 : PySem.W.codeIn K cd19 "_law_world" = true)
    (k19 : PySem.W.keepIn K (.ref f19) = true)
    (a20 : PySem.W.nsIn K mainGlobals "_law_stands" = some (some (.ref f20)))
    (l20 : K.lookup f20 = some ⟨oc20, od20, .func (PySem.W.fnOf "_law_stands" "_law_stands" (defArgs s_law_stands) (defBody s_law_stands) (defScope s_law_stands) .none kV20 dc20 pm20 an20 cd20 ct20), sl20⟩)
    (c20 : PySem.W.codeIn K cd20 "_law_stands" = true)
    (k20 : PySem.W.keepIn K (.ref f20) = true)
    (a21 : PySem.W.nsIn K mainGlobals "_law_stopped" = some (some (.ref f21)))
    (l21 : K.lookup f21 = some ⟨oc21, od21, .func (PySem.W.fnOf "_law_stopped" "_law_stopped" (defArgs s_law_stopped) (defBody s_law_stopped) (defScope s_law_stopped) .none kV21 dc21 pm21 an21 cd21 ct21), sl21⟩)
    (c21 : PySem.W.codeIn K cd21 "_law_stopped" = true)
    (k21 : PySem.W.keepIn K (.ref f21) = true)
    (a22 : PySem.W.nsIn K mainGlobals "_law_write_step" = some (some (.ref f22)))
    (l22 : K.lookup f22 = some ⟨oc22, od22, .func (PySem.W.fnOf "_law_write_step" "_law_write_step" (defArgs s_law_write_step) (defBody s_law_write_step) (defScope s_law_write_step) .none kV22 dc22 pm22 an22 cd22 ct22), sl22⟩)
    (c22 : PySem.W.codeIn K cd22 "_law_write_step" = true)
    (k22 : PySem.W.keepIn K (.ref f22) = true)
    (a23 : PySem.W.nsIn K mainGlobals "_law_allow_step" = some (some (.ref f23)))
    (l23 : K.lookup f23 = some ⟨oc23, od23, .func (PySem.W.fnOf "_law_allow_step" "_law_allow_step" (defArgs s_law_allow_step) (defBody s_law_allow_step) (defScope s_law_allow_step) .none kV23 dc23 pm23 an23 cd23 ct23), sl23⟩)
    (c23 : PySem.W.codeIn K cd23 "_law_allow_step" = true)
    (k23 : PySem.W.keepIn K (.ref f23) = true)
    (a24 : PySem.W.nsIn K mainGlobals "_law_whole" = some (some (.ref f24)))
    (l24 : K.lookup f24 = some ⟨oc24, od24, .func (PySem.W.fnOf "_law_whole" "_law_whole" (defArgs s_law_whole) (defBody s_law_whole) (defScope s_law_whole) .none kV24 dc24 pm24 an24 cd24 ct24), sl24⟩)
    (c24 : PySem.W.codeIn K cd24 "_law_whole" = true)
    (k24 : PySem.W.keepIn K (.ref f24) = true)
    (a25 : PySem.W.nsIn K mainGlobals "_law_copied" = some (some (.ref f25)))
    (l25 : K.lookup f25 = some ⟨oc25, od25, .func (PySem.W.fnOf "_law_copied" "_law_copied" (defArgs s_law_copied) (defBody s_law_copied) (defScope s_law_copied) .none kV25 dc25 pm25 an25 cd25 ct25), sl25⟩)
    (c25 : PySem.W.codeIn K cd25 "_law_copied" = true)
    (k25 : PySem.W.keepIn K (.ref f25) = true)
    (a26 : PySem.W.nsIn K mainGlobals "law" = some (some (.ref f26)))
    (l26 : K.lookup f26 = some ⟨oc26, od26, .func (PySem.W.fnOf "law" "law" (defArgs s_law) (defBody s_law) (defScope s_law) .none kV26 dc26 pm26 an26 cd26 ct26), sl26⟩)
    (c26 : PySem.W.codeIn K cd26 "law" = true)
    (k26 : PySem.W.keepIn K (.ref f26) = true)
    (xL_Stopped : K.lookup cc_Stopped = some (excClassObj xnm_Stopped xq_Stopped cc_Stopped xN_Stopped xbs_Stopped xbm_Stopped true xsn_Stopped xsub_Stopped xab_Stopped xcol_Stopped xdd_Stopped x0_Stopped x1_Stopped x2_Stopped x3_Stopped x5_Stopped "ValueError.__new__"))
    (xr_Stopped : PySem.HandSPX.refsVE xbm_Stopped = true)
    (xs_Stopped : PySem.W.findIn K (.ref cc_Stopped) "__setattr__" = some (some (.builtin "object.__setattr__")))
    (xe_Stopped : PySem.W.subIn K (.ref cc_Stopped) (.type "BaseException") = some true)
    (xt_Stopped : PySem.W.typeIn K (.ref cc_Stopped) = some (.type "type"))
    (xk_Stopped : PySem.W.keepIn K (.ref cc_Stopped) = true)
    (xu_Stopped : PySem.W.mroIn K cc_Stopped (.ref cc_Stopped) = some true)
    (xn_Stopped : PySem.W.ks_superIn K cc_Stopped cc_Stopped "__init__" = some (some (.builtin "ValueError.__init__")))
    (te_Stopped_OnecopyError : PySem.W.exmOne K (.ref cc_Stopped) (.ref cc_OnecopyError) = some true)
    (xv_Stopped : PySem.W.subIn K (.ref cc_Stopped) (.type "ValueError") = some true)
    (xy_Stopped : PySem.W.nsIn K cStatics "thirdparty.any" = some none)
    (ti_Stopped : PySem.W.typeIn K (.ref f0) = some (.type "function"))
    (xga_Stopped : PySem.W.findIn K (.ref cc_Stopped) "__getattribute__" = some (some (.builtin "BaseException.__getattribute__")))
    (xgg_Stopped : PySem.W.findIn K (.ref cc_Stopped) "__getattr__" = some none)
    (xhd_Stopped : PySem.W.hasDictIn K cc_Stopped = true)
    (xcl_Stopped : PySem.W.findIn K (.ref cc_Stopped) "__class__" = some (some (.builtin "object.__class__")))
    (xcn_Stopped : PySem.W.specialIn K (.builtin "object.__class__") "__get__" = some (some (.builtin "getset_descriptor.__get__")))
    (xct_Stopped : PySem.W.takesIn K (.builtin "object.__class__") = some true)
    (xcm_Stopped : PySem.W.mroIn K cc_Stopped (.type "object") = some true)
    (te_Stopped : PySem.W.exmOne K (.ref cc_Stopped) (.ref cc_Stopped) = some true)
    (nx_Stopped_writes : PySem.W.findIn K (.ref cc_Stopped) "writes" = some none)
    (xL_InvalidAllowance : K.lookup cc_InvalidAllowance = some (excClassObj xnm_InvalidAllowance xq_InvalidAllowance cc_InvalidAllowance xN_InvalidAllowance xbs_InvalidAllowance xbm_InvalidAllowance true xsn_InvalidAllowance xsub_InvalidAllowance xab_InvalidAllowance xcol_InvalidAllowance xdd_InvalidAllowance x0_InvalidAllowance x1_InvalidAllowance x2_InvalidAllowance x3_InvalidAllowance x5_InvalidAllowance "ValueError.__new__"))
    (xr_InvalidAllowance : PySem.HandSPX.refsVE xbm_InvalidAllowance = true)
    (xs_InvalidAllowance : PySem.W.findIn K (.ref cc_InvalidAllowance) "__setattr__" = some (some (.builtin "object.__setattr__")))
    (xe_InvalidAllowance : PySem.W.subIn K (.ref cc_InvalidAllowance) (.type "BaseException") = some true)
    (xt_InvalidAllowance : PySem.W.typeIn K (.ref cc_InvalidAllowance) = some (.type "type"))
    (xk_InvalidAllowance : PySem.W.keepIn K (.ref cc_InvalidAllowance) = true)
    (xu_InvalidAllowance : PySem.W.mroIn K cc_InvalidAllowance (.ref cc_InvalidAllowance) = some true)
    (xn_InvalidAllowance : PySem.W.ks_superIn K cc_InvalidAllowance cc_InvalidAllowance "__init__" = some (some (.builtin "ValueError.__init__")))
    (te_InvalidAllowance_OnecopyError : PySem.W.exmOne K (.ref cc_InvalidAllowance) (.ref cc_OnecopyError) = some true)
    (xv_InvalidAllowance : PySem.W.subIn K (.ref cc_InvalidAllowance) (.type "ValueError") = some true)
    (xy_InvalidAllowance : PySem.W.nsIn K cStatics "thirdparty.any" = some none)
    (ti_InvalidAllowance : PySem.W.typeIn K (.ref f1) = some (.type "function"))
    (xga_InvalidAllowance : PySem.W.findIn K (.ref cc_InvalidAllowance) "__getattribute__" = some (some (.builtin "BaseException.__getattribute__")))
    (xgg_InvalidAllowance : PySem.W.findIn K (.ref cc_InvalidAllowance) "__getattr__" = some none)
    (xhd_InvalidAllowance : PySem.W.hasDictIn K cc_InvalidAllowance = true)
    (xcl_InvalidAllowance : PySem.W.findIn K (.ref cc_InvalidAllowance) "__class__" = some (some (.builtin "object.__class__")))
    (xcn_InvalidAllowance : PySem.W.specialIn K (.builtin "object.__class__") "__get__" = some (some (.builtin "getset_descriptor.__get__")))
    (xct_InvalidAllowance : PySem.W.takesIn K (.builtin "object.__class__") = some true)
    (xcm_InvalidAllowance : PySem.W.mroIn K cc_InvalidAllowance (.type "object") = some true)
    (te_InvalidAllowance : PySem.W.exmOne K (.ref cc_InvalidAllowance) (.ref cc_InvalidAllowance) = some true)
    (nx_InvalidAllowance_allowed : PySem.W.findIn K (.ref cc_InvalidAllowance) "allowed" = some none)
    (pg_Disk : PySem.W.plainGet K cc_Disk Str.empty = true)
    (hd_Disk : PySem.W.hasDictIn K cc_Disk = true)
    (po_Disk : PySem.W.plainOver K cc_Disk = true)
    (sa_Disk : PySem.W.findIn K (.ref cc_Disk) "__setattr__" = some (some (.builtin "object.__setattr__")))
    (mm_Disk : PySem.W.makesIn K cc_Disk = true)
    (mf_Disk : PySem.W.isFn K (.ref f2) = true)
    (mp_Disk : PySem.W.keepIn K (.ref cc_Disk) = true)
    (n_Disk_writes : PySem.W.findIn K (.ref cc_Disk) "writes" = some none)
    (n_Disk__cells : PySem.W.findIn K (.ref cc_Disk) "_cells" = some none)
    (n_Disk__left : PySem.W.findIn K (.ref cc_Disk) "_left" = some none)
    (ia3 : PySem.W.isFn K (.ref f3) = true)
    (ia4 : PySem.W.isFn K (.ref f4) = true)
    (ia5 : PySem.W.isFn K (.ref f5) = true)
    (ia6 : PySem.W.isFn K (.ref f6) = true)
    (ia9 : PySem.W.isFn K (.ref f9) = true)
    (ki_InvalidAllowance_InvalidAllowance : PySem.W.kitOne K (.ref cc_InvalidAllowance) (.ref cc_InvalidAllowance) = some true)
    (ki_InvalidAllowance_Stopped : PySem.W.kitOne K (.ref cc_InvalidAllowance) (.ref cc_Stopped) = some false)
    (ki_InvalidAllowance_ValueError : PySem.W.kitOne K (.ref cc_InvalidAllowance) (.type "ValueError") = some true)
    (ki_Stopped_InvalidAllowance : PySem.W.kitOne K (.ref cc_Stopped) (.ref cc_InvalidAllowance) = some false)
    (ki_Stopped_Stopped : PySem.W.kitOne K (.ref cc_Stopped) (.ref cc_Stopped) = some true)
    (ki_Stopped_ValueError : PySem.W.kitOne K (.ref cc_Stopped) (.type "ValueError") = some true)
    (z_ValueError : PySem.W.nsIn K mainGlobals "ValueError" = some none)
    (z_bool : PySem.W.nsIn K mainGlobals "bool" = some none)
    (z_int : PySem.W.nsIn K mainGlobals "int" = some none)
    (z_isinstance : PySem.W.nsIn K mainGlobals "isinstance" = some none)
    (z_len : PySem.W.nsIn K mainGlobals "len" = some none)
    (z_list : PySem.W.nsIn K mainGlobals "list" = some none)
    (z_range : PySem.W.nsIn K mainGlobals "range" = some none)
    (z_str : PySem.W.nsIn K mainGlobals "str" = some none)
    (z_tuple : PySem.W.nsIn K mainGlobals "tuple" = some none) :
    ∃ fd : FuncData, (∀ (s : Shared) (v : Value), BindsTo s fd ⟨[v], []⟩ [("script", v)]) ∧ ∀ base : Heap, K.In base → base.Ns mainGlobals mg → FnOk PySem.Challenge.rw_onecopy_k19_cells.prog w K mg base CX0 11 fa fd ["script"] (spLaw K) := by
  have e := hfa.symm.trans (PySem.W.mg_of X G a26)
  cases e
  let T : Txt PySem.Challenge.rw_onecopy_k19_cells.prog K mg := { c_OnecopyError := cc_OnecopyError, gc_OnecopyError := PySem.W.mg_of X G gc_OnecopyError, c_Stopped := cc_Stopped, gc_Stopped := PySem.W.mg_of X G gc_Stopped, c_InvalidAllowance := cc_InvalidAllowance, gc_InvalidAllowance := PySem.W.mg_of X G gc_InvalidAllowance, c_Disk := cc_Disk, gc_Disk := PySem.W.mg_of X G gc_Disk, pa_Disk_allowance := pp_Disk_allowance, pg_Disk_allowance := ⟨ap_Disk_allowance, pi_Disk_allowance, pk_Disk_allowance, ⟨_, pr_Disk_allowance⟩⟩, ps_Disk_allowance := ⟨⟨_, _, _, pt_Disk_allowancex, py_Disk_allowance, pr_Disk_allowance⟩⟩, f_Stopped_init := f0, fd_Stopped_init := _, X_Stopped_init := ⟨⟨_, _, _, _, _, _, _, q0, h0, _, _, rfl, l0, c0, ⟨_, _, _, cq0⟩, ⟨_, _, _, _, _, _, ch0, cf0, cg0⟩⟩, ⟨_, ci0x⟩, PySem.W.mg_none_of X G cs0, ct0x⟩, b_Stopped_init := .all fun us hl => match us, hl with | [_, _], _ => rfl, f_InvalidAllowance_init := f1, fd_InvalidAllowance_init := _, X_InvalidAllowance_init := ⟨⟨_, _, _, _, _, _, _, q1, h1, _, _, rfl, l1, c1, ⟨_, _, _, cq1⟩, ⟨_, _, _, _, _, _, ch1, cf1, cg1⟩⟩, ⟨_, ci1x⟩, PySem.W.mg_none_of X G cs1, ct1x⟩, b_InvalidAllowance_init := .all fun us hl => match us, hl with | [_, _], _ => rfl, f_Disk_init := f2, fd_Disk_init := _, F_Disk_init := ⟨⟨_, _, _, _, _, _, _, _, _, _, rfl, l2, c2, .inr ⟨by simp, dT2, _, _, _, rfl, dd2, rfl, (.cons rfl .nil)⟩, .inl rfl⟩, k2⟩, b_Disk_init := bindsD dd2 rfl (fun us hl => match us, hl with | [_, _], _ => ⟨_, rfl, rfl⟩), bd_Disk_init := bindsE 1 rfl dd2 rfl (fun us hl => match us, hl with | [_], _ => ⟨_, rfl, rfl⟩), f_Disk_len := f3, fd_Disk_len := _, F_Disk_len := fun_mk (st := s_Disk_len) l3 c3 k3, b_Disk_len := (fun_mk (st := s_Disk_len) l3 c3 k3).binds (ps := ["self"]) (fun _ _ _ _ _ _ us hl => match us, hl with | [_], _ => rfl), f_Disk_cells := f4, fd_Disk_cells := _, F_Disk_cells := fun_mk (st := s_Disk_cells) l4 c4 k4, b_Disk_cells := (fun_mk (st := s_Disk_cells) l4 c4 k4).binds (ps := ["self"]) (fun _ _ _ _ _ _ us hl => match us, hl with | [_], _ => rfl), f_Disk_read_cell := f5, fd_Disk_read_cell := _, F_Disk_read_cell := fun_mk (st := s_Disk_read_cell) l5 c5 k5, b_Disk_read_cell := (fun_mk (st := s_Disk_read_cell) l5 c5 k5).binds (ps := ["self", "index"]) (fun _ _ _ _ _ _ us hl => match us, hl with | [_, _], _ => rfl), f_Disk_write_cell := f6, fd_Disk_write_cell := _, F_Disk_write_cell := fun_mk (st := s_Disk_write_cell) l6 c6 k6, b_Disk_write_cell := (fun_mk (st := s_Disk_write_cell) l6 c6 k6).binds (ps := ["self", "index", "content"]) (fun _ _ _ _ _ _ us hl => match us, hl with | [_, _, _], _ => rfl), f_Disk_allowance := f7, fd_Disk_allowance := _, F_Disk_allowance := fun_mk (st := s_Disk_allowance) l7 c7 k7, b_Disk_allowance := (fun_mk (st := s_Disk_allowance) l7 c7 k7).binds (ps := ["self"]) (fun _ _ _ _ _ _ us hl => match us, hl with | [_], _ => rfl), f_Disk_allowance_set := f8, fd_Disk_allowance_set := _, F_Disk_allowance_set := fun_mk (st := s_Disk_allowance_set) l8 c8 k8, b_Disk_allowance_set := (fun_mk (st := s_Disk_allowance_set) l8 c8 k8).binds (ps := ["self", "allowed"]) (fun _ _ _ _ _ _ us hl => match us, hl with | [_, _], _ => rfl), f_Disk_allow := f9, fd_Disk_allow := _, F_Disk_allow := fun_mk (st := s_Disk_allow) l9 c9 k9, b_Disk_allow := (fun_mk (st := s_Disk_allow) l9 c9 k9).binds (ps := ["self", "allowed"]) (fun _ _ _ _ _ _ us hl => match us, hl with | [_, _], _ => rfl), f_law_pool := f10, fd_law_pool := _, F_law_pool := fun_mk (st := s_law_pool) l10 c10 k10, g_law_pool := PySem.W.mg_of X G a10, b_law_pool := (fun_mk (st := s_law_pool) l10 c10 k10).binds (ps := ["script"]) (fun _ _ _ _ _ _ us hl => match us, hl with | [_], _ => rfl), f_law_draw := f11, fd_law_draw := _, F_law_draw := fun_mk (st := s_law_draw) l11 c11 k11, g_law_draw := PySem.W.mg_of X G a11, b_law_draw := (fun_mk (st := s_law_draw) l11 c11 k11).binds (ps := ["pool", "size"]) (fun _ _ _ _ _ _ us hl => match us, hl with | [_, _], _ => rfl), f_law_same := f12, fd_law_same := _, F_law_same := fun_mk (st := s_law_same) l12 c12 k12, g_law_same := PySem.W.mg_of X G a12, b_law_same := (fun_mk (st := s_law_same) l12 c12 k12).binds (ps := ["told", "due"]) (fun _ _ _ _ _ _ us hl => match us, hl with | [_, _], _ => rfl), f_law_text := f13, fd_law_text := _, F_law_text := fun_mk (st := s_law_text) l13 c13 k13, g_law_text := PySem.W.mg_of X G a13, b_law_text := (fun_mk (st := s_law_text) l13 c13 k13).binds (ps := ["pool"]) (fun _ _ _ _ _ _ us hl => match us, hl with | [_], _ => rfl), f_law_plain := f14, fd_law_plain := _, F_law_plain := fun_mk (st := s_law_plain) l14 c14 k14, g_law_plain := PySem.W.mg_of X G a14, b_law_plain := (fun_mk (st := s_law_plain) l14 c14 k14).binds (ps := ["pool"]) (fun _ _ _ _ _ _ us hl => match us, hl with | [_], _ => rfl), f_law_content := f15, fd_law_content := _, F_law_content := fun_mk (st := s_law_content) l15 c15 k15, g_law_content := PySem.W.mg_of X G a15, b_law_content := (fun_mk (st := s_law_content) l15 c15 k15).binds (ps := ["pool"]) (fun _ _ _ _ _ _ us hl => match us, hl with | [_], _ => rfl), f_law_refusal := f16, fd_law_refusal := _, F_law_refusal := fun_mk (st := s_law_refusal) l16 c16 k16, g_law_refusal := PySem.W.mg_of X G a16, b_law_refusal := (fun_mk (st := s_law_refusal) l16 c16 k16).binds (ps := ["raised"]) (fun _ _ _ _ _ _ us hl => match us, hl with | [_], _ => rfl), f_law_written := f17, fd_law_written := _, F_law_written := fun_mk (st := s_law_written) l17 c17 k17, g_law_written := PySem.W.mg_of X G a17, b_law_written := (fun_mk (st := s_law_written) l17 c17 k17).binds (ps := ["disk", "index", "content"]) (fun _ _ _ _ _ _ us hl => match us, hl with | [_, _, _], _ => rfl), f_law_allowed := f18, fd_law_allowed := _, F_law_allowed := fun_mk (st := s_law_allowed) l18 c18 k18, g_law_allowed := PySem.W.mg_of X G a18, b_law_allowed := (fun_mk (st := s_law_allowed) l18 c18 k18).binds (ps := ["disk", "number"]) (fun _ _ _ _ _ _ us hl => match us, hl with | [_, _], _ => rfl), f_law_world := f19, fd_law_world := _, F_law_world := fun_mk (st := s_law_world) l19 c19 k19, g_law_world := PySem.W.mg_of X G a19, b_law_world := (fun_mk (st := s_law_world) l19 c19 k19).binds (ps := ["pool"]) (fun _ _ _ _ _ _ us hl => match us, hl with | [_], _ => rfl), f_law_stands := f20, fd_law_stands := _, F_law_stands := fun_mk (st := s_law_stands) l20 c20 k20, g_law_stands := PySem.W.mg_of X G a20, b_law_stands := (fun_mk (st := s_law_stands) l20 c20 k20).binds (ps := ["pool", "world"]) (fun _ _ _ _ _ _ us hl => match us, hl with | [_, _], _ => rfl), f_law_stopped := f21, fd_law_stopped := _, F_law_stopped := fun_mk (st := s_law_stopped) l21 c21 k21, g_law_stopped := PySem.W.mg_of X G a21, b_law_stopped := (fun_mk (st := s_law_stopped) l21 c21 k21).binds (ps := ["pool", "world", "index", "content"]) (fun _ _ _ _ _ _ us hl => match us, hl with | [_, _, _, _], _ => rfl), f_law_write_step := f22, fd_law_write_step := _, F_law_write_step := fun_mk (st := s_law_write_step) l22 c22 k22, g_law_write_step := PySem.W.mg_of X G a22, b_law_write_step := (fun_mk (st := s_law_write_step) l22 c22 k22).binds (ps := ["pool", "world"]) (fun _ _ _ _ _ _ us hl => match us, hl with | [_, _], _ => rfl), f_law_allow_step := f23, fd_law_allow_step := _, F_law_allow_step := fun_mk (st := s_law_allow_step) l23 c23 k23, g_law_allow_step := PySem.W.mg_of X G a23, b_law_allow_step := (fun_mk (st := s_law_allow_step) l23 c23 k23).binds (ps := ["pool", "world"]) (fun _ _ _ _ _ _ us hl => match us, hl with | [_, _], _ => rfl), f_law_whole := f24, fd_law_whole := _, F_law_whole := fun_mk (st := s_law_whole) l24 c24 k24, g_law_whole := PySem.W.mg_of X G a24, b_law_whole := (fun_mk (st := s_law_whole) l24 c24 k24).binds (ps := ["world"]) (fun _ _ _ _ _ _ us hl => match us, hl with | [_], _ => rfl), f_law_copied := f25, fd_law_copied := _, F_law_copied := fun_mk (st := s_law_copied) l25 c25 k25, g_law_copied := PySem.W.mg_of X G a25, b_law_copied := (fun_mk (st := s_law_copied) l25 c25 k25).binds (ps := ["pool", "world"]) (fun _ _ _ _ _ _ us hl => match us, hl with | [_, _], _ => rfl), f_law := _, fd_law := _, F_law := fun_mk (st := s_law) l26 c26 k26, g_law := PySem.W.mg_of X G a26, b_law := (fun_mk (st := s_law) l26 c26 k26).binds (ps := ["script"]) (fun _ _ _ _ _ _ us hl => match us, hl with | [_], _ => rfl), ox_Stopped := ⟨⟨_, _, _, _, _, _, _, _, _, _, _, _, _, _, _, xL_Stopped, xr_Stopped⟩, xs_Stopped, xe_Stopped, xt_Stopped, xk_Stopped⟩, te_Stopped_OnecopyError := te_Stopped_OnecopyError, su_Stopped := ⟨⟨⟨_, _, _, _, _, _, _, _, _, _, _, _, _, _, _, xL_Stopped, xr_Stopped⟩, xs_Stopped, xe_Stopped, xt_Stopped, xk_Stopped⟩, xu_Stopped, xn_Stopped, xv_Stopped, xy_Stopped, ⟨_, _, _, _, _, _, _, _, _, _, _, _, _, _, _, xL_Stopped⟩⟩, ix_Stopped := a0, ti_Stopped := ti_Stopped, xf_Stopped := ⟨xga_Stopped, xgg_Stopped, xe_Stopped, xhd_Stopped⟩, xc_Stopped := ⟨xga_Stopped, xgg_Stopped, xe_Stopped, xhd_Stopped, xcl_Stopped, xcn_Stopped, xct_Stopped, xcm_Stopped⟩, te_Stopped := te_Stopped, nx_Stopped_writes := nx_Stopped_writes, ox_InvalidAllowance := ⟨⟨_, _, _, _, _, _, _, _, _, _, _, _, _, _, _, xL_InvalidAllowance, xr_InvalidAllowance⟩, xs_InvalidAllowance, xe_InvalidAllowance, xt_InvalidAllowance, xk_InvalidAllowance⟩, te_InvalidAllowance_OnecopyError := te_InvalidAllowance_OnecopyError, su_InvalidAllowance := ⟨⟨⟨_, _, _, _, _, _, _, _, _, _, _, _, _, _, _, xL_InvalidAllowance, xr_InvalidAllowance⟩, xs_InvalidAllowance, xe_InvalidAllowance, xt_InvalidAllowance, xk_InvalidAllowance⟩, xu_InvalidAllowance, xn_InvalidAllowance, xv_InvalidAllowance, xy_InvalidAllowance, ⟨_, _, _, _, _, _, _, _, _, _, _, _, _, _, _, xL_InvalidAllowance⟩⟩, ix_InvalidAllowance := a1, ti_InvalidAllowance := ti_InvalidAllowance, xf_InvalidAllowance := ⟨xga_InvalidAllowance, xgg_InvalidAllowance, xe_InvalidAllowance, xhd_InvalidAllowance⟩, xc_InvalidAllowance := ⟨xga_InvalidAllowance, xgg_InvalidAllowance, xe_InvalidAllowance, xhd_InvalidAllowance, xcl_InvalidAllowance, xcn_InvalidAllowance, xct_InvalidAllowance, xcm_InvalidAllowance⟩, te_InvalidAllowance := te_InvalidAllowance, nx_InvalidAllowance_allowed := nx_InvalidAllowance_allowed, cl_Disk := ⟨pg_Disk, hd_Disk, po_Disk, sa_Disk⟩, mk_Disk := ⟨mm_Disk, a2, mf_Disk, mp_Disk⟩, n_Disk_writes := n_Disk_writes, n_Disk__cells := n_Disk__cells, n_Disk__left := n_Disk__left, fa_Disk_len := a3, ia_Disk_len := ia3, me_Disk_cells := ⟨a4, ia4, k4⟩, me_Disk_read_cell := ⟨a5, ia5, k5⟩, me_Disk_write_cell := ⟨a6, ia6, k6⟩, me_Disk_allow := ⟨a9, ia9, k9⟩, ki_InvalidAllowance_InvalidAllowance := ki_InvalidAllowance_InvalidAllowance, ki_InvalidAllowance_Stopped := ki_InvalidAllowance_Stopped, ki_InvalidAllowance_ValueError := ki_InvalidAllowance_ValueError, ki_Stopped_InvalidAllowance := ki_Stopped_InvalidAllowance, ki_Stopped_Stopped := ki_Stopped_Stopped, ki_Stopped_ValueError := ki_Stopped_ValueError, z_ValueError := PySem.W.mg_none_of X G z_ValueError, z_bool := PySem.W.mg_none_of X G z_bool, z_int := PySem.W.mg_none_of X G z_int, z_isinstance := PySem.W.mg_none_of X G z_isinstance, z_len := PySem.W.mg_none_of X G z_len, z_list := PySem.W.mg_none_of X G z_list, z_range := PySem.W.mg_none_of X G z_range, z_str := PySem.W.mg_none_of X G z_str, z_tuple := PySem.W.mg_none_of X G z_tuple }
  exact ⟨T.fd_law, fun s v => .of_eq rfl, fun base _ _ => ok_law T⟩
end K19
open PySem PySem.W PyProof.Rows
set_option maxRecDepth 100000 in
set_option maxHeartbeats 0 in
theorem PySem.Challenge.cw_onecopy_k19_cells_holds : PySem.Challenge.rw_onecopy_k19_cells.Holds := by
  w_on; o_law; k_head; (case hw => w_witness2)
  k_fill
  refine L2.walk_of (l := PySem.Challenge.rw_onecopy_k19_cells) (n := 63) (k := 11) (x := "script") (CX := fun _ => L2.CX0) (sp := fun w => K19.spLaw _) rfl (by decide) rfl ⟨rfl, by decide, by decide⟩ (fun w h Y => PySem.W.kIn_of Y) ?F (fun _ _ a ns hl _ hS => ⟨a, ns, rfl, hS, hl, fun _ => rfl⟩) (fun _ _ _ _ _ h => h)
  case F =>
    intro w mg fa h KX G hmg
    refine' K19.all_mk KX G hmg ?gc_OnecopyError ?gc_Stopped ?gc_InvalidAllowance ?gc_Disk ?ap_Disk_allowance ?pr_Disk_allowance ?pi_Disk_allowance ?pk_Disk_allowance ?pt_Disk_allowancex ?py_Disk_allowance ?a0 ?l0 ?c0 ?cq0 ?ch0 ?cf0 ?cg0 ?ci0x ?cs0 ?ct0x ?a1 ?l1 ?c1 ?cq1 ?ch1 ?cf1 ?cg1 ?ci1x ?cs1 ?ct1x ?a2 ?l2 ?dd2 ?c2 ?k2 ?a3 ?l3 ?c3 ?k3 ?a4 ?l4 ?c4 ?k4 ?a5 ?l5 ?c5 ?k5 ?a6 ?l6 ?c6 ?k6 ?l7 ?c7 ?k7 ?l8 ?c8 ?k8 ?a9 ?l9 ?c9 ?k9 ?a10 ?l10 ?c10 ?k10 ?a11 ?l11 ?c11 ?k11 ?a12 ?l12 ?c12 ?k12 ?a13 ?l13 ?c13 ?k13 ?a14 ?l14 ?c14 ?k14 ?a15 ?l15 ?c15 ?k15 ?a16 ?l16 ?c16 ?k16 ?a17 ?l17 ?c17 ?k17 ?a18 ?l18 ?c18 ?k18 ?a19 ?l19 ?c19 ?k19 ?a20 ?l20 ?c20 ?k20 ?a21 ?l21 ?c21 ?k21 ?a22 ?l22 ?c22 ?k22 ?a23 ?l23 ?c23 ?k23 ?a24 ?l24 ?c24 ?k24 ?a25 ?l25 ?c25 ?k25 ?a26 ?l26 ?c26 ?k26 ?xL_Stopped ?xr_Stopped ?xs_Stopped ?xe_Stopped ?xt_Stopped ?xk_Stopped ?xu_Stopped ?xn_Stopped ?te_Stopped_OnecopyError ?xv_Stopped ?xy_Stopped ?ti_Stopped ?xga_Stopped ?xgg_Stopped ?xhd_Stopped ?xcl_Stopped ?xcn_Stopped ?xct_Stopped ?xcm_Stopped ?te_Stopped ?nx_Stopped_writes ?xL_InvalidAllowance ?xr_InvalidAllowance ?xs_InvalidAllowance ?xe_InvalidAllowance ?xt_InvalidAllowance ?xk_InvalidAllowance ?xu_InvalidAllowance ?xn_InvalidAllowance ?te_InvalidAllowance_OnecopyError ?xv_InvalidAllowance ?xy_InvalidAllowance ?ti_InvalidAllowance ?xga_InvalidAllowance ?xgg_InvalidAllowance ?xhd_InvalidAllowance ?xcl_InvalidAllowance ?xcn_InvalidAllowance ?xct_InvalidAllowance ?xcm_InvalidAllowance ?te_InvalidAllowance ?nx_InvalidAllowance_allowed ?pg_Disk ?hd_Disk ?po_Disk ?sa_Disk ?mm_Disk ?mf_Disk ?mp_Disk ?n_Disk_writes ?n_Disk__cells ?n_Disk__left ?ia3 ?ia4 ?ia5 ?ia6 ?ia9 ?ki_InvalidAllowance_InvalidAllowance ?ki_InvalidAllowance_Stopped ?ki_InvalidAllowance_ValueError ?ki_Stopped_InvalidAllowance ?ki_Stopped_Stopped ?ki_Stopped_ValueError ?z_ValueError ?z_bool ?z_int ?z_isinstance ?z_len ?z_list ?z_range ?z_str ?z_tuple
    (case gc_OnecopyError => k_is); (case gc_Stopped => k_is); (case gc_InvalidAllowance => k_is); (case gc_Disk => k_is); (case ap_Disk_allowance => k_is); (case pr_Disk_allowance => k_is); (case pi_Disk_allowance => k_is); (case pk_Disk_allowance => k_is); (case pt_Disk_allowancex => k_is); (case py_Disk_allowance => k_is); (case a0 => k_is); (case l0 => k_is); (case c0 => k_is); (case cq0 => k_is); (case ch0 => k_is); (case cf0 => exact rfl); (case cg0 => first | exact rfl | decide +kernel); (case ci0x => k_is); (case cs0 => k_is); (case ct0x => first | exact rfl | decide +kernel); (case a1 => k_is); (case l1 => k_is); (case c1 => k_is); (case cq1 => k_is); (case ch1 => k_is); (case cf1 => exact rfl); (case cg1 => first | exact rfl | decide +kernel); (case ci1x => k_is); (case cs1 => k_is); (case ct1x => first | exact rfl | decide +kernel); (case a2 => k_is); (case l2 => k_is); (case dd2 => k_is); (case c2 => k_is); (case k2 => k_is); (case a3 => k_is); (case l3 => k_is); (case c3 => k_is); (case k3 => k_is); (case a4 => k_is); (case l4 => k_is); (case c4 => k_is); (case k4 => k_is); (case a5 => k_is); (case l5 => k_is); (case c5 => k_is); (case k5 => k_is); (case a6 => k_is); (case l6 => k_is); (case c6 => k_is); (case k6 => k_is); (case l7 => k_is); (case c7 => k_is); (case k7 => k_is); (case l8 => k_is); (case c8 => k_is); (case k8 => k_is); (case a9 => k_is); (case l9 => k_is); (case c9 => k_is); (case k9 => k_is); (case a10 => k_is); (case l10 => k_is); (case c10 => k_is); (case k10 => k_is); (case a11 => k_is); (case l11 => k_is); (case c11 => k_is); (case k11 => k_is); (case a12 => k_is); (case l12 => k_is); (case c12 => k_is); (case k12 => k_is); (case a13 => k_is); (case l13 => k_is); (case c13 => k_is); (case k13 => k_is); (case a14 => k_is); (case l14 => k_is); (case c14 => k_is); (case k14 => k_is); (case a15 => k_is); (case l15 => k_is); (case c15 => k_is); (case k15 => k_is); (case a16 => k_is); (case l16 => k_is); (case c16 => k_is); (case k16 => k_is); (case a17 => k_is); (case l17 => k_is); (case c17 => k_is); (case k17 => k_is); (case a18 => k_is); (case l18 => k_is); (case c18 => k_is); (case k18 => k_is); (case a19 => k_is); (case l19 => k_is); (case c19 => k_is); (case k19 => k_is); (case a20 => k_is); (case l20 => k_is); (case c20 => k_is); (case k20 => k_is); (case a21 => k_is); (case l21 => k_is); (case c21 => k_is); (case k21 => k_is); (case a22 => k_is); (case l22 => k_is); (case c22 => k_is); (case k22 => k_is); (case a23 => k_is); (case l23 => k_is); (case c23 => k_is); (case k23 => k_is); (case a24 => k_is); (case l24 => k_is); (case c24 => k_is); (case k24 => k_is); (case a25 => k_is); (case l25 => k_is); (case c25 => k_is); (case k25 => k_is); (case a26 => k_is); (case l26 => k_is); (case c26 => k_is); (case k26 => k_is); (case xL_Stopped => k_is); (case xr_Stopped => first | exact rfl | decide +kernel); (case xs_Stopped => k_is); (case xe_Stopped => k_is); (case xt_Stopped => k_is); (case xk_Stopped => k_is); (case xu_Stopped => k_is); (case xn_Stopped => ks_is); (case te_Stopped_OnecopyError => kts_exm); (case xv_Stopped => k_is); (case xy_Stopped => k_is); (case ti_Stopped => k_is); (case xga_Stopped => k_is); (case xgg_Stopped => k_is); (case xhd_Stopped => k_is); (case xcl_Stopped => k_is); (case xcn_Stopped => k_is); (case xct_Stopped => k_is); (case xcm_Stopped => k_is); (case te_Stopped => kts_exm); (case nx_Stopped_writes => k_is); (case xL_InvalidAllowance => k_is); (case xr_InvalidAllowance => first | exact rfl | decide +kernel); (case xs_InvalidAllowance => k_is); (case xe_InvalidAllowance => k_is); (case xt_InvalidAllowance => k_is); (case xk_InvalidAllowance => k_is); (case xu_InvalidAllowance => k_is); (case xn_InvalidAllowance => ks_is); (case te_InvalidAllowance_OnecopyError => kts_exm); (case xv_InvalidAllowance => k_is); (case xy_InvalidAllowance => k_is); (case ti_InvalidAllowance => k_is); (case xga_InvalidAllowance => k_is); (case xgg_InvalidAllowance => k_is); (case xhd_InvalidAllowance => k_is); (case xcl_InvalidAllowance => k_is); (case xcn_InvalidAllowance => k_is); (case xct_InvalidAllowance => k_is); (case xcm_InvalidAllowance => k_is); (case te_InvalidAllowance => kts_exm); (case nx_InvalidAllowance_allowed => k_is); (case pg_Disk => k_is); (case hd_Disk => k_is); (case po_Disk => k_is); (case sa_Disk => k_is); (case mm_Disk => k_is); (case mf_Disk => k_is); (case mp_Disk => k_is); (case n_Disk_writes => k_is); (case n_Disk__cells => k_is); (case n_Disk__left => k_is); (case ia3 => k_is); (case ia4 => k_is); (case ia5 => k_is); (case ia6 => k_is); (case ia9 => k_is); (case ki_InvalidAllowance_InvalidAllowance => kit_is); (case ki_InvalidAllowance_Stopped => kit_is); (case ki_InvalidAllowance_ValueError => kit_is); (case ki_Stopped_InvalidAllowance => kit_is); (case ki_Stopped_Stopped => kit_is); (case ki_Stopped_ValueError => kit_is); (case z_ValueError => k_is); (case z_bool => k_is); (case z_int => k_is); (case z_isinstance => k_is); (case z_len => k_is); (case z_list => k_is); (case z_range => k_is); (case z_str => k_is); (case z_tuple => k_is)