import PyProof.Rows.All
import Wide.All
import OpenK.AllK
import Wide.FinOn
import HandS.ForMost
import HandS.IsInst
import HandS.Style
import HandS.Sort
import HandS.RevRange
import HandS.Nested
import HandS.ExcInit
import HandS.ExcIs
import HandS.ExcField
import HandS.Exc
import HandS.WordsExc
import HandS.ExcOwn
import HandS.Codes
import HandS.Defaults
import HandS.MakeKwOnly
import KE.KExcSuper
import HandS.ExcCtx
import HandS.HotCalls
import HandS.ExcInitHot
import KE.KExcIs
import HandS.SortRule
import HandS.SortInts
import HandS.Conv
import HandS.More
import HandS.Flow
import HandS.Deep
import HandS.SetFor
import HandS.Walk
import HandS.Strs
import HandS.Zip
import HandS.SetKeys
import KE.KDictZip
import KE.KDictWalk
import HandS.DictTup
import PySem.Challenge.RW_onecopy_k07_whole_slack
set_option Elab.async false
set_option linter.all false
set_option maxRecDepth 100000
/-! A small separation logic over the abstract heap: a list of chunks that stand apart; tuples are known, not owned. -/
namespace Oc
open PySem L2

def Subh (h H : Hp) : Prop := ∀ a o, h a = some o → H a = some o
def cutH (H h : Hp) : Hp := fun a => match h a with | some _ => none | none => H a
def one (a : Addr) (o : HO) : Hp := fun b => if b = a then some o else none
/-- what tuples are known -/
abbrev Tmap := Addr → Option (List V)
/-- a part of the heap: one object; a shape; tuples that are known (nobody owns a tuple) -/
inductive Asr where
  | pto (a : Addr) (o : HO)
  | own (A : Hp → Prop)
  | im (τ : Tmap)
abbrev pto (a : Addr) (o : HO) : Asr := .pto a o
abbrev im (τ : Tmap) : Asr := .im τ
instance : Coe (Hp → Prop) Asr := ⟨.own⟩
def Asr.sem : Asr → Hp → Prop
  | .pto a o, h => h = one a o
  | .own A, h => A h
  | .im _, _ => True
def St : Hp → List Asr → Prop
  | _, [] => True
  | H, A :: L => ∃ h, Subh h H ∧ A.sem h ∧ St (cutH H h) L

theorem Subh.refl (h : Hp) : Subh h h := fun _ _ e => e
theorem Subh.trans {h k l : Hp} (a : Subh h k) (b : Subh k l) : Subh h l := fun x o e => b x o (a x o e)
theorem cutH_some {H h : Hp} {a : Addr} {o : HO} : cutH H h a = some o ↔ h a = none ∧ H a = some o := by
  unfold cutH
  cases h a with
  | none => exact ⟨fun e => ⟨rfl, e⟩, fun e => e.2⟩
  | some u => exact ⟨(fun e => nomatch e), (fun e => nomatch e.1)⟩
theorem cutH_sub (H h : Hp) : Subh (cutH H h) H := fun _ _ e => (cutH_some.mp e).2
theorem cutH_mono {H K : Hp} (h : Hp) (s : Subh H K) : Subh (cutH H h) (cutH K h) := fun _ _ e =>
  have q := cutH_some.mp e
  cutH_some.mpr ⟨q.1, s _ _ q.2⟩
theorem St.mono : ∀ {L : List Asr} {H K : Hp}, St H L → Subh H K → St K L
  | [], _, _, _, _ => trivial
  | _ :: _, _, _, ⟨h, s, a, t⟩, q => ⟨h, s.trans q, a, t.mono (cutH_mono h q)⟩
theorem cut_swap {H h k : Hp} (s : Subh k (cutH H h)) : Subh h (cutH H k) ↔ Subh h H := by
  constructor
  · exact fun q => q.trans (cutH_sub _ _)
  · intro q a o e
    refine cutH_some.mpr ⟨?_, q _ _ e⟩
    cases r : k a with
    | none => rfl
    | some u =>
      have z := (cutH_some.mp (s _ _ r)).1
      rw [e] at z
      cases z
theorem cut_comm (H h k : Hp) : cutH (cutH H h) k = cutH (cutH H k) h := by
  funext a
  unfold cutH
  cases h a <;> cases k a <;> rfl
theorem St.swap {A B : Asr} {L : List Asr} {H : Hp} (S : St H (A :: B :: L)) : St H (B :: A :: L) := by
  obtain ⟨h, s, a, k, t, b, S⟩ := S
  exact ⟨k, t.trans (cutH_sub _ _), b, h, (cut_swap t).mpr s, a, by rw [cut_comm]; exact S⟩
theorem St.under {A : Asr} {L M : List Asr} {H : Hp} (f : ∀ K, St K L → St K M) (S : St H (A :: L)) : St H (A :: M) := by
  obtain ⟨h, s, a, S⟩ := S
  exact ⟨h, s, a, f _ S⟩
theorem St.perm {L M : List Asr} (p : L.Perm M) : ∀ {H : Hp}, St H L → St H M := by
  induction p with
  | nil => exact fun S => S
  | cons x _ ih => exact fun S => S.under fun _ => ih
  | swap x y l => exact fun S => S.swap
  | trans _ _ ih1 ih2 => exact fun S => ih2 (ih1 S)
theorem St.tail {A : Asr} {L : List Asr} {H : Hp} (S : St H (A :: L)) : St H L := by
  obtain ⟨h, s, a, S⟩ := S
  exact S.mono (cutH_sub _ _)
theorem St.imp {A B : Asr} {L : List Asr} {H : Hp} (S : St H (A :: L)) (f : ∀ h, A.sem h → B.sem h) : St H (B :: L) := by
  obtain ⟨h, s, a, S⟩ := S
  exact ⟨h, s, f h a, S⟩
theorem St.app_right : ∀ {L M : List Asr} {H : Hp}, St H (L ++ M) → St H M
  | [], _, _, S => S
  | _ :: L, _, _, S => St.app_right (L := L) S.tail
theorem St.app_left : ∀ {L M : List Asr} {H : Hp}, St H (L ++ M) → St H L
  | [], _, _, _ => trivial
  | _ :: L, _, _, S => S.under fun _ T => St.app_left T

/-- several chunks as one -/
def star (L : List Asr) : Asr := .own fun h => St h L
theorem St.join : ∀ {L M : List Asr} {h H : Hp}, St h L → Subh h H → St (cutH H h) M → St H (L ++ M)
  | [], _, _, _, _, _, T => T.mono (cutH_sub _ _)
  | _ :: L, M, h, H, ⟨k, s, a, S⟩, q, T => by
    refine ⟨k, s.trans q, a, St.join (h := cutH h k) S (cutH_mono k q) ?_⟩
    have e : cutH (cutH H k) (cutH h k) = cutH H h := by
      funext x
      unfold cutH
      cases r : k x with
      | none => cases h x <;> rfl
      | some u => rw [s _ _ r]
    rw [e]
    exact T
theorem St.open_star {L M : List Asr} {H : Hp} (S : St H (star L :: M)) : St H (L ++ M) := by
  obtain ⟨h, s, a, S⟩ := S
  exact St.join a s S
theorem cut_cut_sub (H h : Hp) : ∀ k, Subh k (cutH H h) → cutH H h = cutH H h := fun _ _ => rfl
theorem St.close_star : ∀ {L M : List Asr} {H : Hp}, St H (L ++ M) → St H (star L :: M)
  | [], M, H, S => ⟨fun _ => none, (fun _ _ e => nomatch e), trivial, S.mono fun a o e => cutH_some.mpr ⟨rfl, e⟩⟩
  | A :: L, M, H, ⟨k, s, a, S⟩ => by
    obtain ⟨h, t, b, S⟩ := St.close_star (L := L) S
    let g : Hp := fun x => match k x with | some o => some o | none => h x
    have e1 : cutH H g = cutH (cutH H k) h := by
      funext x
      show (match (match k x with | some o => some o | none => h x) with | some _ => none | none => H x) = (match h x with | some _ => none | none => (match k x with | some _ => none | none => H x))
      cases k x <;> cases h x <;> rfl
    refine ⟨g, fun x o e => ?_, ⟨k, fun x o e => ?_, a, ?_⟩, by rw [e1]; exact S⟩
    · have e' : (match k x with | some o => some o | none => h x) = some o := e
      cases r : k x with
      | none =>
        rw [r] at e'
        exact cutH_sub _ _ _ _ (t _ _ e')
      | some u =>
        rw [r] at e'
        rw [← e']
        exact s _ _ r
    · show (match k x with | some o => some o | none => h x) = some o
      rw [e]
    · have e2 : cutH g k = h := by
        funext x
        show (match k x with | some _ => none | none => (match k x with | some o => some o | none => h x)) = h x
        cases r : k x with
        | none => rfl
        | some u =>
          cases q : h x with
          | none => rfl
          | some v =>
            have z := (cutH_some.mp (t _ _ q)).1
            rw [r] at z
            cases z
      rw [e2]
      exact b
/-! ### tuples set aside -/
def isT : HO → Bool
  | .tup _ => true
  | _ => false
def noT (H : Hp) : Hp := fun a => match H a with | some o => if isT o = true then none else some o | none => none
theorem noT_some {H : Hp} {a : Addr} {o : HO} : noT H a = some o ↔ isT o = false ∧ H a = some o := by
  unfold noT
  cases H a with
  | none => exact ⟨(fun e => nomatch e), (fun e => nomatch e.2)⟩
  | some u =>
    cases h : isT u with
    | true =>
      constructor
      · intro e
        simp [h] at e
      · rintro ⟨e, e2⟩
        cases e2
        rw [h] at e
        cases e
    | false =>
      constructor
      · intro e
        simp [h] at e
        subst e
        exact ⟨h, rfl⟩
      · rintro ⟨e, e2⟩
        cases e2
        simp [h]
theorem noT_sub (H : Hp) : Subh (noT H) H := fun _ _ e => (noT_some.mp e).2
theorem noT_upd {H : Hp} {p : Addr} {o : HO} (h : isT o = false) : noT (upd H p o) = upd (noT H) p o := by
  funext a
  by_cases e : a = p
  · subst e
    rw [upd_same]
    exact noT_some.mpr ⟨h, upd_same⟩
  · rw [upd_ne e]
    unfold noT
    rw [upd_ne e]
theorem noT_updT {H : Hp} {p : Addr} {vs : List V} (np : H p = none) : noT (upd H p (.tup vs)) = noT H := by
  funext a
  by_cases e : a = p
  · subst e
    unfold noT
    rw [upd_same, np]
    rfl
  · unfold noT
    rw [upd_ne e]
def Tk (τ : Tmap) (H : Hp) : Prop := ∀ a vs, τ a = some vs → H a = some (.tup vs)
structure Sts (H : Hp) (L : List Asr) : Prop where
  st : St (noT H) L
  tk : ∀ τ, Asr.im τ ∈ L → Tk τ H
theorem Sts.perm {L M : List Asr} (p : L.Perm M) {H : Hp} (S : Sts H L) : Sts H M := ⟨S.st.perm p, fun τ h => S.tk τ (p.mem_iff.mpr h)⟩
theorem Sts.swap {A B : Asr} {L : List Asr} {H : Hp} (S : Sts H (A :: B :: L)) : Sts H (B :: A :: L) := S.perm (.swap B A L)
theorem Sts.tail {A : Asr} {L : List Asr} {H : Hp} (S : Sts H (A :: L)) : Sts H L := ⟨S.st.tail, fun τ h => S.tk τ (List.mem_cons_of_mem _ h)⟩
theorem Sts.app_right {L M : List Asr} {H : Hp} (S : Sts H (L ++ M)) : Sts H M := ⟨S.st.app_right, fun τ h => S.tk τ (List.mem_append_right _ h)⟩
theorem Sts.app_left {L M : List Asr} {H : Hp} (S : Sts H (L ++ M)) : Sts H L := ⟨S.st.app_left, fun τ h => S.tk τ (List.mem_append_left _ h)⟩
/-- the tuples of one heap, the rest of another one -/
def wT (H K : Hp) : Hp := fun a => match H a with | some o => if isT o = true then some o else K a | none => K a
theorem wT_T {H K : Hp} {a : Addr} {vs : List V} (e : H a = some (.tup vs)) : wT H K a = some (.tup vs) := by
  unfold wT
  rw [e]
  rfl
theorem noT_wT {H K : Hp} (h : Subh K (noT H)) : noT (wT H K) = K := by
  funext a
  cases e : K a with
  | none =>
    unfold noT wT
    cases q : H a with
    | none =>
      show (match K a with | some o => if isT o = true then none else some o | none => none) = none
      rw [e]
    | some o =>
      cases t : isT o with
      | true => simp [t]
      | false => simp [t, e]
  | some o =>
    obtain ⟨n, e2⟩ := noT_some.mp (h a o e)
    refine noT_some.mpr ⟨n, ?_⟩
    unfold wT
    rw [e2]
    simp [n, e]
theorem Sts.under {A : Asr} {L M : List Asr} {H : Hp} (f : ∀ K, Sts K L → Sts K M) (S : Sts H (A :: L)) : Sts H (A :: M) := by
  obtain ⟨⟨h, s, a, T⟩, tk⟩ := S
  have hk : Subh (cutH (noT H) h) (noT H) := cutH_sub _ _
  have T2 : Sts (wT H (cutH (noT H) h)) L := ⟨by rw [noT_wT hk]; exact T, fun τ hm b vs e => wT_T (tk τ (List.mem_cons_of_mem _ hm) b vs e)⟩
  have T3 := f _ T2
  refine ⟨⟨h, s, a, by have z := T3.st; rwa [noT_wT hk] at z⟩, fun τ hm b vs e => ?_⟩
  rcases List.mem_cons.mp hm with q | hm
  · exact tk τ (by rw [q]; exact List.mem_cons_self) b vs e
  · have z := T3.tk τ hm b vs e
    unfold wT at z
    cases q : H b with
    | none =>
      rw [q] at z
      have z : cutH (noT H) h b = some (.tup vs) := z
      have y := (noT_some.mp (hk _ _ z)).1
      cases y
    | some o =>
      rw [q] at z
      cases t : isT o with
      | true => simpa [t] using z
      | false =>
        have z : cutH (noT H) h b = some (.tup vs) := by simpa [t] using z
        have y := (noT_some.mp (hk _ _ z)).1
        cases y
/-- one owned chunk for another -/
theorem Sts.impS {A B : Asr} {L : List Asr} {H : Hp} (S : Sts H (A :: L)) (f : ∀ h, A.sem h → B.sem h) (n : ∀ τ, B ≠ .im τ) : Sts H (B :: L) := ⟨S.st.imp f, fun τ h => by
  rcases List.mem_cons.mp h with q | h
  · exact absurd q.symm (n τ)
  · exact S.tk τ (List.mem_cons_of_mem _ h)⟩
theorem Sts.imp {A B : Hp → Prop} {L : List Asr} {H : Hp} (S : Sts H (.own A :: L)) (f : ∀ h, A h → B h) : Sts H (.own B :: L) := S.impS f (fun _ e => nomatch e)
/-- a shape opened: some objects -/
theorem Sts.opn {α : Type} {A : Hp → Prop} {f : α → List Asr} {L : List Asr} {H : Hp} (S : Sts H (.own A :: L)) (g : ∀ h, A h → ∃ x, St h (f x)) (n : ∀ x τ, Asr.im τ ∉ f x) : ∃ x, Sts H (f x ++ L) := by
  obtain ⟨⟨h, s, a, T⟩, tk⟩ := S
  obtain ⟨x, b⟩ := g h a
  refine ⟨x, St.join b s T, fun τ hm => ?_⟩
  rcases List.mem_append.mp hm with q | q
  · exact absurd q (n x τ)
  · exact tk τ (List.mem_cons_of_mem _ q)
/-- .. and closed -/
theorem Sts.cls {A : Hp → Prop} {M L : List Asr} {H : Hp} (S : Sts H (M ++ L)) (g : ∀ h, St h M → A h) : Sts H (.own A :: L) := by
  obtain ⟨h, s, a, T⟩ := St.close_star S.st
  exact ⟨⟨h, s, g h a, T⟩, fun τ hm => S.tk τ (List.mem_append_right _ ((List.mem_cons.mp hm).resolve_left (fun e => nomatch e)))⟩
theorem Sts.ex {α : Type} {f : α → Hp → Prop} {L : List Asr} {H : Hp} (S : Sts H (.own (fun h => ∃ x, f x h) :: L)) : ∃ x, Sts H (.own (f x) :: L) := by
  obtain ⟨⟨h, s, ⟨x, a⟩, T⟩, tk⟩ := S
  exact ⟨x, ⟨h, s, a, T⟩, fun τ hm => tk τ (List.mem_cons_of_mem _ ((List.mem_cons.mp hm).resolve_left (fun e => nomatch e)))⟩
theorem Sts.pur {P : Prop} {A : Hp → Prop} {L : List Asr} {H : Hp} (S : Sts H (.own (fun h => P ∧ A h) :: L)) : P ∧ Sts H (.own A :: L) := by
  obtain ⟨⟨h, s, ⟨p, a⟩, T⟩, tk⟩ := S
  exact ⟨p, ⟨h, s, a, T⟩, fun τ hm => tk τ (List.mem_cons_of_mem _ ((List.mem_cons.mp hm).resolve_left (fun e => nomatch e)))⟩
/-! ### tuples -/
def Le (τ υ : Tmap) : Prop := ∀ a vs, τ a = some vs → υ a = some vs
theorem Le.refl (τ : Tmap) : Le τ τ := fun _ _ e => e
theorem Le.trans {τ υ φ : Tmap} (a : Le τ υ) (b : Le υ φ) : Le τ φ := fun x o e => b x o (a x o e)
def addT (τ : Tmap) (p : Addr) (vs : List V) : Tmap := fun a => if a = p then some vs else τ a
theorem addT_same {τ : Tmap} {p : Addr} {vs : List V} : addT τ p vs p = some vs := if_pos rfl
theorem Sts.tp {τ : Tmap} {L : List Asr} {H : Hp} {t : Addr} {vs : List V} (S : Sts H (.im τ :: L)) (e : τ t = some vs) : H t = some (.tup vs) := S.tk τ List.mem_cons_self t vs e
theorem Sts.imW {τ υ : Tmap} {L : List Asr} {H : Hp} (S : Sts H (.im τ :: L)) (k : Tk υ H) : Sts H (.im υ :: L) := ⟨by
  obtain ⟨h, s, _, T⟩ := S.st
  exact ⟨h, s, trivial, T⟩, fun φ hm => by
  rcases List.mem_cons.mp hm with q | q
  · cases q
    exact k
  · exact S.tk φ (List.mem_cons_of_mem _ q)⟩
/-- what stands in the heap as a tuple is known from then on -/
theorem Sts.learn {τ : Tmap} {L : List Asr} {H : Hp} {t : Addr} {vs : List V} (S : Sts H (.im τ :: L)) (e : H t = some (.tup vs)) : ∃ υ, Le τ υ ∧ υ t = some vs ∧ Sts H (.im υ :: L) := by
  have k := S.tk τ List.mem_cons_self
  refine ⟨addT τ t vs, fun a us h => ?_, addT_same, S.imW fun a us h => ?_⟩
  · unfold addT
    by_cases q : a = t
    · subst q
      rw [if_pos rfl]
      have z := (k _ _ h).symm.trans e
      cases z
      rfl
    · rw [if_neg q]
      exact h
  · unfold addT at h
    by_cases q : a = t
    · rw [if_pos q] at h
      cases h
      rw [q]
      exact e
    · rw [if_neg q] at h
      exact k _ _ h
theorem Sts.im0 {L : List Asr} {H : Hp} (S : Sts H L) : Sts H (.im (fun _ => none) :: L) := ⟨⟨fun _ => none, (fun _ _ e => nomatch e), trivial, S.st.mono fun a o e => cutH_some.mpr ⟨rfl, e⟩⟩, fun τ hm => by
  rcases List.mem_cons.mp hm with q | q
  · cases q
    exact fun _ _ e => nomatch e
  · exact S.tk τ q⟩

/-! ### one object -/
theorem one_self (a : Addr) (o : HO) : one a o a = some o := by
  unfold one
  rw [if_pos rfl]
theorem one_iff {a b : Addr} {o u : HO} : one a o b = some u ↔ b = a ∧ o = u := by
  unfold one
  by_cases e : b = a
  · rw [if_pos e]
    exact ⟨fun q => ⟨e, Option.some.inj q⟩, fun q => by rw [q.2]⟩
  · rw [if_neg e]
    exact ⟨(fun q => nomatch q), (fun q => absurd q.1 e)⟩
theorem Sts.hdN {a : Addr} {o : HO} {L : List Asr} {H : Hp} (S : Sts H (pto a o :: L)) : noT H a = some o := by
  obtain ⟨⟨h, s, rfl, _⟩, _⟩ := S
  exact s _ _ (one_self a o)
theorem Sts.hd {a : Addr} {o : HO} {L : List Asr} {H : Hp} (S : Sts H (pto a o :: L)) : H a = some o := (noT_some.mp S.hdN).2
theorem Sts.hdT {a : Addr} {o : HO} {L : List Asr} {H : Hp} (S : Sts H (pto a o :: L)) : isT o = false := (noT_some.mp S.hdN).1
theorem Sts.mem_pto {a : Addr} {o : HO} {L : List Asr} {τ : Tmap} (h : Asr.im τ ∈ pto a o :: L) : Asr.im τ ∈ L := (List.mem_cons.mp h).resolve_left (fun e => nomatch e)
theorem Sts.new {L : List Asr} {H : Hp} (S : Sts H L) {p : Addr} (o : HO) (np : H p = none) (ho : isT o = false := by rfl) : Sts (upd H p o) (pto p o :: L) := by
  have nn : noT H p = none := by
    unfold noT
    rw [np]
  refine ⟨⟨one p o, fun a u e => ?_, rfl, S.st.mono fun a u e => cutH_some.mpr ⟨?_, ?_⟩⟩, fun τ hm a vs e => ?_⟩
  · obtain ⟨rfl, rfl⟩ := one_iff.mp e
    rw [noT_upd ho]
    exact upd_same
  · have ne : a ≠ p := ne_of_none e nn
    unfold one
    rw [if_neg ne]
  · rw [noT_upd ho, upd_ne (ne_of_none e nn)]
    exact e
  · have z := S.tk τ (Sts.mem_pto hm) a vs e
    rw [upd_ne (ne_of_none z np)]
    exact z
theorem Sts.newT {L : List Asr} {H : Hp} {τ : Tmap} (S : Sts H (.im τ :: L)) {p : Addr} (vs : List V) (np : H p = none) : ∃ υ, Le τ υ ∧ υ p = some vs ∧ Sts (upd H p (.tup vs)) (.im υ :: L) := by
  have S2 : Sts (upd H p (.tup vs)) (.im τ :: L) := ⟨by rw [noT_updT np]; exact S.st, fun φ hm a us e => by
    have z := S.tk φ hm a us e
    rw [upd_ne (ne_of_none z np)]
    exact z⟩
  exact S2.learn upd_same
theorem Sts.newT0 {L : List Asr} {H : Hp} (S : Sts H L) {p : Addr} (vs : List V) (np : H p = none) : Sts (upd H p (.tup vs)) L := ⟨by rw [noT_updT np]; exact S.st, fun φ hm a us e => by
    have z := S.tk φ hm a us e
    rw [upd_ne (ne_of_none z np)]
    exact z⟩
theorem Sts.put {a : Addr} {o : HO} {L : List Asr} {H : Hp} (S : Sts H (pto a o :: L)) (u : HO) (hu : isT u = false := by rfl) : Sts (upd H a u) (pto a u :: L) := by
  have ho := S.hdT
  have hh := S.hd
  obtain ⟨⟨h, s, rfl, T⟩, tk⟩ := S
  refine ⟨⟨one a u, fun b v e => ?_, rfl, T.mono fun b v e => ?_⟩, fun τ hm b vs e => ?_⟩
  · obtain ⟨rfl, rfl⟩ := one_iff.mp e
    rw [noT_upd hu]
    exact upd_same
  · obtain ⟨e1, e2⟩ := cutH_some.mp e
    have ne : b ≠ a := fun z => by
      rw [z, one_self] at e1
      cases e1
    refine cutH_some.mpr ⟨?_, ?_⟩
    · unfold one
      rw [if_neg ne]
    · rw [noT_upd hu, upd_ne ne]
      exact e2
  · have z := tk τ (List.mem_cons_of_mem _ (Sts.mem_pto hm)) b vs e
    have ne : b ≠ a := fun q => by
      rw [q, hh] at z
      cases z
      cases ho
    rw [upd_ne ne]
    exact z
theorem Sts.apart {a b : Addr} {o u : HO} {L : List Asr} {H : Hp} (S : Sts H (pto a o :: pto b u :: L)) : a ≠ b := by
  obtain ⟨⟨h, s, rfl, k, t, rfl, _⟩, _⟩ := S
  intro e
  have z := (cutH_some.mp (t _ _ (one_self b u))).1
  rw [← e, one_self] at z
  cases z
theorem Sts.none_ne {a p : Addr} {o : HO} {L : List Asr} {H : Hp} (S : Sts H (pto a o :: L)) (np : H p = none) : a ≠ p := ne_of_none S.hd np

/-! ### a chunk to the front -/
section
variable {A0 A1 A2 A3 A4 A5 A6 A7 A8 A9 A10 A11 A12 A13 A14 A15 A16 A17 A18 A19 A20 A21 A22 A23 A24 : Asr} {L : List Asr} {H : Hp}
theorem Sts.to0 (S : Sts H (A0 :: L)) : Sts H (A0 :: L) := S
theorem Sts.to1 (S : Sts H (A0 :: A1 :: L)) : Sts H (A1 :: A0 :: L) := S.swap
theorem Sts.to2 (S : Sts H (A0 :: A1 :: A2 :: L)) : Sts H (A2 :: A0 :: A1 :: L) := (S.under fun _ T => T.to1).swap
theorem Sts.to3 (S : Sts H (A0 :: A1 :: A2 :: A3 :: L)) : Sts H (A3 :: A0 :: A1 :: A2 :: L) := (S.under fun _ T => T.to2).swap
theorem Sts.to4 (S : Sts H (A0 :: A1 :: A2 :: A3 :: A4 :: L)) : Sts H (A4 :: A0 :: A1 :: A2 :: A3 :: L) := (S.under fun _ T => T.to3).swap
theorem Sts.to5 (S : Sts H (A0 :: A1 :: A2 :: A3 :: A4 :: A5 :: L)) : Sts H (A5 :: A0 :: A1 :: A2 :: A3 :: A4 :: L) := (S.under fun _ T => T.to4).swap
theorem Sts.to6 (S : Sts H (A0 :: A1 :: A2 :: A3 :: A4 :: A5 :: A6 :: L)) : Sts H (A6 :: A0 :: A1 :: A2 :: A3 :: A4 :: A5 :: L) := (S.under fun _ T => T.to5).swap
theorem Sts.to7 (S : Sts H (A0 :: A1 :: A2 :: A3 :: A4 :: A5 :: A6 :: A7 :: L)) : Sts H (A7 :: A0 :: A1 :: A2 :: A3 :: A4 :: A5 :: A6 :: L) := (S.under fun _ T => T.to6).swap
theorem Sts.to8 (S : Sts H (A0 :: A1 :: A2 :: A3 :: A4 :: A5 :: A6 :: A7 :: A8 :: L)) : Sts H (A8 :: A0 :: A1 :: A2 :: A3 :: A4 :: A5 :: A6 :: A7 :: L) := (S.under fun _ T => T.to7).swap
theorem Sts.to9 (S : Sts H (A0 :: A1 :: A2 :: A3 :: A4 :: A5 :: A6 :: A7 :: A8 :: A9 :: L)) : Sts H (A9 :: A0 :: A1 :: A2 :: A3 :: A4 :: A5 :: A6 :: A7 :: A8 :: L) := (S.under fun _ T => T.to8).swap
theorem Sts.to10 (S : Sts H (A0 :: A1 :: A2 :: A3 :: A4 :: A5 :: A6 :: A7 :: A8 :: A9 :: A10 :: L)) : Sts H (A10 :: A0 :: A1 :: A2 :: A3 :: A4 :: A5 :: A6 :: A7 :: A8 :: A9 :: L) := (S.under fun _ T => T.to9).swap
theorem Sts.to11 (S : Sts H (A0 :: A1 :: A2 :: A3 :: A4 :: A5 :: A6 :: A7 :: A8 :: A9 :: A10 :: A11 :: L)) : Sts H (A11 :: A0 :: A1 :: A2 :: A3 :: A4 :: A5 :: A6 :: A7 :: A8 :: A9 :: A10 :: L) := (S.under fun _ T => T.to10).swap
theorem Sts.to12 (S : Sts H (A0 :: A1 :: A2 :: A3 :: A4 :: A5 :: A6 :: A7 :: A8 :: A9 :: A10 :: A11 :: A12 :: L)) : Sts H (A12 :: A0 :: A1 :: A2 :: A3 :: A4 :: A5 :: A6 :: A7 :: A8 :: A9 :: A10 :: A11 :: L) := (S.under fun _ T => T.to11).swap
theorem Sts.to13 (S : Sts H (A0 :: A1 :: A2 :: A3 :: A4 :: A5 :: A6 :: A7 :: A8 :: A9 :: A10 :: A11 :: A12 :: A13 :: L)) : Sts H (A13 :: A0 :: A1 :: A2 :: A3 :: A4 :: A5 :: A6 :: A7 :: A8 :: A9 :: A10 :: A11 :: A12 :: L) := (S.under fun _ T => T.to12).swap
theorem Sts.to14 (S : Sts H (A0 :: A1 :: A2 :: A3 :: A4 :: A5 :: A6 :: A7 :: A8 :: A9 :: A10 :: A11 :: A12 :: A13 :: A14 :: L)) : Sts H (A14 :: A0 :: A1 :: A2 :: A3 :: A4 :: A5 :: A6 :: A7 :: A8 :: A9 :: A10 :: A11 :: A12 :: A13 :: L) := (S.under fun _ T => T.to13).swap
theorem Sts.to15 (S : Sts H (A0 :: A1 :: A2 :: A3 :: A4 :: A5 :: A6 :: A7 :: A8 :: A9 :: A10 :: A11 :: A12 :: A13 :: A14 :: A15 :: L)) : Sts H (A15 :: A0 :: A1 :: A2 :: A3 :: A4 :: A5 :: A6 :: A7 :: A8 :: A9 :: A10 :: A11 :: A12 :: A13 :: A14 :: L) := (S.under fun _ T => T.to14).swap
theorem Sts.to16 (S : Sts H (A0 :: A1 :: A2 :: A3 :: A4 :: A5 :: A6 :: A7 :: A8 :: A9 :: A10 :: A11 :: A12 :: A13 :: A14 :: A15 :: A16 :: L)) : Sts H (A16 :: A0 :: A1 :: A2 :: A3 :: A4 :: A5 :: A6 :: A7 :: A8 :: A9 :: A10 :: A11 :: A12 :: A13 :: A14 :: A15 :: L) := (S.under fun _ T => T.to15).swap
theorem Sts.to17 (S : Sts H (A0 :: A1 :: A2 :: A3 :: A4 :: A5 :: A6 :: A7 :: A8 :: A9 :: A10 :: A11 :: A12 :: A13 :: A14 :: A15 :: A16 :: A17 :: L)) : Sts H (A17 :: A0 :: A1 :: A2 :: A3 :: A4 :: A5 :: A6 :: A7 :: A8 :: A9 :: A10 :: A11 :: A12 :: A13 :: A14 :: A15 :: A16 :: L) := (S.under fun _ T => T.to16).swap
theorem Sts.to18 (S : Sts H (A0 :: A1 :: A2 :: A3 :: A4 :: A5 :: A6 :: A7 :: A8 :: A9 :: A10 :: A11 :: A12 :: A13 :: A14 :: A15 :: A16 :: A17 :: A18 :: L)) : Sts H (A18 :: A0 :: A1 :: A2 :: A3 :: A4 :: A5 :: A6 :: A7 :: A8 :: A9 :: A10 :: A11 :: A12 :: A13 :: A14 :: A15 :: A16 :: A17 :: L) := (S.under fun _ T => T.to17).swap
theorem Sts.to19 (S : Sts H (A0 :: A1 :: A2 :: A3 :: A4 :: A5 :: A6 :: A7 :: A8 :: A9 :: A10 :: A11 :: A12 :: A13 :: A14 :: A15 :: A16 :: A17 :: A18 :: A19 :: L)) : Sts H (A19 :: A0 :: A1 :: A2 :: A3 :: A4 :: A5 :: A6 :: A7 :: A8 :: A9 :: A10 :: A11 :: A12 :: A13 :: A14 :: A15 :: A16 :: A17 :: A18 :: L) := (S.under fun _ T => T.to18).swap
theorem Sts.to20 (S : Sts H (A0 :: A1 :: A2 :: A3 :: A4 :: A5 :: A6 :: A7 :: A8 :: A9 :: A10 :: A11 :: A12 :: A13 :: A14 :: A15 :: A16 :: A17 :: A18 :: A19 :: A20 :: L)) : Sts H (A20 :: A0 :: A1 :: A2 :: A3 :: A4 :: A5 :: A6 :: A7 :: A8 :: A9 :: A10 :: A11 :: A12 :: A13 :: A14 :: A15 :: A16 :: A17 :: A18 :: A19 :: L) := (S.under fun _ T => T.to19).swap
theorem Sts.to21 (S : Sts H (A0 :: A1 :: A2 :: A3 :: A4 :: A5 :: A6 :: A7 :: A8 :: A9 :: A10 :: A11 :: A12 :: A13 :: A14 :: A15 :: A16 :: A17 :: A18 :: A19 :: A20 :: A21 :: L)) : Sts H (A21 :: A0 :: A1 :: A2 :: A3 :: A4 :: A5 :: A6 :: A7 :: A8 :: A9 :: A10 :: A11 :: A12 :: A13 :: A14 :: A15 :: A16 :: A17 :: A18 :: A19 :: A20 :: L) := (S.under fun _ T => T.to20).swap
theorem Sts.to22 (S : Sts H (A0 :: A1 :: A2 :: A3 :: A4 :: A5 :: A6 :: A7 :: A8 :: A9 :: A10 :: A11 :: A12 :: A13 :: A14 :: A15 :: A16 :: A17 :: A18 :: A19 :: A20 :: A21 :: A22 :: L)) : Sts H (A22 :: A0 :: A1 :: A2 :: A3 :: A4 :: A5 :: A6 :: A7 :: A8 :: A9 :: A10 :: A11 :: A12 :: A13 :: A14 :: A15 :: A16 :: A17 :: A18 :: A19 :: A20 :: A21 :: L) := (S.under fun _ T => T.to21).swap
theorem Sts.to23 (S : Sts H (A0 :: A1 :: A2 :: A3 :: A4 :: A5 :: A6 :: A7 :: A8 :: A9 :: A10 :: A11 :: A12 :: A13 :: A14 :: A15 :: A16 :: A17 :: A18 :: A19 :: A20 :: A21 :: A22 :: A23 :: L)) : Sts H (A23 :: A0 :: A1 :: A2 :: A3 :: A4 :: A5 :: A6 :: A7 :: A8 :: A9 :: A10 :: A11 :: A12 :: A13 :: A14 :: A15 :: A16 :: A17 :: A18 :: A19 :: A20 :: A21 :: A22 :: L) := (S.under fun _ T => T.to22).swap
theorem Sts.to24 (S : Sts H (A0 :: A1 :: A2 :: A3 :: A4 :: A5 :: A6 :: A7 :: A8 :: A9 :: A10 :: A11 :: A12 :: A13 :: A14 :: A15 :: A16 :: A17 :: A18 :: A19 :: A20 :: A21 :: A22 :: A23 :: A24 :: L)) : Sts H (A24 :: A0 :: A1 :: A2 :: A3 :: A4 :: A5 :: A6 :: A7 :: A8 :: A9 :: A10 :: A11 :: A12 :: A13 :: A14 :: A15 :: A16 :: A17 :: A18 :: A19 :: A20 :: A21 :: A22 :: A23 :: L) := (S.under fun _ T => T.to23).swap
end

/-! ### the script -/
structure sqc (K : PySem.W.Frag) (a : Addr) (xs : List V) (h : Hp) : Prop where
  sq : SqL K h a xs
theorem sqc_sub {K : PySem.W.Frag} {a : Addr} {xs : List V} {h H : Hp} (x : SqL K h a xs) (s : Subh h H) : SqL K H a xs := by
  rcases x with (x | ⟨o, x⟩) | x
  · exact .inl (.inl (s _ _ x))
  · exact .inl (.inr ⟨o, s _ _ x⟩)
  · exact .inr x
theorem Sts.sq {K : PySem.W.Frag} {a : Addr} {xs : List V} {L : List Asr} {H : Hp} (S : Sts H (.own (sqc K a xs) :: L)) : SqL K H a xs := by
  obtain ⟨⟨h, s, x, _⟩, _⟩ := S
  exact sqc_sub x.sq (s.trans (noT_sub H))
theorem sqc_noT {K : PySem.W.Frag} {a : Addr} {xs : List V} {H : Hp} (x : SqL K H a xs) : SqL K (noT H) a xs := by
  rcases x with (x | ⟨o, x⟩) | x
  · exact .inl (.inl (noT_some.mpr ⟨rfl, x⟩))
  · exact .inl (.inr ⟨o, noT_some.mpr ⟨rfl, x⟩⟩)
  · exact .inr x
theorem sts_script {K : PySem.W.Frag} {a : Addr} {xs : List V} {H : Hp} (x : SqL K H a xs) : Sts H [.own (sqc K a xs)] := ⟨⟨noT H, Subh.refl _, ⟨sqc_noT x⟩, trivial⟩, fun τ h => by simp at h⟩
end Oc
/-! ### rules by values, in the forms that the proofs use -/
namespace Oc
open PySem PySem.Spec PyProof.Rows L2

theorem pr {p : Prop} (h : p) : p := h
/-! a rule's end may be weakened: the closure of each reading from above -/
def upE (t : TE) : TE := fun σ H Q => ∃ P : VK, t σ H P ∧ ∀ v H1, P v H1 → Q v H1
def upA (t : TA) : TA := fun σ H Q => ∃ P : List V → Hp → Prop, t σ H P ∧ ∀ vs H1, P vs H1 → Q vs H1
def upS (t : TS) : TS := fun D σ H => ∃ Mid : L2.St → Hp → Prop, t { D with nx := Mid } σ H ∧ ∀ σ' H', Mid σ' H' → D.nx σ' H'
section
variable {X : Cx}
theorem pe_up {e : Expr} {t : TE} (h : PE X e t) : PE X e (upE t) := ⟨fun pn s σ H Q J ⟨P, p, w⟩ => thn (h.run pn s σ H P J p) fun _ _ ⟨v, H1, J1, r, q⟩ => ⟨v, H1, J1, r, w v H1 q⟩⟩
theorem pa_up {es : List Expr} {t : TA} (h : PA X es t) : PA X es (upA t) := ⟨fun pos pn s σ H Q J ⟨P, p, w⟩ => thn (h.run pos pn s σ H P J p) fun _ _ ⟨vs, H1, J1, r, q⟩ => ⟨vs, H1, J1, r, w vs H1 q⟩⟩
theorem pk_up {ks : List Keyword} {t : TA} (h : PK X ks t) : PK X ks (upA t) := ⟨fun pos pn s σ H Q J ⟨P, p, w⟩ => thn (h.run pos pn s σ H P J p) fun _ _ ⟨vs, H1, J1, r, q⟩ => ⟨vs, H1, J1, r, w vs H1 q⟩⟩
theorem ps_up {st : Stmt} {t : TS} (h : PS X st t) : PS X st (upS t) := ⟨fun pn s σ H D J ⟨Mid, p, w⟩ => thn (h.run pn s σ H { D with nx := Mid } J p) fun f s1 q => match f, q with
  | .next, ⟨σ', H', J1, q⟩ => ⟨σ', H', J1, w σ' H' q⟩
  | .ret _, q => q
  | .brk, q => q
  | .cont, q => q⟩
end
/-- the i-th of a list of ints, 0 outside -/
def gI (ns : List Int) (i : Int) : Int := ns.getD i.toNat 0
theorem atI_of {xs : List V} {i : Int} {v : V} (h0 : 0 ≤ i) (h : xs[i.toNat]? = some v) : atI xs i = some v := by
  have e : i = ((i.toNat : Nat) : Int) := by omega
  rw [e]
  exact atI_nat h
theorem atI_ints {ns : List Int} {i : Int} (h0 : 0 ≤ i) (h1 : i < ns.length) : atI (ns.map V.int) i = some (.int (gI ns i)) := by
  refine atI_of h0 ?_
  have hl : i.toNat < ns.length := by omega
  rw [List.getElem?_map, List.getElem?_eq_getElem hl]
  unfold gI
  rw [List.getD_eq_getElem?_getD, List.getElem?_eq_getElem hl]
  rfl
theorem gI_mem {ns : List Int} {i : Int} (h0 : 0 ≤ i) (h1 : i < ns.length) : gI ns i ∈ ns := by
  have hl : i.toNat < ns.length := by omega
  unfold gI
  rw [List.getD_eq_getElem?_getD, List.getElem?_eq_getElem hl]
  exact List.getElem_mem hl
theorem ixN_of {n : Nat} {i : Int} (h0 : 0 ≤ i) (h1 : i < n) : ixN n i = some i.toNat := by
  unfold ixN
  rw [if_pos h0, if_pos h1]
/-- a slice of any list -/
def cutL {α : Type} (xs : List α) (lo hi : Option Int) : List α := (xs.drop (HT.sIx xs.length 0 lo)).take (HT.sIx xs.length xs.length hi - HT.sIx xs.length 0 lo)
theorem cutV_map {α : Type} (f : α → V) (xs : List α) (lo hi : Option Int) : cutV (xs.map f) lo hi = (cutL xs lo hi).map f := by
  unfold cutV cutL
  rw [List.length_map, List.map_take, List.map_drop]
theorem sIx_int (n d : Nat) {i : Int} (h : 0 ≤ i) : HT.sIx n d (some i) = min i.toNat n := by
  have e : i = ((i.toNat : Nat) : Int) := by omega
  rw [e, HT.sIx_nat, Int.toNat_natCast]
theorem cutL_take {α : Type} (xs : List α) {i : Int} (h : 0 ≤ i) : cutL xs none (some i) = xs.take i.toNat := by
  unfold cutL
  rw [HT.sIx_none, sIx_int _ _ h, List.drop_zero, Nat.sub_zero]
  by_cases q : i.toNat ≤ xs.length
  · rw [Nat.min_eq_left q]
  · rw [Nat.min_eq_right (by omega), List.take_length, List.take_of_length_le (by omega)]
theorem cutL_drop {α : Type} (xs : List α) {i : Int} (h : 0 ≤ i) : cutL xs (some i) none = xs.drop i.toNat := by
  unfold cutL
  rw [HT.sIx_none, sIx_int _ _ h]
  by_cases q : i.toNat ≤ xs.length
  · rw [Nat.min_eq_left q, List.take_of_length_le (by rw [List.length_drop]; exact Nat.le_refl _)]
  · rw [Nat.min_eq_right (by omega), List.drop_length, List.drop_of_length_le (by omega), List.take_nil]
theorem cutL_mid {α : Type} (xs : List α) {i j : Int} (h : 0 ≤ i) (hj : 0 ≤ j) : cutL xs (some i) (some j) = (xs.drop i.toNat).take (j.toNat - i.toNat) := by
  unfold cutL
  rw [sIx_int _ _ h, sIx_int _ _ hj]
  by_cases q : i.toNat ≤ xs.length
  · rw [Nat.min_eq_left q]
    by_cases r : j.toNat ≤ xs.length
    · rw [Nat.min_eq_left r]
    · rw [Nat.min_eq_right (show xs.length ≤ j.toNat by omega), List.take_of_length_le (by rw [List.length_drop]; exact Nat.le_refl _), List.take_of_length_le (by rw [List.length_drop]; omega)]
  · rw [Nat.min_eq_right (show xs.length ≤ i.toNat by omega), List.drop_length, List.drop_of_length_le (show xs.length ≤ i.toNat by omega), List.take_nil, List.take_nil]
theorem cutL_all {α : Type} (xs : List α) : cutL xs none none = xs := by
  unfold cutL
  rw [HT.sIx_none, HT.sIx_none, List.drop_zero, Nat.sub_zero, List.take_length]
theorem dci (a b : Int) : decide (V.int a = V.int b) = decide (a = b) := by
  by_cases h : a = b
  · rw [h, decide_eq_true rfl, decide_eq_true rfl]
  · rw [decide_eq_false h, decide_eq_false fun e => h (V.int.inj e)]

section
variable {X : Cx}
theorem oc_int_i : CallR X (.type "int") (fun xs H Q => ∃ i, xs = [.int i] ∧ Q (.int i) H) := fun pins s σ H xs us Q I r h => call_int1 pins s σ H xs us Q I r (.inl h)
theorem oc_int_b : CallR X (.type "int") (fun xs H Q => ∃ k, xs = [.bl k] ∧ Q (.int (if k then 1 else 0)) H) := fun pins s σ H xs us Q I r h => call_int1 pins s σ H xs us Q I r (.inr h)
/-- a written power -/
theorem oc_powc (i j r : Int) (h : CPow i j) (e : i ^ j.toNat = r) : OpR X (binaryOp .Pow) (fun x y H Q => x = .int i ∧ y = .int j ∧ Q (.int r) H) := fun pins s σ H x y v u Q I rx ry ⟨e1, e2, q⟩ =>
  op_pow pins s σ H x y v u Q I rx ry ⟨i, j, e1, e2, h, by show Q (.int (i ^ j.toNat)) H; rw [e]; exact q⟩
theorem oc_min2 (hc : X.calm = true) : CallR X (.builtin "min") (fun xs H Q => ∃ i j, xs = [.int i, .int j] ∧ Q (.int (min i j)) H) := fun pins s σ H xs us Q I r ⟨i, j, e, q⟩ => call_min2 hc pins s σ H xs us Q I r ⟨i, j, e, by
  have h : (if j < i then j else i) = min i j := by split <;> omega
  rw [h]
  exact q⟩
theorem oc_max2 (hc : X.calm = true) : CallR X (.builtin "max") (fun xs H Q => ∃ i j, xs = [.int i, .int j] ∧ Q (.int (max i j)) H) := fun pins s σ H xs us Q I r ⟨i, j, e, q⟩ => call_max2 hc pins s σ H xs us Q I r ⟨i, j, e, by
  have h : (if j > i then j else i) = max i j := by split <;> omega
  rw [h]
  exact q⟩
theorem oc_abs : CallR X (.builtin "abs") (fun xs H Q => ∃ i : Int, xs = [.int i] ∧ Q (.int (i.natAbs : Nat)) H) := fun pins s σ H xs us Q I r ⟨i, e, q⟩ => call_abs pins s σ H xs us Q I r ⟨i, e, by
  have h : (if i < 0 then -i else i) = ((i.natAbs : Nat) : Int) := by split <;> omega
  rw [h]
  exact q⟩
section
variable {K : PySem.W.Frag} (hK : X.K = K)
include hK
theorem oc_len : CallR X (.builtin "len") (fun xs H Q => ∃ p ys, xs = [.ref p] ∧ SqL K H p ys ∧ Q (.int ys.length) H) := fun pins s σ H xs us Q I r ⟨p, ys, e, h, q⟩ => call_len_seq pins s σ H xs us Q I r ⟨p, ys, e, .inl (hK ▸ h), q⟩
theorem oc_lenT : CallR X (.builtin "len") (fun xs H Q => ∃ p ys, xs = [.ref p] ∧ SqT K H p ys ∧ Q (.int ys.length) H) := fun pins s σ H xs us Q I r ⟨p, ys, e, h, q⟩ => call_len_seq pins s σ H xs us Q I r ⟨p, ys, e, .inr (hK ▸ h), q⟩
theorem oc_lenI : CallR X (.builtin "len") (fun xs H Q => ∃ p, ∃ ns : List Int, xs = [.ref p] ∧ SqL K H p (ns.map V.int) ∧ Q (.int ns.length) H) := fun pins s σ H xs us Q I r ⟨p, ns, e, h, q⟩ => call_len_seq pins s σ H xs us Q I r ⟨p, _, e, .inl (hK ▸ h), by rw [List.length_map]; exact q⟩
theorem oc_list : CallR X (.type "list") (fun xs H Q => ∃ p ys, xs = [.ref p] ∧ SqL K H p ys ∧ ∀ l, H l = none → Q (.ref l) (upd H l (.lst ys))) := fun pins s σ H xs us Q I r ⟨p, ys, e, h, q⟩ => call_list_of pins s σ H xs us Q I r ⟨p, ys, e, .inl (hK ▸ h), q⟩
theorem oc_listT : CallR X (.type "list") (fun xs H Q => ∃ p ys, xs = [.ref p] ∧ SqT K H p ys ∧ ∀ l, H l = none → Q (.ref l) (upd H l (.lst ys))) := fun pins s σ H xs us Q I r ⟨p, ys, e, h, q⟩ => call_list_of pins s σ H xs us Q I r ⟨p, ys, e, .inr (hK ▸ h), q⟩
theorem oc_tuple : CallR X (.type "tuple") (fun xs H Q => ∃ p ys, xs = [.ref p] ∧ SqL K H p ys ∧ ∀ l, H l = none → Q (.ref l) (upd H l (.tup ys))) := fun pins s σ H xs us Q I r ⟨p, ys, e, h, q⟩ => call_tuple_of pins s σ H xs us Q I r ⟨p, ys, e, .inl ⟨hK ▸ h, q⟩⟩
theorem oc_sum (hc : X.calm = true) : CallR X (.builtin "sum") (rSum K) := hK ▸ cr_sum hc
theorem oc_anyB (hc : X.calm = true) : CallR X (.builtin "any") (rAny K) := hK ▸ cr_any hc
theorem oc_allB (hc : X.calm = true) : CallR X (.builtin "all") (rAll K) := hK ▸ cr_all hc
/-- xs[i], any list -/
theorem oc_ix : IxR X (fun x y H Q => ∃ p xs i v, x = .ref p ∧ y = .int i ∧ SqL K H p xs ∧ atI xs i = some v ∧ Q v H) := hK ▸ ix_list
theorem oc_ixT : IxR X (fun x y H Q => ∃ p xs i v, x = .ref p ∧ y = .int i ∧ SqT K H p xs ∧ atI xs i = some v ∧ Q v H) := hK ▸ ix_tup
/-- xs[i], a list of ints -/
theorem oc_ixI : IxR X (fun x y H Q => ∃ p, ∃ (ns : List Int) (i : Int), x = .ref p ∧ y = .int i ∧ SqL K H p (ns.map V.int) ∧ (0 ≤ i ∧ i < ns.length) ∧ Q (.int (gI ns i)) H) := fun va sl pins s σ H x y v u Q I rx ry ⟨p, ns, i, e1, e2, h, b, q⟩ hs =>
  ix_list va sl pins s σ H x y v u Q I rx ry ⟨p, _, i, _, e1, e2, hK ▸ h, atI_ints b.1 b.2, q⟩ hs
/-- xs[i:j], a list of ints; any list -/
theorem oc_slI : SlR X (fun x lo hi H Q => ∃ a, ∃ ns : List Int, x = .ref a ∧ SqL K H a (ns.map V.int) ∧ ∀ p, H p = none → Q (.ref p) (upd H p (.lst ((cutL ns lo hi).map V.int)))) := by
  intro pins s σ H x v vl vu lo hi sl Q I rx hs pl pu ⟨a, ns, e, h, q⟩
  exact sl_list pins s σ H x v vl vu lo hi sl Q I rx hs pl pu ⟨a, _, e, hK ▸ h, fun p np => by rw [cutV_map]; exact q p np⟩
theorem oc_sl : SlR X (fun x lo hi H Q => ∃ a xs, x = .ref a ∧ SqL K H a xs ∧ ∀ p, H p = none → Q (.ref p) (upd H p (.lst (cutV xs lo hi)))) := hK ▸ sl_list
end
theorem dp_ints {K : PySem.W.Frag} {H : Hp} : ∀ ns : List Int, DpAll K H (ns.map V.int) (ns.map PyData.int)
  | [] => .nil
  | n :: ns => .cons (.int n) (dp_ints ns)
theorem eqv_ints : ∀ ns ms : List Int, PyData.eqvAll (ns.map PyData.int) (ms.map PyData.int) = decide (ns = ms)
  | [], [] => by simp [PyData.eqvAll]
  | [], _ :: _ => by simp [PyData.eqvAll]
  | _ :: _, [] => by simp [PyData.eqvAll]
  | n :: ns, m :: ms => by
    simp only [List.map_cons, PyData.eqvAll, PyData.eqv, eqv_ints ns ms]
    by_cases h1 : n = m <;> by_cases h2 : ns = ms <;> simp [h1, h2]
theorem lay_ints : ∀ ns : List Int, PyData.canLayAll0 (ns.map PyData.int) = true
  | [] => by simp [PyData.canLayAll0]
  | n :: ns => by simp [PyData.canLayAll0, PyData.canLay0, lay_ints ns]
theorem depth_ints : ∀ ns : List Int, PyData.depthAll (ns.map PyData.int) = 0
  | [] => by simp [PyData.depthAll]
  | n :: ns => by simp [PyData.depthAll, PyData.depth, depth_ints ns]
theorem shaped_ints (ns : List Int) : SeqAt.shaped (.list (ns.map PyData.int)) = true := by
  unfold SeqAt.shaped
  simp [PyData.canLay0, lay_ints, PyData.depth, depth_ints]
theorem oc_ne_ints {K : PySem.W.Frag} (hK : X.K = K) (hu : X.A.units + 64 < cLine) : OpR X (compareOp .NotEq) (fun x y H Q => ∃ a b, ∃ ns ms : List Int, x = .ref a ∧ y = .ref b ∧ SqL K H a (ns.map V.int) ∧ SqL K H b (ms.map V.int) ∧ Q (.bl (!decide (ns = ms))) H) := fun pins s σ H x y v u Q I rx ry ⟨a, b, ns, ms, e1, e2, h1, h2, q⟩ =>
  op_neD hu pins s σ H x y v u Q I rx ry ⟨.list (ns.map PyData.int), .list (ms.map PyData.int), e1 ▸ .lst (hK ▸ h1) (dp_ints ns), e2 ▸ .lst (hK ▸ h2) (dp_ints ms), shaped_ints ns, shaped_ints ms, by
    have e : PyData.eqv (.list (ns.map PyData.int)) (.list (ms.map PyData.int)) = decide (ns = ms) := by
      rw [← eqv_ints]
      simp only [PyData.eqv]
    rw [e]
    exact q⟩
theorem oc_eq_ints {K : PySem.W.Frag} (hK : X.K = K) (hu : X.A.units + 64 < cLine) : OpR X (compareOp .Eq) (fun x y H Q => ∃ a b, ∃ ns ms : List Int, x = .ref a ∧ y = .ref b ∧ SqL K H a (ns.map V.int) ∧ SqL K H b (ms.map V.int) ∧ Q (.bl (decide (ns = ms))) H) := fun pins s σ H x y v u Q I rx ry ⟨a, b, ns, ms, e1, e2, h1, h2, q⟩ =>
  op_eqD hu pins s σ H x y v u Q I rx ry ⟨.list (ns.map PyData.int), .list (ms.map PyData.int), e1 ▸ .lst (hK ▸ h1) (dp_ints ns), e2 ▸ .lst (hK ▸ h2) (dp_ints ms), shaped_ints ns, shaped_ints ms, by
    have e : PyData.eqv (.list (ns.map PyData.int)) (.list (ms.map PyData.int)) = decide (ns = ms) := by
      rw [← eqv_ints]
      simp only [PyData.eqv]
    rw [e]
    exact q⟩
/-! isinstance, by what is known of the value -/
theorem oc_isi_ty {T U : String} {r : Bool} (h : kitB T U = some r) : CallR X (.builtin "isinstance") (fun xs H Q => ∃ x, xs = [x, .ty U] ∧ TyX X.K H x (.type T) ∧ Q (.bl r) H) := fun pins s σ H xs us Q I rr ⟨x, e, t, q⟩ =>
  call_isi pins s σ H xs us Q I rr ⟨x, _, _, _, r, e, .ty U, t, kit_ty h, q⟩
theorem oc_isi_ii : CallR X (.builtin "isinstance") (fun xs H Q => ∃ i, xs = [.int i, .ty "int"] ∧ Q (.bl true) H) := fun pins s σ H xs us Q I rr ⟨i, e, q⟩ =>
  call_isi pins s σ H xs us Q I rr ⟨_, _, _, _, true, e, .ty "int", .base (.int i), kit_ty (by decide +kernel), q⟩
theorem oc_isi_ib : CallR X (.builtin "isinstance") (fun xs H Q => ∃ i, xs = [.int i, .ty "bool"] ∧ Q (.bl false) H) := fun pins s σ H xs us Q I rr ⟨i, e, q⟩ =>
  call_isi pins s σ H xs us Q I rr ⟨_, _, _, _, false, e, .ty "bool", .base (.int i), kit_ty (by decide +kernel), q⟩
theorem oc_isi_bb : CallR X (.builtin "isinstance") (fun xs H Q => ∃ i, xs = [.bl i, .ty "bool"] ∧ Q (.bl true) H) := fun pins s σ H xs us Q I rr ⟨i, e, q⟩ =>
  call_isi pins s σ H xs us Q I rr ⟨_, _, _, _, true, e, .ty "bool", .base (.bl i), kit_ty (by decide +kernel), q⟩
theorem oc_isi_ll : CallR X (.builtin "isinstance") (fun xs H Q => ∃ a ys, xs = [.ref a, .ty "list"] ∧ H a = some (.lst ys) ∧ Q (.bl true) H) := fun pins s σ H xs us Q I rr ⟨a, ys, e, h, q⟩ =>
  call_isi pins s σ H xs us Q I rr ⟨_, _, _, _, true, e, .ty "list", .base (.lst h), kit_ty (by decide +kernel), q⟩
end

/-! ### the heap's changes, in chunks -/
theorem small {n : Nat} (h : n ≤ 1000000) : n < sizeLine := Nat.lt_of_le_of_lt h (by decide)
theorem small' {n : Nat} (h : n ≤ 1000000) : n ≤ sizeLine := Nat.le_of_lt (small h)
theorem Sts.newE {L : List Asr} {H H' : Hp} {p : Addr} {o : HO} (S : Sts H L) (np : H p = none) (e : upd H p o = H') (ho : isT o = false := by rfl) : Sts H' (pto p o :: L) := e ▸ S.new o np ho
theorem Sts.putE {L : List Asr} {H H' : Hp} {a : Addr} {o u : HO} (S : Sts H (pto a o :: L)) (e : upd H a u = H') (hu : isT u = false := by rfl) : Sts H' (pto a u :: L) := e ▸ S.put u hu
section
variable {X : Cx}
theorem oc_append : MtR X "list.append" (fun x vs H Q => ∃ l y, x = .ref l ∧ vs = [y] ∧ ∃ xs L, Sts H (pto l (.lst xs) :: L) ∧ xs.length < sizeLine ∧ ∀ H', Sts H' (pto l (.lst (xs ++ [y])) :: L) → Q .non H') := fun pins s σ H x xs v us Q I rx rs ⟨l, y, e1, e2, ys, L, S, hl, q⟩ =>
  mt_append pins s σ H x xs v us Q I rx rs ⟨l, ys, y, e1, e2, S.hd, hl, q _ (S.put _)⟩
theorem oc_extend : MtR X "list.extend" (fun x vs H Q => ∃ l b, x = .ref l ∧ vs = [.ref b] ∧ ∃ xs zs L, Sts H (pto l (.lst xs) :: L) ∧ H b = some (.lst zs) ∧ xs.length + zs.length ≤ sizeLine ∧ ∀ H', Sts H' (pto l (.lst (xs ++ zs)) :: L) → Q .non H') := fun pins s σ H x xs v us Q I rx rs ⟨l, b, e1, e2, ys, zs, L, S, hb, hl, q⟩ =>
  mt_extend pins s σ H x xs v us Q I rx rs ⟨l, b, ys, zs, e1, e2, S.hd, hb, hl, q _ (S.put _)⟩
theorem oc_setL : PSet X (fun o i v H Q => ∃ p k, o = .ref p ∧ i = .int k ∧ ∃ xs L, Sts H (pto p (.lst xs) :: L) ∧ (0 ≤ k ∧ k < xs.length) ∧ ∀ H', Sts H' (pto p (.lst (xs.set k.toNat v)) :: L) → Q H') := fun pins s σ H o i v ov iv u Q I ro ri rv ⟨p, k, e1, e2, xs, L, S, b, q⟩ =>
  set_list pins s σ H o i v ov iv u Q I ro ri rv ⟨p, xs, k, k.toNat, e1, e2, S.hd, ixN_of b.1 b.2, q _ (S.put _)⟩
theorem oc_setI : PSet X (fun o i v H Q => ∃ p k j, o = .ref p ∧ i = .int k ∧ v = .int j ∧ ∃ (ns : List Int) (L : List Asr), Sts H (pto p (.lst (ns.map V.int)) :: L) ∧ (0 ≤ k ∧ k < ns.length) ∧ ∀ H', Sts H' (pto p (.lst ((ns.set k.toNat j).map V.int)) :: L) → Q H') := fun pins s σ H o i v ov iv u Q I ro ri rv ⟨p, k, j, e1, e2, e3, ns, L, S, b, q⟩ =>
  set_list pins s σ H o i v ov iv u Q I ro ri rv ⟨p, _, k, k.toNat, e1, e2, S.hd, ixN_of b.1 (by rw [List.length_map]; exact b.2), by
    refine q _ ?_
    rw [List.map_set, e3]
    exact S.put _⟩
theorem oc_appendI : MtR X "list.append" (fun x vs H Q => ∃ l j, x = .ref l ∧ vs = [.int j] ∧ ∃ (ns : List Int) (L : List Asr), Sts H (pto l (.lst (ns.map V.int)) :: L) ∧ ns.length ≤ 1000000 ∧ ∀ H', Sts H' (pto l (.lst ((ns ++ [j]).map V.int)) :: L) → Q .non H') := fun pins s σ H x xs v us Q I rx rs ⟨l, j, e1, e2, ns, L, S, hl, q⟩ =>
  mt_append pins s σ H x xs v us Q I rx rs ⟨l, _, .int j, e1, e2, S.hd, small (by rw [List.length_map]; exact hl), q _ (by rw [List.map_append]; exact S.put _)⟩
theorem oc_catI : OpR X (binaryOp .Add) (fun x y H Q => ∃ l b, ∃ (ns ms : List Int), x = .ref l ∧ y = .ref b ∧ H l = some (.lst (ns.map V.int)) ∧ H b = some (.lst (ms.map V.int)) ∧ ns.length + ms.length ≤ 1000000 ∧ ∀ p, H p = none → Q (.ref p) (upd H p (.lst ((ns ++ ms).map V.int)))) := fun pins s σ H x y v u Q I rx ry ⟨l, b, ns, ms, e1, e2, h1, h2, hl, q⟩ =>
  op_cat pins s σ H x y v u Q I rx ry ⟨l, b, _, _, e1, e2, h1, h2, small' (by rw [List.length_map, List.length_map]; exact hl), by rw [← List.map_append]; exact q⟩
end

/-! ### tests -/
theorem dt {p : Prop} [Decidable p] (h : p) : decide p = true := decide_eq_true h
theorem df {p : Prop} [Decidable p] (h : ¬ p) : decide p = false := decide_eq_false h
theorem nd {p : Prop} [Decidable p] (h : p) : (!decide p) = false := by rw [decide_eq_true h]; rfl
theorem nt {p : Prop} [Decidable p] (h : ¬ p) : (!decide p) = true := by rw [decide_eq_false h]; rfl
theorem odt {p : Prop} [Decidable p] (h : decide p = true) : p := of_decide_eq_true h
theorem odf {p : Prop} [Decidable p] (h : decide p = false) : ¬ p := of_decide_eq_false h
theorem ont {p : Prop} [Decidable p] (h : (!decide p) = true) : ¬ p := fun q => by rw [decide_eq_true q] at h; cases h
theorem onf {p : Prop} [Decidable p] (h : (!decide p) = false) : p := Decidable.byContradiction fun q => by rw [decide_eq_false q] at h; cases h
theorem vi {a b : Int} (h : V.int a = V.int b) : a = b := V.int.inj h
theorem ifB {b : Bool} {A B : Prop} (h1 : b = true → A) (h2 : b = false → B) : if b = true then A else B := by
  cases b with
  | true => exact iteT (h1 rfl)
  | false => exact iteF (h2 rfl)
theorem ifT {b : Bool} {A B : Prop} (h : b = true) (k : A) : if b = true then A else B := by
  subst h
  exact iteT k
theorem ifF {b : Bool} {A B : Prop} (h : b = false) (k : B) : if b = true then A else B := by
  subst h
  exact iteF k

theorem ifTT {A B : Prop} (k : A) : if true = true then A else B := iteT k
theorem ifFF {A B : Prop} (k : B) : if false = true then A else B := iteF k
theorem ifNT {A B : Prop} (k : B) : if (!true) = true then A else B := ifF rfl k
theorem ifNF {A B : Prop} (k : A) : if (!false) = true then A else B := ifT rfl k
theorem ifDE {α : Type} {x : α} [Decidable (x = x)] {A B : Prop} (k : A) : if decide (x = x) = true then A else B := ifT (dt rfl) k
theorem ifNE {α : Type} {x : α} [Decidable (x = x)] {A B : Prop} (k : B) : if (!decide (x = x)) = true then A else B := ifF (nd rfl) k
/-! ### comprehensions, behind the making of their list at D (the library's lc_it, where the new list stands) -/
theorem upd_id {H : Hp} {D : Addr} {o : HO} (h : H D = some o) : upd H D o = H := funext fun b => by
  by_cases e : b = D
  · rw [e, upd_same, h]
  · rw [upd_ne e]
section
variable {g : TG} {tt : TT} {te : TE} {vs : List Nat} {σ : L2.St} {H0 : Hp} {D : Addr} {Qd : Hp → Prop} {n : Nat}
/-- the step of a comprehension: an item more, or none -/
abbrev lcStep (tt : TT) (te : TE) (vs : List Nat) (σ : L2.St) (D : Addr) (Nx : Hp → Prop) : L2.St → Hp → Prop := fun σ2 H2 => wipe σ2 vs = wipe σ vs ∧ tt σ2 H2 fun b H3 =>
  if b = true then te σ2 H3 fun y H4 => ∃ acc, H4 D = some (.lst acc) ∧ acc.length < sizeLine ∧ Nx (upd H4 D (.lst (acc ++ [y]))) else Nx H3
abbrev lcGoes (J : It) (g : TG) (tt : TT) (te : TE) (vs : List Nat) (σ : L2.St) (D : Addr) (Qd : Hp → Prop) (H0 : Hp) : Prop := ∃ W : Nat → Nat → Hp → Prop, (∃ m, W 0 m H0) ∧ ∀ i m H, W i m H →
  (J.stop i H ∧ Qd H) ∨ (J.go i H ∧ ∃ Nx : Hp → Prop, (∀ H', Nx H' → ∃ m', m' < m ∧ W (i + 1) m' H') ∧ ∀ x H', J.yld i H x H' → g x (wipe σ vs) H' (lcStep tt te vs σ D Nx))
theorem oc_lcW {J : It} {G : Hp → Prop} {Y : Nat → Hp → V → Hp → Prop} (w : Walk J n G Y) (Pv : Nat → Hp → Prop) (h0 : Pv 0 H0) (hG : ∀ i H, i ≤ n → Pv i H → G H)
    (hs : ∀ i x H H', i < n → Pv i H → Y i H x H' → g x (wipe σ vs) H' (lcStep tt te vs σ D (Pv (i + 1)))) (hd : ∀ H, Pv n H → Qd H) (hD : H0 D = some (.lst []) := by exact Sts.hd (by assumption)) : lcGoes J g tt te vs σ D Qd H0 := by
  have q := lc_it w (H1 := H0) (D := D) Pv (by rw [upd_id hD]; exact h0) hG hs hd
  rwa [upd_id hD] at q
theorem oc_lcR {lo : Int} (Pv : Nat → Hp → Prop) (h0 : Pv 0 H0) (hs : ∀ i H, i < n → Pv i H → g (.int (lo + (i : Nat))) (wipe σ vs) H (lcStep tt te vs σ D (Pv (i + 1)))) (hd : ∀ H, Pv n H → Qd H)
    (hD : H0 D = some (.lst []) := by exact Sts.hd (by assumption)) : lcGoes (Itr lo n) g tt te vs σ D Qd H0 :=
  oc_lcW walk_range Pv h0 (fun _ _ _ _ => True.intro) (fun i x H H' hi p y => by
    rw [y.1, y.2]
    exact hs i H hi p) hd hD
theorem oc_lcL {K : PySem.W.Frag} {a : Addr} {xs : List V} (Pv : Nat → Hp → Prop) (h0 : Pv 0 H0) (hl : ∀ i H, Pv i H → SqL K H a xs) (hs : ∀ i x H, xs[i]? = some x → Pv i H → g x (wipe σ vs) H (lcStep tt te vs σ D (Pv (i + 1)))) (hd : ∀ H, Pv xs.length H → Qd H)
    (hD : H0 D = some (.lst []) := by exact Sts.hd (by assumption)) : lcGoes (Itl K a) g tt te vs σ D Qd H0 :=
  oc_lcW walk_list Pv h0 (fun i H _ => hl i H) (fun i x H H' _ p y => by
    rw [y.1]
    exact hs i x H y.2 p) hd hD
end
/-- one value an item, the heap as it was -/
theorem lc_pure {K : PySem.W.Frag} {a : Addr} {k : Nat} {te : TE} {vs : List Nat} {σ : L2.St} {H0 : Hp} {Qd : Hp → Prop} {L : List Asr} {D : Addr} (xs : List V) (f : V → V) (S : Sts H0 (pto D (.lst []) :: L)) (hsq : ∀ H, Sts H L → SqL K H a xs) (hl : xs.length ≤ 1000000)
    (hw : ∀ x, wipe ((wipe σ vs).set k (some x)) vs = wipe σ vs) (he : ∀ (x : V) (H : Hp) (Q' : VK), x ∈ xs → Sts H L → Q' (f x) H → te ((wipe σ vs).set k (some x)) H Q')
    (hd : ∀ H, Sts H (pto D (.lst (xs.map f)) :: L) → Qd H) :
    ∃ W : Nat → Nat → Hp → Prop, (∃ m, W 0 m H0) ∧ ∀ i m H, W i m H →
      ((Itl K a).stop i H ∧ Qd H) ∨ ((Itl K a).go i H ∧ ∃ Nx : Hp → Prop, (∀ H', Nx H' → ∃ m', m' < m ∧ W (i + 1) m' H') ∧ ∀ x H', (Itl K a).yld i H x H' → gName k x (wipe σ vs) H' fun σ2 H2 => wipe σ2 vs = wipe σ vs ∧ tYes σ2 H2 fun b H3 =>
        if b = true then te σ2 H3 fun y H4 => ∃ acc, H4 D = some (.lst acc) ∧ acc.length < sizeLine ∧ Nx (upd H4 D (.lst (acc ++ [y]))) else Nx H3) :=
  oc_lcL (K := K) (a := a) (xs := xs) (fun i H => Sts H (pto D (.lst ((xs.take i).map f)) :: L)) S (fun i H p => hsq H p.tail)
    (fun i x H hx p => by
      refine ⟨hw x, ?_⟩
      simp only [tYes, if_true]
      refine he x H _ (List.mem_of_getElem? hx) p.tail ⟨_, p.hd, small (by rw [List.length_map, List.length_take]; omega), ?_⟩
      rw [List.take_add_one, hx, List.map_append]
      exact p.put _)
    (fun H p => hd H (by rw [List.take_length] at p; exact p))
theorem lc_pureI {K : PySem.W.Frag} {a : Addr} {k : Nat} {te : TE} {vs : List Nat} {σ : L2.St} {H0 : Hp} {Qd : Hp → Prop} {L : List Asr} {D : Addr} (ns : List Int) (f : Int → V) (S : Sts H0 (pto D (.lst []) :: L)) (hsq : ∀ H, Sts H L → SqL K H a (ns.map V.int)) (hl : ns.length ≤ 1000000)
    (hw : ∀ x, wipe ((wipe σ vs).set k (some x)) vs = wipe σ vs) (he : ∀ (x : Int) (H : Hp) (Q' : VK), x ∈ ns → Sts H L → Q' (f x) H → te ((wipe σ vs).set k (some (.int x))) H Q')
    (hd : ∀ H, Sts H (pto D (.lst (ns.map f)) :: L) → Qd H) :
    ∃ W : Nat → Nat → Hp → Prop, (∃ m, W 0 m H0) ∧ ∀ i m H, W i m H →
      ((Itl K a).stop i H ∧ Qd H) ∨ ((Itl K a).go i H ∧ ∃ Nx : Hp → Prop, (∀ H', Nx H' → ∃ m', m' < m ∧ W (i + 1) m' H') ∧ ∀ x H', (Itl K a).yld i H x H' → gName k x (wipe σ vs) H' fun σ2 H2 => wipe σ2 vs = wipe σ vs ∧ tYes σ2 H2 fun b H3 =>
        if b = true then te σ2 H3 fun y H4 => ∃ acc, H4 D = some (.lst acc) ∧ acc.length < sizeLine ∧ Nx (upd H4 D (.lst (acc ++ [y]))) else Nx H3) :=
  oc_lcL (K := K) (a := a) (xs := ns.map V.int) (fun i H => Sts H (pto D (.lst ((ns.take i).map f)) :: L)) S (fun i H p => hsq H p.tail)
    (fun i x H hx p => by
      rw [List.getElem?_map] at hx
      cases e : ns[i]? with
      | none =>
        rw [e] at hx
        cases hx
      | some n =>
        rw [e] at hx
        have ex : x = V.int n := (Option.some.inj hx).symm
        subst ex
        refine ⟨hw _, ?_⟩
        simp only [tYes, if_true]
        refine he n H _ (List.mem_of_getElem? e) p.tail ⟨_, p.hd, small (by rw [List.length_map, List.length_take]; omega), ?_⟩
        rw [List.take_add_one, e, List.map_append]
        exact p.put _)
    (fun H p => hd H (by rw [List.length_map, List.take_length] at p; exact p))
/-- over a range -/
theorem lc_pureR {lo : Int} {n : Nat} {k : Nat} {te : TE} {vs : List Nat} {σ : L2.St} {H0 : Hp} {Qd : Hp → Prop} {L : List Asr} {D : Addr} (f : Int → V) (S : Sts H0 (pto D (.lst []) :: L)) (hl : n ≤ 1000000)
    (hw : ∀ x, wipe ((wipe σ vs).set k (some x)) vs = wipe σ vs) (he : ∀ (i : Nat) (H : Hp) (Q' : VK), i < n → Sts H L → Q' (f (lo + i)) H → te ((wipe σ vs).set k (some (.int (lo + i)))) H Q')
    (hd : ∀ H, Sts H (pto D (.lst ((List.range n).map fun i => f (lo + (i : Nat)))) :: L) → Qd H) :
    ∃ W : Nat → Nat → Hp → Prop, (∃ m, W 0 m H0) ∧ ∀ i m H, W i m H →
      ((Itr lo n).stop i H ∧ Qd H) ∨ ((Itr lo n).go i H ∧ ∃ Nx : Hp → Prop, (∀ H', Nx H' → ∃ m', m' < m ∧ W (i + 1) m' H') ∧ ∀ x H', (Itr lo n).yld i H x H' → gName k x (wipe σ vs) H' fun σ2 H2 => wipe σ2 vs = wipe σ vs ∧ tYes σ2 H2 fun b H3 =>
        if b = true then te σ2 H3 fun y H4 => ∃ acc, H4 D = some (.lst acc) ∧ acc.length < sizeLine ∧ Nx (upd H4 D (.lst (acc ++ [y]))) else Nx H3) :=
  oc_lcR (lo := lo) (n := n) (fun i H => Sts H (pto D (.lst ((List.range i).map fun i => f (lo + (i : Nat)))) :: L)) S
    (fun i H hi p => by
      refine ⟨hw _, ?_⟩
      simp only [tYes, if_true]
      refine he i H _ hi p.tail ⟨_, p.hd, small (by rw [List.length_map, List.length_range]; omega), ?_⟩
      rw [List.range_succ, List.map_append]
      exact p.put _)
    (fun H p => hd H p)
/-- lists of ints out of lists of ints and ranges -/
theorem lc_II {K : PySem.W.Frag} {a : Addr} {k : Nat} {te : TE} {vs : List Nat} {σ : L2.St} {H0 : Hp} {Qd : Hp → Prop} {L : List Asr} {D : Addr} (ns : List Int) (f : Int → Int) (S : Sts H0 (pto D (.lst []) :: L)) (hsq : ∀ H, Sts H L → SqL K H a (ns.map V.int)) (hl : ns.length ≤ 1000000)
    (hw : ∀ x, wipe ((wipe σ vs).set k (some x)) vs = wipe σ vs) (he : ∀ (x : Int) (H : Hp) (Q' : VK), x ∈ ns → Sts H L → Q' (.int (f x)) H → te ((wipe σ vs).set k (some (.int x))) H Q')
    (hd : ∀ H, Sts H (pto D (.lst ((ns.map f).map V.int)) :: L) → Qd H) :
    ∃ W : Nat → Nat → Hp → Prop, (∃ m, W 0 m H0) ∧ ∀ i m H, W i m H →
      ((Itl K a).stop i H ∧ Qd H) ∨ ((Itl K a).go i H ∧ ∃ Nx : Hp → Prop, (∀ H', Nx H' → ∃ m', m' < m ∧ W (i + 1) m' H') ∧ ∀ x H', (Itl K a).yld i H x H' → gName k x (wipe σ vs) H' fun σ2 H2 => wipe σ2 vs = wipe σ vs ∧ tYes σ2 H2 fun b H3 =>
        if b = true then te σ2 H3 fun y H4 => ∃ acc, H4 D = some (.lst acc) ∧ acc.length < sizeLine ∧ Nx (upd H4 D (.lst (acc ++ [y]))) else Nx H3) :=
  lc_pureI ns (fun x => .int (f x)) S hsq hl hw he (fun H S => hd H (by rw [List.map_map]; exact S))
theorem lc_RI {lo : Int} {n : Nat} {k : Nat} {te : TE} {vs : List Nat} {σ : L2.St} {H0 : Hp} {Qd : Hp → Prop} {L : List Asr} {D : Addr} (f : Int → Int) (S : Sts H0 (pto D (.lst []) :: L)) (hl : n ≤ 1000000)
    (hw : ∀ x, wipe ((wipe σ vs).set k (some x)) vs = wipe σ vs) (he : ∀ (i : Nat) (H : Hp) (Q' : VK), i < n → Sts H L → Q' (.int (f (lo + i))) H → te ((wipe σ vs).set k (some (.int (lo + i)))) H Q')
    (hd : ∀ H, Sts H (pto D (.lst (((List.range n).map fun i => f (lo + (i : Nat))).map V.int)) :: L) → Qd H) :
    ∃ W : Nat → Nat → Hp → Prop, (∃ m, W 0 m H0) ∧ ∀ i m H, W i m H →
      ((Itr lo n).stop i H ∧ Qd H) ∨ ((Itr lo n).go i H ∧ ∃ Nx : Hp → Prop, (∀ H', Nx H' → ∃ m', m' < m ∧ W (i + 1) m' H') ∧ ∀ x H', (Itr lo n).yld i H x H' → gName k x (wipe σ vs) H' fun σ2 H2 => wipe σ2 vs = wipe σ vs ∧ tYes σ2 H2 fun b H3 =>
        if b = true then te σ2 H3 fun y H4 => ∃ acc, H4 D = some (.lst acc) ∧ acc.length < sizeLine ∧ Nx (upd H4 D (.lst (acc ++ [y]))) else Nx H3) :=
  lc_pureR (fun x => .int (f x)) S hl hw he (fun H S => hd H (by rw [List.map_map]; exact S))
/-- the end of a turn of any comprehension -/
theorem lc_end {D : Addr} {acc : List V} {y : V} {L : List Asr} {H : Hp} {N : Hp → Prop} (S : Sts H (pto D (.lst acc) :: L)) (hl : acc.length ≤ 1000000) (k : ∀ H', Sts H' (pto D (.lst (acc ++ [y])) :: L) → N H') :
    ∃ acc, H D = some (.lst acc) ∧ acc.length < sizeLine ∧ N (upd H D (.lst (acc ++ [y]))) := ⟨acc, S.hd, small hl, k _ (S.put _)⟩
/-- a block cut behind its first statement: what holds between -/
def tCutO (t u : TS) : TS := fun D σ H => ∃ Mid : L2.St → Hp → Prop, t { D with nx := Mid } σ H ∧ ∀ σ' H', Mid σ' H' → u D σ' H'
theorem oc_cut {X : Cx} {st : Stmt} {rest : List Stmt} {t u : TS} (h1 : PS X st t) (h2 : PSs X rest u) : PSs X (st :: rest) (tCutO t u) := pss_cons (ps_up h1) h2
end Oc
namespace Oc
open PySem PySem.Spec PyProof.Rows L2
/-! ### any over ints -/
theorem vals_int : ∀ {ns : List Int} {its : List Value} {i : Nat} {u : Value}, Vals (ns.map V.int) its → its[i]? = some u → ∃ n t, ns[i]? = some n ∧ u = .int n t
  | [], _, _, _, r, e => by
    cases r
    cases e
  | n :: ns, _, 0, u, r, e => by
    cases r with
    | cons a b =>
      obtain ⟨t, a⟩ := a
      exact ⟨n, t, rfl, (Option.some.inj e).symm.trans a⟩
  | n :: ns, _, i + 1, u, r, e => by
    cases r with
    | cons a b => exact vals_int (ns := ns) b e
theorem anyI_range : ∀ ns : List Int, (List.range ns.length).any (fun i => decide (ns.getD i 0 ≠ 0)) = ns.any fun n => decide (n ≠ 0)
  | [] => rfl
  | n :: ns => by
    have ih := anyI_range ns
    rw [List.length_cons, List.range_succ_eq_map, List.any_cons, List.any_map, List.any_cons, ← ih]
    rfl
theorem oc_anyI {X : Cx} {K : PySem.W.Frag} (hK : X.K = K) (hc : X.calm = true) : CallR X (.builtin "any") (fun xs H Q => ∃ a, ∃ ns : List Int, xs = [.ref a] ∧ SqL K H a (ns.map V.int) ∧ Q (.bl (ns.any fun n => decide (n ≠ 0))) H) := by
  subst hK
  intro pins s σ H xs us Q I rr ⟨a, ns, e, hS, q⟩
  subst e
  obtain ⟨its, rv, hl, _⟩ := I.list hS
  rw [Vals.ref1 rr]
  have hlen : ns.length = its.length := by
    have z := rv.length
    rwa [List.length_map] at z
  refine call_any_walk (iter_any hl.isList fun s2 es st ne => ?_)
  subst es
  refine ⟨_, _, _, _, _, _, fun i => decide (ns.getD i 0 ≠ 0), rfl, Walks.list (A := X.A.in1) (I.ok.hd hc) _ a ne its.toArray, st, fun i v t R E hv hq => ?_, fun h' tk hk => ?_⟩
  · have hv' : its[i]? = some v := by simpa using hv
    obtain ⟨n, u, hn, rfl⟩ := vals_int rv hv'
    have eg : ns.getD i 0 = n := by
      rw [List.getD_eq_getElem?_getD, hn]
      rfl
    dsimp only at hq
    rw [eg] at hq
    refine PyProof.Rows.truthy_int ?_
    have ez : (n != 0) = decide (n ≠ 0) := by
      by_cases z : n = 0 <;> simp [z]
    rw [ez]
    exact hq
  · refine ⟨.bl _, H, I.kept fun b o eo => hk b o (fun hm => ?_) (Heap.get?_push_of_some _ eo), ?_, q⟩
    · rcases List.mem_cons.mp hm with z | hm
      · exact absurd (z ▸ Heap.lt_size eo) (Nat.lt_irrefl _)
      · cases hm
    · show Value.bool _ = Value.bool _
      rw [← anyI_range, hlen, List.size_toArray]
end Oc
namespace Oc
open PySem PySem.Spec PyProof.Rows L2
section
variable {X : Cx} {K : PySem.W.Frag} (hK : X.K = K)
include hK
theorem oc_pg_tup {es : List Expr} {k : Nat} {t : TGs} {n : Nat} {pos : Pos} (hc : X.calm = true) (h : PGs X es t)
    (hn : (assignEach es X.env).length = n := by rfl) (hst : (assignEach es X.env).findIdx? (·.1) = none := by rfl) : PG X (.Tuple es k pos) (gTup K n t) := hK ▸ pg_tup hc h hn hst
end
theorem rep_map {α : Type} (f : α → V) (k : Nat) (xs : List α) : (List.replicate k (xs.map f)).flatten = ((List.replicate k xs).flatten).map f := by
  induction k with
  | zero => rfl
  | succ k ih => rw [List.replicate_succ, List.replicate_succ, List.flatten_cons, List.flatten_cons, ih, List.map_append]
theorem len_rep {α : Type} (k : Nat) (xs : List α) : (List.replicate k xs).flatten.length = k * xs.length := by
  induction k with
  | zero => simp
  | succ k ih => rw [List.replicate_succ, List.flatten_cons, List.length_append, ih, Nat.succ_mul, Nat.add_comm]
theorem oc_repI {X : Cx} : OpR X (binaryOp .Mult) (fun x y H Q => ∃ l k, ∃ ns : List Int, x = .ref l ∧ y = .int k ∧ H l = some (.lst (ns.map V.int)) ∧ (k < 1000000 ∧ -1000000 < k ∧ ns.length * k.toNat ≤ 1000000) ∧ ∀ p, H p = none → Q (.ref p) (upd H p (.lst ((List.replicate k.toNat ns).flatten.map V.int)))) := fun pins s σ H x y v u Q I rx ry ⟨l, k, ns, e1, e2, h1, ⟨b1, b2, b3⟩, q⟩ =>
  op_rep pins s σ H x y v u Q I rx ry ⟨l, k, _, e1, e2, h1, by omega, by omega, small' (by rw [List.length_map]; exact b3), by rw [rep_map]; exact q⟩
end Oc
namespace Oc
open PySem PySem.Spec PyProof.Rows L2
/-- an int or None -/
def ov : Option Int → V
  | none => .non
  | some i => .int i
theorem ov_none (o : Option Int) : decide (ov o = V.non) = o.isNone := by
  cases o <;> rfl
/-- xs[-1], a list of ints that is not empty -/
theorem oc_ixLast {X : Cx} {K : PySem.W.Frag} (hK : X.K = K) : IxR X (fun x y H Q => ∃ p, ∃ ns : List Int, x = .ref p ∧ y = .int (-1) ∧ SqL K H p (ns.map V.int) ∧ ∃ i, ns.getLast? = some i ∧ Q (.int i) H) := fun va sl pins s σ H x y v u Q I rx ry ⟨p, ns, e1, e2, h, i, b, q⟩ hs =>
  ix_list va sl pins s σ H x y v u Q I rx ry ⟨p, _, -1, .int i, e1, e2, hK ▸ h, by
    have e : ns = ns.dropLast ++ [i] := by
      have z := List.getLast?_eq_some_iff.mp b
      obtain ⟨ys, rfl⟩ := z
      simp
    rw [e, List.map_append]
    exact atI_last _ _, q⟩ hs
theorem isEmpty_pos {ns : List Int} (h : (!(ns.map V.int).isEmpty) = true) : 0 < ns.length := by
  cases ns with
  | nil => cases h
  | cons a b => simp
theorem isEmpty_nil {ns : List Int} (h : (!(ns.map V.int).isEmpty) = false) : ns = [] := by
  cases ns with
  | nil => rfl
  | cons a b => cases h
theorem len_lt {ns : List Int} {i : Nat} {x : V} (h : (ns.map V.int)[i]? = some x) : i < ns.length := by
  have z := (List.getElem?_eq_some_iff.mp h).1
  rwa [List.length_map] at z
theorem at_int {ns : List Int} {i : Nat} {x : V} (h : (ns.map V.int)[i]? = some x) : ∃ n, ns[i]? = some n ∧ x = .int n := by
  rw [List.getElem?_map] at h
  cases e : ns[i]? with
  | none =>
    rw [e] at h
    cases h
  | some n =>
    rw [e] at h
    exact ⟨n, rfl, (Option.some.inj h).symm⟩
/-- the list from behind: one item more -/
theorem rev_step {ns : List Int} {i : Nat} {x : Int} (h : ns.reverse[i]? = some x) : ns.drop (ns.length - (i + 1)) = x :: ns.drop (ns.length - i) := by
  have hi : i < ns.length := by
    have z := (List.getElem?_eq_some_iff.mp h).1
    rwa [List.length_reverse] at z
  rw [List.getElem?_reverse hi] at h
  have e : ns.length - i = (ns.length - (i + 1)) + 1 := by omega
  have h2 : ns[ns.length - (i + 1)]? = some x := by
    rw [← h]
    congr 1
    omega
  obtain ⟨hl, hv⟩ := List.getElem?_eq_some_iff.mp h2
  rw [e, List.drop_eq_getElem_cons hl, hv]
end Oc
theorem Oc.mulb {a b : Nat} (A B : Nat) {C : Nat} (ha : a ≤ A) (hb : b ≤ B) (h : A * B ≤ C) : a * b ≤ C := Nat.le_trans (Nat.mul_le_mul ha hb) h
namespace Oc
open PySem PySem.Spec PyProof.Rows L2
/-! ### guards: what kind of chunk, what form of list -/
theorem hI0 {H : Hp} {a : Addr} (h : H a = some (.lst [])) : H a = some (.lst (List.map V.int [])) := h
theorem hI1 {H : Hp} {a : Addr} {x : Int} (h : H a = some (.lst [V.int x])) : H a = some (.lst (List.map V.int [x])) := h
theorem hI2 {H : Hp} {a : Addr} {x y : Int} (h : H a = some (.lst [V.int x, V.int y])) : H a = some (.lst (List.map V.int [x, y])) := h
theorem hI3 {H : Hp} {a : Addr} {x y z : Int} (h : H a = some (.lst [V.int x, V.int y, V.int z])) : H a = some (.lst (List.map V.int [x, y, z])) := h
theorem gS {H : Hp} {a : Addr} {o : HO} {L : List Asr} (h : Sts H (pto a o :: L)) : Sts H (pto a o :: L) := h
theorem gL {H : Hp} {a : Addr} {ns : List Int} {L : List Asr} (h : Sts H (pto a (.lst (ns.map V.int)) :: L)) : Sts H (pto a (.lst (ns.map V.int)) :: L) := h
theorem gI0 {H : Hp} {a : Addr} {L : List Asr} (h : Sts H (pto a (.lst []) :: L)) : Sts H (pto a (.lst (List.map V.int [])) :: L) := h
theorem gI1 {H : Hp} {a : Addr} {x : Int} {L : List Asr} (h : Sts H (pto a (.lst [V.int x]) :: L)) : Sts H (pto a (.lst (List.map V.int [x])) :: L) := h
theorem gI2 {H : Hp} {a : Addr} {x y : Int} {L : List Asr} (h : Sts H (pto a (.lst [V.int x, V.int y]) :: L)) : Sts H (pto a (.lst (List.map V.int [x, y])) :: L) := h
theorem gQ {K : PySem.W.Frag} {H : Hp} {a : Addr} {xs : List V} {L : List Asr} (h : Sts H (sqc K a xs :: L)) : Sts H (sqc K a xs :: L) := h
end Oc
theorem Oc.cutL_len {α : Type} (xs : List α) (lo hi : Option Int) : (Oc.cutL xs lo hi).length ≤ xs.length := by
  unfold Oc.cutL
  rw [List.length_take, List.length_drop]
  omega
theorem Oc.le_cut2 {α : Type} {xs ys : List α} {lo hi lo' hi' : Option Int} {n : Nat} (h : xs.length + ys.length ≤ n) : (Oc.cutL xs lo hi).length + (Oc.cutL ys lo' hi').length ≤ n := Nat.le_trans (Nat.add_le_add (Oc.cutL_len _ _ _) (Oc.cutL_len _ _ _)) h
namespace Oc
open PySem PySem.Spec PyProof.Rows L2
/-! ### dicts with int keys -/
section
variable {α : Type}
def dM (f : α → V) (ps : List (Int × α)) : List (Key × V) := ps.map fun p => (Sum.inl p.1, f p.2)
def getP (ps : List (Int × α)) (k : Int) : Option α := (ps.find? fun p => decide (p.1 = k)).map (·.2)
def putP (ps : List (Int × α)) (k : Int) (v : α) : List (Int × α) := if (ps.any fun p => decide (p.1 = k)) = true then ps.map (fun p => if p.1 = k then (p.1, v) else p) else ps ++ [(k, v)]
theorem keyeq (a b : Int) : decide ((Sum.inl a : Key) = Sum.inl b) = decide (a = b) := by
  by_cases h : a = b
  · rw [h, decide_eq_true rfl, decide_eq_true rfl]
  · rw [decide_eq_false h, decide_eq_false fun e => h (Sum.inl.inj e)]
theorem getP_pos {p : Int × α} {r : List (Int × α)} {k : Int} (e : p.1 = k) : getP (p :: r) k = some p.2 := by simp [getP, List.find?_cons, e]
theorem getP_neg {p : Int × α} {r : List (Int × α)} {k : Int} (e : ¬ p.1 = k) : getP (p :: r) k = getP r k := by simp [getP, List.find?_cons, e]
theorem valV_dM (f : α → V) (k : Int) : ∀ ps : List (Int × α), valV (dM f ps) (.inl k) = (getP ps k).map f
  | [] => rfl
  | p :: r => by
    by_cases e : p.1 = k
    · rw [getP_pos e]
      exact valV_pos (p := (Sum.inl p.1, f p.2)) (by rw [e])
    · rw [getP_neg e, ← valV_dM f k r]
      exact valV_neg (p := (Sum.inl p.1, f p.2)) (fun z => e (Sum.inl.inj z))
theorem putK_dM (f : α → V) (ps : List (Int × α)) (k : Int) (v : α) : putK (dM f ps) (.inl k) (f v) = dM f (putP ps k v) := by
  unfold putK putP
  have e : ((dM f ps).any fun kv => decide (kv.1 = Sum.inl k)) = ps.any fun p => decide (p.1 = k) := by
    unfold dM
    rw [List.any_map]
    congr 1
    funext p
    exact keyeq p.1 k
  rw [e]
  split
  · unfold dM
    rw [List.map_map, List.map_map]
    congr 1
    funext p
    show (if (Sum.inl p.1 : Key) = Sum.inl k then ((Sum.inl p.1 : Key), f v) else (Sum.inl p.1, f p.2)) = (Sum.inl (if p.1 = k then (p.1, v) else p).1, f (if p.1 = k then (p.1, v) else p).2)
    by_cases h : p.1 = k
    · rw [if_pos h, if_pos (by rw [h])]
    · rw [if_neg h, if_neg fun z => h (Sum.inl.inj z)]
  · unfold dM
    rw [List.map_append]
    rfl
theorem getP_any (k : Int) : ∀ ps : List (Int × α), (ps.any fun p => decide (p.1 = k)) = (getP ps k).isSome
  | [] => rfl
  | p :: r => by
    rw [List.any_cons]
    by_cases e : p.1 = k
    · rw [getP_pos e, decide_eq_true e]
      rfl
    · rw [getP_neg e, decide_eq_false e, Bool.false_or]
      exact getP_any k r
theorem getP_mem {k : Int} {v : α} : ∀ {ps : List (Int × α)}, getP ps k = some v → (k, v) ∈ ps
  | [], h => nomatch h
  | p :: r, h => by
    by_cases e : p.1 = k
    · rw [getP_pos e] at h
      cases h
      rw [← e]
      exact List.mem_cons_self
    · rw [getP_neg e] at h
      exact List.mem_cons_of_mem _ (getP_mem h)
theorem getP_none {k : Int} {ps : List (Int × α)} (h : getP ps k = none) : ∀ p ∈ ps, p.1 ≠ k := fun p hp e => by
  have z := getP_any k ps
  rw [h] at z
  exact absurd (decide_eq_true e) (by simpa using (List.any_eq_false.mp z p hp))
theorem keys_put (ps : List (Int × α)) (k : Int) (v : α) : (putP ps k v).map (·.1) = if (getP ps k).isSome = true then ps.map (·.1) else ps.map (·.1) ++ [k] := by
  unfold putP
  rw [getP_any]
  split
  · rw [List.map_map]
    congr 1
    funext p
    show (if p.1 = k then (p.1, v) else p).1 = p.1
    split <;> rfl
  · rw [List.map_append]
    rfl
theorem nodup_put {ps : List (Int × α)} {k : Int} {v : α} (h : (ps.map (·.1)).Nodup) : ((putP ps k v).map (·.1)).Nodup := by
  rw [keys_put]
  split
  · exact h
  · rename_i g
    refine List.nodup_append.mpr ⟨h, List.nodup_cons.mpr ⟨List.not_mem_nil, List.nodup_nil⟩, fun a ha b hb e => ?_⟩
    have hb : b = k := by simpa using hb
    obtain ⟨p, hp, ep⟩ := List.mem_map.mp ha
    refine getP_none (ps := ps) (k := k) ?_ p hp (by rw [ep, e, hb])
    cases q : getP ps k with
    | none => rfl
    | some _ => rw [q] at g; exact absurd rfl g
theorem key_put {ps : List (Int × α)} {k : Int} {v : α} {P : Int → Prop} (h : ∀ p ∈ ps, P p.1) (hk : P k) : ∀ p ∈ putP ps k v, P p.1 := fun p hp => by
  have e : p.1 ∈ (putP ps k v).map (·.1) := List.mem_map_of_mem hp
  rw [keys_put] at e
  split at e
  · obtain ⟨q, hq, eq⟩ := List.mem_map.mp e
    rw [← eq]
    exact h q hq
  · rcases List.mem_append.mp e with e | e
    · obtain ⟨q, hq, eq⟩ := List.mem_map.mp e
      rw [← eq]
      exact h q hq
    · have e : p.1 = k := by simpa using e
      rw [e]
      exact hk
/-- a weight over a dict of ints -/
def wS (g : Int → Int) (ps : List (Int × Int)) : Int := (ps.map fun p => p.2 * g p.1).sum
theorem wS_app (g : Int → Int) (ps qs : List (Int × Int)) : wS g (ps ++ qs) = wS g ps + wS g qs := by
  unfold wS
  rw [List.map_append, List.sum_append]
theorem wS_put (g : Int → Int) (k v : Int) : ∀ {ps : List (Int × Int)}, (ps.map (·.1)).Nodup → wS g (putP ps k v) = wS g ps + (v - (getP ps k).getD 0) * g k
  | [], _ => by
    show wS g [(k, v)] = wS g [] + (v - 0) * g k
    unfold wS
    simp
  | p :: r, h => by
    obtain ⟨h1, h2⟩ := List.nodup_cons.mp h
    by_cases e : p.1 = k
    · rw [getP_pos e]
      have hr : ∀ q ∈ r, q.1 ≠ k := fun q hq z => h1 (by show p.1 ∈ _; rw [e, ← z]; exact List.mem_map_of_mem (f := fun x : Int × Int => x.1) hq)
      have e1 : putP (p :: r) k v = (k, v) :: r := by
        unfold putP
        rw [List.any_cons, decide_eq_true e, Bool.true_or, if_pos rfl, List.map_cons, if_pos e, e]
        congr 1
        refine (List.map_congr_left fun q hq => ?_).trans (List.map_id r)
        rw [if_neg (hr q hq)]
        rfl
      rw [e1]
      show ((k, v) :: r |>.map fun p => p.2 * g p.1).sum = ((p :: r).map fun p => p.2 * g p.1).sum + _
      rw [List.map_cons, List.map_cons, List.sum_cons, List.sum_cons, e]
      show v * g k + _ = p.2 * g k + _ + (v - p.2) * g k
      rw [Int.sub_mul]
      omega
    · rw [getP_neg e]
      have ih := wS_put g k v (ps := r) h2
      have e1 : putP (p :: r) k v = p :: putP r k v := by
        unfold putP
        rw [List.any_cons, decide_eq_false e, Bool.false_or]
        split
        · rw [List.map_cons, if_neg e]
        · rfl
      rw [e1]
      have c1 : ∀ l : List (Int × Int), wS g (p :: l) = p.2 * g p.1 + wS g l := fun l => by
        unfold wS
        rw [List.map_cons, List.sum_cons]
      rw [c1, c1, ih]
      omega
end
theorem gD {α : Type} {f : α → V} {H : Hp} {a : Addr} {ps : List (Int × α)} {L : List Asr} (h : Sts H (pto a (.dK (dM f ps)) :: L)) : Sts H (pto a (.dK (dM f ps)) :: L) := h
theorem gD0 {α : Type} (f : α → V) {H : Hp} {a : Addr} {L : List Asr} (h : Sts H (pto a (.dK []) :: L)) : Sts H (pto a (.dK (dM f [])) :: L) := h
theorem gDx {H : Hp} {a : Addr} {kvs : List (Key × V)} {L : List Asr} (h : Sts H (pto a (.dK kvs) :: L)) : Sts H (pto a (.dK kvs) :: L) := h
def tGetD {α : Type} (f : α → V) (td ty tx : TE) : TE := fun σ H Q => td σ H fun x H1 => ∃ a, x = .ref a ∧ (∃ kvs L, Sts H1 (pto a (.dK kvs) :: L)) ∧ ty σ H1 fun y H2 => tx σ H2 fun z H3 =>
  ∃ k j, y = .int k ∧ z = f j ∧ ∃ ps L, Sts H3 (pto a (.dK (dM f ps)) :: L) ∧ Q (f ((getP ps k).getD j)) H3
section
variable {X : Cx} {o e g : Expr} {apos cpos pos p : Pos} {td ty tx : TE}
theorem oc_dget2 {α : Type} (f : α → V) (hu : X.A.units + 1 < cLine) (ho : PE X o td) (he : PE X e ty) (hg : PE X g tx) (m : M2 X o "get" apos e g cpos) : PE X (.Call (.Attribute o "get" apos) [e, g] [] cpos) (tGetD f td ty tx) := by
  refine ⟨fun pn s0 σ H Q J h => wpAny_Call_method m.base m.few m.line PySem.F.plainAttrs_dict PySem.F.slot_dict_get PySem.F.type_dict_get ?_⟩
  refine thn (ho.run pn s0 σ H _ J h) fun u s1 ⟨x, H1, J1, rx, a, ex, ⟨kvs, L, S⟩, q1⟩ => ?_
  subst ex
  obtain rfl : u = Value.ref a := rx
  obtain ⟨t1, t2, _⟩ := isD_at J1 (.inl ⟨kvs, .inl S.hd⟩)
  refine ⟨t1, t2, ?_⟩
  rw [m.trees]
  refine Calls.callWith_builtin rfl (Calls.evalArgs_plain (Calls.spliced_cons (thn (he.run pn s1 σ H1 _ J1 q1) fun iv s2 ⟨y, H2, J2, ry, q2⟩ => ?_)))
  refine Calls.spliced_cons (thn (hg.run pn s2 σ H2 _ J2 q2) fun fv s3 ⟨z, H3, J3, rz, k, j, ey, ez, ps, M, T, q3⟩ => Calls.spliced_nil ?_)
  subst ey ez
  refine d_get2 hu J3 (.inl ⟨dM f ps, .inl k, .inl T.hd, rfl, rfl⟩) ry rz fun w' s4 J4 rw' => ⟨_, H3, J4, ?_, q3⟩
  rw [valV_dM] at rw'
  cases q : getP ps k with
  | none =>
    rw [q] at rw'
    exact rw'
  | some v =>
    rw [q] at rw'
    exact rw'
theorem oc_setD {α : Type} (f : α → V) (hu : X.A.units + 1 < cLine) : PSet X (fun o i v H Q => ∃ p k, o = .ref p ∧ i = .int k ∧ ∃ j, v = f j ∧ ∃ ps L, Sts H (pto p (.dK (dM f ps)) :: L) ∧ ps.length ≤ 1000000 ∧
    ∀ H', Sts H' (pto p (.dK (dM f (putP ps k j))) :: L) → Q H') := by
  intro pn s0 σ H o i v ov iv u Q J ro ri rv ⟨p, k, eo, ei, j, ev, ps, L, S, hl, q⟩
  subst eo ei ev
  cases ro
  refine d_setItem hu J (.inl ⟨dM f ps, .inl k, S.hd, rfl, small (by unfold dM; rw [List.length_map]; exact hl), rfl⟩) ri rv fun s1 J1 => ⟨_, J1, q _ ?_⟩
  rw [putK_dM]
  exact S.put _
def tSumVals (td : TE) : TE := fun σ H Q => td σ H fun x H1 => ∃ a, x = .ref a ∧ ∃ ps L, Sts H1 (pto a (.dK (dM V.int ps)) :: L) ∧ Q (.int (ps.map (·.2)).sum) H1
theorem preS (f : Nat → Int) : ∀ (l : List Int) (n : Nat), (∀ i, l.getD i 0 = f (n + i)) → preSum f (n + l.length) = preSum f n + l.sum
  | [], n, _ => by simp
  | x :: l, n, h => by
    have h0 : x = f n := by simpa using h 0
    have ih := preS f l (n + 1) fun i => by
      have z := h (i + 1)
      rw [show n + 1 + i = n + (i + 1) by omega, ← z]
      rfl
    have e : preSum f (n + 1) = preSum f n + f n := rfl
    rw [List.length_cons, show n + (l.length + 1) = n + 1 + l.length by omega, ih, e, List.sum_cons, h0]
    omega
theorem oc_sumVals (hc : X.calm = true) (hg : Gl X "sum") (hm : X.mg "sum" = none) (hd : PE X o td) (hbase : attributeBase o "values" X.env (eval o X.env) = eval o X.env := by rfl) (hline : (apos.endLine == cpos.line) = true := by rfl)
    (hse : starEach [Expr.Call (.Attribute o "values" apos) [] [] cpos] X.env = [(false, eval (Expr.Call (.Attribute o "values" apos) [] [] cpos) X.env)] := by rfl) :
    PE X (.Call (.Name "sum" p) [.Call (.Attribute o "values" apos) [] [] cpos] [] pos) (tSumVals td) := by
  refine ⟨fun pn s0 σ H Q J h => wpAny_Call_Name_kw (ld_blt J hg hm (u := .builtin "sum") (by first | rfl | decide +kernel) ?_ (by first | decide +kernel | decide) (by first | decide +kernel | decide))⟩
  rw [hse]
  refine PySem.callWith_builtin1 (wpAny_Call_method0_late hbase hline (thn (hd.run pn s0 σ H _ J h) fun v s1 ⟨x, H1, J1, r1, a, ex, ps, L, S, q⟩ => ?_))
  subst ex
  obtain rfl : v = Value.ref a := r1
  obtain ⟨_, hsys, vs, rel, dof⟩ := dk_of J1.hok S.hd
  obtain ⟨ep, dat⟩ := dof.dictAt
  have dat' := dat
  obtain ⟨ob, es, ho, ex, hdat, hko, hpr, hnd⟩ := dat'
  refine ⟨"dict", "dict.values", F.plainAttrs_dict, F.slot_dict_values, F.type_dict_values, ⟨ob, ho, ex.1⟩, fun b e => ?_, Calls.callWith_builtin rfl (PySem.evalArgs_none ?_)⟩
  · cases e
    exact ⟨ob, ho, ex.2.1⟩
  refine call_meetsIn F.slot_dict_values ⟨ob, ho, ex.1⟩ F.entry_dict_values (F.args_dict_values_1 _) (meets_dict_values (mixKind X.prog X.w) a hsys) ⟨⟨vs, dof⟩, ?_⟩
  have k1 : ∀ b u, s1.heap.get? b = some u → (s1.heap.push { cls := .type "dict_values", data := .fields #[.ref a] }).get? b = some u := fun b u => Heap.get?_push_of_some _
  have dat1 := dat.keep k1
  have hlv : vs.length = ps.length := by
    have z := KV.length rel
    unfold dM at z
    rw [List.length_map] at z
    exact z.symm
  have hval : ∀ (i : Nat) (v : Value), (∃ k, vs[i]? = some (k, v)) → ∃ t, v = Value.int ((ps.map (·.2)).getD i 0) t := fun i v ⟨k, hk⟩ => by
    obtain ⟨x, h1, h2⟩ := KV.at' rel hk
    unfold dM at h1
    rw [List.getElem?_map] at h1
    obtain ⟨j, hj, e2⟩ := Option.map_eq_some_iff.mp h1
    have e3 : x = V.int j.2 := (congrArg Prod.snd e2).symm
    subst e3
    obtain ⟨t, e4⟩ := h2
    exact ⟨t, by rw [e4, List.getD_eq_getElem?_getD, List.getElem?_map, hj]; rfl⟩
  refine call_sum_walkG (wpAny_pyIter_values (v := s1.heap.objs.size) (d := a) ⟨_, Heap.get?_push_size _ rfl, rfl, rfl⟩ dat1 ?_)
  have hlt : a < s1.heap.objs.size := Heap.lt_size ho
  have hsz : (s1.heap.push { cls := .type "dict_values", data := .fields #[.ref a] }).objs.size = s1.heap.objs.size + 1 := Heap.size_push _ _
  refine ⟨_, _, _, _, _, _, _, rfl, Walks.dictValues (knd := mixKind X.prog X.w) (A := X.A.in1) (J.ok.hd hc) (s1.heap.push { cls := .type "dict_values", data := .fields #[.ref a] }).objs.size a (by rw [hsz]; exact Nat.ne_of_lt (Nat.lt_succ_of_lt hlt)) vs ep,
    ⟨⟨_, Heap.get?_push_size _ rfl, rfl, rfl⟩, dat1.keep fun b u e => Heap.get?_push_of_some _ e⟩, fun b hb => ?_, hval, fun h' tk t' hk => ?_⟩
  · show b < ((s1.heap.push _).push _).objs.size
    rw [Heap.size_push, Heap.size_push]
    rw [hsz] at hb
    have l1 := Nat.lt_succ_of_lt hlt
    refine (List.mem_cons.mp hb).elim (fun e => e ▸ Nat.lt_succ_self _) fun hb => ?_
    rw [show b = a from List.mem_singleton.mp hb]
    exact Nat.lt_succ_of_lt l1
  · have es : preSum (fun i => (ps.map (·.2)).getD i 0) vs.length = (ps.map (·.2)).sum := by
      have z := preS (fun i => (ps.map (·.2)).getD i 0) (ps.map (·.2)) 0 fun i => by rw [Nat.zero_add]
      have z0 : preSum (fun i => (ps.map (·.2)).getD i 0) 0 = 0 := rfl
      rw [Nat.zero_add, List.length_map, z0, Int.zero_add] at z
      rw [hlv]
      exact z
    rw [es]
    refine ⟨.int _, H1, J1.kept (t' := tk) fun b u e => hk b u (fun hmem => ?_) (Heap.get?_push_of_some _ (k1 b u e)), ⟨t', rfl⟩, q⟩
    have e1 := List.mem_singleton.mp hmem
    have e2 := Heap.lt_size e
    rw [e1, hsz] at e2
    exact Nat.lt_irrefl _ (Nat.lt_of_succ_lt e2)
/-- a statement that runs while a dict or list is locked -/
def tLockO (t : TS) : TS := fun D σ H => ∃ d u L, Sts H (pto d u :: L) ∧ Mut (some u) ∧ ∀ od H1, Sts H1 (pto d (.frz od u) :: L) → t
  ⟨fun σ' H' => ∃ M, Sts H' (pto d (.frz od u) :: M) ∧ ∀ H2, Sts H2 (pto d u :: M) → D.nx σ' H2, fun v H' => ∃ M, Sts H' (pto d (.frz od u) :: M) ∧ ∀ H2, Sts H2 (pto d u :: M) → D.rt v H2,
   fun σ' H' => ∃ M, Sts H' (pto d (.frz od u) :: M) ∧ ∀ H2, Sts H2 (pto d u :: M) → D.bk σ' H2, fun σ' H' => ∃ M, Sts H' (pto d (.frz od u) :: M) ∧ ∀ H2, Sts H2 (pto d u :: M) → D.ct σ' H2⟩ σ H1
theorem oc_lock {st : Stmt} {t : TS} (h : PS X st t) : PS X st (tLockO t) := by
  refine ⟨fun pn s0 σ H D J ⟨d, u, L, S, mu, hw⟩ => ?_⟩
  obtain ⟨od, J1⟩ := J.lock S.hd mu
  refine thn (h.run pn s0 σ _ _ J1 (hw od _ (S.put _))) fun f s1 q => ?_
  cases f with
  | next =>
    obtain ⟨σ', H', J2, M, S2, q⟩ := q
    exact ⟨σ', _, J2.unlock S2.hd (J.nofrz S.hd mu), q _ (S2.put u S.hdT)⟩
  | brk =>
    obtain ⟨σ', H', J2, M, S2, q⟩ := q
    exact ⟨σ', _, J2.unlock S2.hd (J.nofrz S.hd mu), q _ (S2.put u S.hdT)⟩
  | cont =>
    obtain ⟨σ', H', J2, M, S2, q⟩ := q
    exact ⟨σ', _, J2.unlock S2.hd (J.nofrz S.hd mu), q _ (S2.put u S.hdT)⟩
  | ret v =>
    obtain ⟨x, σ', H', J2, r, M, S2, q⟩ := q
    exact ⟨x, σ', _, J2.unlock S2.hd (J.nofrz S.hd mu), r, q _ (S2.put u S.hdT)⟩
end
/-- for k, v in d.items() -/
theorem for_items {α : Type} {f : α → V} {d : Addr} {od : Obj} {g : TG} {tb : TS} {D : Ends} {σ : L2.St} {H : Hp} (ps : List (Int × α)) (Pv : Nat → L2.St → Hp → Prop) (h0 : Pv 0 σ H) (hl : ∀ i σ H, Pv i σ H → ∃ L, Sts H (pto d (.frz od (.dK (dM f ps))) :: L))
    (hs : ∀ i k v T σ H H', ps[i]? = some (k, v) → Pv i σ H → H T = none → upd H T (.tup [.int k, f v]) = H' → g (.ref T) σ H' fun σ2 H2 => tb { D with nx := Pv (i + 1), ct := Pv (i + 1), bk := D.nx } σ2 H2) (hd : ∀ σ H, Pv ps.length σ H → D.nx σ H) :
    ∃ W : Nat → Nat → L2.St → Hp → Prop, (∃ m, W 0 m σ H) ∧ ∀ i m σ H, W i m σ H →
      ((Iti d od (dM f ps)).stop i H ∧ D.nx σ H) ∨ ((Iti d od (dM f ps)).go i H ∧ ∃ N : L2.St → Hp → Prop, (∀ σ' H', N σ' H' → ∃ m', m' < m ∧ W (i + 1) m' σ' H') ∧ ∀ x H', (Iti d od (dM f ps)).yld i H x H' → g x σ H' fun σ2 H2 => tb { D with nx := N, ct := N, bk := D.nx } σ2 H2) := by
  have el : (dM f ps).length = ps.length := by
    unfold dM
    rw [List.length_map]
  refine for_it (n := ps.length) (el ▸ walk_items) Pv h0 (fun i σ H _ p => ?_) (fun i x σ H H' hi p y => ?_) hd
  · obtain ⟨L, S⟩ := hl i σ H p
    exact S.hd
  · obtain ⟨T, k, v, h1, h2, h3, h4, h5⟩ := y
    obtain ⟨j, hj⟩ : ∃ j, ps[i]? = some j := ⟨_, List.getElem?_eq_getElem hi⟩
    simp only [dM, List.getElem?_map, hj] at h4 h5
    cases h4
    cases h5
    rw [h1]
    exact hs i j.1 j.2 T σ H H' hj p h2 h3.symm
end Oc
namespace Oc
open PySem PySem.Spec PyProof.Rows L2
theorem atI_last2 (l : List Int) (i j : Int) : atI ((l ++ [i, j]).map V.int) (-2) = some (.int i) := by
  have hl : ((l ++ [i, j]).map V.int).length = l.length + 2 := by simp
  unfold atI ixN
  rw [hl, if_neg (by decide), if_pos (by omega)]
  show ((l ++ [i, j]).map V.int)[(-2 + ((l.length + 2 : Nat) : Int)).toNat]? = _
  rw [show (-2 + ((l.length + 2 : Nat) : Int)).toNat = l.length by omega]
  simp
/-- xs[-2], a list of ints that ends with i, j -/
theorem oc_ixLast2 {X : Cx} {K : PySem.W.Frag} (hK : X.K = K) : IxR X (fun x y H Q => ∃ p, ∃ ns : List Int, x = .ref p ∧ y = .int (-2) ∧ SqL K H p (ns.map V.int) ∧ ∃ l i j, ns = l ++ [i, j] ∧ Q (.int i) H) := fun va sl pins s σ H x y v u Q I rx ry ⟨p, ns, e1, e2, h, l, i, j, b, q⟩ hs =>
  ix_list va sl pins s σ H x y v u Q I rx ry ⟨p, _, -2, .int i, e1, e2, hK ▸ h, by
    rw [b]
    exact atI_last2 l i j, q⟩ hs
theorem hI7 {H : Hp} {a : Addr} {x y z u v w t : Int} (h : H a = some (.lst [V.int x, V.int y, V.int z, V.int u, V.int v, V.int w, V.int t])) : H a = some (.lst (List.map V.int [x, y, z, u, v, w, t])) := h
theorem hI4 {H : Hp} {a : Addr} {x y z u : Int} (h : H a = some (.lst [V.int x, V.int y, V.int z, V.int u])) : H a = some (.lst (List.map V.int [x, y, z, u])) := h
theorem lc_BI {K : PySem.W.Frag} {a : Addr} {k : Nat} {te : TE} {vs : List Nat} {σ : L2.St} {H0 : Hp} {Qd : Hp → Prop} {L : List Asr} {D : Addr} (ns : List Int) (f : Int → Bool) (S : Sts H0 (pto D (.lst []) :: L)) (hsq : ∀ H, Sts H L → SqL K H a (ns.map V.int)) (hl : ns.length ≤ 1000000)
    (hw : ∀ x, wipe ((wipe σ vs).set k (some x)) vs = wipe σ vs) (he : ∀ (x : Int) (H : Hp) (Q' : VK), x ∈ ns → Sts H L → Q' (.bl (f x)) H → te ((wipe σ vs).set k (some (.int x))) H Q')
    (hd : ∀ H, Sts H (pto D (.lst ((ns.map f).map V.bl)) :: L) → Qd H) :
    ∃ W : Nat → Nat → Hp → Prop, (∃ m, W 0 m H0) ∧ ∀ i m H, W i m H →
      ((Itl K a).stop i H ∧ Qd H) ∨ ((Itl K a).go i H ∧ ∃ Nx : Hp → Prop, (∀ H', Nx H' → ∃ m', m' < m ∧ W (i + 1) m' H') ∧ ∀ x H', (Itl K a).yld i H x H' → gName k x (wipe σ vs) H' fun σ2 H2 => wipe σ2 vs = wipe σ vs ∧ tYes σ2 H2 fun b H3 =>
        if b = true then te σ2 H3 fun y H4 => ∃ acc, H4 D = some (.lst acc) ∧ acc.length < sizeLine ∧ Nx (upd H4 D (.lst (acc ++ [y]))) else Nx H3) :=
  lc_pureI ns (fun x => .bl (f x)) S hsq hl hw he (fun H S => hd H (by rw [List.map_map]; exact S))
theorem all_yes (ns : List Int) : (ns.map fun _ => true).all id = true := by simp
theorem deq {α : Type} [DecidableEq α] (a : α) : decide (a = a) = true := decide_eq_true rfl
/-- int(b), in facts -/
theorem oc_int_bA {X : Cx} : CallR X (.type "int") (fun xs H Q => ∃ k, xs = [.bl k] ∧ ∀ o : Int, 0 ≤ o → o ≤ 1 → (o = 1 ↔ k = true) → Q (.int o) H) := fun pins s σ H xs us Q I r ⟨k, e, q⟩ =>
  call_int1 pins s σ H xs us Q I r (.inr ⟨k, e, q _ (by cases k <;> decide) (by cases k <;> decide) (by cases k <;> decide)⟩)
theorem gI_get {L : List Int} {k : Int} (h0 : 0 ≤ k) (h1 : k < L.length) : L[k.toNat]? = some (gI L k) := by
  have h : k.toNat < L.length := by omega
  rw [List.getElem?_eq_getElem h]
  unfold gI
  rw [List.getD_eq_getElem?_getD, List.getElem?_eq_getElem h]
  rfl
theorem rep0 (k : Nat) (x : Int) : (List.replicate k [x]).flatten = List.replicate k x := by
  induction k with
  | zero => rfl
  | succ k ih => rw [List.replicate_succ, List.flatten_cons, ih, List.replicate_succ]; rfl
end Oc
namespace Oc
open PySem PySem.Spec PyProof.Rows L2
theorem in_ints (i : Int) : ∀ ns : List Int, inV (.int i) (ns.map V.int) = decide (i ∈ ns)
  | [] => rfl
  | n :: ns => by
    have ih := in_ints i ns
    have e : inV (.int i) ((n :: ns).map V.int) = (eqV (.int n) (.int i) || inV (.int i) (ns.map V.int)) := rfl
    rw [e, ih]
    have e2 : eqV (.int n) (.int i) = decide (i = n) := by
      show (n == i) = decide (i = n)
      by_cases h : i = n
      · rw [h, decide_eq_true rfl]
        exact beq_self_eq_true n
      · rw [decide_eq_false h]
        exact beq_eq_false_iff_ne.mpr fun e => h e.symm
    rw [e2]
    by_cases h1 : i = n <;> by_cases h2 : i ∈ ns <;> simp [h1, h2]
theorem flat_ints : ∀ ns : List Int, (ns.map V.int).all flatV = true
  | [] => rfl
  | n :: ns => by
    rw [List.map_cons, List.all_cons, flat_ints ns]
    rfl
theorem oc_in_ints {X : Cx} {K : PySem.W.Frag} (hK : X.K = K) : OpR X (compareOp .In) (fun x y H Q => ∃ i p, ∃ ns : List Int, x = .int i ∧ y = .ref p ∧ SqL K H p (ns.map V.int) ∧ Q (.bl (decide (i ∈ ns))) H) := fun pins s σ H x y v u Q I rx ry ⟨i, p, ns, e1, e2, h, q⟩ =>
  op_in_seq pins s σ H x y v u Q I rx ry ⟨p, _, e2, .inl (hK ▸ h), by rw [e1]; rfl, flat_ints ns, by rw [e1, in_ints]; exact q⟩
theorem oc_and1 {X : Cx} : OpR X (binaryOp .BitAnd) (fun x y H Q => ∃ i, x = .int i ∧ y = .int 1 ∧ Q (.int (i % 2)) H) := fun pins s σ H x y v u Q I rx ry ⟨i, e1, e2, q⟩ =>
  op_and pins s σ H x y v u Q I rx ry ⟨i, 1, e1, e2, by
    show Q (.int (Builtin.bitAnd i 1)) H
    rw [PyProof.Rows.bitAnd_m1]
    exact q⟩
/-- list(range(i, j, c)) -/
def tLstRg3 (ta : TA) : TE := fun σ H Q => ta σ H fun vs H1 => ∃ (i j c : Int) (n : Nat), vs = [.int i, .int j, .int c] ∧ RgC i j c n ∧ n ≤ 1000000 ∧ ∀ q, H1 q = none → Q (.ref q) (upd H1 q (.lst (((List.range n).map fun k => i + (k : Nat) * c).map V.int)))
theorem oc_listRg3 {X : Cx} {a b c : Expr} {ta : TA} {p p2 pos pos2 : Pos} (hc : X.calm = true) (hg : Gl X "list") (hm : X.mg "list" = none) (hg2 : Gl X "range") (hm2 : X.mg "range" = none) (ha : PA X [a, b, c] ta)
    (na : starEach [Expr.Call (.Name "range" p2) [a, b, c] [] pos2] X.env = (false, eval (Expr.Call (.Name "range" p2) [a, b, c] [] pos2) X.env) :: starEach [] X.env := by rfl)
    (hs : starEach [a, b, c] X.env = (false, eval a X.env) :: starEach [b, c] X.env := by rfl) (hpl : (backTo pos2 (starEach [b, c] X.env)).any (·.1) = false := by rfl) :
    PE X (.Call (.Name "list" p) [.Call (.Name "range" p2) [a, b, c] [] pos2] [] pos) (tLstRg3 ta) := by
  refine ⟨fun pn s0 σ H Q J h => Call_ (ld_blt J hg hm boot_list (PyProof.Rows.callWith_type1 (args_cons ?_ na) na))⟩
  refine Call_ (ld_blt J hg2 hm2 boot_range (PyProof.Rows.callWith_type1 (thn (ha.run pos2 pn s0 σ H _ J h) fun us s1 ⟨vs, H1, J1, r1, i, j, k, n, e, ⟨c0, c1, c2, c3⟩, nl, q⟩ => ?_) hs hpl))
  subst e
  cases r1 with
  | cons r rr =>
    cases rr with
    | cons r' rr =>
      cases rr with
      | cons r'' rr =>
        cases rr
        obtain ⟨t, rfl⟩ := r
        obtain ⟨t', rfl⟩ := r'
        obtain ⟨t'', rfl⟩ := r''
        refine call_range_3 c0 (args_nil ?_) (.inl (PyProof.noPylong_small c1))
        have J2 : Inv X pn σ H1 { s1 with heap := s1.heap.push { cls := .type "range", data := .fields #[.int i t, .int j t', .int k t''] } } := J1.kept (t' := s1.toks) fun b o => Heap.get?_push_of_some _
        refine call_list_range (n := n) (J2.ok.hd hc) (IsRange.new ..) c2 c3 (by omega) fun h' tk acc ck hk e' hi => ?_
        have hv : Vals (((List.range n).map fun x => i + (x : Nat) * k).map V.int) acc.toList := by
          have el : acc.toList.length = n := by rw [Array.length_toList]; exact hi.1
          rw [← el, List.map_map]
          refine vals_of_get acc.toList _ fun x u hx => ?_
          obtain ⟨t, rfl⟩ := hi.2 x u (by rw [← hx, Array.getElem?_toList])
          exact ⟨t, rfl⟩
        refine ⟨.ref _, upd H1 _ (.lst (((List.range n).map fun x => i + (x : Nat) * k).map V.int)), J2.laid hk (Nat.le_refl _) (show ObjOk X.prog X.w _ _ _ (.lst (((List.range n).map fun x => i + (x : Nat) * k).map V.int)) from ⟨?_, acc.toList, ck, hv, ?_⟩), rfl, q _ (J2.hok.fresh (Nat.le_refl _))⟩
        · rw [List.length_map, List.length_map, List.length_range, sizeLine_eq]
          omega
        · rw [Array.toArray_toList]
          exact e'
theorem rgc_down {f g w : Nat} (hw : 1 ≤ w) (hw2 : w ≤ 1000) (hl : f + (g + 1) * w ≤ 1000000) : RgC ((f + (g + 1) * w : Nat) : Int) f (-(w : Int)) (g + 1) := by
  have m2 : (g + 1) * w = g * w + w := Nat.succ_mul g w
  have e : Builtin.Range.rangeSize ((f + (g + 1) * w : Nat) : Int) f (-(w : Int)) = ((g + 1 : Nat) : Int) := by
    unfold Builtin.Range.rangeSize
    rw [if_neg (by omega), if_pos (by omega), Int.neg_neg]
    have e1 : ((f + (g + 1) * w : Nat) : Int) - f - 1 = ((g * w + (w - 1) : Nat) : Int) := by omega
    have e2 : (((g * w + (w - 1) : Nat) : Int) / (w : Int)) = ((g : Nat) : Int) := by
      rw [← Int.natCast_ediv, Nat.add_comm, Nat.add_mul_div_right _ _ (by omega), Nat.div_eq_of_lt (by omega), Nat.zero_add]
    rw [e1, e2]
    rfl
  refine ⟨by omega, by omega, ?_, e⟩
  unfold Builtin.Range.small Builtin.Range.rangeFitsLong
  have gl : g + 1 ≤ 1000000 := by
    have := Nat.mul_le_mul_left (g + 1) hw
    omega
  rw [e, if_neg (by omega)]
  simp only [Bool.and_eq_true, Bool.or_eq_true, decide_eq_true_eq, beq_iff_eq]
  omega
/-- any, all over a range's turns -/
theorem lc_RB {lo : Int} {n : Nat} {k : Nat} {te : TE} {vs : List Nat} {σ : L2.St} {H0 : Hp} {Qd : Hp → Prop} {L : List Asr} {D : Addr} (f : Int → Bool) (S : Sts H0 (pto D (.lst []) :: L)) (hl : n ≤ 1000000)
    (hw : ∀ x, wipe ((wipe σ vs).set k (some x)) vs = wipe σ vs) (he : ∀ (i : Nat) (H : Hp) (Q' : VK), i < n → Sts H L → Q' (.bl (f (lo + i))) H → te ((wipe σ vs).set k (some (.int (lo + i)))) H Q')
    (hd : ∀ H, Sts H (pto D (.lst (((List.range n).map fun i => f (lo + (i : Nat))).map V.bl)) :: L) → Qd H) :
    ∃ W : Nat → Nat → Hp → Prop, (∃ m, W 0 m H0) ∧ ∀ i m H, W i m H →
      ((Itr lo n).stop i H ∧ Qd H) ∨ ((Itr lo n).go i H ∧ ∃ Nx : Hp → Prop, (∀ H', Nx H' → ∃ m', m' < m ∧ W (i + 1) m' H') ∧ ∀ x H', (Itr lo n).yld i H x H' → gName k x (wipe σ vs) H' fun σ2 H2 => wipe σ2 vs = wipe σ vs ∧ tYes σ2 H2 fun b H3 =>
        if b = true then te σ2 H3 fun y H4 => ∃ acc, H4 D = some (.lst acc) ∧ acc.length < sizeLine ∧ Nx (upd H4 D (.lst (acc ++ [y]))) else Nx H3) :=
  lc_pureR (fun x => .bl (f x)) S hl hw he (fun H S => hd H (by rw [List.map_map]; exact S))
end Oc
namespace Oc
open PySem L2
section
variable {p : Prop} [Decidable p] {A B : Prop} {a b : Int}
theorem idT (h : p) (k : A) : if decide p = true then A else B := ifT (dt h) k
theorem idF (h : ¬ p) (k : B) : if decide p = true then A else B := ifF (df h) k
theorem inT (h : ¬ p) (k : A) : if (!decide p) = true then A else B := ifT (nt h) k
theorem inF (h : p) (k : B) : if (!decide p) = true then A else B := ifF (nd h) k
theorem ivT (h : a = b) (k : A) : if decide (V.int a = V.int b) = true then A else B := ifT (dt (congrArg V.int h)) k
theorem ivF (h : a ≠ b) (k : B) : if decide (V.int a = V.int b) = true then A else B := ifF (df fun e => h (V.int.inj e)) k
theorem iwT (h : a ≠ b) (k : A) : if (!decide (V.int a = V.int b)) = true then A else B := ifT (nt fun e => h (V.int.inj e)) k
theorem iwF (h : a = b) (k : B) : if (!decide (V.int a = V.int b)) = true then A else B := ifF (nd (congrArg V.int h)) k
end
end Oc
theorem Oc.gLL {H : L2.Hp} {a b : PySem.Addr} {ns ms : List Int} {L : List Oc.Asr} (h : Oc.Sts H (Oc.pto a (.lst (ns.map L2.V.int)) :: Oc.pto b (.lst (ms.map L2.V.int)) :: L)) : Oc.Sts H (Oc.pto a (.lst (ns.map L2.V.int)) :: Oc.pto b (.lst (ms.map L2.V.int)) :: L) := h
/-! ### readings with names of their own, a lemma for each step -/
namespace Oc
open PySem PySem.Spec PyProof.Rows L2
section
variable {K : PySem.W.Frag} {σ σ' : L2.St} {H : Hp} {Q : VK} {D : Ends} {i j : Int} {a b p : Addr} {v x y : V} {vs us : List V} {L : List Asr} {ns ms : List Int} {xs ys : List V}
/-! structure -/
def tCallX (sp : Sp) (t : TA) : TE := fun σ H Q => t σ H fun vs H1 => sp vs H1 Q E0
def qNew (H : Hp) (o : HO) (Q : VK) : Prop := ∀ p, H p = none → Q (.ref p) (upd H p o)
theorem g_new {o : HO} (S : Sts H L) (ho : isT o = false) (k : ∀ p H', Sts H' (pto p o :: L) → Q (.ref p) H') : qNew H o Q := fun p np => k p _ (S.new o np ho)
theorem g_newT {τ : Tmap} (S : Sts H (im τ :: L)) (k : ∀ p H' υ, Le τ υ → υ p = some vs → Sts H' (im υ :: L) → Q (.ref p) H') : qNew H (.tup vs) Q := fun p np => by
  obtain ⟨υ, l, e, S2⟩ := S.newT vs np
  exact k p _ υ l e S2
theorem g_newT0 (S : Sts H L) (k : ∀ p H', Sts H' L → Q (.ref p) H') : qNew H (.tup vs) Q := fun p np => k p _ (S.newT0 vs np)
theorem g_dnewT (k : qNew H (.dT []) Q) : tDNewT σ H Q := k
theorem g_dnewK (k : qNew H (.dK []) Q) : tDNewK σ H Q := k
theorem g_var {n : Nat} (h : σ[n]? = some (some v)) (k : Q v H) : tVar n σ H Q := ⟨v, h, k⟩
theorem g_c (k : Q v H) : tC v σ H Q := k
section
variable {t u : TS} {te ta tb tc : TE} {c d : TT} {g : TG} {gs : TGs} {tr : TA} {RB : Bool → Hp → Prop}
theorem g_nx {n : L2.St → Hp → Prop} {r : VK} {b c : L2.St → Hp → Prop} (k : n σ H) : (Ends.mk n r b c).nx σ H := k
theorem g_rt {n : L2.St → Hp → Prop} {r : VK} {b c : L2.St → Hp → Prop} (k : r v H) : (Ends.mk n r b c).rt v H := k
theorem g_seq (k : t { D with nx := u D } σ H) : tSeq t u D σ H := k
theorem g_next (k : D.nx σ H) : tNext D σ H := k
theorem g_brk (k : D.bk σ H) : tBreak D σ H := k
theorem g_cont (k : D.ct σ H) : tCont D σ H := k
theorem g_drop (k : te σ H fun _ H1 => D.nx σ H1) : tDrop te D σ H := k
theorem g_ret (k : te σ H D.rt) : tRet te D σ H := k
theorem g_retN (k : D.rt .non H) : tRetN D σ H := k
theorem g_ifS (k : c σ H fun b H1 => if b = true then t D σ H1 else u D σ H1) : tIfS c t u D σ H := k
theorem g_asg (k : te σ H fun x H1 => g x σ H1 D.nx) : tAsg te g D σ H := k
theorem g_aug {n : Nat} {ti : TIp} (h : σ[n]? = some (some x)) (k : te σ H fun y H1 => ti x y H1 fun z H2 => gName n z σ H2 D.nx) : tAug n te ti D σ H := ⟨x, h, k⟩
theorem g_ipI {f : Int → Int → Int} (k : Q (.int (f i j)) H) : ipI f (.int i) (.int j) H Q := ⟨i, j, rfl, rfl, k⟩
def kBl (Q : Bool → Hp → Prop) : VK := fun x H => ∃ k, x = .bl k ∧ Q k H
theorem g_bl {c : Bool} (k : RB c H) : kBl RB (.bl c) H := ⟨c, rfl, k⟩
theorem g_test (k : te σ H (kBl RB)) : tTest te σ H RB := k
theorem g_tB (k : te σ H (kBl RB)) : tB te σ H RB := k
theorem g_not (k : c σ H fun b H1 => RB (!b) H1) : tNot c σ H RB := k
theorem g_and (k : c σ H fun b H1 => if b = true then d σ H1 RB else RB false H1) : tAnd c d σ H RB := k
theorem g_or (k : c σ H fun b H1 => if b = true then RB true H1 else d σ H1 RB) : tOr c d σ H RB := k
def kAndV (tb : TE) (σ : L2.St) (Q : VK) : VK := fun x H => ∃ c, x = .bl c ∧ if c = true then tb σ H Q else Q (.bl false) H
def kOrV (tb : TE) (σ : L2.St) (Q : VK) : VK := fun x H => ∃ c, x = .bl c ∧ if c = true then Q (.bl true) H else tb σ H Q
def kNotV (Q : VK) : VK := fun x H => ∃ c, x = .bl c ∧ Q (.bl (!c)) H
theorem g_andV (k : ta σ H (kAndV tb σ Q)) : tAndV ta tb σ H Q := k
theorem g_orV (k : ta σ H (kOrV tb σ Q)) : tOrV ta tb σ H Q := k
theorem g_notV (k : ta σ H (kNotV Q)) : tNotV ta σ H Q := k
theorem g_kAndV {c : Bool} (k : if c = true then tb σ H Q else Q (.bl false) H) : kAndV tb σ Q (.bl c) H := ⟨c, rfl, k⟩
theorem g_kOrV {c : Bool} (k : if c = true then Q (.bl true) H else tb σ H Q) : kOrV tb σ Q (.bl c) H := ⟨c, rfl, k⟩
theorem g_kNotV {c : Bool} (k : Q (.bl (!c)) H) : kNotV Q (.bl c) H := ⟨c, rfl, k⟩
theorem g_if (k : c σ H fun b H1 => if b = true then ta σ H1 Q else tb σ H1 Q) : tIf c ta tb σ H Q := k
def kChain (r : R2) (y : V) (tc : TE) (σ : L2.St) (Q : VK) : VK := fun z H => ∃ k, z = .bl k ∧ (if k = true then tc σ H fun w' H4 => r y w' H4 Q else Q (.bl false) H)
theorem g_chain {r r' : R2} (k : ta σ H fun x H1 => tb σ H1 fun y H2 => r x y H2 (kChain r' y tc σ Q)) : tChain r r' ta tb tc σ H Q := k
theorem g_kChain {r : R2} {c : Bool} (k : if c = true then tc σ H fun w' H4 => r y w' H4 Q else Q (.bl false) H) : kChain r y tc σ Q (.bl c) H := ⟨c, rfl, k⟩
theorem g_cons {R : List V → Hp → Prop} (k : ta σ H fun x H1 => tr σ H1 fun xs H2 => R (x :: xs) H2) : tCons ta tr σ H R := k
theorem g_nil {R : List V → Hp → Prop} (k : R [] H) : tNil σ H R := k
theorem g_op {r : R2} (k : ta σ H fun x H1 => tb σ H1 fun y H2 => r x y H2 Q) : tOp r ta tb σ H Q := k
theorem g_un {r : V → Hp → VK → Prop} (k : ta σ H fun x H1 => r x H1 Q) : tUn r ta σ H Q := k
theorem g_cb {r : List V → Hp → VK → Prop} (k : tr σ H fun vs H1 => r vs H1 Q) : tCB r tr σ H Q := k
theorem g_call {sp : Sp} {dvs : List V} {E : XK} (k : tr σ H fun vs H1 => sp (vs ++ dvs) H1 Q E) : tCall sp dvs E tr σ H Q := k
theorem g_callX {sp : Sp} (k : tr σ H fun vs H1 => sp vs H1 Q E0) : tCallX sp tr σ H Q := k
theorem g_callS {sp : Sp} {E : L2.St → XK} (k : tr σ H fun vs H1 => sp vs H1 Q (E σ)) : tCallS sp E tr σ H Q := k
def kBM (K : PySem.W.Frag) (T : String) (r : V → List V → Hp → VK → Prop) (t : TA) (σ : L2.St) (Q : VK) : VK := fun x H1 => tyV K T x H1 ∧ t σ H1 fun xs H2 => r x xs H2 Q
theorem g_bm {T : String} {r : V → List V → Hp → VK → Prop} (k : ta σ H (kBM K T r tr σ Q)) : tBM K T r ta tr σ H Q := k
theorem g_kBML {r : V → List V → Hp → VK → Prop} (h : SqL K H a xs) (k : tr σ H fun vs H2 => r (.ref a) vs H2 Q) : kBM K "list" r tr σ Q (.ref a) H := ⟨.inl ⟨rfl, _, h⟩, k⟩
theorem g_kBMS {r : V → List V → Hp → VK → Prop} {z : Str} (k : tr σ H fun vs H2 => r (.str z) vs H2 Q) : kBM K "str" r tr σ Q (.str z) H := ⟨rfl, k⟩
def kBM0 (K : PySem.W.Frag) (T : String) (r : V → List V → Hp → VK → Prop) (Q : VK) : VK := fun x H1 => tyV K T x H1 ∧ r x [] H1 Q
theorem g_bm0 {T : String} {r : V → List V → Hp → VK → Prop} (k : ta σ H (kBM0 K T r Q)) : tBM0 K T r ta σ H Q := k
theorem g_kBM0L {r : V → List V → Hp → VK → Prop} (h : SqL K H a xs) (k : r (.ref a) [] H Q) : kBM0 K "list" r Q (.ref a) H := ⟨.inl ⟨rfl, _, h⟩, k⟩
def kLst (Q : VK) (xs : List V) (H : Hp) : Prop := xs.length ≤ sizeLine ∧ qNew H (.lst xs) Q
def kTup (Q : VK) (xs : List V) (H : Hp) : Prop := xs.length ≤ sizeLine ∧ qNew H (.tup xs) Q
theorem g_lst (k : tr σ H (kLst Q)) : tLst tr σ H Q := k
theorem g_tup (k : tr σ H (kTup Q)) : tTup tr σ H Q := k
theorem g_kLst (h : xs.length ≤ sizeLine) (k : qNew H (.lst xs) Q) : kLst Q xs H := ⟨h, k⟩
theorem g_kTup (h : xs.length ≤ sizeLine) (k : qNew H (.tup xs) Q) : kTup Q xs H := ⟨h, k⟩
def kPart (Q : Option Int → Hp → Prop) : VK := fun x H => ∃ i, x = .int i ∧ Q (some i) H
theorem g_sl {r : V → Option Int → Option Int → Hp → VK → Prop} {tl th : TO} (k : te σ H fun x H1 => tl σ H1 fun l H2 => th σ H2 fun u H3 => r x l u H3 Q) : tSl r te tl th σ H Q := k
theorem g_noPart {R : Option Int → Hp → Prop} (k : R none H) : tNoPart σ H R := k
theorem g_part {R : Option Int → Hp → Prop} (k : te σ H (kPart R)) : tPart te σ H R := k
theorem g_kPart {R : Option Int → Hp → Prop} (k : R (some i) H) : kPart R (.int i) H := ⟨i, rfl, k⟩
theorem g_gsub {to ti : TE} {ts : TSet} {R : L2.St → Hp → Prop} (k : to σ H fun o H1 => ti σ H1 fun i H2 => ts o i v H2 fun H3 => R σ H3) : gSub to ti ts v σ H R := k
theorem g_gtup {n : Nat} {R : L2.St → Hp → Prop} (h : SqT K H a xs) (e : xs.length = n) (k : gs xs σ H R) : gTup K n gs (.ref a) σ H R := ⟨a, xs, rfl, h, e, k⟩
theorem g_gcons {R : L2.St → Hp → Prop} (k : g v σ H fun σ' H' => gs xs σ' H' R) : gCons g gs (v :: xs) σ H R := ⟨v, xs, rfl, k⟩
theorem g_gnil {R : L2.St → Hp → Prop} (k : R σ H) : gNil [] σ H R := ⟨rfl, k⟩
end
section
variable {x0 x1 x2 x3 x4 x5 x6 x7 x8 x9 x10 x11 x12 x13 x14 x15 x16 x17 x18 x19 : Option V} {s : List (Option V)} {R : L2.St → Hp → Prop}
theorem g_nameG {n : Nat} {s : L2.St} (k : R (s.set n (some v)) H) : gName n v s H R := k
theorem g_name0 (k : R (some v :: s) H) : gName 0 v (x0 :: s) H R := k
theorem g_name1 (k : R (x0 :: some v :: s) H) : gName 1 v (x0 :: x1 :: s) H R := k
theorem g_name2 (k : R (x0 :: x1 :: some v :: s) H) : gName 2 v (x0 :: x1 :: x2 :: s) H R := k
theorem g_name3 (k : R (x0 :: x1 :: x2 :: some v :: s) H) : gName 3 v (x0 :: x1 :: x2 :: x3 :: s) H R := k
theorem g_name4 (k : R (x0 :: x1 :: x2 :: x3 :: some v :: s) H) : gName 4 v (x0 :: x1 :: x2 :: x3 :: x4 :: s) H R := k
theorem g_name5 (k : R (x0 :: x1 :: x2 :: x3 :: x4 :: some v :: s) H) : gName 5 v (x0 :: x1 :: x2 :: x3 :: x4 :: x5 :: s) H R := k
theorem g_name6 (k : R (x0 :: x1 :: x2 :: x3 :: x4 :: x5 :: some v :: s) H) : gName 6 v (x0 :: x1 :: x2 :: x3 :: x4 :: x5 :: x6 :: s) H R := k
theorem g_name7 (k : R (x0 :: x1 :: x2 :: x3 :: x4 :: x5 :: x6 :: some v :: s) H) : gName 7 v (x0 :: x1 :: x2 :: x3 :: x4 :: x5 :: x6 :: x7 :: s) H R := k
theorem g_name8 (k : R (x0 :: x1 :: x2 :: x3 :: x4 :: x5 :: x6 :: x7 :: some v :: s) H) : gName 8 v (x0 :: x1 :: x2 :: x3 :: x4 :: x5 :: x6 :: x7 :: x8 :: s) H R := k
theorem g_name9 (k : R (x0 :: x1 :: x2 :: x3 :: x4 :: x5 :: x6 :: x7 :: x8 :: some v :: s) H) : gName 9 v (x0 :: x1 :: x2 :: x3 :: x4 :: x5 :: x6 :: x7 :: x8 :: x9 :: s) H R := k
theorem g_name10 (k : R (x0 :: x1 :: x2 :: x3 :: x4 :: x5 :: x6 :: x7 :: x8 :: x9 :: some v :: s) H) : gName 10 v (x0 :: x1 :: x2 :: x3 :: x4 :: x5 :: x6 :: x7 :: x8 :: x9 :: x10 :: s) H R := k
theorem g_name11 (k : R (x0 :: x1 :: x2 :: x3 :: x4 :: x5 :: x6 :: x7 :: x8 :: x9 :: x10 :: some v :: s) H) : gName 11 v (x0 :: x1 :: x2 :: x3 :: x4 :: x5 :: x6 :: x7 :: x8 :: x9 :: x10 :: x11 :: s) H R := k
theorem g_name12 (k : R (x0 :: x1 :: x2 :: x3 :: x4 :: x5 :: x6 :: x7 :: x8 :: x9 :: x10 :: x11 :: some v :: s) H) : gName 12 v (x0 :: x1 :: x2 :: x3 :: x4 :: x5 :: x6 :: x7 :: x8 :: x9 :: x10 :: x11 :: x12 :: s) H R := k
theorem g_name13 (k : R (x0 :: x1 :: x2 :: x3 :: x4 :: x5 :: x6 :: x7 :: x8 :: x9 :: x10 :: x11 :: x12 :: some v :: s) H) : gName 13 v (x0 :: x1 :: x2 :: x3 :: x4 :: x5 :: x6 :: x7 :: x8 :: x9 :: x10 :: x11 :: x12 :: x13 :: s) H R := k
theorem g_name14 (k : R (x0 :: x1 :: x2 :: x3 :: x4 :: x5 :: x6 :: x7 :: x8 :: x9 :: x10 :: x11 :: x12 :: x13 :: some v :: s) H) : gName 14 v (x0 :: x1 :: x2 :: x3 :: x4 :: x5 :: x6 :: x7 :: x8 :: x9 :: x10 :: x11 :: x12 :: x13 :: x14 :: s) H R := k
theorem g_name15 (k : R (x0 :: x1 :: x2 :: x3 :: x4 :: x5 :: x6 :: x7 :: x8 :: x9 :: x10 :: x11 :: x12 :: x13 :: x14 :: some v :: s) H) : gName 15 v (x0 :: x1 :: x2 :: x3 :: x4 :: x5 :: x6 :: x7 :: x8 :: x9 :: x10 :: x11 :: x12 :: x13 :: x14 :: x15 :: s) H R := k
theorem g_name16 (k : R (x0 :: x1 :: x2 :: x3 :: x4 :: x5 :: x6 :: x7 :: x8 :: x9 :: x10 :: x11 :: x12 :: x13 :: x14 :: x15 :: some v :: s) H) : gName 16 v (x0 :: x1 :: x2 :: x3 :: x4 :: x5 :: x6 :: x7 :: x8 :: x9 :: x10 :: x11 :: x12 :: x13 :: x14 :: x15 :: x16 :: s) H R := k
theorem g_name17 (k : R (x0 :: x1 :: x2 :: x3 :: x4 :: x5 :: x6 :: x7 :: x8 :: x9 :: x10 :: x11 :: x12 :: x13 :: x14 :: x15 :: x16 :: some v :: s) H) : gName 17 v (x0 :: x1 :: x2 :: x3 :: x4 :: x5 :: x6 :: x7 :: x8 :: x9 :: x10 :: x11 :: x12 :: x13 :: x14 :: x15 :: x16 :: x17 :: s) H R := k
end
/-! what is walked -/
section
variable {te ta : TE} {tr : TA} {R : It → Hp → Prop}
def kFor (g : TG) (tb : TS) (D : Ends) (σ : L2.St) (J : It) (H1 : Hp) : Prop := ∃ W : Nat → Nat → L2.St → Hp → Prop, (∃ m, W 0 m σ H1) ∧ ∀ i m σ H, W i m σ H →
    (J.stop i H ∧ D.nx σ H) ∨ (J.go i H ∧ ∃ N : L2.St → Hp → Prop, (∀ σ1 H2, N σ1 H2 → ∃ m', m' < m ∧ W (i + 1) m' σ1 H2) ∧ ∀ x H2, J.yld i H x H2 → g x σ H2 fun σ2 H3 => tb { D with nx := N, ct := N, bk := D.nx } σ2 H3)
theorem g_for {wi : TI} {g : TG} {tb : TS} (k : wi σ H (kFor g tb D σ)) : tFor wi g tb D σ H := k
def kLw (J : It) (g : TG) (tt : TT) (te : TE) (vs : List Nat) (σ : L2.St) (Q : VK) (D : Addr) (H0 : Hp) : Prop := ∃ W : Nat → Nat → Hp → Prop, (∃ m, W 0 m H0) ∧ ∀ i m H, W i m H →
    (J.stop i H ∧ Q (.ref D) H) ∨ (J.go i H ∧ ∃ N : Hp → Prop, (∀ H1, N H1 → ∃ m', m' < m ∧ W (i + 1) m' H1) ∧ ∀ x H1, J.yld i H x H1 → g x (wipe σ vs) H1 fun σ2 H2 => wipe σ2 vs = wipe σ vs ∧ tt σ2 H2 fun b H3 =>
      if b = true then te σ2 H3 fun y H4 => ∃ acc, H4 D = some (.lst acc) ∧ acc.length < sizeLine ∧ N (upd H4 D (.lst (acc ++ [y]))) else N H3)
def kLc (g : TG) (tt : TT) (te : TE) (vs : List Nat) (σ : L2.St) (Q : VK) (J : It) (H1 : Hp) : Prop := ∀ D, H1 D = none → kLw J g tt te vs σ Q D (upd H1 D (.lst []))
theorem g_lc {wi : TI} {g : TG} {tt : TT} {vs : List Nat} (k : wi σ H (kLc g tt te vs σ Q)) : tLc wi g tt te vs σ H Q := k
theorem g_kLc {J : It} {g : TG} {tt : TT} {vs : List Nat} (S : Sts H L) (k : ∀ D H', Sts H' (pto D (.lst []) :: L) → kLw J g tt te vs σ Q D H') : kLc g tt te vs σ Q J H := fun D nd => k D _ (S.new _ nd)
def kIL (K : PySem.W.Frag) (R : It → Hp → Prop) : VK := fun x H => ∃ a, x = .ref a ∧ (∃ xs, SqL K H a xs) ∧ R (Itl K a) H
theorem g_iList (k : te σ H (kIL K R)) : iList K te σ H R := k
theorem g_kIL (h : SqL K H a xs) (k : R (Itl K a) H) : kIL K R (.ref a) H := ⟨a, rfl, ⟨xs, h⟩, k⟩
def kR1 (R : It → Hp → Prop) (vs : List V) (H : Hp) : Prop := ∃ j : Int, vs = [.int j] ∧ -(2 ^ 62) ≤ j ∧ j < 2 ^ 62 ∧ R (Itr 0 j.toNat) H
theorem g_iRng1 (k : tr σ H (kR1 R)) : iRng1 tr σ H R := k
theorem g_kR1 (h : -4000000000000000000 ≤ j ∧ j ≤ 4000000000000000000) (k : R (Itr 0 j.toNat) H) : kR1 R [.int j] H := ⟨j, rfl, by omega, by omega, k⟩
def kR2 (R : It → Hp → Prop) (vs : List V) (H : Hp) : Prop := ∃ i j : Int, vs = [.int i, .int j] ∧ (-(2 ^ 62) ≤ i ∧ i < 2 ^ 62 ∧ -(2 ^ 62) ≤ j ∧ j < 2 ^ 62) ∧ R (Itr i (j - i).toNat) H
theorem g_iRng2 (k : tr σ H (kR2 R)) : iRng2 tr σ H R := k
theorem g_kR2 (h : (-4000000000000000000 ≤ i ∧ i ≤ 4000000000000000000) ∧ -4000000000000000000 ≤ j ∧ j ≤ 4000000000000000000) (k : R (Itr i (j - i).toNat) H) : kR2 R [.int i, .int j] H := ⟨i, j, rfl, ⟨by omega, by omega, by omega, by omega⟩, k⟩
def kEn (K : PySem.W.Frag) (R : It → Hp → Prop) (vs : List V) (H : Hp) : Prop := ∃ a xs, vs = [.ref a] ∧ SqL K H a xs ∧ R (Ite K a) H
theorem g_iEnum (k : tr σ H (kEn K R)) : iEnum K tr σ H R := k
theorem g_kEn (h : SqL K H a xs) (k : R (Ite K a) H) : kEn K R [.ref a] H := ⟨a, xs, rfl, h, k⟩
def kZp (K : PySem.W.Frag) (R : It → Hp → Prop) (vs : List V) (H : Hp) : Prop := ∃ a b xs ys, vs = [.ref a, .ref b] ∧ SqL K H a xs ∧ SqL K H b ys ∧ R (Itz K a b) H
theorem g_iZip (k : tr σ H (kZp K R)) : iZip K tr σ H R := k
theorem g_kZp (h : SqL K H a xs) (h2 : SqL K H b ys) (k : R (Itz K a b) H) : kZp K R [.ref a, .ref b] H := ⟨a, b, xs, ys, rfl, h, h2, k⟩
def kRv (R : It → Hp → Prop) (i j : Int) (H : Hp) : Prop := -(2 ^ 62) ≤ i ∧ i < 2 ^ 62 ∧ -(2 ^ 62) ≤ j ∧ j < 2 ^ 62 ∧ R (Itc (i + (((j - i).toNat : Nat) : Int) - 1) (-1) (j - i).toNat) H
theorem g_iRevR {tg : L2.St → Hp → (Int → Int → Hp → Prop) → Prop} (k : tg σ H (kRv R)) : iRevR tg σ H R := k
theorem g_kRv (h : (-4000000000000000000 ≤ i ∧ i ≤ 4000000000000000000) ∧ -4000000000000000000 ≤ j ∧ j ≤ 4000000000000000000) (k : R (Itc (i + (((j - i).toNat : Nat) : Int) - 1) (-1) (j - i).toNat) H) : kRv R i j H := ⟨by omega, by omega, by omega, by omega, k⟩
def kRg1 (R : Int → Int → Hp → Prop) : VK := fun x H => ∃ n, x = .int n ∧ R 0 n H
theorem g_rg1 {R : Int → Int → Hp → Prop} (k : te σ H (kRg1 R)) : tRg1 te σ H R := k
theorem g_kRg1 {R : Int → Int → Hp → Prop} (k : R 0 j H) : kRg1 R (.int j) H := ⟨j, rfl, k⟩
def kRg2 (R : Int → Int → Hp → Prop) (x : V) : VK := fun y H => ∃ i j, x = .int i ∧ y = .int j ∧ R i j H
theorem g_rg2 {R : Int → Int → Hp → Prop} (k : te σ H fun x H1 => ta σ H1 (kRg2 R x)) : tRg2 te ta σ H R := k
theorem g_kRg2 {R : Int → Int → Hp → Prop} (k : R i j H) : kRg2 R (.int i) (.int j) H := ⟨i, j, rfl, rfl, k⟩
def kLR (Q : VK) (i j : Int) (H : Hp) : Prop := RgOk i j ∧ qNew H (.lst (rgV i j)) Q
theorem g_lstRg {tg : L2.St → Hp → (Int → Int → Hp → Prop) → Prop} (k : tg σ H (kLR Q)) : tLstRg tg σ H Q := k
/-- the ints from i up to j -/
def rgI (i j : Int) : List Int := (List.range (j - i).toNat).map fun n => i + ((n : Nat) : Int)
theorem rgV_I (i j : Int) : rgV i j = (rgI i j).map V.int := by
  unfold rgV rgI
  rw [List.map_map]
  rfl
theorem rgI_len (i j : Int) : (rgI i j).length = (j - i).toNat := by
  unfold rgI
  rw [List.length_map, List.length_range]
theorem g_kLR (h : 0 ≤ i ∧ j ≤ 16777216 ∧ i ≤ 16777216 ∧ 0 ≤ j) (k : qNew H (.lst ((rgI i j).map V.int)) Q) : kLR Q i j H := ⟨RgOk.of_le h.1 h.2.1 h.2.2.1 h.2.2.2, by rw [rgV_I]; exact k⟩
def kRev (K : PySem.W.Frag) (Q : VK) : VK := fun x H => ∃ a xs, x = .ref a ∧ SqL K H a xs ∧ qNew H (.lst xs.reverse) Q
theorem g_revL (k : te σ H (kRev K Q)) : tRevL K te σ H Q := k
theorem g_kRevI (h : SqL K H a (ns.map V.int)) (k : qNew H (.lst (ns.reverse.map V.int)) Q) : kRev K Q (.ref a) H := ⟨a, _, rfl, h, by rw [← List.map_reverse]; exact k⟩
theorem g_kRev (h : SqL K H a xs) (k : qNew H (.lst xs.reverse) Q) : kRev K Q (.ref a) H := ⟨a, xs, rfl, h, k⟩
end
/-! values -/
theorem g_I0 {g : Int → Int → V} (k : Q (g i j) H) : rI0 g (.int i) (.int j) H Q := ⟨i, j, rfl, rfl, k⟩
theorem g_I {C : Int → Int → Prop} {g : Int → Int → V} (h : C i j) (k : Q (g i j) H) : rI C g (.int i) (.int j) H Q := ⟨i, j, rfl, rfl, h, k⟩
theorem g_U {g : Int → V} (k : Q (g i) H) : rU g (.int i) H Q := ⟨i, rfl, k⟩
theorem g_eqI (k : Q (.bl (decide (i = j))) H) : rEq (.int i) (.int j) H Q := ⟨rfl, by rw [dci]; exact k⟩
theorem g_neI (k : Q (.bl (!decide (i = j))) H) : rNe (.int i) (.int j) H Q := ⟨rfl, by rw [dci]; exact k⟩
theorem dcb (a b : Bool) : decide (V.bl a = V.bl b) = decide (a = b) := by
  cases a <;> cases b <;> rfl
theorem g_eqB {c d : Bool} (k : Q (.bl (decide (c = d))) H) : rEq (.bl c) (.bl d) H Q := ⟨rfl, by rw [dcb]; exact k⟩
theorem g_neB {c d : Bool} (k : Q (.bl (!decide (c = d))) H) : rNe (.bl c) (.bl d) H Q := ⟨rfl, by rw [dcb]; exact k⟩
theorem g_eq (h : scal x y = true) (k : Q (.bl (decide (x = y))) H) : rEq x y H Q := ⟨h, k⟩
theorem g_ne (h : scal x y = true) (k : Q (.bl (!decide (x = y))) H) : rNe x y H Q := ⟨h, k⟩
theorem scal_ov : ∀ o u : Option Int, scal (ov o) (ov u) = true
  | none, none => rfl
  | none, some _ => rfl
  | some _, none => rfl
  | some _, some _ => rfl
theorem dco (o u : Option Int) : decide (ov o = ov u) = decide (o = u) := by
  cases o with
  | none => cases u <;> rfl
  | some a =>
    cases u with
    | none => rfl
    | some b => exact (dci a b).trans (by by_cases h : a = b <;> simp [h])
theorem g_eqO {o u : Option Int} (k : Q (.bl (decide (o = u))) H) : rEq (ov o) (ov u) H Q := ⟨scal_ov o u, by rw [dco]; exact k⟩
theorem g_neO {o u : Option Int} (k : Q (.bl (!decide (o = u))) H) : rNe (ov o) (ov u) H Q := ⟨scal_ov o u, by rw [dco]; exact k⟩
def qIsN : R2 := fun x y H Q => y = .non ∧ Q (.bl (decide (x = .non))) H
def qNotN : R2 := fun x y H Q => y = .non ∧ Q (.bl (!decide (x = .non))) H
theorem g_isNI (k : Q (.bl false) H) : qIsN (.int i) .non H Q := ⟨rfl, k⟩
theorem g_isNR (k : Q (.bl false) H) : qIsN (.ref a) .non H Q := ⟨rfl, k⟩
theorem g_isNN (k : Q (.bl true) H) : qIsN .non .non H Q := ⟨rfl, k⟩
theorem g_isNO {o : Option Int} (k : Q (.bl o.isNone) H) : qIsN (ov o) .non H Q := ⟨rfl, by rw [ov_none]; exact k⟩
theorem g_isN (k : Q (.bl (decide (x = .non))) H) : qIsN x .non H Q := ⟨rfl, k⟩
theorem g_notNI (k : Q (.bl true) H) : qNotN (.int i) .non H Q := ⟨rfl, k⟩
theorem g_notNR (k : Q (.bl true) H) : qNotN (.ref a) .non H Q := ⟨rfl, k⟩
theorem g_notNN (k : Q (.bl false) H) : qNotN .non .non H Q := ⟨rfl, k⟩
theorem g_notNO {o : Option Int} (k : Q (.bl o.isSome) H) : qNotN (ov o) .non H Q := ⟨rfl, by rw [ov_none, Option.not_isNone]; exact k⟩
theorem g_notN (k : Q (.bl (!decide (x = .non))) H) : qNotN x .non H Q := ⟨rfl, k⟩
def qPowc (i j r : Int) : R2 := fun x y H Q => x = .int i ∧ y = .int j ∧ Q (.int r) H
theorem g_powc {r : Int} (k : Q (.int r) H) : qPowc i j r (.int i) (.int j) H Q := ⟨rfl, rfl, k⟩
def qAnd1 : R2 := fun x y H Q => ∃ i, x = .int i ∧ y = .int 1 ∧ Q (.int (i % 2)) H
theorem g_and1 (k : Q (.int (i % 2)) H) : qAnd1 (.int i) (.int 1) H Q := ⟨i, rfl, rfl, k⟩
def qEqIs (K : PySem.W.Frag) : R2 := fun x y H Q => ∃ a b, ∃ ns ms : List Int, x = .ref a ∧ y = .ref b ∧ SqL K H a (ns.map V.int) ∧ SqL K H b (ms.map V.int) ∧ Q (.bl (decide (ns = ms))) H
def qNeIs (K : PySem.W.Frag) : R2 := fun x y H Q => ∃ a b, ∃ ns ms : List Int, x = .ref a ∧ y = .ref b ∧ SqL K H a (ns.map V.int) ∧ SqL K H b (ms.map V.int) ∧ Q (.bl (!decide (ns = ms))) H
theorem g_eqIs (h : SqL K H a (ns.map V.int)) (h2 : SqL K H b (ms.map V.int)) (k : Q (.bl (decide (ns = ms))) H) : qEqIs K (.ref a) (.ref b) H Q := ⟨a, b, ns, ms, rfl, rfl, h, h2, k⟩
theorem g_neIs (h : SqL K H a (ns.map V.int)) (h2 : SqL K H b (ms.map V.int)) (k : Q (.bl (!decide (ns = ms))) H) : qNeIs K (.ref a) (.ref b) H Q := ⟨a, b, ns, ms, rfl, rfl, h, h2, k⟩
def qInIs (K : PySem.W.Frag) : R2 := fun x y H Q => ∃ i p, ∃ ns : List Int, x = .int i ∧ y = .ref p ∧ SqL K H p (ns.map V.int) ∧ Q (.bl (decide (i ∈ ns))) H
theorem g_inIs (h : SqL K H a (ns.map V.int)) (k : Q (.bl (decide (i ∈ ns))) H) : qInIs K (.int i) (.ref a) H Q := ⟨i, a, ns, rfl, rfl, h, k⟩
def qCatI : R2 := fun x y H Q => ∃ l b, ∃ (ns ms : List Int), x = .ref l ∧ y = .ref b ∧ H l = some (.lst (ns.map V.int)) ∧ H b = some (.lst (ms.map V.int)) ∧ ns.length + ms.length ≤ 1000000 ∧ qNew H (.lst ((ns ++ ms).map V.int)) Q
theorem g_catI (h : H a = some (.lst (ns.map V.int))) (h2 : H b = some (.lst (ms.map V.int))) (l : ns.length + ms.length ≤ 1000000) (k : qNew H (.lst ((ns ++ ms).map V.int)) Q) : qCatI (.ref a) (.ref b) H Q := ⟨a, b, ns, ms, rfl, rfl, h, h2, l, k⟩
def qRepI : R2 := fun x y H Q => ∃ l k, ∃ ns : List Int, x = .ref l ∧ y = .int k ∧ H l = some (.lst (ns.map V.int)) ∧ (k < 1000000 ∧ -1000000 < k ∧ ns.length * k.toNat ≤ 1000000) ∧ qNew H (.lst ((List.replicate k.toNat ns).flatten.map V.int)) Q
theorem g_repI (h : H a = some (.lst (ns.map V.int))) (l : i < 1000000 ∧ -1000000 < i ∧ ns.length * i.toNat ≤ 1000000) (k : qNew H (.lst ((List.replicate i.toNat ns).flatten.map V.int)) Q) : qRepI (.ref a) (.int i) H Q := ⟨a, i, ns, rfl, rfl, h, l, k⟩
def qAddS : R2 := fun x y H Q => ∃ i j, x = .str i ∧ y = .str j ∧ i.length + j.length ≤ sizeLine ∧ Q (.str (i ++ j)) H
theorem g_addS {z w : Str} (l : z.length + w.length ≤ sizeLine) (k : Q (.str (z ++ w)) H) : qAddS (.str z) (.str w) H Q := ⟨z, w, rfl, rfl, l, k⟩
/-! calls of built-ins -/
def qIntI : List V → Hp → VK → Prop := fun xs H Q => ∃ i, xs = [.int i] ∧ Q (.int i) H
theorem g_intI (k : Q (.int i) H) : qIntI [.int i] H Q := ⟨i, rfl, k⟩
def qIntB : List V → Hp → VK → Prop := fun xs H Q => ∃ k, xs = [.bl k] ∧ Q (.int (if k then 1 else 0)) H
theorem g_intB {c : Bool} (k : Q (.int (if c then 1 else 0)) H) : qIntB [.bl c] H Q := ⟨c, rfl, k⟩
def qIntBA : List V → Hp → VK → Prop := fun xs H Q => ∃ k, xs = [.bl k] ∧ ∀ o : Int, 0 ≤ o → o ≤ 1 → (o = 1 ↔ k = true) → Q (.int o) H
theorem g_intBA {c : Bool} (k : ∀ o : Int, 0 ≤ o → o ≤ 1 → (o = 1 ↔ c = true) → Q (.int o) H) : qIntBA [.bl c] H Q := ⟨c, rfl, k⟩
def qMin2 : List V → Hp → VK → Prop := fun xs H Q => ∃ i j, xs = [.int i, .int j] ∧ Q (.int (min i j)) H
def qMax2 : List V → Hp → VK → Prop := fun xs H Q => ∃ i j, xs = [.int i, .int j] ∧ Q (.int (max i j)) H
theorem g_min2 (k : Q (.int (min i j)) H) : qMin2 [.int i, .int j] H Q := ⟨i, j, rfl, k⟩
theorem g_max2 (k : Q (.int (max i j)) H) : qMax2 [.int i, .int j] H Q := ⟨i, j, rfl, k⟩
def qAbs : List V → Hp → VK → Prop := fun xs H Q => ∃ i : Int, xs = [.int i] ∧ Q (.int (i.natAbs : Nat)) H
theorem g_abs (k : Q (.int (i.natAbs : Nat)) H) : qAbs [.int i] H Q := ⟨i, rfl, k⟩
def qLen (K : PySem.W.Frag) : List V → Hp → VK → Prop := fun xs H Q => ∃ p ys, xs = [.ref p] ∧ SqL K H p ys ∧ Q (.int ys.length) H
theorem g_len (h : SqL K H a xs) (k : Q (.int xs.length) H) : qLen K [.ref a] H Q := ⟨a, xs, rfl, h, k⟩
def qLenI (K : PySem.W.Frag) : List V → Hp → VK → Prop := fun xs H Q => ∃ p, ∃ ns : List Int, xs = [.ref p] ∧ SqL K H p (ns.map V.int) ∧ Q (.int ns.length) H
theorem g_lenI (h : SqL K H a (ns.map V.int)) (k : Q (.int ns.length) H) : qLenI K [.ref a] H Q := ⟨a, ns, rfl, h, k⟩
def qLenT (K : PySem.W.Frag) : List V → Hp → VK → Prop := fun xs H Q => ∃ p ys, xs = [.ref p] ∧ SqT K H p ys ∧ Q (.int ys.length) H
theorem g_lenT (h : SqT K H a xs) (k : Q (.int xs.length) H) : qLenT K [.ref a] H Q := ⟨a, xs, rfl, h, k⟩
def qList (K : PySem.W.Frag) : List V → Hp → VK → Prop := fun xs H Q => ∃ p ys, xs = [.ref p] ∧ SqL K H p ys ∧ qNew H (.lst ys) Q
theorem g_list (h : SqL K H a xs) (k : qNew H (.lst xs) Q) : qList K [.ref a] H Q := ⟨a, xs, rfl, h, k⟩
def qListT (K : PySem.W.Frag) : List V → Hp → VK → Prop := fun xs H Q => ∃ p ys, xs = [.ref p] ∧ SqT K H p ys ∧ qNew H (.lst ys) Q
theorem g_listT (h : SqT K H a xs) (k : qNew H (.lst xs) Q) : qListT K [.ref a] H Q := ⟨a, xs, rfl, h, k⟩
def qTuple (K : PySem.W.Frag) : List V → Hp → VK → Prop := fun xs H Q => ∃ p ys, xs = [.ref p] ∧ SqL K H p ys ∧ qNew H (.tup ys) Q
theorem g_tuple (h : SqL K H a xs) (k : qNew H (.tup xs) Q) : qTuple K [.ref a] H Q := ⟨a, xs, rfl, h, k⟩
theorem g_sum (h : SqL K H a (ns.map V.int)) (k : Q (.int ns.sum) H) : rSum K [.ref a] H Q := ⟨a, ns, rfl, h, k⟩
theorem g_any {bs : List Bool} (h : SqL K H a (bs.map V.bl)) (k : Q (.bl (bs.any id)) H) : rAny K [.ref a] H Q := ⟨a, bs, rfl, h, k⟩
theorem g_all {bs : List Bool} (h : SqL K H a (bs.map V.bl)) (k : Q (.bl (bs.all id)) H) : rAll K [.ref a] H Q := ⟨a, bs, rfl, h, k⟩
theorem g_max (h : SqL K H a (ns.map V.int)) (l : 0 < ns.length) (k : ∀ m, m ∈ ns → (∀ y, y ∈ ns → y ≤ m) → Q (.int m) H) : rMax K [.ref a] H Q := ⟨a, ns, rfl, h, l, k⟩
theorem g_min (h : SqL K H a (ns.map V.int)) (l : 0 < ns.length) (k : ∀ m, m ∈ ns → (∀ y, y ∈ ns → m ≤ y) → Q (.int m) H) : rMin K [.ref a] H Q := ⟨a, ns, rfl, h, l, k⟩
def qAnyI (K : PySem.W.Frag) : List V → Hp → VK → Prop := fun xs H Q => ∃ a, ∃ ns : List Int, xs = [.ref a] ∧ SqL K H a (ns.map V.int) ∧ Q (.bl (ns.any fun n => decide (n ≠ 0))) H
theorem g_anyI (h : SqL K H a (ns.map V.int)) (k : Q (.bl (ns.any fun n => decide (n ≠ 0))) H) : qAnyI K [.ref a] H Q := ⟨a, ns, rfl, h, k⟩
def qIsII : List V → Hp → VK → Prop := fun xs H Q => ∃ i, xs = [.int i, .ty "int"] ∧ Q (.bl true) H
def qIsIB : List V → Hp → VK → Prop := fun xs H Q => ∃ i, xs = [.int i, .ty "bool"] ∧ Q (.bl false) H
def qIsBB : List V → Hp → VK → Prop := fun xs H Q => ∃ i, xs = [.bl i, .ty "bool"] ∧ Q (.bl true) H
def qIsLL : List V → Hp → VK → Prop := fun xs H Q => ∃ a ys, xs = [.ref a, .ty "list"] ∧ H a = some (.lst ys) ∧ Q (.bl true) H
theorem g_isII (k : Q (.bl true) H) : qIsII [.int i, .ty "int"] H Q := ⟨i, rfl, k⟩
theorem g_isIB (k : Q (.bl false) H) : qIsIB [.int i, .ty "bool"] H Q := ⟨i, rfl, k⟩
theorem g_isBB {c : Bool} (k : Q (.bl true) H) : qIsBB [.bl c, .ty "bool"] H Q := ⟨c, rfl, k⟩
theorem g_isLL (h : H a = some (.lst xs)) (k : Q (.bl true) H) : qIsLL [.ref a, .ty "list"] H Q := ⟨a, xs, rfl, h, k⟩
/-! subscripts, slices, stores -/
def qIxI (K : PySem.W.Frag) : R2 := fun x y H Q => ∃ p, ∃ (ns : List Int) (i : Int), x = .ref p ∧ y = .int i ∧ SqL K H p (ns.map V.int) ∧ (0 ≤ i ∧ i < ns.length) ∧ Q (.int (gI ns i)) H
theorem g_ixI (h : SqL K H a (ns.map V.int)) (b : 0 ≤ i ∧ i < ns.length) (k : Q (.int (gI ns i)) H) : qIxI K (.ref a) (.int i) H Q := ⟨a, ns, i, rfl, rfl, h, b, k⟩
def qIx (K : PySem.W.Frag) : R2 := fun x y H Q => ∃ p xs i v, x = .ref p ∧ y = .int i ∧ SqL K H p xs ∧ atI xs i = some v ∧ Q v H
theorem g_ix (h : SqL K H a xs) (e : atI xs i = some v) (k : Q v H) : qIx K (.ref a) (.int i) H Q := ⟨a, xs, i, v, rfl, rfl, h, e, k⟩
def qIxT (K : PySem.W.Frag) : R2 := fun x y H Q => ∃ p xs i v, x = .ref p ∧ y = .int i ∧ SqT K H p xs ∧ atI xs i = some v ∧ Q v H
theorem g_ixT (h : SqT K H a xs) (e : atI xs i = some v) (k : Q v H) : qIxT K (.ref a) (.int i) H Q := ⟨a, xs, i, v, rfl, rfl, h, e, k⟩
def qIxLast (K : PySem.W.Frag) : R2 := fun x y H Q => ∃ p, ∃ ns : List Int, x = .ref p ∧ y = .int (-1) ∧ SqL K H p (ns.map V.int) ∧ ∃ i, ns.getLast? = some i ∧ Q (.int i) H
theorem g_ixLast (h : SqL K H a (ns.map V.int)) (e : ns.getLast? = some i) (k : Q (.int i) H) : qIxLast K (.ref a) (.int (-1)) H Q := ⟨a, ns, rfl, rfl, h, i, e, k⟩
def qSlI (K : PySem.W.Frag) : V → Option Int → Option Int → Hp → VK → Prop := fun x lo hi H Q => ∃ a, ∃ ns : List Int, x = .ref a ∧ SqL K H a (ns.map V.int) ∧ qNew H (.lst ((cutL ns lo hi).map V.int)) Q
theorem g_slI {lo hi : Option Int} (h : SqL K H a (ns.map V.int)) (k : qNew H (.lst ((cutL ns lo hi).map V.int)) Q) : qSlI K (.ref a) lo hi H Q := ⟨a, ns, rfl, h, k⟩
def qSl (K : PySem.W.Frag) : V → Option Int → Option Int → Hp → VK → Prop := fun x lo hi H Q => ∃ a xs, x = .ref a ∧ SqL K H a xs ∧ qNew H (.lst (cutV xs lo hi)) Q
theorem g_slA {lo hi : Option Int} (h : SqL K H a xs) (k : qNew H (.lst (cutV xs lo hi)) Q) : qSl K (.ref a) lo hi H Q := ⟨a, xs, rfl, h, k⟩
def qApp : V → List V → Hp → VK → Prop := fun x vs H Q => ∃ l y, x = .ref l ∧ vs = [y] ∧ ∃ xs L, Sts H (pto l (.lst xs) :: L) ∧ xs.length < sizeLine ∧ ∀ H', Sts H' (pto l (.lst (xs ++ [y])) :: L) → Q .non H'
theorem g_app (S : Sts H (pto a (.lst xs) :: L)) (l : xs.length < sizeLine) (k : ∀ H', Sts H' (pto a (.lst (xs ++ [y])) :: L) → Q .non H') : qApp (.ref a) [y] H Q := ⟨a, y, rfl, rfl, xs, L, S, l, k⟩
def qAppI : V → List V → Hp → VK → Prop := fun x vs H Q => ∃ l j, x = .ref l ∧ vs = [.int j] ∧ ∃ (ns : List Int) (L : List Asr), Sts H (pto l (.lst (ns.map V.int)) :: L) ∧ ns.length ≤ 1000000 ∧ ∀ H', Sts H' (pto l (.lst ((ns ++ [j]).map V.int)) :: L) → Q .non H'
theorem g_appI (S : Sts H (pto a (.lst (ns.map V.int)) :: L)) (l : ns.length ≤ 1000000) (k : ∀ H', Sts H' (pto a (.lst ((ns ++ [j]).map V.int)) :: L) → Q .non H') : qAppI (.ref a) [.int j] H Q := ⟨a, j, rfl, rfl, ns, L, S, l, k⟩
def qExt : V → List V → Hp → VK → Prop := fun x vs H Q => ∃ l b, x = .ref l ∧ vs = [.ref b] ∧ ∃ xs zs L, Sts H (pto l (.lst xs) :: L) ∧ H b = some (.lst zs) ∧ xs.length + zs.length ≤ sizeLine ∧ ∀ H', Sts H' (pto l (.lst (xs ++ zs)) :: L) → Q .non H'
theorem g_ext (S : Sts H (pto a (.lst xs) :: L)) (h : H b = some (.lst ys)) (l : xs.length + ys.length ≤ sizeLine) (k : ∀ H', Sts H' (pto a (.lst (xs ++ ys)) :: L) → Q .non H') : qExt (.ref a) [.ref b] H Q := ⟨a, b, rfl, rfl, xs, ys, L, S, h, l, k⟩
def qSetL : TSet := fun o i v H Q => ∃ p k, o = .ref p ∧ i = .int k ∧ ∃ xs L, Sts H (pto p (.lst xs) :: L) ∧ (0 ≤ k ∧ k < xs.length) ∧ ∀ H', Sts H' (pto p (.lst (xs.set k.toNat v)) :: L) → Q H'
theorem g_setL {R : Hp → Prop} (S : Sts H (pto a (.lst xs) :: L)) (b : 0 ≤ i ∧ i < xs.length) (k : ∀ H', Sts H' (pto a (.lst (xs.set i.toNat v)) :: L) → R H') : qSetL (.ref a) (.int i) v H R := ⟨a, i, rfl, rfl, xs, L, S, b, k⟩
def qSetI : TSet := fun o i v H Q => ∃ p k j, o = .ref p ∧ i = .int k ∧ v = .int j ∧ ∃ (ns : List Int) (L : List Asr), Sts H (pto p (.lst (ns.map V.int)) :: L) ∧ (0 ≤ k ∧ k < ns.length) ∧ ∀ H', Sts H' (pto p (.lst ((ns.set k.toNat j).map V.int)) :: L) → Q H'
theorem g_setI {R : Hp → Prop} (S : Sts H (pto a (.lst (ns.map V.int)) :: L)) (b : 0 ≤ i ∧ i < ns.length) (k : ∀ H', Sts H' (pto a (.lst ((ns.set i.toNat j).map V.int)) :: L) → R H') : qSetI (.ref a) (.int i) (.int j) H R := ⟨a, i, j, rfl, rfl, rfl, ns, L, S, b, k⟩
theorem isE_pos {α : Type} {l : List α} (h : (!l.isEmpty) = true) : 0 < l.length := by
  cases l with
  | nil => cases h
  | cons a b => simp
theorem isE_nil {α : Type} {l : List α} (h : (!l.isEmpty) = false) : l = [] := by
  cases l with
  | nil => rfl
  | cons a b => cases h
theorem g_yes {R : Bool → Hp → Prop} (k : R true H) : tYes σ H R := k
theorem g_wipe {σ2 : L2.St} {ws : List Nat} {P : Prop} (h : wipe σ2 ws = wipe σ ws) (k : P) : wipe σ2 ws = wipe σ ws ∧ P := ⟨h, k⟩
/-! truth -/
def kTru (K : PySem.W.Frag) (Q : Bool → Hp → Prop) : VK := fun x H => ∃ k, TruV K x H k ∧ Q k H
def tTruO (K : PySem.W.Frag) (ta : TE) : TT := fun σ H Q => ta σ H (kTru K Q)
section
variable {RB : Bool → Hp → Prop} {ta : TE}
theorem g_truO (k : ta σ H (kTru K RB)) : tTruO K ta σ H RB := k
theorem g_truN (k : RB false H) : kTru K RB .non H := ⟨_, rfl, k⟩
theorem g_truB {c : Bool} (k : RB c H) : kTru K RB (.bl c) H := ⟨_, rfl, k⟩
theorem g_truI (k : RB (!decide (i = 0)) H) : kTru K RB (.int i) H := ⟨_, rfl, by
  have e : (i != 0) = !decide (i = 0) := by by_cases h : i = 0 <;> simp [h]
  rw [e]
  exact k⟩
theorem isE_map {α β : Type} (f : α → β) (l : List α) : (l.map f).isEmpty = l.isEmpty := by cases l <;> rfl
theorem g_truIs (h : SqL K H a (ns.map V.int)) (k : RB (!ns.isEmpty) H) : kTru K RB (.ref a) H := ⟨_, .inl ⟨_, h, rfl⟩, by rw [isE_map]; exact k⟩
theorem g_truL (h : SqL K H a xs) (k : RB (!xs.isEmpty) H) : kTru K RB (.ref a) H := ⟨_, .inl ⟨_, h, rfl⟩, k⟩
end
end
/-! ### the rules in these readings -/
section
variable {X : Cx} {K : PySem.W.Frag}
theorem v_isN : OpR X (compareOp .Is) qIsN := op_isN
theorem v_notN : OpR X (compareOp .IsNot) qNotN := op_notN
theorem v_powc (i j r : Int) (h : CPow i j) (e : i ^ j.toNat = r) : OpR X (binaryOp .Pow) (qPowc i j r) := oc_powc i j r h e
theorem v_and1 : OpR X (binaryOp .BitAnd) qAnd1 := oc_and1
theorem v_eqIs (hK : X.K = K) (hu : X.A.units + 64 < cLine) : OpR X (compareOp .Eq) (qEqIs K) := oc_eq_ints hK hu
theorem v_neIs (hK : X.K = K) (hu : X.A.units + 64 < cLine) : OpR X (compareOp .NotEq) (qNeIs K) := oc_ne_ints hK hu
theorem v_inIs (hK : X.K = K) : OpR X (compareOp .In) (qInIs K) := oc_in_ints hK
theorem v_catI : OpR X (binaryOp .Add) qCatI := oc_catI
theorem v_repI : OpR X (binaryOp .Mult) qRepI := oc_repI
theorem v_addS : OpR X (binaryOp .Add) qAddS := op_add_str
theorem v_intI : CallR X (.type "int") qIntI := oc_int_i
theorem v_intB : CallR X (.type "int") qIntB := oc_int_b
theorem v_intBA : CallR X (.type "int") qIntBA := oc_int_bA
theorem v_min2 (hc : X.calm = true) : CallR X (.builtin "min") qMin2 := oc_min2 hc
theorem v_max2 (hc : X.calm = true) : CallR X (.builtin "max") qMax2 := oc_max2 hc
theorem v_abs : CallR X (.builtin "abs") qAbs := oc_abs
theorem v_len (hK : X.K = K) : CallR X (.builtin "len") (qLen K) := oc_len hK
theorem v_lenI (hK : X.K = K) : CallR X (.builtin "len") (qLenI K) := oc_lenI hK
theorem v_lenT (hK : X.K = K) : CallR X (.builtin "len") (qLenT K) := oc_lenT hK
theorem v_list (hK : X.K = K) : CallR X (.type "list") (qList K) := oc_list hK
theorem v_listT (hK : X.K = K) : CallR X (.type "list") (qListT K) := oc_listT hK
theorem v_tuple (hK : X.K = K) : CallR X (.type "tuple") (qTuple K) := oc_tuple hK
theorem v_anyI (hK : X.K = K) (hc : X.calm = true) : CallR X (.builtin "any") (qAnyI K) := oc_anyI hK hc
theorem v_max (hK : X.K = K) (hc : X.calm = true) : CallR X (.builtin "max") (rMax K) := hK ▸ cr_max hc
theorem v_min (hK : X.K = K) (hc : X.calm = true) : CallR X (.builtin "min") (rMin K) := hK ▸ cr_min hc
theorem v_isII : CallR X (.builtin "isinstance") qIsII := oc_isi_ii
theorem v_isIB : CallR X (.builtin "isinstance") qIsIB := oc_isi_ib
theorem v_isBB : CallR X (.builtin "isinstance") qIsBB := oc_isi_bb
theorem v_isLL : CallR X (.builtin "isinstance") qIsLL := oc_isi_ll
theorem v_ixI (hK : X.K = K) : IxR X (qIxI K) := oc_ixI hK
theorem v_ix (hK : X.K = K) : IxR X (qIx K) := oc_ix hK
theorem v_ixT (hK : X.K = K) : IxR X (qIxT K) := oc_ixT hK
theorem v_ixLast (hK : X.K = K) : IxR X (qIxLast K) := oc_ixLast hK
theorem v_slI (hK : X.K = K) : SlR X (qSlI K) := oc_slI hK
theorem v_sl (hK : X.K = K) : SlR X (qSl K) := oc_sl hK
theorem v_append : MtR X "list.append" qApp := oc_append
theorem v_appendI : MtR X "list.append" qAppI := oc_appendI
theorem v_extend : MtR X "list.extend" qExt := oc_extend
theorem v_setL : PSet X qSetL := oc_setL
theorem v_setI : PSet X qSetI := oc_setI
theorem v_truth {a : Expr} {ta : TE} (hK : X.K = K) (ha : PE X a ta) (he : ∀ whole, isTrue a X.env whole = (do let v ← whole; standAt a.pos; holding [v] (truthy v))) : PT X a (tTruO K ta) := hK ▸ pt_truth ha he
theorem v_call_eq {sp : Sp} {t : TA} : tCall sp [] E0 t = tCallX sp t := by
  funext σ H Q
  unfold tCall tCallX
  congr
  funext vs H1
  rw [List.append_nil]
theorem v_call {e : Expr} {es : List Expr} {p pos : Pos} {x : Str} {k : Nat} {f : Addr} {fd : FuncData} {ps : List Str} {sp : Sp} {t : TA} (F : FnOk X.prog X.w X.K X.mg X.base CX0 k f fd ps sp) (hr : Room k X.A) (hg : Gl X x) (hm : X.mg x = some (.ref f)) (kp : PySem.W.keepIn X.K (.ref f) = true) (hb : Binds X.K fd ps []) (ha : PA X (e :: es) t)
    (hdb : (x == ("__debug__" : Str)) = false := by decide) (he : starEach (e :: es) X.env = (false, eval e X.env) :: starEach es X.env := by rfl) (hpl : (backTo pos (starEach es X.env)).any (·.1) = false := by rfl) : PE X (.Call (.Name x p) (e :: es) [] pos) (tCallX sp t) := by
  rw [← v_call_eq]
  exact pe_call F hr hg hm kp hb .nil pass0 ha hdb he hpl
theorem v_call0 {p pos : Pos} {x : Str} {k : Nat} {f : Addr} {fd : FuncData} {ps : List Str} {sp : Sp} (F : FnOk X.prog X.w X.K X.mg X.base CX0 k f fd ps sp) (hr : Room k X.A) (hg : Gl X x) (hm : X.mg x = some (.ref f)) (kp : PySem.W.keepIn X.K (.ref f) = true) (hb : Binds X.K fd ps [])
    (hdb : (x == ("__debug__" : Str)) = false := by decide) : PE X (.Call (.Name x p) [] [] pos) (tCallX sp tNil) := by
  rw [← v_call_eq]
  exact pe_call0 F hr hg hm kp hb .nil pass0 hdb
end
end Oc
/-! ### own exceptions whose __init__ begins with super().__init__(..) -/
namespace Oc
open PySem PySem.Spec PyProof.Rows L2 NdefX PySem.W PySem.Calls
/-- what the written part says: C inherits the __init__ of D's class body, whose super() finds ValueError.__init__ -/
structure SupC (K : PySem.W.Frag) (D C : Addr) : Prop where
  oex : OexC K C
  sub : mroIn K C (.ref D) = some true
  fnd : ks_superIn K C D "__init__" = some (some (.builtin "ValueError.__init__"))
  isV : subIn K (.ref C) (.type "ValueError") = some true
  any : nsIn K cStatics "thirdparty.any" = some none
  bmB : ∃ nm q N bs bm sn sub ab col dd k0 k1 k2 k3 k5, K.lookup C = some (excClassObj nm q C N bs bm true sn sub ab col dd k0 k1 k2 k3 k5 "ValueError.__new__")
/-- .. of the def at f: its cell __class__ holds D, its code's file is the program's -/
structure SupF (P : Program) (K : PySem.W.Frag) (mg : Str → Option Value) (f : Addr) (F : NF) (D cc : Addr) : Prop where
  cl : F.cl = [(("__class__" : Str), cc)]
  cell : ∃ cl cld csl, K.lookup cc = some ⟨cl, cld, .cell (some (.ref D)), csl⟩
  isD : ∃ cdD, clsIn K D = some cdD
  file : ∃ ccl cdd vs ccs file tf, K.lookup F.c = some ⟨ccl, cdd, .fields vs, ccs⟩ ∧ vs[2]? = some (.str file tf) ∧ ((P.main.file : Str) == file) = true
  sup : mg "super" = none
  ks : F.scope.names.lookup ("super" : Str) = some .globalImplicit
  kc : F.scope.names.lookup ("__class__" : Str) = some .free
  htop : (P.main.scope.names.lookup ("super" : Str)).isSome = false
section
variable {X : Cx} {pins : List (Addr × Obj)} {σ : L2.St} {H : Hp} {s : Shared}
/-- ValueError.__init__, bound to an exception that is being made, called -/
theorem call_boundVE {a C u : Addr} {us : List Value} {Q : Value → Shared → Prop} {E : Value → Shared → Prop} (T : OexC X.K C) (I : Inv X pins σ H s) (e : H a = some (exo a C none)) (hu : s.heap.get? u = some (kxs_mw "ValueError.__init__" a)) (hl : us.length ≤ sizeLine)
    (q : ∀ s', Inv X pins σ H s' → Q .none s') : wpAny (model X.prog X.w) X.A (call (.ref u) us) Q E s := by
  obtain ⟨nm, qn, N, bs, bm, sn, sub, ab, col, dd, k0, k1, k2, k3, k5, hC, _⟩ := T.cls
  have hC := I.kIn _ _ hC
  obtain ⟨t1, ho⟩ := exo_at I.hok e
  obtain ⟨hp, g, d, tk, os⟩ := s
  refine wpAny_call (codeAny_of_tree (wpAny_bind (m := load u) (wpAny_load hu ?_)))
  show wpAny _ _ (checkBoundCall "ValueError.__init__" ⟨.ref a :: us, []⟩ >>= fun _ => again (.builtin "ValueError.__init__" ⟨.ref a :: us, []⟩)) _ _ _
  have F := PySem.F.excBase_ValueError
  refine wpAny_bind (check_bound_init F.toExcCallFacts hC ho rfl (wpAny_pure ⟨plainId_quiet F.init.plain _, codeAny_builtin F.initEntry (exc_init_tree (cls := .ref C) (t0 := t1) (dv := none) (c2 := .none) (c3 := .none) (b4 := .bool false) ho hl fun h' k e' _ => ?_)⟩))
  have J := I.write (t' := tk) (x := a) (e := a) (o := exo a C none) (by rw [e]; exact True.intro) (.inl rfl) k ⟨_, e'⟩ (exo_ok e')
  rw [show upd H a (exo a C none) = H from funext fun b => by
    by_cases z : b = a
    · rw [z, upd_same, e]
    · rw [upd_ne z]] at J
  exact q _ J
/-- what super().__init__(es) does once the super object stands at so: the __init__ found behind D is called; at the end R, whatever it gave -/
def SupRun (X : Cx) (σ : L2.St) (H : Hp) (D a C : Addr) (pos : Pos) (pl : Sem Bool) (es : List Expr) (R : Hp → Prop) : Prop :=
  ∀ (s : Shared) (so : Addr), Inv X [] σ H s → s.heap.get? so = some (ks_superObj D a C) →
    wpAny (model X.prog X.w) X.A (getMethod (.ref so) "__init__" pl) (fun p s1 => wpAny (model X.prog X.w) X.A (callWith pos p.1 p.2 (backTo pos (starEach es X.env)) []) (fun _ s2 => ∃ H2, Inv X [] σ H2 s2 ∧ R H2) X.xe s1) X.xe s
/-- a new object that only the call holds: it is pinned -/
theorem pinNew (o : Obj) (tk : Nat) (I : Inv X [] σ H s) (nc : ∀ v, o.data ≠ .cell v) (nf : o.isFreed = false) : Inv X [(s.heap.objs.size, o)] σ H { s with heap := s.heap.push o, toks := tk } := by
  have J : Inv X [] σ H { s with heap := s.heap.push o, toks := tk } := I.kept fun b u z => Heap.get?_push_of_some _ z
  refine J.pins_of fun p hp => ?_
  obtain rfl := List.mem_singleton.mp hp
  exact ⟨Heap.get?_push_size _ nf, I.hok.fresh (Nat.le_refl _), Nat.ne_of_gt I.lt, I.nofs (Nat.le_refl _), nc⟩
theorem unpin {ps : List (Addr × Obj)} (I : Inv X ps σ H s) : Inv X [] σ H s := I.pins_of fun _ hp => nomatch hp
section
variable {D a C : Addr} {pos : Pos} {pl : Sem Bool} {e : Expr} {es : List Expr} {te : TA} {R : Hp → Prop}
/-- .. of a class behind which ValueError.__init__ is found -/
theorem supRun_VE (S : SupC X.K D C) (ea : H a = some (exo a C none)) (pa : PA X (e :: es) te) (hse : starEach (e :: es) X.env = (false, eval e X.env) :: starEach es X.env) (hpl : (backTo pos (starEach es X.env)).any (·.1) = false)
    (h : te σ H fun us H1 => us.length ≤ 1000 ∧ H1 a = some (exo a C none) ∧ R H1) : SupRun X σ H D a C pos pl (e :: es) R := by
  intro s so I hso
  obtain ⟨t1, hx⟩ := exo_at I.hok ea
  obtain ⟨cd, hc, hf⟩ := Option.bind_eq_some_iff.mp S.fnd
  have inst : PySem.W.InstAt s.heap a _ C none := ⟨hx, rfl, rfl, trivial⟩
  obtain ⟨hp, g, d, tk, os⟩ := s
  refine kxs_getMethod kxs_ValueError hso (looks_opaque I.kIn S.any) (fun A Q E s k q => wpAny_bind (looks_clsIn I.kIn hc A _ E s k (wpAny_pure q))) rfl I.kIn hf (inst.type.andThen (looks_subIn I.kIn S.isV)) (ks_ne I.kIn inst hc) (by decide) ?_
  have run := pa.run pos _ _ _ H _ (pinNew (kxs_mw "ValueError.__init__" a) (tk + 1) I (fun v z => nomatch z) rfl) h
  show wpAny _ _ (callWith pos (.ref hp.objs.size) [] (backTo pos (starEach (e :: es) X.env)) []) _ _ _
  rw [hse] at run ⊢
  refine kxs_callWith (i := "ValueError.__init__") (x := a) hpl (evalArgs_plain (thn run fun ws s1 ⟨us, H1, J, rv, hl, e1, r⟩ => ?_))
  have hu := (J.pin _ (List.mem_append_right _ (List.mem_singleton_self _))).1
  exact ⟨hu, call_boundVE S.oex (unpin J) e1 hu (by show ws.length ≤ sizeLine; rw [← Paired.length rv, sizeLine_eq]; omega) fun s2 J2 => ⟨H1, J2, r⟩⟩
end
end
section
variable {CX : CXT} {P : Program} {w : World} {K : PySem.W.Frag} {mg : Str → Option Value} {base : Heap} {N ps : List Str} {F : NF} {f D cc : Addr} {k : Nat} {sp : Sp}
/-- the cells of such a def: __class__ alone, which holds D -/
theorem cellsSup {s : Shared} {H : Hp} {cl : Value} {cld : Option Addr} {csl : Array (Option Value)} (ecl : F.cl = [(("__class__" : Str), cc)]) (hcc : s.heap.get? cc = some ⟨cl, cld, .cell (some (.ref D)), csl⟩) (hn : H cc = none) : CellsAt F.cl [("__class__" : Str)] [some (.ref D)] s.heap H := by
  rw [ecl]
  have one : ∀ {y c}, List.lookup y [(("__class__" : Str), cc)] = some c → y = "__class__" ∧ c = cc := fun {y c} e => by
    simp only [List.lookup] at e
    split at e
    · rename_i z
      exact ⟨eq_of_beq z, (Option.some.inj e).symm⟩
    · cases e
  refine ⟨rfl, fun y c e => ?_, fun x y c e1 e2 => (one e1).1.trans (one e2).1.symm, fun i y e => ?_⟩
  · obtain ⟨_, rfl⟩ := one e
    exact ⟨hn, _, _, hcc, rfl⟩
  · cases i with
    | succ i => cases e
    | zero =>
      cases e
      refine ⟨cc, by simp [List.lookup], fun v ev => ⟨.ref D, ?_, _, hcc, rfl⟩⟩
      cases ev
      rfl
/-- a def that begins with super().__init__(..) -/
theorem fn_sup {oc dV kV doc pm ct : Value} {od an : Option Addr} {osl : Array (Option Value)} {ar : Arg} {e : Expr} {es : List Expr} {rest : List Stmt} {p0 p1 p2 pos pos0 : Pos}
    (lk : K.lookup f = some ⟨oc, od, .func (fnX F.name F.qual F.params F.body F.scope F.cl dV kV doc pm an (.ref F.c) ct), osl⟩) (hcd : codeIn K (.ref F.c) F.qual = true)
    (S : NScope N ps [("__class__" : Str)] F.scope) (T : SupF P K mg f F D cc) (hp : (F.params.posonlyargs ++ F.params.args).head? = some ar) (ha : ps[0]? = some ar.arg)
    (hb : F.body = .Expr (.Call (.Attribute (.Call (.Name "super" p0) [] [] p1) "__init__" p2) (e :: es) [] pos) pos0 :: rest)
    (pl : Addr → Sem Bool) (hev : ∀ L, eval (.Call (.Attribute (.Call (.Name "super" p0) [] [] p1) "__init__" p2) (e :: es) [] pos) (envF F f L) = (do
      let ov ← attributeBase (.Call (.Name "super" p0) [] [] p1) "__init__" (envF F f L) (eval (.Call (.Name "super" p0) [] [] p1) (envF F f L))
      standAt p2.atName
      let (g, first) ← holding [ov] (getMethod ov "__init__" (pl L))
      callWith pos g first (backTo pos (starEach (e :: es) (envF F f L))) []))
    (hsw : ∀ L, swapsWith (.Call (.Attribute (.Call (.Name "super" p0) [] [] p1) "__init__" p2) (e :: es) [] pos) none pos0.line (envF F f L) = pure false)
    (len : ∀ vs H Q E, sp vs H Q E → vs.length = ps.length)
    (hbody : ∀ (A : Around) (outer : List Env) (s : Shared) (H : Hp) (vs : List V) (Q : VK) (E : XK), Room k (A.deeper (envF F f s.heap.objs.size)) → sp vs H Q E →
      ∃ (a C : Addr) (vr : List V) (t : TS) (R : Hp → Prop), vs = .ref a :: vr ∧ mroIn K C (.ref D) = some true ∧ H a = some (exo a C none) ∧ PSs (ncx CX P w K mg base N F f A outer s H E) rest t ∧
        SupRun (ncx CX P w K mg base N F f A outer s H E) (startF N vs [some (.ref D)]) H D a C pos (pl s.heap.objs.size) (e :: es) R ∧ ∀ H1, R H1 → t { nx := fun _ H' => Q .non H', rt := Q } (startF N vs [some (.ref D)]) H1) :
    FnOk P w K mg base CX (k + 1) f (fnX F.name F.qual F.params F.body F.scope F.cl dV kV doc pm an (.ref F.c) ct) ps sp := by
  refine ⟨len, fun A outer s H args us vs Q E hr e0 hbd r hsp => ?_⟩
  obtain ⟨a, C, vr, t, R, rfl, hsub, ea, pss, sup, hq⟩ := hbody A outer s H vs Q E (hr.deeper _) hsp
  have up : K.In s.heap := e0.mod.kin.keeps fun b o e => (e0.bs b o e).1
  obtain ⟨cl, cld, csl, hcc⟩ := T.cell
  have cells := cellsSup T.cl (up _ _ hcc) (e0.bs _ _ (e0.mod.kin _ _ hcc)).2
  have us0 : us[0]? = some (.ref a) := by
    cases r with
    | cons r0 _ => exact congrArg some r0
  have nps : ps.Nodup := by
    have z := S.pre ▸ S.nd.sublist (List.take_sublist _ N)
    exact (List.nodup_append.mp z).1
  refine ks_codeAny_call_defAt (body := F.body) (binds := ps.zip us) hr.depth (up _ _ lk) rfl (e0.mod.nolimit.keeps fun b o e => (e0.bs b o e).1) (codeRec_of up hcd) rfl hbd S.nocell (fun y hy => S.par y.1 (List.of_mem_zip hy).1) (fun h1 hns kp => ?_) S.co S.gen S.kind
  have I : Inv (ncx CX P w K mg base N F f A outer s H E) [] (startF N (.ref a :: vr) [some (.ref D)]) H { s with heap := h1, toks := s.toks + (ps.zip us).length } := inv_startN S hr.hd e0 (len _ _ _ _ hsp) r cells hns kp
  have K1 : K.In h1 := I.kIn
  obtain ⟨ccl, cdd, cvs, ccs, file, tf, hco, hv, hfile⟩ := T.file
  obtain ⟨cdD, hD⟩ := T.isD
  obtain ⟨oD, gD, dD⟩ : ∃ o, h1.get? D = some o ∧ o.data = .cls cdD := by
    unfold clsIn at hD
    split at hD
    · rename_i z
      cases hD
      exact ⟨_, K1 _ _ z, rfl⟩
    · cases hD
  obtain ⟨_, b1, b2⟩ := e0.mod.blt
  obtain ⟨t1, hx⟩ := exo_at I.hok ea
  show _root_.PySem.wpAt (model P w) (A.deeper (envF F f s.heap.objs.size)) (.func F.body (envF F f s.heap.objs.size)) (execs F.body (envF F f s.heap.objs.size)) _ _ _
  rw [hb]
  refine ks_wpAt_execs_cons (ks_wpAt_Expr_any (ks_wpAt_MethodCall (pl := pl _) (ks_wpAt_super_base (f := f) (cc := F.c) (ar := ar) (file := file) (tf := tf) T.ks T.kc (by decide) rfl (kp _ _ (up _ _ lk)) rfl hp rfl (K1 _ _ hco) rfl hv hfile T.htop
    (ks_loadName_global S.kind T.ks (loadGlobal_builtin (I.mod.glob.keeps I.bk) T.sup (b1.keeps I.bk) ((b2 _ (by decide)).trans (by rfl)) ⟨rfl, wpAny_loadName_free S.kind T.kc (by show F.cl.lookup _ = some cc; rw [T.cl]; simp [List.lookup]) ⟨_, K1 _ _ hcc, rfl⟩
      (wpAny_loadName_local S.kind (S.par _ (List.mem_of_getElem? ha)) hns (zip_look nps ha us0) (ks_wpAny_isType_cls gD dD ⟨rfl, ?_⟩))⟩))) (hev _)) I.quiet (hsw _))
  obtain ⟨hh, gg, dd, tt, oss⟩ := s
  refine ks_wpAny_call_super gD dD hx rfl (fun c z => nomatch z) (looks_mroIn K1 hsub) fun h2 hso k2 => ?_
  refine wpAny_mono (sup _ _ (I.kept (t' := tt + (ps.zip us).length) k2) hso) (fun p s3 h3 => wpAny_mono h3 (fun u s4 h4 => ?_) fun _ _ z => z) fun _ _ z => z
  obtain ⟨H4, J, r4⟩ := h4
  refine wpAt_of_wpAny (wpAny_mono (pss.run [] _ _ H4 _ J (hq H4 r4)) (fun fl s5 h5 => ?_) fun _ _ z => z)
  match fl, h5 with
  | .ret u, ⟨v, _, H5, J5, rv, q⟩ => exact ⟨v, H5, J5.os, J5.bare, J5.base, J5.hok, rv, q⟩
  | .next, ⟨_, H5, J5, q⟩ => exact ⟨.non, H5, J5.os, J5.bare, J5.base, J5.hok, rfl, q⟩
  | .brk, ⟨_, _, _, q⟩ => exact q.elim
  | .cont, ⟨_, _, _, q⟩ => exact q.elim
end
end Oc
/-! ### own classes: fields by chunks, + and == by an own method -/
namespace Oc
open PySem PySem.Spec PyProof.Rows L2
section
variable {X : Cx} {o e value a b : Expr} {f : Str} {pos pos' : Pos} {ta tb tv : TE} {C : Addr}
def FldAt (C : Addr) (f : Str) (H : Hp) (p : Addr) (v : V) : Prop := ∃ dx fs, H p = some (.ins C dx fs) ∧ fs.lookup f = some v
theorem fldAt_of {H : Hp} {p dx : Addr} {fs : List (Str × V)} {L : List Asr} {v : V} (S : Sts H (pto p (.ins C dx fs) :: L)) (l : fs.lookup f = some v) : FldAt C f H p v := ⟨dx, fs, S.hd, l⟩
/-- e.f -/
def tFldO (C : Addr) (f : Str) (ta : TE) : TE := fun σ H Q => ta σ H fun x H1 => ∃ p v, x = .ref p ∧ FldAt C f H1 p v ∧ Q v H1
theorem oc_fld (c : Cls X.K C) (n : NoAttr X.K C f) (he : PE X e ta) (hb : attributeBase e f X.env (eval e X.env) = eval e X.env := by rfl) : PE X (.Attribute e f pos) (tFldO C f ta) := 
  ⟨fun pn s σ H Q J h => (pe_fld (pe_up he) hb).run pn s σ H Q J ⟨_, h, fun _ _ ⟨p, v, ex, ⟨dx, fs, hp, l⟩, q⟩ => ⟨p, C, dx, fs, v, ex, hp, c, n, l, q⟩⟩⟩
/-- o.m(..) -/
def IsIns (C : Addr) (m : Str) (H : Hp) (p : Addr) : Prop := ∃ dx fs, H p = some (.ins C dx fs) ∧ fs.lookup m = none
def tMethO (C : Addr) (m : Str) (sp : Sp) (ta : TE) (t : TA) : TE := fun σ H Q => ta σ H fun x H1 => ∃ p, x = .ref p ∧ IsIns C m H1 p ∧ t σ H1 fun vs H2 => sp (.ref p :: vs) H2 Q E0
/-- o.f = value -/
def sFldO (C : Addr) (f : Str) (ta tv : TE) : TS := fun D σ H => tv σ H fun y H1 => ta σ H1 fun x H2 => ∃ p, x = .ref p ∧ ∃ dx fs L, Sts H2 (pto p (.ins C dx fs) :: L) ∧ fs.length ≤ 100 ∧ ∀ H', Sts H' (pto p (.ins C dx (putF f y fs)) :: L) → D.nx σ H'
theorem oc_fldset (c : Cls X.K C) (n : NoAttr X.K C f) (ha : PE X o ta) (hv : PE X value tv) (hs : swapsWith value (some (.Attribute o f pos')) pos.line X.env = pure false := by rfl) :
    PS X (.Assign [.Attribute o f pos'] value pos) (sFldO C f ta tv) := 
  ⟨fun pn s σ H D J h => (ps_fld (pe_up ha) (pe_up hv) hs).run pn s σ H D J ⟨_, h, fun y H1 h1 => ⟨_, h1, fun x H2 ⟨p, ex, dx, fs, L, S, hl, q⟩ => ⟨p, C, dx, fs, ex, S.hd, c, n, by omega, q _ (S.put _)⟩⟩⟩⟩
/-- an exception never leaves -/
theorem noPass {P : Program} {w : World} {X : Cx} {σ : L2.St} : PassesAt (L2.CX P w) X σ (fun _ _ _ => False) := fun _ _ _ _ _ _ ⟨_, _, _, _, _, _, _, _, _, _, _, _, z⟩ => z.elim
/-- run an own method of a on (a, b) -/
theorem run2 {CX : CXT} {k : Nat} {g : Addr} {fd : FuncData} {ps : List Str} {sp : Sp} {E : L2.St → XK} {pins : List (Addr × Obj)} {σ : L2.St} {H : Hp} {s : Shared} {Q : VK} {p q : Addr} (F : FnOk X.prog X.w X.K X.mg X.base CX k g fd ps sp) (hr : Room k X.A) (hb : Binds X.K fd ps [])
    (hx : PassesAt CX X σ (E σ)) (I : Inv X pins σ H s) (h : sp [.ref p, .ref q] H Q (E σ)) : wpAny (model X.prog X.w) X.A (call (.ref g) [.ref p, .ref q]) (PySem.W.CmpBack (EP X pins σ Q)) X.xe s :=
  wpAny_mono (run_fnS F hr hb hx I (.cons (show L2.RelV (.ref p) (.ref p) from rfl) (.cons (show L2.RelV (.ref q) (.ref q) from rfl) .nil)) h) (fun u s' z => by
    obtain ⟨v, H', J, rv, q⟩ := z
    cases v with
    | non => cases rv; exact ⟨.non, H', J, rfl, q⟩
    | bl i => cases rv; exact ⟨.bl i, H', J, rfl, q⟩
    | int i => obtain ⟨t, rfl⟩ := rv; exact ⟨.int i, H', J, ⟨t, rfl⟩, q⟩
    | str i => obtain ⟨t, rfl⟩ := rv; exact ⟨.str i, H', J, ⟨t, rfl⟩, q⟩
    | byt i => obtain ⟨t, rfl⟩ := rv; exact ⟨.byt i, H', J, ⟨t, rfl⟩, q⟩
    | flt i => obtain ⟨t, rfl⟩ := rv; exact ⟨.flt i, H', J, ⟨t, rfl⟩, q⟩
    | ref i => cases rv; exact ⟨.ref i, H', J, rfl, q⟩
    | ty i => cases rv; exact ⟨.ty i, H', J, rfl, q⟩) fun _ _ z => z
/-- a + b, a == b by the own method of a's class; b of that class too -/
def tOwn2 (C : Addr) (sp : Sp) (E : L2.St → XK) (ta tb : TE) : TE := fun σ H Q => ta σ H fun x H1 => tb σ H1 fun y H2 => ∃ p q, x = .ref p ∧ y = .ref q ∧ (∃ dx fs, H2 p = some (.ins C dx fs)) ∧ (∃ dx fs, H2 q = some (.ins C dx fs)) ∧ sp [.ref p, .ref q] H2 Q (E σ)
theorem ins_at {pins : List (Addr × Obj)} {σ : L2.St} {H : Hp} {s : Shared} {p dx : Addr} {fs : List (Str × V)} (I : Inv X pins σ H s) (h : H p = some (.ins C dx fs)) : ∃ od, PySem.W.InstAt s.heap p (PySem.W.instObj C dx) C (some od) := by
  obtain ⟨mA, J, _⟩ := ins_get I.hok h
  obtain ⟨od, J, _⟩ := J.look
  exact ⟨od, J⟩
theorem oc_addOwn {CX : CXT} {k : Nat} {g : Addr} {fd : FuncData} {ps : List Str} {sp : Sp} {E : L2.St → XK} (hc : PySem.W.selfFirst X.K C = true) (hs : PySem.W.findIn X.K (.ref C) "__add__" = some (some (.ref g))) (hf : PySem.W.isFn X.K (.ref g) = true)
    (F : FnOk X.prog X.w X.K X.mg X.base CX k g fd ps sp) (hr : Room k X.A) (hb : Binds X.K fd ps []) (hx : ∀ σ, PassesAt CX X σ (E σ)) (ha : PE X a ta) (hb2 : PE X b tb) : PE X (.BinOp a .Add b pos) (tOwn2 C sp E ta tb) := by
  refine ⟨fun pn s0 σ H Q J h => wpAny_BinOp (thn (ha.run pn s0 σ H _ J h) fun u s1 ⟨x, H1, J1, rx, q1⟩ => thn (hb2.run pn s1 σ H1 _ J1 q1) fun v s2 ⟨y, H2, J2, ry, p, q, ex, ey, ⟨dx, fs, e1⟩, ⟨dy, gs, e2⟩, h2⟩ => ?_)⟩
  subst ex ey
  obtain rfl : u = Value.ref p := rx
  obtain rfl : v = Value.ref q := ry
  obtain ⟨m, fr⟩ := J2.fr
  obtain ⟨od, i1⟩ := ins_at J2 e1
  obtain ⟨od2, i2⟩ := ins_at J2 e2
  exact PySem.W.binop_K (op := .Add) fr J2.ok.mod.kin i1 i2.type hc hs hf (run2 F hr hb (hx σ) J2 h2)
theorem oc_eqOwn {k : Nat} {g : Addr} {fd : FuncData} {ps : List Str} {sp : Sp} (hs : PySem.W.findIn X.K (.ref C) "__eq__" = some (some (.ref g))) (hf : PySem.W.isFn X.K (.ref g) = true)
    (F : FnOk X.prog X.w X.K X.mg X.base CX0 k g fd ps sp) (hr : Room k X.A) (hb : Binds X.K fd ps []) :
    OpR X (compareOp .Eq) (fun x y H Q => ∃ p q, x = .ref p ∧ y = .ref q ∧ (∃ dx fs, H p = some (.ins C dx fs)) ∧ (∃ dx fs, H q = some (.ins C dx fs)) ∧ sp [.ref p, .ref q] H Q E0) := by
  intro pn s2 σ H2 x y u v Q J2 rx ry ⟨p, q, ex, ey, ⟨dx, fs, e1⟩, ⟨dy, gs, e2⟩, h2⟩
  subst ex ey
  obtain rfl : u = Value.ref p := rx
  obtain rfl : v = Value.ref q := ry
  obtain ⟨m, fr⟩ := J2.fr
  obtain ⟨od, i1⟩ := ins_at J2 e1
  obtain ⟨od2, i2⟩ := ins_at J2 e2
  have un : X.A.units < cLine := by
    have := hr.un
    omega
  exact PySem.W.cmp_K (op := .Eq) (tb := .ref C) un fr J2.ok.mod.kin i1 i2.type (by simp [PySem.W.notFirst]) hs hf (run2 (E := fun _ => E0) F hr hb (fun _ _ _ _ _ _ z => z.elim) J2 h2)
theorem tMethO_eq {m : Str} {sp : Sp} {t : TA} : tMethO C m sp ta t = tMeth C m sp [] E0 ta t := by
  funext σ H Q
  unfold tMethO tMeth
  congr
  funext x H1
  refine propext ⟨fun ⟨p, e, ⟨dx, fs, h, l⟩, q⟩ => ⟨p, dx, fs, e, h, l, ?_⟩, fun ⟨p, dx, fs, e, h, l, q⟩ => ⟨p, e, ⟨dx, fs, h, l⟩, ?_⟩⟩
  · subst e
    simpa only [List.append_nil] using q
  · subst e
    simpa only [List.append_nil] using q
theorem oc_meth {m : Str} {g : Addr} {k : Nat} {fd : FuncData} {ps : List Str} {sp : Sp} {e1 : Expr} {es : List Expr} {t : TA} {apos : Pos} {pl : Sem Bool} (he : PE X o ta) (c : Cls X.K C) (hm : Meth X.K C m g) (F : FnOk X.prog X.w X.K X.mg X.base CX0 k g fd ps sp) (hr : Room k X.A) (hb : Binds X.K fd ps []) (ha : PA X (e1 :: es) t)
    (hst : starEach (e1 :: es) X.env = (false, eval e1 X.env) :: starEach es X.env := by rfl) (hpl : (backTo pos (starEach es X.env)).any (·.1) = false := by rfl)
    (ht : eval (.Call (.Attribute o m apos) (e1 :: es) [] pos) X.env = (do
      let ov ← eval o X.env
      standAt apos.atName
      let (f, first) ← holding [ov] (getMethod ov m pl)
      callWith pos f first (backTo pos (starEach (e1 :: es) X.env)) (backToKw pos (keywordEach [] X.env))) := by rfl) :
    PE X (.Call (.Attribute o m apos) (e1 :: es) [] pos) (tMethO C m sp ta t) := by
  rw [tMethO_eq]
  exact pe_meth (E := E0) he c hm F hr hb .nil pass0 ha hst hpl ht
theorem oc_meth0 {m : Str} {g : Addr} {k : Nat} {fd : FuncData} {ps : List Str} {sp : Sp} {apos : Pos} {pl : Sem Bool} (he : PE X o ta) (c : Cls X.K C) (hm : Meth X.K C m g) (F : FnOk X.prog X.w X.K X.mg X.base CX0 k g fd ps sp) (hr : Room k X.A) (hb : Binds X.K fd ps [])
    (ht : eval (.Call (.Attribute o m apos) [] [] pos) X.env = (do
      let ov ← eval o X.env
      standAt apos.atName
      let (f, first) ← holding [ov] (getMethod ov m pl)
      callWith pos f first (backTo pos (starEach [] X.env)) (backToKw pos (keywordEach [] X.env))) := by rfl) :
    PE X (.Call (.Attribute o m apos) [] [] pos) (tMethO C m sp ta tNil) := by
  rw [tMethO_eq]
  exact pe_meth0 (E := E0) he c hm F hr hb .nil pass0 ht
theorem noPass0 {X : Cx} {σ : L2.St} : PassesAt CX0 X σ E0 := fun _ _ _ _ _ _ z => z.elim
/-- isinstance(x, C): an instance of C -/
theorem oc_isiC (c : C8.InsC X.K C) : CallR X (.builtin "isinstance") (fun xs H Q => ∃ p, xs = [.ref p, .ref C] ∧ (∃ dx fs, H p = some (.ins C dx fs)) ∧ Q (.bl true) H) := fun pins s σ H xs us Q I r ⟨p, e, ⟨dx, fs, h⟩, q⟩ =>
  C8.call_isC c pins s σ H xs us Q I r ⟨p, dx, fs, e, h, q⟩
end
/-- a new instance, in chunks -/
theorem Sts.made {L : List Asr} {H : Hp} {x dx C : Addr} (S : Sts H L) (hx : H x = none) (hd : H dx = none) (ne : dx ≠ x) : Sts (upd (upd H dx (.own x)) x (.ins C dx [])) (pto x (.ins C dx []) :: pto dx (.own x) :: L) :=
  (S.new (.own x) hd).new _ (by rw [upd_ne (Ne.symm ne)]; exact hx)
/-- C(..), positional -/
def tMakeO (C : Addr) (sp : Sp) (dvs : List V) (t : TA) : TE := fun σ H Q => t σ H fun vs H1 => ∃ L, Sts H1 L ∧ ∀ x dx H2, Sts H2 (pto x (.ins C dx []) :: pto dx (.own x) :: L) → sp (.ref x :: (vs ++ dvs)) H2 (fun v H3 => v = .non ∧ Q (.ref x) H3) E0
theorem oc_make {X : Cx} {e : Expr} {es : List Expr} {p pos : Pos} {x : Str} {k : Nat} {C g : Addr} {fd : FuncData} {ps : List Str} {sp : Sp} {dvs : List V} {ds : List Value} {t : TA} (M : Mk X.K C g) (F : FnOk X.prog X.w X.K X.mg X.base CX0 k g fd ps sp) (hr : Room (k + 1) X.A) (hg : Gl X x) (hm : X.mg x = some (.ref C)) (hb : Binds X.K fd ps ds) (hd : Vals dvs ds)
    (ha : PA X (e :: es) t) (hdb : (x == ("__debug__" : Str)) = false := by decide) (he : starEach (e :: es) X.env = (false, eval e X.env) :: starEach es X.env := by rfl) (hpl : (backTo pos (starEach es X.env)).any (·.1) = false := by rfl) :
    PE X (.Call (.Name x p) (e :: es) [] pos) (tMakeO C sp dvs t) := 
  ⟨fun pn s σ H Q J h => (pe_make M F hr hg hm hb hd pass0 (pa_up ha) hdb he hpl).run pn s σ H Q J ⟨_, h, fun vs H1 ⟨L, S, q⟩ x dx h1 h2 ne => q x dx _ (S.made h1 h2 ne)⟩⟩
/-- C(.., k = v) -/
def tMakeE (C : Addr) (n m : Nat) (sp : Sp) (gV : List V → List V → List V) (t tk : TA) : TE := fun σ H Q => t σ H fun vs H1 => tk σ H1 fun zs H2 => vs.length = n ∧ zs.length = m ∧ ∃ L, Sts H2 L ∧ ∀ x dx H3, Sts H3 (pto x (.ins C dx []) :: pto dx (.own x) :: L) →
  sp (gV (.ref x :: vs) zs) H3 (fun v H4 => v = .non ∧ Q (.ref x) H4) E0
theorem oc_makeK {X : Cx} {e : Expr} {es : List Expr} {p pos : Pos} {x : Str} {k n : Nat} {C f : Addr} {fd : FuncData} {ps ks : List Str} {sp : Sp} {t tk : TA} {kws : List Keyword} {g : List Value → List Value → List Value} {gV : List V → List V → List V} (M : Mk X.K C f) (F : FnOk X.prog X.w X.K X.mg X.base CX0 k f fd ps sp) (hr : Room (k + 1) X.A) (hg : Gl X x) (hm : X.mg x = some (.ref C))
    (hb : KBn X.K fd ps (n + 1) ks g gV) (ha : PA X (e :: es) t) (hkw : PK X kws tk)
    (hall : (backToKw pos (keywordEach kws X.env)).all (·.1.isSome) = true := by rfl) (hks : (backToKw pos (keywordEach kws X.env)).filterMap (·.1) = ks := by rfl) (hdb : (x == ("__debug__" : Str)) = false := by decide)
    (he : starEach (e :: es) X.env = (false, eval e X.env) :: starEach es X.env := by rfl) (hpl : ((backTo pos (starEach (e :: es) X.env)).any (·.1) || (backToKw pos (keywordEach kws X.env)).any (·.1.isNone)) = false := by rfl) :
    PE X (.Call (.Name x p) (e :: es) kws pos) (tMakeE C n ks.length sp gV t tk) := 
  ⟨fun pn s σ H Q J h => (pe_makeK M F hr hg hm hb pass0 (pa_up ha) (pk_up hkw) hall hks hdb he hpl).run pn s σ H Q J ⟨_, h, fun vs H1 h1 => ⟨_, h1, fun zs H2 ⟨l1, l2, L, S, q⟩ => ⟨l1, l2, fun x dx e1 e2 ne => q x dx _ (S.made e1 e2 ne)⟩⟩⟩⟩
end Oc
/-! ### raise, try, calls in an except suite -/
namespace Oc
open PySem PySem.Spec PyProof.Rows L2
section
variable {P : Program} {w : World} {K : PySem.W.Frag} {mg : Str → Option Value} {base : Heap}
/-- a def that may raise -/
theorem okN {x qual : Str} {st : Stmt} {f : Addr} {fd : FuncData} {N ps : List Str} {k : Nat} {sp : Sp} (F : Fun K x qual st f fd) (S : FnScope N ps (defScope st)) (len : ∀ vs H Q E, sp vs H Q E → vs.length = ps.length)
    (hbody : ∀ (cdv : Value) (A : Around) (outer : List Env) (s : Shared) (H : Hp) (vs : List V) (Q : VK) (E : XK), Room k (A.deeper (envOfC qual (defScope st) s.heap.objs.size f cdv)) → sp vs H Q E →
      ∃ t, PSs (cxOf (L2N.CX P w) P w K mg base N qual (defScope st) f cdv A outer s H E) (defBody st) t ∧ t { nx := fun _ H' => Q .non H', rt := Q } (start N vs) H) : FnOk P w K mg base (L2N.CX P w) (k + 1) f fd ps sp := by
  obtain ⟨oc, od, kV, doc, pm, an, cdv, ct, osl, rfl, lk, hcd⟩ := F.ex
  exact fn_of lk hcd S len fun A outer s H vs Q E hr hsp => hbody cdv A outer s H vs Q E hr hsp
/-- a def called in an except suite -/
theorem okH {x qual : Str} {st : Stmt} {f : Addr} {fd : FuncData} {N ps : List Str} {k : Nat} {sp : Sp} (F : Fun K x qual st f fd) (S : FnScope N ps (defScope st)) (len : ∀ vs H Q E, sp vs H Q E → vs.length = ps.length)
    (hbody : ∀ (cdv : Value) (A : Around) (outer : List Env) (s : Shared) (H : Hp) (vs : List V) (Q : VK) (E : XK) (p : Addr × Obj), L2H.Hot1 A p → L2H.RoomH k (A.deeper (envOfC qual (defScope st) s.heap.objs.size f cdv)) → sp vs H Q E →
      ∃ t, PSs (L2H.cxH CX0 P w K mg base N qual (defScope st) f cdv A outer s H E p) (defBody st) t ∧ t { nx := fun _ H' => Q .non H', rt := Q } (start N vs) H) : L2H.FnH P w K mg base CX0 (k + 1) f fd ps sp := by
  obtain ⟨oc, od, kV, doc, pm, an, cdv, ct, osl, rfl, lk, hcd⟩ := F.ex
  exact L2H.fn_ofH lk hcd S len fun A outer s H vs Q E p hot hr hsp => hbody cdv A outer s H vs Q E p hot hr hsp
end
/-- the whole heap as a chunk; its tuples -/
def whole (R : Hp) : Asr := .own fun h => h = noT R
def tmOf (R : Hp) : Tmap := fun a => match R a with | some (.tup vs) => some vs | _ => none
def imw (R : Hp) : Asr := .im (tmOf R)
theorem tmOf_some {R : Hp} {a : Addr} {vs : List V} : tmOf R a = some vs ↔ R a = some (.tup vs) := by
  unfold tmOf
  cases R a with
  | none => exact ⟨(fun e => nomatch e), (fun e => nomatch e)⟩
  | some o =>
    cases o with
    | tup ys => exact ⟨fun e => by cases e; rfl, fun e => by cases e; rfl⟩
    | _ => exact ⟨(fun e => nomatch e), (fun e => nomatch e)⟩
theorem sts_whole (H : Hp) : Sts H [whole H, imw H] := ⟨⟨noT H, Subh.refl _, rfl, fun _ => none, (fun _ _ e => nomatch e), trivial, trivial⟩, fun τ hm => by
  have e : τ = tmOf H := by
    rcases List.mem_cons.mp hm with q | q
    · cases q
    · have q := List.mem_singleton.mp q
      cases q
      rfl
  subst e
  exact fun a vs e => tmOf_some.mp e⟩
theorem whole_in {R H : Hp} {M L : List Asr} (S : Sts H (whole R :: imw R :: M)) (T : Sts R L) : Sts H (L ++ M) := by
  obtain ⟨⟨h, s, eh, h2, s2, _, S⟩, tk⟩ := S
  have eh : h = noT R := eh
  subst eh
  refine ⟨St.join T.st s (S.mono (cutH_sub _ _)), fun τ hm a vs e => ?_⟩
  rcases List.mem_append.mp hm with q | q
  · exact tk (tmOf R) (List.mem_cons_of_mem _ List.mem_cons_self) a vs (tmOf_some.mpr (T.tk τ q a vs e))
  · exact tk τ (List.mem_cons_of_mem _ (List.mem_cons_of_mem _ q)) a vs e
theorem whole_none {R H : Hp} {L : List Asr} {a : Addr} {o : HO} (S : Sts H (pto a o :: whole R :: imw R :: L)) : R a = none := by
  have ha := S.hd
  have hT := S.hdT
  obtain ⟨⟨h, s, rfl, k, t, ek, _⟩, tk⟩ := S
  have ek : k = noT R := ek
  subst ek
  cases e : R a with
  | none => rfl
  | some u =>
    cases hu : isT u with
    | true =>
      cases u with
      | tup vs =>
        have z := tk (tmOf R) (List.mem_cons_of_mem _ (List.mem_cons_of_mem _ List.mem_cons_self)) a vs (tmOf_some.mpr e)
        rw [ha] at z
        cases z
        cases hT
      | _ => cases hu
    | false =>
      have z := (cutH_some.mp (t _ _ (noT_some.mpr ⟨hu, e⟩))).1
      rw [one_self] at z
      cases z
/-- self.f = y, the first one, of an exception that is being made -/
def sOst1 (C : Addr) (f : Str) (to te : TE) : TS := fun D σ H => te σ H fun y H1 => to σ H1 fun x H2 => ∃ a, x = .ref a ∧ ∃ L, Sts H2 (pto a (exo a C none) :: L) ∧ ∀ dx H', Sts H' (pto a (exo a C (some dx)) :: pto dx (exd dx [(f, y)]) :: L) → D.nx σ H'
/-- .. a further one -/
def sOst2 (C : Addr) (f : Str) (to te : TE) : TS := fun D σ H => te σ H fun y H1 => to σ H1 fun x H2 => ∃ a, x = .ref a ∧ ∃ dx fs L, Sts H2 (pto a (exo a C (some dx)) :: pto dx (exd dx fs) :: L) ∧ fs.length ≤ 900 ∧ ∀ H', Sts H' (pto a (exo a C (some dx)) :: pto dx (exd dx ((f, y) :: fs)) :: L) → D.nx σ H'
section
variable {X : Cx} {o e : Expr} {es : List Expr} {to te : TE} {ta : TA} {f : Str} {p p' p1 p2 pos : Pos} {C : Addr}
theorem oc_ost1 (T : OexC X.K C) (n : PySem.W.findIn X.K (.ref C) f = some none) (ho : PE X o to) (he : PE X e te) (hs : swapsWith e (some (.Attribute o f p')) pos.line X.env = pure false := by rfl) : PS X (.Assign [.Attribute o f p'] e pos) (sOst1 C f to te) :=
  ⟨fun pn s σ H D J h => (ps_ost (pe_up ho) (pe_up he) hs).run pn s σ H D J ⟨_, h, fun y H1 h1 => ⟨_, h1, fun x H2 ⟨a, ex, L, S, q⟩ => ⟨a, C, ex, T, n, .inl ⟨S.hd, fun dx nn _ => q dx _ ((S.new (exd dx [(f, y)]) nn).swap.put _)⟩⟩⟩⟩⟩
theorem oc_ost2 (T : OexC X.K C) (n : PySem.W.findIn X.K (.ref C) f = some none) (ho : PE X o to) (he : PE X e te) (hs : swapsWith e (some (.Attribute o f p')) pos.line X.env = pure false := by rfl) : PS X (.Assign [.Attribute o f p'] e pos) (sOst2 C f to te) :=
  ⟨fun pn s σ H D J h => (ps_ost (pe_up ho) (pe_up he) hs).run pn s σ H D J ⟨_, h, fun y H1 h1 => ⟨_, h1, fun x H2 ⟨a, ex, dx, fs, L, S, hl, q⟩ => ⟨a, C, ex, T, n, .inr ⟨dx, fs, S.hd, S.swap.hd, hl, q _ (S.swap.put _).swap⟩⟩⟩⟩⟩
/-- C(e, ..), an own error with its own __init__ -/
def tMkX (C : Addr) (sp : Sp) (dvs : List V) (ta : TA) : L2.St → Hp → XK → Prop := fun σ H Q => ta σ H fun vs H1 => vs.length ≤ 1000 ∧ ∃ L, Sts H1 L ∧ ∀ a H', Sts H' (pto a (exo a C none) :: [whole H1, imw H1]) →
  sp (.ref a :: (vs ++ dvs)) H' (fun v H2 => v = .non ∧ ∃ d fs M, Sts H2 (pto a (exo a C (some d)) :: pto d (exd d fs) :: whole H1 :: imw H1 :: M) ∧ ∀ H3, Sts H3 (pto d (.xd fs) :: (L ++ M)) → Q (.ref C) (some d) H3) E0
theorem noT_del {H : Hp} {a : Addr} : noT (del H a) = del (noT H) a := by
  funext b
  by_cases e : b = a
  · subst e
    unfold noT del
    simp
  · unfold noT
    rw [del_ne e, del_ne e]
theorem sts_del {a : Addr} {o : HO} {L : List Asr} {H : Hp} (S : Sts H (pto a o :: L)) : Sts (del H a) L := by
  have ha := S.hd
  have hT := S.hdT
  obtain ⟨⟨h, s, rfl, S⟩, tk⟩ := S
  refine ⟨S.mono fun b u e => ?_, fun τ hm b vs e => ?_⟩
  · obtain ⟨e1, e2⟩ := cutH_some.mp e
    have ne : b ≠ a := fun z => by
      rw [z, one_self] at e1
      cases e1
    rw [noT_del, del_ne ne]
    exact e2
  · have z := tk τ (List.mem_cons_of_mem _ hm) b vs e
    have ne : b ≠ a := fun q => by
      rw [q, ha] at z
      cases z
      cases hT
    rw [del_ne ne]
    exact z
/-- the call of the class: the exception is laid, its __init__ runs on it; the table of its fields is its last trace in the heap told -/
theorem made_mkx {CX : CXT} {fI : Addr} {k : Nat} {fd : FuncData} {ps : List Str} {sp : Sp} {ds us : List Value} {dvs vs : List V} {pins : List (Addr × Obj)} {s : Shared} {σ : L2.St} {H : Hp} {Q : XK} {L : List Asr} (T : OexC X.K C)
    (iC : PySem.W.findIn X.K (.ref C) "__init__" = some (some (.ref fI))) (tI : PySem.W.typeIn X.K (.ref fI) = some (.type "function")) (F1 : FnOk X.prog X.w X.K X.mg X.base CX k fI fd ps sp) (hr : Room (k + 1) X.A) (hb : Binds X.K fd ps ds) (hd : Vals dvs ds) (hx : Passes CX X E0)
    (I : Inv X pins σ H s) (rv : Vals vs us) (hz : vs.length ≤ 1000) (SL : Sts H L) (q : ∀ a H', Sts H' (pto a (exo a C none) :: [whole H, imw H]) →
      sp (.ref a :: (vs ++ dvs)) H' (fun v H2 => v = .non ∧ ∃ d fs M, Sts H2 (pto a (exo a C (some d)) :: pto d (exd d fs) :: whole H :: imw H :: M) ∧ ∀ H3, Sts H3 (pto d (.xd fs) :: (L ++ M)) → Q (.ref C) (some d) H3) E0) :
    wpAny (model X.prog X.w) X.A (call (.ref C) us) (L2N.MkP X pins σ Q) X.xe s := by
  obtain ⟨_, _, _, _, bm, _, _, _, _, _, _, _, _, _, _, hC, hve⟩ := T.cls
  obtain ⟨hp, g, dr, tk, os⟩ := s
  have old : ∀ b o, hp.get? b = some o → ((hp.push (PySem.W.kdv_tup us)).push (PySem.HandSPX.excO C hp.objs.size)).get? b = some o := fun b o z => Heap.get?_push_of_some _ (Heap.get?_push_of_some _ z)
  have lies : ((hp.push (PySem.W.kdv_tup us)).push (PySem.HandSPX.excO C hp.objs.size)).get? (hp.objs.size + 1) = some (PySem.HandSPX.excO C hp.objs.size) := by heap_get
  have inits := fun (R : Result → Shared → Prop) => PySem.HandSPX.call_own (R := R) (prog := X.prog) (w := X.w) (A := X.A) (rest := us) (g := g) (d := dr) (t := tk) (os := os) F.excBase_ValueError (fun Y => PySem.HandSPX.refsVE_contains Y bm hve) (I.kIn _ _ hC) (PySem.W.looks_findIn I.kIn iC)
    (fun self => PySem.W.bind_fn I.kIn self tI) (by rw [← Paired.length rv, sizeLine_eq]; omega)
  have J : Inv X pins σ (upd H (hp.objs.size + 1) (exo (hp.objs.size + 1) C none)) ⟨(hp.push (PySem.W.kdv_tup us)).push (PySem.HandSPX.excO C hp.objs.size), g, dr, tk, os⟩ := I.laid (t' := tk) old (Nat.le_succ _) (exo_ok lies)
  have spec := q _ _ ((sts_whole H).new _ (I.hok.fresh (Nat.le_succ _)))
  have rs : Vals (V.ref (hp.objs.size + 1) :: (vs ++ dvs)) (Value.ref (hp.objs.size + 1) :: (us ++ ds)) := .cons rfl (rv.append hd)
  have bnd := hb _ (Value.ref (hp.objs.size + 1) :: us) J.kIn (by
    rw [← F1.len _ _ _ _ spec]
    exact rs.length.symm)
  refine wpAny_call (inits _ (codeAny_mono (F1.run _ X.stack _ _ ⟨_, []⟩ _ _ _ E0 (hr.make C us []) (J.env0.make C us []) bnd rs spec) fun r s' hq => ?_))
  match r, hq with
  | .error er, hq => exact hx pins σ _ _ er s' J hq
  | .ok (.ret u), hq =>
    obtain ⟨v, H2, os2, bare, un, hok, ru, rfl, d, fs, M, S2, q2⟩ := hq
    obtain ⟨h2, g2, d2, t2, os'⟩ := s'
    obtain ⟨t0, G, J2, kG, gone, there, na⟩ := mk_end0 (d2 := d2) (t2 := t2) I (Nat.le_succ _) old un hok os2 bare S2.hd S2.swap.hd (whole_none S2.tail)
    exact ⟨ru, _, _, _, ⟨G, g2, d2, t2, os'⟩, _, .ref C, some d, rfl, J2, kG, gone, there, ⟨rfl, rfl, fun vs e => by cases e; rfl⟩, rfl, rfl, na, rfl, bare, raises_own T.exC T.tyC, q2 _ (((sts_del S2).put _).under fun K Z => whole_in Z SL)⟩
theorem oc_mkx {CX : CXT} {x : Str} {fI : Addr} {k : Nat} {fd : FuncData} {ps : List Str} {sp : Sp} {ds : List Value} {dvs : List V} (T : OexC X.K C) (iC : PySem.W.findIn X.K (.ref C) "__init__" = some (some (.ref fI))) (tI : PySem.W.typeIn X.K (.ref fI) = some (.type "function"))
    (F1 : FnOk X.prog X.w X.K X.mg X.base CX k fI fd ps sp) (hr : Room (k + 1) X.A) (hb : Binds X.K fd ps ds) (hd : Vals dvs ds) (hx : Passes CX X E0) (hg : Gl X x) (hm : X.mg x = some (.ref C)) (ha : PA X (e :: es) ta)
    (hdb : (x == ("__debug__" : Str)) = false := by decide) (he : starEach (e :: es) X.env = (false, eval e X.env) :: starEach es X.env := by rfl) (hpl : (backTo pos (starEach es X.env)).any (·.1) = false := by rfl) :
    L2N.PMk X (.Call (.Name x p) (e :: es) [] pos) (tMkX C sp dvs ta) := by
  intro pins s σ H Q I h
  refine wpAny_Call_Name_kw (ld_glob I hg hm ?_ hdb)
  refine PySem.W.callWith_K (h₀ := X.base) I.ok.mod.kin T.kC (thn (ha.run pos pins s σ H _ I h) fun us s1 ⟨vs, H1, I1, rv, hz, L, SL, q⟩ => ⟨I1.kIn, ?_⟩) he hpl
  exact made_mkx T iC tI F1 hr hb hd hx I1 rv hz SL q
/-- raise C(e, ..) -/
theorem oc_raise {W : WX} {t : L2.St → Hp → XK → Prop} (hc : X.calm = true) (tk : L2N.Takes X W) (he : L2N.PMk X e t) : PS X (.Raise (some e) none pos) (fun _ σ H => t σ H fun cls d H' => W cls d σ H') := L2N.ps_raise hc tk he
/-- a call in an except suite, of a def that lets nothing out -/
theorem oc_callH {x : Str} {fI : Addr} {k : Nat} {fd : FuncData} {ps : List Str} {sp : Sp} (F1 : L2H.FnH X.prog X.w X.K X.mg X.base CX0 k fI fd ps sp) (hr : L2H.RoomH k X.A) (hc : L2H.HotC X) (hg : Gl X x) (hm : X.mg x = some (.ref fI)) (hk : PySem.W.keepIn X.K (.ref fI) = true) (hb : Binds X.K fd ps []) (ha : PA X (e :: es) ta)
    (hdb : (x == ("__debug__" : Str)) = false := by decide) (he : starEach (e :: es) X.env = (false, eval e X.env) :: starEach es X.env := by rfl) (hpl : (backTo pos (starEach es X.env)).any (·.1) = false := by rfl) :
    PE X (.Call (.Name x p) (e :: es) [] pos) (tCallX sp ta) := L2H.pe_callH (E := fun _ => E0) F1 hr hc hg hm hk hb (fun _ _ _ _ _ _ _ z => z.elim) ha hdb he hpl
end
theorem takes0N {X : Cx} : L2N.Takes X (fun _ _ _ _ => False) := fun _ _ x => by
  obtain ⟨_, _, _, _, _, _, _, _, _, _, _, _, _, _, _, _, z⟩ := x
  exact z.elim
/-- isinstance(e, c), e the exception that the suite holds, with its dict -/
theorem oc_isE {X : Cx} {a D : Addr} {oe : Obj} {d : Option Addr} {cls : Value} {pn : List (Addr × Obj)} {c : V} {cv : Value} {b : Bool} (C : ExcC X.K D) (hz : Zc cls d oe) (hf : ∃ vs, oe.data = .fields vs) (hk : PySem.W.kitOne X.K (.ref D) cv = some b) (hcv : ∀ u, RelV c u → u = cv) :
    CallR (X.suite a ((a, oe) :: pn)) (.builtin "isinstance") (fun xs H Q => cls = .ref D ∧ xs = [.ref a, c] ∧ (∃ dd fs, d = some dd ∧ H dd = some (.xd fs)) ∧ Q (.bl b) H) := by
  intro pins s σ H xs us Q I r ⟨e0, e, ⟨dd, fs, ed, ea⟩, q⟩
  subst e0 e ed
  cases r with
  | cons rx rr =>
    cases rr with
    | cons rt rr =>
      cases rr
      cases rx
      have ec := hcv _ rt
      subst ec
      obtain ⟨hget, _⟩ := I.pin (a, oe) (List.mem_append.mpr (.inl List.mem_cons_self))
      obtain ⟨vs, hv⟩ := hf
      obtain ⟨mA, hns, hr⟩ := (show ObjOk X.prog X.w H s.heap dd (.xd fs) from I.hok dd _ ea)
      obtain ⟨od, ho, hl⟩ := lookIn_ns hns
      have J : PySem.W.InstAt s.heap a oe D (some od) := ⟨hget, hz.1, by unfold PySem.W.notCls; rw [hv] <;> rfl, by rw [hz.2]; exact ho⟩
      obtain ⟨cdD, hcD, _⟩ := PySem.W.any_some C.hd
      exact PySem.W.kia_one (PySem.W.kitx_exc (by rw [hcD]; rfl) C.hg C.hk C.hs C.ha C.hn C.ht C.hm) I.kIn J hk (fun z => nomatch z) fun tk => ⟨.bl b, H, I.kept (t' := tk) fun _ _ z => z, rfl, q⟩
theorem hotC {X : Cx} {a : Addr} {oe : Obj} {cls : Value} {d : Option Addr} {pn : List (Addr × Obj)} (hz : L2N.Zn cls d oe) (hf : ∃ vs, oe.data = .fields vs) : L2H.HotC (X.suite a ((a, oe) :: pn)) := by
  obtain ⟨vs, hd⟩ := hf
  exact ⟨(a, oe), ⟨rfl, vs, hd, hz.2.2 vs hd⟩, List.mem_cons_self⟩
/-- an exception never leaves -/
theorem noPassN {P : Program} {w : World} {X : Cx} {σ : L2.St} : PassesAt (L2N.CX P w) X σ E0 := fun _ _ _ _ _ _ ⟨_, _, _, _, _, _, _, _, _, _, _, _, z⟩ => z.elim
end Oc
namespace Oc
open PySem PySem.Spec PyProof.Rows L2 NdefX PySem.W PySem.Calls
/-- a method with a cell __class__ (an error's __init__ with super()) -/
structure XFun (P : Program) (K : PySem.W.Frag) (mg : Str → Option Value) (x qual : Str) (st : Stmt) (f : Addr) (fd : FuncData) (D : Addr) : Prop where
  ex : ∃ (oc : Value) (od : Option Addr) (dV kV doc pm : Value) (an : Option Addr) (cc c : Addr) (ct : Value) (osl : Array (Option Value)),
    fd = PySem.W.fnX x qual (defArgs st) (defBody st) (defScope st) [("__class__", cc)] dV kV doc pm an (.ref c) ct ∧ K.lookup f = some ⟨oc, od, .func fd, osl⟩ ∧ PySem.W.codeIn K (.ref c) qual = true ∧
    (∃ cl cld csl, K.lookup cc = some ⟨cl, cld, .cell (some (.ref D)), csl⟩) ∧ (∃ ccl cdd vs ccs file tf, K.lookup c = some ⟨ccl, cdd, .fields vs, ccs⟩ ∧ vs[2]? = some (.str file tf) ∧ ((P.main.file : Str) == file) = true)
  isD : ∃ cdD, clsIn K D = some cdD
  sup : mg "super" = none
  htop : (P.main.scope.names.lookup ("super" : Str)).isSome = false
abbrev xnf (x qual : Str) (st : Stmt) (cc c : Addr) : NF := { name := x, qual := qual, params := defArgs st, body := defBody st, scope := defScope st, cl := [("__class__", cc)], c := c }
section
variable {CX : CXT} {P : Program} {w : World} {K : PySem.W.Frag} {mg : Str → Option Value} {base : Heap} {N ps : List Str} {x qual : Str} {stm : Stmt} {f D : Addr} {fd : FuncData} {k : Nat} {sp : Sp}
theorem XFun.ok {ar : Arg} {e : Expr} {es : List Expr} {rest : List Stmt} {p0 p1 p2 pos pos0 : Pos} (F : XFun P K mg x qual stm f fd D) (S : NScope N ps [("__class__" : Str)] (defScope stm)) (ks : (defScope stm).names.lookup ("super" : Str) = some .globalImplicit)
    (hp : ((defArgs stm).posonlyargs ++ (defArgs stm).args).head? = some ar) (ha : ps[0]? = some ar.arg)
    (hb : defBody stm = .Expr (.Call (.Attribute (.Call (.Name "super" p0) [] [] p1) "__init__" p2) (e :: es) [] pos) pos0 :: rest)
    (pl : Addr → Addr → Addr → Sem Bool) (hev : ∀ cc c L, eval (.Call (.Attribute (.Call (.Name "super" p0) [] [] p1) "__init__" p2) (e :: es) [] pos) (envF (xnf x qual stm cc c) f L) = (do
      let ov ← attributeBase (.Call (.Name "super" p0) [] [] p1) "__init__" (envF (xnf x qual stm cc c) f L) (eval (.Call (.Name "super" p0) [] [] p1) (envF (xnf x qual stm cc c) f L))
      standAt p2.atName
      let (g, first) ← holding [ov] (getMethod ov "__init__" (pl cc c L))
      callWith pos g first (backTo pos (starEach (e :: es) (envF (xnf x qual stm cc c) f L))) []))
    (hse : ∀ env, starEach (e :: es) env = (false, eval e env) :: starEach es env) (hpl : ∀ env, (backTo pos (starEach es env)).any (·.1) = false)
    (hsw : ∀ cc c L, swapsWith (.Call (.Attribute (.Call (.Name "super" p0) [] [] p1) "__init__" p2) (e :: es) [] pos) none pos0.line (envF (xnf x qual stm cc c) f L) = pure false)
    (len : ∀ vs H Q E, sp vs H Q E → vs.length = ps.length)
    (hbody : ∀ (cc c : Addr) (A : Around) (outer : List Env) (s : Shared) (H : Hp) (vs : List V) (Q : VK) (E : XK), Room k (A.deeper (envF (xnf x qual stm cc c) f s.heap.objs.size)) → sp vs H Q E →
      ∃ (a C : Addr) (vr : List V) (te : TA) (t : TS), vs = .ref a :: vr ∧ SupC K D C ∧ H a = some (exo a C none) ∧ PA (ncx CX P w K mg base N (xnf x qual stm cc c) f A outer s H E) (e :: es) te ∧ PSs (ncx CX P w K mg base N (xnf x qual stm cc c) f A outer s H E) rest t ∧
        te (startF N vs [some (.ref D)]) H fun us H1 => us.length ≤ 1000 ∧ H1 a = some (exo a C none) ∧ t { nx := fun _ H' => Q .non H', rt := Q } (startF N vs [some (.ref D)]) H1) :
    FnOk P w K mg base CX (k + 1) f fd ps sp := by
  obtain ⟨oc, od, dV, kV, doc, pm, an, cc, c, ct, osl, rfl, lk, hcd, hcc, hfl⟩ := F.ex
  refine fn_sup (F := xnf x qual stm cc c) lk hcd S ⟨rfl, hcc, F.isD, hfl, F.sup, ks, S.frk _ (by simp), F.htop⟩ hp ha hb (pl cc c) (hev cc c) (hsw cc c) len fun A outer s H vs Q E hr h => ?_
  obtain ⟨a, C, vr, te, t, ev, SC, ea, pa, pss, q⟩ := hbody cc c A outer s H vs Q E hr h
  exact ⟨a, C, vr, t, _, ev, SC.sub, ea, pss, supRun_VE SC ea pa (hse _) (hpl _) q, fun H1 h1 => h1⟩
end
end Oc
/-! ### lists of ints and Nones -/
namespace Oc
open PySem PySem.Spec PyProof.Rows L2
def pdo : Option Int → PyData
  | none => .none
  | some i => .int i
theorem dp_opts {K : PySem.W.Frag} {H : Hp} : ∀ ns : List (Option Int), DpAll K H (ns.map ov) (ns.map pdo)
  | [] => .nil
  | none :: ns => .cons .non (dp_opts ns)
  | some n :: ns => .cons (.int n) (dp_opts ns)
theorem eqv_opts : ∀ ns ms : List (Option Int), PyData.eqvAll (ns.map pdo) (ms.map pdo) = decide (ns = ms)
  | [], [] => by simp [PyData.eqvAll]
  | [], _ :: _ => by simp [PyData.eqvAll]
  | _ :: _, [] => by simp [PyData.eqvAll]
  | n :: ns, m :: ms => by
    have e : PyData.eqv (pdo n) (pdo m) = decide (n = m) := by
      cases n with
      | none => cases m <;> simp [pdo, PyData.eqv]
      | some a =>
        cases m with
        | none => simp [pdo, PyData.eqv]
        | some b => by_cases h : a = b <;> simp [pdo, PyData.eqv, h]
    simp only [List.map_cons, PyData.eqvAll, e, eqv_opts ns ms]
    by_cases h1 : n = m <;> by_cases h2 : ns = ms <;> simp [h1, h2]
theorem lay_opts : ∀ ns : List (Option Int), PyData.canLayAll0 (ns.map pdo) = true
  | [] => by simp [PyData.canLayAll0]
  | n :: ns => by
    have e : PyData.canLay0 (pdo n) = true := by cases n <;> simp [pdo, PyData.canLay0]
    simp [PyData.canLayAll0, e, lay_opts ns]
theorem depth_opts : ∀ ns : List (Option Int), PyData.depthAll (ns.map pdo) = 0
  | [] => by simp [PyData.depthAll]
  | n :: ns => by
    have e : PyData.depth (pdo n) = 0 := by cases n <;> simp [pdo, PyData.depth]
    simp [PyData.depthAll, e, depth_opts ns]
theorem shaped_opts (ns : List (Option Int)) : SeqAt.shaped (.list (ns.map pdo)) = true := by
  unfold SeqAt.shaped
  simp [PyData.canLay0, lay_opts, PyData.depth, depth_opts]
theorem eqv_optl (ns ms : List (Option Int)) : PyData.eqv (.list (ns.map pdo)) (.list (ms.map pdo)) = decide (ns = ms) := by
  rw [← eqv_opts]
  simp only [PyData.eqv]
section
variable {X : Cx}
theorem oc_ne_opts {K : PySem.W.Frag} (hK : X.K = K) (hu : X.A.units + 64 < cLine) : OpR X (compareOp .NotEq) (fun x y H Q => ∃ a b, ∃ ns ms : List (Option Int), x = .ref a ∧ y = .ref b ∧ SqL K H a (ns.map ov) ∧ SqL K H b (ms.map ov) ∧ Q (.bl (!decide (ns = ms))) H) := fun pins s σ H x y v u Q I rx ry ⟨a, b, ns, ms, e1, e2, h1, h2, q⟩ =>
  op_neD hu pins s σ H x y v u Q I rx ry ⟨.list (ns.map pdo), .list (ms.map pdo), e1 ▸ .lst (hK ▸ h1) (dp_opts ns), e2 ▸ .lst (hK ▸ h2) (dp_opts ms), shaped_opts ns, shaped_opts ms, by rw [eqv_optl]; exact q⟩
theorem oc_eq_opts {K : PySem.W.Frag} (hK : X.K = K) (hu : X.A.units + 64 < cLine) : OpR X (compareOp .Eq) (fun x y H Q => ∃ a b, ∃ ns ms : List (Option Int), x = .ref a ∧ y = .ref b ∧ SqL K H a (ns.map ov) ∧ SqL K H b (ms.map ov) ∧ Q (.bl (decide (ns = ms))) H) := fun pins s σ H x y v u Q I rx ry ⟨a, b, ns, ms, e1, e2, h1, h2, q⟩ =>
  op_eqD hu pins s σ H x y v u Q I rx ry ⟨.list (ns.map pdo), .list (ms.map pdo), e1 ▸ .lst (hK ▸ h1) (dp_opts ns), e2 ▸ .lst (hK ▸ h2) (dp_opts ms), shaped_opts ns, shaped_opts ms, by rw [eqv_optl]; exact q⟩
end
def gO (ns : List (Option Int)) (i : Int) : Option Int := ns.getD i.toNat none
theorem oc_ixO {X : Cx} {K : PySem.W.Frag} (hK : X.K = K) : IxR X (fun x y H Q => ∃ p, ∃ (ns : List (Option Int)) (i : Int), x = .ref p ∧ y = .int i ∧ SqL K H p (ns.map ov) ∧ (0 ≤ i ∧ i < ns.length) ∧ Q (ov (gO ns i)) H) := fun va sl pins s σ H x y v u Q I rx ry ⟨p, ns, i, e1, e2, h, b, q⟩ hs =>
  ix_list va sl pins s σ H x y v u Q I rx ry ⟨p, _, i, ov (gO ns i), e1, e2, hK ▸ h, by
    have hl : i.toNat < ns.length := by omega
    refine atI_of b.1 ?_
    rw [List.getElem?_map, List.getElem?_eq_getElem hl]
    unfold gO
    rw [List.getD_eq_getElem?_getD, List.getElem?_eq_getElem hl]
    rfl, q⟩ hs
theorem lc_pureV {α : Type} (emb : α → V) {K : PySem.W.Frag} {a : Addr} {k : Nat} {te : TE} {vs : List Nat} {σ : L2.St} {H0 : Hp} {Qd : Hp → Prop} {L : List Asr} {D : Addr} (ns : List α) (f : α → V) (S : Sts H0 (pto D (.lst []) :: L)) (hsq : ∀ H, Sts H L → SqL K H a (ns.map emb)) (hl : ns.length ≤ 1000000)
    (hw : ∀ x, wipe ((wipe σ vs).set k (some x)) vs = wipe σ vs) (he : ∀ (x : α) (H : Hp) (Q' : VK), x ∈ ns → Sts H L → Q' (f x) H → te ((wipe σ vs).set k (some (emb x))) H Q')
    (hd : ∀ H, Sts H (pto D (.lst (ns.map f)) :: L) → Qd H) :
    ∃ W : Nat → Nat → Hp → Prop, (∃ m, W 0 m H0) ∧ ∀ i m H, W i m H →
      ((Itl K a).stop i H ∧ Qd H) ∨ ((Itl K a).go i H ∧ ∃ Nx : Hp → Prop, (∀ H', Nx H' → ∃ m', m' < m ∧ W (i + 1) m' H') ∧ ∀ x H', (Itl K a).yld i H x H' → gName k x (wipe σ vs) H' fun σ2 H2 => wipe σ2 vs = wipe σ vs ∧ tYes σ2 H2 fun b H3 =>
        if b = true then te σ2 H3 fun y H4 => ∃ acc, H4 D = some (.lst acc) ∧ acc.length < sizeLine ∧ Nx (upd H4 D (.lst (acc ++ [y]))) else Nx H3) :=
  oc_lcL (K := K) (a := a) (xs := ns.map emb) (fun i H => Sts H (pto D (.lst ((ns.take i).map f)) :: L)) S (fun i H p => hsq H p.tail)
    (fun i x H hx p => by
      rw [List.getElem?_map] at hx
      cases e : ns[i]? with
      | none =>
        rw [e] at hx
        cases hx
      | some n =>
        rw [e] at hx
        have ex : x = emb n := (Option.some.inj hx).symm
        subst ex
        refine ⟨hw _, ?_⟩
        simp only [tYes, if_true]
        refine he n H _ (List.mem_of_getElem? e) p.tail ⟨_, p.hd, small (by rw [List.length_map, List.length_take]; omega), ?_⟩
        rw [List.take_add_one, e, List.map_append]
        exact p.put _)
    (fun H p => hd H (by rw [List.length_map, List.take_length] at p; exact p))
theorem gLO {H : Hp} {a : Addr} {ns : List (Option Int)} {L : List Asr} (h : Sts H (pto a (.lst (ns.map ov)) :: L)) : Sts H (pto a (.lst (ns.map ov)) :: L) := h
theorem gIns {H : Hp} {a C dx : Addr} {fs : List (Str × V)} {L : List Asr} (h : Sts H (pto a (.ins C dx fs) :: L)) : Sts H (pto a (.ins C dx fs) :: L) := h
theorem gExo2 {H : Hp} {a C dx : Addr} {fs : List (Str × V)} {L : List Asr} (h : Sts H (pto a (exo a C (some dx)) :: pto dx (exd dx fs) :: L)) : Sts H (pto a (exo a C (some dx)) :: pto dx (exd dx fs) :: L) := h
theorem gExo {H : Hp} {a C : Addr} {L : List Asr} (h : Sts H (pto a (exo a C none) :: L)) : Sts H (pto a (exo a C none) :: L) := h
/-- xs.insert(k, j), a list of ints -/
theorem oc_insertI {X : Cx} : MtR X "list.insert" (fun x vs H Q => ∃ l k j, x = .ref l ∧ vs = [.int k, .int j] ∧ ∃ (ns : List Int) (L : List Asr), Sts H (pto l (.lst (ns.map V.int)) :: L) ∧ (ns.length ≤ 1000000 ∧ 0 ≤ k ∧ k < 1000000) ∧ ∀ H', Sts H' (pto l (.lst ((ns.take k.toNat ++ [j] ++ ns.drop k.toNat).map V.int)) :: L) → Q .non H') := fun pins s σ H x xs v us Q I rx rs ⟨l, k, j, e1, e2, ns, L, S, ⟨hl, hk0, hk1⟩, q⟩ =>
  mt_insert pins s σ H x xs v us Q I rx rs ⟨l, _, k, .int j, e1, e2, S.hd, small (by rw [List.length_map]; exact hl), hk0, by omega, q _ (by rw [List.map_append, List.map_append, List.map_take, List.map_drop]; exact S.put _)⟩
end Oc
/-! ### classes: readings with names of their own -/
namespace Oc
open PySem PySem.Spec PyProof.Rows L2
section
variable {K : PySem.W.Frag} {σ : L2.St} {H : Hp} {Q : VK} {D : Ends} {i j : Int} {a b p q C : Addr} {v x y : V} {vs : List V} {L : List Asr} {ns : List Int} {ta tb tv : TE} {t : TA} {f m : Str} {sp : Sp} {fs : List (Str × V)} {dx : Addr} {os us : List (Option Int)}
def kFld (C : Addr) (f : Str) (Q : VK) : VK := fun x H => ∃ p v, x = .ref p ∧ FldAt C f H p v ∧ Q v H
theorem g_fld (k : ta σ H (kFld C f Q)) : tFldO C f ta σ H Q := k
theorem g_kFld (h : FldAt C f H p v) (k : Q v H) : kFld C f Q (.ref p) H := ⟨p, v, rfl, h, k⟩
def kMeth (C : Addr) (m : Str) (sp : Sp) (t : TA) (σ : L2.St) (Q : VK) : VK := fun x H => ∃ p, x = .ref p ∧ IsIns C m H p ∧ t σ H fun vs H2 => sp (.ref p :: vs) H2 Q E0
theorem g_meth (k : ta σ H (kMeth C m sp t σ Q)) : tMethO C m sp ta t σ H Q := k
theorem g_kMeth (h : IsIns C m H p) (k : t σ H fun vs H2 => sp (.ref p :: vs) H2 Q E0) : kMeth C m sp t σ Q (.ref p) H := ⟨p, rfl, h, k⟩
def kSet (C : Addr) (f : Str) (y : V) (R : L2.St → Hp → Prop) (σ : L2.St) : VK := fun x H => ∃ p, x = .ref p ∧ ∃ dx fs L, Sts H (pto p (.ins C dx fs) :: L) ∧ fs.length ≤ 100 ∧ ∀ H', Sts H' (pto p (.ins C dx (putF f y fs)) :: L) → R σ H'
theorem g_set (k : tv σ H fun y H1 => ta σ H1 (kSet C f y D.nx σ)) : sFldO C f ta tv D σ H := k
theorem g_kSet {R : L2.St → Hp → Prop} (S : Sts H (pto p (.ins C dx fs) :: L)) (l : fs.length ≤ 100) (k : ∀ H', Sts H' (pto p (.ins C dx (putF f y fs)) :: L) → R σ H') : kSet C f y R σ (.ref p) H := ⟨p, rfl, dx, fs, L, S, l, k⟩
def kNonR (Q : VK) (x : Addr) : VK := fun v H => v = .non ∧ Q (.ref x) H
theorem g_nonR (k : Q (.ref a) H) : kNonR Q a .non H := ⟨rfl, k⟩
def kMake (C : Addr) (sp : Sp) (dvs : List V) (Q : VK) (vs : List V) (H : Hp) : Prop := ∃ L, Sts H L ∧ ∀ x dx H2, Sts H2 (pto x (.ins C dx []) :: pto dx (.own x) :: L) → sp (.ref x :: (vs ++ dvs)) H2 (kNonR Q x) E0
theorem g_make {dvs : List V} (k : t σ H (kMake C sp dvs Q)) : tMakeO C sp dvs t σ H Q := k
theorem g_kMake {dvs : List V} (S : Sts H L) (k : ∀ x dx H2, Sts H2 (pto x (.ins C dx []) :: pto dx (.own x) :: L) → sp (.ref x :: (vs ++ dvs)) H2 (kNonR Q x) E0) : kMake C sp dvs Q vs H := ⟨L, S, k⟩
def kMakeE (C : Addr) (n m : Nat) (sp : Sp) (gV : List V → List V → List V) (Q : VK) (vs zs : List V) (H2 : Hp) : Prop := vs.length = n ∧ zs.length = m ∧ ∃ L, Sts H2 L ∧ ∀ x dx H3, Sts H3 (pto x (.ins C dx []) :: pto dx (.own x) :: L) → sp (gV (.ref x :: vs) zs) H3 (kNonR Q x) E0
theorem g_makeE {n m : Nat} {gV : List V → List V → List V} {tk : TA} (k : t σ H fun vs H1 => tk σ H1 fun zs H2 => kMakeE C n m sp gV Q vs zs H2) : tMakeE C n m sp gV t tk σ H Q := k
def IsC (C : Addr) (H : Hp) (p : Addr) : Prop := ∃ dx fs, H p = some (.ins C dx fs)
theorem isC_of (S : Sts H (pto p (.ins C dx fs) :: L)) : IsC C H p := ⟨dx, fs, S.hd⟩
def kOwn (C : Addr) (sp : Sp) (E : XK) (Q : VK) (x y : V) (H : Hp) : Prop := ∃ p q, x = .ref p ∧ y = .ref q ∧ IsC C H p ∧ IsC C H q ∧ sp [.ref p, .ref q] H Q E
theorem g_own2 {E : L2.St → XK} (k : ta σ H fun x H1 => tb σ H1 fun y H2 => kOwn C sp (E σ) Q x y H2) : tOwn2 C sp E ta tb σ H Q := k
theorem g_kOwn {E : XK} (h : IsC C H p) (h2 : IsC C H q) (k : sp [.ref p, .ref q] H Q E) : kOwn C sp E Q (.ref p) (.ref q) H := ⟨p, q, rfl, rfl, h, h2, k⟩
theorem isIns_of (S : Sts H (pto p (.ins C dx fs) :: L)) (l : fs.lookup m = none) : IsIns C m H p := ⟨dx, fs, S.hd, l⟩
def qEqOwn (C : Addr) (sp : Sp) : R2 := fun x y H Q => ∃ p q, x = .ref p ∧ y = .ref q ∧ IsC C H p ∧ IsC C H q ∧ sp [.ref p, .ref q] H Q E0
theorem g_eqOwn (h : IsC C H p) (h2 : IsC C H q) (k : sp [.ref p, .ref q] H Q E0) : qEqOwn C sp (.ref p) (.ref q) H Q := ⟨p, q, rfl, rfl, h, h2, k⟩
def qIsiC (C : Addr) : List V → Hp → VK → Prop := fun xs H Q => ∃ p, xs = [.ref p, .ref C] ∧ IsC C H p ∧ Q (.bl true) H
theorem g_isiC (h : IsC C H p) (k : Q (.bl true) H) : qIsiC C [.ref p, .ref C] H Q := ⟨p, rfl, h, k⟩
def qEqOs (K : PySem.W.Frag) : R2 := fun x y H Q => ∃ a b, ∃ ns ms : List (Option Int), x = .ref a ∧ y = .ref b ∧ SqL K H a (ns.map ov) ∧ SqL K H b (ms.map ov) ∧ Q (.bl (decide (ns = ms))) H
def qNeOs (K : PySem.W.Frag) : R2 := fun x y H Q => ∃ a b, ∃ ns ms : List (Option Int), x = .ref a ∧ y = .ref b ∧ SqL K H a (ns.map ov) ∧ SqL K H b (ms.map ov) ∧ Q (.bl (!decide (ns = ms))) H
theorem g_eqOs (h : SqL K H a (os.map ov)) (h2 : SqL K H b (us.map ov)) (k : Q (.bl (decide (os = us))) H) : qEqOs K (.ref a) (.ref b) H Q := ⟨a, b, os, us, rfl, rfl, h, h2, k⟩
theorem g_neOs (h : SqL K H a (os.map ov)) (h2 : SqL K H b (us.map ov)) (k : Q (.bl (!decide (os = us))) H) : qNeOs K (.ref a) (.ref b) H Q := ⟨a, b, os, us, rfl, rfl, h, h2, k⟩
def qIxO (K : PySem.W.Frag) : R2 := fun x y H Q => ∃ p, ∃ (ns : List (Option Int)) (i : Int), x = .ref p ∧ y = .int i ∧ SqL K H p (ns.map ov) ∧ (0 ≤ i ∧ i < ns.length) ∧ Q (ov (gO ns i)) H
theorem g_ixO (h : SqL K H a (os.map ov)) (b : 0 ≤ i ∧ i < os.length) (k : Q (ov (gO os i)) H) : qIxO K (.ref a) (.int i) H Q := ⟨a, os, i, rfl, rfl, h, b, k⟩
def qInsI : V → List V → Hp → VK → Prop := fun x vs H Q => ∃ l k j, x = .ref l ∧ vs = [.int k, .int j] ∧ ∃ (ns : List Int) (L : List Asr), Sts H (pto l (.lst (ns.map V.int)) :: L) ∧ (ns.length ≤ 1000000 ∧ 0 ≤ k ∧ k < 1000000) ∧ ∀ H', Sts H' (pto l (.lst ((ns.take k.toNat ++ [j] ++ ns.drop k.toNat).map V.int)) :: L) → Q .non H'
theorem g_insI (S : Sts H (pto a (.lst (ns.map V.int)) :: L)) (l : ns.length ≤ 1000000 ∧ 0 ≤ i ∧ i < 1000000) (k : ∀ H', Sts H' (pto a (.lst ((ns.take i.toNat ++ [j] ++ ns.drop i.toNat).map V.int)) :: L) → Q .non H') : qInsI (.ref a) [.int i, .int j] H Q := ⟨a, i, j, rfl, rfl, ns, L, S, l, k⟩
end
/-! own errors -/
section
variable {σ : L2.St} {H : Hp} {Q : VK} {D : Ends} {a d C : Addr} {y : V} {vs dvs : List V} {L M : List Asr} {f : Str} {sp : Sp} {fs : List (Str × V)} {to te : TE} {ta : TA} {R : L2.St → Hp → Prop} {E : XK}
def kOst1 (C : Addr) (f : Str) (y : V) (R : L2.St → Hp → Prop) (σ : L2.St) : VK := fun x H => ∃ a, x = .ref a ∧ ∃ L, Sts H (pto a (exo a C none) :: L) ∧ ∀ dx H', Sts H' (pto a (exo a C (some dx)) :: pto dx (exd dx [(f, y)]) :: L) → R σ H'
theorem g_ost1 (k : te σ H fun y H1 => to σ H1 (kOst1 C f y D.nx σ)) : sOst1 C f to te D σ H := k
theorem g_kOst1 (S : Sts H (pto a (exo a C none) :: L)) (k : ∀ dx H', Sts H' (pto a (exo a C (some dx)) :: pto dx (exd dx [(f, y)]) :: L) → R σ H') : kOst1 C f y R σ (.ref a) H := ⟨a, rfl, L, S, k⟩
def kOst2 (C : Addr) (f : Str) (y : V) (R : L2.St → Hp → Prop) (σ : L2.St) : VK := fun x H => ∃ a, x = .ref a ∧ ∃ dx fs L, Sts H (pto a (exo a C (some dx)) :: pto dx (exd dx fs) :: L) ∧ fs.length ≤ 900 ∧ ∀ H', Sts H' (pto a (exo a C (some dx)) :: pto dx (exd dx ((f, y) :: fs)) :: L) → R σ H'
theorem g_ost2 (k : te σ H fun y H1 => to σ H1 (kOst2 C f y D.nx σ)) : sOst2 C f to te D σ H := k
theorem g_kOst2 {dx : Addr} (S : Sts H (pto a (exo a C (some dx)) :: pto dx (exd dx fs) :: L)) (l : fs.length ≤ 900) (k : ∀ H', Sts H' (pto a (exo a C (some dx)) :: pto dx (exd dx ((f, y) :: fs)) :: L) → R σ H') : kOst2 C f y R σ (.ref a) H := ⟨a, rfl, dx, fs, L, S, l, k⟩
/-- what an error's __init__ leaves; what is raised then -/
def kXR (C : Addr) (L : List Asr) (H1 : Hp) (Q : XK) (a : Addr) : VK := fun v H2 => v = .non ∧ ∃ d fs M, Sts H2 (pto a (exo a C (some d)) :: pto d (exd d fs) :: whole H1 :: imw H1 :: M) ∧ ∀ H3, Sts H3 (pto d (.xd fs) :: (L ++ M)) → Q (.ref C) (some d) H3
def kMkX (C : Addr) (sp : Sp) (dvs : List V) (Q : XK) (vs : List V) (H1 : Hp) : Prop := vs.length ≤ 1000 ∧ ∃ L, Sts H1 L ∧ ∀ a H', Sts H' (pto a (exo a C none) :: [whole H1, imw H1]) → sp (.ref a :: (vs ++ dvs)) H' (kXR C L H1 Q a) E0
theorem g_mkX (k : ta σ H (kMkX C sp dvs E)) : tMkX C sp dvs ta σ H E := k
theorem g_kMkX (l : vs.length ≤ 1000) (S : Sts H L) (k : ∀ a H', Sts H' (pto a (exo a C none) :: [whole H, imw H]) → sp (.ref a :: (vs ++ dvs)) H' (kXR C L H E a) E0) : kMkX C sp dvs E vs H := ⟨l, L, S, k⟩
theorem g_kXR {H1 : Hp} (S : Sts H (pto a (exo a C (some d)) :: pto d (exd d fs) :: [whole H1, imw H1])) (k : ∀ H3, Sts H3 (pto d (.xd fs) :: L) → E (.ref C) (some d) H3) : kXR C L H1 E a .non H := ⟨rfl, d, fs, [], S, fun H3 T => k H3 (by rwa [List.append_nil] at T)⟩
def qIsE (D : Addr) (cls : Value) (d : Option Addr) (a : Addr) (c : V) (b : Bool) : List V → Hp → VK → Prop := fun xs H Q => cls = .ref D ∧ xs = [.ref a, c] ∧ (∃ dd fs, d = some dd ∧ H dd = some (.xd fs)) ∧ Q (.bl b) H
theorem g_isE {c : V} {b : Bool} (h : H d = some (.xd fs)) (k : Q (.bl b) H) : qIsE C (.ref C) (some d) a c b [.ref a, c] H Q := ⟨rfl, rfl, ⟨d, fs, rfl, h⟩, k⟩
def kXf (a : Addr) (cls : Value) (d : Option Addr) (C : Addr) (f : Str) (Q : VK) : VK := fun x H1 => x = .ref a ∧ cls = .ref C ∧ ∃ (dd : Addr) (fs : List (Str × V)) (v : V), d = some dd ∧ H1 dd = some (.xd fs) ∧ fs.lookup f = some v ∧ Q v H1
theorem g_xf {cls : Value} {o : Option Addr} (k : te σ H (kXf a cls o C f Q)) : tXf a cls o C f te σ H Q := k
theorem g_kXf {v : V} (h : H d = some (.xd fs)) (l : fs.lookup f = some v) (k : Q v H) : kXf a (.ref C) (some d) C f Q (.ref a) H := ⟨rfl, rfl, d, fs, v, rfl, h, l, k⟩
def sRaiseO (t : L2.St → Hp → XK → Prop) (W : WX) : TS := fun _ σ H => t σ H fun cls d H' => W cls d σ H'
theorem g_raise {t : L2.St → Hp → XK → Prop} {W : WX} (k : t σ H fun cls d H' => W cls d σ H') : sRaiseO t W D σ H := k
end
section
variable {X : Cx} {K : PySem.W.Frag} {C : Addr}
theorem v_eqOwn {k : Nat} {g : Addr} {fd : FuncData} {ps : List Str} {sp : Sp} (hs : PySem.W.findIn X.K (.ref C) "__eq__" = some (some (.ref g))) (hf : PySem.W.isFn X.K (.ref g) = true)
    (F : FnOk X.prog X.w X.K X.mg X.base CX0 k g fd ps sp) (hr : Room k X.A) (hb : Binds X.K fd ps []) : OpR X (compareOp .Eq) (qEqOwn C sp) := oc_eqOwn hs hf F hr hb
theorem v_isiC (c : C8.InsC X.K C) : CallR X (.builtin "isinstance") (qIsiC C) := oc_isiC c
theorem v_eqOs (hK : X.K = K) (hu : X.A.units + 64 < cLine) : OpR X (compareOp .Eq) (qEqOs K) := oc_eq_opts hK hu
theorem v_neOs (hK : X.K = K) (hu : X.A.units + 64 < cLine) : OpR X (compareOp .NotEq) (qNeOs K) := oc_ne_opts hK hu
theorem v_ixO (hK : X.K = K) : IxR X (qIxO K) := oc_ixO hK
theorem v_raise {W : WX} {t : L2.St → Hp → XK → Prop} {e : Expr} {pos : Pos} (hc : X.calm = true) (tk : L2N.Takes X W) (he : L2N.PMk X e t) : PS X (.Raise (some e) none pos) (sRaiseO t W) := oc_raise hc tk he
theorem v_isE {a D : Addr} {oe : Obj} {d : Option Addr} {cls : Value} {pn : List (Addr × Obj)} {c : V} {cv : Value} {b : Bool} (hC : ExcC X.K D) (hz : Zc cls d oe) (hf : ∃ vs, oe.data = .fields vs) (hk : PySem.W.kitOne X.K (.ref D) cv = some b) (hcv : ∀ u, RelV c u → u = cv) :
    CallR (X.suite a ((a, oe) :: pn)) (.builtin "isinstance") (qIsE D cls d a c b) := oc_isE hC hz hf hk hcv
theorem v_insertI : MtR X "list.insert" qInsI := oc_insertI
end
end Oc
/-! ### lists of pairs, dicts whose keys are pairs -/
namespace Oc
open PySem PySem.Spec PyProof.Rows L2
abbrev PI2 := Int × Int
abbrev pV (p : PI2) : List V := [.int p.1, .int p.2]
/-- a list of the tuples ts, the pairs ps -/
def Prs (τ : Tmap) (ts : List Addr) (ps : List PI2) : Prop := ts.map τ = ps.map fun p => some (pV p)
def PrH (H : Hp) (ts : List Addr) (ps : List PI2) : Prop := ts.map H = ps.map fun p => some (.tup (pV p))
theorem Prs.len {τ : Tmap} {ts : List Addr} {ps : List PI2} (h : Prs τ ts ps) : ts.length = ps.length := by
  have z := congrArg List.length h
  rwa [List.length_map, List.length_map] at z
theorem Prs.at {τ : Tmap} {ts : List Addr} {ps : List PI2} (h : Prs τ ts ps) {i : Nat} {t : Addr} (e : ts[i]? = some t) : ∃ p, ps[i]? = some p ∧ τ t = some (pV p) := by
  have z := congrArg (fun l => l[i]?) h
  simp only [List.getElem?_map, e] at z
  cases q : ps[i]? with
  | none =>
    rw [q] at z
    cases z
  | some p =>
    rw [q] at z
    exact ⟨p, rfl, Option.some.inj z⟩
theorem Prs.at' {τ : Tmap} {ts : List Addr} {ps : List PI2} (h : Prs τ ts ps) {i : Nat} {p : PI2} (e : ps[i]? = some p) : ∃ t, ts[i]? = some t ∧ τ t = some (pV p) := by
  have z := congrArg (fun l => l[i]?) h
  simp only [List.getElem?_map, e] at z
  cases q : ts[i]? with
  | none =>
    rw [q] at z
    cases z
  | some t =>
    rw [q] at z
    exact ⟨t, rfl, Option.some.inj z⟩
theorem Prs.mono {τ υ : Tmap} (l : Le τ υ) : ∀ {ts : List Addr} {ps : List PI2}, Prs τ ts ps → Prs υ ts ps
  | [], [], _ => rfl
  | [], _ :: _, h => by simp [Prs] at h
  | _ :: _, [], h => by simp [Prs] at h
  | t :: ts, p :: ps, h => by
    obtain ⟨h1, h2⟩ := List.cons.inj h
    have z := Prs.mono l (ts := ts) (ps := ps) h2
    show υ t :: ts.map υ = some (pV p) :: ps.map _
    rw [l t _ h1]
    exact congrArg _ z
theorem Prs.app {τ : Tmap} {ts us : List Addr} {ps qs : List PI2} (h : Prs τ ts ps) (g : Prs τ us qs) : Prs τ (ts ++ us) (ps ++ qs) := by
  unfold Prs
  rw [List.map_append, List.map_append, h, g]
theorem Prs.snoc {τ : Tmap} {ts : List Addr} {ps : List PI2} (h : Prs τ ts ps) {t : Addr} {p : PI2} (e : τ t = some (pV p)) : Prs τ (ts ++ [t]) (ps ++ [p]) := h.app (by show [τ t] = [some (pV p)]; rw [e])
theorem Prs.nil {τ : Tmap} : Prs τ [] [] := rfl
theorem Prs.take {τ : Tmap} {ts : List Addr} {ps : List PI2} (h : Prs τ ts ps) (n : Nat) : Prs τ (ts.take n) (ps.take n) := by
  unfold Prs
  rw [List.map_take, List.map_take, h]
theorem Prs.drop {τ : Tmap} {ts : List Addr} {ps : List PI2} (h : Prs τ ts ps) (n : Nat) : Prs τ (ts.drop n) (ps.drop n) := by
  unfold Prs
  rw [List.map_drop, List.map_drop, h]
theorem Sts.learnL {L : List Asr} : ∀ {τ : Tmap} {H : Hp} {ts : List Addr} {ps : List PI2}, Sts H (.im τ :: L) → PrH H ts ps → ∃ υ, Le τ υ ∧ Prs υ ts ps ∧ Sts H (.im υ :: L)
  | τ, H, [], [], S, _ => ⟨τ, Le.refl _, rfl, S⟩
  | _, _, [], _ :: _, _, h => by simp [PrH] at h
  | _, _, _ :: _, [], _, h => by simp [PrH] at h
  | τ, H, t :: ts, p :: ps, S, h => by
    obtain ⟨h1, h2⟩ := List.cons.inj h
    obtain ⟨υ, l1, e1, S1⟩ := S.learn h1
    obtain ⟨φ, l2, r, S2⟩ := S1.learnL (ts := ts) (ps := ps) h2
    refine ⟨φ, l1.trans l2, ?_, S2⟩
    show φ t :: ts.map φ = some (pV p) :: ps.map _
    rw [l2 t _ e1]
    exact congrArg _ r
/-! the order -/
def leP (p q : PI2) : Bool := decide (p.1 < q.1 ∨ (p.1 = q.1 ∧ p.2 ≤ q.2))
theorem leP_iff {p q : PI2} : leP p q = true ↔ (p.1 < q.1 ∨ (p.1 = q.1 ∧ p.2 ≤ q.2)) := decide_eq_true_iff
theorem leP_tr (p q r : PI2) (h : leP p q = true) (g : leP q r = true) : leP p r = true := by
  rw [leP_iff] at *
  omega
theorem leP_total (p q : PI2) : (leP p q || leP q p) = true := by
  rw [Bool.or_eq_true, leP_iff, leP_iff]
  omega
theorem leP_asymm {p q : PI2} (h : leP p q = true) (g : leP q p = true) : p = q := by
  rw [leP_iff] at *
  exact Prod.ext (by omega) (by omega)
def srt (ps : List PI2) : List PI2 := ps.mergeSort leP
theorem srt_perm (ps : List PI2) : (srt ps).Perm ps := List.mergeSort_perm ps leP
theorem srt_pw (ps : List PI2) : (srt ps).Pairwise fun p q => leP p q = true := List.pairwise_mergeSort leP_tr leP_total ps
theorem srt_len (ps : List PI2) : (srt ps).length = ps.length := (srt_perm ps).length_eq
theorem srt_mem {ps : List PI2} {p : PI2} : p ∈ srt ps ↔ p ∈ ps := (srt_perm ps).mem_iff
theorem pw_uniq : ∀ {l m : List PI2}, l.Perm m → (l.Pairwise fun p q => leP p q = true) → (m.Pairwise fun p q => leP p q = true) → l = m
  | [], m, h, _, _ => h.nil_eq
  | a :: l, [], h, _, _ => absurd h.length_eq (by simp)
  | a :: l, b :: m, h, hl, hm => by
    obtain ⟨ha, hl'⟩ := List.pairwise_cons.mp hl
    obtain ⟨hb, hm'⟩ := List.pairwise_cons.mp hm
    have e : a = b := by
      have h1 : a ∈ b :: m := h.mem_iff.mp List.mem_cons_self
      have h2 : b ∈ a :: l := h.mem_iff.mpr List.mem_cons_self
      rcases List.mem_cons.mp h1 with q | q
      · exact q
      · rcases List.mem_cons.mp h2 with r | r
        · exact r.symm
        · exact leP_asymm (ha b r) (hb a q)
    subst e
    rw [pw_uniq h.cons_inv hl' hm']
theorem srt_uniq {l m : List PI2} (h : l.Perm m) (p : l.Pairwise fun p q => leP p q = true) : l = srt m := pw_uniq (h.trans (srt_perm m).symm) p (srt_pw m)
theorem srt_congr {l m : List PI2} (h : l.Perm m) : srt l = srt m := srt_uniq ((srt_perm l).trans h) (srt_pw l)
theorem lexB_leP {p q : PI2} (h : SrtO.lexB q p = false) : leP p q = true := by
  have z := SrtO.lexB_no.mp h
  rw [leP_iff]
  omega
/-! a list that is sorted -/
def kP (H : Hp) : V → PI2
  | .ref t => match H t with | some (.tup [.int i, .int j]) => (i, j) | _ => (0, 0)
  | _ => (0, 0)
theorem kP_of {H : Hp} {t : Addr} {p : PI2} (e : H t = some (.tup (pV p))) : kP H (.ref t) = p := by
  show (match H t with | some (.tup [.int i, .int j]) => (i, j) | _ => (0, 0)) = p
  rw [e]
theorem PrH.at {H : Hp} {ts : List Addr} {ps : List PI2} (h : PrH H ts ps) {t : Addr} (m : t ∈ ts) : ∃ p, p ∈ ps ∧ H t = some (.tup (pV p)) := by
  have z : H t ∈ ts.map H := List.mem_map_of_mem m
  rw [h] at z
  obtain ⟨p, hp, e⟩ := List.mem_map.mp z
  exact ⟨p, hp, e.symm⟩
theorem PrH.kP {H : Hp} {ts : List Addr} {ps : List PI2} (h : PrH H ts ps) : ts.map (fun t => kP H (.ref t)) = ps := by
  unfold PrH at h
  induction ts generalizing ps with
  | nil =>
    cases ps with
    | nil => rfl
    | cons a b => simp at h
  | cons t ts ih =>
    cases ps with
    | nil => simp at h
    | cons p ps =>
      obtain ⟨h1, h2⟩ := List.cons.inj h
      rw [List.map_cons, kP_of h1, ih h2]
theorem PrH.perm {H : Hp} {ts us : List Addr} {ps : List PI2} (h : PrH H ts ps) (m : us.Perm ts) : PrH H us (us.map fun t => Oc.kP H (.ref t)) := by
  unfold PrH
  rw [List.map_map]
  refine List.map_congr_left fun t ht => ?_
  obtain ⟨p, _, e⟩ := h.at (m.mem_iff.mp ht)
  show H t = some (.tup (pV (Oc.kP H (.ref t))))
  rw [kP_of e, e]
/-- us, sorted by their pairs -/
theorem PrH.sorted {H : Hp} {ts us : List Addr} {ps : List PI2} (h : PrH H ts ps) (m : us.Perm ts) (s : us.Pairwise fun t u => SrtO.lexB (Oc.kP H (.ref u)) (Oc.kP H (.ref t)) = false) : PrH H us (srt ps) := by
  have z := h.perm m
  have e : us.map (fun t => Oc.kP H (.ref t)) = srt ps := by
    refine srt_uniq ?_ ?_
    · rw [← h.kP]
      exact m.map _
    · rw [List.pairwise_map]
      exact s.imp fun h => lexB_leP h
  rwa [e] at z
def qSortP (K : PySem.W.Frag) : List V → Hp → VK → Prop := fun vs H Q => ∃ (a : Addr) (ts : List Addr) (ps : List PI2), vs = [V.ref a] ∧ SqL K H a (ts.map V.ref) ∧ PrH H ts ps ∧ ∀ us, PrH H us (srt ps) → qNew H (.lst (us.map V.ref)) Q
theorem refs_of {ys : List V} {ts : List Addr} (h : ys.Perm (ts.map V.ref)) : ∃ us : List Addr, ys = us.map V.ref ∧ us.Perm ts := by
  have hm : ∀ y ∈ ys, ∃ t, y = V.ref t := fun y hy => by
    obtain ⟨t, _, e⟩ := List.mem_map.mp (h.mem_iff.mp hy)
    exact ⟨t, e.symm⟩
  have g : ∀ l : List V, (∀ y ∈ l, ∃ t, y = V.ref t) → ∃ us : List Addr, l = us.map V.ref := by
    intro l
    induction l with
    | nil => exact fun _ => ⟨[], rfl⟩
    | cons y l ih =>
      intro hm
      obtain ⟨t, e⟩ := hm y List.mem_cons_self
      obtain ⟨us, e2⟩ := ih fun z hz => hm z (List.mem_cons_of_mem _ hz)
      exact ⟨t :: us, by rw [e, e2]; rfl⟩
  obtain ⟨us, e⟩ := g ys hm
  refine ⟨us, e, ?_⟩
  rw [e] at h
  let f : V → Addr := fun v => match v with | .ref t => t | _ => 0
  have z := h.map f
  have e1 : ∀ l : List Addr, (l.map V.ref).map f = l := fun l => by
    rw [List.map_map]
    exact (List.map_congr_left fun t _ => rfl).trans (List.map_id l)
  rwa [e1, e1] at z
section
variable {X : Cx} {K : PySem.W.Frag}
theorem v_sortP (hK : X.K = K) : CallR X (.builtin "sorted") (qSortP K) := by
  subst hK
  intro pins s σ H vs us Q I r ⟨a, ts, ps, e, hs, hp, q⟩
  refine cr_sortedPO pins s σ H vs us Q I r ⟨a, ts.map V.ref, kP H, e, hs, fun x hx => ?_, fun ys p h1 h2 np => ?_⟩
  · obtain ⟨t, ht, rfl⟩ := List.mem_map.mp hx
    obtain ⟨p, _, e2⟩ := hp.at ht
    exact ⟨t, rfl, by rw [kP_of e2]; exact e2⟩
  · obtain ⟨us2, rfl, hperm⟩ := refs_of h2.perm
    refine q us2 (hp.sorted hperm ?_) p np
    have z := List.pairwise_map.mp h1
    exact z
/-- the keys of a dict, sorted: pairs of ints -/
def pk (p : PI2) : List Key := [.inl p.1, .inl p.2]
theorem pk_V (p : PI2) : (pk p).map kV = pV p := rfl
def qSortDT : List V → Hp → VK → Prop := fun vs H Q => ∃ (d : Addr) (kvs : List (List Key × V)) (ps : List PI2), vs = [V.ref d] ∧ H d = some (.dT kvs) ∧ kvs.map (·.1) = ps.map pk ∧ ∀ us, PrH H us (srt ps) → qNew H (.lst (us.map V.ref)) Q
theorem isKeys_PrH {H : Hp} : ∀ {kvs : List (List Key × V)} {bs : List Addr} {ps : List PI2}, IsKeys H kvs bs → kvs.map (·.1) = ps.map pk → PrH H bs ps
  | [], _, [], h, _ => by
    cases h
    rfl
  | [], _, _ :: _, _, e => by simp at e
  | _ :: _, _, [], _, e => by simp at e
  | kv :: kvs, _, p :: ps, h, e => by
    cases h with
    | cons h1 h2 =>
      obtain ⟨e1, e2⟩ := List.cons.inj e
      have z := isKeys_PrH (ps := ps) h2 e2
      have e1 : kv.1 = pk p := e1
      rw [e1] at h1
      show _ :: _ = _ :: _
      rw [h1, z]
      rfl
theorem v_sortDT (hc : X.calm = true) : CallR X (.builtin "sorted") qSortDT := by
  intro pins s σ H xs us Q I r ⟨d, kvs, ps, e, hd, hk, q⟩
  subst e
  obtain ⟨u, rfl, rx⟩ := r.one
  cases rx
  obtain ⟨z, hs, ks, pr, o, es, ep, ho, hx, hdt, he, hn⟩ := (show ObjOk X.prog X.w H s.heap d (.dT kvs) from I.hok _ _ hd)
  have l1 : es.size = ks.length := size_of_entries he
  have l2 : kvs.length = ks.length := Paired.length pr
  have hP : PrH H (ks.map fun x => x.2.1) ps := isKeys_PrH (isKeys_of pr) hk
  have h16 : es.size ≤ sizeLine := by omega
  refine Calls.call_function_entry PyProof.Rows.kind_sorted PyProof.Rows.plain_sorted PyProof.Rows.entry_sorted (PyProof.Rows.args_sorted1 _) ?_
  unfold Builtin.«sorted»
  refine wpAny_bind (m := checkCount "sorted" 1 1 _) (wpAny_pure ?_)
  refine wpAny_bind (PySem.W.kdu_collect (A := X.A.in1) (kdl_raw hs hx hdt) (I.ok.hd hc) ho h16 fun h' tk acc kp it => ?_)
  have ea : acc.toList = (ks.map fun x => x.2.1).map Value.ref := by
    rw [List.map_map]
    have hl : acc.toList.length = ks.length := by rw [Array.length_toList, it.1]; exact l1
    apply List.ext_getElem?
    intro j
    rw [List.getElem?_map]
    cases hj : acc.toList[j]? with
    | none =>
      have h1 := List.getElem?_eq_none_iff.mp hj
      rw [List.getElem?_eq_none (by omega)]
      all_goals rfl
    | some v =>
      obtain ⟨en, hen, hv⟩ := it.2 j v (by rw [← Array.getElem?_toList]; exact hj)
      have qe := entry_at he j
      rw [hen] at qe
      cases hb : ks[j]? with
      | none =>
        rw [hb] at qe
        exact nomatch (show some en = none from qe)
      | some b =>
        rw [hb] at qe
        have e2 : en = entryOfKey (tupleKind (mixKind X.prog X.w)) b := Option.some.inj qe
        rw [hv, e2]
        all_goals rfl
  have hal : acc.toList.length ≤ sizeLine := by rw [Array.length_toList, it.1]; exact h16
  generalize hbs : (ks.map fun x => x.2.1) = bs at *
  have I1 : Inv X pins σ H { s with heap := h', toks := tk } := I.kept kp
  refine wpAny_bind (wpAny_newList ?_ hal)
  have hoL : (h'.push (seqObj "list" acc.toList.toArray 0)).get? h'.objs.size = some (seqObj "list" acc.toList.toArray 0) := Heap.get?_push_size _ rfl
  have kp2 : ∀ b o, h'.get? b = some o → (h'.push (seqObj "list" acc.toList.toArray 0)).get? b = some o := fun b o q => Heap.get?_push_of_some _ q
  let kf : Value → PI2 := fun v => kP H (backV v)
  have hpair : ∀ v ∈ acc.toList, Srt.IsPair (h'.push (seqObj "list" acc.toList.toArray 0)) v (kf v).1 (kf v).2 := fun v hv => by
    rw [ea] at hv
    obtain ⟨t, ht, rfl⟩ := List.mem_map.mp hv
    obtain ⟨p, _, e2⟩ := hP.at ht
    obtain ⟨_, its2, r2, o2, ho2, hc2, n2, hd2⟩ := I1.hok _ _ e2
    obtain ⟨u1, u2, rfl, ri, rj⟩ := vals2 r2
    obtain ⟨t1, rfl⟩ := ri
    obtain ⟨t2, rfl⟩ := rj
    have ek : kf (Value.ref t) = p := kP_of e2
    rw [ek]
    exact ⟨t, o2, t1, t2, n2, rfl, kp2 _ _ ho2, hc2, hd2⟩
  show wpAny _ _ _ _ _ { s with heap := h'.push (seqObj "list" acc.toList.toArray 0), toks := tk }
  refine wpAny_bind (wpAny_holding (wpAny_call_entry PyProof.Rows.slot_list_sort ⟨_, hoL, rfl⟩ PyProof.Rows.entry_list_sort
    (SrtO.list_sort_ord (s := { s with heap := h'.push (seqObj "list" acc.toList.toArray 0), toks := tk }) (SrtO.swo_lex kf) hoL hal (fun h2 => SrtO.pairs_sortableO (k := kf) (by omega) hpair fun o e => ?_) fun out g1 g2 => ⟨_, rfl, ?_⟩) (PyProof.Rows.args_list_sort _)))
  · have e' : some o = some (seqObj "list" acc.toList.toArray 0) := e.symm.trans hoL
    cases e'
    intro c
    exact absurd (Value.type.inj c) (by decide)
  · obtain ⟨e', he'⟩ := PyProof.Rows.sortedHeap_at (vs := acc.toList) (out := out.toArray) hoL
    have hperm : out.Perm (bs.map Value.ref) := by rw [← ea]; exact g2.perm
    obtain ⟨cs, hcs, hcp⟩ : ∃ cs : List Addr, out = cs.map Value.ref ∧ cs.Perm bs := by
      have hp2 : (out.map backV).Perm (bs.map V.ref) := by
        have z := hperm.map backV
        rw [List.map_map] at z
        exact z
      obtain ⟨cs, e1, e2⟩ := refs_of hp2
      refine ⟨cs, ?_, e2⟩
      have hm : ∀ v ∈ out, ∃ t, v = Value.ref t := fun v hv => by
        obtain ⟨t, _, e⟩ := List.mem_map.mp (hperm.mem_iff.mp hv)
        exact ⟨t, e.symm⟩
      clear he' g1 g2 hperm hp2 e2
      induction out generalizing cs with
      | nil =>
        cases cs with
        | nil => rfl
        | cons a b => simp at e1
      | cons v out ih =>
        cases cs with
        | nil => simp at e1
        | cons c cs =>
          obtain ⟨f1, f2⟩ := List.cons.inj e1
          obtain ⟨t, rfl⟩ := hm v List.mem_cons_self
          have f1 : V.ref t = V.ref c := f1
          cases f1
          rw [ih cs f2 fun w hw => hm w (List.mem_cons_of_mem _ hw)]
          rfl
    subst hcs
    have hlen : (cs.map V.ref).length ≤ sizeLine := by
      rw [List.length_map, hcp.length_eq, ← List.length_map (f := Value.ref), ← ea]
      exact hal
    refine wpAny_pure ⟨_, rfl, .ref h'.objs.size, upd H h'.objs.size (.lst (cs.map V.ref)), I1.laid (t' := tk) (fun b u e => ?_) (Nat.le_refl _) ⟨hlen, cs.map Value.ref, e', vals_refs cs, he'⟩, rfl, ?_⟩
    · rw [PyProof.Rows.sortedHeap_old (Nat.ne_of_lt (Heap.lt_size e)) (by rw [size_push']; exact Nat.lt_succ_of_lt (Heap.lt_size e))]
      exact kp2 _ _ e
    · refine q cs (hP.sorted hcp ?_) _ (I1.hok.fresh (Nat.le_refl _))
      exact (List.pairwise_map.mp g1)
end
end Oc
/-! ### pairs as data: ==, in; dicts by pairs; rows -/
namespace Oc
open PySem PySem.Spec PyProof.Rows L2
def pdP (p : PI2) : PyData := .tuple [.int p.1, .int p.2]
theorem dp_pair {K : PySem.W.Frag} {H : Hp} {t : Addr} {p : PI2} (e : H t = some (.tup (pV p))) : Dp K H (.ref t) (pdP p) := .tup (SqT.of e) (.cons (.int _) (.cons (.int _) .nil))
theorem dp_pairs {K : PySem.W.Frag} {H : Hp} : ∀ {ts : List Addr} {ps : List PI2}, PrH H ts ps → DpAll K H (ts.map V.ref) (ps.map pdP)
  | [], [], _ => .nil
  | [], _ :: _, h => by simp [PrH] at h
  | _ :: _, [], h => by simp [PrH] at h
  | t :: ts, p :: ps, h => by
    obtain ⟨h1, h2⟩ := List.cons.inj h
    exact .cons (dp_pair h1) (dp_pairs (ts := ts) (ps := ps) h2)
theorem eqv_pair (p q : PI2) : PyData.eqv (pdP p) (pdP q) = decide (p = q) := by
  obtain ⟨a, b⟩ := p
  obtain ⟨c, d⟩ := q
  simp only [pdP, PyData.eqv, PyData.eqvAll]
  by_cases h1 : a = c <;> by_cases h2 : b = d <;> simp [h1, h2]
theorem eqv_pairs : ∀ ps qs : List PI2, PyData.eqvAll (ps.map pdP) (qs.map pdP) = decide (ps = qs)
  | [], [] => by simp [PyData.eqvAll]
  | [], _ :: _ => by simp [PyData.eqvAll]
  | _ :: _, [] => by simp [PyData.eqvAll]
  | p :: ps, q :: qs => by
    simp only [List.map_cons, PyData.eqvAll, eqv_pair, eqv_pairs ps qs]
    by_cases h1 : p = q <;> by_cases h2 : ps = qs <;> simp [h1, h2]
theorem lay_pair (p : PI2) : PyData.canLay0 (pdP p) = true := by simp [pdP, PyData.canLay0, PyData.canLayAll0]
theorem lay_pairs : ∀ ps : List PI2, PyData.canLayAll0 (ps.map pdP) = true
  | [] => by simp [PyData.canLayAll0]
  | p :: ps => by simp [PyData.canLayAll0, lay_pair, lay_pairs ps]
theorem depth_pair (p : PI2) : PyData.depth (pdP p) = 1 := by simp [pdP, PyData.depth, PyData.depthAll]
theorem depth_pairs : ∀ ps : List PI2, PyData.depthAll (ps.map pdP) ≤ 1
  | [] => by simp [PyData.depthAll]
  | p :: ps => by
    have := depth_pairs ps
    simp only [List.map_cons, PyData.depthAll, depth_pair]
    omega
theorem shaped_pair (p : PI2) : SeqAt.shaped (pdP p) = true := by
  unfold SeqAt.shaped
  rw [lay_pair, depth_pair]
  rfl
theorem shaped_pairs (ps : List PI2) : SeqAt.shaped (.list (ps.map pdP)) = true := by
  unfold SeqAt.shaped
  have e : PyData.canLay0 (.list (ps.map pdP)) = true := by simp [PyData.canLay0, lay_pairs]
  have d : PyData.depth (.list (ps.map pdP)) ≤ 64 := by
    have := depth_pairs ps
    simp only [PyData.depth]
    omega
  rw [e, Bool.true_and]
  exact decide_eq_true d
theorem any_pairs (ps : List PI2) (p : PI2) : ((ps.map pdP).any fun z => PyData.eqv z (pdP p)) = decide (p ∈ ps) := by
  rw [List.any_map]
  induction ps with
  | nil => rfl
  | cons q ps ih =>
    rw [List.any_cons, ih]
    show (PyData.eqv (pdP q) (pdP p) || decide (p ∈ ps)) = _
    rw [eqv_pair]
    by_cases h1 : q = p
    · subst h1
      simp
    · have h1' : ¬ p = q := fun e => h1 e.symm
      by_cases h2 : p ∈ ps <;> simp [h1, h1', h2]
def qInPs (K : PySem.W.Frag) (neg : Bool) : R2 := fun x y H Q => ∃ (t a : Addr) (ts : List Addr) (p : PI2) (ps : List PI2), x = .ref t ∧ y = .ref a ∧ H t = some (.tup (pV p)) ∧ SqL K H a (ts.map V.ref) ∧ PrH H ts ps ∧ Q (.bl (if neg then !decide (p ∈ ps) else decide (p ∈ ps))) H
def qEqPs (K : PySem.W.Frag) (neg : Bool) : R2 := fun x y H Q => ∃ (a b : Addr) (ts us : List Addr) (ps qs : List PI2), x = .ref a ∧ y = .ref b ∧ SqL K H a (ts.map V.ref) ∧ PrH H ts ps ∧ SqL K H b (us.map V.ref) ∧ PrH H us qs ∧ Q (.bl (if neg then !decide (ps = qs) else decide (ps = qs))) H
/-- i in (a, b) -/
def qInP (K : PySem.W.Frag) (neg : Bool) : R2 := fun x y H Q => ∃ (i : Int) (t : Addr) (p : PI2), x = .int i ∧ y = .ref t ∧ H t = some (.tup (pV p)) ∧ Q (.bl (if neg then !decide (i = p.1 ∨ i = p.2) else decide (i = p.1 ∨ i = p.2))) H
section
variable {X : Cx} {K : PySem.W.Frag}
theorem v_inPs (hK : X.K = K) (hu : X.A.units + 65 < cLine) : OpR X (compareOp .In) (qInPs K false) := by
  subst hK
  exact fun pins s σ H x y v u Q I rx ry ⟨t, a, ts, p, ps, e1, e2, ht, ha, hp, q⟩ => op_inD hu pins s σ H x y v u Q I rx ry ⟨pdP p, ps.map pdP, e1 ▸ dp_pair ht, e2 ▸ .lst ha (dp_pairs hp), shaped_pair p, shaped_pairs ps, by rw [any_pairs]; exact q⟩
theorem v_notInPs (hK : X.K = K) (hu : X.A.units + 65 < cLine) : OpR X (compareOp .NotIn) (qInPs K true) := by
  subst hK
  exact fun pins s σ H x y v u Q I rx ry ⟨t, a, ts, p, ps, e1, e2, ht, ha, hp, q⟩ => op_notInD hu pins s σ H x y v u Q I rx ry ⟨pdP p, ps.map pdP, e1 ▸ dp_pair ht, e2 ▸ .lst ha (dp_pairs hp), shaped_pair p, shaped_pairs ps, by rw [any_pairs]; exact q⟩
theorem v_eqPs (hK : X.K = K) (hu : X.A.units + 64 < cLine) : OpR X (compareOp .Eq) (qEqPs K false) := by
  subst hK
  exact fun pins s σ H x y v u Q I rx ry ⟨a, b, ts, us, ps, qs, e1, e2, ha, hp, hb, hq, q⟩ => op_eqD hu pins s σ H x y v u Q I rx ry ⟨.list (ps.map pdP), .list (qs.map pdP), e1 ▸ .lst ha (dp_pairs hp), e2 ▸ .lst hb (dp_pairs hq), shaped_pairs ps, shaped_pairs qs, by
    have e : PyData.eqv (.list (ps.map pdP)) (.list (qs.map pdP)) = decide (ps = qs) := by
      rw [← eqv_pairs]
      simp only [PyData.eqv]
    rw [e]
    exact q⟩
theorem v_nePs (hK : X.K = K) (hu : X.A.units + 64 < cLine) : OpR X (compareOp .NotEq) (qEqPs K true) := by
  subst hK
  exact fun pins s σ H x y v u Q I rx ry ⟨a, b, ts, us, ps, qs, e1, e2, ha, hp, hb, hq, q⟩ => op_neD hu pins s σ H x y v u Q I rx ry ⟨.list (ps.map pdP), .list (qs.map pdP), e1 ▸ .lst ha (dp_pairs hp), e2 ▸ .lst hb (dp_pairs hq), shaped_pairs ps, shaped_pairs qs, by
    have e : PyData.eqv (.list (ps.map pdP)) (.list (qs.map pdP)) = decide (ps = qs) := by
      rw [← eqv_pairs]
      simp only [PyData.eqv]
    rw [e]
    exact q⟩
theorem inV_pair (i a b : Int) : inV (.int i) [.int a, .int b] = decide (i = a ∨ i = b) := by
  have z := in_ints i [a, b]
  have z : inV (.int i) [.int a, .int b] = _ := z
  rw [z]
  by_cases h1 : i = a <;> by_cases h2 : i = b <;> simp [h1, h2]
theorem v_inP (hK : X.K = K) : OpR X (compareOp .In) (qInP K false) := fun pins s σ H x y v u Q I rx ry ⟨i, t, p, e1, e2, ht, q⟩ =>
  op_in_seq pins s σ H x y v u Q I rx ry ⟨t, pV p, e2, .inr (SqT.of ht), by rw [e1]; rfl, rfl, by rw [e1]; show Q (.bl (inV (.int i) [.int p.1, .int p.2])) H; rw [inV_pair]; exact q⟩
theorem v_notInP (hK : X.K = K) : OpR X (compareOp .NotIn) (qInP K true) := fun pins s σ H x y v u Q I rx ry ⟨i, t, p, e1, e2, ht, q⟩ =>
  op_notIn_seq pins s σ H x y v u Q I rx ry ⟨t, pV p, e2, .inr (SqT.of ht), by rw [e1]; rfl, rfl, by rw [e1]; show Q (.bl (!inV (.int i) [.int p.1, .int p.2])) H; rw [inV_pair]; exact q⟩
end
/-! dicts by pairs -/
section
variable {α : Type}
def dT (f : α → V) (ps : List (PI2 × α)) : List (List Key × V) := ps.map fun p => (pk p.1, f p.2)
def getT (ps : List (PI2 × α)) (k : PI2) : Option α := (ps.find? fun p => decide (p.1 = k)).map (·.2)
def putT (ps : List (PI2 × α)) (k : PI2) (v : α) : List (PI2 × α) := if (ps.any fun p => decide (p.1 = k)) = true then ps.map (fun p => if p.1 = k then (p.1, v) else p) else ps ++ [(k, v)]
theorem pk_inj {p q : PI2} (h : pk p = pk q) : p = q := by
  obtain ⟨h1, h2⟩ := List.cons.inj h
  obtain ⟨h2, _⟩ := List.cons.inj h2
  exact Prod.ext (Sum.inl.inj h1) (Sum.inl.inj h2)
theorem pkeq (a b : PI2) : decide (pk a = pk b) = decide (a = b) := by
  by_cases h : a = b
  · rw [h, decide_eq_true rfl, decide_eq_true rfl]
  · rw [decide_eq_false h, decide_eq_false fun e => h (pk_inj e)]
theorem getT_pos {p : PI2 × α} {r : List (PI2 × α)} {k : PI2} (e : p.1 = k) : getT (p :: r) k = some p.2 := by simp [getT, List.find?_cons, e]
theorem getT_neg {p : PI2 × α} {r : List (PI2 × α)} {k : PI2} (e : ¬ p.1 = k) : getT (p :: r) k = getT r k := by simp [getT, List.find?_cons, e]
theorem valV_dT (f : α → V) (k : PI2) : ∀ ps : List (PI2 × α), valV (dT f ps) (pk k) = (getT ps k).map f
  | [] => rfl
  | p :: r => by
    by_cases e : p.1 = k
    · rw [getT_pos e]
      exact valV_pos (p := (pk p.1, f p.2)) (by rw [e])
    · rw [getT_neg e, ← valV_dT f k r]
      exact valV_neg (p := (pk p.1, f p.2)) (fun z => e (pk_inj z))
theorem putK_dT (f : α → V) (ps : List (PI2 × α)) (k : PI2) (v : α) : putK (dT f ps) (pk k) (f v) = dT f (putT ps k v) := by
  unfold putK putT
  have e : ((dT f ps).any fun kv => decide (kv.1 = pk k)) = ps.any fun p => decide (p.1 = k) := by
    unfold dT
    rw [List.any_map]
    congr 1
    funext p
    exact pkeq p.1 k
  rw [e]
  split
  · unfold dT
    rw [List.map_map, List.map_map]
    congr 1
    funext p
    show (if pk p.1 = pk k then (pk p.1, f v) else (pk p.1, f p.2)) = (pk (if p.1 = k then (p.1, v) else p).1, f (if p.1 = k then (p.1, v) else p).2)
    by_cases h : p.1 = k
    · rw [if_pos h, if_pos (by rw [h])]
    · rw [if_neg h, if_neg fun z => h (pk_inj z)]
  · unfold dT
    rw [List.map_append]
    rfl
theorem getT_some {k : PI2} : ∀ {ps : List (PI2 × α)}, (getT ps k).isSome = decide (k ∈ ps.map (·.1))
  | [] => rfl
  | p :: r => by
    by_cases e : p.1 = k
    · rw [getT_pos e]
      simp [e]
    · rw [getT_neg e, getT_some (ps := r)]
      have e' : ¬ k = p.1 := fun z => e z.symm
      simp [e']
theorem putT_new {ps : List (PI2 × α)} {k : PI2} {v : α} (h : k ∉ ps.map (·.1)) : putT ps k v = ps ++ [(k, v)] := by
  unfold putT
  rw [if_neg]
  intro z
  obtain ⟨p, hp, e⟩ := List.any_eq_true.mp z
  exact h (List.mem_map.mpr ⟨p, hp, of_decide_eq_true e⟩)
end
def kDIn (y : V) (neg : Bool) (Q : VK) : VK := fun x H2 => ∃ a o, x = .ref a ∧ DGet H2 a y o ∧ Q (.bl (if neg then !o.isSome else o.isSome)) H2
section
variable {σ : L2.St} {H : Hp} {Q : VK} {t d : Addr} {k : PI2} {α : Type} {f : α → V} {ps : List (PI2 × α)} {ty td : TE} {L : List Asr} {D : Ends}
theorem g_din (h : ty σ H fun y H1 => td σ H1 (kDIn y false Q)) : tDIn ty td σ H Q := h
theorem g_dnotin (h : ty σ H fun y H1 => td σ H1 (kDIn y true Q)) : tDNotIn ty td σ H Q := h
theorem g_kDInT {i j : Int} (h : H d = some (.dT (dT f ps))) (e : H t = some (.tup [.int i, .int j])) (q : Q (.bl (decide ((i, j) ∈ ps.map (·.1)))) H) : kDIn (.ref t) false Q (.ref d) H :=
  ⟨d, _, rfl, DGet.t (k := pk (i, j)) h e, by
    show Q (.bl ((valV (dT f ps) (pk (i, j))).isSome)) H
    rw [valV_dT, Option.isSome_map, getT_some]; exact q⟩
theorem g_kDNotInT {i j : Int} (h : H d = some (.dT (dT f ps))) (e : H t = some (.tup [.int i, .int j])) (q : Q (.bl (!decide ((i, j) ∈ ps.map (·.1)))) H) : kDIn (.ref t) true Q (.ref d) H :=
  ⟨d, _, rfl, DGet.t (k := pk (i, j)) h e, by
    show Q (.bl (!(valV (dT f ps) (pk (i, j))).isSome)) H
    rw [valV_dT, Option.isSome_map, getT_some]
    exact q⟩
end
/-- d[k] = v, k a pair -/
def qSetT {α : Type} (f : α → V) : TSet := fun o i v H Q => ∃ p t k, o = .ref p ∧ i = .ref t ∧ H t = some (.tup (pV k)) ∧ ∃ j, v = f j ∧ ∃ ps L, Sts H (pto p (.dT (dT f ps)) :: L) ∧ ps.length ≤ 1000000 ∧ ∀ H', Sts H' (pto p (.dT (dT f (putT ps k j))) :: L) → Q H'
theorem v_setT {X : Cx} {α : Type} (f : α → V) (hu : X.A.units + 1 < cLine) : PSet X (qSetT f) := by
  intro pn s0 σ H o i v ov iv u Q J ro ri rv ⟨p, t, k, eo, ei, ht, j, ev, ps, L, S, hl, q⟩
  subst eo ei ev
  cases ro
  refine d_setItem hu J (DPut.t (k := pk k) S.hd ht (small (by unfold dT; rw [List.length_map]; exact hl))) ri rv fun s1 J1 => ⟨_, J1, q _ ?_⟩
  rw [putK_dT]
  exact S.put _
theorem g_setT {α : Type} {f : α → V} {H : Hp} {p t : Addr} {x y : Int} {j : α} {ps : List (PI2 × α)} {L : List Asr} {R : Hp → Prop} (S : Sts H (pto p (.dT (dT f ps)) :: L)) (ht : H t = some (.tup [.int x, .int y])) (hl : ps.length ≤ 1000000) (q : ∀ H', Sts H' (pto p (.dT (dT f (putT ps (x, y) j))) :: L) → R H') : qSetT f (.ref p) (.ref t) (f j) H R :=
  ⟨p, t, (x, y), rfl, rfl, ht, j, rfl, ps, L, S, hl, q⟩
/-! reading pairs -/
section
variable {H : Hp} {τ υ : Tmap} {L : List Asr} {t : Addr} {p : PI2} {ts : List Addr} {ps : List PI2}
theorem Le.ap (l : Le τ υ) {vs : List V} (e : τ t = some vs) : υ t = some vs := l t vs e
theorem Sts.prs (S : Sts H (.im τ :: L)) (h : Prs τ ts ps) : PrH H ts ps := by
  unfold PrH
  have z : ts.map H = ts.map fun t => (τ t).map HO.tup := List.map_congr_left fun t ht => by
    have m : τ t ∈ ts.map τ := List.mem_map_of_mem ht
    rw [h] at m
    obtain ⟨p, _, e⟩ := List.mem_map.mp m
    rw [← e]
    exact S.tp e.symm
  rw [z]
  have y : (ts.map fun t => (τ t).map HO.tup) = (ts.map τ).map fun o => o.map HO.tup := by
    rw [List.map_map]
    rfl
  rw [y, h, List.map_map]
  rfl
end
/-! rows: lists that stand side by side -/
abbrev RowL := Addr × List Int
def rws (rs : List RowL) : List Asr := rs.map fun q => pto q.1 (.lst (q.2.map V.int))
structure rowc (rs : List RowL) (h : Hp) : Prop where
  st : St h (rws rs)
theorem rws_im {rs : List RowL} {τ : Tmap} : Asr.im τ ∉ rws rs := fun h => by
  obtain ⟨q, _, e⟩ := List.mem_map.mp h
  cases e
theorem rowc_open {rs : List RowL} {L : List Asr} {H : Hp} (S : Sts H (rowc rs :: L)) : Sts H (rws rs ++ L) := by
  obtain ⟨_, S⟩ := S.opn (f := fun _ : Unit => rws rs) (fun h a => ⟨(), a.st⟩) (fun _ _ => rws_im)
  exact S
theorem rowc_close {rs : List RowL} {L : List Asr} {H : Hp} (S : Sts H (rws rs ++ L)) : Sts H (rowc rs :: L) := S.cls fun h a => ⟨a⟩
theorem rowc_nil {L : List Asr} {H : Hp} (S : Sts H L) : Sts H (rowc [] :: L) := rowc_close S
theorem rws_perm {rs us : List RowL} (h : rs.Perm us) : (rws rs).Perm (rws us) := h.map _
theorem rowc_add {rs : List RowL} {a : Addr} {l : List Int} {L : List Asr} {H : Hp} (S : Sts H (pto a (.lst (l.map V.int)) :: rowc rs :: L)) : Sts H (rowc (rs ++ [(a, l)]) :: L) := by
  have S2 : Sts H (pto a (.lst (l.map V.int)) :: (rws rs ++ L)) := S.under fun K T => rowc_open T
  refine rowc_close (S2.perm ?_)
  show ((rws ((a, l) :: rs)) ++ L).Perm _
  exact List.Perm.append_right L (rws_perm (List.perm_append_singleton _ _).symm)
/-- row i alone, the others -/
def rowx (rs : List RowL) (i : Nat) : Hp → Prop := rowc (rs.eraseIdx i)
theorem row_perm : ∀ {rs : List RowL} {i : Nat} {x : RowL}, rs[i]? = some x → rs.Perm (x :: rs.eraseIdx i)
  | [], i, _, e => by simp at e
  | r :: rs, 0, x, e => by
    have e : r = x := by simpa using e
    subst e
    exact List.Perm.refl _
  | r :: rs, i + 1, x, e => by
    have e : rs[i]? = some x := by simpa using e
    exact ((row_perm e).cons r).trans (List.Perm.swap x r _)
theorem rowc_take {rs : List RowL} {i : Nat} {a : Addr} {l : List Int} {L : List Asr} {H : Hp} (S : Sts H (rowc rs :: L)) (e : rs[i]? = some (a, l)) : Sts H (pto a (.lst (l.map V.int)) :: rowx rs i :: L) := by
  have S2 := (rowc_open S).perm (List.Perm.append_right L (rws_perm (row_perm e)))
  have S3 : Sts H (pto a (.lst (l.map V.int)) :: (rws (rs.eraseIdx i) ++ L)) := S2
  exact S3.under fun K T => rowc_close T
theorem rowc_put {rs : List RowL} {i : Nat} {a : Addr} {l : List Int} {L : List Asr} {H : Hp} (hi : i < rs.length) (S : Sts H (pto a (.lst (l.map V.int)) :: rowx rs i :: L)) : Sts H (rowc (rs.set i (a, l)) :: L) := by
  have S2 : Sts H (pto a (.lst (l.map V.int)) :: (rws (rs.eraseIdx i) ++ L)) := S.under fun K T => rowc_open T
  refine rowc_close (S2.perm ?_)
  have hp : (rs.set i (a, l)).Perm ((a, l) :: rs.eraseIdx i) := by
    have z := row_perm (rs := rs.set i (a, l)) (i := i) (x := (a, l)) (by rw [List.getElem?_set_self hi])
    rwa [List.eraseIdx_set_eq] at z
  show ((rws ((a, l) :: rs.eraseIdx i)) ++ L).Perm _
  exact List.Perm.append_right L (rws_perm hp.symm)
/-! loops over pairs -/
theorem for_prs {K : PySem.W.Frag} {a : Addr} {g : TG} {tb : TS} {D : Ends} {σ : L2.St} {H : Hp} {τ : Tmap} {ts : List Addr} {ps : List PI2} (hp : Prs τ ts ps) (Pv : Nat → L2.St → Hp → Prop) (h0 : Pv 0 σ H) (hl : ∀ i σ H, Pv i σ H → SqL K H a (ts.map V.ref))
    (hs : ∀ i t p σ H, ps[i]? = some p → τ t = some (pV p) → Pv i σ H → g (.ref t) σ H fun σ2 H2 => tb { D with nx := Pv (i + 1), ct := Pv (i + 1), bk := D.nx } σ2 H2) (hd : ∀ σ H, Pv ps.length σ H → D.nx σ H) :
    kFor g tb D σ (Itl K a) H := by
  refine for_list (K := K) (a := a) (xs := ts.map V.ref) Pv h0 (fun i σ H _ h2 => hl i σ H h2) (fun i x σ H hx h2 => ?_) (fun σ H h => ?_)
  · rw [List.getElem?_map] at hx
    cases e : ts[i]? with
    | none =>
      rw [e] at hx
      cases hx
    | some t =>
      rw [e] at hx
      have ex : x = V.ref t := (Option.some.inj hx).symm
      subst ex
      obtain ⟨p, e1, e2⟩ := hp.at e
      exact hs i t p σ H e1 e2 h2
  · rw [List.length_map, hp.len] at h
    exact hd σ H h
/-- for i, x in enumerate(a), pairs -/
theorem for_enumP {K : PySem.W.Frag} {a : Addr} {g : TG} {tb : TS} {D : Ends} {σ : L2.St} {H : Hp} {τ : Tmap} {ts : List Addr} {ps : List PI2} (hp : Prs τ ts ps) (Pv : Nat → L2.St → Hp → Prop) (h0 : Pv 0 σ H) (hl : ∀ i σ H, Pv i σ H → SqL K H a (ts.map V.ref))
    (hs : ∀ i t p σ H T, ps[i]? = some p → τ t = some (pV p) → Pv i σ H → H T = none → g (.ref T) σ (upd H T (.tup [.int (i : Nat), .ref t])) fun σ2 H2 => tb { D with nx := Pv (i + 1), ct := Pv (i + 1), bk := D.nx } σ2 H2) (hd : ∀ σ H, Pv ps.length σ H → D.nx σ H) :
    kFor g tb D σ (Ite K a) H := by
  have hlen : (ts.map V.ref).length = ps.length := by rw [List.length_map, hp.len]
  refine for_it (n := ps.length) (hlen ▸ walk_enum (xs := ts.map V.ref)) Pv h0 (fun i σ H _ p => hl i σ H p) (fun i x σ H H' hi p y => ?_) hd
  obtain ⟨T, u, z, e1, e2, e3, e4, e5⟩ := y
  cases e4
  obtain ⟨t, e, rfl⟩ := Option.map_eq_some_iff.mp ((List.getElem?_map ..).symm.trans e5)
  obtain ⟨q, f1, f2⟩ := hp.at e
  subst e1 e3
  exact hs i t q σ H T f1 f2 p e2
/-- a comprehension over pairs -/
theorem lc_prs {K : PySem.W.Frag} {a : Addr} {g : TG} {tt : TT} {te : TE} {vs : List Nat} {σ : L2.St} {H : Hp} {Q : VK} {D : Addr} {τ : Tmap} {ts : List Addr} {ps : List PI2} (hp : Prs τ ts ps) (Pv : Nat → Hp → Prop) (h0 : Pv 0 H) (hl : ∀ i H, Pv i H → SqL K H a (ts.map V.ref))
    (hs : ∀ i t p H, ps[i]? = some p → τ t = some (pV p) → Pv i H → g (.ref t) (wipe σ vs) H fun σ2 H2 => wipe σ2 vs = wipe σ vs ∧ tt σ2 H2 fun b H3 =>
      if b = true then te σ2 H3 fun y H4 => ∃ acc, H4 D = some (.lst acc) ∧ acc.length < sizeLine ∧ Pv (i + 1) (upd H4 D (.lst (acc ++ [y]))) else Pv (i + 1) H3) (hd : ∀ H, Pv ps.length H → Q (.ref D) H) (hD : H D = some (.lst []) := by exact Sts.hd (by assumption)) : kLw (Itl K a) g tt te vs σ Q D H := by
  have hlen : (ts.map V.ref).length = ps.length := by rw [List.length_map, hp.len]
  refine oc_lcL (K := K) (a := a) (xs := ts.map V.ref) Pv h0 (fun i H p => hl i H p) (fun i x H hx p => ?_) (fun H p => hd H (by rw [hlen] at p; exact p)) hD
  rw [List.getElem?_map] at hx
  cases e : ts[i]? with
  | none =>
    rw [e] at hx
    cases hx
  | some t =>
    rw [e] at hx
    have ex : x = V.ref t := (Option.some.inj hx).symm
    subst ex
    obtain ⟨q, f1, f2⟩ := hp.at e
    exact hs i t q H f1 f2 p
theorem dT_keys {α : Type} (f : α → V) (qs : List (PI2 × α)) : (dT f qs).map (·.1) = (qs.map (·.1)).map pk := by
  unfold dT
  rw [List.map_map, List.map_map]
  rfl
theorem g_sortDT {H : Hp} {Q : VK} {d : Addr} {α : Type} {f : α → V} {qs : List (PI2 × α)} (h : H d = some (.dT (dT f qs))) (k : ∀ us, PrH H us (srt (qs.map (·.1))) → qNew H (.lst (us.map V.ref)) Q) : qSortDT [.ref d] H Q := ⟨d, _, _, rfl, h, dT_keys f qs, k⟩
theorem g_sortP {K : PySem.W.Frag} {H : Hp} {Q : VK} {a : Addr} {ts : List Addr} {ps : List PI2} (h : SqL K H a (ts.map V.ref)) (e : PrH H ts ps) (k : ∀ us, PrH H us (srt ps) → qNew H (.lst (us.map V.ref)) Q) : qSortP K [.ref a] H Q := ⟨a, ts, ps, rfl, h, e, k⟩
/-- for i, x in enumerate(a), ints -/
theorem for_enumI {K : PySem.W.Frag} {a : Addr} {g : TG} {tb : TS} {D : Ends} {σ : L2.St} {H : Hp} (ns : List Int) (Pv : Nat → L2.St → Hp → Prop) (h0 : Pv 0 σ H) (hl : ∀ i σ H, Pv i σ H → SqL K H a (ns.map V.int))
    (hs : ∀ i x σ H T, ns[i]? = some x → Pv i σ H → H T = none → g (.ref T) σ (upd H T (.tup [.int (i : Nat), .int x])) fun σ2 H2 => tb { D with nx := Pv (i + 1), ct := Pv (i + 1), bk := D.nx } σ2 H2) (hd : ∀ σ H, Pv ns.length σ H → D.nx σ H) :
    kFor g tb D σ (Ite K a) H := by
  have hlen : (ns.map V.int).length = ns.length := List.length_map _
  refine for_it (n := ns.length) (hlen ▸ walk_enum (xs := ns.map V.int)) Pv h0 (fun i σ H _ p => hl i σ H p) (fun i x σ H H' hi p y => ?_) hd
  obtain ⟨T, u, z, e1, e2, e3, e4, e5⟩ := y
  cases e4
  obtain ⟨n, f1, f2⟩ := at_int e5
  subst f2 e1 e3
  exact hs i n σ H T f1 p e2
/-- for x, y in zip(a, b): pairs and ints, of one length -/
theorem for_zipP {K : PySem.W.Frag} {a b : Addr} {g : TG} {tb : TS} {D : Ends} {σ : L2.St} {H : Hp} {τ : Tmap} {ts : List Addr} {ps : List PI2} (hp : Prs τ ts ps) (ns : List Int) (he : ns.length = ps.length) (Pv : Nat → L2.St → Hp → Prop) (h0 : Pv 0 σ H) (hl : ∀ i σ H, Pv i σ H → SqL K H a (ts.map V.ref)) (hl2 : ∀ i σ H, Pv i σ H → SqL K H b (ns.map V.int))
    (hs : ∀ i t p x σ H T, ps[i]? = some p → τ t = some (pV p) → ns[i]? = some x → Pv i σ H → H T = none → g (.ref T) σ (upd H T (.tup [.ref t, .int x])) fun σ2 H2 => tb { D with nx := Pv (i + 1), ct := Pv (i + 1), bk := D.nx } σ2 H2) (hd : ∀ σ H, Pv ps.length σ H → D.nx σ H) :
    kFor g tb D σ (Itz K a b) H := by
  have hlen : (ts.map V.ref).length = ps.length := by rw [List.length_map, hp.len]
  have hlen2 : (ns.map V.int).length = ps.length := by rw [List.length_map, he]
  refine for_it (n := ps.length) (walk_zip (xs := ts.map V.ref) (ys := ns.map V.int) (by omega)) Pv h0 (fun i σ H _ p => ⟨hl i σ H p, hl2 i σ H p⟩) (fun i x σ H H' hi p y => ?_) hd
  obtain ⟨T, u, v, e1, e2, e3, e4, e5⟩ := y
  obtain ⟨n, f1, f2⟩ := at_int e5
  obtain ⟨t, e, rfl⟩ := Option.map_eq_some_iff.mp ((List.getElem?_map ..).symm.trans e4)
  obtain ⟨q, f3, f4⟩ := hp.at e
  subst f2 e1 e3
  exact hs i t q n σ H T f3 f4 f1 p e2
end Oc
/-! ### further rules: a[i] op= e, count, sorted of ints, x or y, slices from behind -/
namespace Oc
open PySem PySem.Spec PyProof.Rows L2
theorem room65 {k : Nat} {A : Around} (r : L2.Room k A) : A.units + 65 < cLine := by
  have := r.un
  omega
def qGetI (K : PySem.W.Frag) : V → V → Hp → VK → Prop := fun x y H Q => ∃ p, ∃ (ns : List Int) (i : Int), x = .ref p ∧ y = .int i ∧ SqL K H p (ns.map V.int) ∧ (0 ≤ i ∧ i < ns.length) ∧ Q (.int (gI ns i)) H
section
variable {X : Cx} {K : PySem.W.Frag}
theorem v_getI (hK : X.K = K) : PGet X (qGetI K) := by
  subst hK
  intro pins s σ H o i ov iv Q I ro ri ⟨p, ns, j, e1, e2, hq, ⟨b0, b1⟩, q⟩
  subst e1 e2
  cases ro
  obtain ⟨t, rfl⟩ := ri
  obtain ⟨its, r, pl, hz⟩ := I.list hq
  have hl := r.length
  rw [List.length_map] at hl
  have he := atI_ints (ns := ns) b0 b1
  obtain ⟨k, h1, h2, h3, h4, h5⟩ := atI_get he
  obtain ⟨w, ew, rw'⟩ := r.get h2
  have hn := line63
  have hk : j.toNat = k := by
    rw [seqIndex_of b0 h5] at h1
    exact Option.some.inj h1
  exact PyProof.Rows.getItem_listL pl.isList b0 (by omega) (by rw [hk]; exact ew) ⟨_, H, I, rw', q⟩
theorem v_countI (hK : X.K = K) : MtR X "list.count" (rCntI K) := hK ▸ mt_lcount
theorem v_sortI (hK : X.K = K) : CallR X (.builtin "sorted") (rSortedI K) := hK ▸ cr_sortedI
theorem v_orT {a b : Expr} {rest : List Expr} {pos : Pos} {ta tb : TE} (hK : X.K = K) (ha : PE X a ta) (hb : PE X (.BoolOp .Or (b :: rest) pos) tb) : PE X (.BoolOp .Or (a :: b :: rest) pos) (tOrT K ta tb) := hK ▸ pe_orT ha hb
end
section
variable {K : PySem.W.Frag} {σ : L2.St} {H : Hp} {Q : VK} {i : Int} {a : Addr} {ns : List Int} {x : V} {ta tb to ti te : TE} {D : Ends}
theorem g_getI (h : SqL K H a (ns.map V.int)) (b : 0 ≤ i ∧ i < ns.length) (k : Q (.int (gI ns i)) H) : qGetI K (.ref a) (.int i) H Q := ⟨a, ns, i, rfl, rfl, h, b, k⟩
theorem g_cntI (h : SqL K H a (ns.map V.int)) (k : Q (.int (ns.count i : Nat)) H) : rCntI K (.ref a) [.int i] H Q := ⟨a, ns, i, rfl, rfl, h, k⟩
theorem g_sortI (h : SqL K H a (ns.map V.int)) (k : ∀ ms : List Int, ms.Perm ns → ms.Pairwise (· ≤ ·) → qNew H (.lst (ms.map V.int)) Q) : rSortedI K [.ref a] H Q := ⟨a, ns, rfl, h, fun ms p h1 h2 np => k ms h1 h2 p np⟩
def kOrT (K : PySem.W.Frag) (tb : TE) (σ : L2.St) (Q : VK) : VK := fun x H1 => ∃ k, TruV K x H1 k ∧ if k = true then Q x H1 else tb σ H1 Q
theorem g_orT (k : ta σ H (kOrT K tb σ Q)) : tOrT K ta tb σ H Q := k
theorem g_kOrTI (h : SqL K H a (ns.map V.int)) (k : if (!ns.isEmpty) = true then Q (.ref a) H else tb σ H Q) : kOrT K tb σ Q (.ref a) H := ⟨_, .inl ⟨_, h, rfl⟩, by rw [isE_map]; exact k⟩
theorem g_augS {tget : V → V → Hp → VK → Prop} {tip : TIp} {tset : TSet} (k : to σ H fun o H1 => ti σ H1 fun i H2 => tget o i H2 fun x H3 => te σ H3 fun y H4 => tip x y H4 fun z H5 => tset o i z H5 fun H6 => D.nx σ H6) : tAugS to ti te tget tip tset D σ H := k
theorem g_inPT {t : Addr} {p : PI2} (h : H t = some (.tup (pV p))) (k : Q (.bl (decide (i = p.1 ∨ i = p.2))) H) : qInP K false (.int i) (.ref t) H Q := ⟨i, t, p, rfl, rfl, h, k⟩
theorem g_inPF {t : Addr} {p : PI2} (h : H t = some (.tup (pV p))) (k : Q (.bl (!decide (i = p.1 ∨ i = p.2))) H) : qInP K true (.int i) (.ref t) H Q := ⟨i, t, p, rfl, rfl, h, k⟩
theorem g_inPsT {t : Addr} {p : PI2} {ts : List Addr} {ps : List PI2} (h : H t = some (.tup (pV p))) (h2 : SqL K H a (ts.map V.ref)) (h3 : PrH H ts ps) (k : Q (.bl (decide (p ∈ ps))) H) : qInPs K false (.ref t) (.ref a) H Q := ⟨t, a, ts, p, ps, rfl, rfl, h, h2, h3, k⟩
theorem g_inPsF {t : Addr} {p : PI2} {ts : List Addr} {ps : List PI2} (h : H t = some (.tup (pV p))) (h2 : SqL K H a (ts.map V.ref)) (h3 : PrH H ts ps) (k : Q (.bl (!decide (p ∈ ps))) H) : qInPs K true (.ref t) (.ref a) H Q := ⟨t, a, ts, p, ps, rfl, rfl, h, h2, h3, k⟩
theorem g_eqPsT {b : Addr} {ts us : List Addr} {ps qs : List PI2} (h : SqL K H a (ts.map V.ref)) (h2 : PrH H ts ps) (h3 : SqL K H b (us.map V.ref)) (h4 : PrH H us qs) (k : Q (.bl (decide (ps = qs))) H) : qEqPs K false (.ref a) (.ref b) H Q := ⟨a, b, ts, us, ps, qs, rfl, rfl, h, h2, h3, h4, k⟩
theorem g_eqPsF {b : Addr} {ts us : List Addr} {ps qs : List PI2} (h : SqL K H a (ts.map V.ref)) (h2 : PrH H ts ps) (h3 : SqL K H b (us.map V.ref)) (h4 : PrH H us qs) (k : Q (.bl (!decide (ps = qs))) H) : qEqPs K true (.ref a) (.ref b) H Q := ⟨a, b, ts, us, ps, qs, rfl, rfl, h, h2, h3, h4, k⟩
theorem g_kOrTR {ts : List Addr} (h : SqL K H a (ts.map V.ref)) (k : if (!ts.isEmpty) = true then Q (.ref a) H else tb σ H Q) : kOrT K tb σ Q (.ref a) H := ⟨_, .inl ⟨_, h, rfl⟩, by cases ts <;> exact k⟩
theorem atI_ref {xs : List Addr} {ps : List PI2} {τ : Tmap} (h : Prs τ xs ps) (h0 : 0 ≤ i) (h1 : i < ps.length) : ∃ t p, ps[i.toNat]? = some p ∧ τ t = some (pV p) ∧ atI (xs.map V.ref) i = some (.ref t) := by
  have hl := h.len
  have e : ps[i.toNat]? = some (ps[i.toNat]'(by omega)) := List.getElem?_eq_getElem (by omega)
  obtain ⟨t, e1, e2⟩ := h.at' e
  exact ⟨t, _, e, e2, atI_of h0 (by rw [List.getElem?_map, e1]; rfl)⟩
end
end Oc
/-! ### errors whose __init__ calls the __init__ of an own class -/
namespace Oc
open PySem PySem.Spec PyProof.Rows L2 NdefX PySem.W PySem.Calls
/-- C's super() behind D finds the def fI -/
structure SupO (K : PySem.W.Frag) (D C fI : Addr) : Prop where
  oex : OexC K C
  sub : mroIn K C (.ref D) = some true
  fnd : ks_superIn K C D "__init__" = some (some (.ref fI))
  any : nsIn K cStatics "thirdparty.any" = some none
section
variable {X : Cx} {σ : L2.St} {H : Hp} {D a C : Addr} {pos : Pos} {pl : Sem Bool} {e : Expr} {es : List Expr} {te : TA} {R : Hp → Prop}
/-- .. of a class behind which an own def is found -/
theorem supRun_fn {kI : Nat} {fI : Addr} {fdI : FuncData} {psI : List Str} {spI : Sp} (S : SupO X.K D C fI) (ea : H a = some (exo a C none)) (pa : PA X (e :: es) te) (hse : starEach (e :: es) X.env = (false, eval e X.env) :: starEach es X.env) (hpl : (backTo pos (starEach es X.env)).any (·.1) = false)
    (F1 : FnOk X.prog X.w X.K X.mg X.base CX0 kI fI fdI psI spI) (hr : Room kI X.A) (hb : Binds X.K fdI psI []) (hfI : fnIn X.K fI = true) (htI : typeIn X.K (.ref fI) = some (.type "function"))
    (h : te σ H fun us H1 => spI (.ref a :: us) H1 (fun v H2 => v = .non ∧ R H2) E0) : SupRun X σ H D a C pos pl (e :: es) R := by
  intro s so I hso
  obtain ⟨t1, hx⟩ := exo_at I.hok ea
  obtain ⟨cd, hc, hf⟩ := Option.bind_eq_some_iff.mp S.fnd
  have inst : PySem.W.InstAt s.heap a _ C none := ⟨hx, rfl, rfl, trivial⟩
  obtain ⟨o, ho, hco⟩ : ∃ o, s.heap.get? fI = some o ∧ o.cls = .type "function" := by
    obtain ⟨o, lo, e⟩ := Option.map_eq_some_iff.mp (show (X.K.lookup fI).map (·.cls) = some (.type "function") from htI)
    exact ⟨o, I.kIn _ _ lo, e⟩
  obtain ⟨hp, g, d, tk, os⟩ := s
  refine ks_wpAny_getMethod_super hso (looks_opaque I.kIn S.any) (fun A Q E s k q => wpAny_bind (looks_clsIn I.kIn hc A _ E s k (wpAny_pure q))) rfl I.kIn hf ho hco (ks_ne I.kIn inst hc) (by decide) ?_
  have run := pa.run pos _ _ _ H _ (pinNew (methodObj (.ref fI) (.ref a)) (tk + 1) I (fun v z => nomatch z) rfl) h
  show wpAny _ _ (callWith pos (.ref hp.objs.size) [] (backTo pos (starEach (e :: es) X.env)) []) _ _ _
  rw [hse] at run ⊢
  refine callWith_of (P := MethP X.K hp.objs.size fI (.ref a)) (by show ((false || (backTo pos (starEach es X.env)).any (·.1)) || false) = false; rw [hpl]; rfl) (keeps_M hfI) (evalArgs_plain (thn run fun ws s1 ⟨us, H1, J, rv, q⟩ => ?_))
  have hu := (J.pin _ (List.mem_append_right _ (List.mem_singleton_self _))).1
  have J := unpin J
  have rs : Vals (V.ref a :: us) (Value.ref a :: ws) := .cons rfl rv
  have bi := hb s1 (Value.ref a :: ws) J.kIn (by rw [List.append_nil, ← rs.length]; exact F1.len _ _ _ _ q)
  rw [List.append_nil] at bi
  refine ⟨⟨hu, J.kIn⟩, wpAny_call (ks_codeAny_call_bound hu (codeAny_mono (F1.run X.A X.stack s1 H1 ⟨Value.ref a :: ws, []⟩ _ _ _ E0 hr J.env0 bi rs q) fun r s2 hq => ?_))⟩
  match r, hq with
  | .error er, hq => exact pass0 [] _ _ _ er s2 J hq
  | .ok (.ret u), hq =>
    obtain ⟨v, H2, J2, _, _, q2⟩ := J.after hq
    exact ⟨H2, J2, q2⟩
end
section
variable {CX : CXT} {P : Program} {w : World} {K : PySem.W.Frag} {mg : Str → Option Value} {base : Heap} {N ps : List Str} {x qual : Str} {stm : Stmt} {f D : Addr} {fd : FuncData} {k : Nat} {sp : Sp}
theorem XFun.okO {ar : Arg} {e : Expr} {es : List Expr} {rest : List Stmt} {p0 p1 p2 pos pos0 : Pos} (F : XFun P K mg x qual stm f fd D) (S : NScope N ps [("__class__" : Str)] (defScope stm)) (ks : (defScope stm).names.lookup ("super" : Str) = some .globalImplicit)
    (hp : ((defArgs stm).posonlyargs ++ (defArgs stm).args).head? = some ar) (ha : ps[0]? = some ar.arg)
    (hb : defBody stm = .Expr (.Call (.Attribute (.Call (.Name "super" p0) [] [] p1) "__init__" p2) (e :: es) [] pos) pos0 :: rest)
    (pl : Addr → Addr → Addr → Sem Bool) (hev : ∀ cc c L, eval (.Call (.Attribute (.Call (.Name "super" p0) [] [] p1) "__init__" p2) (e :: es) [] pos) (envF (xnf x qual stm cc c) f L) = (do
      let ov ← attributeBase (.Call (.Name "super" p0) [] [] p1) "__init__" (envF (xnf x qual stm cc c) f L) (eval (.Call (.Name "super" p0) [] [] p1) (envF (xnf x qual stm cc c) f L))
      standAt p2.atName
      let (g, first) ← holding [ov] (getMethod ov "__init__" (pl cc c L))
      callWith pos g first (backTo pos (starEach (e :: es) (envF (xnf x qual stm cc c) f L))) []))
    (hse : ∀ env, starEach (e :: es) env = (false, eval e env) :: starEach es env) (hpl : ∀ env, (backTo pos (starEach es env)).any (·.1) = false)
    (hsw : ∀ cc c L, swapsWith (.Call (.Attribute (.Call (.Name "super" p0) [] [] p1) "__init__" p2) (e :: es) [] pos) none pos0.line (envF (xnf x qual stm cc c) f L) = pure false)
    (len : ∀ vs H Q E, sp vs H Q E → vs.length = ps.length) {kI : Nat} {fI : Addr} {fdI : FuncData} {psI : List Str} {spI : Sp} (F1 : FnOk P w K mg base CX0 kI fI fdI psI spI) (hkI : kI ≤ k) (hbI : Binds K fdI psI []) (hfI : fnIn K fI = true) (htI : typeIn K (.ref fI) = some (.type "function"))
    (hbody : ∀ (cc c : Addr) (A : Around) (outer : List Env) (s : Shared) (H : Hp) (vs : List V) (Q : VK) (E : XK), Room k (A.deeper (envF (xnf x qual stm cc c) f s.heap.objs.size)) → sp vs H Q E →
      ∃ (a C : Addr) (vr : List V) (te : TA) (t : TS), vs = .ref a :: vr ∧ SupO K D C fI ∧ H a = some (exo a C none) ∧ PA (ncx CX P w K mg base N (xnf x qual stm cc c) f A outer s H E) (e :: es) te ∧ PSs (ncx CX P w K mg base N (xnf x qual stm cc c) f A outer s H E) rest t ∧
        te (startF N vs [some (.ref D)]) H fun us H1 => spI (.ref a :: us) H1 (fun v H2 => v = .non ∧ t { nx := fun _ H' => Q .non H', rt := Q } (startF N vs [some (.ref D)]) H2) E0) :
    FnOk P w K mg base CX (k + 1) f fd ps sp := by
  obtain ⟨oc, od, dV, kV, doc, pm, an, cc, c, ct, osl, rfl, lk, hcd, hcc, hfl⟩ := F.ex
  refine fn_sup (F := xnf x qual stm cc c) lk hcd S ⟨rfl, hcc, F.isD, hfl, F.sup, ks, S.frk _ (by simp), F.htop⟩ hp ha hb (pl cc c) (hev cc c) (hsw cc c) len fun A outer s H vs Q E hr h => ?_
  obtain ⟨a, C, vr, te, t, ev, SC, ea, pa, pss, q⟩ := hbody cc c A outer s H vs Q E hr h
  exact ⟨a, C, vr, t, _, ev, SC.sub, ea, pss, supRun_fn SC ea pa (hse _) (hpl _) F1 (hr.mono hkI) hbI hfI htI q, fun H1 h1 => h1⟩
end
end Oc
namespace Oc
open PySem PySem.Spec PyProof.Rows L2
/-- a def with defaults, none of which is lacking -/
theorem bindsX {K : PySem.W.Frag} {fd : FuncData} {ps : List Str} {T : Addr} {o : Obj} {its : Array Value} {n : Nat} (lT : K.lookup T = some o) (oT : o.data = .seq its n)
    (h : ∀ us : List Value, us.length = ps.length → ∃ k, bindArgs fd ⟨us, []⟩ = seqItems? (.ref T) >>= k ∧ k (some its) = pure (ps.zip us)) : Binds K fd ps [] := fun s us X hl => by
  rw [List.append_nil] at hl ⊢
  obtain ⟨k, e1, e2⟩ := h us hl
  refine BindsTo.of_looks fun M => ?_
  rw [e1]
  exact looks_items X lT oT (.of_pure e2)
end Oc
/-! ### isinstance(x, tuple) -/
namespace Oc
open PySem PySem.Spec PyProof.Rows L2
def qIsTT : List V → Hp → VK → Prop := fun xs H Q => ∃ a ys, xs = [.ref a, .ty "tuple"] ∧ H a = some (.tup ys) ∧ Q (.bl true) H
theorem v_isTT {X : Cx} : CallR X (.builtin "isinstance") qIsTT := fun pins s σ H xs us Q I rr ⟨a, ys, e, h, q⟩ =>
  call_isi pins s σ H xs us Q I rr ⟨_, _, _, _, true, e, .ty "tuple", .base (.tup h), kit_ty (by decide +kernel), q⟩
theorem g_isTT {t : Addr} {ys : List V} {H : Hp} {Q : VK} (h : H t = some (.tup ys)) (k : Q (.bl true) H) : qIsTT [.ref t, .ty "tuple"] H Q := ⟨t, ys, rfl, h, k⟩
end Oc
/-! ### values() and items() of a dict with tuple keys -/
namespace Oc
open PySem PySem.Spec PyProof.Rows L2
/-- what is given at turn i by an iterator over the locked dict at d: told by the i-th entry -/
def ItE (d : Addr) (o : Obj) (kvs : List (List Key × V)) (Y : Nat → Hp → V → Hp → Prop) : It :=
  ⟨fun i H => H d = some (.frz o (.dT kvs)) ∧ i < kvs.length, Y, fun i H => H d = some (.frz o (.dT kvs)) ∧ kvs.length ≤ i⟩
/-- its values -/
def yVal (kvs : List (List Key × V)) (i : Nat) (H : Hp) (x : V) (H' : Hp) : Prop := H' = H ∧ ∃ k, kvs[i]? = some (k, x)
/-- its items: the key's own tuple and the value, in a new pair -/
def yItem (kvs : List (List Key × V)) (i : Nat) (H : Hp) (x : V) (H' : Hp) : Prop :=
  ∃ (T q : Addr) (k : List Key) (v : V), kvs[i]? = some (k, v) ∧ x = .ref T ∧ H T = none ∧ H q = some (.tup (k.map kV)) ∧ H' = upd H T (.tup [.ref q, v])
abbrev Itdt (d : Addr) (o : Obj) (kvs : List (List Key × V)) : It := ItE d o kvs (yVal kvs)
abbrev Itit (d : Addr) (o : Obj) (kvs : List (List Key × V)) : It := ItE d o kvs (yItem kvs)
/-- the raw table of a locked dict, entry by entry -/
structure RawT (H : Hp) (h : Heap) (d : Addr) (o : Obj) (kvs : List (List Key × V)) (es : Array DictEntry) (ep : Nat) : Prop where
  raw : h.DictRaw d es ep
  size : es.size = kvs.length
  entry : ∀ i (hi : i < es.size), ∃ k v q, kvs[i]? = some (k, v) ∧ es[i].key = .ref q ∧ H q = some (.tup (k.map kV)) ∧ RelV v es[i].val
theorem rawT {X : Cx} {pins : List (Addr × Obj)} {σ : L2.St} {H : Hp} {s : Shared} {d : Addr} {o : Obj} {kvs : List (List Key × V)} {es : Array DictEntry} {ep : Nat} (I : Inv X pins σ H s) (h : H d = some (.frz o (.dT kvs))) (hd : o.data = .dict es ep) :
    (d == sysModules) = false ∧ o.ExactDict ∧ s.heap.get? d = some o ∧ RawT H s.heap d o kvs es ep := by
  obtain ⟨nm, ho, ex, es', ep', hd', hz, key⟩ := I.frzT h
  rw [hd] at hd'
  cases hd'
  refine ⟨nm, ex, ho, ⟨o, ho, ex, hd⟩, hz, fun i hi => ?_⟩
  have lt : i < kvs.length := hz ▸ hi
  obtain ⟨en, q, he, hk, hq⟩ := key i kvs[i].1 kvs[i].2 (by rw [List.getElem?_eq_getElem lt])
  obtain rfl : es[i] = en := Option.some.inj ((Array.getElem?_eq_getElem hi).symm.trans he)
  refine ⟨_, kvs[i].2, q, List.getElem?_eq_getElem lt, hk, hq, ?_⟩
  -- the value
  obtain ⟨_, _, _, xs, pr, o2, es2, ep2, g2, _, d2, ent, _⟩ := I.hok d _ h
  rw [ho] at g2
  cases g2
  rw [hd] at d2
  cases d2
  obtain ⟨b, hb, _, _, rel⟩ := paired_get pr (List.getElem?_eq_getElem lt)
  have e := entry_at ent i
  rw [hb, he] at e
  have e := Option.some.inj e
  rw [e]
  exact rel
section
variable {P : Program} {w : World} {K : PySem.W.Frag} {tg : Expr} {d it : Addr} {o : Obj} {es : Array DictEntry} {ep : Nat} {kvs : List (List Key × V)}
/-- one of its values at each turn, by the library's walk over the raw table -/
theorem turn_valsT (hd : o.data = .dict es ep) (ne : d ≠ it) : Turn P w K tg (Itdt d o kvs) [it] it (fun i h => i ≤ es.size ∧ h.IsValIter it d i es.size ep) where
  mem := List.mem_singleton_self it
  obj := fun i h ⟨_, u, e, _, dd⟩ b hb => ⟨u, List.mem_singleton.mp hb ▸ e, fun v z => by rw [dd] at z; cases z⟩
  keep := fun i h h' ⟨l, st⟩ k => ⟨l, st.at fun u e => k it (List.mem_singleton_self it) u e⟩
  item := by
    rintro X rfl rfl rfl hc i pins s σ H E I hf ⟨_, st⟩ ⟨hH, lt⟩
    obtain ⟨_, _, _, R⟩ := rawT I hH hd
    obtain ⟨f0, f1, _, f3, f4, f5⟩ := hf it (List.mem_singleton_self it)
    refine (Walks.rawValues (I.ok.hd hc) it d ne es ep).item i s _ _ (R.size ▸ lt) ⟨st, R.raw⟩ fun v h' tk ⟨hi, ev⟩ ⟨st', _⟩ k => ?_
    obtain ⟨key, x, q, e1, _, _, rel⟩ := R.entry i hi
    obtain ⟨u, e, c, dd⟩ := id st'
    exact ⟨v, rfl, go_of (s := { s with heap := h', toks := tk }) e c dd (by decide) ⟨x, H, I.turned (fun b u nb e => k b u (by simpa using nb) e) f0 f1 f3 f4 f5, ev ▸ rel, ⟨rfl, key, e1⟩, ⟨hi, st'⟩, fun b hb => (hf b hb).1⟩⟩
  done := by
    rintro X rfl rfl rfl hc i pins s σ H E I hf ⟨l, st⟩ ⟨hH, ge⟩
    obtain ⟨_, _, _, R⟩ := rawT I hH hd
    obtain ⟨f0, f1, _, f3, f4, f5⟩ := hf it (List.mem_singleton_self it)
    obtain rfl : i = es.size := Nat.le_antisymm l (R.size ▸ ge)
    exact (Walks.rawValues (I.ok.hd hc) it d ne es ep).done s _ _ ⟨st, R.raw⟩ fun h' tk k => ⟨rfl, I.turned (fun b u nb e => k b u (by simpa using nb) e) f0 f1 f3 f4 f5⟩
  self := fun A i s Q E ⟨_, st⟩ q => wpAny_pyIter_valiter st q
/-- one of its items at each turn -/
theorem turn_itemsT {elts : List Expr} {kk : Nat} {tpos : Pos} (hd : o.data = .dict es ep) (ne : d ≠ it) :
    Turn P w K (.Tuple elts kk tpos) (Itit d o kvs) [it] it (fun i h => i ≤ es.size ∧ ∃ a b, IsItemIter h it d i es.size ep a b) where
  mem := List.mem_singleton_self it
  obj := fun i h ⟨_, _, _, e⟩ b hb => by
    obtain rfl := List.mem_singleton.mp hb
    exact ⟨_, e, fun v z => nomatch z⟩
  keep := fun i h h' ⟨l, a, b, e⟩ k => ⟨l, a, b, k it (List.mem_singleton_self it) _ e⟩
  item := by
    rintro X rfl rfl rfl hc i pins s σ H E I hf ⟨_, st⟩ ⟨hH, lt⟩
    obtain ⟨_, _, _, R⟩ := rawT I hH hd
    have W := WalksT.rawItems (prog := X.prog) (w := X.w) (I.ok.hd hc) it d ne es ep
    refine W.item i s _ _ (R.size ▸ lt) ⟨st, R.raw⟩ fun T vals h1 tk ⟨hi, ev⟩ fresh tup mid k1 => ⟨_, rfl, W.go elts kk tpos i T _ _ _ mid fun h2 ⟨st', _⟩ k2 => ?_⟩
    obtain ⟨key, x, q, e1, e2, e3, rel⟩ := R.entry i hi
    subst ev
    have tup2 : h2.IsTuple T #[es[i].key, es[i].val] := by
      obtain ⟨u, e, r⟩ := tup
      exact ⟨u, k2 T u (W.apart i T _ mid) e, r⟩
    have new : ObjOk X.prog X.w (upd H T (.tup [.ref q, x])) h2 T (.tup [.ref q, x]) := ⟨by show 2 ≤ sizeLine; decide, [es[i].key, es[i].val], .cons e2 (.cons rel .nil), tup2⟩
    have I2 : Inv X pins σ (upd H T (.tup [.ref q, x])) { s with heap := h2, toks := tk } := I.turnedNew (ch := [it]) (fun b u nb e => k2 b u nb (k1 b u nb e)) hf fresh new
    refine ⟨.ref T, _, I2, rfl, ⟨T, q, key, x, e1, rfl, I.hok.fresh fresh, e3, rfl⟩, ⟨hi, st'⟩, fun b hb => ?_⟩
    have nb : b ≠ T := fun z => W.apart i T _ mid (z ▸ hb)
    rw [upd_ne nb]
    exact (hf b hb).1
  done := by
    rintro X rfl rfl rfl hc i pins s σ H E I hf ⟨l, st⟩ ⟨hH, ge⟩
    obtain ⟨_, _, _, R⟩ := rawT I hH hd
    obtain ⟨f0, f1, _, f3, f4, f5⟩ := hf it (List.mem_singleton_self it)
    obtain rfl : i = es.size := Nat.le_antisymm l (R.size ▸ ge)
    exact (WalksT.rawItems (I.ok.hd hc) it d ne es ep).done s _ _ ⟨st, R.raw⟩ fun h' tk k => ⟨rfl, I.turned (fun b u nb e => k b u (by simpa using nb) e) f0 f1 f3 f4 f5⟩
  self := fun A i s Q E ⟨_, _, _, st⟩ q => wpAny_pyIter_itemiter st q
end
def iViewT (J : Addr → Obj → List (List Key × V) → It) (td : TE) : TI := fun σ H R => td σ H fun x H1 => ∃ d o kvs, x = .ref d ∧ H1 d = some (.frz o (.dT kvs)) ∧ R (J d o kvs) H1
abbrev iValsT : TE → TI := iViewT Itdt
abbrev iItemsT : TE → TI := iViewT Itit
abbrev viewO (vw : String) (d : Addr) : Obj := { cls := .type vw, data := .fields #[.ref d] }
section
variable {X : Cx} {tg e : Expr} {td : TE} {apos cpos : Pos} {m : Str} {id vw : String} {B : Builtin} {J : Addr → Obj → List (List Key × V) → It}
/-- e.m() of a dict with tuple keys, walked: the method gives a view, the view an iterator -/
theorem pi_viewT (he : PE X e td) (hbase : attributeBase e m X.env (eval e X.env) = eval e X.env) (hline : (apos.endLine == cpos.line) = true)
    (slot : Slot "dict" m id) (ty : typeOf (.builtin id) = pure (.type "method_descriptor")) (en : entryFor table id = some B) (ao : ∀ v, argsOk id ⟨[v], []⟩)
    (view : ∀ d, (d == sysModules) = false → MeetsIn X.prog X.w (B ⟨[.ref d], []⟩) fun _ R s => (∃ es ep, s.heap.DictRaw d es ep) ∧ R (.ok (.ret (.ref s.heap.objs.size))) { s with heap := s.heap.push (viewO vw d) })
    (iter : ∀ (pins : List (Addr × Obj)) (σ : L2.St) (H : Hp) (R : It → Hp → Prop) (s : Shared) (v d : Addr) (o : Obj) (kvs : List (List Key × V)) (es : Array DictEntry) (ep : Nat), Inv X pins σ H s → s.heap.get? v = some (viewO vw d) → o.data = .dict es ep →
      s.heap.DictRaw d es ep → R (J d o kvs) H → wpAny (model X.prog X.w) X.A (pyIter (.ref v)) (PIE X pins σ tg R) X.xe s) :
    PI X tg (.Call (.Attribute e m apos) [] [] cpos) (iViewT J td) := by
  refine ⟨fun pins s σ H R I h => wpAny_Call_method0_late hbase hline (thn (he.run pins s σ H _ I h) fun u s1 ⟨x, H1, I1, rx, d, o, kvs, ex, hd, q⟩ => ?_)⟩
  subst ex
  obtain rfl : u = .ref d := rx
  obtain ⟨_, _, _, es, ep, dt, _, _⟩ := I1.frzT hd
  obtain ⟨nm, xd, gd, T⟩ := rawT I1 hd dt
  have td : s1.TypeIs (.ref d) "dict" := T.raw.typeIs
  refine ⟨"dict", id, F.plainAttrs_dict, slot, ty, td, fun a z => ⟨o, by cases z; exact gd, xd.2.1⟩, method_meetsIn slot en rfl (PySem.evalArgs_none ⟨rfl, td, ao _, _, view d nm, ⟨_, _, T.raw⟩, ?_⟩)⟩
  have k : ∀ b u, s1.heap.get? b = some u → (s1.heap.push (viewO vw d)).get? b = some u := fun b u e => Heap.get?_push_of_some _ e
  exact iter pins σ H1 _ { s1 with heap := s1.heap.push (viewO vw d) } s1.heap.objs.size d o kvs es ep (I1.kept (t' := s1.toks) k) (Heap.get?_push_size _ rfl) dt (T.raw.at fun u e => k d u e) q
theorem pi_valuesT (he : PE X e td) (hbase : attributeBase e "values" X.env (eval e X.env) = eval e X.env := by rfl) (hline : (apos.endLine == cpos.line) = true := by rfl) : PI X tg (.Call (.Attribute e "values" apos) [] [] cpos) (iValsT td) :=
  pi_viewT he hbase hline F.slot_dict_values F.type_dict_values F.entry_dict_values F.args_dict_values_1 meets_dict_values_raw fun pins σ H R s v d o kvs es ep I gv dt raw q =>
    wpAny_pyIter_values_raw ⟨_, gv, rfl, rfl⟩ raw (pi_one (tk := s.toks) I _ (turn_valsT dt (Nat.ne_of_lt (let ⟨_, e, _⟩ := raw; Heap.lt_size e))) ⟨Nat.zero_le _, _, Heap.get?_push_size _ rfl, rfl, rfl⟩ q)
theorem pi_itemsT {elts : List Expr} {kk : Nat} {tpos : Pos} (he : PE X e td) (hbase : attributeBase e "items" X.env (eval e X.env) = eval e X.env := by rfl) (hline : (apos.endLine == cpos.line) = true := by rfl) :
    PI X (.Tuple elts kk tpos) (.Call (.Attribute e "items" apos) [] [] cpos) (iItemsT td) :=
  pi_viewT he hbase hline F.slot_dict_items F.type_dict_items F.entry_dict_items F.args_dict_items_1 meets_dict_items_raw fun pins σ H R s v d o kvs es ep I gv dt raw q =>
    wpAny_pyIter_items_raw ⟨_, gv, rfl, rfl⟩ raw (pi_one (tk := s.toks) I _ (turn_itemsT dt (Nat.ne_of_lt (let ⟨_, e, _⟩ := raw; Heap.lt_size e))) ⟨Nat.zero_le _, .none, .none, Heap.get?_push_size _ rfl⟩ q)
end
end Oc
/-! ### set(a list of ints) -/
namespace Oc
open PySem PySem.Spec PyProof.Rows L2
section
variable {P : Program} {w : World} {A : Around} {E : Value → Shared → Prop} {s : Shared}
theorem callType_init {T newId initId : String} {args : List Value} {Q Q₁ : Value → Shared → Prop} (ft : TypeCalled T newId initId) (ct : checkTypeCall T ⟨args, []⟩ = pure ())
    (new : codeAny (model P w) A.in1 (.call (.builtin newId) ⟨.type T :: args, []⟩) (wants Q₁ E) s)
    (init : ∀ x s1, Q₁ x s1 → s1.TypeIs x T ∧ codeAny (model P w) A.in1 (.call (.builtin initId) ⟨x :: args, []⟩) (wants (fun r s2 => r = .none ∧ Q x s2) E) s1) :
    wpAny (model P w) A (call (.type T) args) Q E s := by
  have f1 := ft.notType
  have f2 := ft.canCreate
  have f3 := ft.made
  have f4 := ft.sub
  have f5 := ft.init.lookup
  obtain ⟨c, tl, f6⟩ := ft.mro
  refine wpAny_call (codeAny_of_tree ?_)
  wp_walk
  refine ⟨Code.quiet_builtin _ (by decide +kernel), codeAny_builtin F.entry_type_call ?_⟩
  rw [Around.under_plain (c := .builtin "type.__call__" ⟨.type T :: args, []⟩) rfl rfl]
  wp_walk
  refine codeAny_mono new fun r s1 h => ?_
  match r, h with
  | .error _, h => exact h
  | .ok (.ret x), h =>
    obtain ⟨ty, hi⟩ := init x s1 h
    have f7 := ft.init.bind x
    wp_walk
    refine codeAny_mono hi fun r s2 h => ?_
    match r, h with
    | .error _, h => exact h
    | .ok (.ret y), h =>
      obtain ⟨rfl, q⟩ := h
      wp_walk
      exact q
end
abbrev set0 (w : World) : Obj := { cls := .type "set", dict := none, data := .set #[] 0 (.fresh 0 0 (!w.params.followText "set-order")) }
section
variable {P : Program} {w : World} {A : Around} {E : Value → Shared → Prop} {s : Shared} {S l : Addr} {items : Array Value} {ns : List Int}
/-- a list is a set of neither kind -/
theorem list_noSet {x : Value} {Q : Bool → Shared → Prop} (h : s.TypeIs x "list") (q : Q false s) : wpAny (model P w) A (Builtin.Frozenset.isAnySet x) Q E s := by
  have e1 := F.sub_list_set
  have e2 := F.sub_list_frozenset
  unfold Builtin.Frozenset.isAnySet orM
  wp_walk
  exact q
/-- a set that is empty takes in a list's ints -/
theorem fill_list {Q : Unit → Shared → Prop} (hh : A.handled = none) (hS : s.heap.get? S = some (set0 w)) (hl : s.heap.IsList l items) (hi : IntsAre items.toList ns) (hb : ns.length + 1 < scanBound)
    (q : ∀ g tk c, SetR w g S (fun j => decide (j ∈ ns)) c → c ≤ ns.length → (∀ b o, b ≠ S → s.heap.get? b = some o → g.get? b = some o) → Q () { s with heap := g, toks := tk }) :
    wpAny (model P w) A (Builtin.Frozenset.updateFrom "set.__init__" S (.ref l)) Q E s := by
  have ty := hl.typeIs
  have nd : (Value.type "list" == Value.type "dict") = false := by decide
  have lS := Heap.lt_size hS
  have ll : l < s.heap.objs.size := by
    obtain ⟨o, e, _⟩ := hl
    exact Heap.lt_size e
  have n1 : items.size = ns.length := by simpa using hi.length
  unfold Builtin.Frozenset.updateFrom
  wp_walk using (list_noSet ty), (wpAny_pyIter_list hl)
  refine set_update_ints (Walks.list (by simpa using hh) _ l (Nat.ne_of_lt ll) items).toS S ?_ ns n1 hb (fun i v e => ?_) _ 0 _ rfl (Nat.zero_le _) ⟨⟨_, Heap.get?_push_size _ rfl, rfl, rfl⟩, hl.push _⟩
    ⟨0, Nat.le_refl 0, setR_new_at (Heap.get?_push_of_some _ hS)⟩ fun s' c mv hc hR => ?_
  · intro z
    simp only [List.mem_cons, List.not_mem_nil, or_false] at z
    rcases z with z | z
    · rw [z] at lS
      exact Nat.lt_irrefl _ lS
    · subst z
      obtain ⟨o, e, c, _⟩ := hl
      rw [hS] at e
      cases e
      exact absurd (show Value.type "set" = Value.type "list" from c) (by decide)
  · have hv : items.toList[i]? = some v := by rw [Array.getElem?_toList]; exact e
    have lt : i < ns.length := n1 ▸ (Array.getElem?_eq_some_iff.mp e).1
    obtain ⟨t, et⟩ := hi.int_at i v hv
    exact ⟨_, t, List.getElem?_eq_getElem lt, by rw [et, List.getD_eq_getElem?_getD, List.getElem?_eq_getElem lt]; rfl⟩
  · obtain ⟨g, a1, a2, tk, a3⟩ := s'
    obtain ⟨k, rfl, rfl, rfl, _⟩ := mv
    refine wpAny_pure (q g tk c hR (n1 ▸ hc) fun b o nb e => k b o (fun z => ?_) (Heap.get?_push_of_some _ e))
    rcases List.mem_cons.mp z with z | z
    · exact nb z
    · have lb := Heap.lt_size e
      rw [List.mem_singleton.mp z] at lb
      exact Nat.lt_irrefl _ lb
/-- set(xs) -/
theorem set_list {Q : Value → Shared → Prop} (hh : A.handled = none) (hl : s.heap.IsList l items) (hi : IntsAre items.toList ns) (hb : ns.length + 1 < scanBound)
    (q : ∀ g tk c, SetR w g s.heap.objs.size (fun j => decide (j ∈ ns)) c → c ≤ ns.length → (∀ b o, s.heap.get? b = some o → g.get? b = some o) → Q (.ref s.heap.objs.size) { s with heap := g, toks := tk }) :
    wpAny (model P w) A (call (.type "set") [.ref l]) Q E s := by
  refine callType_init F.called_set (F.typeCall_set_1 _) (Q₁ := fun x s1 => x = .ref s.heap.objs.size ∧ s1 = { s with heap := s.heap.push (set0 w) }) (code_set_led1 (.ref l) ⟨rfl, rfl⟩) fun x s1 h => ?_
  obtain ⟨rfl, rfl⟩ := h
  have gS : (s.heap.push (set0 w)).get? s.heap.objs.size = some (set0 w) := Heap.get?_push_size _ rfl
  have ty : Shared.TypeIs { s with heap := s.heap.push (set0 w) } (.ref s.heap.objs.size) "set" := ⟨_, gS, rfl⟩
  refine ⟨ty, codeAny_call_builtin F.called_set.init.plain F.entry_set_init (check_set_init_1 ty ?_)⟩
  unfold Builtin.«set.__init__» noKeywords
  wp_walk using (fill_list (P := P) (by simpa using hh) gS (hl.push _) hi hb)
  intro g tk c hR hc k
  wp_walk
  exact ⟨rfl, q g tk c hR hc fun b o e => k b o (Nat.ne_of_lt (Heap.lt_size e)) (Heap.get?_push_of_some _ e)⟩
end
def ISet (w : World) (p : Addr) (ns : List Int) (n : Nat) : HO := SetO w p (fun j => decide (j ∈ ns)) n
def qSetOf (K : PySem.W.Frag) (w : World) : List V → Hp → VK → Prop := fun xs H Q => ∃ (a : Addr) (ns : List Int), xs = [.ref a] ∧ SqL K H a (ns.map V.int) ∧ ns.length ≤ 4000 ∧ ∀ p n, (∃ ks : List Int, ks.Nodup ∧ ks.length = n ∧ ∀ k ∈ ks, k ∈ ns) → H p = none → Q (.ref p) (upd H p (ISet w p ns n))
theorem v_setOf {X : Cx} {K : PySem.W.Frag} (hc : X.calm = true) (hK : X.K = K) : CallR X (.type "set") (qSetOf K X.w) := by
  subst hK
  intro pins s σ H xs us Q I r ⟨a, ns, e, hq, hl, q⟩
  subst e
  rw [Vals.ref1 r]
  obtain ⟨its, rv, l1, _⟩ := I.list hq
  refine set_list (I.ok.hd hc) l1.isList (by simpa using RZ.intsAre_vals rv) (by unfold scanBound; omega) fun g tk c hS hc' kk => ?_
  have hks : ∃ ks : List Int, ks.Nodup ∧ ks.length = c ∧ ∀ k ∈ ks, k ∈ ns := by
    obtain ⟨o, es, ep, t, ho, hx, hd, gg, nd, hm, hb, hf, hn, _⟩ := hS
    exact ⟨es.toList.map keyOf, nd, by rw [List.length_map, Array.length_toList]; exact hn, fun k hk => of_decide_eq_true ((hm k).mpr hk)⟩
  exact ⟨.ref _, upd H s.heap.objs.size (ISet X.w s.heap.objs.size ns c), I.laid (t' := tk) (fun b u e => kk b u e) (Nat.le_refl _) (setO_new hS), rfl, q _ _ hks (I.hok.fresh (Nat.le_refl _))⟩
def qSortSet (w : World) : List V → Hp → VK → Prop := fun vs H Q => ∃ (p : Addr) (ns : List Int) (n : Nat), vs = [V.ref p] ∧ H p = some (ISet w p ns n) ∧ n < 64 ∧ ∀ ms : List Int, ms.Pairwise (· < ·) → (∀ k, k ∈ ms ↔ k ∈ ns) → qNew H (.lst (ms.map V.int)) Q
theorem v_sortSet {X : Cx} (hc : X.calm = true) : CallR X (.builtin "sorted") (qSortSet X.w) := by
  intro pins s σ H xs us Q I r ⟨p, ns, n, e, h, hn, q⟩
  exact cr_sortedSet hc pins s σ H xs us Q I r ⟨p, _, n, e, h, hn, fun ms a p1 p2 _ p4 => q ms p1 (fun k => (p2 k).trans decide_eq_true_iff) a p4⟩
section
variable {K : PySem.W.Frag} {w : World} {H : Hp} {Q : VK} {a p : Addr} {ns : List Int} {n : Nat} {L : List Asr}
theorem g_setOf (S : Sts H L) (h : SqL K H a (ns.map V.int)) (l : ns.length ≤ 4000) (k : ∀ p n H', (∃ ks : List Int, ks.Nodup ∧ ks.length = n ∧ ∀ k ∈ ks, k ∈ ns) → Sts H' (pto p (ISet w p ns n) :: L) → Q (.ref p) H') : qSetOf K w [.ref a] H Q := ⟨a, ns, rfl, h, l, fun p n hn np => k p n _ hn (S.new _ np)⟩
theorem g_sortSet (h : H p = some (ISet w p ns n)) (l : n < 64) (k : ∀ ms : List Int, ms.Pairwise (· < ·) → (∀ k, k ∈ ms ↔ k ∈ ns) → qNew H (.lst (ms.map V.int)) Q) : qSortSet w [.ref p] H Q := ⟨p, ns, n, rfl, h, l, k⟩
end
def qInSet (w : World) : R2 := fun x y H Q => ∃ (k : Int) (p : Addr) (ns : List Int) (n : Nat), x = .int k ∧ y = .ref p ∧ H p = some (ISet w p ns n) ∧ Q (.bl (decide (k ∈ ns))) H
theorem v_inSet {X : Cx} : OpR X (compareOp .In) (qInSet X.w) := fun pins s σ H x y v u Q I rx ry ⟨k, p, ns, n, e1, e2, h, q⟩ => or_sin pins s σ H x y v u Q I rx ry ⟨k, p, _, n, e1, e2, h, q⟩
theorem g_inSet {w : World} {k : Int} {p : Addr} {ns : List Int} {n : Nat} {H : Hp} {Q : VK} (h : H p = some (ISet w p ns n)) (q : Q (.bl (decide (k ∈ ns))) H) : qInSet w (.int k) (.ref p) H Q := ⟨k, p, ns, n, rfl, rfl, h, q⟩
end Oc
/-! ### dicts, further -/
namespace Oc
open PySem PySem.Spec PyProof.Rows L2
/-- an expression that runs while a dict is locked -/
def tLockEO (t : TE) : TE := fun σ H Q => ∃ d u L, Sts H (pto d u :: L) ∧ Mut (some u) ∧ ∀ od H1, Sts H1 (pto d (.frz od u) :: L) → t σ H1 fun v H2 => ∃ M, Sts H2 (pto d (.frz od u) :: M) ∧ ∀ H3, Sts H3 (pto d u :: M) → Q v H3
theorem oc_lockE {X : Cx} {e : Expr} {t : TE} (h : PE X e t) : PE X e (tLockEO t) := by
  refine ⟨fun pn s0 σ H Q J ⟨d, u, L, S, mu, hw⟩ => ?_⟩
  obtain ⟨od, J1⟩ := J.lock S.hd mu
  refine thn (h.run pn s0 σ _ _ J1 (hw od _ (S.put _))) fun v s1 ⟨x, H2, J2, r, M, S2, q⟩ => ?_
  exact ⟨x, _, J2.unlock S2.hd (J.nofrz S.hd mu), r, q _ (S2.put u S.hdT)⟩
theorem dT_len {α : Type} {f : α → V} {ps : List (PI2 × α)} : (dT f ps).length = ps.length := by
  unfold dT
  rw [List.length_map]
theorem dT_at {α : Type} {f : α → V} {ps : List (PI2 × α)} {i : Nat} {k : List Key} {v : V} (h : (dT f ps)[i]? = some (k, v)) : ∃ p, ps[i]? = some p ∧ k = pk p.1 ∧ v = f p.2 := by
  unfold dT at h
  rw [List.getElem?_map] at h
  obtain ⟨p, hp, e⟩ := Option.map_eq_some_iff.mp h
  cases e
  exact ⟨p, hp, rfl, rfl⟩
theorem walk_dT {d : Addr} {o : Obj} {kvs : List (List Key × V)} {Y : Nat → Hp → V → Hp → Prop} : Walk (ItE d o kvs Y) kvs.length (fun H => H d = some (.frz o (.dT kvs))) Y := ⟨fun _ _ hi q => ⟨q, hi⟩, fun _ q => ⟨q, Nat.le_refl _⟩, fun _ _ _ _ _ _ y => y⟩
/-- [.. for v in d.values()], tuple keys -/
theorem lc_valsT {α : Type} {f : α → V} {d : Addr} {od : Obj} {g : TG} {tt : TT} {te : TE} {vs : List Nat} {σ : L2.St} {H : Hp} {Q : VK} {D : Addr} (ps : List (PI2 × α)) (Pv : Nat → Hp → Prop) (h0 : Pv 0 H) (hl : ∀ i H, Pv i H → ∃ L, Sts H (pto d (.frz od (.dT (dT f ps))) :: L))
    (hs : ∀ i p H, ps[i]? = some p → Pv i H → g (f p.2) (wipe σ vs) H fun σ2 H2 => wipe σ2 vs = wipe σ vs ∧ tt σ2 H2 fun b H3 =>
      if b = true then te σ2 H3 fun y H4 => ∃ acc, H4 D = some (.lst acc) ∧ acc.length < sizeLine ∧ Pv (i + 1) (upd H4 D (.lst (acc ++ [y]))) else Pv (i + 1) H3) (hd : ∀ H, Pv ps.length H → Q (.ref D) H) (hD : H D = some (.lst []) := by exact Sts.hd (by assumption)) : kLw (Itdt d od (dT f ps)) g tt te vs σ Q D H := by
  refine oc_lcW (n := ps.length) (dT_len (f := f) (ps := ps) ▸ walk_dT) Pv h0 (fun i H _ p => ?_) (fun i x H H' hi p y => ?_) hd hD
  · obtain ⟨L, S⟩ := hl i H p
    exact S.hd
  · obtain ⟨e, k, hk⟩ := y
    obtain ⟨z, hz, _, rfl⟩ := dT_at hk
    rw [e]
    exact hs i z H hz p
/-- for k, v in d.items(), tuple keys -/
theorem for_itemsT {α : Type} {f : α → V} {d : Addr} {od : Obj} {g : TG} {tb : TS} {D : Ends} {σ : L2.St} {H : Hp} (ps : List (PI2 × α)) (Pv : Nat → L2.St → Hp → Prop) (h0 : Pv 0 σ H) (hl : ∀ i σ H, Pv i σ H → ∃ L, Sts H (pto d (.frz od (.dT (dT f ps))) :: L))
    (hs : ∀ i p q T σ H, ps[i]? = some p → Pv i σ H → H T = none → H q = some (.tup (pV p.1)) → g (.ref T) σ (upd H T (.tup [.ref q, f p.2])) fun σ2 H2 => tb { D with nx := Pv (i + 1), ct := Pv (i + 1), bk := D.nx } σ2 H2) (hd : ∀ σ H, Pv ps.length σ H → D.nx σ H) :
    kFor g tb D σ (Itit d od (dT f ps)) H := by
  refine for_it (n := ps.length) (dT_len (f := f) (ps := ps) ▸ walk_dT) Pv h0 (fun i σ H _ p => ?_) (fun i x σ H H' hi p y => ?_) hd
  · obtain ⟨L, S⟩ := hl i σ H p
    exact S.hd
  · obtain ⟨T, q, k, v, hk, e1, nT, hq, e2⟩ := y
    obtain ⟨z, hz, rfl, rfl⟩ := dT_at hk
    subst e1 e2
    exact hs i z q T σ H hz p nT hq
/-- a pair or None -/
def orf : Option (Addr × PI2) → V
  | none => .non
  | some z => .ref z.1
/-- while: W with its measure -/
def kTurn (W : Nat → L2.St → Hp → Prop) (m : Nat) (tb : TS) (D : Ends) (σ : L2.St) (H1 : Hp) : Prop := ∃ N : L2.St → Hp → Prop, (∀ σ' H', N σ' H' → ∃ m', m' < m ∧ W m' σ' H') ∧ tb { D with nx := N, ct := N, bk := D.nx } σ H1
theorem g_while {tc : TT} {tb : TS} {D : Ends} {σ : L2.St} {H : Hp} (W : Nat → L2.St → Hp → Prop) (m : Nat) (h0 : W m σ H) (hs : ∀ m σ H, W m σ H → tc σ H fun b H1 => if b = true then kTurn W m tb D σ H1 else D.nx σ H1) : tWhile tc tb D σ H := ⟨W, ⟨m, h0⟩, hs⟩
theorem g_turn {W : Nat → L2.St → Hp → Prop} {m : Nat} {tb : TS} {D : Ends} {σ : L2.St} {H1 : Hp} (h : tb { D with nx := fun σ H => ∃ m', m' < m ∧ W m' σ H, ct := fun σ H => ∃ m', m' < m ∧ W m' σ H, bk := D.nx } σ H1) : kTurn W m tb D σ H1 := ⟨_, fun _ _ h => h, h⟩
def kVT (R : It → Hp → Prop) : VK := fun x H1 => ∃ d o kvs, x = .ref d ∧ H1 d = some (.frz o (.dT kvs)) ∧ R (Itdt d o kvs) H1
def kItT (R : It → Hp → Prop) : VK := fun x H1 => ∃ d o kvs, x = .ref d ∧ H1 d = some (.frz o (.dT kvs)) ∧ R (Itit d o kvs) H1
def kDGet (x : V) (Q : VK) : VK := fun y H2 => ∃ a v, x = .ref a ∧ DGet H2 a y (some v) ∧ Q v H2
section
variable {σ : L2.St} {H : Hp} {Q : VK} {td ty tv : TE} {R : It → Hp → Prop} {d t a : Addr} {o : Obj} {kvs : List (List Key × V)} {α : Type} {f : α → V} {L : List Asr} {D : Ends} {i j : Int}
theorem g_iValsT (k : td σ H (kVT R)) : iValsT td σ H R := k
theorem g_kVT (h : H d = some (.frz o (.dT kvs))) (k : R (Itdt d o kvs) H) : kVT R (.ref d) H := ⟨d, o, kvs, rfl, h, k⟩
theorem g_iItemsT (k : td σ H (kItT R)) : iItemsT td σ H R := k
theorem g_kItT (h : H d = some (.frz o (.dT kvs))) (k : R (Itit d o kvs) H) : kItT R (.ref d) H := ⟨d, o, kvs, rfl, h, k⟩
theorem g_dget (k : td σ H fun x H1 => ty σ H1 (kDGet x Q)) : tDGet td ty σ H Q := k
theorem g_kDGetI {ps : List (Int × α)} {v : α} (h : H d = some (.dK (dM f ps))) (e : getP ps i = some v) (q : Q (f v) H) : kDGet (.ref d) Q (.int i) H :=
  ⟨d, f v, rfl, .inl ⟨dM f ps, .inl i, .inl h, rfl, by rw [valV_dM, e]; rfl⟩, q⟩
theorem g_kDGetT {ps : List (PI2 × α)} {v : α} (h : H d = some (.dT (dT f ps))) (g : H t = some (.tup [.int i, .int j])) (e : getT ps (i, j) = some v) (q : Q (f v) H) : kDGet (.ref d) Q (.ref t) H :=
  ⟨d, f v, rfl, .inr ⟨dT f ps, pk (i, j), t, .inl h, rfl, g, by rw [valV_dT, e]; rfl⟩, q⟩
theorem g_kDInK {ps : List (Int × α)} (h : H d = some (.dK (dM f ps))) (q : Q (.bl (getP ps i).isSome) H) : kDIn (.int i) false Q (.ref d) H :=
  ⟨d, _, rfl, .inl ⟨dM f ps, .inl i, .inl h, rfl, rfl⟩, by
    show Q (.bl ((valV (dM f ps) (.inl i)).isSome)) H
    rw [valV_dM, Option.isSome_map]
    exact q⟩
/-- d[k] op= v -/
theorem g_daug {ps : List (Int × α)} {rd : V → V → Hp → VK → Prop} (k : td σ H fun x H1 => ty σ H1 fun y H2 => ∃ a v, x = .ref a ∧ DGet H2 a y (some v) ∧ tv σ H2 fun y2 H3 => rd v y2 H3 fun z H4 => ∃ H5, DPut H4 a y z H5 ∧ D.nx σ H5) : sDAug td ty tv rd D σ H := k
theorem g_dputI {ps : List (Int × α)} {v : α} {R : Hp → Prop} (S : Sts H (pto d (.dK (dM f ps)) :: L)) (hl : ps.length ≤ 1000000) (q : ∀ H1, Sts H1 (pto d (.dK (dM f (putP ps i v))) :: L) → R H1) : ∃ H5, DPut H d (.int i) (f v) H5 ∧ R H5 :=
  ⟨_, .inl ⟨dM f ps, .inl i, S.hd, rfl, small (by unfold dM; rw [List.length_map]; exact hl), rfl⟩, q _ (by rw [putK_dM]; exact S.put _)⟩
theorem g_dgetI {ps : List (Int × α)} {v : α} {R : V → Prop} (h : H d = some (.dK (dM f ps))) (e : getP ps i = some v) (q : R (f v)) : ∃ a w, V.ref d = .ref a ∧ DGet H a (.int i) (some w) ∧ R w :=
  ⟨d, f v, rfl, .inl ⟨dM f ps, .inl i, .inl h, rfl, by rw [valV_dM, e]; rfl⟩, q⟩
end
/-- d.setdefault(k, z), keys ints -/
theorem g_dsetd {σ : L2.St} {H : Hp} {Q : VK} {td ty tx : TE} (k : td σ H fun x H1 => ∃ a, x = .ref a ∧ IsD H1 a ∧ ty σ H1 fun y H2 => tx σ H2 fun z H3 => ∃ (kvs : List (Key × V)) (k : Key), H3 a = some (.dK kvs) ∧ y = kV k ∧ kvs.length < sizeLine ∧
  (∀ v, valV kvs k = some v → Q v H3) ∧ (valV kvs k = none → Q z (upd H3 a (.dK (putK kvs k z))))) : tDSetd td ty tx σ H Q := k
theorem g_setdI {α : Type} {f : α → V} {H : Hp} {Q : VK} {d : Addr} {i : Int} {z : α} {ps : List (Int × α)} {L : List Asr} (S : Sts H (pto d (.dK (dM f ps)) :: L)) (hl : ps.length ≤ 1000000) (q1 : ∀ v, getP ps i = some v → Q (f v) H)
    (q2 : getP ps i = none → ∀ H1, Sts H1 (pto d (.dK (dM f (putP ps i z))) :: L) → Q (f z) H1) : ∃ (kvs : List (Key × V)) (k : Key), H d = some (.dK kvs) ∧ V.int i = kV k ∧ kvs.length < sizeLine ∧ (∀ v, valV kvs k = some v → Q v H) ∧ (valV kvs k = none → Q (f z) (upd H d (.dK (putK kvs k (f z))))) := by
  refine ⟨dM f ps, .inl i, S.hd, rfl, small (by unfold dM; rw [List.length_map]; exact hl), fun v e => ?_, fun e => ?_⟩
  · rw [valV_dM] at e
    obtain ⟨u, hu, rfl⟩ := Option.map_eq_some_iff.mp e
    exact q1 u hu
  · rw [valV_dM] at e
    rw [putK_dM]
    exact q2 (Option.map_eq_none_iff.mp e) _ (S.put _)
/-- dict(d) -/
def qDictD : List V → Hp → VK → Prop := fun xs H Q => ∃ (a : Addr) (kvs : List (Key × V)), xs = [.ref a] ∧ H a = some (.dK kvs) ∧ qNew H (.dK kvs) Q
theorem v_dictD {X : Cx} : CallR X (.type "dict") qDictD := fun pins s σ H xs us Q I r ⟨a, kvs, e, h, q⟩ => call_dictD pins s σ H xs us Q I r ⟨a, kvs, e, .inl h, q⟩
theorem g_dictD {H : Hp} {Q : VK} {a : Addr} {kvs : List (Key × V)} (h : H a = some (.dK kvs)) (k : qNew H (.dK kvs) Q) : qDictD [.ref a] H Q := ⟨a, kvs, rfl, h, k⟩
/-- dict(enumerate(xs)) -/
def enumP (ns : List Int) : List (Int × Int) := (List.range ns.length).map fun (i : Nat) => ((i : Int), ns.getD i 0)
theorem paired_map {α β γ : Type} {G : β → γ → Prop} {f : α → β} {g : α → γ} : ∀ {l : List α}, (∀ i ∈ l, G (f i) (g i)) → Paired G (l.map f) (l.map g)
  | [], _ => .nil
  | x :: r, h => .cons (h x List.mem_cons_self) (paired_map fun i hi => h i (List.mem_cons_of_mem _ hi))
theorem putK_new {kvs : List (Key × V)} {k : Key} {v : V} (h : ∀ p ∈ kvs, p.1 ≠ k) : putK kvs k v = kvs ++ [(k, v)] := by
  unfold putK
  rw [if_neg]
  intro z
  obtain ⟨p, hp, e⟩ := List.any_eq_true.mp z
  exact h p hp (of_decide_eq_true e)
theorem mergeK_app : ∀ {l acc : List (Key × V)}, ((acc ++ l).map (·.1)).Nodup → mergeK acc l = acc ++ l
  | [], acc, _ => (List.append_nil acc).symm
  | p :: r, acc, h => by
    have e : mergeK acc (p :: r) = mergeK (putK acc p.1 p.2) r := rfl
    rw [List.map_append, List.map_cons] at h
    obtain ⟨_, h2, h3⟩ := List.nodup_append.mp h
    rw [e, putK_new fun q hq z => h3 _ (List.mem_map_of_mem (f := fun x : Key × V => x.1) hq) _ List.mem_cons_self z, mergeK_app (by rw [List.append_assoc, List.map_append]; exact h), List.append_assoc]
    rfl
theorem enumP_keys (ns : List Int) : (enumP ns).map (·.1) = (List.range ns.length).map fun (i : Nat) => (i : Int) := by
  unfold enumP
  rw [List.map_map]
  rfl
theorem enumP_nodup (ns : List Int) : ((enumP ns).map (·.1)).Nodup := by
  rw [enumP_keys]
  exact List.Pairwise.map _ (fun a b h e => h (Int.ofNat.inj e)) List.nodup_range
def tDictEnum (K : PySem.W.Frag) (te : TE) : TE := fun σ H Q => te σ H fun x H1 => ∃ (a : Addr) (ns : List Int), x = .ref a ∧ SqL K H1 a (ns.map V.int) ∧ ns.length ≤ 100000 ∧ qNew H1 (.dK (dM V.int (enumP ns))) Q
theorem oc_dictEnum {X : Cx} {K : PySem.W.Frag} {e : Expr} {te : TE} {p p2 pos pos2 : Pos} (hc : X.calm = true) (hK : X.K = K) (hg : Gl X "dict") (hm : X.mg "dict" = none) (hg2 : Gl X "enumerate") (hm2 : X.mg "enumerate" = none) (he : PE X e te)
    (hs : starEach [e] X.env = [(false, eval e X.env)] := by rfl)
    (hs2 : starEach [.Call (.Name "enumerate" p2) [e] [] pos2] X.env = [(false, eval (.Call (.Name "enumerate" p2) [e] [] pos2) X.env)] := by rfl) :
    PE X (.Call (.Name "dict" p) [.Call (.Name "enumerate" p2) [e] [] pos2] [] pos) (tDictEnum K te) := by
  subst hK
  refine ⟨fun pins s σ H Q I h => ?_⟩
  refine Call_ (ld_blt I hg hm PyProof.Rows.boot_dict (PyProof.Rows.callWith_type1 ?_ hs2 rfl))
  rw [hs2]
  refine Calls.spliced_cons ?_
  refine Call_ (ld_blt I hg2 hm2 boot_enumerate (PyProof.Rows.callWith_type1 ?_ hs rfl))
  rw [hs]
  refine Calls.spliced_cons (thn (he.run pins s σ H _ I h) fun v s1 ⟨x, H1, I1, r1, a, ns, ex, hq, hl, q⟩ => Calls.spliced_nil ?_)
  subst ex
  obtain rfl : v = Value.ref a := r1
  obtain ⟨its, rv, l1, _⟩ := I1.list hq
  have hlen : its.length = ns.length := by rw [← rv.length, List.length_map]
  have la : a < s1.heap.objs.size := l1.lt
  refine call_enumerate_list l1.isList fun g ge gi gz gk => Calls.spliced_nil ?_
  have I2 : Inv X pins σ H1 { s1 with heap := g } := I1.kept (t' := s1.toks) gk
  refine PySem.call_dict_pairs (s := { s1 with heap := g }) (knd := mixKind X.prog X.w) (kvs := (List.range ns.length).map fun (i : Nat) => ((Sum.inl (i : Int) : Key), its.getD i Value.none))
    (PairArg.enumerate (s1.heap.objs.size + 1) s1.heap.objs.size a (Nat.succ_ne_self _) (Nat.ne_of_lt (Nat.lt_succ_of_lt la)) (Nat.ne_of_lt la) its.toArray) (I.ok.hd hc) ⟨⟨_, ge⟩, gi, l1.isList.at fun o e => gk _ o e⟩ ⟨by simp [hlen], fun i key v ⟨⟨t, ek⟩, hv⟩ => ?_⟩
    (by simp only [List.size_toArray]; rw [hlen, sizeLine_eq]; omega) fun g2 tk hd2 k2 => ?_
  · have hv : its[i]? = some v := by simpa using hv
    have hi : i < ns.length := by rw [← hlen]; exact (List.getElem?_eq_some_iff.mp hv).1
    refine ⟨.inl (i : Int), ?_, by rw [ek]; exact kV_is (show RelV (kV (Sum.inl (i : Int))) (Value.int i t) from ⟨t, rfl⟩)⟩
    rw [List.getElem?_map, List.getElem?_range hi]
    show some ((Sum.inl (i : Int) : Key), its.getD i Value.none) = _
    rw [List.getD_eq_getElem?_getD, hv]
    rfl
  · have rel : KV (dM V.int (enumP ns)) ((List.range ns.length).map fun (i : Nat) => ((Sum.inl (i : Int) : Key), its.getD i Value.none)) := by
      unfold dM enumP
      rw [List.map_map]
      refine paired_map fun i hi => ⟨rfl, ?_⟩
      have hi := List.mem_range.mp hi
      obtain ⟨u, hu, ru⟩ := rv.get (i := i) (x := V.int (ns.getD i 0)) (by rw [List.getElem?_map, List.getElem?_eq_getElem hi, List.getD_eq_getElem?_getD, List.getElem?_eq_getElem hi]; rfl)
      show RelV (V.int (ns.getD i 0)) (its.getD i Value.none)
      have eu : its.getD i Value.none = u := by
        rw [List.getD_eq_getElem?_getD, hu]
        rfl
      rw [eu]
      exact ru
    have hmm : (g.objs.size == sysModules) = false := beq_eq_false_iff_ne.mpr (Nat.ne_of_gt I2.big)
    have em : mergeK [] (dM V.int (enumP ns)) = dM V.int (enumP ns) := by
      refine (mergeK_app (acc := []) ?_).trans (List.nil_append _)
      rw [List.nil_append]
      unfold dM
      rw [List.map_map]
      have e := List.Pairwise.map (S := fun a b : Key => a ≠ b) (fun i : Int => (Sum.inl i : Key)) (fun a b h z => h (Sum.inl.inj z)) (enumP_nodup ns)
      rw [List.map_map] at e
      exact e
    have hl2 : (dM V.int (enumP ns)).length ≤ sizeLine := by
      unfold dM enumP
      rw [List.length_map, List.length_map, List.length_range, sizeLine_eq]
      omega
    have km := KV.merge rel .nil
    rw [em] at km
    refine ⟨.ref g.objs.size, upd H1 g.objs.size (.dK (dM V.int (enumP ns))), I1.laid (t' := tk) (fun b u e => k2 b u (fun hb => ?_) (gk b u e)) (show s1.heap.objs.size ≤ g.objs.size by rw [gz]; exact Nat.le_add_right s1.heap.objs.size 2) (show ObjOk X.prog X.w _ _ _ (.dK (dM V.int (enumP ns))) from ⟨hl2, hmm, _, km, hd2⟩), rfl, q _ (I2.hok.fresh (Nat.le_refl _))⟩
    have lt := Heap.lt_size e
    simp only [List.mem_cons, List.not_mem_nil, or_false] at hb
    rcases hb with z | z
    · rw [z] at lt
      exact absurd lt (Nat.not_lt_of_le (Nat.le_succ _))
    · rw [z] at lt
      exact absurd lt (Nat.lt_irrefl _)
/-- i not in xs -/
def qNotInIs (K : PySem.W.Frag) : R2 := fun x y H Q => ∃ i p, ∃ ns : List Int, x = .int i ∧ y = .ref p ∧ SqL K H p (ns.map V.int) ∧ Q (.bl (!decide (i ∈ ns))) H
theorem g_notInIs {K : PySem.W.Frag} {a : Addr} {i : Int} {ns : List Int} {H : Hp} {Q : VK} (h : SqL K H a (ns.map V.int)) (k : Q (.bl (!decide (i ∈ ns))) H) : qNotInIs K (.int i) (.ref a) H Q := ⟨i, a, ns, rfl, rfl, h, k⟩
theorem v_notInIs {X : Cx} {K : PySem.W.Frag} (hK : X.K = K) : OpR X (compareOp .NotIn) (qNotInIs K) := fun pins s σ H x y v u Q I rx ry ⟨i, p, ns, e1, e2, h, q⟩ =>
  op_notIn_seq pins s σ H x y v u Q I rx ry ⟨p, _, e2, .inl (hK ▸ h), by rw [e1]; rfl, flat_ints ns, by rw [e1, in_ints]; exact q⟩
end Oc
/-! ### short tactics -/
local macro_rules | `(tactic| fail "fr1") => `(tactic| first | exact Oc.Sts.to0 (by assumption) | exact Oc.Sts.to1 (by assumption) | exact Oc.Sts.to2 (by assumption) | exact Oc.Sts.to3 (by assumption) | exact Oc.Sts.to4 (by assumption) | exact Oc.Sts.to5 (by assumption) | exact Oc.Sts.to6 (by assumption) | exact Oc.Sts.to7 (by assumption) | exact Oc.Sts.to8 (by assumption) | exact Oc.Sts.to9 (by assumption) | exact Oc.Sts.to10 (by assumption) | exact Oc.Sts.to11 (by assumption) | exact Oc.Sts.to12 (by assumption) | exact Oc.Sts.to13 (by assumption) | exact Oc.Sts.to14 (by assumption) | exact Oc.Sts.to15 (by assumption) | exact Oc.Sts.to16 (by assumption) | exact Oc.Sts.to17 (by assumption) | exact Oc.Sts.to18 (by assumption) | exact Oc.Sts.to19 (by assumption) | exact Oc.Sts.to20 (by assumption) | exact Oc.Sts.to21 (by assumption) | exact Oc.Sts.to22 (by assumption) | exact Oc.Sts.to23 (by assumption) | exact Oc.Sts.to24 (by assumption))
local macro_rules | `(tactic| fail "hp") => `(tactic| first | exact Oc.Sts.hd (Oc.Sts.to0 (by assumption)) | exact Oc.Sts.hd (Oc.Sts.to1 (by assumption)) | exact Oc.Sts.hd (Oc.Sts.to2 (by assumption)) | exact Oc.Sts.hd (Oc.Sts.to3 (by assumption)) | exact Oc.Sts.hd (Oc.Sts.to4 (by assumption)) | exact Oc.Sts.hd (Oc.Sts.to5 (by assumption)) | exact Oc.Sts.hd (Oc.Sts.to6 (by assumption)) | exact Oc.Sts.hd (Oc.Sts.to7 (by assumption)) | exact Oc.Sts.hd (Oc.Sts.to8 (by assumption)) | exact Oc.Sts.hd (Oc.Sts.to9 (by assumption)) | exact Oc.Sts.hd (Oc.Sts.to10 (by assumption)) | exact Oc.Sts.hd (Oc.Sts.to11 (by assumption)) | exact Oc.Sts.hd (Oc.Sts.to12 (by assumption)) | exact Oc.Sts.hd (Oc.Sts.to13 (by assumption)) | exact Oc.Sts.hd (Oc.Sts.to14 (by assumption)) | exact Oc.Sts.hd (Oc.Sts.to15 (by assumption)) | exact Oc.Sts.hd (Oc.Sts.to16 (by assumption)) | exact Oc.Sts.hd (Oc.Sts.to17 (by assumption)) | exact Oc.Sts.hd (Oc.Sts.to18 (by assumption)) | exact Oc.Sts.hd (Oc.Sts.to19 (by assumption)) | exact Oc.Sts.hd (Oc.Sts.to20 (by assumption)) | exact Oc.Sts.hd (Oc.Sts.to21 (by assumption)) | exact Oc.Sts.hd (Oc.Sts.to22 (by assumption)) | exact Oc.Sts.hd (Oc.Sts.to23 (by assumption)) | exact Oc.Sts.hd (Oc.Sts.to24 (by assumption)))
local macro_rules | `(tactic| fail "sq") => `(tactic| first | exact L2.SqL.of (by fail "hp") | exact Oc.Sts.sq (by fail "fr1") | exact L2.SqL.of (Oc.hI1 (by fail "hp")) | exact L2.SqL.of (Oc.hI0 (by fail "hp")) | exact L2.SqL.of (Oc.hI2 (by fail "hp")) | exact L2.SqL.of (Oc.hI3 (by fail "hp")) | exact L2.SqL.of (Oc.hI7 (by fail "hp")) | exact L2.SqL.of (Oc.hI4 (by fail "hp")))
local macro_rules | `(tactic| fail "hpI") => `(tactic| first | fail "hp" | exact Oc.hI1 (by fail "hp") | exact Oc.hI0 (by fail "hp") | exact Oc.hI2 (by fail "hp") | exact Oc.hI3 (by fail "hp") | exact Oc.hI7 (by fail "hp") | exact Oc.hI4 (by fail "hp"))
local macro_rules | `(tactic| fail "frI") => `(tactic| first | fail "fr1" | exact Oc.gI0 (by fail "fr1") | exact Oc.gI1 (by fail "fr1") | exact Oc.gI2 (by fail "fr1"))
local macro_rules | `(tactic| fail "fr2") => `(tactic| first | (refine Oc.Sts.under (fun _ ot => ?_) (Oc.Sts.to0 (by assumption)); fail "fr1") | (refine Oc.Sts.under (fun _ ot => ?_) (Oc.Sts.to1 (by assumption)); fail "fr1") | (refine Oc.Sts.under (fun _ ot => ?_) (Oc.Sts.to2 (by assumption)); fail "fr1") | (refine Oc.Sts.under (fun _ ot => ?_) (Oc.Sts.to3 (by assumption)); fail "fr1") | (refine Oc.Sts.under (fun _ ot => ?_) (Oc.Sts.to4 (by assumption)); fail "fr1") | (refine Oc.Sts.under (fun _ ot => ?_) (Oc.Sts.to5 (by assumption)); fail "fr1") | (refine Oc.Sts.under (fun _ ot => ?_) (Oc.Sts.to6 (by assumption)); fail "fr1") | (refine Oc.Sts.under (fun _ ot => ?_) (Oc.Sts.to7 (by assumption)); fail "fr1") | (refine Oc.Sts.under (fun _ ot => ?_) (Oc.Sts.to8 (by assumption)); fail "fr1") | (refine Oc.Sts.under (fun _ ot => ?_) (Oc.Sts.to9 (by assumption)); fail "fr1") | (refine Oc.Sts.under (fun _ ot => ?_) (Oc.Sts.to10 (by assumption)); fail "fr1") | (refine Oc.Sts.under (fun _ ot => ?_) (Oc.Sts.to11 (by assumption)); fail "fr1") | (refine Oc.Sts.under (fun _ ot => ?_) (Oc.Sts.to12 (by assumption)); fail "fr1") | (refine Oc.Sts.under (fun _ ot => ?_) (Oc.Sts.to13 (by assumption)); fail "fr1") | (refine Oc.Sts.under (fun _ ot => ?_) (Oc.Sts.to14 (by assumption)); fail "fr1") | (refine Oc.Sts.under (fun _ ot => ?_) (Oc.Sts.to15 (by assumption)); fail "fr1") | (refine Oc.Sts.under (fun _ ot => ?_) (Oc.Sts.to16 (by assumption)); fail "fr1") | (refine Oc.Sts.under (fun _ ot => ?_) (Oc.Sts.to17 (by assumption)); fail "fr1") | (refine Oc.Sts.under (fun _ ot => ?_) (Oc.Sts.to18 (by assumption)); fail "fr1") | (refine Oc.Sts.under (fun _ ot => ?_) (Oc.Sts.to19 (by assumption)); fail "fr1") | (refine Oc.Sts.under (fun _ ot => ?_) (Oc.Sts.to20 (by assumption)); fail "fr1") | (refine Oc.Sts.under (fun _ ot => ?_) (Oc.Sts.to21 (by assumption)); fail "fr1") | (refine Oc.Sts.under (fun _ ot => ?_) (Oc.Sts.to22 (by assumption)); fail "fr1") | (refine Oc.Sts.under (fun _ ot => ?_) (Oc.Sts.to23 (by assumption)); fail "fr1") | (refine Oc.Sts.under (fun _ ot => ?_) (Oc.Sts.to24 (by assumption)); fail "fr1"))
local macro_rules | `(tactic| fail "fr3") => `(tactic| first | (refine Oc.Sts.under (fun _ ot => ?_) (Oc.Sts.to0 (by assumption)); fail "fr2") | (refine Oc.Sts.under (fun _ ot => ?_) (Oc.Sts.to1 (by assumption)); fail "fr2") | (refine Oc.Sts.under (fun _ ot => ?_) (Oc.Sts.to2 (by assumption)); fail "fr2") | (refine Oc.Sts.under (fun _ ot => ?_) (Oc.Sts.to3 (by assumption)); fail "fr2") | (refine Oc.Sts.under (fun _ ot => ?_) (Oc.Sts.to4 (by assumption)); fail "fr2") | (refine Oc.Sts.under (fun _ ot => ?_) (Oc.Sts.to5 (by assumption)); fail "fr2") | (refine Oc.Sts.under (fun _ ot => ?_) (Oc.Sts.to6 (by assumption)); fail "fr2") | (refine Oc.Sts.under (fun _ ot => ?_) (Oc.Sts.to7 (by assumption)); fail "fr2") | (refine Oc.Sts.under (fun _ ot => ?_) (Oc.Sts.to8 (by assumption)); fail "fr2") | (refine Oc.Sts.under (fun _ ot => ?_) (Oc.Sts.to9 (by assumption)); fail "fr2") | (refine Oc.Sts.under (fun _ ot => ?_) (Oc.Sts.to10 (by assumption)); fail "fr2") | (refine Oc.Sts.under (fun _ ot => ?_) (Oc.Sts.to11 (by assumption)); fail "fr2") | (refine Oc.Sts.under (fun _ ot => ?_) (Oc.Sts.to12 (by assumption)); fail "fr2") | (refine Oc.Sts.under (fun _ ot => ?_) (Oc.Sts.to13 (by assumption)); fail "fr2") | (refine Oc.Sts.under (fun _ ot => ?_) (Oc.Sts.to14 (by assumption)); fail "fr2") | (refine Oc.Sts.under (fun _ ot => ?_) (Oc.Sts.to15 (by assumption)); fail "fr2") | (refine Oc.Sts.under (fun _ ot => ?_) (Oc.Sts.to16 (by assumption)); fail "fr2") | (refine Oc.Sts.under (fun _ ot => ?_) (Oc.Sts.to17 (by assumption)); fail "fr2") | (refine Oc.Sts.under (fun _ ot => ?_) (Oc.Sts.to18 (by assumption)); fail "fr2") | (refine Oc.Sts.under (fun _ ot => ?_) (Oc.Sts.to19 (by assumption)); fail "fr2") | (refine Oc.Sts.under (fun _ ot => ?_) (Oc.Sts.to20 (by assumption)); fail "fr2") | (refine Oc.Sts.under (fun _ ot => ?_) (Oc.Sts.to21 (by assumption)); fail "fr2") | (refine Oc.Sts.under (fun _ ot => ?_) (Oc.Sts.to22 (by assumption)); fail "fr2") | (refine Oc.Sts.under (fun _ ot => ?_) (Oc.Sts.to23 (by assumption)); fail "fr2") | (refine Oc.Sts.under (fun _ ot => ?_) (Oc.Sts.to24 (by assumption)); fail "fr2"))
local macro_rules | `(tactic| fail "fp") => `(tactic| first | assumption | exact trivial | exact Oc.Sts.tail (by assumption) | exact Oc.Sts.tail (Oc.Sts.tail (by assumption)) | exact Oc.Sts.tail (Oc.Sts.tail (Oc.Sts.tail (by assumption))) | exact Oc.Sts.tail (Oc.Sts.tail (Oc.Sts.tail (Oc.Sts.tail (by assumption)))) | exact Oc.Sts.tail (Oc.Sts.tail (Oc.Sts.tail (Oc.Sts.tail (Oc.Sts.tail (by assumption))))) | exact Oc.Sts.tail (Oc.Sts.tail (Oc.Sts.tail (Oc.Sts.tail (Oc.Sts.tail (Oc.Sts.tail (by assumption)))))) | exact Oc.Sts.tail (Oc.Sts.tail (Oc.Sts.tail (Oc.Sts.tail (Oc.Sts.tail (Oc.Sts.tail (Oc.Sts.tail (by assumption))))))) | exact Oc.Sts.tail (Oc.Sts.tail (Oc.Sts.tail (Oc.Sts.tail (Oc.Sts.tail (Oc.Sts.tail (Oc.Sts.tail (Oc.Sts.tail (by assumption)))))))) | exact Oc.Sts.tail (Oc.Sts.tail (Oc.Sts.tail (Oc.Sts.tail (Oc.Sts.tail (Oc.Sts.tail (Oc.Sts.tail (Oc.Sts.tail (Oc.Sts.tail (by assumption))))))))) | exact Oc.Sts.tail (Oc.Sts.tail (Oc.Sts.tail (Oc.Sts.tail (Oc.Sts.tail (Oc.Sts.tail (Oc.Sts.tail (Oc.Sts.tail (Oc.Sts.tail (Oc.Sts.tail (by assumption)))))))))) | exact Oc.Sts.tail (Oc.Sts.tail (Oc.Sts.tail (Oc.Sts.tail (Oc.Sts.tail (Oc.Sts.tail (Oc.Sts.tail (Oc.Sts.tail (Oc.Sts.tail (Oc.Sts.tail (Oc.Sts.tail (by assumption))))))))))) | exact Oc.Sts.tail (Oc.Sts.tail (Oc.Sts.tail (Oc.Sts.tail (Oc.Sts.tail (Oc.Sts.tail (Oc.Sts.tail (Oc.Sts.tail (Oc.Sts.tail (Oc.Sts.tail (Oc.Sts.tail (Oc.Sts.tail (by assumption)))))))))))) | exact Oc.Sts.tail (Oc.Sts.tail (Oc.Sts.tail (Oc.Sts.tail (Oc.Sts.tail (Oc.Sts.tail (Oc.Sts.tail (Oc.Sts.tail (Oc.Sts.tail (Oc.Sts.tail (Oc.Sts.tail (Oc.Sts.tail (Oc.Sts.tail (by assumption))))))))))))) | exact Oc.Sts.tail (Oc.Sts.tail (Oc.Sts.tail (Oc.Sts.tail (Oc.Sts.tail (Oc.Sts.tail (Oc.Sts.tail (Oc.Sts.tail (Oc.Sts.tail (Oc.Sts.tail (Oc.Sts.tail (Oc.Sts.tail (Oc.Sts.tail (Oc.Sts.tail (by assumption)))))))))))))) | exact Oc.Sts.tail (Oc.Sts.tail (Oc.Sts.tail (Oc.Sts.tail (Oc.Sts.tail (Oc.Sts.tail (Oc.Sts.tail (Oc.Sts.tail (Oc.Sts.tail (Oc.Sts.tail (Oc.Sts.tail (Oc.Sts.tail (Oc.Sts.tail (Oc.Sts.tail (Oc.Sts.tail (by assumption))))))))))))))) | exact Oc.Sts.tail (Oc.Sts.tail (Oc.Sts.tail (Oc.Sts.tail (Oc.Sts.tail (Oc.Sts.tail (Oc.Sts.tail (Oc.Sts.tail (Oc.Sts.tail (Oc.Sts.tail (Oc.Sts.tail (Oc.Sts.tail (Oc.Sts.tail (Oc.Sts.tail (Oc.Sts.tail (Oc.Sts.tail (by assumption)))))))))))))))) | exact Oc.Sts.tail (Oc.Sts.tail (Oc.Sts.tail (Oc.Sts.tail (Oc.Sts.tail (Oc.Sts.tail (Oc.Sts.tail (Oc.Sts.tail (Oc.Sts.tail (Oc.Sts.tail (Oc.Sts.tail (Oc.Sts.tail (Oc.Sts.tail (Oc.Sts.tail (Oc.Sts.tail (Oc.Sts.tail (Oc.Sts.tail (by assumption))))))))))))))))) | exact Oc.Sts.tail (Oc.Sts.tail (Oc.Sts.tail (Oc.Sts.tail (Oc.Sts.tail (Oc.Sts.tail (Oc.Sts.tail (Oc.Sts.tail (Oc.Sts.tail (Oc.Sts.tail (Oc.Sts.tail (Oc.Sts.tail (Oc.Sts.tail (Oc.Sts.tail (Oc.Sts.tail (Oc.Sts.tail (Oc.Sts.tail (Oc.Sts.tail (by assumption)))))))))))))))))) | exact Oc.Sts.tail (Oc.Sts.tail (Oc.Sts.tail (Oc.Sts.tail (Oc.Sts.tail (Oc.Sts.tail (Oc.Sts.tail (Oc.Sts.tail (Oc.Sts.tail (Oc.Sts.tail (Oc.Sts.tail (Oc.Sts.tail (Oc.Sts.tail (Oc.Sts.tail (Oc.Sts.tail (Oc.Sts.tail (Oc.Sts.tail (Oc.Sts.tail (Oc.Sts.tail (by assumption))))))))))))))))))) | exact Oc.Sts.tail (Oc.Sts.tail (Oc.Sts.tail (Oc.Sts.tail (Oc.Sts.tail (Oc.Sts.tail (Oc.Sts.tail (Oc.Sts.tail (Oc.Sts.tail (Oc.Sts.tail (Oc.Sts.tail (Oc.Sts.tail (Oc.Sts.tail (Oc.Sts.tail (Oc.Sts.tail (Oc.Sts.tail (Oc.Sts.tail (Oc.Sts.tail (Oc.Sts.tail (Oc.Sts.tail (by assumption)))))))))))))))))))) | (refine Oc.Sts.under (fun _ ot => ?_) (Oc.Sts.to0 (by assumption)); fail "fp") | (refine Oc.Sts.under (fun _ ot => ?_) (Oc.Sts.to1 (by assumption)); fail "fp") | (refine Oc.Sts.under (fun _ ot => ?_) (Oc.Sts.to2 (by assumption)); fail "fp") | (refine Oc.Sts.under (fun _ ot => ?_) (Oc.Sts.to3 (by assumption)); fail "fp") | (refine Oc.Sts.under (fun _ ot => ?_) (Oc.Sts.to4 (by assumption)); fail "fp") | (refine Oc.Sts.under (fun _ ot => ?_) (Oc.Sts.to5 (by assumption)); fail "fp") | (refine Oc.Sts.under (fun _ ot => ?_) (Oc.Sts.to6 (by assumption)); fail "fp") | (refine Oc.Sts.under (fun _ ot => ?_) (Oc.Sts.to7 (by assumption)); fail "fp") | (refine Oc.Sts.under (fun _ ot => ?_) (Oc.Sts.to8 (by assumption)); fail "fp") | (refine Oc.Sts.under (fun _ ot => ?_) (Oc.Sts.to9 (by assumption)); fail "fp") | (refine Oc.Sts.under (fun _ ot => ?_) (Oc.Sts.to10 (by assumption)); fail "fp") | (refine Oc.Sts.under (fun _ ot => ?_) (Oc.Sts.to11 (by assumption)); fail "fp") | (refine Oc.Sts.under (fun _ ot => ?_) (Oc.Sts.to12 (by assumption)); fail "fp") | (refine Oc.Sts.under (fun _ ot => ?_) (Oc.Sts.to13 (by assumption)); fail "fp") | (refine Oc.Sts.under (fun _ ot => ?_) (Oc.Sts.to14 (by assumption)); fail "fp") | (refine Oc.Sts.under (fun _ ot => ?_) (Oc.Sts.to15 (by assumption)); fail "fp") | (refine Oc.Sts.under (fun _ ot => ?_) (Oc.Sts.to16 (by assumption)); fail "fp") | (refine Oc.Sts.under (fun _ ot => ?_) (Oc.Sts.to17 (by assumption)); fail "fp") | (refine Oc.Sts.under (fun _ ot => ?_) (Oc.Sts.to18 (by assumption)); fail "fp") | (refine Oc.Sts.under (fun _ ot => ?_) (Oc.Sts.to19 (by assumption)); fail "fp") | (refine Oc.Sts.under (fun _ ot => ?_) (Oc.Sts.to20 (by assumption)); fail "fp") | (refine Oc.Sts.under (fun _ ot => ?_) (Oc.Sts.to21 (by assumption)); fail "fp") | (refine Oc.Sts.under (fun _ ot => ?_) (Oc.Sts.to22 (by assumption)); fail "fp") | (refine Oc.Sts.under (fun _ ot => ?_) (Oc.Sts.to23 (by assumption)); fail "fp") | (refine Oc.Sts.under (fun _ ot => ?_) (Oc.Sts.to24 (by assumption)); fail "fp"))
local macro_rules | `(tactic| fail "side") => `(tactic| first | omega | (dsimp only; omega) | exact Oc.le_cut2 (by omega) | exact Or.inr ⟨by omega, by omega⟩ | exact Or.inl ⟨by omega, by omega⟩ | exact ⟨by omega, by omega⟩ | exact ⟨by omega, by omega, by decide⟩ | exact Oc.small (by simp only [List.length_map, List.length_append, List.length_cons, List.length_nil, List.length_set, List.length_range, List.length_reverse, List.length_take, List.length_drop, Oc.len_rep]; omega) | exact Oc.small' (by simp only [List.length_map, List.length_append, List.length_cons, List.length_nil, List.length_set, List.length_range, List.length_reverse, List.length_take, List.length_drop, Oc.len_rep]; omega) | (simp only [List.length_map, List.length_append, List.length_cons, List.length_nil, List.length_set, List.length_range, List.length_reverse, List.length_take, List.length_drop, Oc.len_rep]; omega))
local macro_rules | `(tactic| fail "sideC") => `(tactic| first | omega | exact Or.inr ⟨by omega, by omega⟩ | exact Or.inl ⟨by omega, by omega⟩ | exact ⟨by omega, by omega⟩ | exact ⟨by omega, by omega, by decide⟩)
local macro_rules | `(tactic| fail "sideR") => `(tactic| first | exact ⟨by omega, by omega, by omega⟩ | exact ⟨by omega, by omega, by simp only [List.length_cons, List.length_nil]; omega⟩)
local macro_rules | `(tactic| fail "sideZ") => `(tactic| first | exact Oc.small (Nat.le_of_ble_eq_true rfl) | fail "side")
local macro_rules | `(tactic| fail "side3") => `(tactic| first | exact ⟨by omega, by omega, by omega⟩ | exact ⟨by simp only [List.length_map, List.length_append, List.length_cons, List.length_nil, List.length_set, List.length_range, List.length_reverse, List.length_take, List.length_drop, Oc.len_rep]; omega, by omega, by omega⟩)
local macro_rules | `(tactic| fail "le") => `(tactic| first | assumption | exact Oc.Le.refl _ | (refine Oc.Le.trans (by assumption) ?_; fail "le"))
local macro_rules | `(tactic| fail "te") => `(tactic| first | assumption | (refine Oc.Le.ap ?_ (by assumption); fail "le"))
local macro_rules | `(tactic| fail "tp") => `(tactic| exact Oc.Sts.tp (by fail "fr1") (by fail "te"))
local macro_rules | `(tactic| fail "sqT") => `(tactic| exact L2.SqT.of (by fail "tp"))
local macro_rules | `(tactic| fail "fld") => `(tactic| exact Oc.fldAt_of (by fail "fr1") rfl)
local macro_rules | `(tactic| fail "isc") => `(tactic| exact Oc.isC_of (by fail "fr1"))
local macro_rules | `(tactic| fail "ins") => `(tactic| exact Oc.isIns_of (by fail "fr1") rfl)
local macro_rules | `(tactic| fail "sqO") => `(tactic| exact L2.SqL.of (by fail "hp"))
local macro_rules | `(tactic| fail "st") => `(tactic| with_reducible first
  | refine Oc.g_cons ?_
  | refine Oc.g_nil ?_
  | refine Oc.g_c ?_
  | refine Oc.g_cb ?_
  | refine Oc.g_callX ?_
  | refine Oc.g_op ?_
  | refine Oc.g_asg ?_
  | refine Oc.g_seq ?_
  | refine Oc.g_ifS ?_
  | refine Oc.g_test ?_
  | refine Oc.g_bl ?_
  | refine Oc.g_not ?_
  | refine Oc.g_or ?_
  | refine Oc.g_and ?_
  | refine Oc.g_tB ?_
  | refine Oc.g_ret ?_
  | refine Oc.g_drop ?_
  | refine Oc.g_next ?_
  | refine Oc.g_I0 ?_
  | refine Oc.g_eqI ?_
  | refine Oc.g_neI ?_
  | refine Oc.g_isNI ?_
  | refine Oc.g_isNR ?_
  | refine Oc.g_isNN ?_
  | refine Oc.g_isNO ?_
  | refine Oc.g_notNI ?_
  | refine Oc.g_notNR ?_
  | refine Oc.g_notNN ?_
  | refine Oc.g_notNO ?_
  | refine Oc.g_bm ?_
  | refine Oc.g_lst ?_
  | refine Oc.g_tup ?_
  | refine Oc.g_for ?_
  | refine Oc.g_lc ?_
  | refine Oc.g_iList ?_
  | refine Oc.g_iRng1 ?_
  | refine Oc.g_iRng2 ?_
  | refine Oc.g_truO ?_
  | refine Oc.g_truN ?_
  | refine Oc.g_truB ?_
  | refine Oc.g_truI ?_
  | refine Oc.g_ipI ?_
  | refine Oc.g_U ?_
  | refine Oc.g_un ?_
  | refine Oc.g_gsub ?_
  | refine Oc.g_gcons ?_
  | refine Oc.g_gnil ?_
  | refine Oc.g_sl ?_
  | refine Oc.g_noPart ?_
  | refine Oc.g_part ?_
  | refine Oc.g_kPart ?_
  | refine Oc.g_callS ?_
  | refine Oc.g_andV ?_
  | refine Oc.g_orV ?_
  | refine Oc.g_notV ?_
  | refine Oc.g_kAndV ?_
  | refine Oc.g_kOrV ?_
  | refine Oc.g_kNotV ?_
  | refine Oc.g_if ?_
  | refine Oc.g_chain ?_
  | refine Oc.g_kChain ?_
  | refine Oc.g_retN ?_
  | refine Oc.g_brk ?_
  | refine Oc.g_cont ?_
  | refine Oc.g_bm0 ?_
  | refine Oc.g_intI ?_
  | refine Oc.g_intB ?_
  | refine Oc.g_min2 ?_
  | refine Oc.g_max2 ?_
  | refine Oc.g_abs ?_
  | refine Oc.g_and1 ?_
  | refine Oc.g_powc ?_
  | refine Oc.g_isII ?_
  | refine Oc.g_isIB ?_
  | refine Oc.g_isBB ?_
  | refine Oc.g_eqB ?_
  | refine Oc.g_neB ?_
  | refine Oc.g_eqO ?_
  | refine Oc.g_neO ?_
  | refine Oc.g_isN ?_
  | refine Oc.g_notN ?_
  | refine Oc.g_iEnum ?_
  | refine Oc.g_iZip ?_
  | refine Oc.g_iRevR ?_
  | refine Oc.g_rg1 ?_
  | refine Oc.g_kRg1 ?_
  | refine Oc.g_rg2 ?_
  | refine Oc.g_kRg2 ?_
  | refine Oc.g_yes ?_
  | refine Oc.g_dnewT ?_
  | refine Oc.g_dnewK ?_
  | refine Oc.g_nx ?_
  | refine Oc.g_rt ?_
  | refine Oc.g_lstRg ?_
  | refine Oc.g_revL ?_
  | refine Oc.g_call ?_)
local macro_rules | `(tactic| fail "stc") => `(tactic| with_reducible first
  | refine Oc.g_fld ?_
  | refine Oc.g_meth ?_
  | refine Oc.g_set ?_
  | refine Oc.g_make ?_
  | refine Oc.g_makeE ?_
  | refine Oc.g_own2 ?_
  | refine Oc.g_nonR ?_
  | refine Oc.g_ost1 ?_
  | refine Oc.g_din ?_
  | refine Oc.g_dnotin ?_
  | refine Oc.g_orT ?_
  | refine Oc.g_augS ?_
  | refine Oc.g_xf ?_
  | refine Oc.g_ost2 ?_
  | refine Oc.g_mkX ?_
  | refine Oc.g_raise ?_)
local macro_rules | `(tactic| fail "sv") => `(tactic| first
  | ((with_reducible apply Oc.g_var); exact rfl)
  | ((with_reducible apply Oc.g_newT); fail "fr1"; intro op oh ou ol oe os)
  | ((with_reducible apply Oc.g_newT0); assumption; intro op oh os)
  | ((with_reducible apply Oc.g_new); assumption; exact rfl; intro op oh os)
  | ((with_reducible apply Oc.g_kLst); exact Oc.small' (Nat.le_of_ble_eq_true rfl))
  | ((with_reducible apply Oc.g_kTup); exact Oc.small' (Nat.le_of_ble_eq_true rfl))
  | ((with_reducible apply Oc.g_I); fail "sideC")
  | ((with_reducible apply Oc.g_lenI); fail "sq")
  | ((with_reducible apply Oc.g_len); fail "sq")
  | ((with_reducible apply Oc.g_list); fail "sq")
  | ((with_reducible apply Oc.g_sum); fail "sq")
  | ((with_reducible apply Oc.g_anyI); fail "sq")
  | ((with_reducible apply Oc.g_any); fail "sq")
  | ((with_reducible apply Oc.g_all); fail "sq")
  | ((with_reducible apply Oc.g_slI); fail "sq")
  | ((with_reducible apply Oc.g_slA); fail "sq")
  | ((with_reducible apply Oc.g_kIL); fail "sq")
  | ((with_reducible apply Oc.g_kRevI); fail "sq")
  | ((with_reducible apply Oc.g_kRev); fail "sq")
  | ((with_reducible apply Oc.g_truIs); fail "sq")
  | ((with_reducible apply Oc.g_truL); fail "sq")
  | ((with_reducible apply Oc.g_kBML); fail "sq")
  | ((with_reducible apply Oc.g_kBM0L); fail "sq")
  | ((with_reducible apply Oc.g_inIs); fail "sq")
  | ((with_reducible apply Oc.g_kEn); fail "sq")
  | ((with_reducible apply Oc.g_tuple); fail "sq")
  | ((with_reducible apply Oc.g_lenT); fail "sqT")
  | ((with_reducible apply Oc.g_listT); fail "sqT")
  | ((with_reducible apply Oc.g_isLL); fail "hp")
  | ((with_reducible refine Oc.g_kBMS ?_))
  | ((with_reducible apply Oc.g_wipe); exact rfl)
  | ((with_reducible apply Oc.g_aug); exact rfl)
  | ((with_reducible apply Oc.g_intBA); intro oo o0 o1 ob)
  | ((with_reducible apply Oc.g_kR1); exact ⟨by omega, by omega⟩)
  | ((with_reducible apply Oc.g_kR2); exact ⟨⟨by omega, by omega⟩, by omega, by omega⟩)
  | ((with_reducible apply Oc.g_kRv); exact ⟨⟨by omega, by omega⟩, by omega, by omega⟩)
  | ((with_reducible apply Oc.g_kLR); exact ⟨by omega, by omega, by omega, by omega⟩)
  | ((with_reducible apply Oc.g_ixI); fail "sq"; fail "side")
  | ((with_reducible apply Oc.g_ix); fail "sq"; exact rfl)
  | ((with_reducible apply Oc.g_ixT); fail "sqT"; exact rfl)
  | ((with_reducible apply Oc.g_eqIs); fail "sq"; fail "sq")
  | ((with_reducible apply Oc.g_neIs); fail "sq"; fail "sq")
  | ((with_reducible apply Oc.g_kZp); fail "sq"; fail "sq")
  | ((with_reducible apply Oc.g_catI); fail "hpI"; fail "hpI"; fail "side")
  | ((with_reducible apply Oc.g_repI); fail "hpI"; fail "sideR")
  | ((with_reducible apply Oc.g_appI); fail "frI"; fail "side"; intro oh os)
  | ((with_reducible apply Oc.g_app); fail "fr1"; fail "sideZ"; intro oh os)
  | ((with_reducible apply Oc.g_ext); fail "fr1"; fail "hp"; fail "side"; intro oh os)
  | ((with_reducible apply Oc.g_setI); fail "frI"; fail "side"; intro oh os)
  | ((with_reducible apply Oc.g_setL); fail "fr1"; fail "side"; intro oh os)
  | ((with_reducible apply Oc.g_gtup); fail "sqT"; exact rfl)
  | ((with_reducible apply Oc.g_kLc); assumption; intro od oh os)
  | ((with_reducible apply Oc.g_eq); exact rfl)
  | ((with_reducible apply Oc.g_ne); exact rfl))
local macro_rules | `(tactic| fail "svc") => `(tactic| first
  | ((with_reducible apply Oc.g_kFld); fail "fld")
  | ((with_reducible apply Oc.g_kMeth); fail "ins")
  | ((with_reducible apply Oc.g_kSet); fail "fr1"; exact Nat.le_of_ble_eq_true rfl; intro oh os)
  | ((with_reducible apply Oc.g_isE); fail "hp")
  | ((with_reducible apply Oc.g_kXf); fail "hp"; exact rfl)
  | ((with_reducible apply Oc.g_getI); fail "sq"; fail "side")
  | ((with_reducible apply Oc.g_cntI); fail "sq")
  | ((with_reducible apply Oc.g_kOrTI); fail "sq")
  | ((with_reducible apply Oc.g_inPT); fail "tp")
  | ((with_reducible apply Oc.g_inPF); fail "tp")
  | ((with_reducible apply Oc.g_inPsT); fail "tp"; fail "sq"; fail "prs")
  | ((with_reducible apply Oc.g_inPsF); fail "tp"; fail "sq"; fail "prs")
  | ((with_reducible apply Oc.g_eqPsT); fail "sq"; fail "prs"; fail "sq"; fail "prs")
  | ((with_reducible apply Oc.g_eqPsF); fail "sq"; fail "prs"; fail "sq"; fail "prs")
  | ((with_reducible apply Oc.g_kOrTR); fail "sq")
  | ((with_reducible apply Oc.g_kDInT); fail "hp"; fail "tp")
  | ((with_reducible apply Oc.g_kDNotInT); fail "hp"; fail "tp")
  | ((with_reducible apply Oc.g_setT); fail "fr1"; fail "tp"; fail "side"; intro oh os)
  | ((with_reducible apply Oc.g_kOst1); fail "fr1"; intro od oh os)
  | ((with_reducible apply Oc.g_kOst2); fail "fr2"; exact Nat.le_of_ble_eq_true rfl; intro oh os)
  | ((with_reducible apply Oc.g_kOwn); fail "isc"; fail "isc")
  | ((with_reducible apply Oc.g_eqOwn); fail "isc"; fail "isc")
  | ((with_reducible apply Oc.g_isiC); fail "isc")
  | ((with_reducible apply Oc.g_eqOs); fail "sqO"; fail "sqO")
  | ((with_reducible apply Oc.g_neOs); fail "sqO"; fail "sqO")
  | ((with_reducible apply Oc.g_ixO); fail "sqO"; fail "side")
  | ((with_reducible apply Oc.g_insI); fail "frI"; fail "side3"; intro oh os))
local macro_rules | `(tactic| fail "gn") => `(tactic| ((with_reducible show L2.gName _ _ _ _ _); first
  | (with_reducible refine Oc.g_name0 ?_)
  | (with_reducible refine Oc.g_name1 ?_)
  | (with_reducible refine Oc.g_name2 ?_)
  | (with_reducible refine Oc.g_name3 ?_)
  | (with_reducible refine Oc.g_name4 ?_)
  | (with_reducible refine Oc.g_name5 ?_)
  | (with_reducible refine Oc.g_name6 ?_)
  | (with_reducible refine Oc.g_name7 ?_)
  | (with_reducible refine Oc.g_name8 ?_)
  | (with_reducible refine Oc.g_name9 ?_)
  | (with_reducible refine Oc.g_name10 ?_)
  | (with_reducible refine Oc.g_name11 ?_)
  | (with_reducible refine Oc.g_name12 ?_)
  | (with_reducible refine Oc.g_name13 ?_)
  | (with_reducible refine Oc.g_name14 ?_)
  | (with_reducible refine Oc.g_name15 ?_)
  | (with_reducible refine Oc.g_name16 ?_)
  | (with_reducible refine Oc.g_name17 ?_)
  | refine Oc.g_nameG ?_))
local macro_rules | `(tactic| fail "go") => `(tactic| repeat (first | fail "ife" | fail "st" | fail "gn" | fail "sv" | fail "gs" | fail "stc" | fail "svc"))
local macro_rules | `(tactic| fail "gd") => `(tactic| repeat (first | fail "ife" | fail "ifd" | fail "st" | fail "gn" | fail "sv" | fail "gs" | fail "stc" | fail "svc"))
local macro_rules | `(tactic| fail "ife") => `(tactic| with_reducible first | refine Oc.ifTT ?_ | refine Oc.ifFF ?_ | refine Oc.ifNT ?_ | refine Oc.ifNF ?_ | refine Oc.ifDE ?_ | refine Oc.ifNE ?_)
local macro_rules | `(tactic| fail "lce") => `(tactic| (refine ⟨_, (by fail "hp"), Oc.small (by simp only [List.length_map, List.length_append, List.length_cons, List.length_nil, List.length_set, List.length_range, List.length_reverse, List.length_take, List.length_drop, Oc.len_rep]; omega), ?_⟩; generalize hw : L2.upd _ _ _ = oh; have os := Oc.Sts.putE (by fail "fr1") hw; clear hw))
local macro_rules | `(tactic| fail "ifd") => `(tactic| first
  | ((with_reducible refine Oc.ivT ?c ?_); case c => omega)
  | ((with_reducible refine Oc.ivF ?c ?_); case c => omega)
  | ((with_reducible refine Oc.iwT ?c ?_); case c => omega)
  | ((with_reducible refine Oc.iwF ?c ?_); case c => omega)
  | ((with_reducible refine Oc.idT ?c ?_); case c => omega)
  | ((with_reducible refine Oc.idF ?c ?_); case c => omega)
  | ((with_reducible refine Oc.inT ?c ?_); case c => omega)
  | ((with_reducible refine Oc.inF ?c ?_); case c => omega))
local macro_rules | `(tactic| fail "prl") => `(tactic| first | assumption | (refine Oc.Prs.mono ?_ (by assumption); fail "le"))
local macro_rules | `(tactic| fail "prs") => `(tactic| exact Oc.Sts.prs (by fail "fr1") (by fail "prl"))

/-! ### webs: plain lists -/
namespace Wb
abbrev PI2 := Int × Int
/-- for each page the second ends of the pairs that begin with it -/
def groupOf (n : Int) (qs : List PI2) : List (List Int) := (List.range n.toNat).map fun (i : Nat) => (qs.filter fun q => decide (q.1 = (i : Int))).map (·.2)
theorem groupOf_len (n : Int) (qs : List PI2) : (groupOf n qs).length = n.toNat := by
  unfold groupOf
  rw [List.length_map, List.length_range]
theorem groupOf_get (n : Int) (qs : List PI2) {i : Nat} (h : i < n.toNat) : (groupOf n qs)[i]? = some ((qs.filter fun q => decide (q.1 = (i : Int))).map (·.2)) := by
  unfold groupOf
  rw [List.getElem?_map, List.getElem?_range h]
  rfl
theorem groupOf_snoc (n : Int) (qs : List PI2) (p : PI2) (h0 : 0 ≤ p.1) {l : List Int} (e : (groupOf n qs)[p.1.toNat]? = some l) : groupOf n (qs ++ [p]) = (groupOf n qs).set p.1.toNat (l ++ [p.2]) := by
  apply List.ext_getElem?
  intro i
  by_cases hi : i < n.toNat
  · rw [groupOf_get _ _ hi]
    by_cases q : i = p.1.toNat
    · subst q
      rw [List.getElem?_set_self (by rw [groupOf_len]; exact hi)]
      rw [groupOf_get _ _ hi] at e
      have e := Option.some.inj e
      have d : decide (p.1 = ((p.1.toNat : Nat) : Int)) = true := decide_eq_true (by omega)
      have d2 : ([p].filter fun q : PI2 => decide (q.1 = ((p.1.toNat : Nat) : Int))) = [p] := by
        rw [List.filter_cons_of_pos (by exact d)]
        rfl
      rw [List.filter_append, List.map_append, e, d2]
      rfl
    · rw [List.getElem?_set_ne (fun z => q z.symm), groupOf_get _ _ hi, List.filter_append, List.map_append]
      have d : ¬ decide (p.1 = (i : Int)) = true := fun z => by
        have := of_decide_eq_true z
        omega
      have d2 : ([p].filter fun q : PI2 => decide (q.1 = (i : Int))) = [] := by
        rw [List.filter_cons_of_neg (by exact d)]
        rfl
      rw [d2, List.map_nil, List.append_nil]
  · rw [List.getElem?_eq_none (by rw [groupOf_len]; omega), List.getElem?_eq_none (by rw [List.length_set, groupOf_len]; omega)]
theorem groupOf_nil (n : Int) : groupOf n [] = List.replicate n.toNat [] := by
  unfold groupOf
  apply List.ext_getElem?
  intro i
  rw [List.getElem?_map, List.getElem?_replicate]
  by_cases h : i < n.toNat
  · rw [List.getElem?_range h, if_pos h]
    rfl
  · rw [List.getElem?_eq_none (by rw [List.length_range]; omega), if_neg h]
    rfl
/-- pointers of a web of n pages -/
def Ok (n : Int) (ps : List PI2) : Prop := ps.Nodup ∧ ∀ p ∈ ps, 0 ≤ p.1 ∧ p.1 < n ∧ 0 ≤ p.2 ∧ p.2 < n ∧ p.1 ≠ p.2
theorem Ok.mono {m n : Int} {ps : List PI2} (h : Ok m ps) (l : m ≤ n) : Ok n ps := ⟨h.1, fun p hp => by
  have := h.2 p hp
  omega⟩
theorem Ok.nil {m : Int} : Ok m [] := ⟨.nil, fun _ h => nomatch h⟩
theorem Ok.snoc {m : Int} {ps : List PI2} {p : PI2} (h : Ok m ps) (hp : 0 ≤ p.1 ∧ p.1 < m ∧ 0 ≤ p.2 ∧ p.2 < m ∧ p.1 ≠ p.2) (n : p ∉ ps) : Ok m (ps ++ [p]) := by
  refine ⟨?_, fun q hq => ?_⟩
  · rw [List.nodup_append]
    refine ⟨h.1, by simp, fun a ha b hb e => ?_⟩
    rw [List.mem_singleton.mp hb] at e
    exact n (e ▸ ha)
  · rcases List.mem_append.mp hq with hq | hq
    · exact h.2 q hq
    · rw [List.mem_singleton.mp hq]
      exact hp
theorem Ok.down {m x : Int} {ps : List PI2} (h : Ok m ps) (h0 : 0 ≤ x) (h1 : x < m) : Ok (m + 1) (ps ++ [(x, m)]) :=
  (h.mono (by omega)).snoc ⟨h0, by show x < m + 1; omega, by show 0 ≤ m; omega, by show m < m + 1; omega, by show x ≠ m; omega⟩ fun z => by
    have := h.2 _ z
    have e : (x, m).2 = m := rfl
    omega
theorem Ok.up {m x : Int} {ps : List PI2} (h : Ok m ps) (h0 : 0 ≤ x) (h1 : x < m) : Ok (m + 1) (ps ++ [(m, x)]) :=
  (h.mono (by omega)).snoc ⟨by show 0 ≤ m; omega, by show m < m + 1; omega, h0, by show x < m + 1; omega, by show m ≠ x; omega⟩ fun z => by
    have := h.2 _ z
    have e : (m, x).1 = m := rfl
    omega
theorem Ok.both {m x : Int} {ps : List PI2} (h : Ok m ps) (h0 : 0 ≤ x) (h1 : x < m) : Ok (m + 1) (ps ++ [(x, m)] ++ [(m, x)]) :=
  (h.down h0 h1).snoc ⟨by show 0 ≤ m; omega, by show m < m + 1; omega, h0, by show x < m + 1; omega, by show m ≠ x; omega⟩ fun z => by
    rcases List.mem_append.mp z with z | z
    · have := h.2 _ z
      have e : (m, x).1 = m := rfl
      omega
    · have e := congrArg Prod.fst (List.mem_singleton.mp z)
      have e : m = x := e
      omega
def flip (p : PI2) : PI2 := (p.2, p.1)
end Wb

/-! ### owners (plain lists) -/
namespace Ow
open Oc PySem L2
abbrev OwL := List (PI2 × Int)
def oend (q : PI2) (p : Int) : Int := if p = q.1 then q.2 else q.1
def ocn (ow : OwL) (p : Int) : Nat := ow.countP fun e => decide (e.2 = p)
def own (ow : OwL) (p : Int) : List PI2 := (ow.filter fun e => decide (e.2 = p)).map (·.1)
theorem own_len (ow : OwL) (p : Int) : (own ow p).length = ocn ow p := by
  unfold own ocn
  rw [List.length_map, List.countP_eq_length_filter]
theorem mem_own {ow : OwL} {p : Int} {q : PI2} : q ∈ own ow p ↔ (q, p) ∈ ow := by
  unfold own
  rw [List.mem_map]
  constructor
  · rintro ⟨e, h, rfl⟩
    obtain ⟨h1, h2⟩ := List.mem_filter.mp h
    have h2 : e.2 = p := of_decide_eq_true h2
    rw [← h2]
    exact h1
  · exact fun h => ⟨(q, p), List.mem_filter.mpr ⟨h, decide_eq_true rfl⟩, rfl⟩
theorem oend_oend {q : PI2} {p : Int} (n : q.1 ≠ q.2) (h : p = q.1 ∨ p = q.2) : oend q (oend q p) = p := by
  have n2 : ¬ q.2 = q.1 := fun e => n e.symm
  unfold oend
  rcases h with h | h <;> subst h
  · rw [if_pos rfl, if_neg n2]
  · rw [if_neg n2, if_pos rfl]
theorem oend_end (q : PI2) (p : Int) : oend q p = q.1 ∨ oend q p = q.2 := by
  unfold oend
  split
  · exact .inr rfl
  · exact .inl rfl
structure Good (m : Int) (ow : OwL) : Prop where
  nd : (ow.map (·.1)).Nodup
  ne : ∀ e ∈ ow, e.1.1 ≠ e.1.2
  en : ∀ e ∈ ow, e.2 = e.1.1 ∨ e.2 = e.1.2
  rg : ∀ e ∈ ow, (0 ≤ e.1.1 ∧ e.1.1 < m) ∧ 0 ≤ e.1.2 ∧ e.1.2 < m
theorem Good.rg2 {m : Int} {ow : OwL} (g : Good m ow) {e : PI2 × Int} (h : e ∈ ow) : 0 ≤ e.2 ∧ e.2 < m := by
  have z := g.rg e h
  rcases g.en e h with q | q <;> rw [q]
  · exact z.1
  · exact z.2
theorem Good.nil (m : Int) : Good m [] := ⟨List.nodup_nil, (fun _ h => nomatch h), (fun _ h => nomatch h), fun _ h => nomatch h⟩
theorem Good.snoc {m : Int} {ow : OwL} (g : Good m ow) {q : PI2} {p : Int} (hn : q ∉ ow.map (·.1)) (ne : q.1 ≠ q.2) (en : p = q.1 ∨ p = q.2) (rg : (0 ≤ q.1 ∧ q.1 < m) ∧ 0 ≤ q.2 ∧ q.2 < m) : Good m (ow ++ [(q, p)]) := by
  refine ⟨?_, ?_, ?_, ?_⟩
  · rw [List.map_append]
    refine List.nodup_append.mpr ⟨g.nd, List.nodup_cons.mpr ⟨List.not_mem_nil, List.nodup_nil⟩, fun a ha b hb e => ?_⟩
    have e2 : b = q := by simpa using hb
    rw [e, e2] at ha
    exact hn ha
  all_goals
    intro e he
    rcases List.mem_append.mp he with h | h
  · exact g.ne e h
  · have e2 : e = (q, p) := by simpa using h
    rw [e2]
    exact ne
  · exact g.en e h
  · have e2 : e = (q, p) := by simpa using h
    rw [e2]
    exact en
  · exact g.rg e h
  · have e2 : e = (q, p) := by simpa using h
    rw [e2]
    exact rg
theorem getT_of {α : Type} {k : PI2} {v : α} : ∀ {ps : List (PI2 × α)}, (ps.map (·.1)).Nodup → (k, v) ∈ ps → getT ps k = some v
  | [], _, h => nomatch h
  | p :: r, hn, h => by
    rw [List.map_cons] at hn
    obtain ⟨h1, h2⟩ := List.nodup_cons.mp hn
    rcases List.mem_cons.mp h with e | h
    · subst e
      exact getT_pos rfl
    · rw [getT_neg fun e => h1 (by rw [e]; exact List.mem_map_of_mem (f := fun x : PI2 × α => x.1) h)]
      exact getT_of h2 h
theorem getT_mem {α : Type} {k : PI2} {v : α} : ∀ {ps : List (PI2 × α)}, getT ps k = some v → (k, v) ∈ ps
  | [], h => nomatch h
  | p :: r, h => by
    by_cases e : p.1 = k
    · rw [getT_pos e] at h
      cases h
      subst e
      exact List.mem_cons_self
    · rw [getT_neg e] at h
      exact List.mem_cons_of_mem _ (getT_mem h)
theorem putT_pos {α : Type} {p : PI2 × α} {r : List (PI2 × α)} {k : PI2} {v : α} (e : p.1 = k) (hn : k ∉ r.map (·.1)) : putT (p :: r) k v = (k, v) :: r := by
  unfold putT
  rw [if_pos (by simp [e])]
  rw [List.map_cons, if_pos e, e]
  congr 1
  refine (List.map_congr_left fun x hx => ?_).trans (List.map_id _)
  rw [if_neg]
  · rfl
  · intro z
    exact hn (z ▸ List.mem_map_of_mem (f := fun x : PI2 × α => x.1) hx)
theorem putT_neg {α : Type} {p : PI2 × α} {r : List (PI2 × α)} {k : PI2} {v : α} (e : p.1 ≠ k) : putT (p :: r) k v = p :: putT r k v := by
  unfold putT
  by_cases h : (r.any fun p => decide (p.1 = k)) = true
  · rw [if_pos h, if_pos (by rw [List.any_cons, h, Bool.or_true]), List.map_cons, if_neg e]
  · rw [if_neg h, if_neg (by rw [List.any_cons, decide_eq_false e, Bool.false_or]; exact h)]
    rfl
theorem putT_keys {α : Type} {k : PI2} {v u : α} : ∀ {ps : List (PI2 × α)}, (ps.map (·.1)).Nodup → getT ps k = some u → (putT ps k v).map (·.1) = ps.map (·.1)
  | [], _, h => nomatch h
  | p :: r, hn, h => by
    rw [List.map_cons] at hn
    obtain ⟨h1, h2⟩ := List.nodup_cons.mp hn
    by_cases e : p.1 = k
    · rw [putT_pos e (e ▸ h1), List.map_cons, List.map_cons, e]
    · rw [getT_neg e] at h
      rw [putT_neg e, List.map_cons, List.map_cons, putT_keys h2 h]
theorem putT_cnt {k : PI2} {x y : Int} (p : Int) : ∀ {ow : OwL}, (ow.map (·.1)).Nodup → getT ow k = some y → ocn (putT ow k x) p + (if p = y then 1 else 0) = ocn ow p + (if p = x then 1 else 0)
  | [], _, h => nomatch h
  | q :: r, hn, h => by
    rw [List.map_cons] at hn
    obtain ⟨h1, h2⟩ := List.nodup_cons.mp hn
    by_cases e : q.1 = k
    · rw [getT_pos e] at h
      cases h
      rw [putT_pos e (e ▸ h1)]
      unfold ocn
      rw [List.countP_cons, List.countP_cons]
      have f1 : ∀ a b : Int, (if decide (a = b) = true then (1 : Nat) else 0) = if b = a then 1 else 0 := fun a b => by
        by_cases e : a = b
        · rw [if_pos (decide_eq_true e), if_pos e.symm]
        · rw [if_neg (fun z => e (of_decide_eq_true z)), if_neg fun z => e z.symm]
      rw [f1, f1]
      show _ + (if p = x then 1 else 0) + _ = _
      omega
    · rw [getT_neg e] at h
      rw [putT_neg e]
      have z := putT_cnt (x := x) p h2 h
      unfold ocn at *
      rw [List.countP_cons, List.countP_cons]
      omega
theorem putT_get {α : Type} {k j : PI2} {v u : α} : ∀ {ps : List (PI2 × α)}, (ps.map (·.1)).Nodup → getT ps k = some u → getT (putT ps k v) j = if j = k then some v else getT ps j
  | [], _, h => nomatch h
  | p :: r, hn, h => by
    rw [List.map_cons] at hn
    obtain ⟨h1, h2⟩ := List.nodup_cons.mp hn
    by_cases e : p.1 = k
    · rw [putT_pos e (e ▸ h1)]
      by_cases e2 : j = k
      · rw [if_pos e2, getT_pos e2.symm]
      · rw [if_neg e2, getT_neg (fun z => e2 z.symm), getT_neg (fun z => e2 (z.symm.trans e))]
    · rw [getT_neg e] at h
      rw [putT_neg e]
      by_cases e2 : p.1 = j
      · rw [getT_pos e2, getT_pos e2, if_neg fun z => e (e2.trans z)]
      · rw [getT_neg e2, getT_neg e2, putT_get h2 h]
theorem putT_mem {α : Type} {k : PI2} {v : α} {ps : List (PI2 × α)} {e : PI2 × α} (h : e ∈ putT ps k v) : e = (k, v) ∨ e ∈ ps := by
  unfold putT at h
  split at h
  · obtain ⟨p, hp, q⟩ := List.mem_map.mp h
    split at q
    · rename_i c
      rw [← c]
      exact .inl q.symm
    · exact .inr (q ▸ hp)
  · rcases List.mem_append.mp h with h | h
    · exact .inr h
    · exact .inl (by simpa using h)
theorem Good.put {m : Int} {ow : OwL} (g : Good m ow) {q : PI2} {x y : Int} (h : getT ow q = some y) (hx : x = q.1 ∨ x = q.2) : Good m (putT ow q x) := by
  have k := getT_mem h
  refine ⟨by rw [putT_keys g.nd h]; exact g.nd, fun e he => ?_, fun e he => ?_, fun e he => ?_⟩ <;> rcases putT_mem he with z | z
  · rw [z]
    exact g.ne (q, y) k
  · exact g.ne e z
  · rw [z]
    exact hx
  · exact g.en e z
  · rw [z]
    exact g.rg (q, y) k
  · exact g.rg e z
/-! the chain -/
abbrev CamL := List (Int × Option (Addr × PI2))
structure Came (ow : OwL) (s : Int) (cam : CamL) : Prop where
  hd : cam[0]? = some (s, none)
  nn : ∀ j x, cam[j]? = some (x, none) → j = 0
  nd : (cam.map (·.1)).Nodup
  st : ∀ j x t q, cam[j]? = some (x, some (t, q)) → ∃ (i : Nat) (y : Int) (o : Option (Addr × PI2)), i < j ∧ cam[i]? = some (y, o) ∧ (q, y) ∈ ow ∧ x = oend q y
theorem key_at {α : Type} {cam : List (Int × α)} (nd : (cam.map (·.1)).Nodup) {i j : Nat} {x : Int} {o o' : α} (h1 : cam[i]? = some (x, o)) (h2 : cam[j]? = some (x, o')) : i = j := by
  have a : (cam.map (·.1))[i]? = some x := by rw [List.getElem?_map, h1]; rfl
  have b : (cam.map (·.1))[j]? = some x := by rw [List.getElem?_map, h2]; rfl
  exact (List.getElem?_inj (List.getElem?_eq_some_iff.mp a).1 nd).mp (a.trans b.symm)
theorem getP_of {α : Type} {k : Int} {v : α} : ∀ {ps : List (Int × α)}, (ps.map (·.1)).Nodup → (k, v) ∈ ps → getP ps k = some v
  | [], _, h => nomatch h
  | p :: r, hn, h => by
    rw [List.map_cons] at hn
    obtain ⟨h1, h2⟩ := List.nodup_cons.mp hn
    rcases List.mem_cons.mp h with e | h
    · subst e
      exact getP_pos rfl
    · rw [getP_neg fun e => h1 (by rw [e]; exact List.mem_map_of_mem (f := fun x : Int × α => x.1) h)]
      exact getP_of h2 h
theorem getP_at {α : Type} {cam : List (Int × α)} (nd : (cam.map (·.1)).Nodup) {j : Nat} {x : Int} {o : α} (h : cam[j]? = some (x, o)) : getP cam x = some o := getP_of nd (List.mem_of_getElem? h)
structure Turn (m : Int) (ow : OwL) (cam : CamL) (last : Int) (cur : OwL) (j : Nat) (x : Int) (o : Option (Addr × PI2)) : Prop where
  pl : cam[j]? = some (x, o)
  ky : cur.map (·.1) = ow.map (·.1)
  ct : ∀ p, ocn cur p + (if p = x then 1 else 0) = ocn ow p + (if p = last then 1 else 0)
  un : ∀ i y t q, i ≤ j → cam[i]? = some (y, some (t, q)) → getT cur q = getT ow q
  gd : Good m cur
theorem Turn.start {m : Int} {ow : OwL} {cam : CamL} {last : Int} {j : Nat} {o : Option (Addr × PI2)} (g : Good m ow) (h : cam[j]? = some (last, o)) : Turn m ow cam last ow j last o := ⟨h, rfl, fun _ => rfl, fun _ _ _ _ _ _ => rfl, g⟩
theorem Turn.step {m : Int} {ow cur : OwL} {cam : CamL} {s last x : Int} {j : Nat} {t : Addr} {q : PI2} (g : Good m ow) (C : Came ow s cam) (T : Turn m ow cam last cur j x (some (t, q))) : ∃ i y o, i < j ∧ getT cur q = some y ∧ oend q x = y ∧ getP cam y = some o ∧ Turn m ow cam last (putT cur q x) i y o := by
  obtain ⟨i, y, o, hi, hy, hq, hx⟩ := C.st _ _ _ _ T.pl
  have hg : getT ow q = some y := getT_of g.nd hq
  have hc : getT cur q = some y := (T.un j x t q (Nat.le_refl _) T.pl).trans hg
  have ne : q.1 ≠ q.2 := g.ne _ hq
  have en : y = q.1 ∨ y = q.2 := g.en _ hq
  have nd : (cur.map (·.1)).Nodup := by rw [T.ky]; exact g.nd
  refine ⟨i, y, o, hi, hc, by rw [hx]; exact oend_oend ne en, getP_at C.nd hy, hy, by rw [putT_keys nd hc]; exact T.ky, fun p => ?_, fun k z t' q' hk hz => ?_, T.gd.put hc (by rw [hx]; exact oend_end q y)⟩
  · have a := putT_cnt (x := x) p nd hc
    have b := T.ct p
    omega
  · rw [putT_get nd hc]
    rw [if_neg]
    · exact T.un k z t' q' (Nat.le_trans hk (Nat.le_of_lt hi)) hz
    · intro e
      subst e
      obtain ⟨i2, y2, o2, _, _, hq2, hx2⟩ := C.st _ _ _ _ hz
      have e2 : y2 = y := Option.some.inj ((getT_of g.nd hq2).symm.trans hg)
      have e3 : z = x := by rw [hx, hx2, e2]
      subst e3
      have := key_at C.nd hz T.pl
      omega
theorem Turn.fin {m : Int} {ow cur : OwL} {cam : CamL} {s last x : Int} {j : Nat} (C : Came ow s cam) (T : Turn m ow cam last cur j x none) : x = s := by
  have e := C.nn _ _ T.pl
  subst e
  have z := C.hd.symm.trans T.pl
  cases z
  rfl
/-! lots -/
def tot (bl : List Int) (L : List Int) : Int := (L.map fun p => gI bl p).sum
def ins (ks : List PI2) (L : List Int) : Nat := ks.countP fun q => decide (q.1 ∈ L ∧ q.2 ∈ L)
theorem cnt_sum (ow : OwL) : ∀ {L : List Int}, L.Nodup → (L.map fun p => (ocn ow p : Int)).sum = (ow.countP fun e => decide (e.2 ∈ L) : Nat)
  | [], _ => by
    have e : (ow.countP fun e => decide (e.2 ∈ ([] : List Int))) = 0 := List.countP_eq_zero.mpr fun e _ => by simp
    rw [e]
    rfl
  | p :: L, h => by
    obtain ⟨h1, h2⟩ := List.nodup_cons.mp h
    rw [List.map_cons, List.sum_cons, cnt_sum ow h2]
    have key : ∀ l : OwL, ocn l p + (l.countP fun e => decide (e.2 ∈ L)) = l.countP fun e => decide (e.2 ∈ p :: L) := by
      intro l
      induction l with
      | nil => rfl
      | cons a l ih =>
        unfold ocn at *
        rw [List.countP_cons, List.countP_cons, List.countP_cons, ← ih]
        by_cases e : a.2 = p
        · have n : ¬ a.2 ∈ L := fun z => h1 (e ▸ z)
          simp [e, h1]
          omega
        · simp [e]
          omega
    have := key ow
    omega
theorem sum_le {f g : Int → Int} : ∀ {L : List Int}, (∀ p ∈ L, f p ≤ g p) → (L.map f).sum ≤ (L.map g).sum
  | [], _ => Int.le_refl _
  | p :: L, h => by
    rw [List.map_cons, List.map_cons, List.sum_cons, List.sum_cons]
    have a := h p List.mem_cons_self
    have b := sum_le (f := f) (g := g) fun q hq => h q (List.mem_cons_of_mem _ hq)
    omega
theorem ins_keys (ow : OwL) (L : List Int) : ins (ow.map (·.1)) L = ow.countP fun e => decide (e.1.1 ∈ L ∧ e.1.2 ∈ L) := by
  unfold ins
  rw [List.countP_map]
  rfl
/-- a lot without an owner for one more is short -/
theorem lot_short {m : Int} {ow : OwL} {bl L : List Int} {q : PI2} (g : Good m ow) (nd : L.Nodup) (h1 : q.1 ∈ L) (h2 : q.2 ∈ L) (hb : ∀ p ∈ L, gI bl p ≤ ocn ow p) (hc : ∀ p ∈ L, ∀ r ∈ own ow p, oend r p ∈ L) : tot bl L < ins (ow.map (·.1) ++ [q]) L := by
  have a : tot bl L ≤ (L.map fun p => (ocn ow p : Int)).sum := sum_le hb
  rw [cnt_sum ow nd] at a
  have b : (ow.countP fun e => decide (e.2 ∈ L)) ≤ ins (ow.map (·.1)) L := by
    rw [ins_keys]
    refine List.countP_mono_left fun e he hm => decide_eq_true ?_
    have hm : e.2 ∈ L := of_decide_eq_true hm
    have ho := hc e.2 hm e.1 (mem_own.mpr he)
    unfold oend at ho
    have ne := g.ne e he
    rcases g.en e he with z | z
    · rw [if_pos z] at ho
      exact ⟨z ▸ hm, ho⟩
    · rw [if_neg (by rw [z]; exact fun w => ne w.symm)] at ho
      exact ⟨ho, z ▸ hm⟩
  have c : ins (ow.map (·.1) ++ [q]) L = ins (ow.map (·.1)) L + 1 := by
    unfold ins
    rw [List.countP_append]
    congr 1
    rw [List.countP_cons, if_pos (decide_eq_true ⟨h1, h2⟩)]
    rfl
  omega
/-- no lot is short where there is a dealing -/
theorem deal_not {m : Int} {ow : OwL} {bl L : List Int} (g : Good m ow) (nd : L.Nodup) (hf : ∀ p ∈ L, (ocn ow p : Int) ≤ gI bl p) : (ins (ow.map (·.1)) L : Int) ≤ tot bl L := by
  have a : (L.map fun p => (ocn ow p : Int)).sum ≤ tot bl L := sum_le hf
  rw [cnt_sum ow nd] at a
  have b : ins (ow.map (·.1)) L ≤ ow.countP fun e => decide (e.2 ∈ L) := by
    rw [ins_keys]
    refine List.countP_mono_left fun e he hm => decide_eq_true ?_
    obtain ⟨m1, m2⟩ := of_decide_eq_true hm
    rcases g.en e he with z | z <;> rw [z]
    · exact m1
    · exact m2
  omega
theorem ins_sub {ks ps L : _} (nd : ks.Nodup) (h : ∀ q ∈ ks, q ∈ ps) : ins ks L ≤ ins ps L := by
  unfold ins
  rw [List.countP_eq_length_filter, List.countP_eq_length_filter]
  refine List.Nodup.length_le_of_subset (List.Pairwise.filter _ nd) fun q hq => ?_
  obtain ⟨a, b⟩ := List.mem_filter.mp hq
  exact List.mem_filter.mpr ⟨h q a, b⟩
theorem nodup_range_le {L : List Int} {m : Int} (nd : L.Nodup) (h : ∀ p ∈ L, 0 ≤ p ∧ p < m) : (L.length : Int) ≤ m ∨ L = [] := by
  cases e : L with
  | nil => exact .inr rfl
  | cons a r =>
    left
    rw [← e]
    have ha := h a (e ▸ List.mem_cons_self)
    have z := List.Nodup.length_le_of_subset (l₂ := (List.range m.toNat).map fun i : Nat => (i : Int)) nd fun p hp => List.mem_map.mpr ⟨p.toNat, List.mem_range.mpr (by have := h p hp; omega), by have := h p hp; omega⟩
    rw [List.length_map, List.length_range] at z
    omega
end Ow

namespace K07
open PySem PySem.Spec PyProof.Rows L2 Oc Wb Ow
set_option maxHeartbeats 4000000
def topS (i : Nat) : Stmt := PySem.Challenge.pw_onecopy_k07_whole_slack.main.body.getD i (.Pass ⟨0, 0, 0, 0⟩)
abbrev s_LotError_init : Stmt := inClass (topS 3) 0
abbrev s_ShortLot_init : Stmt := inClass (topS 4) 0
abbrev s_NoPage_init : Stmt := inClass (topS 6) 0
abbrev s_other_end : Stmt := topS 11
abbrev s_owned_count : Stmt := topS 12
abbrev s_owned_lists : Stmt := topS 13
abbrev s_make_room : Stmt := topS 14
abbrev s_turn_chain : Stmt := topS 15
abbrev s_place_pointer : Stmt := topS 16
abbrev s_place_rest : Stmt := topS 17
abbrev s_place_all : Stmt := topS 18
abbrev s_check_pages : Stmt := topS 20
abbrev s_grouped : Stmt := topS 21
abbrev s_Web_init : Stmt := inClass (topS 22) 0
abbrev s_Web_arrows : Stmt := inClass (topS 22) 3
abbrev s_Standing_init : Stmt := inClass (topS 25) 0
abbrev s_Standing_blanks : Stmt := inClass (topS 25) 3
abbrev s_Standing_blank_of : Stmt := inClass (topS 25) 4
abbrev s_blank_table : Stmt := topS 27
abbrev s_owner_table : Stmt := topS 28
abbrev s_owner_list : Stmt := topS 29
abbrev s_slack : Stmt := topS 30
abbrev s_law_cell : Stmt := topS 32
abbrev s_law_source : Stmt := topS 33
abbrev s_law_take : Stmt := topS 34
abbrev s_law_parents : Stmt := topS 35
abbrev s_law_pointers : Stmt := topS 36
abbrev s_law_names : Stmt := topS 37
abbrev s_law_named : Stmt := topS 38
abbrev s_law_extras : Stmt := topS 39
abbrev s_law_joined : Stmt := topS 40
abbrev s_law_world : Stmt := topS 41
abbrev s_law_lines : Stmt := topS 42
abbrev s_law_owners : Stmt := topS 43
abbrev s_law_table : Stmt := topS 44
abbrev s_law_near : Stmt := topS 45
abbrev s_law_is_integer : Stmt := topS 46
abbrev s_law_is_dealing : Stmt := topS 47
abbrev s_law_is_lot : Stmt := topS 48
abbrev s_law_left : Stmt := topS 49
abbrev s_law_values : Stmt := topS 50
abbrev s_law_told : Stmt := topS 51
abbrev s_law_papers : Stmt := topS 52
abbrev s_law_judged : Stmt := topS 53
abbrev s_law_refused : Stmt := topS 54
abbrev s_law : Stmt := topS 55
theorem sc_LotError_init : NdefX.NScope ["self", "lot", "text", "__class__"] ["self", "lot", "text"] ["__class__"] (defScope s_LotError_init) := NdefX.nscope_by (by decide +kernel)
theorem sc_ShortLot_init : NdefX.NScope ["self", "lot", "__class__"] ["self", "lot"] ["__class__"] (defScope s_ShortLot_init) := NdefX.nscope_by (by decide +kernel)
theorem sc_NoPage_init : NdefX.NScope ["self", "page", "__class__"] ["self", "page"] ["__class__"] (defScope s_NoPage_init) := NdefX.nscope_by (by decide +kernel)
theorem sc_other_end : FnScope ["pointer", "page", "holder", "target"] ["pointer", "page"] (defScope s_other_end) := ⟨rfl, rfl, rfl, by decide +kernel, rfl, by decide +kernel, by decide +kernel⟩
theorem sc_owned_count : FnScope ["owners", "page", "owner"] ["owners", "page"] (defScope s_owned_count) := ⟨rfl, rfl, rfl, by decide +kernel, rfl, by decide +kernel, by decide +kernel⟩
theorem sc_owned_lists : FnScope ["owners", "found", "pointer", "owner"] ["owners"] (defScope s_owned_lists) := ⟨rfl, rfl, rfl, by decide +kernel, rfl, by decide +kernel, by decide +kernel⟩
theorem sc_make_room : FnScope ["owners", "blank", "start", "owned", "came_along", "waiting", "place", "page", "pointer", "other"] ["owners", "blank", "start"] (defScope s_make_room) := ⟨rfl, rfl, rfl, by decide +kernel, rfl, by decide +kernel, by decide +kernel⟩
theorem sc_turn_chain : FnScope ["owners", "came_along", "last", "page", "pointer"] ["owners", "came_along", "last"] (defScope s_turn_chain) := ⟨rfl, rfl, rfl, by decide +kernel, rfl, by decide +kernel, by decide +kernel⟩
theorem sc_place_pointer : FnScope ["owners", "blank", "pointer", "page", "reached_pages", "lot"] ["owners", "blank", "pointer"] (defScope s_place_pointer) := ⟨rfl, rfl, rfl, by decide +kernel, rfl, by decide +kernel, by decide +kernel⟩
theorem sc_place_rest : FnScope ["owners", "blank", "pointers", "index", "pointer", "lot"] ["owners", "blank", "pointers"] (defScope s_place_rest) := ⟨rfl, rfl, rfl, by decide +kernel, rfl, by decide +kernel, by decide +kernel⟩
theorem sc_place_all : FnScope ["blank", "pointers", "owners", "room", "later", "pointer", "ends", "left", "lot", "page"] ["blank", "pointers"] (defScope s_place_all) := ⟨rfl, rfl, rfl, by decide +kernel, rfl, by decide +kernel, by decide +kernel⟩
theorem sc_check_pages : FnScope ["pages", "lot", "page"] ["pages", "lot"] (defScope s_check_pages) := ⟨rfl, rfl, rfl, by decide +kernel, rfl, by decide +kernel, by decide +kernel⟩
theorem sc_grouped : FnScope ["pages", "pairs", "rows", "page", "other", "_"] ["pages", "pairs"] (defScope s_grouped) := ⟨rfl, rfl, rfl, by decide +kernel, rfl, by decide +kernel, by decide +kernel⟩
theorem sc_Web_init : FnScope ["self", "pages", "pointers", "known", "index", "holder", "target", "outside", "arrows"] ["self", "pages", "pointers"] (defScope s_Web_init) := ⟨rfl, rfl, rfl, by decide +kernel, rfl, by decide +kernel, by decide +kernel⟩
theorem sc_Web_arrows : FnScope ["self"] ["self"] (defScope s_Web_arrows) := ⟨rfl, rfl, rfl, by decide +kernel, rfl, by decide +kernel, by decide +kernel⟩
theorem sc_Standing_init : FnScope ["self", "web", "lines", "blank", "page", "number"] ["self", "web", "lines", "blank"] (defScope s_Standing_init) := ⟨rfl, rfl, rfl, by decide +kernel, rfl, by decide +kernel, by decide +kernel⟩
theorem sc_Standing_blanks : FnScope ["self"] ["self"] (defScope s_Standing_blanks) := ⟨rfl, rfl, rfl, by decide +kernel, rfl, by decide +kernel, by decide +kernel⟩
theorem sc_Standing_blank_of : FnScope ["self", "page"] ["self", "page"] (defScope s_Standing_blank_of) := ⟨rfl, rfl, rfl, by decide +kernel, rfl, by decide +kernel, by decide +kernel⟩
theorem sc_blank_table : FnScope ["standing"] ["standing"] (defScope s_blank_table) := ⟨rfl, rfl, rfl, by decide +kernel, rfl, by decide +kernel, by decide +kernel⟩
theorem sc_owner_table : FnScope ["standing", "owners", "_", "lot"] ["standing"] (defScope s_owner_table) := ⟨rfl, rfl, rfl, by decide +kernel, rfl, by decide +kernel, by decide +kernel⟩
theorem sc_owner_list : FnScope ["standing", "owners", "pointer"] ["standing", "owners"] (defScope s_owner_list) := ⟨rfl, rfl, rfl, by decide +kernel, rfl, by decide +kernel, by decide +kernel⟩
theorem sc_slack : FnScope ["standing", "page", "lines", "owners", "blank", "lot"] ["standing", "page"] (defScope s_slack) := ⟨rfl, rfl, rfl, by decide +kernel, rfl, by decide +kernel, by decide +kernel⟩
theorem sc_law_cell : FnScope ["script", "k"] ["script", "k"] (defScope s_law_cell) := ⟨rfl, rfl, rfl, by decide +kernel, rfl, by decide +kernel, by decide +kernel⟩
theorem sc_law_source : FnScope ["cell"] ["cell"] (defScope s_law_source) := ⟨rfl, rfl, rfl, by decide +kernel, rfl, by decide +kernel, by decide +kernel⟩
theorem sc_law_take : FnScope ["source", "size", "digit", "first", "second"] ["source", "size"] (defScope s_law_take) := ⟨rfl, rfl, rfl, by decide +kernel, rfl, by decide +kernel, by decide +kernel⟩
theorem sc_law_parents : FnScope ["source", "many", "shape", "parents", "k"] ["source", "many", "shape"] (defScope s_law_parents) := ⟨rfl, rfl, rfl, by decide +kernel, rfl, by decide +kernel, by decide +kernel⟩
theorem sc_law_pointers : FnScope ["source", "parents", "way", "pointers", "k", "turn"] ["source", "parents", "way"] (defScope s_law_pointers) := ⟨rfl, rfl, rfl, by decide +kernel, rfl, by decide +kernel, by decide +kernel⟩
theorem sc_law_names : FnScope ["source", "many", "names", "way", "k", "other", "held"] ["source", "many"] (defScope s_law_names) := ⟨rfl, rfl, rfl, by decide +kernel, rfl, by decide +kernel, by decide +kernel⟩
theorem sc_law_named : FnScope ["pointers", "names", "turn", "named", "pair"] ["pointers", "names", "turn"] (defScope s_law_named) := ⟨rfl, rfl, rfl, by decide +kernel, rfl, by decide +kernel, by decide +kernel⟩
theorem sc_law_extras : FnScope ["source", "many", "shape", "more", "k", "start", "share", "end"] ["source", "many", "shape"] (defScope s_law_extras) := ⟨rfl, rfl, rfl, by decide +kernel, rfl, by decide +kernel, by decide +kernel⟩
theorem sc_law_joined : FnScope ["pointers", "more", "joined", "pair"] ["pointers", "more"] (defScope s_law_joined) := ⟨rfl, rfl, rfl, by decide +kernel, rfl, by decide +kernel, by decide +kernel⟩
theorem sc_law_world : FnScope ["script", "room", "source", "many", "shape", "way", "parents", "pointers", "names", "turn"] ["script", "room"] (defScope s_law_world) := ⟨rfl, rfl, rfl, by decide +kernel, rfl, by decide +kernel, by decide +kernel⟩
theorem sc_law_lines : FnScope ["source", "pick"] ["source"] (defScope s_law_lines) := ⟨rfl, rfl, rfl, by decide +kernel, rfl, by decide +kernel, by decide +kernel⟩
theorem sc_law_owners : FnScope ["source", "pairs", "sides", "k"] ["source", "pairs"] (defScope s_law_owners) := ⟨rfl, rfl, rfl, by decide +kernel, rfl, by decide +kernel, by decide +kernel⟩
theorem sc_law_table : FnScope ["source", "many", "owners", "lines", "mode", "change", "page", "blank", "k"] ["source", "many", "owners"] (defScope s_law_table) := ⟨rfl, rfl, rfl, by decide +kernel, rfl, by decide +kernel, by decide +kernel⟩
theorem sc_law_near : FnScope ["source", "lines", "blank", "near", "page", "fewer"] ["source", "lines", "blank"] (defScope s_law_near) := ⟨rfl, rfl, rfl, by decide +kernel, rfl, by decide +kernel, by decide +kernel⟩
theorem sc_law_is_integer : FnScope ["told"] ["told"] (defScope s_law_is_integer) := ⟨rfl, rfl, rfl, by decide +kernel, rfl, by decide +kernel, by decide +kernel⟩
theorem sc_law_is_dealing : FnScope ["pairs", "blank", "told", "left", "k"] ["pairs", "blank", "told"] (defScope s_law_is_dealing) := ⟨rfl, rfl, rfl, by decide +kernel, rfl, by decide +kernel, by decide +kernel⟩
theorem sc_law_is_lot : FnScope ["told", "many", "low", "page"] ["told", "many"] (defScope s_law_is_lot) := ⟨rfl, rfl, rfl, by decide +kernel, rfl, by decide +kernel, by decide +kernel⟩
theorem sc_law_left : FnScope ["pairs", "blank", "lot", "total", "pair", "page"] ["pairs", "blank", "lot"] (defScope s_law_left) := ⟨rfl, rfl, rfl, by decide +kernel, rfl, by decide +kernel, by decide +kernel⟩
theorem sc_law_values : FnScope ["many", "pairs", "blank", "values", "mask", "total", "page", "pair"] ["many", "pairs", "blank"] (defScope s_law_values) := ⟨rfl, rfl, rfl, by decide +kernel, rfl, by decide +kernel, by decide +kernel⟩
theorem sc_law_told : FnScope ["standing", "page", "e"] ["standing", "page"] (defScope s_law_told) := ⟨rfl, rfl, rfl, by decide +kernel, rfl, by decide +kernel, by decide +kernel⟩
theorem sc_law_papers : FnScope ["told", "many", "pairs", "blank", "page", "unowned"] ["told", "many", "pairs", "blank", "page"] (defScope s_law_papers) := ⟨rfl, rfl, rfl, by decide +kernel, rfl, by decide +kernel, by decide +kernel⟩
theorem sc_law_judged : FnScope ["standing", "many", "pairs", "blank", "page", "values", "told", "least", "mask"] ["standing", "many", "pairs", "blank", "page"] (defScope s_law_judged) := ⟨rfl, rfl, rfl, by decide +kernel, rfl, by decide +kernel, by decide +kernel⟩
theorem sc_law_refused : FnScope ["standing", "page", "e"] ["standing", "page"] (defScope s_law_refused) := ⟨rfl, rfl, rfl, by decide +kernel, rfl, by decide +kernel, by decide +kernel⟩
theorem sc_law : FnScope ["script", "world", "many", "pairs", "owners", "source", "table", "lines", "blank", "near", "asked", "stranger", "web", "first", "second", "page", "k"] ["script"] (defScope s_law) := ⟨rfl, rfl, rfl, by decide +kernel, rfl, by decide +kernel, by decide +kernel⟩
theorem st_1_0 {N : List Str} {t : TS} {D : Ends} {H : Hp} {a0 : V} (h : N.length = 1) (k : t D [some a0] H) : t D (L2.start N [a0]) H := by
  unfold L2.start
  rw [h]
  exact k
theorem st_1_1 {N : List Str} {t : TS} {D : Ends} {H : Hp} {a0 : V} (h : N.length = 2) (k : t D [some a0, none] H) : t D (L2.start N [a0]) H := by
  unfold L2.start
  rw [h]
  exact k
theorem st_1_3 {N : List Str} {t : TS} {D : Ends} {H : Hp} {a0 : V} (h : N.length = 4) (k : t D [some a0, none, none, none] H) : t D (L2.start N [a0]) H := by
  unfold L2.start
  rw [h]
  exact k
theorem st_1_16 {N : List Str} {t : TS} {D : Ends} {H : Hp} {a0 : V} (h : N.length = 17) (k : t D [some a0, none, none, none, none, none, none, none, none, none, none, none, none, none, none, none, none] H) : t D (L2.start N [a0]) H := by
  unfold L2.start
  rw [h]
  exact k
theorem st_2_0 {N : List Str} {t : TS} {D : Ends} {H : Hp} {a0 a1 : V} (h : N.length = 2) (k : t D [some a0, some a1] H) : t D (L2.start N [a0, a1]) H := by
  unfold L2.start
  rw [h]
  exact k
theorem st_2_1 {N : List Str} {t : TS} {D : Ends} {H : Hp} {a0 a1 : V} (h : N.length = 3) (k : t D [some a0, some a1, none] H) : t D (L2.start N [a0, a1]) H := by
  unfold L2.start
  rw [h]
  exact k
theorem st_2_2 {N : List Str} {t : TS} {D : Ends} {H : Hp} {a0 a1 : V} (h : N.length = 4) (k : t D [some a0, some a1, none, none] H) : t D (L2.start N [a0, a1]) H := by
  unfold L2.start
  rw [h]
  exact k
theorem st_2_3 {N : List Str} {t : TS} {D : Ends} {H : Hp} {a0 a1 : V} (h : N.length = 5) (k : t D [some a0, some a1, none, none, none] H) : t D (L2.start N [a0, a1]) H := by
  unfold L2.start
  rw [h]
  exact k
theorem st_2_4 {N : List Str} {t : TS} {D : Ends} {H : Hp} {a0 a1 : V} (h : N.length = 6) (k : t D [some a0, some a1, none, none, none, none] H) : t D (L2.start N [a0, a1]) H := by
  unfold L2.start
  rw [h]
  exact k
theorem st_2_5 {N : List Str} {t : TS} {D : Ends} {H : Hp} {a0 a1 : V} (h : N.length = 7) (k : t D [some a0, some a1, none, none, none, none, none] H) : t D (L2.start N [a0, a1]) H := by
  unfold L2.start
  rw [h]
  exact k
theorem st_2_8 {N : List Str} {t : TS} {D : Ends} {H : Hp} {a0 a1 : V} (h : N.length = 10) (k : t D [some a0, some a1, none, none, none, none, none, none, none, none] H) : t D (L2.start N [a0, a1]) H := by
  unfold L2.start
  rw [h]
  exact k
theorem st_3_2 {N : List Str} {t : TS} {D : Ends} {H : Hp} {a0 a1 a2 : V} (h : N.length = 5) (k : t D [some a0, some a1, some a2, none, none] H) : t D (L2.start N [a0, a1, a2]) H := by
  unfold L2.start
  rw [h]
  exact k
theorem st_3_3 {N : List Str} {t : TS} {D : Ends} {H : Hp} {a0 a1 a2 : V} (h : N.length = 6) (k : t D [some a0, some a1, some a2, none, none, none] H) : t D (L2.start N [a0, a1, a2]) H := by
  unfold L2.start
  rw [h]
  exact k
theorem st_3_5 {N : List Str} {t : TS} {D : Ends} {H : Hp} {a0 a1 a2 : V} (h : N.length = 8) (k : t D [some a0, some a1, some a2, none, none, none, none, none] H) : t D (L2.start N [a0, a1, a2]) H := by
  unfold L2.start
  rw [h]
  exact k
theorem st_3_6 {N : List Str} {t : TS} {D : Ends} {H : Hp} {a0 a1 a2 : V} (h : N.length = 9) (k : t D [some a0, some a1, some a2, none, none, none, none, none, none] H) : t D (L2.start N [a0, a1, a2]) H := by
  unfold L2.start
  rw [h]
  exact k
theorem st_3_7 {N : List Str} {t : TS} {D : Ends} {H : Hp} {a0 a1 a2 : V} (h : N.length = 10) (k : t D [some a0, some a1, some a2, none, none, none, none, none, none, none] H) : t D (L2.start N [a0, a1, a2]) H := by
  unfold L2.start
  rw [h]
  exact k
theorem st_4_2 {N : List Str} {t : TS} {D : Ends} {H : Hp} {a0 a1 a2 a3 : V} (h : N.length = 6) (k : t D [some a0, some a1, some a2, some a3, none, none] H) : t D (L2.start N [a0, a1, a2, a3]) H := by
  unfold L2.start
  rw [h]
  exact k
theorem st_5_1 {N : List Str} {t : TS} {D : Ends} {H : Hp} {a0 a1 a2 a3 a4 : V} (h : N.length = 6) (k : t D [some a0, some a1, some a2, some a3, some a4, none] H) : t D (L2.start N [a0, a1, a2, a3, a4]) H := by
  unfold L2.start
  rw [h]
  exact k
theorem st_5_4 {N : List Str} {t : TS} {D : Ends} {H : Hp} {a0 a1 a2 a3 a4 : V} (h : N.length = 9) (k : t D [some a0, some a1, some a2, some a3, some a4, none, none, none, none] H) : t D (L2.start N [a0, a1, a2, a3, a4]) H := by
  unfold L2.start
  rw [h]
  exact k
structure Txt (P : Program) (K : PySem.W.Frag) (mg : Str → Option Value) where
  c_OnecopyError : Addr
  gc_OnecopyError : mg "OnecopyError" = some (.ref c_OnecopyError)
  c_LotError : Addr
  gc_LotError : mg "LotError" = some (.ref c_LotError)
  c_ShortLot : Addr
  gc_ShortLot : mg "ShortLot" = some (.ref c_ShortLot)
  c_NotShort : Addr
  gc_NotShort : mg "NotShort" = some (.ref c_NotShort)
  c_NoPage : Addr
  gc_NoPage : mg "NoPage" = some (.ref c_NoPage)
  c_InvalidPointer : Addr
  gc_InvalidPointer : mg "InvalidPointer" = some (.ref c_InvalidPointer)
  c_InvalidStanding : Addr
  gc_InvalidStanding : mg "InvalidStanding" = some (.ref c_InvalidStanding)
  c_NoLine : Addr
  gc_NoLine : mg "NoLine" = some (.ref c_NoLine)
  c_Web : Addr
  gc_Web : mg "Web" = some (.ref c_Web)
  c_Standing : Addr
  gc_Standing : mg "Standing" = some (.ref c_Standing)
  f_LotError_init : Addr
  fd_LotError_init : FuncData
  X_LotError_init : XFun P K mg "__init__" "LotError.__init__" s_LotError_init f_LotError_init fd_LotError_init c_LotError
  b_LotError_init : Binds K fd_LotError_init ["self", "lot", "text"] []
  f_ShortLot_init : Addr
  fd_ShortLot_init : FuncData
  X_ShortLot_init : XFun P K mg "__init__" "ShortLot.__init__" s_ShortLot_init f_ShortLot_init fd_ShortLot_init c_ShortLot
  b_ShortLot_init : Binds K fd_ShortLot_init ["self", "lot"] []
  f_NoPage_init : Addr
  fd_NoPage_init : FuncData
  X_NoPage_init : XFun P K mg "__init__" "NoPage.__init__" s_NoPage_init f_NoPage_init fd_NoPage_init c_NoPage
  b_NoPage_init : Binds K fd_NoPage_init ["self", "page"] []
  f_other_end : Addr
  fd_other_end : FuncData
  F_other_end : Fun K "other_end" "other_end" s_other_end f_other_end fd_other_end
  g_other_end : mg "other_end" = some (.ref f_other_end)
  b_other_end : Binds K fd_other_end ["pointer", "page"] []
  f_owned_count : Addr
  fd_owned_count : FuncData
  F_owned_count : Fun K "owned_count" "owned_count" s_owned_count f_owned_count fd_owned_count
  g_owned_count : mg "owned_count" = some (.ref f_owned_count)
  b_owned_count : Binds K fd_owned_count ["owners", "page"] []
  f_owned_lists : Addr
  fd_owned_lists : FuncData
  F_owned_lists : Fun K "owned_lists" "owned_lists" s_owned_lists f_owned_lists fd_owned_lists
  g_owned_lists : mg "owned_lists" = some (.ref f_owned_lists)
  b_owned_lists : Binds K fd_owned_lists ["owners"] []
  f_make_room : Addr
  fd_make_room : FuncData
  F_make_room : Fun K "make_room" "make_room" s_make_room f_make_room fd_make_room
  g_make_room : mg "make_room" = some (.ref f_make_room)
  b_make_room : Binds K fd_make_room ["owners", "blank", "start"] []
  f_turn_chain : Addr
  fd_turn_chain : FuncData
  F_turn_chain : Fun K "turn_chain" "turn_chain" s_turn_chain f_turn_chain fd_turn_chain
  g_turn_chain : mg "turn_chain" = some (.ref f_turn_chain)
  b_turn_chain : Binds K fd_turn_chain ["owners", "came_along", "last"] []
  f_place_pointer : Addr
  fd_place_pointer : FuncData
  F_place_pointer : Fun K "place_pointer" "place_pointer" s_place_pointer f_place_pointer fd_place_pointer
  g_place_pointer : mg "place_pointer" = some (.ref f_place_pointer)
  b_place_pointer : Binds K fd_place_pointer ["owners", "blank", "pointer"] []
  f_place_rest : Addr
  fd_place_rest : FuncData
  F_place_rest : Fun K "place_rest" "place_rest" s_place_rest f_place_rest fd_place_rest
  g_place_rest : mg "place_rest" = some (.ref f_place_rest)
  b_place_rest : Binds K fd_place_rest ["owners", "blank", "pointers"] []
  f_place_all : Addr
  fd_place_all : FuncData
  F_place_all : Fun K "place_all" "place_all" s_place_all f_place_all fd_place_all
  g_place_all : mg "place_all" = some (.ref f_place_all)
  b_place_all : Binds K fd_place_all ["blank", "pointers"] []
  f_check_pages : Addr
  fd_check_pages : FuncData
  F_check_pages : Fun K "check_pages" "check_pages" s_check_pages f_check_pages fd_check_pages
  g_check_pages : mg "check_pages" = some (.ref f_check_pages)
  b_check_pages : Binds K fd_check_pages ["pages", "lot"] []
  f_grouped : Addr
  fd_grouped : FuncData
  F_grouped : Fun K "grouped" "grouped" s_grouped f_grouped fd_grouped
  g_grouped : mg "grouped" = some (.ref f_grouped)
  b_grouped : Binds K fd_grouped ["pages", "pairs"] []
  f_Web_init : Addr
  fd_Web_init : FuncData
  F_Web_init : Fun K "__init__" "Web.__init__" s_Web_init f_Web_init fd_Web_init
  b_Web_init : Binds K fd_Web_init ["self", "pages", "pointers"] []
  f_Web_arrows : Addr
  fd_Web_arrows : FuncData
  F_Web_arrows : Fun K "arrows" "Web.arrows" s_Web_arrows f_Web_arrows fd_Web_arrows
  b_Web_arrows : Binds K fd_Web_arrows ["self"] []
  f_Standing_init : Addr
  fd_Standing_init : FuncData
  F_Standing_init : Fun K "__init__" "Standing.__init__" s_Standing_init f_Standing_init fd_Standing_init
  b_Standing_init : Binds K fd_Standing_init ["self", "web", "lines", "blank"] []
  f_Standing_blanks : Addr
  fd_Standing_blanks : FuncData
  F_Standing_blanks : Fun K "blanks" "Standing.blanks" s_Standing_blanks f_Standing_blanks fd_Standing_blanks
  b_Standing_blanks : Binds K fd_Standing_blanks ["self"] []
  f_Standing_blank_of : Addr
  fd_Standing_blank_of : FuncData
  F_Standing_blank_of : Fun K "blank_of" "Standing.blank_of" s_Standing_blank_of f_Standing_blank_of fd_Standing_blank_of
  b_Standing_blank_of : Binds K fd_Standing_blank_of ["self", "page"] []
  f_blank_table : Addr
  fd_blank_table : FuncData
  F_blank_table : Fun K "blank_table" "blank_table" s_blank_table f_blank_table fd_blank_table
  g_blank_table : mg "blank_table" = some (.ref f_blank_table)
  b_blank_table : Binds K fd_blank_table ["standing"] []
  f_owner_table : Addr
  fd_owner_table : FuncData
  F_owner_table : Fun K "owner_table" "owner_table" s_owner_table f_owner_table fd_owner_table
  g_owner_table : mg "owner_table" = some (.ref f_owner_table)
  b_owner_table : Binds K fd_owner_table ["standing"] []
  f_owner_list : Addr
  fd_owner_list : FuncData
  F_owner_list : Fun K "owner_list" "owner_list" s_owner_list f_owner_list fd_owner_list
  g_owner_list : mg "owner_list" = some (.ref f_owner_list)
  b_owner_list : Binds K fd_owner_list ["standing", "owners"] []
  f_slack : Addr
  fd_slack : FuncData
  F_slack : Fun K "slack" "slack" s_slack f_slack fd_slack
  g_slack : mg "slack" = some (.ref f_slack)
  b_slack : Binds K fd_slack ["standing", "page"] []
  f_law_cell : Addr
  fd_law_cell : FuncData
  F_law_cell : Fun K "_law_cell" "_law_cell" s_law_cell f_law_cell fd_law_cell
  g_law_cell : mg "_law_cell" = some (.ref f_law_cell)
  b_law_cell : Binds K fd_law_cell ["script", "k"] []
  f_law_source : Addr
  fd_law_source : FuncData
  F_law_source : Fun K "_law_source" "_law_source" s_law_source f_law_source fd_law_source
  g_law_source : mg "_law_source" = some (.ref f_law_source)
  b_law_source : Binds K fd_law_source ["cell"] []
  f_law_take : Addr
  fd_law_take : FuncData
  F_law_take : Fun K "_law_take" "_law_take" s_law_take f_law_take fd_law_take
  g_law_take : mg "_law_take" = some (.ref f_law_take)
  b_law_take : Binds K fd_law_take ["source", "size"] []
  f_law_parents : Addr
  fd_law_parents : FuncData
  F_law_parents : Fun K "_law_parents" "_law_parents" s_law_parents f_law_parents fd_law_parents
  g_law_parents : mg "_law_parents" = some (.ref f_law_parents)
  b_law_parents : Binds K fd_law_parents ["source", "many", "shape"] []
  f_law_pointers : Addr
  fd_law_pointers : FuncData
  F_law_pointers : Fun K "_law_pointers" "_law_pointers" s_law_pointers f_law_pointers fd_law_pointers
  g_law_pointers : mg "_law_pointers" = some (.ref f_law_pointers)
  b_law_pointers : Binds K fd_law_pointers ["source", "parents", "way"] []
  f_law_names : Addr
  fd_law_names : FuncData
  F_law_names : Fun K "_law_names" "_law_names" s_law_names f_law_names fd_law_names
  g_law_names : mg "_law_names" = some (.ref f_law_names)
  b_law_names : Binds K fd_law_names ["source", "many"] []
  f_law_named : Addr
  fd_law_named : FuncData
  F_law_named : Fun K "_law_named" "_law_named" s_law_named f_law_named fd_law_named
  g_law_named : mg "_law_named" = some (.ref f_law_named)
  b_law_named : Binds K fd_law_named ["pointers", "names", "turn"] []
  f_law_extras : Addr
  fd_law_extras : FuncData
  F_law_extras : Fun K "_law_extras" "_law_extras" s_law_extras f_law_extras fd_law_extras
  g_law_extras : mg "_law_extras" = some (.ref f_law_extras)
  b_law_extras : Binds K fd_law_extras ["source", "many", "shape"] []
  f_law_joined : Addr
  fd_law_joined : FuncData
  F_law_joined : Fun K "_law_joined" "_law_joined" s_law_joined f_law_joined fd_law_joined
  g_law_joined : mg "_law_joined" = some (.ref f_law_joined)
  b_law_joined : Binds K fd_law_joined ["pointers", "more"] []
  f_law_world : Addr
  fd_law_world : FuncData
  F_law_world : Fun K "_law_world" "_law_world" s_law_world f_law_world fd_law_world
  g_law_world : mg "_law_world" = some (.ref f_law_world)
  b_law_world : Binds K fd_law_world ["script", "room"] []
  f_law_lines : Addr
  fd_law_lines : FuncData
  F_law_lines : Fun K "_law_lines" "_law_lines" s_law_lines f_law_lines fd_law_lines
  g_law_lines : mg "_law_lines" = some (.ref f_law_lines)
  b_law_lines : Binds K fd_law_lines ["source"] []
  f_law_owners : Addr
  fd_law_owners : FuncData
  F_law_owners : Fun K "_law_owners" "_law_owners" s_law_owners f_law_owners fd_law_owners
  g_law_owners : mg "_law_owners" = some (.ref f_law_owners)
  b_law_owners : Binds K fd_law_owners ["source", "pairs"] []
  f_law_table : Addr
  fd_law_table : FuncData
  F_law_table : Fun K "_law_table" "_law_table" s_law_table f_law_table fd_law_table
  g_law_table : mg "_law_table" = some (.ref f_law_table)
  b_law_table : Binds K fd_law_table ["source", "many", "owners"] []
  f_law_near : Addr
  fd_law_near : FuncData
  F_law_near : Fun K "_law_near" "_law_near" s_law_near f_law_near fd_law_near
  g_law_near : mg "_law_near" = some (.ref f_law_near)
  b_law_near : Binds K fd_law_near ["source", "lines", "blank"] []
  f_law_is_integer : Addr
  fd_law_is_integer : FuncData
  F_law_is_integer : Fun K "_law_is_integer" "_law_is_integer" s_law_is_integer f_law_is_integer fd_law_is_integer
  g_law_is_integer : mg "_law_is_integer" = some (.ref f_law_is_integer)
  b_law_is_integer : Binds K fd_law_is_integer ["told"] []
  f_law_is_dealing : Addr
  fd_law_is_dealing : FuncData
  F_law_is_dealing : Fun K "_law_is_dealing" "_law_is_dealing" s_law_is_dealing f_law_is_dealing fd_law_is_dealing
  g_law_is_dealing : mg "_law_is_dealing" = some (.ref f_law_is_dealing)
  b_law_is_dealing : Binds K fd_law_is_dealing ["pairs", "blank", "told"] []
  f_law_is_lot : Addr
  fd_law_is_lot : FuncData
  F_law_is_lot : Fun K "_law_is_lot" "_law_is_lot" s_law_is_lot f_law_is_lot fd_law_is_lot
  g_law_is_lot : mg "_law_is_lot" = some (.ref f_law_is_lot)
  b_law_is_lot : Binds K fd_law_is_lot ["told", "many"] []
  f_law_left : Addr
  fd_law_left : FuncData
  F_law_left : Fun K "_law_left" "_law_left" s_law_left f_law_left fd_law_left
  g_law_left : mg "_law_left" = some (.ref f_law_left)
  b_law_left : Binds K fd_law_left ["pairs", "blank", "lot"] []
  f_law_values : Addr
  fd_law_values : FuncData
  F_law_values : Fun K "_law_values" "_law_values" s_law_values f_law_values fd_law_values
  g_law_values : mg "_law_values" = some (.ref f_law_values)
  b_law_values : Binds K fd_law_values ["many", "pairs", "blank"] []
  f_law_told : Addr
  fd_law_told : FuncData
  F_law_told : Fun K "_law_told" "_law_told" s_law_told f_law_told fd_law_told
  g_law_told : mg "_law_told" = some (.ref f_law_told)
  b_law_told : Binds K fd_law_told ["standing", "page"] []
  f_law_papers : Addr
  fd_law_papers : FuncData
  F_law_papers : Fun K "_law_papers" "_law_papers" s_law_papers f_law_papers fd_law_papers
  g_law_papers : mg "_law_papers" = some (.ref f_law_papers)
  b_law_papers : Binds K fd_law_papers ["told", "many", "pairs", "blank", "page"] []
  f_law_judged : Addr
  fd_law_judged : FuncData
  F_law_judged : Fun K "_law_judged" "_law_judged" s_law_judged f_law_judged fd_law_judged
  g_law_judged : mg "_law_judged" = some (.ref f_law_judged)
  b_law_judged : Binds K fd_law_judged ["standing", "many", "pairs", "blank", "page"] []
  f_law_refused : Addr
  fd_law_refused : FuncData
  F_law_refused : Fun K "_law_refused" "_law_refused" s_law_refused f_law_refused fd_law_refused
  g_law_refused : mg "_law_refused" = some (.ref f_law_refused)
  b_law_refused : Binds K fd_law_refused ["standing", "page"] []
  f_law : Addr
  fd_law : FuncData
  F_law : Fun K "law" "law" s_law f_law fd_law
  g_law : mg "law" = some (.ref f_law)
  b_law : Binds K fd_law ["script"] []
  ox_ShortLot : OexC K c_ShortLot
  su_ShortLot : SupC K c_LotError c_ShortLot
  so_ShortLot : SupO K c_ShortLot c_ShortLot f_LotError_init
  si_ShortLot : PySem.W.fnIn K f_LotError_init = true
  st_ShortLot : PySem.W.typeIn K (.ref f_LotError_init) = some (.type "function")
  te_ShortLot_LotError : PySem.W.exmOne K (.ref c_ShortLot) (.ref c_LotError) = some true
  ix_ShortLot : PySem.W.findIn K (.ref c_ShortLot) "__init__" = some (some (.ref f_ShortLot_init))
  ti_ShortLot : PySem.W.typeIn K (.ref f_ShortLot_init) = some (.type "function")
  xf_ShortLot : XfC K c_ShortLot
  xc_ShortLot : ExcC K c_ShortLot
  te_ShortLot : PySem.W.exmOne K (.ref c_ShortLot) (.ref c_ShortLot) = some true
  nx_ShortLot_lot : PySem.W.findIn K (.ref c_ShortLot) "lot" = some none
  ox_NoPage : OexC K c_NoPage
  su_NoPage : SupC K c_NoPage c_NoPage
  ix_NoPage : PySem.W.findIn K (.ref c_NoPage) "__init__" = some (some (.ref f_NoPage_init))
  ti_NoPage : PySem.W.typeIn K (.ref f_NoPage_init) = some (.type "function")
  xf_NoPage : XfC K c_NoPage
  xc_NoPage : ExcC K c_NoPage
  te_NoPage : PySem.W.exmOne K (.ref c_NoPage) (.ref c_NoPage) = some true
  nx_NoPage_page : PySem.W.findIn K (.ref c_NoPage) "page" = some none
  cl_Web : Cls K c_Web
  mk_Web : Mk K c_Web f_Web_init
  n_Web_pages : NoAttr K c_Web "pages"
  n_Web__known : NoAttr K c_Web "_known"
  n_Web__arrows : NoAttr K c_Web "_arrows"
  n_Web__holders : NoAttr K c_Web "_holders"
  n_Web__targets : NoAttr K c_Web "_targets"
  me_Web_arrows : Meth K c_Web "arrows" f_Web_arrows
  cl_Standing : Cls K c_Standing
  mk_Standing : Mk K c_Standing f_Standing_init
  n_Standing_web : NoAttr K c_Standing "web"
  n_Standing_lines : NoAttr K c_Standing "lines"
  n_Standing__blank : NoAttr K c_Standing "_blank"
  me_Standing_blanks : Meth K c_Standing "blanks" f_Standing_blanks
  me_Standing_blank_of : Meth K c_Standing "blank_of" f_Standing_blank_of
  ki_NoPage_LotError : PySem.W.kitOne K (.ref c_NoPage) (.ref c_LotError) = some false
  ki_ShortLot_NotShort : PySem.W.kitOne K (.ref c_ShortLot) (.ref c_NotShort) = some false
  ki_ShortLot_ShortLot : PySem.W.kitOne K (.ref c_ShortLot) (.ref c_ShortLot) = some true
  z_abs : mg "abs" = none
  z_bool : mg "bool" = none
  z_dict : mg "dict" = none
  z_enumerate : mg "enumerate" = none
  z_int : mg "int" = none
  z_isinstance : mg "isinstance" = none
  z_len : mg "len" = none
  z_list : mg "list" = none
  z_max : mg "max" = none
  z_min : mg "min" = none
  z_range : mg "range" = none
  z_set : mg "set" = none
  z_sorted : mg "sorted" = none
  z_sum : mg "sum" = none
  z_tuple : mg "tuple" = none
section
variable {P : Program} {w : World} {K : PySem.W.Frag} {mg : Str → Option Value} {base : Heap}
set_option maxHeartbeats 4000000
/-! ### changes of owners -/
def kGd {α : Type} (f : α → V) (a : Addr) (Q : VK) (y z : V) (H3 : Hp) : Prop := ∃ k j, y = .int k ∧ z = f j ∧ ∃ ps L, Sts H3 (pto a (.dK (dM f ps)) :: L) ∧ Q (f ((getP ps k).getD j)) H3
def kGetD {α : Type} (f : α → V) (ty tx : TE) (σ : L2.St) (Q : VK) : VK := fun x H1 => ∃ a, x = .ref a ∧ (∃ kvs L, Sts H1 (pto a (.dK kvs) :: L)) ∧ ty σ H1 fun y H2 => tx σ H2 fun z H3 => kGd f a Q y z H3
theorem g_getD {α : Type} {f : α → V} {td ty tx : TE} {σ : L2.St} {H : Hp} {Q : VK} (k : td σ H (kGetD f ty tx σ Q)) : tGetD f td ty tx σ H Q := k
theorem g_kGetD {α : Type} {f : α → V} {ty tx : TE} {σ : L2.St} {H : Hp} {Q : VK} {a : Addr} {kvs : List (Key × V)} {L : List Asr} (S : Sts H (pto a (.dK kvs) :: L)) (k : ty σ H fun y H2 => tx σ H2 fun z H3 => kGd f a Q y z H3) : kGetD f ty tx σ Q (.ref a) H := ⟨a, rfl, ⟨kvs, L, S⟩, k⟩
theorem g_kGdR {a : Addr} {Q : VK} {k : Int} {j : Addr} {H : Hp} {ps : List (Int × Addr)} {L : List Asr} (S : Sts H (pto a (.dK (dM V.ref ps)) :: L)) (q : Q (.ref ((getP ps k).getD j)) H) : kGd V.ref a Q (.int k) (.ref j) H := ⟨k, j, rfl, rfl, ps, L, S, q⟩
local macro_rules | `(tactic| fail "gs") => `(tactic| with_reducible first | refine Oc.g_dget ?_ | refine Oc.g_dsetd ?_ | refine Oc.g_iValsT ?_ | refine Oc.g_iItemsT ?_ | refine Oc.g_daug ?_ | refine K07.g_getD ?_)
local macro_rules | `(tactic| fail "gs") => `(tactic| first
  | ((with_reducible apply Oc.g_kVT); fail "hp")
  | ((with_reducible apply Oc.g_kItT); fail "hp")
  | ((with_reducible apply Oc.g_kDInK); fail "hp")
  | ((with_reducible apply Oc.g_kDGetI); fail "hp"; assumption)
  | ((with_reducible apply Oc.g_kDGetT); fail "hp"; fail "tp"; assumption)
  | ((with_reducible apply K07.g_kGetD); fail "fr1")
  | ((with_reducible apply K07.g_kGdR); fail "fr1"))
def spOther : Sp := fun vs H Q _ => ∃ (t : Addr) (p : Int) (q : Oc.PI2), vs = [.ref t, .int p] ∧ H t = some (.tup (pV q)) ∧ Q (.int (oend q p)) H
theorem ok_other_end (T : Txt P K mg) : FnOk P w K mg base CX0 1 T.f_other_end T.fd_other_end ["pointer", "page"] spOther := by
  refine T.F_other_end.ok sc_other_end (fun vs H Q E h => by obtain ⟨t, p, q0, rfl, _⟩ := h; rfl) (fun cdv A outer s H vs Q E hr h => ?_)
  obtain ⟨t, p, q0, rfl, ht, q⟩ := h
  refine ⟨_, (pss_cons (ps_asg (pv 0) (oc_pg_tup (K := K) (n := 2) rfl rfl (pgs_cons (pg_name (i := 2) sc_other_end.nd rfl (Or.inl rfl)) (pgs_cons (pg_name (i := 3) sc_other_end.nd rfl (Or.inl rfl)) pgs_nil))))
      (pss_one (ps_ret (pe_ifExp (pt_cmpR op_eq (pv 1) (pv 2) (nomark _)) (pv 3) (pv 2))))), st_2_2 rfl ?_⟩
  fail "go"
  refine g_gtup (SqT.of ht) rfl ?_
  fail "go"
  unfold oend at q
  with_reducible refine ifB (fun c => ?_) (fun c => ?_)
  · rw [if_pos (odt c)] at q
    fail "go"
    exact q
  · rw [if_neg (odf c)] at q
    fail "go"
    exact q
local macro_rules | `(tactic| fail "gs") => `(tactic| ((with_reducible show K07.spOther _ _ _ _); refine ⟨_, _, _, rfl, Oc.pr (by fail "tp"), ?_⟩))
def spCount : Sp := fun vs H Q _ => ∃ (d : Addr) (p : Int) (ow : OwL) (F : List Asr), vs = [.ref d, .int p] ∧ Sts H (pto d (.dT (dT V.int ow)) :: F) ∧ ow.length ≤ 100000 ∧ ∀ H', Sts H' (pto d (.dT (dT V.int ow)) :: F) → Q (.int (ocn ow p : Nat)) H'
theorem filt_snoc {α : Type} {f : α → Bool} {l : List α} {i : Nat} {x : α} (h : l[i]? = some x) : (l.take (i + 1)).filter f = (l.take i).filter f ++ if f x = true then [x] else [] := by
  rw [List.take_add_one, h, List.filter_append]
  congr 1
  by_cases e : f x = true
  · rw [if_pos e]
    show [x].filter f = _
    rw [List.filter_cons, if_pos e]
    rfl
  · rw [if_neg e]
    show [x].filter f = _
    rw [List.filter_cons, if_neg e]
    rfl
theorem ok_owned_count (T : Txt P K mg) : FnOk P w K mg base CX0 1 T.f_owned_count T.fd_owned_count ["owners", "page"] spCount := by
  refine T.F_owned_count.ok sc_owned_count (fun vs H Q E h => by obtain ⟨d, p, ow, F, rfl, _⟩ := h; rfl) (fun cdv A outer s H vs Q E hr h => ?_)
  obtain ⟨d, p, ow, F, rfl, S, hl, q⟩ := h
  refine ⟨_, (pss_one (ps_ret (pe_callB (v_lenI (K := K) rfl) (by rfl) T.z_len PySem.boot_len (pa_cons (oc_lockE (pe_lc (own := [("owner", 2)]) (g := gName 2) rfl sc_owned_count.nd (pi_valuesT (pv 0)) (blkOk_by (own := [("owner", 2)]) (N := ["owners", "page", "owner"]) (sc := defScope s_owned_count) (by decide +kernel)) (fun _ _ _ _ _ => (pg_name (i := 2) sc_owned_count.nd rfl (Or.inl rfl))) (fun _ _ _ _ _ => (pts_one (pt_cmpR op_eq (pv 2) (pv 1) (nomark _)))) (fun _ _ _ _ _ => (pv 2)))) pa_nil)))), st_2_1 rfl ?_⟩
  fail "go"
  refine ⟨d, _, F, S, trivial, fun od H1 S1 => ?_⟩
  fail "go"
  rename_i D H2 S2
  refine lc_valsT ow (fun i H => Sts H (pto D (.lst ((((ow.take i).filter fun e => decide (e.2 = p)).map (·.2)).map V.int)) :: pto d (.frz od (.dT (dT V.int ow))) :: F)) S2 (fun i H S => ⟨_, S.swap⟩) ?_ ?_
  · rintro i e H hi S
    have hil : i < ow.length := (List.getElem?_eq_some_iff.mp hi).1
    have hfl : (((ow.take i).filter fun e => decide (e.2 = p)).map (·.2)).length ≤ 100000 := by
      rw [List.length_map]
      refine Nat.le_trans (List.length_filter_le _ _) ?_
      rw [List.length_take]
      omega
    have hs := filt_snoc (f := fun e : Oc.PI2 × Int => decide (e.2 = p)) hi
    fail "go"
    with_reducible refine ifB (fun c => ?_) (fun c => ?_)
    · have c := odt c
      rw [if_pos (decide_eq_true c)] at hs
      fail "go"
      refine ⟨_, S.hd, small (by rw [List.length_map]; omega), ?_⟩
      have z := S.put (.lst (((((ow.take i).filter fun e => decide (e.2 = p)).map (·.2)).map V.int) ++ [V.int e.2]))
      show Sts _ _
      rw [hs, List.map_append, List.map_append]
      exact z
    · have c := odf c
      rw [if_neg (fun z => c (of_decide_eq_true z)), List.append_nil] at hs
      show Sts _ _
      rw [hs]
      exact S
  · rintro H S
    rw [List.take_length] at S
    refine ⟨_, S.swap, fun H3 S3 => ?_⟩
    fail "go"
    have e : (((ow.filter fun e => decide (e.2 = p)).map (·.2)).length) = ocn ow p := by
      unfold ocn
      rw [List.length_map, List.countP_eq_length_filter]
    rw [e]
    exact q _ (S3.swap.tail)
local macro_rules | `(tactic| fail "gs") => `(tactic| ((with_reducible show K07.spCount _ _ _ _); refine ⟨_, _, _, _, rfl, Oc.pr (by fail "fr1"), Oc.pr (by fail "side"), fun oh os => ?_⟩))

--PART
/-! rows of pointers -/
abbrev ORow := Int × Addr × List Addr
def oks (rs : List ORow) : List (Int × Addr) := rs.map fun r => (r.1, r.2.1)
def ows (rs : List ORow) : List Asr := rs.map fun r => pto r.2.1 (.lst (r.2.2.map V.ref))
structure owc (rs : List ORow) (h : Hp) : Prop where
  st : St h (ows rs)
theorem ows_im {rs : List ORow} {τ : Tmap} : Asr.im τ ∉ ows rs := fun h => by
  obtain ⟨q, _, e⟩ := List.mem_map.mp h
  cases e
theorem owc_open {rs : List ORow} {L : List Asr} {H : Hp} (S : Sts H (owc rs :: L)) : Sts H (ows rs ++ L) := by
  obtain ⟨_, S⟩ := S.opn (f := fun _ : Unit => ows rs) (fun h a => ⟨(), a.st⟩) (fun _ _ => ows_im)
  exact S
theorem owc_close {rs : List ORow} {L : List Asr} {H : Hp} (S : Sts H (ows rs ++ L)) : Sts H (owc rs :: L) := S.cls fun h a => ⟨a⟩
theorem owc_nil {L : List Asr} {H : Hp} (S : Sts H L) : Sts H (owc [] :: L) := owc_close S
theorem ows_perm {rs us : List ORow} (h : rs.Perm us) : (ows rs).Perm (ows us) := h.map _
theorem owc_add {rs : List ORow} {k : Int} {a : Addr} {l : List Addr} {L : List Asr} {H : Hp} (S : Sts H (pto a (.lst (l.map V.ref)) :: owc rs :: L)) : Sts H (owc (rs ++ [(k, a, l)]) :: L) := by
  have S2 : Sts H (pto a (.lst (l.map V.ref)) :: (ows rs ++ L)) := S.under fun K T => owc_open T
  refine owc_close (S2.perm ?_)
  show ((ows ((k, a, l) :: rs)) ++ L).Perm _
  exact List.Perm.append_right L (ows_perm (List.perm_append_singleton _ _).symm)
theorem orow_perm : ∀ {rs : List ORow} {i : Nat} {x : ORow}, rs[i]? = some x → rs.Perm (x :: rs.eraseIdx i)
  | [], i, _, e => by simp at e
  | r :: rs, 0, x, e => by
    have e : r = x := by simpa using e
    subst e
    exact List.Perm.refl _
  | r :: rs, i + 1, x, e => by
    have e : rs[i]? = some x := by simpa using e
    exact ((orow_perm e).cons r).trans (List.Perm.swap x r _)
theorem owc_take {rs : List ORow} {i : Nat} {k : Int} {a : Addr} {l : List Addr} {L : List Asr} {H : Hp} (S : Sts H (owc rs :: L)) (e : rs[i]? = some (k, a, l)) : Sts H (pto a (.lst (l.map V.ref)) :: owc (rs.eraseIdx i) :: L) := by
  have S2 := (owc_open S).perm (List.Perm.append_right L (ows_perm (orow_perm e)))
  have S3 : Sts H (pto a (.lst (l.map V.ref)) :: (ows (rs.eraseIdx i) ++ L)) := S2
  exact S3.under fun K T => owc_close T
theorem owc_put {rs : List ORow} {i : Nat} {k : Int} {a : Addr} {l : List Addr} {L : List Asr} {H : Hp} (hi : i < rs.length) (S : Sts H (pto a (.lst (l.map V.ref)) :: owc (rs.eraseIdx i) :: L)) : Sts H (owc (rs.set i (k, a, l)) :: L) := by
  have S2 : Sts H (pto a (.lst (l.map V.ref)) :: (ows (rs.eraseIdx i) ++ L)) := S.under fun K T => owc_open T
  refine owc_close (S2.perm ?_)
  have hp : (rs.set i (k, a, l)).Perm ((k, a, l) :: rs.eraseIdx i) := by
    have z := orow_perm (rs := rs.set i (k, a, l)) (i := i) (x := (k, a, l)) (by rw [List.getElem?_set_self hi])
    rwa [List.eraseIdx_set_eq] at z
  show ((ows ((k, a, l) :: rs.eraseIdx i)) ++ L).Perm _
  exact List.Perm.append_right L (ows_perm hp.symm)
structure OwR (τ : Tmap) (ow : OwL) (rs : List ORow) : Prop where
  nd : (rs.map (·.1)).Nodup
  pr : ∀ k a l, (k, a, l) ∈ rs → Prs τ l (own ow k)
  al : ∀ p, p ∉ rs.map (·.1) → own ow p = []
theorem OwR.nil (τ : Tmap) : OwR τ [] [] := ⟨List.nodup_nil, (fun _ _ _ h => nomatch h), fun _ _ => rfl⟩
theorem OwR.mono {τ υ : Tmap} {ow : OwL} {rs : List ORow} (h : OwR τ ow rs) (l : Le τ υ) : OwR υ ow rs := ⟨h.nd, fun k a z m => (h.pr k a z m).mono l, h.al⟩
theorem own_snoc (ow : OwL) (q : Oc.PI2) (p k : Int) : own (ow ++ [(q, p)]) k = own ow k ++ if k = p then [q] else [] := by
  unfold own
  rw [List.filter_append, List.map_append]
  congr 1
  by_cases e : k = p
  · subst e
    rw [if_pos rfl, List.filter_cons, if_pos (decide_eq_true rfl)]
    rfl
  · rw [if_neg e, List.filter_cons, if_neg (fun z => e (of_decide_eq_true z).symm)]
    rfl
theorem oks_keys (rs : List ORow) : (oks rs).map (·.1) = rs.map (·.1) := by
  unfold oks
  rw [List.map_map]
  rfl
theorem oks_get {rs : List ORow} {p : Int} {a : Addr} (h : getP (oks rs) p = some a) : ∃ (j : Nat) (l : List Addr), rs[j]? = some (p, a, l) := by
  have m := getP_mem h
  unfold oks at m
  obtain ⟨⟨k, b, l⟩, hm, e⟩ := List.mem_map.mp m
  cases e
  obtain ⟨j, hj⟩ := List.getElem?_of_mem hm
  exact ⟨j, l, hj⟩
theorem oks_none {rs : List ORow} {p : Int} (h : getP (oks rs) p = none) : p ∉ rs.map (·.1) := fun m => by
  rw [← oks_keys] at m
  obtain ⟨r, hr, e⟩ := List.mem_map.mp m
  exact getP_none h r hr e
theorem putP_new {α : Type} {ps : List (Int × α)} {k : Int} {v : α} (h : getP ps k = none) : putP ps k v = ps ++ [(k, v)] := by
  unfold putP
  rw [if_neg]
  rw [getP_any, h]
  exact Bool.false_ne_true
theorem OwR.new {τ : Tmap} {ow : OwL} {rs : List ORow} {p : Int} {a : Addr} (h : OwR τ ow rs) (n : getP (oks rs) p = none) : OwR τ ow (rs ++ [(p, a, [])]) := by
  have hn := oks_none n
  refine ⟨?_, fun k b l m => ?_, fun k hk => h.al k fun z => hk ?_⟩
  · rw [List.map_append]
    refine List.nodup_append.mpr ⟨h.nd, List.nodup_cons.mpr ⟨List.not_mem_nil, List.nodup_nil⟩, fun x hx y hy e => ?_⟩
    have e2 : y = p := by simpa using hy
    rw [e, e2] at hx
    exact hn hx
  · rcases List.mem_append.mp m with m | m
    · exact h.pr k b l m
    · have e : (k, b, l) = (p, a, []) := by simpa using m
      cases e
      rw [h.al p hn]
      exact Prs.nil
  · rw [List.map_append]
    exact List.mem_append_left _ z
theorem OwR.push {τ : Tmap} {ow : OwL} {rs : List ORow} {j : Nat} {p : Int} {a t : Addr} {l : List Addr} {q : Oc.PI2} (h : OwR τ ow rs) (e : rs[j]? = some (p, a, l)) (ht : τ t = some (pV q)) : OwR τ (ow ++ [(q, p)]) (rs.set j (p, a, l ++ [t])) := by
  have hj : j < rs.length := (List.getElem?_eq_some_iff.mp e).1
  have hk : (rs.set j (p, a, l ++ [t])).map (·.1) = rs.map (·.1) := by
    rw [List.map_set]
    apply List.ext_getElem?
    intro i
    by_cases hi : i = j
    · subst hi
      rw [List.getElem?_set_self (by rw [List.length_map]; exact hj), List.getElem?_map, e]
      rfl
    · rw [List.getElem?_set_ne (fun z => hi z.symm)]
  refine ⟨by rw [hk]; exact h.nd, fun k b z m => ?_, fun k hn => ?_⟩
  · rw [own_snoc]
    obtain ⟨i, hi⟩ := List.getElem?_of_mem m
    by_cases eij : i = j
    · subst eij
      rw [List.getElem?_set_self hj] at hi
      cases hi
      rw [if_pos rfl]
      exact (h.pr p a l (List.mem_of_getElem? e)).snoc ht
    · rw [List.getElem?_set_ne (fun z => eij z.symm)] at hi
      have ne : k ≠ p := fun z => by
        subst z
        have a1 : (rs.map (·.1))[i]? = some k := by rw [List.getElem?_map, hi]; rfl
        have a2 : (rs.map (·.1))[j]? = some k := by rw [List.getElem?_map, e]; rfl
        exact eij ((List.getElem?_inj (List.getElem?_eq_some_iff.mp a1).1 h.nd).mp (a1.trans a2.symm))
      rw [if_neg ne, List.append_nil]
      exact h.pr k b z (List.mem_of_getElem? hi)
  · rw [hk] at hn
    rw [own_snoc, h.al k hn, if_neg, List.nil_append]
    intro z
    subst z
    exact hn (List.mem_map.mpr ⟨_, List.mem_of_getElem? e, rfl⟩)
/-- the row of a page -/
def lof (rs : List ORow) (p : Int) : List Addr := ((rs.find? fun r => decide (r.1 = p)).map (·.2.2)).getD []
theorem lof_cons {r : ORow} {rs : List ORow} {p : Int} : lof (r :: rs) p = if r.1 = p then r.2.2 else lof rs p := by
  unfold lof
  rw [List.find?_cons]
  by_cases e : r.1 = p
  · rw [if_pos e, decide_eq_true e]
    rfl
  · rw [if_neg e, decide_eq_false e]
theorem lof_none : ∀ {rs : List ORow} {p : Int}, getP (oks rs) p = none → lof rs p = []
  | [], _, _ => rfl
  | r :: rs, p, h => by
    rw [lof_cons]
    by_cases e : r.1 = p
    · exact absurd (oks_none h) fun z => z (e ▸ List.mem_cons_self)
    · rw [if_neg e]
      refine lof_none (rs := rs) ?_
      have z : getP ((r.1, r.2.1) :: oks rs) p = none := h
      rwa [getP_neg (p := (r.1, r.2.1)) e] at z
theorem lof_some : ∀ {rs : List ORow} {p : Int} {a : Addr}, getP (oks rs) p = some a → ∃ j : Nat, rs[j]? = some (p, a, lof rs p)
  | [], _, _, h => nomatch h
  | r :: rs, p, a, h => by
    have z : getP ((r.1, r.2.1) :: oks rs) p = some a := h
    rw [lof_cons]
    by_cases e : r.1 = p
    · rw [if_pos e]
      rw [getP_pos (p := (r.1, r.2.1)) e] at z
      refine ⟨0, ?_⟩
      show some r = _
      rw [← e, ← Option.some.inj z]
    · rw [if_neg e]
      rw [getP_neg (p := (r.1, r.2.1)) e] at z
      obtain ⟨j, hj⟩ := lof_some (rs := rs) z
      exact ⟨j + 1, hj⟩
theorem lof_prs {τ : Tmap} {ow : OwL} {rs : List ORow} (h : OwR τ ow rs) (p : Int) : Prs τ (lof rs p) (own ow p) := by
  cases e : getP (oks rs) p with
  | none =>
    rw [lof_none e, h.al p (oks_none e)]
    exact Prs.nil
  | some a =>
    obtain ⟨j, hj⟩ := lof_some e
    exact h.pr p a _ (List.mem_of_getElem? hj)
theorem owc_get {rs : List ORow} {L : List Asr} {H : Hp} {z : Addr} (S : Sts H (owc rs :: L)) (hz : H z = some (.lst [])) (p : Int) : H ((getP (oks rs) p).getD z) = some (.lst ((lof rs p).map V.ref)) := by
  cases e : getP (oks rs) p with
  | none =>
    rw [lof_none e]
    exact hz
  | some a =>
    obtain ⟨j, hj⟩ := lof_some e
    exact (owc_take S hj).hd
def spOwned : Sp := fun vs H Q _ => ∃ (d : Addr) (τ : Tmap) (ow : OwL) (F : List Asr), vs = [.ref d] ∧ Sts H (pto d (.dT (dT V.int ow)) :: im τ :: F) ∧ ow.length ≤ 100000 ∧ ∀ (f : Addr) (rs : List ORow) (υ : Tmap) H', Le τ υ → OwR υ ow rs → rs.length ≤ 100000 → Sts H' (pto f (.dK (dM V.ref (oks rs))) :: owc rs :: pto d (.dT (dT V.int ow)) :: im υ :: F) → Q (.ref f) H'
theorem ok_owned_lists (T : Txt P K mg) : FnOk P w K mg base CX0 1 T.f_owned_lists T.fd_owned_lists ["owners"] spOwned := by
  refine T.F_owned_lists.ok sc_owned_lists (fun vs H Q E h => by obtain ⟨d, τ, ow, F, rfl, _⟩ := h; rfl) (fun cdv A outer s H vs Q E hr h => ?_)
  obtain ⟨d, τ, ow, F, rfl, S, hl, q⟩ := h
  refine ⟨_, (pss_cons (ps_set (i := 1) sc_owned_lists.nd rfl (Or.inl rfl) pe_dnewK)
      (pss_cons (oc_lock (ps_for PassesOwn.never rfl (pi_itemsT (pv 0)) (oc_pg_tup (K := K) (n := 2) rfl rfl (pgs_cons (pg_name (i := 2) sc_owned_lists.nd rfl (Or.inl rfl)) (pgs_cons (pg_name (i := 3) sc_owned_lists.nd rfl (Or.inl rfl)) pgs_nil)))
      (pss_one (ps_expr (pe_bm PySem.F.plainAttrs_list PySem.F.slot_list_append PySem.F.type_list_append v_append (pe_dsetd (pv 1) (pv 3) (pe_lst pa_nil) ⟨by rfl, by rfl, by rfl, by rfl⟩) (pa_cons (pv 2) pa_nil))))))
      (pss_one (ps_ret (pv 1))))), st_1_3 rfl ?_⟩
  fail "go"
  rename_i f H1 S1
  have S1' := gD0 V.ref S1
  refine ⟨d, _, _, (show Sts H1 (pto d (.dT (dT V.int ow)) :: pto f (.dK (dM V.ref [])) :: im τ :: F) by fail "fp"), trivial, fun od H2 S2 => ?_⟩
  fail "go"
  refine for_itemsT ow (fun i σ H => ∃ (υ : Tmap) (rs : List ORow) (x2 x3 : Option V), σ = [some (.ref d), some (.ref f), x2, x3] ∧ Le τ υ ∧ OwR υ (ow.take i) rs ∧ rs.length ≤ i ∧ Sts H (pto d (.frz od (.dT (dT V.int ow))) :: pto f (.dK (dM V.ref (oks rs))) :: owc rs :: im υ :: F)) ⟨τ, [], none, none, rfl, Le.refl _, OwR.nil _, Nat.le_refl _, S2.under fun _ U => U.under fun _ W => owc_nil W⟩ (fun i σ H ⟨_, _, _, _, _, _, _, _, S⟩ => ⟨_, S⟩) ?_ ?_
  · rintro i e t U σ H hi ⟨υ, rs, x2, x3, rfl, hle, hrs, hrl, S⟩ np ht
    have hil : i < ow.length := (List.getElem?_eq_some_iff.mp hi).1
    obtain ⟨υ1, l1, e1, S3⟩ := (show Sts H (im υ :: pto d (.frz od (.dT (dT V.int ow))) :: pto f (.dK (dM V.ref (oks rs))) :: owc rs :: F) by fail "fp").learn ht
    obtain ⟨υ2, l2, e2, S4⟩ := S3.newT [.ref t, .int e.2] np
    have e3 : υ2 t = some (pV e.1) := l2 _ _ e1
    have hrs2 := (hrs.mono l1).mono l2
    have hle2 : Le τ υ2 := hle.trans (l1.trans l2)
    have htk : ow.take (i + 1) = ow.take i ++ [(e.1, e.2)] := by rw [List.take_add_one, hi]; rfl
    have hol : (oks rs).length ≤ 1000000 := by unfold oks; rw [List.length_map]; omega
    have hlen : ∀ (us : List ORow) (j : Nat) (a : Addr) (l : List Addr), OwR υ2 (ow.take i) us → us[j]? = some (e.2, a, l) → l.length ≤ 100000 := fun us j a l hu hj => by
      rw [(hu.pr _ a l (List.mem_of_getElem? hj)).len, own_len]
      refine Nat.le_trans List.countP_le_length ?_
      rw [List.length_take]
      omega
    clear S S3
    fail "go"
    refine ⟨f, rfl, .inl ⟨_, .inl (by fail "hp")⟩, ?_⟩
    fail "go"
    rename_i z H5 S5
    refine g_setdI (f := V.ref) (ps := oks rs) (z := z) (by fail "fr1") hol (fun a ha => ?_) (fun hn H6 S6 => ?_)
    · obtain ⟨j, l, hj⟩ := oks_get ha
      have hll := hlen rs j a l hrs2 hj
      have S7 := owc_take (show Sts H5 (owc rs :: pto d (.frz od (.dT (dT V.int ow))) :: pto f (.dK (dM V.ref (oks rs))) :: im υ2 :: F) by fail "fp") hj
      clear S4 S5
      fail "go"
      rename_i H8 S8
      have S8 : Sts H8 (pto a (.lst ((l ++ [t]).map V.ref)) :: owc (rs.eraseIdx j) :: pto d (.frz od (.dT (dT V.int ow))) :: pto f (.dK (dM V.ref (oks rs))) :: im υ2 :: F) := by rw [List.map_append]; exact S8
      have S9 := owc_put (k := e.2) (List.getElem?_eq_some_iff.mp hj).1 S8
      have ek : oks (rs.set j (e.2, a, l ++ [t])) = oks rs := by
        unfold oks
        rw [List.map_set]
        apply List.ext_getElem?
        intro k
        by_cases hk : k = j
        · subst hk
          rw [List.getElem?_set_self (by rw [List.length_map]; exact (List.getElem?_eq_some_iff.mp hj).1), List.getElem?_map, hj]
          rfl
        · rw [List.getElem?_set_ne (fun z => hk z.symm)]
      refine ⟨υ2, rs.set j (e.2, a, l ++ [t]), _, _, rfl, hle2, ?_, by rw [List.length_set]; omega, ?_⟩
      · rw [htk]
        exact hrs2.push hj e3
      · rw [ek]
        fail "fp"
    · have hrs3 := hrs2.new (a := z) hn
      have hj : (rs ++ [(e.2, z, ([] : List Addr))])[rs.length]? = some (e.2, z, []) := by rw [List.getElem?_append_right (Nat.le_refl _), Nat.sub_self]; rfl
      rw [putP_new hn] at S6
      clear S4 S5
      fail "go"
      rename_i H8 S8
      have S8 : Sts H8 (pto z (.lst (([] ++ [t]).map V.ref)) :: pto f (.dK (dM V.ref (oks rs ++ [(e.2, z)]))) :: im υ2 :: pto d (.frz od (.dT (dT V.int ow))) :: owc rs :: F) := by fail "fp"
      have S9 := owc_add (k := e.2) (show Sts H8 (pto z (.lst (([] ++ [t]).map V.ref)) :: owc rs :: pto d (.frz od (.dT (dT V.int ow))) :: pto f (.dK (dM V.ref (oks rs ++ [(e.2, z)]))) :: im υ2 :: F) by fail "fp")
      have es : (rs ++ [(e.2, z, ([] : List Addr))]).set rs.length (e.2, z, [] ++ [t]) = rs ++ [(e.2, z, [t])] := by
        rw [List.set_append_right _ _ (Nat.le_refl _), Nat.sub_self]
        rfl
      refine ⟨υ2, rs ++ [(e.2, z, [t])], _, _, rfl, hle2, ?_, by rw [List.length_append, List.length_cons, List.length_nil]; omega, ?_⟩
      · rw [htk, ← es]
        exact hrs3.push hj e3
      · have ek : oks (rs ++ [(e.2, z, [t])]) = oks rs ++ [(e.2, z)] := by
          unfold oks
          rw [List.map_append]
          rfl
        rw [ek]
        have S9 : Sts H8 (owc (rs ++ [(e.2, z, [t])]) :: pto d (.frz od (.dT (dT V.int ow))) :: pto f (.dK (dM V.ref (oks rs ++ [(e.2, z)]))) :: im υ2 :: F) := S9
        fail "fp"
  · rintro σ H ⟨υ, rs, x2, x3, rfl, hle, hrs, hrl, S⟩
    rw [List.take_length] at hrs
    refine ⟨_, S, fun H3 S3 => ?_⟩
    fail "go"
    exact q f rs υ _ hle hrs (by omega) (by fail "fp")
local macro_rules | `(tactic| fail "gs") => `(tactic| ((with_reducible show K07.spOwned _ _ _ _); refine ⟨_, _, _, _, rfl, Oc.pr (by fail "fr2"), Oc.pr (by fail "side"), fun oa ors oυ oh ol oe on os => ?_⟩))

--PART
def CamT (τ : Tmap) (cam : CamL) : Prop := ∀ x t q, (x, some (t, q)) ∈ cam → τ t = some (pV q)
theorem CamT.mono {τ υ : Tmap} {cam : CamL} (h : CamT τ cam) (l : Le τ υ) : CamT υ cam := fun x t q m => l _ _ (h x t q m)
def spTurn : Sp := fun vs H Q _ => ∃ (d c : Addr) (last s mm : Int) (j : Nat) (o : Option (Addr × Oc.PI2)) (τ : Tmap) (ow : OwL) (cam : CamL) (F : List Asr), vs = [.ref d, .ref c, .int last] ∧ Sts H (pto d (.dT (dT V.int ow)) :: pto c (.dK (dM orf cam)) :: im τ :: F) ∧
  Good mm ow ∧ Came ow s cam ∧ CamT τ cam ∧ cam[j]? = some (last, o) ∧ ow.length ≤ 100000 ∧
  ∀ (ow' : OwL) H', Good mm ow' → ow'.map (·.1) = ow.map (·.1) → (∀ p, ocn ow' p + (if p = s then 1 else 0) = ocn ow p + (if p = last then 1 else 0)) → Sts H' (pto d (.dT (dT V.int ow')) :: pto c (.dK (dM orf cam)) :: im τ :: F) → Q .non H'
theorem ok_turn_chain (T : Txt P K mg) : FnOk P w K mg base CX0 2 T.f_turn_chain T.fd_turn_chain ["owners", "came_along", "last"] spTurn := by
  refine T.F_turn_chain.ok sc_turn_chain (fun vs H Q E h => by obtain ⟨d, c, last, s, mm, j, o, τ, ow, cam, F, rfl, _⟩ := h; rfl) (fun cdv A outer s H vs Q E hr h => ?_)
  obtain ⟨d, c, last, s0, mm, j, o, τ, ow, cam, F, rfl, S, hg, hc, ht, hj, hl, q⟩ := h
  refine ⟨_, (pss_cons (ps_set (i := 3) sc_turn_chain.nd rfl (Or.inl rfl) (pv 2))
      (pss_cons (ps_set (i := 4) sc_turn_chain.nd rfl (Or.inl rfl) (pe_dget (hu_of hr) (pv 1) (pv 3) (fun _ _ => rfl)))
      (pss_one (ps_while PassesOwn.never (pt_cmpR v_notN (pv 4) pe_non (nomark _))
      (pss_cons (ps_asg (pv 3) (pg_sub (pv 0) (pv 4) (v_setT V.int (hu_of hr))))
      (pss_cons (ps_set (i := 3) sc_turn_chain.nd rfl (Or.inl rfl) (v_call (ok_other_end T) (hr.mono (by decide)) (by rfl) T.g_other_end T.F_other_end.kp T.b_other_end (pa_cons (pv 4) (pa_cons (pv 3) pa_nil))))
      (pss_one (ps_set (i := 4) sc_turn_chain.nd rfl (Or.inl rfl) (pe_dget (hu_of hr) (pv 1) (pv 3) (fun _ _ => rfl)))))))))), st_3_2 rfl ?_⟩
  have hgl : getP cam last = some o := getP_at hc.nd hj
  fail "go"
  refine g_while (fun k σ H => ∃ (cur : OwL) (x : Int) (o : Option (Addr × Oc.PI2)) (v : V), v = orf o ∧ σ = [some (.ref d), some (.ref c), some (.int last), some (.int x), some v] ∧ Turn mm ow cam last cur k x o ∧ Sts H (pto d (.dT (dT V.int cur)) :: pto c (.dK (dM orf cam)) :: im τ :: F)) j ⟨ow, last, o, _, rfl, rfl, Turn.start hg hj, S⟩ ?_
  rintro k σ H ⟨cur, x, o, v, ev, rfl, Tn, S⟩
  cases o with
  | none =>
    obtain rfl : v = V.non := ev
    have hx := Turn.fin hc Tn
    subst hx
    fail "go"
    exact q cur _ Tn.gd Tn.ky Tn.ct S
  | some z =>
    obtain ⟨t, r⟩ := z
    obtain rfl : v = V.ref t := ev
    have htr : τ t = some (pV r) := ht x t r (List.mem_of_getElem? Tn.pl)
    obtain ⟨i, y, o2, hi, hgy, hoy, hpy, Tn2⟩ := Turn.step hg hc Tn
    rw [← hoy] at hpy Tn2
    have hcl : cur.length ≤ 100000 := by
      have z := congrArg List.length Tn.ky
      rw [List.length_map, List.length_map] at z
      omega
    fail "go"
    refine g_turn ?_
    fail "go"
    exact ⟨i, hi, _, _, o2, _, rfl, rfl, Tn2, by fail "fp"⟩
structure Bfs (m : Int) (ow : OwL) (bl : List Int) (s : Int) (cam : CamL) : Prop where
  came : Came ow s cam
  rg : ∀ e ∈ cam, 0 ≤ e.1 ∧ e.1 < m
  full : ∀ e ∈ cam, e.1 ≠ s → gI bl e.1 ≤ ocn ow e.1
def Cls (ow : OwL) (cam : CamL) (k : Nat) : Prop := ∀ (i : Nat) x o, i < k → cam[i]? = some (x, o) → ∀ r ∈ own ow x, oend r x ∈ cam.map (·.1)
theorem came_one (ow : OwL) (s : Int) : Came ow s [(s, none)] := by
  refine ⟨rfl, fun j x h => ?_, List.nodup_cons.mpr ⟨List.not_mem_nil, List.nodup_nil⟩, fun j x t q h => ?_⟩
  · have hl := (List.getElem?_eq_some_iff.mp h).1
    simpa using hl
  · have hl := (List.getElem?_eq_some_iff.mp h).1
    have e : j = 0 := by simpa using hl
    subst e
    cases h
theorem snoc_at {α : Type} {l : List α} {x y : α} {j : Nat} (h : (l ++ [x])[j]? = some y) : l[j]? = some y ∨ (j = l.length ∧ y = x) := by
  rcases Nat.lt_or_ge j l.length with a | a
  · rw [List.getElem?_append_left a] at h
    exact .inl h
  · rw [List.getElem?_append_right a] at h
    have hl := (List.getElem?_eq_some_iff.mp h).1
    have e : j - l.length = 0 := by simpa using hl
    rw [e] at h
    exact .inr ⟨by omega, (Option.some.inj h).symm⟩
theorem at_snoc {α : Type} {l : List α} {x y : α} {j : Nat} (h : l[j]? = some y) : (l ++ [x])[j]? = some y := by
  rw [List.getElem?_append_left (List.getElem?_eq_some_iff.mp h).1]
  exact h
theorem came_snoc {ow : OwL} {s : Int} {cam : CamL} {k : Nat} {x : Int} {o : Option (Addr × Oc.PI2)} {t : Addr} {r : Oc.PI2} (C : Came ow s cam) (hk : cam[k]? = some (x, o)) (hr : (r, x) ∈ ow) (hn : getP cam (oend r x) = none) : Came ow s (cam ++ [(oend r x, some (t, r))]) := by
  refine ⟨at_snoc C.hd, fun j y h => ?_, ?_, fun j y t' q h => ?_⟩
  · rcases snoc_at h with h | ⟨_, h⟩
    · exact C.nn j y h
    · cases h
  · rw [List.map_append]
    refine List.nodup_append.mpr ⟨C.nd, List.nodup_cons.mpr ⟨List.not_mem_nil, List.nodup_nil⟩, fun a ha b hb e => ?_⟩
    have e2 : b = oend r x := by simpa using hb
    obtain ⟨p, hp, e3⟩ := List.mem_map.mp ha
    exact getP_none hn p hp (by rw [e3, e, e2])
  · rcases snoc_at h with h | ⟨e, h⟩
    · obtain ⟨i, y', o', h1, h2, h3⟩ := C.st j y t' q h
      exact ⟨i, y', o', h1, at_snoc h2, h3⟩
    · cases h
      exact ⟨k, x, o, by rw [e]; exact (List.getElem?_eq_some_iff.mp hk).1, at_snoc hk, hr, rfl⟩
theorem enumP_get {bl : List Int} {p : Int} (h0 : 0 ≤ p) (h1 : p < bl.length) : getP (enumP bl) p = some (gI bl p) := by
  refine getP_of (enumP_nodup bl) ?_
  unfold enumP
  refine List.mem_map.mpr ⟨p.toNat, List.mem_range.mpr (by omega), ?_⟩
  have e : ((p.toNat : Nat) : Int) = p := by omega
  show (((p.toNat : Nat) : Int), bl.getD p.toNat 0) = (p, gI bl p)
  rw [e]
  rfl
theorem Cls.snoc {ow : OwL} {cam : CamL} {k : Nat} {e : Int × Option (Addr × Oc.PI2)} (h : Cls ow cam k) (hk : k ≤ cam.length) : Cls ow (cam ++ [e]) k := fun i x o hi hx r hr => by
  rw [List.map_append]
  refine List.mem_append_left _ (h i x o hi ?_ r hr)
  rcases snoc_at hx with z | ⟨z, _⟩
  · exact z
  · omega
def spRoom : Sp := fun vs H Q _ => ∃ (d b : Addr) (s m : Int) (τ : Tmap) (ow : OwL) (bl : List Int) (F : List Asr), vs = [.ref d, .ref b, .int s] ∧ Sts H (pto d (.dT (dT V.int ow)) :: pto b (.dK (dM V.int (enumP bl))) :: im τ :: F) ∧
  Good m ow ∧ ((bl.length : Int) = m ∧ m ≤ 1000) ∧ (0 ≤ s ∧ s < m) ∧ ow.length ≤ 100000 ∧
  (∀ (ow' : OwL) (e : Int) (υ : Tmap) H', Le τ υ → Good m ow' → ow'.map (·.1) = ow.map (·.1) → e ≠ s → (0 ≤ e ∧ e < m) → (ocn ow e : Int) + 1 ≤ gI bl e → (∀ p, ocn ow' p + (if p = s then 1 else 0) = ocn ow p + (if p = e then 1 else 0)) → Sts H' (pto d (.dT (dT V.int ow')) :: pto b (.dK (dM V.int (enumP bl))) :: im υ :: F) → Q .non H') ∧
  ∀ (a : Addr) (L : List Int) (υ : Tmap) H', Le τ υ → L.Pairwise (· < ·) → s ∈ L → (∀ p ∈ L, 0 ≤ p ∧ p < m) → (∀ p ∈ L, p ≠ s → gI bl p ≤ ocn ow p) → (∀ p ∈ L, ∀ r ∈ own ow p, oend r p ∈ L) → Sts H' (pto a (.lst (L.map V.int)) :: pto d (.dT (dT V.int ow)) :: pto b (.dK (dM V.int (enumP bl))) :: im υ :: F) → Q (.ref a) H'
theorem sorted_lt {L : List Int} (h : L.Pairwise (· ≤ ·)) (n : L.Nodup) : L.Pairwise (· < ·) := by
  have z := List.Pairwise.and h n
  exact z.imp fun ⟨a, b⟩ => by omega
theorem ok_make_room (T : Txt P K mg) : FnOk P w K mg base CX0 3 T.f_make_room T.fd_make_room ["owners", "blank", "start"] spRoom := by
  refine T.F_make_room.ok sc_make_room (fun vs H Q E h => by obtain ⟨d, b, s, m, τ, ow, bl, F, rfl, _⟩ := h; rfl) (fun cdv A outer s H vs Q E hr h => ?_)
  obtain ⟨d, b, s0, m, τ, ow, bl, F, rfl, S, hg, ⟨hbl, hm⟩, hs0, hl, q1, q2⟩ := h
  refine ⟨_, (pss_cons (ps_set (i := 3) sc_make_room.nd rfl (Or.inl rfl) (v_call (ok_owned_lists T) (hr.mono (by decide)) (by rfl) T.g_owned_lists T.F_owned_lists.kp T.b_owned_lists (pa_cons (pv 0) pa_nil)))
      (pss_cons (ps_set (i := 4) sc_make_room.nd rfl (Or.inl rfl) (pe_disp (pps_cons (pv 2) pe_non pps_nil) (by rfl) (by rfl) (fun z => by cases z) (by decide)))
      (pss_cons (ps_set (i := 5) sc_make_room.nd rfl (Or.inl rfl) (pe_lst (pa_cons (pv 2) pa_nil)))
      (pss_cons (ps_set (i := 6) sc_make_room.nd rfl (Or.inl rfl) pe_int)
      (pss_cons (ps_while PassesOwn.never (pt_cmpR op_lt (pv 6) (pe_callB (v_lenI (K := K) rfl) (by rfl) T.z_len PySem.boot_len (pa_cons (pv 5) pa_nil)) (nomark _))
      (pss_cons (ps_set (i := 7) sc_make_room.nd rfl (Or.inl rfl) (pe_ix (v_ixI (K := K) rfl) (pv 5) (pv 6) (fun _ _ => rfl)))
      (pss_cons (ps_set (i := 6) sc_make_room.nd rfl (Or.inl rfl) (pe_op op_add (pv 6) pe_int))
      (pss_one (ps_for PassesOwn.never rfl (pi_list (oc_dget2 V.ref (hu_of hr) (pv 3) (pv 7) (pe_lst pa_nil) ⟨by rfl, by rfl, by rfl, by rfl⟩)) (pg_name (i := 8) sc_make_room.nd rfl (Or.inl rfl))
      (pss_cons (ps_set (i := 9) sc_make_room.nd rfl (Or.inl rfl) (v_call (ok_other_end T) (hr.mono (by decide)) (by rfl) T.g_other_end T.F_other_end.kp T.b_other_end (pa_cons (pv 8) (pa_cons (pv 7) pa_nil))))
      (pss_cons (ps_if (pt_cmp (pc_din (hu_of hr) (pv 9) (pv 4)))
      (pss_one ps_continue)
      pss_nil)
      (pss_cons (ps_asg (pv 8) (pg_sub (pv 4) (pv 9) (oc_setD Oc.orf (hu_of hr))))
      (pss_cons (ps_if (pt_cmpR op_lt (pe_callB (v_len (K := K) rfl) (by rfl) T.z_len PySem.boot_len (pa_cons (oc_dget2 V.ref (hu_of hr) (pv 3) (pv 9) (pe_lst pa_nil) ⟨by rfl, by rfl, by rfl, by rfl⟩) pa_nil)) (pe_dget (hu_of hr) (pv 1) (pv 9) (fun _ _ => rfl)) (nomark _))
      (pss_cons (ps_expr (v_call (ok_turn_chain T) (hr.mono (by decide)) (by rfl) T.g_turn_chain T.F_turn_chain.kp T.b_turn_chain (pa_cons (pv 0) (pa_cons (pv 4) (pa_cons (pv 9) pa_nil)))))
      (pss_one (ps_ret pe_non)))
      pss_nil)
      (pss_one (ps_expr (pe_bm PySem.F.plainAttrs_list PySem.F.slot_list_append PySem.F.type_list_append v_appendI (pv 5) (pa_cons (pv 9) pa_nil)))))))))))))
      (pss_one (ps_ret (pe_callB (v_sortI (K := K) rfl) (by rfl) T.z_sorted PyProof.Rows.boot_sorted (pa_cons (pv 5) pa_nil))))))))), st_3_7 rfl ?_⟩
  fail "go"
  rename_i f rs υ H1 hle hrs hrl S1
  intro c hc
  have S2 := S1.new (.dK []) hc
  refine ⟨_, rfl, ?_⟩
  show upd H1 c (.dK []) c = some (.dK []) ∧ ∃ kvs : List (Key × V), [(V.int s0, V.non)] = kvs.map (fun kv => (kV kv.1, kv.2)) ∧ kvs.length ≤ 15 ∧ _
  refine ⟨upd_same, [(.inl s0, .non)], rfl, Nat.le_of_ble_eq_true rfl, ?_⟩
  have S3 := S2.put (.dK (dM orf [(s0, none)]))
  show gName 4 (V.ref c) _ (upd (upd H1 c (.dK [])) c (.dK (dM orf [(s0, none)]))) _
  generalize upd (upd H1 c (.dK [])) c (.dK (dM orf [(s0, none)])) = H3 at S3
  clear S S1 S2
  fail "go"
  rename_i wt H4 S4
  have hcr : ∀ p, (own ow p).length ≤ 100000 := fun p => by
    rw [own_len]
    exact Nat.le_trans List.countP_le_length hl
  refine g_while (fun μ σ H => ∃ (k : Nat) (cam : CamL) (x7 x8 x9 : Option V), μ + k = m.toNat ∧ k ≤ cam.length ∧ σ = [some (.ref d), some (.ref b), some (.int s0), some (.ref f), some (.ref c), some (.ref wt), some (.int k), x7, x8, x9] ∧ Bfs m ow bl s0 cam ∧ CamT υ cam ∧ Cls ow cam k ∧
    Sts H (pto c (.dK (dM orf cam)) :: pto wt (.lst ((cam.map (·.1)).map V.int)) :: pto f (.dK (dM V.ref (oks rs))) :: owc rs :: pto d (.dT (dT V.int ow)) :: pto b (.dK (dM V.int (enumP bl))) :: im υ :: F)) m.toNat ⟨0, [(s0, none)], none, none, none, by omega, Nat.zero_le _, rfl, ⟨came_one ow s0, fun e he => ?_, fun e he => ?_⟩, fun x t q h => ?_, (fun i x o hi => absurd hi (Nat.not_lt_zero i)), by fail "fp"⟩ ?_
  · have e2 : e = (s0, none) := by simpa using he
    rw [e2]
    exact hs0
  · have e2 : e = (s0, none) := by simpa using he
    rw [e2]
    exact fun z => absurd rfl z
  · have e2 : (x, some (t, q)) = (s0, (none : Option (Addr × Oc.PI2))) := by simpa using h
    cases e2
  rintro μ σ H ⟨k, cam, x7, x8, x9, hmu, hkc, rfl, hB, hT, hC, S⟩
  have hcl : (cam.length : Int) ≤ m := by
    rcases nodup_range_le (L := cam.map (·.1)) (m := m) hB.came.nd (fun p hp => by obtain ⟨e, he, rfl⟩ := List.mem_map.mp hp; exact hB.rg e he) with z | z
    · rwa [List.length_map] at z
    · have z := congrArg List.length z
      rw [List.length_map, List.length_nil] at z
      omega
  fail "go"
  with_reducible refine ifB (fun c1 => ?_) (fun c1 => ?_)
  · have c1 := odt c1
    rw [List.length_map] at c1
    refine g_turn ?_
    have hml : (cam.map (·.1)).length = cam.length := List.length_map _
    fail "go"
    have hx : ∃ o, cam[k]? = some (gI (cam.map (·.1)) (k : Int), o) := by
      have hk : k < cam.length := by omega
      refine ⟨(cam[k]).2, ?_⟩
      rw [List.getElem?_eq_getElem hk]
      have z := gI_get (L := cam.map (·.1)) (k := (k : Int)) (by omega) (by omega)
      have e : ((k : Nat) : Int).toNat = k := by omega
      rw [e, List.getElem?_map, List.getElem?_eq_getElem hk] at z
      have z := Option.some.inj z
      rw [← z]
    generalize gI (cam.map (·.1)) (k : Int) = x at hx
    obtain ⟨o, hx⟩ := hx
    rename_i z H6 S6
    have hpr := lof_prs hrs x
    have hrx : 0 ≤ x ∧ x < m := hB.rg (x, o) (List.mem_of_getElem? hx)
    refine g_kIL (SqL.of (owc_get (z := z) (show Sts H6 (owc rs :: pto z (.lst []) :: pto c (.dK (dM orf cam)) :: pto wt (.lst ((cam.map (·.1)).map V.int)) :: pto f (.dK (dM V.ref (oks rs))) :: pto d (.dT (dT V.int ow)) :: pto b (.dK (dM V.int (enumP bl))) :: im υ :: F) by fail "fp") (by fail "hp") x)) ?_
    clear S
    refine for_prs (K := K) hpr (fun i σ H => ∃ (ext : CamL) (x8 x9 : Option V), σ = [some (.ref d), some (.ref b), some (.int s0), some (.ref f), some (.ref c), some (.ref wt), some (.int (k + 1)), some (.int x), x8, x9] ∧ Bfs m ow bl s0 (cam ++ ext) ∧ CamT υ (cam ++ ext) ∧ Cls ow (cam ++ ext) k ∧ (∀ r ∈ (own ow x).take i, oend r x ∈ (cam ++ ext).map (·.1)) ∧
      Sts H (owc rs :: pto z (.lst []) :: pto c (.dK (dM orf (cam ++ ext))) :: pto wt (.lst (((cam ++ ext).map (·.1)).map V.int)) :: pto f (.dK (dM V.ref (oks rs))) :: pto d (.dT (dT V.int ow)) :: pto b (.dK (dM V.int (enumP bl))) :: im υ :: F)) ⟨[], x8, x9, ?_, by rw [List.append_nil]; exact hB, by rw [List.append_nil]; exact hT, by rw [List.append_nil]; exact hC, (fun _ h => nomatch h), by rw [List.append_nil]; fail "fp"⟩ (fun i σ H ⟨_, _, _, _, _, _, _, _, S⟩ => SqL.of (owc_get S (by fail "hp") x)) ?_ ?_
    · rfl
    · rintro i t r σ H hi ht ⟨ext, x8, x9, rfl, hB2, hT2, hC2, hN2, S⟩
      have hro : (r, x) ∈ ow := mem_own.mp (List.mem_of_getElem? hi)
      have hxc : (cam ++ ext)[k]? = some (x, o) := by
        rw [List.getElem?_append_left (List.getElem?_eq_some_iff.mp hx).1]
        exact hx
      have hor : 0 ≤ oend r x ∧ oend r x < m := by
        have z := hg.rg _ hro
        rcases oend_end r x with e | e <;> rw [e]
        · exact z.1
        · exact z.2
      have hbg := enumP_get (bl := bl) (p := oend r x) hor.1 (by omega)
      have hcl2 : ((cam ++ ext).length : Int) ≤ m := by
        rcases nodup_range_le (L := (cam ++ ext).map (·.1)) (m := m) hB2.came.nd (fun p hp => by obtain ⟨e, he, rfl⟩ := List.mem_map.mp hp; exact hB2.rg e he) with z | z
        · rwa [List.length_map] at z
        · have z := congrArg List.length z
          rw [List.length_map, List.length_nil] at z
          omega
      have hml2 : ((cam ++ ext).map (·.1)).length = (cam ++ ext).length := List.length_map _
      cases hgp : getP (cam ++ ext) (oend r x) with
      | some v =>
        fail "go"
        refine ifT (by rw [hgp]; rfl) ?_
        fail "go"
        refine ⟨ext, _, _, rfl, hB2, hT2, hC2, fun r2 h2 => ?_, S⟩
        rw [List.take_add_one, hi] at h2
        rcases List.mem_append.mp h2 with h2 | h2
        · exact hN2 r2 h2
        · have e : r2 = r := by simpa using h2
          rw [e]
          exact List.mem_map.mpr ⟨_, getP_mem hgp, rfl⟩
      | none =>
        fail "go"
        refine ifF (by rw [hgp]; rfl) ?_
        fail "go"
        refine ⟨c, _, rfl, rfl, some (t, r), rfl, _, _, (show Sts H (pto c (.dK (dM orf (cam ++ ext))) :: owc rs :: pto z (.lst []) :: pto wt (.lst (((cam ++ ext).map (·.1)).map V.int)) :: pto f (.dK (dM V.ref (oks rs))) :: pto d (.dT (dT V.int ow)) :: pto b (.dK (dM V.int (enumP bl))) :: im υ :: F) by fail "fp"), by omega, fun H7 S7 => ?_⟩
        rw [putP_new hgp] at S7
        clear S
        have hC3 := came_snoc hB2.came (t := t) hxc hro hgp
        have hT3 : CamT υ (cam ++ ext ++ [(oend r x, some (t, r))]) := fun x' t' q' h' => by
          rcases List.mem_append.mp h' with h' | h'
          · exact hT2 x' t' q' h'
          · have e : (x', some (t', q')) = (oend r x, some (t, r)) := by simpa using h'
            cases e
            exact ht
        have hne : oend r x ≠ s0 := fun e => getP_none hgp (s0, none) (List.mem_of_getElem? hB2.came.hd) e.symm
        fail "go"
        rename_i z2 H8 S8
        refine g_len (SqL.of (owc_get (z := z2) (show Sts H8 (owc rs :: pto z2 (.lst []) :: pto c (.dK (dM orf (cam ++ ext ++ [(oend r x, some (t, r))]))) :: pto z (.lst []) :: pto wt (.lst (((cam ++ ext).map (·.1)).map V.int)) :: pto f (.dK (dM V.ref (oks rs))) :: pto d (.dT (dT V.int ow)) :: pto b (.dK (dM V.int (enumP bl))) :: im υ :: F) by fail "fp") (by fail "hp") (oend r x))) ?_
        have hlo : ((lof rs (oend r x)).map V.ref).length = ocn ow (oend r x) := by rw [List.length_map, (lof_prs hrs (oend r x)).len, own_len]
        rw [hlo]
        fail "go"
        with_reducible refine ifB (fun c2 => ?_) (fun c2 => ?_)
        · have c2 := odt c2
          fail "go"
          refine ⟨d, c, oend r x, s0, m, (cam ++ ext).length, _, υ, ow, _, _, rfl, (show Sts H8 (pto d (.dT (dT V.int ow)) :: pto c (.dK (dM orf (cam ++ ext ++ [(oend r x, some (t, r))]))) :: im υ :: pto b (.dK (dM V.int (enumP bl))) :: F) by fail "fp"), hg, hC3, hT3, by rw [List.getElem?_append_right (Nat.le_refl _), Nat.sub_self]; rfl, hl, fun ow' H9 g1 g2 g3 S9 => ?_⟩
          fail "go"
          exact q1 ow' (oend r x) υ _ hle g1 g2 hne hor (by omega) g3 (by fail "fp")
        · have c2 := odf c2
          fail "go"
          rename_i H9 S9
          have ea : cam ++ (ext ++ [(oend r x, some (t, r))]) = cam ++ ext ++ [(oend r x, some (t, r))] := (List.append_assoc _ _ _).symm
          refine ⟨ext ++ [(oend r x, some (t, r))], _, _, rfl, ?_, ?_, ?_, ?_, ?_⟩ <;> rw [ea]
          · refine ⟨hC3, fun e he => ?_, fun e he hn => ?_⟩
            · rcases List.mem_append.mp he with he | he
              · exact hB2.rg e he
              · have e2 : e = (oend r x, some (t, r)) := by simpa using he
                rw [e2]
                exact hor
            · rcases List.mem_append.mp he with he | he
              · exact hB2.full e he hn
              · have e2 : e = (oend r x, some (t, r)) := by simpa using he
                rw [e2]
                show gI bl (oend r x) ≤ ((ocn ow (oend r x) : Nat) : Int)
                omega
          · exact hT3
          · exact hC2.snoc (by rw [List.length_append]; omega)
          · intro r2 h2
            rw [List.map_append]
            rw [List.take_add_one, hi] at h2
            rcases List.mem_append.mp h2 with h2 | h2
            · exact List.mem_append_left _ (hN2 r2 h2)
            · have e : r2 = r := by simpa using h2
              rw [e]
              exact List.mem_append_right _ List.mem_cons_self
          · rw [List.map_append, List.map_append]
            rw [List.map_append] at S9
            fail "fp"
    · rintro σ H ⟨ext, x8, x9, rfl, hB2, hT2, hC2, hN2, S⟩
      rw [List.take_length] at hN2
      fail "go"
      have hxc : (cam ++ ext)[k]? = some (x, o) := by
        rw [List.getElem?_append_left (List.getElem?_eq_some_iff.mp hx).1]
        exact hx
      refine ⟨μ - 1, by omega, k + 1, cam ++ ext, _, _, _, by omega, by rw [List.length_append]; omega, rfl, hB2, hT2, fun i y oy hiy hy r hr => ?_, by fail "fp"⟩
      by_cases e : i = k
      · subst e
        have e2 := hxc.symm.trans hy
        cases e2
        exact hN2 r hr
      · exact hC2 i y oy (by omega) hy r hr
  · have c1 := odf c1
    rw [List.length_map] at c1
    fail "go"
    refine g_sortI (by fail "sq") (fun L hp hw => ?_)
    fail "go"
    rename_i a H9 S9
    have hnd : L.Nodup := hp.nodup_iff.mpr hB.came.nd
    have hme : ∀ p, p ∈ L ↔ ∃ e ∈ cam, e.1 = p := fun p => (hp.mem_iff).trans List.mem_map
    refine q2 a L υ _ hle (sorted_lt hw hnd) ((hme _).mpr ⟨_, List.mem_of_getElem? hB.came.hd, rfl⟩) (fun p h => ?_) (fun p h hn => ?_) (fun p h r hr => ?_) (by fail "fp")
    · obtain ⟨e, he, rfl⟩ := (hme p).mp h
      exact hB.rg e he
    · obtain ⟨e, he, rfl⟩ := (hme p).mp h
      exact hB.full e he hn
    · obtain ⟨⟨x, o⟩, he, rfl⟩ := (hme p).mp h
      obtain ⟨i, hi⟩ := List.getElem?_of_mem he
      refine hp.mem_iff.mpr (hC i x o ?_ hi r hr)
      have := (List.getElem?_eq_some_iff.mp hi).1
      omega

--PART
def kITup (K : PySem.W.Frag) (R : It → Hp → Prop) : VK := fun x H1 => ∃ a, x = .ref a ∧ (∃ xs, SqT K H1 a xs) ∧ R (Itt K a) H1
theorem g_iTup {K : PySem.W.Frag} {tl : TE} {σ : L2.St} {H : Hp} {R : It → Hp → Prop} (k : tl σ H (kITup K R)) : iTup K tl σ H R := k
theorem g_kITup {K : PySem.W.Frag} {H : Hp} {R : It → Hp → Prop} {a : Addr} {xs : List V} (h : SqT K H a xs) (k : R (Itt K a) H) : kITup K R (.ref a) H := ⟨a, rfl, ⟨xs, h⟩, k⟩
local macro_rules | `(tactic| fail "gs") => `(tactic| with_reducible refine K07.g_iTup ?_)
local macro_rules | `(tactic| fail "gs") => `(tactic| ((with_reducible apply K07.g_kITup); fail "sqT"))
def Fits (m : Int) (bl : List Int) (ow : OwL) : Prop := ∀ p : Int, 0 ≤ p → p < m → (ocn ow p : Int) ≤ gI bl p
theorem ocn_snoc (ow : OwL) (q : Oc.PI2) (p k : Int) : ocn (ow ++ [(q, p)]) k = ocn ow k + if k = p then 1 else 0 := by
  unfold ocn
  rw [List.countP_append]
  congr 1
  rw [List.countP_cons]
  by_cases e : k = p
  · rw [if_pos e, if_pos (decide_eq_true e.symm)]
    rfl
  · rw [if_neg e, if_neg fun z => e (of_decide_eq_true z).symm]
    rfl
def OkP (m : Int) (q : Oc.PI2) : Prop := q.1 ≠ q.2 ∧ (0 ≤ q.1 ∧ q.1 < m) ∧ 0 ≤ q.2 ∧ q.2 < m
def Lot (m : Int) (bl : List Int) (L : List Int) (ks : List Oc.PI2) : Prop := L.Pairwise (· < ·) ∧ (∀ p ∈ L, 0 ≤ p ∧ p < m) ∧ tot bl L < ins ks L
def spPlace : Sp := fun vs H Q _ => ∃ (d b t : Addr) (m : Int) (q : Oc.PI2) (τ : Tmap) (ow : OwL) (bl : List Int) (F : List Asr), vs = [.ref d, .ref b, .ref t] ∧ Sts H (pto d (.dT (dT V.int ow)) :: pto b (.dK (dM V.int (enumP bl))) :: im τ :: F) ∧ τ t = some (pV q) ∧
  Good m ow ∧ ((bl.length : Int) = m ∧ m ≤ 60) ∧ Fits m bl ow ∧ q ∉ ow.map (·.1) ∧ OkP m q ∧ ow.length ≤ 99999 ∧
  (∀ (ow' : OwL) (υ : Tmap) H', Le τ υ → Good m ow' → ow'.map (·.1) = ow.map (·.1) ++ [q] → Fits m bl ow' → Sts H' (pto d (.dT (dT V.int ow')) :: pto b (.dK (dM V.int (enumP bl))) :: im υ :: F) → Q .non H') ∧
  ∀ (a : Addr) (L : List Int) (υ : Tmap) H', Le τ υ → Lot m bl L (ow.map (·.1) ++ [q]) → Sts H' (pto a (.lst (L.map V.int)) :: pto d (.dT (dT V.int ow)) :: pto b (.dK (dM V.int (enumP bl))) :: im υ :: F) → Q (.ref a) H'
theorem pair_at {q : Oc.PI2} {i : Nat} {x : V} (h : (pV q)[i]? = some x) : ∃ p, x = .int p ∧ (p = q.1 ∨ p = q.2) ∧ ((i = 0 ∧ p = q.1) ∨ (i = 1 ∧ p = q.2)) := by
  match i, h with
  | 0, h => exact ⟨q.1, (Option.some.inj h).symm, .inl rfl, .inl ⟨rfl, rfl⟩⟩
  | 1, h => exact ⟨q.2, (Option.some.inj h).symm, .inr rfl, .inr ⟨rfl, rfl⟩⟩
  | n + 2, h => nomatch h
theorem ok_place_pointer (T : Txt P K mg) : FnOk P w K mg base CX0 4 T.f_place_pointer T.fd_place_pointer ["owners", "blank", "pointer"] spPlace := by
  refine T.F_place_pointer.ok sc_place_pointer (fun vs H Q E h => by obtain ⟨d, b, t, m, q, τ, ow, bl, F, rfl, _⟩ := h; rfl) (fun cdv A outer s H vs Q E hr h => ?_)
  obtain ⟨d, b, t, m, q, τ, ow, bl, F, rfl, S, ht, hg, ⟨hbl, hm⟩, hf, hq, ⟨hne, hr1, hr2⟩, hl, q1, q2⟩ := h
  refine ⟨_, (pss_cons (ps_for PassesOwn.never rfl (pi_tup (pv 2)) (pg_name (i := 3) sc_place_pointer.nd rfl (Or.inl rfl))
      (pss_one (ps_if (pt_cmpR op_lt (v_call (ok_owned_count T) (hr.mono (by decide)) (by rfl) T.g_owned_count T.F_owned_count.kp T.b_owned_count (pa_cons (pv 0) (pa_cons (pv 3) pa_nil))) (pe_dget (hu_of hr) (pv 1) (pv 3) (fun _ _ => rfl)) (nomark _))
      (pss_cons (ps_asg (pv 3) (pg_sub (pv 0) (pv 2) (v_setT V.int (hu_of hr))))
      (pss_one (ps_ret pe_non)))
      pss_nil)))
      (pss_cons (ps_set (i := 4) sc_place_pointer.nd rfl (Or.inl rfl) (pe_lst pa_nil))
      (pss_cons (ps_for PassesOwn.never rfl (pi_tup (pv 2)) (pg_name (i := 3) sc_place_pointer.nd rfl (Or.inl rfl))
      (pss_cons (ps_set (i := 5) sc_place_pointer.nd rfl (Or.inl rfl) (v_call (ok_make_room T) (hr.mono (by decide)) (by rfl) T.g_make_room T.F_make_room.kp T.b_make_room (pa_cons (pv 0) (pa_cons (pv 1) (pa_cons (pv 3) pa_nil)))))
      (pss_cons (ps_if (pt_cmpR v_isN (pv 5) pe_non (nomark _))
      (pss_cons (ps_asg (pv 3) (pg_sub (pv 0) (pv 2) (v_setT V.int (hu_of hr))))
      (pss_one (ps_ret pe_non)))
      pss_nil)
      (pss_one (ps_expr (pe_bm PySem.F.plainAttrs_list PySem.F.slot_list_extend PySem.F.type_list_extend v_extend (pv 4) (pa_cons (pv 5) pa_nil)))))))
      (pss_one (ps_ret (pe_callB (v_sortSet rfl) (by rfl) T.z_sorted PyProof.Rows.boot_sorted (pa_cons (pe_callTy (v_setOf (K := K) rfl rfl) (by rfl) T.z_set PyProof.Rows.boot_set (pa_cons (pv 4) pa_nil)) pa_nil))))))), st_3_3 rfl ?_⟩
  have hrng : ∀ p, p = q.1 ∨ p = q.2 → 0 ≤ p ∧ p < m := fun p hp => by
    rcases hp with e | e <;> rw [e]
    · exact hr1
    · exact hr2
  have hkl : ∀ ow' : OwL, ow'.map (·.1) = ow.map (·.1) → ow'.length ≤ 99999 := fun ow' e => by
    have z := congrArg List.length e
    rw [List.length_map, List.length_map] at z
    omega
  fail "go"
  refine for_tup (K := K) (xs := pV q) (fun i σ H => ∃ x3 : Option V, σ = [some (.ref d), some (.ref b), some (.ref t), x3, none, none] ∧ (1 ≤ i → gI bl q.1 ≤ ocn ow q.1) ∧ (2 ≤ i → gI bl q.2 ≤ ocn ow q.2) ∧ Sts H (pto d (.dT (dT V.int ow)) :: pto b (.dK (dM V.int (enumP bl))) :: im τ :: F)) ⟨none, rfl, (fun h => absurd h (by omega)), (fun h => absurd h (by omega)), S⟩ (fun i σ H _ ⟨_, _, _, _, S⟩ => by fail "sqT") ?_ ?_
  · rintro i x σ H hi ⟨x3, rfl, n1, n2, S⟩
    obtain ⟨p, rfl, hp, hip⟩ := pair_at hi
    have hpr := hrng p hp
    have hbg := enumP_get (bl := bl) (p := p) hpr.1 (by omega)
    fail "go"
    with_reducible refine ifB (fun c => ?_) (fun c => ?_)
    · have c := odt c
      fail "go"
      rename_i H3 S3
      rw [putT_new hq] at S3
      refine q1 (ow ++ [(q, p)]) τ _ (Le.refl _) (hg.snoc hq hne hp ⟨hr1, hr2⟩) (by rw [List.map_append]; rfl) (fun k k0 k1 => ?_) (by fail "fp")
      rw [ocn_snoc]
      have := hf k k0 k1
      split
      · rename_i e
        subst e
        omega
      · omega
    · have c := odf c
      fail "go"
      refine ⟨_, rfl, fun _ => ?_, fun _ => ?_, by fail "fp"⟩
      · rcases hip with ⟨_, e⟩ | ⟨e0, e⟩
        · rw [← e]
          omega
        · exact n1 (by omega)
      · rcases hip with ⟨e0, e⟩ | ⟨e0, e⟩
        · omega
        · rw [← e]
          omega
  rintro σ H ⟨x3, rfl, n1, n2, S⟩
  have n1 := n1 (Nat.le_of_ble_eq_true rfl)
  have n2 := n2 (Nat.le_of_ble_eq_true rfl)
  have hfull : ∀ p, p = q.1 ∨ p = q.2 → gI bl p ≤ ocn ow p := fun p hp => by
    rcases hp with e | e <;> rw [e]
    · exact n1
    · exact n2
  fail "go"
  rename_i rp H2 S2
  refine for_tup (K := K) (xs := pV q) (fun i σ H => ∃ (rl : List Int) (υ : Tmap) (x3 x5 : Option V), σ = [some (.ref d), some (.ref b), some (.ref t), x3, some (.ref rp), x5] ∧ rl.length ≤ i * 60 ∧ (1 ≤ i → q.1 ∈ rl) ∧ (2 ≤ i → q.2 ∈ rl) ∧ (∀ p ∈ rl, (0 ≤ p ∧ p < m) ∧ gI bl p ≤ ocn ow p ∧ ∀ r ∈ own ow p, oend r p ∈ rl) ∧ Le τ υ ∧
    Sts H (pto rp (.lst (rl.map V.int)) :: pto d (.dT (dT V.int ow)) :: pto b (.dK (dM V.int (enumP bl))) :: im υ :: F)) ⟨[], τ, x3, none, rfl, Nat.zero_le _, (fun h => absurd h (by omega)), (fun h => absurd h (by omega)), (fun _ h => nomatch h), Le.refl _, by fail "fp"⟩ (fun i σ H _ ⟨_, _, _, _, _, _, _, _, _, _, S⟩ => by fail "sqT") ?_ ?_
  · rintro i x σ H hi ⟨rl, υ, x3, x5, rfl, hrl, m1, m2, hrr, hle, S⟩
    obtain ⟨p, rfl, hp, hip⟩ := pair_at hi
    have hpr := hrng p hp
    have hi2 : i ≤ 1 := by omega
    fail "go"
    refine ⟨d, b, p, m, υ, ow, bl, _, rfl, (show Sts H (pto d (.dT (dT V.int ow)) :: pto b (.dK (dM V.int (enumP bl))) :: im υ :: pto rp (.lst (rl.map V.int)) :: F) by fail "fp"), hg, ⟨hbl, by omega⟩, hpr, by omega, fun ow' e φ H3 l2 g1 g2 g3 g4 g5 g6 S3 => ?_, fun a L φ H3 l2 g1 g2 g3 g4 g5 S3 => ?_⟩
    · have hol := hkl ow' g2
      have hq' : q ∉ ow'.map (·.1) := by rw [g2]; exact hq
      clear S
      fail "go"
      rename_i H4 S4
      rw [putT_new hq'] at S4
      refine q1 (ow' ++ [(q, p)]) φ _ (hle.trans l2) (g1.snoc hq' hne hp ⟨hr1, hr2⟩) (by rw [List.map_append, g2]; rfl) (fun k k0 k1 => ?_) (by fail "fp")
      rw [ocn_snoc]
      have a1 := hf k k0 k1
      have a2 := g6 k
      by_cases ek : k = e
      · subst ek
        rw [if_pos rfl, if_neg g3] at a2
        rw [if_neg g3]
        omega
      · rw [if_neg ek] at a2
        omega
    · have hLl : (L.length : Int) ≤ 60 := by
        rcases nodup_range_le (L := L) (m := m) (g1.imp fun h e => by omega) g3 with z | z
        · omega
        · rw [z, List.length_nil]
          decide
      clear S
      fail "go"
      rename_i H4 S4
      refine ⟨rl ++ L, φ, _, _, rfl, by rw [List.length_append]; omega, fun _ => ?_, fun _ => ?_, fun k hk => ?_, hle.trans l2, by rw [List.map_append]; fail "fp"⟩
      · rcases hip with ⟨_, e⟩ | ⟨e0, e⟩
        · rw [← e]
          exact List.mem_append_right _ g2
        · exact List.mem_append_left _ (m1 (by omega))
      · rcases hip with ⟨e0, e⟩ | ⟨e0, e⟩
        · omega
        · rw [← e]
          exact List.mem_append_right _ g2
      · rcases List.mem_append.mp hk with hk | hk
        · obtain ⟨b1, b2, b3⟩ := hrr k hk
          exact ⟨b1, b2, fun r hr => List.mem_append_left _ (b3 r hr)⟩
        · refine ⟨g3 k hk, ?_, fun r hr => List.mem_append_right _ (g5 k hk r hr)⟩
          by_cases e : k = p
          · rw [e]
            exact hfull p hp
          · exact g4 k hk e
  rintro σ H ⟨rl, υ, x3, x5, rfl, hrl, m1, m2, hrr, hle, S⟩
  have m1 := m1 (Nat.le_of_ble_eq_true rfl)
  have m2 := m2 (Nat.le_of_ble_eq_true rfl)
  have hrl2 : rl.length ≤ 120 := hrl
  fail "go"
  refine g_setOf (ns := rl) S (by fail "sq") (by omega) (fun sp n H3 hks S3 => ?_)
  obtain ⟨ks, hk1, hk2, hk3⟩ := hks
  have hn : n < 64 := by
    rcases nodup_range_le (L := ks) (m := m) hk1 (fun p hp => (hrr p (hk3 p hp)).1) with z | z
    · omega
    · rw [z] at hk2
      exact hk2 ▸ Nat.le_of_ble_eq_true rfl
  fail "go"
  refine g_sortSet (by fail "hp") hn (fun ms h1 h2 => ?_)
  fail "go"
  rename_i a H4 S4
  refine q2 a ms υ _ hle ⟨h1, fun p hp => (hrr p ((h2 p).mp hp)).1, ?_⟩ (by fail "fp")
  refine lot_short hg (h1.imp fun h e => by omega) ((h2 _).mpr m1) ((h2 _).mpr m2) (fun p hp => (hrr p ((h2 p).mp hp)).2.1) fun p hp r hr => (h2 _).mpr ((hrr p ((h2 p).mp hp)).2.2 r hr)

--PART
local macro_rules | `(tactic| fail "gs") => `(tactic| with_reducible refine Oc.g_daug (α := Int) (ps := []) ?_)
def spRest : Sp := fun vs H Q _ => ∃ (d b l : Addr) (m : Int) (τ : Tmap) (ts : List Addr) (ps : List Oc.PI2) (ow : OwL) (bl : List Int) (F : List Asr), vs = [.ref d, .ref b, .ref l] ∧ Sts H (pto l (.lst (ts.map V.ref)) :: pto d (.dT (dT V.int ow)) :: pto b (.dK (dM V.int (enumP bl))) :: im τ :: F) ∧ Prs τ ts ps ∧
  Good m ow ∧ ((bl.length : Int) = m ∧ m ≤ 60) ∧ Fits m bl ow ∧ (ow.map (·.1) ++ ps).Nodup ∧ (∀ q ∈ ps, OkP m q) ∧ ow.length + ps.length ≤ 90000 ∧
  (∀ (r e : Addr) (ow' : OwL) (υ : Tmap) H', Le τ υ → υ r = some [.ref e, .non] → Good m ow' → ow'.map (·.1) = ow.map (·.1) ++ ps → Fits m bl ow' → Sts H' (pto e (.lst []) :: pto l (.lst (ts.map V.ref)) :: pto d (.dT (dT V.int ow')) :: pto b (.dK (dM V.int (enumP bl))) :: im υ :: F) → Q (.ref r) H') ∧
  ∀ (r e a : Addr) (i : Nat) (q : Oc.PI2) (L : List Int) (ow' : OwL) (υ : Tmap) H', Le τ υ → υ r = some [.ref e, .ref a] → ps[i]? = some q → Good m ow' → ow'.map (·.1) = ow.map (·.1) ++ ps.take i → Fits m bl ow' → Lot m bl L (ow'.map (·.1) ++ [q]) →
    Sts H' (pto e (.lst ((ts.drop i).map V.ref)) :: pto a (.lst (L.map V.int)) :: pto l (.lst (ts.map V.ref)) :: pto d (.dT (dT V.int ow')) :: pto b (.dK (dM V.int (enumP bl))) :: im υ :: F) → Q (.ref r) H'
theorem ok_place_rest (T : Txt P K mg) : FnOk P w K mg base CX0 5 T.f_place_rest T.fd_place_rest ["owners", "blank", "pointers"] spRest := by
  refine T.F_place_rest.ok sc_place_rest (fun vs H Q E h => by obtain ⟨d, b, l, m, τ, ts, ps, ow, bl, F, rfl, _⟩ := h; rfl) (fun cdv A outer s H vs Q E hr h => ?_)
  obtain ⟨d, b, l, m, τ, ts, ps, ow, bl, F, rfl, S, hp, hg, hbl, hf, hnd, hok, hln, q1, q2⟩ := h
  refine ⟨_, (pss_cons (ps_for PassesOwn.never rfl (pi_enum rfl T.z_enumerate (pa_cons (pv 2) pa_nil)) (oc_pg_tup (K := K) (n := 2) rfl rfl (pgs_cons (pg_name (i := 3) sc_place_rest.nd rfl (Or.inl rfl)) (pgs_cons (pg_name (i := 4) sc_place_rest.nd rfl (Or.inl rfl)) pgs_nil)))
      (pss_cons (ps_set (i := 5) sc_place_rest.nd rfl (Or.inl rfl) (v_call (ok_place_pointer T) (hr.mono (by decide)) (by rfl) T.g_place_pointer T.F_place_pointer.kp T.b_place_pointer (pa_cons (pv 0) (pa_cons (pv 1) (pa_cons (pv 4) pa_nil)))))
      (pss_one (ps_if (pt_cmpR v_notN (pv 5) pe_non (nomark _))
      (pss_one (ps_ret (pe_tup (pa_cons (pe_slice (v_sl (K := K) rfl) (pv 2) (po_some (pv 3)) po_none) (pa_cons (pv 5) pa_nil)))))
      pss_nil))))
      (pss_one (ps_ret (pe_tup (pa_cons (pe_lst pa_nil) (pa_cons pe_non pa_nil)))))), st_3_3 rfl ?_⟩
  fail "go"
  refine for_enumP (K := K) hp (fun i σ H => ∃ (ow' : OwL) (υ : Tmap) (x3 x4 x5 : Option V), σ = [some (.ref d), some (.ref b), some (.ref l), x3, x4, x5] ∧ Le τ υ ∧ Good m ow' ∧ ow'.map (·.1) = ow.map (·.1) ++ ps.take i ∧ Fits m bl ow' ∧ Sts H (pto l (.lst (ts.map V.ref)) :: pto d (.dT (dT V.int ow')) :: pto b (.dK (dM V.int (enumP bl))) :: im υ :: F)) ⟨ow, τ, none, none, none, rfl, Le.refl _, hg, (List.append_nil _).symm, hf, S⟩ (fun i σ H ⟨_, _, _, _, _, _, _, _, _, _, S⟩ => by fail "sq") ?_ ?_
  · rintro i t q σ H U hi ht ⟨ow', υ, x3, x4, x5, rfl, hle, hg2, hk2, hf2, S⟩ np
    have hil : i < ps.length := (List.getElem?_eq_some_iff.mp hi).1
    obtain ⟨φ, l1, e1, S2⟩ := (show Sts H (im υ :: pto l (.lst (ts.map V.ref)) :: pto d (.dT (dT V.int ow')) :: pto b (.dK (dM V.int (enumP bl))) :: F) by fail "fp").newT [.int (i : Nat), .ref t] np
    have ht2 : φ t = some (pV q) := l1 _ _ (hle _ _ ht)
    have hok2 := hok q (List.mem_of_getElem? hi)
    have hkn : q ∉ ow'.map (·.1) := by
      rw [hk2]
      have e : ps = ps.take i ++ q :: ps.drop (i + 1) := by
        have z := List.drop_eq_getElem_cons hil
        rw [List.getElem?_eq_getElem hil] at hi
        rw [← Option.some.inj hi, ← z, List.take_append_drop]
      rw [e, ← List.append_assoc] at hnd
      exact fun hm => (List.nodup_append.mp hnd).2.2 q hm q List.mem_cons_self rfl
    have hol : ow'.length ≤ 99999 := by
      have z := congrArg List.length hk2
      rw [List.length_map, List.length_append, List.length_map, List.length_take] at z
      omega
    clear S
    fail "go"
    refine ⟨d, b, t, m, q, φ, ow', bl, _, rfl, (show Sts _ (pto d (.dT (dT V.int ow')) :: pto b (.dK (dM V.int (enumP bl))) :: im φ :: pto l (.lst (ts.map V.ref)) :: F) by fail "fp"), ht2, hg2, hbl, hf2, hkn, hok2, hol, fun ow2 ψ H3 l2 g1 g2 g3 S3 => ?_, fun a L ψ H3 l2 g1 S3 => ?_⟩
    · fail "go"
      refine ⟨ow2, ψ, _, _, _, rfl, hle.trans (l1.trans l2), g1, ?_, g3, by fail "fp"⟩
      rw [g2, hk2, List.take_add_one, hi, List.append_assoc]
      rfl
    · clear S2
      fail "go"
      rename_i e H5 S5 r H6 χ l3 e3 S6
      rw [cutV_map, cutL_drop _ (by omega)] at S6
      have ei : ((i : Nat) : Int).toNat = i := by omega
      rw [ei] at S6
      exact q2 r e a i q L ow' χ _ (hle.trans (l1.trans (l2.trans l3))) e3 hi hg2 hk2 hf2 g1 (by fail "fp")
  · rintro σ H ⟨ow', υ, x3, x4, x5, rfl, hle, hg2, hk2, hf2, S⟩
    rw [List.take_length] at hk2
    fail "go"
    rename_i e H5 S5 r H6 χ l3 e3 S6
    exact q1 r e ow' χ _ (hle.trans l3) e3 hg2 hk2 hf2 (by fail "fp")
theorem getP_put {α : Type} {ps : List (Int × α)} {k j : Int} {v : α} : getP (putP ps k v) j = if j = k then some v else getP ps j := by
  unfold putP
  split
  · rename_i h
    induction ps with
    | nil => cases h
    | cons p r ih =>
      rw [List.map_cons]
      by_cases e : p.1 = k
      · rw [if_pos e]
        by_cases e2 : j = k
        · rw [if_pos e2, getP_pos (by rw [e2]; exact e)]
        · have e3 : ¬ p.1 = j := fun z => e2 (z.symm.trans e)
          rw [if_neg e2, getP_neg (p := (p.1, v)) e3, getP_neg e3]
          have tl : ∀ r : List (Int × α), getP (r.map fun p => if p.1 = k then (p.1, v) else p) j = getP r j := by
            intro r
            induction r with
            | nil => rfl
            | cons a r ih2 =>
              rw [List.map_cons]
              by_cases ea : a.1 = k
              · have e4 : ¬ a.1 = j := fun z => e2 (z.symm.trans ea)
                rw [if_pos ea, getP_neg (p := (a.1, v)) e4, getP_neg e4, ih2]
              · rw [if_neg ea]
                by_cases e5 : a.1 = j
                · rw [getP_pos e5, getP_pos e5]
                · rw [getP_neg e5, getP_neg e5, ih2]
          exact tl r
      · rw [if_neg e]
        have hr : (r.any fun p => decide (p.1 = k)) = true := by
          rw [List.any_cons, decide_eq_false e, Bool.false_or] at h
          exact h
        by_cases e2 : p.1 = j
        · have e3 : ¬ j = k := fun z => e (e2.trans z)
          rw [getP_pos e2, if_neg e3, getP_pos e2]
        · rw [getP_neg e2, ih hr, getP_neg e2]
  · rename_i h
    have hn : getP ps k = none := by
      have z := getP_any k ps
      cases q : getP ps k with
      | none => rfl
      | some x =>
        rw [q] at z
        exact absurd z h
    clear h
    induction ps with
    | nil =>
      by_cases e : j = k
      · rw [if_pos e]
        exact getP_pos (p := (k, v)) e.symm
      · rw [if_neg e]
        exact getP_neg (p := (k, v)) fun z => e z.symm
    | cons p r ih =>
      have e : ¬ p.1 = k := getP_none hn p List.mem_cons_self
      rw [getP_neg e] at hn
      by_cases e2 : p.1 = j
      · have e3 : ¬ j = k := fun z => e (e2.trans z)
        rw [if_neg e3, getP_pos e2]
        exact getP_pos (p := p) (r := r ++ [(k, v)]) e2
      · rw [getP_neg e2, ← ih hn]
        exact getP_neg (p := p) (r := r ++ [(k, v)]) e2
def spAll : Sp := fun vs H Q _ => ∃ (b l : Addr) (m : Int) (τ : Tmap) (ts : List Addr) (ps : List Oc.PI2) (bl : List Int) (F : List Asr), vs = [.ref b, .ref l] ∧ Sts H (pto l (.lst (ts.map V.ref)) :: pto b (.dK (dM V.int (enumP bl))) :: im τ :: F) ∧ Prs τ ts ps ∧
  ((bl.length : Int) = m ∧ m ≤ 60) ∧ (∀ x ∈ bl, 0 ≤ x) ∧ ps.Nodup ∧ (∀ q ∈ ps, OkP m q) ∧ ps.length ≤ 90000 ∧
  (∀ (r d e : Addr) (ow : OwL) (υ : Tmap) H', Le τ υ → υ r = some [.ref d, .ref e, .non] → Good m ow → (ow.map (·.1)).Perm ps → Fits m bl ow → Sts H' (pto d (.dT (dT V.int ow)) :: pto e (.lst []) :: pto l (.lst (ts.map V.ref)) :: pto b (.dK (dM V.int (enumP bl))) :: im υ :: F) → Q (.ref r) H') ∧
  ∀ (r d e a : Addr) (us : List Addr) (q : Oc.PI2) (qs : List Oc.PI2) (L : List Int) (ow : OwL) (υ : Tmap) H', Le τ υ → υ r = some [.ref d, .ref e, .ref a] → Prs υ us (q :: qs) → Good m ow → (ow.map (·.1) ++ q :: qs).Perm ps → Fits m bl ow → Lot m bl L (ow.map (·.1) ++ [q]) →
    Sts H' (pto d (.dT (dT V.int ow)) :: pto e (.lst (us.map V.ref)) :: pto a (.lst (L.map V.int)) :: pto l (.lst (ts.map V.ref)) :: pto b (.dK (dM V.int (enumP bl))) :: im υ :: F) → Q (.ref r) H'
theorem ok_place_all (T : Txt P K mg) : FnOk P w K mg base CX0 6 T.f_place_all T.fd_place_all ["blank", "pointers"] spAll := by
  refine T.F_place_all.ok sc_place_all (fun vs H Q E h => by obtain ⟨b, l, m, τ, ts, ps, bl, F, rfl, _⟩ := h; rfl) (fun cdv A outer s H vs Q E hr h => ?_)
  obtain ⟨b, l, m, τ, ts, ps, bl, F, rfl, S, hp, hbl, hbn, hnd, hok, hln, q1, q2⟩ := h
  refine ⟨_, (pss_cons (ps_set (i := 2) sc_place_all.nd rfl (Or.inl rfl) pe_dnewT)
      (pss_cons (ps_set (i := 3) sc_place_all.nd rfl (Or.inr rfl) (pe_callTy v_dictD (by rfl) T.z_dict PyProof.Rows.boot_dict (pa_cons (pv 0) pa_nil)))
      (pss_cons (ps_set (i := 4) sc_place_all.nd rfl (Or.inl rfl) (pe_lst pa_nil))
      (pss_cons (ps_for PassesOwn.never rfl (pi_list (pv 1)) (pg_name (i := 5) sc_place_all.nd rfl (Or.inl rfl))
      (pss_cons (ps_setLc (i := 6) (own := [("page", 9)]) (g := gName 9) rfl sc_place_all.nd rfl rfl (sw_true rfl rfl rfl (by decide +kernel)) (pi_tup (pv 5)) (blkOk_by (own := [("page", 9)]) (N := ["blank", "pointers", "owners", "room", "later", "pointer", "ends", "left", "lot", "page"]) (sc := defScope s_place_all) (by decide +kernel)) (fun _ _ _ _ _ => (pg_name (i := 9) sc_place_all.nd rfl (Or.inl rfl))) (fun _ _ _ _ _ => (pts_one (pt_cmpR op_gt (pe_dget (hu_of hr) (pv 3) (pv 9) (fun _ _ => rfl)) pe_int (nomark _)))) (fun _ _ _ _ _ => (pv 9)))
      (pss_one (ps_if (v_truth (K := K) rfl (pv 6) (by intro _; rfl))
      (pss_cons (ps_asg (pe_ix (v_ixI (K := K) rfl) (pv 6) pe_int (fun _ _ => rfl)) (pg_sub (pv 2) (pv 5) (v_setT V.int (hu_of hr))))
      (pss_one (ps_daug (hu_of hr) (pv 3) (pe_ix (v_ixI (K := K) rfl) (pv 6) pe_int (fun _ _ => rfl)) pe_int in_sub (fun _ _ _ => rfl))))
      (pss_one (ps_expr (pe_bm PySem.F.plainAttrs_list PySem.F.slot_list_append PySem.F.type_list_append v_append (pv 4) (pa_cons (pv 5) pa_nil))))))))
      (pss_cons (ps_asg (v_call (ok_place_rest T) (hr.mono (by decide)) (by rfl) T.g_place_rest T.F_place_rest.kp T.b_place_rest (pa_cons (pv 2) (pa_cons (pv 0) (pa_cons (pv 4) pa_nil)))) (oc_pg_tup (K := K) (n := 2) rfl rfl (pgs_cons (pg_name (i := 7) sc_place_all.nd rfl (Or.inl rfl)) (pgs_cons (pg_name (i := 8) sc_place_all.nd rfl (Or.inl rfl)) pgs_nil))))
      (pss_one (ps_ret (pe_tup (pa_cons (pv 2) (pa_cons (pv 7) (pa_cons (pv 8) pa_nil))))))))))), st_2_8 rfl ?_⟩
  fail "go"
  refine g_dictD (by fail "hp") ?_
  fail "go"
  rename_i d H1 S1 rma H2 S2 la H3 S3
  clear S S1 S2
  have hp0 : ∀ x, gI bl x ≥ 0 := fun x => by
    unfold gI
    rw [List.getD_eq_getElem?_getD]
    cases e : bl[x.toNat]? with
    | none => exact Int.le_refl _
    | some y => exact hbn y (List.mem_of_getElem? e)
  refine for_prs (K := K) hp (fun i σ H => ∃ (ow : OwL) (rm : List (Int × Int)) (us : List Addr) (lp : List Oc.PI2) (x5 x6 x9 : Option V), σ = [some (.ref b), some (.ref l), some (.ref d), some (.ref rma), some (.ref la), x5, x6, none, none, x9] ∧ Good m ow ∧ (ow.map (·.1) ++ lp).Perm (ps.take i) ∧ Prs τ us lp ∧ Fits m bl ow ∧ (∀ p : Int, 0 ≤ p → p < m → getP rm p = some (gI bl p - ocn ow p)) ∧ rm.length = bl.length ∧
    Sts H (pto d (.dT (dT V.int ow)) :: pto rma (.dK (dM V.int rm)) :: pto la (.lst (us.map V.ref)) :: pto l (.lst (ts.map V.ref)) :: pto b (.dK (dM V.int (enumP bl))) :: im τ :: F)) ⟨[], enumP bl, [], [], none, none, none, rfl, Good.nil m, List.Perm.refl _, Prs.nil, fun p _ _ => hp0 p, fun p h0 h1 => ?_, ?_, by fail "fp"⟩ (fun i σ H ⟨_, _, _, _, _, _, _, _, _, _, _, _, _, _, S⟩ => by fail "sq") ?_ ?_
  · rw [enumP_get h0 (by omega)]
    show _ = some (gI bl p - 0)
    rw [Int.sub_zero]
  · unfold enumP
    rw [List.length_map, List.length_range]
  · rintro i t q σ H hi ht ⟨ow, rm, us, lp, x5, x6, x9, rfl, hg, hpm, hus, hf, hrm, hrl, S⟩
    have hil : i < ps.length := (List.getElem?_eq_some_iff.mp hi).1
    obtain ⟨hne, hr1, hr2⟩ := hok q (List.mem_of_getElem? hi)
    have hrng : ∀ p, p = q.1 ∨ p = q.2 → 0 ≤ p ∧ p < m := fun p hp => by
      rcases hp with e | e <;> rw [e]
      · exact hr1
      · exact hr2
    have hpl := hpm.length_eq
    rw [List.length_append, List.length_map, List.length_take] at hpl
    have hul := hus.len
    have hkn : q ∉ ow.map (·.1) := fun hm => by
      have z := hpm.mem_iff.mp (List.mem_append_left lp hm)
      have e : ps = ps.take i ++ q :: ps.drop (i + 1) := by
        have z := List.drop_eq_getElem_cons hil
        rw [List.getElem?_eq_getElem hil] at hi
        rw [← Option.some.inj hi, ← z, List.take_append_drop]
      rw [e] at hnd
      exact (List.nodup_append.mp hnd).2.2 q z q List.mem_cons_self rfl
    have htk : ps.take (i + 1) = ps.take i ++ [q] := by rw [List.take_add_one, hi]; rfl
    fail "go"
    rename_i D H4 S4
    refine oc_lcW (n := 2) (walk_tup (K := K) (xs := pV q)) (fun j H => Sts H (pto D (.lst ((([q.1, q.2].take j).filter fun p => decide (0 < gI bl p - ocn ow p)).map V.int)) :: pto d (.dT (dT V.int ow)) :: pto rma (.dK (dM V.int rm)) :: pto la (.lst (us.map V.ref)) :: pto l (.lst (ts.map V.ref)) :: pto b (.dK (dM V.int (enumP bl))) :: im τ :: F)) S4 (fun j H _ S => by fail "sqT") ?_ ?_
    · rintro j x H H' hj S ⟨rfl, hx⟩
      have hx2 : ∃ p, x = .int p ∧ (p = q.1 ∨ p = q.2) ∧ [q.1, q.2][j]? = some p := by
        obtain ⟨p, e1, e2, e3⟩ := pair_at hx
        refine ⟨p, e1, e2, ?_⟩
        rcases e3 with ⟨a, c⟩ | ⟨a, c⟩ <;> rw [a, c] <;> rfl
      obtain ⟨p, rfl, hp, hpj⟩ := hx2
      have hpr := hrng p hp
      have hbg := hrm p hpr.1 hpr.2
      have hs := filt_snoc (f := fun p => decide (0 < gI bl p - ocn ow p)) hpj
      have hfl : (([q.1, q.2].take j).filter fun p => decide (0 < gI bl p - ocn ow p)).length ≤ 2 := by
        refine Nat.le_trans (List.length_filter_le _ _) ?_
        rw [List.length_take]
        exact Nat.min_le_right _ _
      fail "go"
      with_reducible refine ifB (fun c => ?_) (fun c => ?_)
      · have c := odt c
        rw [if_pos (decide_eq_true c)] at hs
        fail "go"
        fail "lce"
        rw [hs, List.map_append]
        fail "fp"
      · have c := odf c
        rw [if_neg (fun z => c (of_decide_eq_true z)), List.append_nil] at hs
        show Sts _ _
        rw [hs]
        exact S
    · rintro H S
      have hen : ∀ p ∈ ([q.1, q.2].filter fun p => decide (0 < gI bl p - ocn ow p)), (p = q.1 ∨ p = q.2) ∧ 0 < gI bl p - ocn ow p := fun p hp => by
        obtain ⟨h1, h2⟩ := List.mem_filter.mp hp
        exact ⟨by simpa using h1, of_decide_eq_true h2⟩
      have S : Sts H (pto D (.lst (([q.1, q.2].filter fun p => decide (0 < gI bl p - ocn ow p)).map V.int)) :: pto d (.dT (dT V.int ow)) :: pto rma (.dK (dM V.int rm)) :: pto la (.lst (us.map V.ref)) :: pto l (.lst (ts.map V.ref)) :: pto b (.dK (dM V.int (enumP bl))) :: im τ :: F) := S
      generalize ([q.1, q.2].filter fun p => decide (0 < gI bl p - ocn ow p)) = en at hen S
      clear S4
      by_cases hz : en = []
      · subst hz
        fail "go"
        refine ifF (by decide) ?_
        fail "go"
        rename_i H5 S5
        refine ⟨ow, rm, us ++ [t], lp ++ [q], _, _, _, rfl, hg, ?_, hus.snoc ht, hf, hrm, hrl, by rw [List.map_append]; fail "fp"⟩
        rw [htk, ← List.append_assoc]
        exact hpm.append_right _
      · have hz1 : 0 < en.length := List.length_pos_iff.mpr hz
        have hgm := gI_mem (ns := en) (i := 0) (Int.le_refl 0) (by omega)
        obtain ⟨g1, g2⟩ := hen _ hgm
        have g3 := hrng _ g1
        have hbg := hrm _ g3.1 g3.2
        have hol : ow.length ≤ 99999 := by omega
        fail "go"
        refine ifT (by cases en with | nil => exact absurd rfl hz | cons a r => rfl) ?_
        fail "go"
        refine ⟨rma, V.int (gI bl (gI en 0) - ocn ow (gI en 0)), rfl, .inl ⟨dM V.int rm, .inl (gI en 0), .inl (by fail "hp"), rfl, by rw [valV_dM, hbg]; rfl⟩, ?_⟩
        fail "go"
        refine ⟨_, _, rfl, rfl, ?_⟩
        refine g_dputI (by fail "fr1") (by omega) (fun H6 S6 => ?_)
        rw [putT_new hkn] at S6
        generalize gI en 0 = p at *
        refine ⟨ow ++ [(q, p)], _, us, lp, _, _, _, rfl, hg.snoc hkn hne g1 ⟨hr1, hr2⟩, ?_, hus, fun k k0 k1 => ?_, fun k k0 k1 => ?_, ?_, by fail "fp"⟩
        · rw [htk, List.map_append]
          refine List.Perm.trans ?_ (hpm.append_right [q])
          rw [List.append_assoc, List.append_assoc]
          exact List.Perm.append_left _ List.perm_append_comm
        · rw [ocn_snoc]
          have := hf k k0 k1
          by_cases e : k = p
          · subst e
            rw [if_pos rfl]
            omega
          · rw [if_neg e]
            omega
        · rw [getP_put, ocn_snoc]
          by_cases e : k = p
          · subst e
            rw [if_pos rfl, if_pos rfl]
            congr 1
            omega
          · rw [if_neg e, if_neg e, hrm k k0 k1]
            congr 1
        · have z := congrArg List.length (keys_put rm p (gI bl p - ocn ow p - 1))
          rw [hbg] at z
          have e1 : (some (gI bl p - (ocn ow p : Int))).isSome = true := rfl
          simp only [e1, if_true, List.length_map] at z
          omega
  · rintro σ H ⟨ow, rm, us, lp, x5, x6, x9, rfl, hg, hpm, hus, hf, hrm, hrl, S⟩
    rw [List.take_length] at hpm
    have hpl := hpm.length_eq
    rw [List.length_append, List.length_map] at hpl
    have hul := hus.len
    have hok2 : ∀ q ∈ lp, OkP m q := fun q hq => hok q (hpm.mem_iff.mp (List.mem_append_right _ hq))
    fail "go"
    refine ⟨d, b, la, m, τ, us, lp, ow, bl, _, rfl, (show Sts H (pto la (.lst (us.map V.ref)) :: pto d (.dT (dT V.int ow)) :: pto b (.dK (dM V.int (enumP bl))) :: im τ :: pto l (.lst (ts.map V.ref)) :: F) by fail "fp"), hus, hg, hbl, hf, hpm.nodup_iff.mpr hnd, hok2, by omega, fun r e ow' υ H5 l1 e1 g1 g2 g3 S5 => ?_, fun r e a i q L ow' υ H5 l1 e1 hq g1 g2 g3 g4 S5 => ?_⟩
    · fail "go"
      rename_i r2 H6 χ l2 e2 S6
      exact q1 r2 d e ow' χ _ (l1.trans l2) e2 g1 (by rw [g2]; exact hpm) g3 (by fail "fp")
    · fail "go"
      rename_i r2 H6 χ l2 e2 S6
      have hdr : lp.drop i = q :: lp.drop (i + 1) := by
        have hil : i < lp.length := (List.getElem?_eq_some_iff.mp hq).1
        have z := List.drop_eq_getElem_cons hil
        rw [List.getElem?_eq_getElem hil] at hq
        rw [z, Option.some.inj hq]
      have hd := (hus.mono (l1.trans l2)).drop i
      rw [hdr] at hd
      refine q2 r2 d e a (us.drop i) q (lp.drop (i + 1)) L ow' χ _ (l1.trans l2) e2 hd g1 ?_ g3 g4 (by fail "fp")
      rw [g2, ← hdr, List.append_assoc, List.take_append_drop]
      exact hpm

--PART
/-! ### the program: webs -/
def spGrouped : Sp := fun vs H Q _ => ∃ (a : Addr) (n : Int) (τ : Tmap) (ts : List Addr) (qs : List Oc.PI2) (F : List Asr), vs = [.int n, .ref a] ∧ Sts H (im τ :: pto a (.lst (ts.map V.ref)) :: F) ∧ Prs τ ts qs ∧ (0 ≤ n ∧ n ≤ 100000) ∧ qs.length ≤ 100000 ∧ (∀ q ∈ qs, 0 ≤ q.1 ∧ q.1 < n) ∧
  ∀ (R : Addr) (rs : List RowL) H', rs.map (·.2) = groupOf n qs → Sts H' (pto R (.lst (rs.map fun q => V.ref q.1)) :: rowc rs :: im τ :: pto a (.lst (ts.map V.ref)) :: F) → Q (.ref R) H'
theorem set_fst {rs : List RowL} {i : Nat} {a : Addr} {l m : List Int} (e : rs[i]? = some (a, l)) : (rs.set i (a, m)).map (fun q => V.ref q.1) = rs.map fun q => V.ref q.1 := by
  rw [List.map_set]
  apply List.ext_getElem?
  intro j
  by_cases h : j = i
  · subst h
    have hl : j < rs.length := (List.getElem?_eq_some_iff.mp e).1
    rw [List.getElem?_set_self (by rw [List.length_map]; exact hl), List.getElem?_map, e]
    rfl
  · rw [List.getElem?_set_ne (fun z => h z.symm)]
theorem ok_grouped (T : Txt P K mg) : FnOk P w K mg base CX0 1 T.f_grouped T.fd_grouped ["pages", "pairs"] spGrouped := by
  refine T.F_grouped.ok sc_grouped (fun vs H Q E h => by obtain ⟨a, n, τ, ts, qs, F, rfl, _⟩ := h; rfl) (fun cdv A outer s H vs Q E hr h => ?_)
  obtain ⟨a, n, τ, ts, qs, F, rfl, S, hp, hn, hl, hq, q⟩ := h
  refine ⟨_, (pss_cons (ps_setLc (i := 2) (own := [("_", 5)]) (g := gName 5) (tt := tYes) rfl sc_grouped.nd rfl rfl (sw_true rfl rfl rfl (by decide +kernel)) (pi_range1 rfl T.z_range (pa_cons (pv 0) pa_nil)) (blkOk_by (own := [("_", 5)]) (N := ["pages", "pairs", "rows", "page", "other", "_"]) (sc := defScope s_grouped) (by decide +kernel)) (fun _ _ _ _ _ => (pg_name (i := 5) sc_grouped.nd rfl (Or.inl rfl))) (fun _ _ _ _ _ => pts_nil) (fun _ _ _ _ _ => (pe_lst pa_nil)))
      (pss_cons (ps_for PassesOwn.never rfl (pi_list (pv 1)) (oc_pg_tup (K := K) (n := 2) rfl rfl (pgs_cons (pg_name (i := 3) sc_grouped.nd rfl (Or.inl rfl)) (pgs_cons (pg_name (i := 4) sc_grouped.nd rfl (Or.inl rfl)) pgs_nil)))
      (pss_one (ps_expr (pe_bm PySem.F.plainAttrs_list PySem.F.slot_list_append PySem.F.type_list_append v_appendI (pe_ix (v_ix (K := K) rfl) (pv 2) (pv 3) (fun _ _ => rfl)) (pa_cons (pv 4) pa_nil)))))
      (pss_one (ps_ret (pv 2))))), st_2_4 rfl ?_⟩
  fail "go"
  rename_i D H1 S1
  refine oc_lcR (n := n.toNat) (fun i H => ∃ rs : List RowL, rs.length = i ∧ (∀ r ∈ rs, r.2 = []) ∧ Sts H (pto D (.lst (rs.map fun q => V.ref q.1)) :: rowc rs :: im τ :: pto a (.lst (ts.map V.ref)) :: F)) ⟨[], rfl, (fun _ h => nomatch h), (rowc_nil S1).swap⟩ ?_ ?_
  · rintro i H hi ⟨rs, hrl, hre, S⟩
    fail "go"
    rename_i r H2 S2
    fail "lce"
    rename_i H3 S3
    refine ⟨rs ++ [(r, [])], by rw [List.length_append, hrl]; rfl, fun x hx => ?_, ?_⟩
    · rcases List.mem_append.mp hx with hx | hx
      · exact hre x hx
      · rw [List.mem_singleton.mp hx]
    · rw [List.map_append]
      have S4 : Sts H3 (pto r (.lst (List.map V.int [])) :: rowc rs :: pto D (.lst ((rs.map fun q => V.ref q.1) ++ [.ref r])) :: im τ :: pto a (.lst (ts.map V.ref)) :: F) := by fail "fp"
      exact (rowc_add S4).swap
  rintro H ⟨rs0, hrl, hre, S⟩
  fail "go"
  refine for_prs (K := K) hp (fun i σ H => ∃ (rs : List RowL) (x3 x4 : Option V), σ = [some (.int n), some (.ref a), some (.ref D), x3, x4, none] ∧ rs.map (·.2) = groupOf n (qs.take i) ∧ Sts H (pto D (.lst (rs.map fun q => V.ref q.1)) :: rowc rs :: im τ :: pto a (.lst (ts.map V.ref)) :: F)) ⟨rs0, none, none, rfl, ?_, S⟩ (fun i σ H ⟨_, _, _, _, _, S⟩ => by fail "sq") ?_ ?_
  · rw [List.take_zero, groupOf_nil]
    refine List.eq_replicate_iff.mpr ⟨by rw [List.length_map, hrl], fun l hm => ?_⟩
    obtain ⟨r, hr, e⟩ := List.mem_map.mp hm
    rw [← e, hre r hr]
  · rintro i t p σ H hi ht ⟨rs, x3, x4, rfl, hrs, S⟩
    have hpm : p ∈ qs := List.mem_of_getElem? hi
    have hb := hq p hpm
    have hlen : rs.length = n.toNat := by
      have z := congrArg List.length hrs
      rwa [List.length_map, groupOf_len] at z
    have hx : p.1.toNat < rs.length := by omega
    obtain ⟨⟨r, l⟩, hrl⟩ : ∃ x, rs[p.1.toNat]? = some x := ⟨_, List.getElem?_eq_getElem hx⟩
    have S2 := rowc_take (Sts.swap S) hrl
    have hll : l.length ≤ 100000 := by
      have z : (groupOf n (qs.take i))[p.1.toNat]? = some l := by rw [← hrs, List.getElem?_map, hrl]; rfl
      rw [groupOf_get _ _ (by omega)] at z
      rw [← Option.some.inj z, List.length_map]
      refine Nat.le_trans (List.length_filter_le _ _) ?_
      rw [List.length_take]
      omega
    fail "go"
    refine g_ix (K := K) (i := p.1) (v := .ref r) (by fail "sq") (atI_of hb.1 (by rw [List.getElem?_map, hrl]; rfl)) ?_
    fail "go"
    rename_i H5 S5
    refine ⟨rs.set p.1.toNat (r, l ++ [p.2]), _, _, rfl, ?_, ?_⟩
    · have z : (groupOf n (qs.take i))[p.1.toNat]? = some l := by rw [← hrs, List.getElem?_map, hrl]; rfl
      rw [List.take_add_one, hi]
      show _ = groupOf n (qs.take i ++ [p])
      rw [groupOf_snoc n _ p hb.1 z, List.map_set, hrs]
    · rw [set_fst hrl]
      exact (rowc_put hx (by fail "fp")).swap
  · rintro σ H ⟨rs, x3, x4, rfl, hrs, S⟩
    rw [List.take_length] at hrs
    fail "go"
    exact q D rs H hrs S
local macro_rules | `(tactic| fail "gs") => `(tactic| ((with_reducible show K07.spGrouped _ _ _ _); refine ⟨_, _, _, _, _, _, rfl, Oc.pr (by fail "fr2"), Oc.pr (by assumption), Oc.pr ⟨by omega, by omega⟩, Oc.pr (by fail "side"), Oc.pr (by assumption), fun oR ors oh oe os => ?_⟩))
theorem keys_pt (l : List Oc.PI2) : (l.map fun p => (p, true)).map (·.1) = l := by
  rw [List.map_map]
  exact (List.map_congr_left fun p _ => rfl).trans (List.map_id l)
/-- a web: n pages, the pointers ps as they were handed in -/
structure webc (τ : Tmap) (cW p : Addr) (n : Int) (ps : List Oc.PI2) (h : Hp) : Prop where
  ex : ∃ (x : Addr × Addr × Addr × Addr × Addr × List Addr × List RowL × List RowL), Prs τ x.2.2.2.2.2.1 (srt ps) ∧ x.2.2.2.2.2.2.1.map (·.2) = groupOf n ((srt ps).map flip) ∧ x.2.2.2.2.2.2.2.map (·.2) = groupOf n (srt ps) ∧
    St h [pto p (.ins cW x.1 [("pages", .int n), ("_known", .ref x.2.1), ("_arrows", .ref x.2.2.1), ("_holders", .ref x.2.2.2.1), ("_targets", .ref x.2.2.2.2.1)]), pto x.1 (.own p), pto x.2.1 (.dT (dT V.bl (ps.map fun p => (p, true)))), pto x.2.2.1 (.lst (x.2.2.2.2.2.1.map V.ref)),
      pto x.2.2.2.1 (.lst (x.2.2.2.2.2.2.1.map fun q => V.ref q.1)), pto x.2.2.2.2.1 (.lst (x.2.2.2.2.2.2.2.map fun q => V.ref q.1)), rowc x.2.2.2.2.2.2.1, rowc x.2.2.2.2.2.2.2]
theorem webc_close {τ : Tmap} {cW p dx kd ar ho ta : Addr} {n : Int} {ps : List Oc.PI2} {as : List Addr} {hl tl : List RowL} {L : List Asr} {H : Hp} (h1 : Prs τ as (srt ps)) (h2 : hl.map (·.2) = groupOf n ((srt ps).map flip)) (h3 : tl.map (·.2) = groupOf n (srt ps))
    (S : Sts H (pto p (.ins cW dx [("pages", .int n), ("_known", .ref kd), ("_arrows", .ref ar), ("_holders", .ref ho), ("_targets", .ref ta)]) :: pto dx (.own p) :: pto kd (.dT (dT V.bl (ps.map fun p => (p, true)))) :: pto ar (.lst (as.map V.ref)) :: pto ho (.lst (hl.map fun q => V.ref q.1)) :: pto ta (.lst (tl.map fun q => V.ref q.1)) :: rowc hl :: rowc tl :: L)) : Sts H (webc τ cW p n ps :: L) :=
  Sts.cls (M := [_, _, _, _, _, _, _, _]) S fun h a => ⟨⟨(dx, kd, ar, ho, ta, as, hl, tl), h1, h2, h3, a⟩⟩
theorem webc_open {τ : Tmap} {cW p : Addr} {n : Int} {ps : List Oc.PI2} {L : List Asr} {H : Hp} (S : Sts H (webc τ cW p n ps :: L)) : ∃ (dx kd ar ho ta : Addr) (as : List Addr) (hl tl : List RowL), Prs τ as (srt ps) ∧ hl.map (·.2) = groupOf n ((srt ps).map flip) ∧ tl.map (·.2) = groupOf n (srt ps) ∧
    Sts H (pto p (.ins cW dx [("pages", .int n), ("_known", .ref kd), ("_arrows", .ref ar), ("_holders", .ref ho), ("_targets", .ref ta)]) :: pto dx (.own p) :: pto kd (.dT (dT V.bl (ps.map fun p => (p, true)))) :: pto ar (.lst (as.map V.ref)) :: pto ho (.lst (hl.map fun q => V.ref q.1)) :: pto ta (.lst (tl.map fun q => V.ref q.1)) :: rowc hl :: rowc tl :: L) := by
  obtain ⟨⟨h, s, ⟨⟨⟨dx, kd, ar, ho, ta, as, hl, tl⟩, h1, h2, h3, a⟩⟩, T⟩, tk⟩ := S
  refine ⟨dx, kd, ar, ho, ta, as, hl, tl, h1, h2, h3, ⟨St.join a s T, fun τ hm => ?_⟩⟩
  refine tk τ (List.mem_cons_of_mem _ ?_)
  simpa using hm
def spWebInit (cW : Addr) : Sp := fun vs H Q _ => ∃ (p dx a : Addr) (n : Int) (τ : Tmap) (ts : List Addr) (ps : List Oc.PI2) (F : List Asr), vs = [.ref p, .int n, .ref a] ∧ Sts H (pto p (.ins cW dx []) :: pto dx (.own p) :: im τ :: pto a (.lst (ts.map V.ref)) :: F) ∧ Prs τ ts ps ∧ Ok n ps ∧ (0 ≤ n ∧ n ≤ 100000) ∧ ps.length ≤ 100000 ∧
  ∀ υ H', Le τ υ → Sts H' (webc υ cW p n ps :: im υ :: pto a (.lst (ts.map V.ref)) :: F) → Q .non H'
theorem ok_Web_init (T : Txt P K mg) : FnOk P w K mg base CX0 2 T.f_Web_init T.fd_Web_init ["self", "pages", "pointers"] (spWebInit T.c_Web) := by
  refine T.F_Web_init.ok sc_Web_init (fun vs H Q E h => by obtain ⟨p, dx, a, n, τ, ts, ps, F, rfl, _⟩ := h; rfl) (fun cdv A outer s H vs Q E hr h => ?_)
  obtain ⟨p, dx, a, n, τ, ts, ps, F, rfl, S, hp, ⟨hnd, hok⟩, hn, hl, q⟩ := h
  refine ⟨_, (pss_cons (ps_set (i := 3) sc_Web_init.nd rfl (Or.inl rfl) pe_dnewT)
      (pss_cons (ps_for PassesOwn.never rfl (pi_enum rfl T.z_enumerate (pa_cons (pv 2) pa_nil)) (oc_pg_tup (K := K) (n := 2) rfl rfl (pgs_cons (pg_name (i := 4) sc_Web_init.nd rfl (Or.inl rfl)) (pgs_cons (oc_pg_tup (K := K) (n := 2) rfl rfl (pgs_cons (pg_name (i := 5) sc_Web_init.nd rfl (Or.inl rfl)) (pgs_cons (pg_name (i := 6) sc_Web_init.nd rfl (Or.inl rfl)) pgs_nil))) pgs_nil)))
      (pss_cons (ps_set (i := 7) sc_Web_init.nd rfl (Or.inl rfl) (pe_or (pe_cmpR op_lt (pe_callB (v_min2 rfl) (by rfl) T.z_min PyProof.Rows.boot_min (pa_cons (pv 5) (pa_cons (pv 6) pa_nil))) pe_int (nomark _)) (pe_one (pe_cmpR op_ge (pe_callB (v_max2 rfl) (by rfl) T.z_max PyProof.Rows.boot_max (pa_cons (pv 5) (pa_cons (pv 6) pa_nil))) (pv 1) (nomark _)))))
      (pss_cons (ps_if (PW.pt (pw_or (pt_val (pv 7)) (pw_or (pt_cmpR op_eq (pv 5) (pv 6) (nomark _)) (pw_or1 (pt_cmp (pc_din (hu_of hr) (pe_tup (pa_cons (pv 5) (pa_cons (pv 6) pa_nil))) (pv 3)))))))
      (pss_one ps_never)
      pss_nil)
      (pss_one (ps_asg pe_bl (pg_sub (pv 3) (pe_tup (pa_cons (pv 5) (pa_cons (pv 6) pa_nil))) (v_setT V.bl (hu_of hr))))))))
      (pss_cons (ps_set (i := 8) sc_Web_init.nd rfl (Or.inl rfl) (pe_callB (v_sortDT rfl) (by rfl) T.z_sorted PyProof.Rows.boot_sorted (pa_cons (pv 3) pa_nil)))
      (pss_cons (oc_fldset T.cl_Web T.n_Web_pages (pv 0) (pv 1))
      (pss_cons (oc_fldset T.cl_Web T.n_Web__known (pv 0) (pv 3))
      (pss_cons (oc_fldset T.cl_Web T.n_Web__arrows (pv 0) (pv 8))
      (pss_cons (oc_fldset T.cl_Web T.n_Web__holders (pv 0) (v_call (ok_grouped T) (hr.mono (by decide)) (by rfl) T.g_grouped T.F_grouped.kp T.b_grouped (pa_cons (pv 1) (pa_cons (pe_lc (own := [("holder", 5), ("target", 6)]) (tt := tYes) rfl sc_Web_init.nd (pi_list (pv 8)) (blkOk_by (own := [("holder", 5), ("target", 6)]) (N := ["self", "pages", "pointers", "known", "index", "holder", "target", "outside", "arrows"]) (sc := defScope s_Web_init) (by decide +kernel)) (fun _ _ _ _ _ => (oc_pg_tup (K := K) (n := 2) rfl rfl (pgs_cons (pg_name (i := 5) sc_Web_init.nd rfl (Or.inl rfl)) (pgs_cons (pg_name (i := 6) sc_Web_init.nd rfl (Or.inl rfl)) pgs_nil)))) (fun _ _ _ _ _ => pts_nil) (fun _ _ _ _ _ => (pe_tup (pa_cons (pv 6) (pa_cons (pv 5) pa_nil))))) pa_nil))))
      (pss_one (oc_fldset T.cl_Web T.n_Web__targets (pv 0) (v_call (ok_grouped T) (hr.mono (by decide)) (by rfl) T.g_grouped T.F_grouped.kp T.b_grouped (pa_cons (pv 1) (pa_cons (pv 8) pa_nil)))))))))))), st_3_6 rfl ?_⟩
  fail "go"
  rename_i kd H1 S1
  refine for_enumP (K := K) hp (fun i σ H => ∃ (υ : Tmap) (x4 x5 x6 x7 : Option V), σ = [some (.ref p), some (.int n), some (.ref a), some (.ref kd), x4, x5, x6, x7, none] ∧ Sts H (pto kd (.dT (dT V.bl ((ps.take i).map fun p => (p, true)))) :: im υ :: pto p (.ins T.c_Web dx []) :: pto dx (.own p) :: pto a (.lst (ts.map V.ref)) :: F) ∧ Le τ υ) ⟨τ, none, none, none, none, rfl, by fail "fp", Le.refl τ⟩ (fun i σ H ⟨_, _, _, _, _, _, S, _⟩ => by fail "sq") ?_ ?_
  · rintro i t q0 σ H U hi ht ⟨υ, x4, x5, x6, x7, rfl, S, hle⟩ np
    obtain ⟨hb0, hb1, hb2, hb3, hb4⟩ := hok q0 (List.mem_of_getElem? hi)
    obtain ⟨φ, l1, e1, S2⟩ := (show Sts H (im υ :: pto kd (.dT (dT V.bl ((ps.take i).map fun p => (p, true)))) :: pto p (.ins T.c_Web dx []) :: pto dx (.own p) :: pto a (.lst (ts.map V.ref)) :: F) by fail "fp").newT [.int (i : Nat), .ref t] np
    have ht2 : φ t = some (pV q0) := l1 _ _ (hle _ _ ht)
    fail "gd"
    have hnm : ¬ (q0.1, q0.2) ∈ ((ps.take i).map fun p => (p, true)).map (·.1) := by
      rw [keys_pt]
      intro hm
      obtain ⟨j, hj, e⟩ := List.getElem_of_mem hm
      rw [List.length_take] at hj
      have hil : i < ps.length := (List.getElem?_eq_some_iff.mp hi).1
      have e2 : ps[j]? = some q0 := by
        rw [List.getElem_take] at e
        rw [List.getElem?_eq_getElem (by omega), e]
      have z := (List.getElem?_inj (by omega) hnd).mp (e2.trans hi.symm)
      omega
    refine ifF (decide_eq_false hnm) ?_
    fail "go"
    rename_i H9 S9
    rw [putT_new hnm] at S9
    exact ⟨_, _, _, _, _, rfl, by (rw [List.take_add_one, hi, List.map_append]; fail "fp"), by fail "le"⟩
  · rintro σ H ⟨υ, x4, x5, x6, x7, rfl, S, hle⟩
    rw [List.take_length] at S
    fail "go"
    refine g_sortDT (by fail "hp") (fun us hus => ?_)
    rw [keys_pt] at hus
    obtain ⟨φ, l2, hus2, S2⟩ := (show Sts H (im υ :: pto kd (.dT (dT V.bl (ps.map fun p => (p, true)))) :: pto p (.ins T.c_Web dx []) :: pto dx (.own p) :: pto a (.lst (ts.map V.ref)) :: F) by fail "fp").learnL hus
    clear S
    have hok2 : ∀ q ∈ srt ps, 0 ≤ q.1 ∧ q.1 < n := fun q hq => ⟨(hok q (srt_mem.mp hq)).1, (hok q (srt_mem.mp hq)).2.1⟩
    have hok3 : ∀ q ∈ (srt ps).map flip, 0 ≤ q.1 ∧ q.1 < n := fun q hq => by
      obtain ⟨r, hr, rfl⟩ := List.mem_map.mp hq
      have := hok r (srt_mem.mp hr)
      exact ⟨this.2.2.1, this.2.2.2.1⟩
    have hln : (srt ps).length ≤ 100000 := by rw [srt_len]; exact hl
    fail "go"
    rename_i ar H7 S7 H71 S71 H72 S72 H73 S73 D H8 S8
    refine lc_prs (K := K) hus2 (fun i H => ∃ (ψ : Tmap) (bs : List Addr), Sts H (pto D (.lst (bs.map V.ref)) :: im ψ :: pto p (.ins T.c_Web dx [("pages", .int n), ("_known", .ref kd), ("_arrows", .ref ar)]) :: pto ar (.lst (us.map V.ref)) :: pto kd (.dT (dT V.bl (ps.map fun p => (p, true)))) :: pto dx (.own p) :: pto a (.lst (ts.map V.ref)) :: F) ∧ Le φ ψ ∧ Prs ψ bs (((srt ps).take i).map flip)) ⟨φ, [], by fail "fp", Le.refl _, Prs.nil⟩ (fun i H ⟨_, _, S, _, _⟩ => by fail "sq") ?_ ?_
    · rintro i t q0 H hi ht ⟨ψ, bs, S, l3, hbs⟩
      have hbl := hbs.len
      rw [List.length_map, List.length_take] at hbl
      fail "go"
      fail "lce"
      refine ⟨_, bs ++ [_], by rw [List.map_append]; fail "fp", by fail "le", ?_⟩
      rw [List.take_add_one, hi, List.map_append]
      exact (hbs.mono (by fail "le")).snoc (by assumption)
    rintro H ⟨ψ, bs, S, l3, hbs⟩
    rw [List.take_length] at hbs
    have hbl := hbs.len
    rw [List.length_map] at hbl
    have hus3 := hus2.mono l3
    fail "go"
    rename_i ho hl2 H9 eh S9 H91 S91 ta tl2 H10 et S10 H11 S11
    exact q ψ _ (hle.trans (l2.trans l3)) (webc_close (dx := dx) (kd := kd) (ar := ar) (ho := ho) (ta := ta) hus3 eh et (by fail "fp"))

--PART
/-! ### the program: arrows, standings -/
theorem gWeb {τ : Tmap} {cW p : Addr} {n : Int} {ps : List Oc.PI2} {L : List Asr} {H : Hp} (S : Sts H (webc τ cW p n ps :: L)) : Sts H (webc τ cW p n ps :: L) := S
theorem web_is {τ : Tmap} {cW p : Addr} {n : Int} {ps : List Oc.PI2} {L : List Asr} {H : Hp} {m : Str} (S : Sts H (webc τ cW p n ps :: L)) (h : (["pages", "_known", "_arrows", "_holders", "_targets"] : List Str).contains m = false) : IsIns cW m H p := by
  obtain ⟨dx, kd, ar, ho, ta, as, hl, tl, _, _, _, S⟩ := webc_open S
  refine ⟨dx, _, S.hd, ?_⟩
  simp only [List.contains_cons, List.contains_nil, Bool.or_false, Bool.or_eq_false_iff] at h
  obtain ⟨h1, h2, h3, h4, h5⟩ := h
  simp only [List.lookup, h1, h2, h3, h4, h5]
theorem web_pages {τ : Tmap} {cW p : Addr} {n : Int} {ps : List Oc.PI2} {L : List Asr} {H : Hp} (S : Sts H (webc τ cW p n ps :: L)) : FldAt cW "pages" H p (.int n) := by
  obtain ⟨dx, kd, ar, ho, ta, as, hl, tl, _, _, _, S⟩ := webc_open S
  exact fldAt_of S rfl
local macro_rules | `(tactic| fail "fld") => `(tactic| exact K07.web_pages (by fail "fr1"))
local macro_rules | `(tactic| fail "ins") => `(tactic| exact K07.web_is (by fail "fr1") (by decide +kernel))
def spArrows (cW : Addr) : Sp := fun vs H Q _ => ∃ (p : Addr) (n : Int) (τ0 τ : Tmap) (ps : List Oc.PI2) (F : List Asr), vs = [.ref p] ∧ Sts H (webc τ0 cW p n ps :: im τ :: F) ∧ Le τ0 τ ∧ ∀ (a : Addr) (ts : List Addr) H', Prs τ ts (srt ps) → Sts H' (pto a (.lst (ts.map V.ref)) :: webc τ0 cW p n ps :: im τ :: F) → Q (.ref a) H'
theorem ok_Web_arrows (T : Txt P K mg) : FnOk P w K mg base CX0 1 T.f_Web_arrows T.fd_Web_arrows ["self"] (spArrows T.c_Web) := by
  refine T.F_Web_arrows.ok sc_Web_arrows (fun vs H Q E h => by obtain ⟨p, n, τ0, τ, ps, F, rfl, _⟩ := h; rfl) (fun cdv A outer s H vs Q E hr h => ?_)
  obtain ⟨p, n, τ0, τ, ps, F, rfl, S, hle, q⟩ := h
  refine ⟨_, (pss_one (ps_ret (pe_callTy (v_list (K := K) rfl) (by rfl) T.z_list PyProof.Rows.boot_list (pa_cons (oc_fld T.cl_Web T.n_Web__arrows (pv 0)) pa_nil)))), st_1_0 rfl ?_⟩
  obtain ⟨dx, kd, ar, ho, ta, as, hl, tl, h1, h2, h3, S⟩ := webc_open S
  fail "go"
  rename_i a H1 S1
  exact q a as _ (h1.mono hle) (Sts.under (fun K T => webc_close (dx := dx) (kd := kd) (ar := ar) (ho := ho) (ta := ta) h1 h2 h3 T) (by fail "fp"))
theorem gWebI {τ υ : Tmap} {cW p : Addr} {n : Int} {ps : List Oc.PI2} {L : List Asr} {H : Hp} (S : Sts H (webc τ cW p n ps :: im υ :: L)) : Sts H (webc τ cW p n ps :: im υ :: L) := S
local macro_rules | `(tactic| fail "gs") => `(tactic| ((with_reducible show K07.spArrows _ _ _ _ _); refine ⟨_, _, _, _, _, _, rfl, K07.gWebI (by fail "fr2"), Oc.pr (by fail "le"), fun oa ots oh oe os => ?_⟩))
/-- a standing -/
structure stnc (cS p w : Addr) (k : Int) (bl : List Int) (h : Hp) : Prop where
  ex : ∃ (x : Addr × Addr), St h [pto p (.ins cS x.1 [("web", .ref w), ("lines", .int k), ("_blank", .ref x.2)]), pto x.1 (.own p), pto x.2 (.lst (bl.map V.int))]
theorem stnc_open {cS p w : Addr} {k : Int} {bl : List Int} {L : List Asr} {H : Hp} (S : Sts H (stnc cS p w k bl :: L)) : ∃ dx b, Sts H (pto p (.ins cS dx [("web", .ref w), ("lines", .int k), ("_blank", .ref b)]) :: pto dx (.own p) :: pto b (.lst (bl.map V.int)) :: L) := by
  obtain ⟨⟨dx, b⟩, S⟩ := S.opn (f := fun x : Addr × Addr => [pto p (.ins cS x.1 [("web", .ref w), ("lines", .int k), ("_blank", .ref x.2)]), pto x.1 (.own p), pto x.2 (.lst (bl.map V.int))]) (fun h a => a.ex) (fun x τ h => by simp at h)
  exact ⟨dx, b, S⟩
theorem stnc_close {cS p w dx b : Addr} {k : Int} {bl : List Int} {L : List Asr} {H : Hp} (S : Sts H (pto p (.ins cS dx [("web", .ref w), ("lines", .int k), ("_blank", .ref b)]) :: pto dx (.own p) :: pto b (.lst (bl.map V.int)) :: L)) : Sts H (stnc cS p w k bl :: L) :=
  Sts.cls (M := [_, _, _]) S fun h a => ⟨⟨(dx, b), a⟩⟩
theorem stnc_web {cS p w : Addr} {k : Int} {bl : List Int} {L : List Asr} {H : Hp} (S : Sts H (stnc cS p w k bl :: L)) : FldAt cS "web" H p (.ref w) := by
  obtain ⟨dx, b, S⟩ := stnc_open S
  exact fldAt_of S rfl
theorem stnc_is {cS p w : Addr} {k : Int} {bl : List Int} {L : List Asr} {H : Hp} {m : Str} (S : Sts H (stnc cS p w k bl :: L)) (h : (["web", "lines", "_blank"] : List Str).contains m = false) : IsIns cS m H p := by
  obtain ⟨dx, b, S⟩ := stnc_open S
  refine ⟨dx, _, S.hd, ?_⟩
  simp only [List.contains_cons, List.contains_nil, Bool.or_false, Bool.or_eq_false_iff] at h
  obtain ⟨h1, h2, h3⟩ := h
  simp only [List.lookup, h1, h2, h3]
local macro_rules | `(tactic| fail "fld") => `(tactic| exact K07.stnc_web (by fail "fr1"))
local macro_rules | `(tactic| fail "ins") => `(tactic| exact K07.stnc_is (by fail "fr1") (by decide +kernel))
def spStInit (cS cW : Addr) : Sp := fun vs H Q _ => ∃ (p dx w a : Addr) (n k : Int) (τ : Tmap) (ps : List Oc.PI2) (bl : List Int) (F : List Asr), vs = [.ref p, .ref w, .int k, .ref a] ∧ Sts H (pto p (.ins cS dx []) :: pto dx (.own p) :: webc τ cW w n ps :: pto a (.lst (bl.map V.int)) :: F) ∧
  (bl.length : Int) = n ∧ (∀ x ∈ bl, 0 ≤ x ∧ x ≤ k) ∧ ∀ H', Sts H' (stnc cS p w k bl :: webc τ cW w n ps :: pto a (.lst (bl.map V.int)) :: F) → Q .non H'
theorem ok_Standing_init (T : Txt P K mg) : FnOk P w K mg base CX0 1 T.f_Standing_init T.fd_Standing_init ["self", "web", "lines", "blank"] (spStInit T.c_Standing T.c_Web) := by
  refine T.F_Standing_init.ok sc_Standing_init (fun vs H Q E h => by obtain ⟨p, dx, w, a, n, k, τ, ps, bl, F, rfl, _⟩ := h; rfl) (fun cdv A outer s H vs Q E hr h => ?_)
  obtain ⟨p, dx, w, a, n, k, τ, ps, bl, F, rfl, S, hn, hb, q⟩ := h
  refine ⟨_, (pss_cons (ps_if (pt_cmpR op_ne (pe_callB (v_lenI (K := K) rfl) (by rfl) T.z_len PySem.boot_len (pa_cons (pv 3) pa_nil)) (oc_fld T.cl_Web T.n_Web_pages (pv 1)) (nomark _))
      (pss_one ps_never)
      pss_nil)
      (pss_cons (ps_for PassesOwn.never rfl (pi_enum rfl T.z_enumerate (pa_cons (pv 3) pa_nil)) (oc_pg_tup (K := K) (n := 2) rfl rfl (pgs_cons (pg_name (i := 4) sc_Standing_init.nd rfl (Or.inl rfl)) (pgs_cons (pg_name (i := 5) sc_Standing_init.nd rfl (Or.inl rfl)) pgs_nil)))
      (pss_one (ps_if (PW.pt (pw_or (pt_cmpR op_lt (pv 5) pe_int (nomark _)) (pw_or1 (pt_cmpR op_gt (pv 5) (pv 2) (nomark _)))))
      (pss_one ps_never)
      pss_nil)))
      (pss_cons (oc_fldset T.cl_Standing T.n_Standing_web (pv 0) (pv 1))
      (pss_cons (oc_fldset T.cl_Standing T.n_Standing_lines (pv 0) (pv 2))
      (pss_one (oc_fldset T.cl_Standing T.n_Standing__blank (pv 0) (pe_callTy (v_list (K := K) rfl) (by rfl) T.z_list PyProof.Rows.boot_list (pa_cons (pv 3) pa_nil)))))))), st_4_2 rfl ?_⟩
  fail "gd"
  refine for_enumI (K := K) bl (fun i σ H => ∃ x4 x5 : Option V, σ = [some (.ref p), some (.ref w), some (.int k), some (.ref a), x4, x5] ∧ Sts H (pto p (.ins T.c_Standing dx []) :: pto dx (.own p) :: webc τ T.c_Web w n ps :: pto a (.lst (bl.map V.int)) :: F)) ⟨none, none, rfl, S⟩ (fun i σ H ⟨_, _, _, S⟩ => by fail "sq") ?_ ?_
  · rintro i x σ H U hi ⟨x4, x5, rfl, S⟩ np
    have hx := hb x (List.mem_of_getElem? hi)
    obtain ⟨φ, _, e1, S2⟩ := S.im0.newT [.int (i : Nat), .int x] np
    fail "gd"
    exact ⟨_, _, rfl, by fail "fp"⟩
  · rintro σ H ⟨x4, x5, rfl, S⟩
    fail "go"
    rename_i b H1 S1 H2 S2
    exact q _ (stnc_close (dx := dx) (b := b) (by fail "fp"))
/-- blanks() -/
def spBlanks (cS : Addr) : Sp := fun vs H Q _ => ∃ (p w : Addr) (k : Int) (bl : List Int) (F : List Asr), vs = [.ref p] ∧ Sts H (stnc cS p w k bl :: F) ∧ ∀ (a : Addr) H', Sts H' (pto a (.lst (bl.map V.int)) :: stnc cS p w k bl :: F) → Q (.ref a) H'
theorem ok_Standing_blanks (T : Txt P K mg) : FnOk P w K mg base CX0 1 T.f_Standing_blanks T.fd_Standing_blanks ["self"] (spBlanks T.c_Standing) := by
  refine T.F_Standing_blanks.ok sc_Standing_blanks (fun vs H Q E h => by obtain ⟨p, w, k, bl, F, rfl, _⟩ := h; rfl) (fun cdv A outer s H vs Q E hr h => ?_)
  obtain ⟨p, w, k, bl, F, rfl, S, q⟩ := h
  refine ⟨_, (pss_one (ps_ret (pe_callTy (v_list (K := K) rfl) (by rfl) T.z_list PyProof.Rows.boot_list (pa_cons (oc_fld T.cl_Standing T.n_Standing__blank (pv 0)) pa_nil)))), st_1_0 rfl ?_⟩
  obtain ⟨dx, b, S⟩ := stnc_open S
  fail "go"
  rename_i a H1 S1
  exact q a _ (Sts.under (fun K T => stnc_close (dx := dx) (b := b) T) (by fail "fp"))
theorem gStn {cS p w : Addr} {k : Int} {bl : List Int} {L : List Asr} {H : Hp} (S : Sts H (stnc cS p w k bl :: L)) : Sts H (stnc cS p w k bl :: L) := S
local macro_rules | `(tactic| fail "gs") => `(tactic| ((with_reducible show K07.spBlanks _ _ _ _ _); refine ⟨_, _, _, _, _, rfl, K07.gStn (by fail "fr1"), fun oa oh os => ?_⟩))

--PART
theorem for_ints {K : PySem.W.Frag} {a : Addr} {g : TG} {tb : TS} {D : Ends} {σ : L2.St} {H : Hp} (ns : List Int) (Pv : Nat → L2.St → Hp → Prop) (h0 : Pv 0 σ H) (hl : ∀ i σ H, Pv i σ H → SqL K H a (ns.map V.int))
    (hs : ∀ i x σ H, ns[i]? = some x → Pv i σ H → g (.int x) σ H fun σ2 H2 => tb { D with nx := Pv (i + 1), ct := Pv (i + 1), bk := D.nx } σ2 H2) (hd : ∀ σ H, Pv ns.length σ H → D.nx σ H) :
    kFor g tb D σ (Itl K a) H := by
  refine for_list (K := K) (a := a) (xs := ns.map V.int) Pv h0 (fun i σ H _ h2 => hl i σ H h2) (fun i x σ H hx h2 => ?_) (fun σ H h => ?_)
  · obtain ⟨n, f1, f2⟩ := at_int hx
    subst f2
    exact hs i n σ H f1 h2
  · rw [List.length_map] at h
    exact hd σ H h

/-! ### pages that are not there -/
def spNoPage (cX : Addr) : Sp := fun vs H Q _ => ∃ (a : Addr) (x : V) (F : List Asr), vs = [.ref a, x] ∧ Sts H (pto a (exo a cX none) :: F) ∧ ∀ d H', Sts H' (pto a (exo a cX (some d)) :: pto d (exd d [("page", x)]) :: F) → Q .non H'
theorem ok_NoPage_init (T : Txt P K mg) : FnOk P w K mg base CX0 1 T.f_NoPage_init T.fd_NoPage_init ["self", "page"] (spNoPage T.c_NoPage) := by
  refine T.X_NoPage_init.ok sc_NoPage_init rfl rfl rfl rfl _ (fun _ _ _ => rfl) (fun _ => rfl) (fun _ => rfl) (fun _ _ _ => rfl) (fun vs H Q E h => by obtain ⟨a, x, F, rfl, _⟩ := h; rfl) (fun cc c A outer s H vs Q E hr h => ?_)
  obtain ⟨a, x, F, rfl, S, q⟩ := h
  refine ⟨a, T.c_NoPage, [x], _, _, rfl, T.su_NoPage, S.hd, (pa_cons pe_str pa_nil), (pss_one (oc_ost1 T.ox_NoPage T.nx_NoPage_page (pv 0) (pv 1))), ?_⟩
  refine ⟨Nat.le_of_ble_eq_true rfl, S.hd, ?_⟩
  fail "go"
  rename_i d H1 S1
  exact q _ _ S1
def spCheck (cX : Addr) : Sp := fun vs H Q E => ∃ (a : Addr) (m : Int) (ns : List Int) (F : List Asr), vs = [.int m, .ref a] ∧ Sts H (pto a (.lst (ns.map V.int)) :: F) ∧
  ((∀ x ∈ ns, 0 ≤ x ∧ x < m) → ∀ H', Sts H' (pto a (.lst (ns.map V.int)) :: F) → Q .non H') ∧
  ∀ (i : Nat) (p : Int), ns[i]? = some p → (∀ (j : Nat) (x : Int), j < i → ns[j]? = some x → 0 ≤ x ∧ x < m) → ¬ (0 ≤ p ∧ p < m) → ∀ d H', Sts H' (pto d (.xd [("page", .int p)]) :: pto a (.lst (ns.map V.int)) :: F) → E (.ref cX) (some d) H'
theorem ok_check_pages (T : Txt P K mg) : FnOk P w K mg base (L2N.CX P w) 3 T.f_check_pages T.fd_check_pages ["pages", "lot"] (spCheck T.c_NoPage) := by
  refine okN T.F_check_pages sc_check_pages (fun vs H Q E h => by obtain ⟨a, m, ns, F, rfl, _⟩ := h; rfl) (fun cdv A outer s H vs Q E hr h => ?_)
  obtain ⟨a, m, ns, F, rfl, S, q1, q2⟩ := h
  refine ⟨_, (pss_one (ps_for PassesOwn.leaving rfl (pi_list (pv 1)) (pg_name (i := 2) sc_check_pages.nd rfl (Or.inl rfl))
      (pss_one (ps_if (PW.pt (pw_or (pt_cmpR op_lt (pv 2) pe_int (nomark _)) (pw_or1 (pt_cmpR op_ge (pv 2) (pv 0) (nomark _)))))
      (pss_one (v_raise rfl (L2N.takes_of rfl rfl rfl rfl) (oc_mkx T.ox_NoPage T.ix_NoPage T.ti_NoPage (ok_NoPage_init T) (hr.mono (by decide)) T.b_NoPage_init .nil pass0 (by rfl) T.gc_NoPage (pa_cons (pv 2) pa_nil))))
      pss_nil)))), st_2_1 rfl ?_⟩
  fail "go"
  refine for_ints (K := K) ns (fun i σ H => ∃ x2 : Option V, σ = [some (.int m), some (.ref a), x2] ∧ (∀ (j : Nat) (x : Int), j < i → ns[j]? = some x → 0 ≤ x ∧ x < m) ∧ Sts H (pto a (.lst (ns.map V.int)) :: F)) ⟨none, rfl, (fun j x h => absurd h (Nat.not_lt_zero j)), S⟩ (fun i σ H ⟨_, _, _, S⟩ => by fail "sq") ?_ ?_
  · rintro i x σ H hi ⟨x2, rfl, hj, S⟩
    have bad : ¬ (0 ≤ x ∧ x < m) → kMkX T.c_NoPage (spNoPage T.c_NoPage) [] E [.int x] H := fun n => by
      refine g_kMkX (Nat.le_of_ble_eq_true rfl) S fun y H' S' => ?_
      exact ⟨y, _, _, rfl, S', fun d H2 S2 => g_kXR S2 fun H3 S3 => q2 i x hi hj n d _ S3⟩
    fail "go"
    with_reducible refine ifB (fun c1 => ?_) (fun c1 => ?_)
    · have c1 := odt c1
      fail "go"
      exact bad (by omega)
    · have c1 := odf c1
      fail "go"
      with_reducible refine ifB (fun c2 => ?_) (fun c2 => ?_)
      · have c2 := odt c2
        fail "go"
        exact bad (by omega)
      · have c2 := odf c2
        fail "go"
        refine ⟨_, rfl, fun j y hj2 hy => ?_, S⟩
        by_cases e : j = i
        · subst e
          rw [hi] at hy
          cases hy
          omega
        · exact hj j y (by omega) hy
  · rintro σ H ⟨x2, rfl, hj, S⟩
    fail "go"
    exact q1 (fun x hx => by
      obtain ⟨j, hj2⟩ := List.getElem?_of_mem hx
      exact hj j x (List.getElem?_eq_some_iff.mp hj2).1 hj2) _ S
def spBlankOf (cS cW cX : Addr) : Sp := fun vs H Q E => ∃ (p w : Addr) (x n k : Int) (τ0 : Tmap) (ps : List Oc.PI2) (bl : List Int) (F : List Asr), vs = [.ref p, .int x] ∧ Sts H (stnc cS p w k bl :: webc τ0 cW w n ps :: F) ∧ (bl.length : Int) = n ∧
  ((0 ≤ x ∧ x < n) → ∀ H', Sts H' (stnc cS p w k bl :: webc τ0 cW w n ps :: F) → Q (.int (gI bl x)) H') ∧
  (¬ (0 ≤ x ∧ x < n) → ∀ d H', Sts H' (pto d (.xd [("page", .int x)]) :: stnc cS p w k bl :: webc τ0 cW w n ps :: F) → E (.ref cX) (some d) H')
theorem ok_Standing_blank_of (T : Txt P K mg) : FnOk P w K mg base (L2N.CX P w) 4 T.f_Standing_blank_of T.fd_Standing_blank_of ["self", "page"] (spBlankOf T.c_Standing T.c_Web T.c_NoPage) := by
  refine okN T.F_Standing_blank_of sc_Standing_blank_of (fun vs H Q E h => by obtain ⟨p, w, x, n, k, τ0, ps, bl, F, rfl, _⟩ := h; rfl) (fun cdv A outer s H vs Q E hr h => ?_)
  obtain ⟨p, w, x, n, k, τ0, ps, bl, F, rfl, S, hn, q1, q2⟩ := h
  refine ⟨_, (pss_cons (ps_expr (pe_callS (CX := L2N.CX _ _) (E := fun _ => E) (ok_check_pages T) (hr.mono (by decide)) (by rfl) T.g_check_pages T.F_check_pages.kp T.b_check_pages (fun σ => L2N.passAt (W := fun cls d _ H => E cls d H) (L2N.takes_of rfl rfl rfl rfl) σ) (pa_cons (oc_fld T.cl_Web T.n_Web_pages (oc_fld T.cl_Standing T.n_Standing_web (pv 0))) (pa_cons (pe_lst (pa_cons (pv 1) pa_nil)) pa_nil))))
      (pss_one (ps_ret (pe_ix (v_ixI (K := K) rfl) (oc_fld T.cl_Standing T.n_Standing__blank (pv 0)) (pv 1) (fun _ _ => rfl))))), st_2_0 rfl ?_⟩
  fail "go"
  rename_i a H1 S1
  refine ⟨a, n, [x], _, rfl, S1, fun hx H2 S2 => ?_, fun i y hi hj hb d H2 S2 => ?_⟩
  · have hx := hx x List.mem_cons_self
    obtain ⟨dx, b, S3⟩ := stnc_open (show Sts H2 (stnc T.c_Standing p w k bl :: webc τ0 T.c_Web w n ps :: F) by fail "fp")
    clear S1 S2
    fail "go"
    exact q1 hx _ (stnc_close S3)
  · have e : i = 0 := by
      have := (List.getElem?_eq_some_iff.mp hi).1
      simpa using this
    subst e
    cases hi
    exact q2 hb d _ (by fail "fp")
theorem gStWb {cS cW p w : Addr} {n k : Int} {τ0 : Tmap} {ps : List Oc.PI2} {bl : List Int} {L : List Asr} {H : Hp} (S : Sts H (stnc cS p w k bl :: webc τ0 cW w n ps :: L)) : Sts H (stnc cS p w k bl :: webc τ0 cW w n ps :: L) := S

--PART
/-! ### errors with a lot; the deal -/
theorem whole_at {R H : Hp} {M : List Asr} {b : Addr} {xs : List V} (S : Sts H (whole R :: M)) (h : R b = some (.lst xs)) : H b = some (.lst xs) := by
  obtain ⟨⟨k, s, e, _⟩, _⟩ := S
  have e : k = noT R := e
  subst e
  exact noT_sub H _ _ (s _ _ (noT_some.mpr ⟨rfl, h⟩))
def spLotX (cX : Addr) : Sp := fun vs H Q _ => ∃ (a b : Addr) (z : Str) (L : List Int) (F : List Asr), vs = [.ref a, .ref b, .str z] ∧ Sts H (pto a (exo a cX none) :: F) ∧ H b = some (.lst (L.map V.int)) ∧ ∀ d l H', Sts H' (pto a (exo a cX (some d)) :: pto d (exd d [("lot", .ref l)]) :: pto l (.lst (L.map V.int)) :: F) → Q .non H'
theorem ok_LotError_init (T : Txt P K mg) : FnOk P w K mg base CX0 1 T.f_LotError_init T.fd_LotError_init ["self", "lot", "text"] (spLotX T.c_ShortLot) := by
  refine T.X_LotError_init.ok sc_LotError_init rfl rfl rfl rfl _ (fun _ _ _ => rfl) (fun _ => rfl) (fun _ => rfl) (fun _ _ _ => rfl) (fun vs H Q E h => by obtain ⟨a, b, z, L, F, rfl, _⟩ := h; rfl) (fun cc c A outer s H vs Q E hr h => ?_)
  obtain ⟨a, b, z, L, F, rfl, S, hb, q⟩ := h
  refine ⟨a, T.c_ShortLot, [.ref b, .str z], _, _, rfl, T.su_ShortLot, S.hd, (pa_cons (pv 2) pa_nil), (pss_one (oc_ost1 T.ox_ShortLot T.nx_ShortLot_lot (pv 0) (pe_callTy (v_list (K := K) rfl) (by rfl) T.z_list PyProof.Rows.boot_list (pa_cons (pv 1) pa_nil)))), ?_⟩
  fail "go"
  refine ⟨Nat.le_of_ble_eq_true rfl, S.hd, ?_⟩
  fail "go"
  refine g_list (SqL.of hb) ?_
  fail "go"
  rename_i l H1 S1 d H2 S2
  exact q _ _ _ (by fail "fp")
def spShort (cX : Addr) : Sp := fun vs H Q _ => ∃ (a b : Addr) (L : List Int) (F : List Asr), vs = [.ref a, .ref b] ∧ Sts H (pto a (exo a cX none) :: F) ∧ H b = some (.lst (L.map V.int)) ∧ ∀ d l H', Sts H' (pto a (exo a cX (some d)) :: pto d (exd d [("lot", .ref l)]) :: pto l (.lst (L.map V.int)) :: F) → Q .non H'
theorem ok_ShortLot_init (T : Txt P K mg) : FnOk P w K mg base CX0 2 T.f_ShortLot_init T.fd_ShortLot_init ["self", "lot"] (spShort T.c_ShortLot) := by
  refine T.X_ShortLot_init.okO sc_ShortLot_init rfl rfl rfl rfl _ (fun _ _ _ => rfl) (fun _ => rfl) (fun _ => rfl) (fun _ _ _ => rfl) (fun vs H Q E h => by obtain ⟨a, b, L, F, rfl, _⟩ := h; rfl) (ok_LotError_init T) (by decide) T.b_LotError_init T.si_ShortLot T.st_ShortLot (fun cc c A outer s H vs Q E hr h => ?_)
  obtain ⟨a, b, L, F, rfl, S, hb, q⟩ := h
  refine ⟨a, T.c_ShortLot, [.ref b], _, _, rfl, T.so_ShortLot, S.hd, (pa_cons (pv 1) (pa_cons pe_str pa_nil)), pss_nil, ?_⟩
  fail "go"
  refine ⟨a, b, _, L, F, rfl, S, hb, fun d l H2 S2 => ⟨rfl, ?_⟩⟩
  fail "go"
  exact q d l _ S2
/-- the table of blank lines -/
def kDEn (K : PySem.W.Frag) (Q : VK) : VK := fun x H1 => ∃ (a : Addr) (ns : List Int), x = .ref a ∧ SqL K H1 a (ns.map V.int) ∧ ns.length ≤ 100000 ∧ qNew H1 (.dK (dM V.int (enumP ns))) Q
theorem g_dictEnum {K : PySem.W.Frag} {te : TE} {σ : L2.St} {H : Hp} {Q : VK} (k : te σ H (kDEn K Q)) : tDictEnum K te σ H Q := k
theorem g_kDEn {K : PySem.W.Frag} {H : Hp} {Q : VK} {a : Addr} {ns : List Int} (h : SqL K H a (ns.map V.int)) (l : ns.length ≤ 100000) (k : qNew H (.dK (dM V.int (enumP ns))) Q) : kDEn K Q (.ref a) H := ⟨a, ns, rfl, h, l, k⟩
local macro_rules | `(tactic| fail "gs") => `(tactic| with_reducible refine K07.g_dictEnum ?_)
local macro_rules | `(tactic| fail "gs") => `(tactic| ((with_reducible apply K07.g_kDEn); fail "sq"; fail "side"))
def spBlankT (cS : Addr) : Sp := fun vs H Q _ => ∃ (p w : Addr) (k : Int) (bl : List Int) (F : List Asr), vs = [.ref p] ∧ Sts H (stnc cS p w k bl :: F) ∧ bl.length ≤ 100000 ∧ ∀ (a : Addr) H', Sts H' (pto a (.dK (dM V.int (enumP bl))) :: stnc cS p w k bl :: F) → Q (.ref a) H'
theorem ok_blank_table (T : Txt P K mg) : FnOk P w K mg base CX0 2 T.f_blank_table T.fd_blank_table ["standing"] (spBlankT T.c_Standing) := by
  refine T.F_blank_table.ok sc_blank_table (fun vs H Q E h => by obtain ⟨p, w, k, bl, F, rfl, _⟩ := h; rfl) (fun cdv A outer s H vs Q E hr h => ?_)
  obtain ⟨p, w, k, bl, F, rfl, S, hl, q⟩ := h
  refine ⟨_, (pss_one (ps_ret (oc_dictEnum (K := K) rfl rfl rfl T.z_dict rfl T.z_enumerate (oc_meth0 (pv 0) T.cl_Standing T.me_Standing_blanks (ok_Standing_blanks T) (hr.mono (by decide)) T.b_Standing_blanks)))), st_1_0 rfl ?_⟩
  fail "go"
  rename_i a H1 S1
  exact q a _ (by fail "fp")
local macro_rules | `(tactic| fail "gs") => `(tactic| ((with_reducible show K07.spBlankT _ _ _ _ _); refine ⟨_, _, _, _, _, rfl, K07.gStn (by fail "fr1"), Oc.pr (by fail "side"), fun oa oh os => ?_⟩))
/-- the owners of a standing, or a lot -/
def Dl (m : Int) (bl : List Int) (ps : List Oc.PI2) (ow : OwL) : Prop := Good m ow ∧ (ow.map (·.1)).Perm ps ∧ Fits m bl ow
def Wb1 (m : Int) (ps : List Oc.PI2) (bl : List Int) : Prop := ps.Nodup ∧ (∀ q ∈ ps, OkP m q) ∧ ((bl.length : Int) = m ∧ m ≤ 60) ∧ (∀ x ∈ bl, 0 ≤ x) ∧ ps.length ≤ 90000
def spOwnT (cS cW cX : Addr) : Sp := fun vs H Q E => ∃ (p w : Addr) (n k : Int) (τ0 τ : Tmap) (ps : List Oc.PI2) (bl : List Int) (F : List Asr), vs = [.ref p] ∧ Sts H (stnc cS p w k bl :: webc τ0 cW w n ps :: im τ :: F) ∧ Le τ0 τ ∧ Wb1 n ps bl ∧
  (∀ (d : Addr) (ow : OwL) (υ : Tmap) H', Le τ υ → Dl n bl ps ow → Sts H' (pto d (.dT (dT V.int ow)) :: stnc cS p w k bl :: webc τ0 cW w n ps :: im υ :: F) → Q (.ref d) H') ∧
  ∀ (d l : Addr) (L : List Int) (υ : Tmap) H', Le τ υ → Lot n bl L ps → Sts H' (pto d (.xd [("lot", .ref l)]) :: pto l (.lst (L.map V.int)) :: stnc cS p w k bl :: webc τ0 cW w n ps :: im υ :: F) → E (.ref cX) (some d) H'
theorem ok_owner_table (T : Txt P K mg) : FnOk P w K mg base (L2N.CX P w) 7 T.f_owner_table T.fd_owner_table ["standing"] (spOwnT T.c_Standing T.c_Web T.c_ShortLot) := by
  refine okN T.F_owner_table sc_owner_table (fun vs H Q E h => by obtain ⟨p, w, n, k, τ0, τ, ps, bl, F, rfl, _⟩ := h; rfl) (fun cdv A outer s H vs Q E hr h => ?_)
  obtain ⟨p, w, n, k, τ0, τ, ps, bl, F, rfl, S, hle, ⟨hnd, hok, hbl, hbn, hpl⟩, q1, q2⟩ := h
  refine ⟨_, (pss_cons (ps_asg (v_call (ok_place_all T) (hr.mono (by decide)) (by rfl) T.g_place_all T.F_place_all.kp T.b_place_all (pa_cons (v_call (ok_blank_table T) (hr.mono (by decide)) (by rfl) T.g_blank_table T.F_blank_table.kp T.b_blank_table (pa_cons (pv 0) pa_nil)) (pa_cons (oc_meth0 (oc_fld T.cl_Standing T.n_Standing_web (pv 0)) T.cl_Web T.me_Web_arrows (ok_Web_arrows T) (hr.mono (by decide)) T.b_Web_arrows) pa_nil))) (oc_pg_tup (K := K) (n := 3) rfl rfl (pgs_cons (pg_name (i := 1) sc_owner_table.nd rfl (Or.inl rfl)) (pgs_cons (pg_name (i := 2) sc_owner_table.nd rfl (Or.inl rfl)) (pgs_cons (pg_name (i := 3) sc_owner_table.nd rfl (Or.inl rfl)) pgs_nil)))))
      (pss_cons (ps_if (pt_cmpR v_notN (pv 3) pe_non (nomark _))
      (pss_one (v_raise rfl (L2N.takes_of rfl rfl rfl rfl) (oc_mkx T.ox_ShortLot T.ix_ShortLot T.ti_ShortLot (ok_ShortLot_init T) (hr.mono (by decide)) T.b_ShortLot_init .nil pass0 (by rfl) T.gc_ShortLot (pa_cons (pv 3) pa_nil))))
      pss_nil)
      (pss_one (ps_ret (pv 1))))), st_1_3 rfl ?_⟩
  fail "go"
  rename_i b H1 S1 a ts H2 hts S2
  have hsn : (srt ps).Nodup := (srt_perm ps).nodup_iff.mpr hnd
  have hso : ∀ q ∈ srt ps, OkP n q := fun q hq => hok q (srt_mem.mp hq)
  refine ⟨b, a, n, τ, ts, srt ps, bl, _, rfl, (show Sts H2 (pto a (.lst (ts.map V.ref)) :: pto b (.dK (dM V.int (enumP bl))) :: im τ :: stnc T.c_Standing p w k bl :: webc τ0 T.c_Web w n ps :: F) by fail "fp"), hts, hbl, hbn, hsn, hso, by rw [srt_len]; exact hpl, fun r d e ow υ H3 l1 e1 g1 g2 g3 S3 => ?_, fun r d e l us q qs L ow υ H3 l1 e1 hus g1 g2 g3 g4 S3 => ?_⟩
  · fail "go"
    exact q1 d ow υ _ l1 ⟨g1, g2.trans (srt_perm ps), g3⟩ (by fail "fp")
  · have hL : Lot n bl L ps := by
      refine ⟨g4.1, g4.2.1, Int.lt_of_lt_of_le g4.2.2 (Int.ofNat_le.mpr (ins_sub ?_ fun x hx => srt_mem.mp (g2.mem_iff.mp ?_)))⟩
      · have z := g2.nodup_iff.mpr hsn
        rw [List.append_cons] at z
        exact (List.nodup_append.mp z).1
      · rw [List.append_cons]
        exact List.mem_append_left _ hx
    fail "go"
    refine g_kMkX (Nat.le_of_ble_eq_true rfl) S3 fun x H' S' => ?_
    have hl : H3 l = some (.lst (L.map V.int)) := by fail "hp"
    refine ⟨x, l, L, _, rfl, S', whole_at S'.tail hl, fun d2 l2 H4 S4 => ?_⟩
    refine ⟨rfl, d2, _, [pto l2 (.lst (L.map V.int))], (by fail "fp"), fun H5 S5 => q2 d2 l2 L υ _ l1 hL ?_⟩
    have S6 : Sts H5 (pto l2 (.lst (L.map V.int)) :: pto d2 (.xd [("lot", .ref l2)]) :: pto d (.dT (dT V.int ow)) :: pto e (.lst (us.map V.ref)) :: pto l (.lst (L.map V.int)) :: pto a (.lst (ts.map V.ref)) :: pto b (.dK (dM V.int (enumP bl))) :: im υ :: stnc T.c_Standing p w k bl :: webc τ0 T.c_Web w n ps :: F) := S5.perm (List.perm_append_singleton _ _)
    fail "fp"
/-- owners in the order of the pointers -/
def olist (ow : OwL) (ps : List Oc.PI2) : List Int := ps.map fun q => (getT ow q).getD 0
def spOwnL (cS cW : Addr) : Sp := fun vs H Q _ => ∃ (p w d : Addr) (n k : Int) (τ0 τ : Tmap) (ps : List Oc.PI2) (bl : List Int) (ow : OwL) (F : List Asr), vs = [.ref p, .ref d] ∧ Sts H (pto d (.dT (dT V.int ow)) :: stnc cS p w k bl :: webc τ0 cW w n ps :: im τ :: F) ∧ Le τ0 τ ∧ (∀ q ∈ ps, (getT ow q).isSome = true) ∧ ps.length ≤ 90000 ∧
  ∀ (a : Addr) H', Sts H' (pto a (.lst ((olist ow (srt ps)).map V.int)) :: pto d (.dT (dT V.int ow)) :: stnc cS p w k bl :: webc τ0 cW w n ps :: im τ :: F) → Q (.ref a) H'
theorem ok_owner_list (T : Txt P K mg) : FnOk P w K mg base CX0 2 T.f_owner_list T.fd_owner_list ["standing", "owners"] (spOwnL T.c_Standing T.c_Web) := by
  refine T.F_owner_list.ok sc_owner_list (fun vs H Q E h => by obtain ⟨p, w, d, n, k, τ0, τ, ps, bl, ow, F, rfl, _⟩ := h; rfl) (fun cdv A outer s H vs Q E hr h => ?_)
  obtain ⟨p, w, d, n, k, τ0, τ, ps, bl, ow, F, rfl, S, hle, hin, hpl, q⟩ := h
  refine ⟨_, (pss_one (ps_ret (pe_lc (own := [("pointer", 2)]) (g := gName 2) (tt := tYes) rfl sc_owner_list.nd (pi_list (oc_meth0 (oc_fld T.cl_Standing T.n_Standing_web (pv 0)) T.cl_Web T.me_Web_arrows (ok_Web_arrows T) (hr.mono (by decide)) T.b_Web_arrows)) (blkOk_by (own := [("pointer", 2)]) (N := ["standing", "owners", "pointer"]) (sc := defScope s_owner_list) (by decide +kernel)) (fun _ _ _ _ _ => (pg_name (i := 2) sc_owner_list.nd rfl (Or.inl rfl))) (fun _ _ _ _ _ => pts_nil) (fun _ _ _ _ _ => (pe_dget (hu_of hr) (pv 1) (pv 2) (fun _ _ => rfl)))))), st_2_1 rfl ?_⟩
  fail "go"
  rename_i a ts H1 hts S1 D H2 S2
  refine lc_prs (K := K) hts (fun i H => Sts H (pto D (.lst ((olist ow ((srt ps).take i)).map V.int)) :: pto a (.lst (ts.map V.ref)) :: pto d (.dT (dT V.int ow)) :: stnc T.c_Standing p w k bl :: webc τ0 T.c_Web w n ps :: im τ :: F)) (by fail "fp") (fun i H S => by fail "sq") ?_ ?_
  · rintro i t q0 H hi ht S
    obtain ⟨v, hv⟩ := Option.isSome_iff_exists.mp (hin q0 (srt_mem.mp (List.mem_of_getElem? hi)))
    have hil : i < (srt ps).length := (List.getElem?_eq_some_iff.mp hi).1
    have hol : (olist ow ((srt ps).take i)).length ≤ 90000 := by
      unfold olist
      rw [List.length_map, List.length_take]
      rw [srt_len] at hil
      omega
    fail "go"
    fail "lce"
    have e : olist ow ((srt ps).take (i + 1)) = olist ow ((srt ps).take i) ++ [v] := by
      unfold olist
      rw [List.take_add_one, hi, List.map_append]
      show _ ++ [(getT ow q0).getD 0] = _
      rw [hv]
      rfl
    rw [e, List.map_append]
    fail "fp"
  · rintro H S
    rw [List.take_length] at S
    exact q D _ (by fail "fp")

--PART
/-! ### how many blank lines a page can keep -/
theorem sum_sub2 (f g : Int → Int) : ∀ L : List Int, (L.map f).sum - (L.map g).sum = (L.map fun p => f p - g p).sum
  | [] => rfl
  | p :: L => by
    rw [List.map_cons, List.map_cons, List.map_cons, List.sum_cons, List.sum_cons, List.sum_cons, ← sum_sub2 f g L]
    omega
theorem sum_nn {f : Int → Int} : ∀ {L : List Int}, (∀ p ∈ L, 0 ≤ f p) → 0 ≤ (L.map f).sum
  | [], _ => Int.le_refl _
  | p :: L, h => by
    rw [List.map_cons, List.sum_cons]
    have a := h p List.mem_cons_self
    have b := sum_nn (f := f) fun q hq => h q (List.mem_cons_of_mem _ hq)
    omega
theorem sum_ge {f : Int → Int} {x : Int} : ∀ {L : List Int}, x ∈ L → (∀ p ∈ L, 0 ≤ f p) → f x ≤ (L.map f).sum
  | [], h, _ => nomatch h
  | p :: L, hx, h => by
    rw [List.map_cons, List.sum_cons]
    have a := h p List.mem_cons_self
    have b := sum_nn (f := f) fun q hq => h q (List.mem_cons_of_mem _ hq)
    rcases List.mem_cons.mp hx with e | hx
    · subst e
      omega
    · have c := sum_ge hx fun q hq => h q (List.mem_cons_of_mem _ hq)
      omega
theorem sum_one {f : Int → Int} {x : Int} : ∀ {L : List Int}, L.Nodup → x ∈ L → (∀ p ∈ L, p ≠ x → f p = 0) → (L.map f).sum = f x
  | [], _, h, _ => nomatch h
  | p :: L, n, hx, h => by
    obtain ⟨n1, n2⟩ := List.nodup_cons.mp n
    rw [List.map_cons, List.sum_cons]
    by_cases e : p = x
    · subst e
      have z : (L.map f).sum = 0 := by
        have w : L.map f = L.map fun _ => (0 : Int) := List.map_congr_left fun q hq => h q (List.mem_cons_of_mem _ hq) fun e => n1 (e ▸ hq)
        rw [w]
        have : ∀ L : List Int, (L.map fun _ => (0 : Int)).sum = 0 := fun L => by
          induction L with
          | nil => rfl
          | cons a L ih => rw [List.map_cons, List.sum_cons, ih]; rfl
        exact this L
      omega
    · rcases List.mem_cons.mp hx with e2 | hx
      · exact absurd e2.symm e
      · rw [h p List.mem_cons_self e, sum_one n2 hx fun q hq => h q (List.mem_cons_of_mem _ hq)]
        omega
theorem ins_le {m : Int} {ow : OwL} (g : Good m ow) {L : List Int} (nd : L.Nodup) : (ins (ow.map (·.1)) L : Int) ≤ (L.map fun p => (ocn ow p : Int)).sum := by
  rw [cnt_sum ow nd]
  have b : ins (ow.map (·.1)) L ≤ ow.countP fun e => decide (e.2 ∈ L) := by
    rw [ins_keys]
    refine List.countP_mono_left fun e he hm => decide_eq_true ?_
    obtain ⟨m1, m2⟩ := of_decide_eq_true hm
    rcases g.en e he with z | z <;> rw [z]
    · exact m1
    · exact m2
  omega
theorem ins_ge {m : Int} {ow : OwL} (g : Good m ow) {L : List Int} (nd : L.Nodup) (hc : ∀ p ∈ L, ∀ r ∈ own ow p, oend r p ∈ L) : (L.map fun p => (ocn ow p : Int)).sum ≤ ins (ow.map (·.1)) L := by
  rw [cnt_sum ow nd]
  have b : (ow.countP fun e => decide (e.2 ∈ L)) ≤ ins (ow.map (·.1)) L := by
    rw [ins_keys]
    refine List.countP_mono_left fun e he hm => decide_eq_true ?_
    have hm : e.2 ∈ L := of_decide_eq_true hm
    have ho := hc e.2 hm e.1 (mem_own.mpr he)
    unfold oend at ho
    have ne := g.ne e he
    rcases g.en e he with z | z
    · rw [if_pos z] at ho
      exact ⟨z ▸ hm, ho⟩
    · rw [if_neg (by rw [z]; exact fun w => ne w.symm)] at ho
      exact ⟨ho, z ▸ hm⟩
  omega
theorem ins_perm0 {ks ps : List Oc.PI2} (h : ks.Perm ps) (L : List Int) : ins ks L = ins ps L := h.countP_eq _
theorem slack_val {m x : Int} {ow : OwL} {bl L : List Int} (g : Good m ow) (hf : Fits m bl ow) (nd : L.Nodup) (hr : ∀ p ∈ L, 0 ≤ p ∧ p < m) (hx : x ∈ L) (hb : ∀ p ∈ L, p ≠ x → gI bl p ≤ ocn ow p) (hc : ∀ p ∈ L, ∀ r ∈ own ow p, oend r p ∈ L) : tot bl L - ins (ow.map (·.1)) L = gI bl x - ocn ow x := by
  have a := ins_le g nd
  have b := ins_ge g nd hc
  have c := sum_sub2 (fun p => gI bl p) (fun p => (ocn ow p : Int)) L
  have d := sum_one (f := fun p => gI bl p - (ocn ow p : Int)) nd hx fun p hp ne => by
    have := hb p hp ne
    have := hf p (hr p hp).1 (hr p hp).2
    show gI bl p - (ocn ow p : Int) = 0
    omega
  have d : (L.map fun p => gI bl p - (ocn ow p : Int)).sum = gI bl x - ocn ow x := d
  have e : tot bl L = (L.map fun p => gI bl p).sum := rfl
  omega
theorem slack_le {m x : Int} {ow : OwL} {bl L : List Int} (g : Good m ow) (hf : Fits m bl ow) (nd : L.Nodup) (hr : ∀ p ∈ L, 0 ≤ p ∧ p < m) (hx : x ∈ L) : gI bl x - ocn ow x ≤ tot bl L - ins (ow.map (·.1)) L := by
  have a := ins_le g nd
  have c := sum_sub2 (fun p => gI bl p) (fun p => (ocn ow p : Int)) L
  have d := sum_ge (f := fun p => gI bl p - (ocn ow p : Int)) hx fun p hp => by
    have := hf p (hr p hp).1 (hr p hp).2
    show 0 ≤ gI bl p - (ocn ow p : Int)
    omega
  have d : gI bl x - ocn ow x ≤ (L.map fun p => gI bl p - (ocn ow p : Int)).sum := d
  have e : tot bl L = (L.map fun p => gI bl p).sum := rfl
  omega
def spSlack (cS cW cX cP : Addr) : Sp := fun vs H Q E => ∃ (p w : Addr) (x n k : Int) (τ0 τ : Tmap) (ps : List Oc.PI2) (bl : List Int) (F : List Asr), vs = [.ref p, .int x] ∧ Sts H (stnc cS p w k bl :: webc τ0 cW w n ps :: im τ :: F) ∧ Le τ0 τ ∧ Wb1 n ps bl ∧
  ((0 ≤ x ∧ x < n) → ∀ (r a l : Addr) (L : List Int) (ow : OwL) (υ : Tmap) H', Le τ υ → υ r = some [.int (gI bl x - ocn ow x), .ref a, .ref l] → Dl n bl ps ow → L.Pairwise (· < ·) → x ∈ L → (∀ p ∈ L, 0 ≤ p ∧ p < n) → tot bl L - ins ps L = gI bl x - ocn ow x →
    Sts H' (pto a (.lst ((olist ow (srt ps)).map V.int)) :: pto l (.lst (L.map V.int)) :: stnc cS p w k bl :: webc τ0 cW w n ps :: im υ :: F) → Q (.ref r) H') ∧
  ((0 ≤ x ∧ x < n) → ∀ (d l : Addr) (L : List Int) (υ : Tmap) H', Le τ υ → Lot n bl L ps → Sts H' (pto d (.xd [("lot", .ref l)]) :: pto l (.lst (L.map V.int)) :: stnc cS p w k bl :: webc τ0 cW w n ps :: im υ :: F) → E (.ref cX) (some d) H') ∧
  (¬ (0 ≤ x ∧ x < n) → ∀ d H', Sts H' (pto d (.xd [("page", .int x)]) :: stnc cS p w k bl :: webc τ0 cW w n ps :: im τ :: F) → E (.ref cP) (some d) H')
theorem ok_slack (T : Txt P K mg) : FnOk P w K mg base (L2N.CX P w) 8 T.f_slack T.fd_slack ["standing", "page"] (spSlack T.c_Standing T.c_Web T.c_ShortLot T.c_NoPage) := by
  refine okN T.F_slack sc_slack (fun vs H Q E h => by obtain ⟨p, w, x, n, k, τ0, τ, ps, bl, F, rfl, _⟩ := h; rfl) (fun cdv A outer s H vs Q E hr h => ?_)
  obtain ⟨p, w, x, n, k, τ0, τ, ps, bl, F, rfl, S, hle, hw, q1, q2, q3⟩ := h
  obtain ⟨hnd, hok, ⟨hbl, hm⟩, hbn, hpl⟩ := id hw
  refine ⟨_, (pss_cons (ps_set (i := 2) sc_slack.nd rfl (Or.inl rfl) (L2.pe_meth (CX := L2N.CX _ _) (E := E) (pv 0) T.cl_Standing T.me_Standing_blank_of (ok_Standing_blank_of T) (hr.mono (by decide)) T.b_Standing_blank_of .nil (L2N.passes_call (W := fun cls d _ H => E cls d H) (L2N.takes_of rfl rfl rfl rfl) (fun _ _ _ _ h => h)) (pa_cons (pv 1) pa_nil)))
      (pss_cons (ps_set (i := 3) sc_slack.nd rfl (Or.inl rfl) (pe_callS (CX := L2N.CX _ _) (E := fun _ => E) (ok_owner_table T) (hr.mono (by decide)) (by rfl) T.g_owner_table T.F_owner_table.kp T.b_owner_table (fun σ => L2N.passAt (W := fun cls d _ H => E cls d H) (L2N.takes_of rfl rfl rfl rfl) σ) (pa_cons (pv 0) pa_nil)))
      (pss_cons (ps_set (i := 4) sc_slack.nd rfl (Or.inl rfl) (v_call (ok_blank_table T) (hr.mono (by decide)) (by rfl) T.g_blank_table T.F_blank_table.kp T.b_blank_table (pa_cons (pv 0) pa_nil)))
      (oc_cut (ps_set (i := 5) sc_slack.nd rfl (Or.inl rfl) (v_call (ok_make_room T) (hr.mono (by decide)) (by rfl) T.g_make_room T.F_make_room.kp T.b_make_room (pa_cons (pv 3) (pa_cons (pv 4) (pa_cons (pv 1) pa_nil)))))
      (pss_cons (ps_while PassesOwn.leaving (pt_cmpR v_isN (pv 5) pe_non (nomark _))
      (pss_one (ps_set (i := 5) sc_slack.nd rfl (Or.inl rfl) (v_call (ok_make_room T) (hr.mono (by decide)) (by rfl) T.g_make_room T.F_make_room.kp T.b_make_room (pa_cons (pv 3) (pa_cons (pv 4) (pa_cons (pv 1) pa_nil)))))))
      (pss_one (ps_ret (pe_tup (pa_cons (pe_op op_sub (pv 2) (v_call (ok_owned_count T) (hr.mono (by decide)) (by rfl) T.g_owned_count T.F_owned_count.kp T.b_owned_count (pa_cons (pv 3) (pa_cons (pv 1) pa_nil)))) (pa_cons (v_call (ok_owner_list T) (hr.mono (by decide)) (by rfl) T.g_owner_list T.F_owner_list.kp T.b_owner_list (pa_cons (pv 0) (pa_cons (pv 3) pa_nil))) (pa_cons (pv 5) pa_nil))))))))))), st_2_4 rfl ?_⟩
  obtain ⟨dx0, fs0, hp0, lo0⟩ := stnc_is (m := "blank_of") S (by decide +kernel)
  fail "go"
  refine ⟨.ref p, rfl, p, dx0, fs0, rfl, hp0, lo0, ?_⟩
  fail "go"
  refine ⟨p, w, x, n, k, τ0, ps, bl, _, rfl, S, hbl, fun hx H1 S1 => ?_, q3⟩
  fail "go"
  refine ⟨p, w, n, k, τ0, τ, ps, bl, F, rfl, S1, hle, hw, fun d ow υ H2 l1 hD S2 => ?_, q2 hx⟩
  clear S S1
  fail "go"
  rename_i b H3 S3
  have step : ∀ (ow : OwL) (υ : Tmap) (H : Hp) (QQ : VK), Dl n bl ps ow → Sts H (pto d (.dT (dT V.int ow)) :: pto b (.dK (dM V.int (enumP bl))) :: im υ :: stnc T.c_Standing p w k bl :: webc τ0 T.c_Web w n ps :: F) →
      (∀ (ow' : OwL) (φ : Tmap) H', Le υ φ → Dl n bl ps ow' → ocn ow' x + 1 = ocn ow x → Sts H' (pto d (.dT (dT V.int ow')) :: pto b (.dK (dM V.int (enumP bl))) :: im φ :: stnc T.c_Standing p w k bl :: webc τ0 T.c_Web w n ps :: F) → QQ .non H') →
      (∀ (l : Addr) (L : List Int) (φ : Tmap) H', Le υ φ → L.Pairwise (· < ·) → x ∈ L → (∀ p ∈ L, 0 ≤ p ∧ p < n) → tot bl L - ins ps L = gI bl x - ocn ow x → Sts H' (pto l (.lst (L.map V.int)) :: pto d (.dT (dT V.int ow)) :: pto b (.dK (dM V.int (enumP bl))) :: im φ :: stnc T.c_Standing p w k bl :: webc τ0 T.c_Web w n ps :: F) → QQ (.ref l) H') →
      spRoom [.ref d, .ref b, .int x] H QQ E0 := fun ow υ H QQ hD S k1 k2 => by
    have hol : ow.length ≤ 100000 := by
      have z := hD.2.1.length_eq
      rw [List.length_map] at z
      omega
    refine ⟨d, b, x, n, υ, ow, bl, _, rfl, S, hD.1, ⟨hbl, by omega⟩, hx, hol, fun ow' e φ H' l2 g1 g2 g3 g4 g5 g6 S' => k1 ow' φ H' l2 ⟨g1, by rw [g2]; exact hD.2.1, fun j j0 j1 => ?_⟩ ?_ S', fun l L φ H' l2 g1 g2 g3 g4 g5 S' => k2 l L φ H' l2 g1 g2 g3 ?_ S'⟩
    · have a1 := hD.2.2 j j0 j1
      have a2 := g6 j
      by_cases ej : j = e
      · subst ej
        rw [if_pos rfl, if_neg g3] at a2
        omega
      · rw [if_neg ej] at a2
        omega
    · have a2 := g6 x
      rw [if_pos rfl, if_neg (fun z => g3 z.symm)] at a2
      omega
    · rw [← ins_perm0 hD.2.1]
      exact slack_val hD.1 hD.2.2 (g1.imp fun h e => by omega) g3 g2 g4 g5
  let G : Int → V → OwL → Tmap → Hp → Prop := fun μ v ow υ H => (v = .non ∧ μ = ocn ow x + 1 ∧ Sts H (pto d (.dT (dT V.int ow)) :: pto b (.dK (dM V.int (enumP bl))) :: im υ :: stnc T.c_Standing p w k bl :: webc τ0 T.c_Web w n ps :: F)) ∨
    ∃ (l : Addr) (L : List Int), v = .ref l ∧ μ = 0 ∧ L.Pairwise (· < ·) ∧ x ∈ L ∧ (∀ p ∈ L, 0 ≤ p ∧ p < n) ∧ tot bl L - ins ps L = gI bl x - ocn ow x ∧ Sts H (pto l (.lst (L.map V.int)) :: pto d (.dT (dT V.int ow)) :: pto b (.dK (dM V.int (enumP bl))) :: im υ :: stnc T.c_Standing p w k bl :: webc τ0 T.c_Web w n ps :: F)
  refine ⟨fun σ H => ∃ (v : V) (ow : OwL) (υ : Tmap) (μ : Int), 0 ≤ μ ∧ σ = [some (.ref p), some (.int x), some (.int (gI bl x)), some (.ref d), some (.ref b), some v] ∧ Le τ υ ∧ Dl n bl ps ow ∧ G μ v ow υ H, ?_, ?_⟩
  · fail "go"
    refine step ow υ H3 _ hD (by fail "fp") (fun ow' φ H4 l2 hD4 hc4 S4 => ?_) (fun l L φ H4 l2 g1 g2 g3 g4 S4 => ?_)
    · fail "go"
      exact ⟨.non, ow', φ, _, by omega, rfl, l1.trans l2, hD4, .inl ⟨rfl, rfl, S4⟩⟩
    · fail "go"
      exact ⟨.ref l, ow, φ, 0, Int.le_refl _, rfl, l1.trans l2, hD, .inr ⟨l, L, rfl, rfl, g1, g2, g3, g4, S4⟩⟩
  clear S3 S2
  rintro σ H ⟨v, ow1, υ1, μ, hμ0, rfl, l2, hD1, hG⟩
  fail "go"
  refine g_while (fun m σ H => ∃ (v : V) (ow : OwL) (υ : Tmap), σ = [some (.ref p), some (.int x), some (.int (gI bl x)), some (.ref d), some (.ref b), some v] ∧ Le τ υ ∧ Dl n bl ps ow ∧ G (m : Int) v ow υ H) μ.toNat ⟨v, ow1, υ1, rfl, l2, hD1, by rw [show ((μ.toNat : Nat) : Int) = μ by omega]; exact hG⟩ ?_
  clear hG hD1 l2 hD
  rintro m σ H ⟨v, ow, υ, rfl, l2, hD, hG⟩
  rcases hG with ⟨rfl, hm1, S⟩ | ⟨l, L, rfl, hm0, g1, g2, g3, g4, S⟩
  · fail "go"
    refine g_turn ?_
    fail "go"
    refine step ow υ H _ hD S (fun ow' φ H4 l3 hD4 hc4 S4 => ?_) (fun l L φ H4 l3 g1 g2 g3 g4 S4 => ?_)
    · fail "go"
      exact ⟨ocn ow' x + 1, by omega, .non, ow', φ, rfl, l2.trans l3, hD4, .inl ⟨rfl, by omega, S4⟩⟩
    · fail "go"
      exact ⟨0, by omega, .ref l, ow, φ, rfl, l2.trans l3, hD, .inr ⟨l, L, rfl, rfl, g1, g2, g3, g4, S4⟩⟩
  · have hol : ow.length ≤ 90000 := by
      have z := hD.2.1.length_eq
      rw [List.length_map] at z
      omega
    fail "go"
    rename_i H5 S5
    refine ⟨p, w, d, n, k, τ0, υ, ps, bl, ow, _, rfl, (show Sts H5 (pto d (.dT (dT V.int ow)) :: stnc T.c_Standing p w k bl :: webc τ0 T.c_Web w n ps :: im υ :: pto l (.lst (L.map V.int)) :: F) by fail "fp"), hle.trans l2, fun q hq => ?_, hpl, fun a H6 S6 => ?_⟩
    · have hm := hD.2.1.mem_iff.mpr hq
      rw [getT_some]
      exact decide_eq_true hm
    · clear S S5
      fail "go"
      rename_i r H7 χ l4 e4 S7
      exact q1 hx r a l L ow χ _ (l2.trans l4) e4 hD g1 g2 g3 g4 (by fail "fp")

--PART
/-! ### the law's draws -/
structure src (p : Addr) (h : Hp) : Prop where
  ex : ∃ x : Int × Int × Int, St h [pto p (.lst [.int x.1, .int x.2.1, .int x.2.2])]
theorem src_mk {p : Addr} {c s n : Int} {L : List Asr} {H : Hp} (S : Sts H (pto p (.lst [.int c, .int s, .int n]) :: L)) : Sts H (src p :: L) := Sts.cls (M := [_]) S fun h a => ⟨⟨(c, s, n), a⟩⟩
theorem src_open {p : Addr} {L : List Asr} {H : Hp} (S : Sts H (src p :: L)) : ∃ c s n : Int, Sts H (pto p (.lst [.int c, .int s, .int n]) :: L) := by
  obtain ⟨⟨c, s, n⟩, S⟩ := S.opn (f := fun x : Int × Int × Int => [pto p (.lst [.int x.1, .int x.2.1, .int x.2.2])]) (fun h a => a.ex) (fun x τ h => by simp at h)
  exact ⟨c, s, n, S⟩
theorem gS {H : Hp} {a : Addr} {L : List Asr} (h : Sts H (src a :: L)) : Sts H (src a :: L) := h
def spCell (K : PySem.W.Frag) : Sp := fun vs H Q _ => ∃ (a : Addr) (ns : List Int) (k : Int) (F : List Asr), vs = [.ref a, .int k] ∧ 0 ≤ k ∧ Sts H (sqc K a (ns.map V.int) :: F) ∧ ∀ (c : Int) (H' : Hp), 0 ≤ c → Sts H' (sqc K a (ns.map V.int) :: F) → Q (.int c) H'
theorem ok_law_cell (T : Txt P K mg) : FnOk P w K mg base CX0 1 T.f_law_cell T.fd_law_cell ["script", "k"] (spCell K) := by
  refine T.F_law_cell.ok sc_law_cell (fun vs H Q E h => by obtain ⟨a, ns, k, F, rfl, _⟩ := h; rfl) (fun cdv A outer s H vs Q E hr h => ?_)
  obtain ⟨a, ns, k, F, rfl, hk, S, q⟩ := h
  refine ⟨_, (pss_cons (ps_if (pt_cmpR op_lt (pv 1) (pe_callB (v_min2 rfl) (by rfl) T.z_min PyProof.Rows.boot_min (pa_cons pe_int (pa_cons (pe_callB (v_lenI (K := K) rfl) (by rfl) T.z_len PySem.boot_len (pa_cons (pv 0) pa_nil)) pa_nil))) (nomark _))
      (pss_one (ps_ret (pe_callB v_abs (by rfl) T.z_abs PyProof.Rows.boot_abs (pa_cons (pe_ix (v_ixI (K := K) rfl) (pv 0) (pv 1) (fun _ _ => rfl)) pa_nil))))
      pss_nil)
      (pss_one (ps_ret (pe_op op_add (pe_op op_add (pe_op op_mul pe_int (pv 1)) pe_int) (pe_op op_mod (pe_callTy v_intI (by rfl) T.z_int PyProof.Rows.boot_int (pa_cons (pe_callB (oc_sum (K := K) rfl rfl) (by rfl) T.z_sum PyProof.Rows.boot_sum (pa_cons (pe_slice (v_slI (K := K) rfl) (pv 0) po_none (po_some pe_int)) pa_nil)) pa_nil)) pe_int))))), st_2_0 rfl ?_⟩
  fail "go"
  with_reducible refine ifB (fun c => ?_) (fun c => ?_)
  · have c := odt c
    fail "go"
    exact q _ _ (by omega) S
  · fail "go"
    exact q _ _ (by omega) (by fail "fp")
local macro_rules | `(tactic| fail "gs") => `(tactic| ((with_reducible show K07.spCell _ _ _ _ _); refine ⟨_, _, _, _, rfl, Oc.pr (by fail "side"), Oc.gQ (by fail "fr1"), fun (oc : Int) (oh : L2.Hp) oc0 os => ?_⟩))
def spSource : Sp := fun vs H Q _ => ∃ (c : Int) (F : List Asr), vs = [.int c] ∧ Sts H F ∧ ∀ (p : Addr) (H' : Hp), Sts H' (src p :: F) → Q (.ref p) H'
theorem ok_law_source (T : Txt P K mg) : FnOk P w K mg base CX0 1 T.f_law_source T.fd_law_source ["cell"] spSource := by
  refine T.F_law_source.ok sc_law_source (fun vs H Q E h => by obtain ⟨c, F, rfl, _⟩ := h; rfl) (fun cdv A outer s H vs Q E hr h => ?_)
  obtain ⟨c, F, rfl, S, q⟩ := h
  refine ⟨_, (pss_cons (ps_if (pt_cmpR op_lt (pv 0) (pe_op (v_powc 10 18 1000000000000000000 ⟨by decide, by decide, by decide⟩ (by decide +kernel)) pe_int pe_int) (nomark _))
      (pss_one (ps_ret (pe_lst (pa_cons pe_int (pa_cons (pv 0) (pa_cons pe_int pa_nil))))))
      pss_nil)
      (pss_one (ps_ret (pe_lst (pa_cons (pv 0) (pa_cons (pe_op op_mod (pe_callTy v_intI (by rfl) T.z_int PyProof.Rows.boot_int (pa_cons (pv 0) pa_nil)) pe_int) (pa_cons pe_int pa_nil))))))), st_1_0 rfl ?_⟩
  fail "go"
  with_reducible refine ifB (fun d => ?_) (fun d => ?_)
  · fail "go"
    exact q _ _ (src_mk (by fail "fp"))
  · fail "go"
    exact q _ _ (src_mk (by fail "fp"))
local macro_rules | `(tactic| fail "gs") => `(tactic| ((with_reducible show K07.spSource _ _ _ _); refine ⟨_, _, rfl, (by assumption), fun (op : PySem.Addr) (oh : L2.Hp) os => ?_⟩))
def spTake : Sp := fun vs H Q _ => ∃ (p : Addr) (m : Int) (F : List Asr), vs = [.ref p, .int m] ∧ (0 < m ∧ m < 1073741824) ∧ Sts H (src p :: F) ∧ ∀ (d : Int) (H' : Hp), 0 ≤ d → d < m → Sts H' (src p :: F) → Q (.int d) H'
theorem ok_law_take (T : Txt P K mg) : FnOk P w K mg base CX0 1 T.f_law_take T.fd_law_take ["source", "size"] spTake := by
  refine T.F_law_take.ok sc_law_take (fun vs H Q E h => by obtain ⟨a, ns, F, rfl, _⟩ := h; rfl) (fun cdv A outer s H vs Q E hr h => ?_)
  obtain ⟨p, m, F, rfl, hm, S, q⟩ := h
  obtain ⟨c, s, n, S⟩ := src_open S
  refine ⟨_, (pss_cons (ps_if (pt_cmpR op_gt (pe_ix (v_ix (K := K) rfl) (pv 0) pe_int (fun _ _ => rfl)) pe_int (nomark _))
      (pss_cons (ps_set (i := 2) sc_law_take.nd rfl (Or.inl rfl) (pe_op op_mod (pe_callTy v_intI (by rfl) T.z_int PyProof.Rows.boot_int (pa_cons (pe_ix (v_ix (K := K) rfl) (pv 0) pe_int (fun _ _ => rfl)) pa_nil)) (pv 1)))
      (pss_cons (ps_asg (pe_op op_fdiv (pe_ix (v_ix (K := K) rfl) (pv 0) pe_int (fun _ _ => rfl)) (pv 1)) (pg_sub (pv 0) pe_int v_setL))
      (pss_one (ps_ret (pv 2)))))
      pss_nil)
      (pss_cons (ps_asg (pe_op op_add (pe_ix (v_ix (K := K) rfl) (pv 0) pe_int (fun _ _ => rfl)) pe_int) (pg_sub (pv 0) pe_int v_setL))
      (pss_cons (ps_set (i := 3) sc_law_take.nd rfl (Or.inl rfl) (pe_op op_mod (pe_callTy v_intI (by rfl) T.z_int PyProof.Rows.boot_int (pa_cons (pe_op op_add (pe_op op_add (pe_op op_mul (pe_ix (v_ix (K := K) rfl) (pv 0) pe_int (fun _ _ => rfl)) pe_int) (pe_op op_mul (pe_ix (v_ix (K := K) rfl) (pv 0) pe_int (fun _ _ => rfl)) pe_int)) pe_int) pa_nil)) pe_int))
      (pss_cons (ps_set (i := 4) sc_law_take.nd rfl (Or.inl rfl) (pe_op op_mod (pe_callTy v_intI (by rfl) T.z_int PyProof.Rows.boot_int (pa_cons (pe_op op_add (pe_op op_mul (pv 3) (pe_op op_add (pe_op op_fdiv (pv 3) pe_int) (pe_ix (v_ix (K := K) rfl) (pv 0) pe_int (fun _ _ => rfl)))) (pe_ix (v_ix (K := K) rfl) (pv 0) pe_int (fun _ _ => rfl))) pa_nil)) pe_int))
      (pss_one (ps_ret (pe_op op_mod (pe_op op_fdiv (pv 4) pe_int) (pv 1)))))))), st_2_3 rfl ?_⟩
  fail "go"
  with_reducible refine ifB (fun c => ?_) (fun c => ?_)
  · fail "go"
    exact q _ _ (Int.emod_nonneg _ (by omega)) (Int.emod_lt_of_pos _ hm.1) (src_mk (by fail "fp"))
  · fail "go"
    exact q _ _ (Int.emod_nonneg _ (by omega)) (Int.emod_lt_of_pos _ hm.1) (src_mk (by fail "fp"))
local macro_rules | `(tactic| fail "gs") => `(tactic| ((with_reducible show K07.spTake _ _ _ _); refine ⟨_, _, _, rfl, Oc.pr (by fail "side"), K07.gS (by fail "fr1"), fun (od : Int) (oh : L2.Hp) o0 o1 os => ?_⟩))

theorem gI_app1 {ns : List Int} {x k : Int} (h0 : 0 ≤ k) (h1 : k < ns.length) : gI (ns ++ [x]) k = gI ns k := by
  unfold gI
  rw [List.getD_eq_getElem?_getD, List.getD_eq_getElem?_getD, List.getElem?_append_left (by omega)]
theorem gI_app2 {ns : List Int} {x k : Int} (h : k = ns.length) : gI (ns ++ [x]) k = x := by
  subst h
  unfold gI
  rw [List.getD_eq_getElem?_getD, List.getElem?_append_right (by omega)]
  simp
/-- parents: each page's parent lies before it, or there is none -/
def Par (m : Int) (ps : List Int) : Prop := (ps.length : Int) = m ∧ ∀ k : Int, 0 ≤ k → k < m → -1 ≤ gI ps k ∧ gI ps k < k
theorem Par.snoc {m x : Int} {ps : List Int} (h : Par m ps) (h0 : -1 ≤ x) (h1 : x < m) : Par (m + 1) (ps ++ [x]) := by
  obtain ⟨hl, h⟩ := h
  refine ⟨by rw [List.length_append, List.length_singleton]; omega, fun k k0 k1 => ?_⟩
  by_cases e : k = m
  · rw [gI_app2 (by omega)]
    omega
  · rw [gI_app1 k0 (by omega)]
    exact h k k0 (by omega)
def spParents : Sp := fun vs H Q _ => ∃ (p : Addr) (m sh : Int) (F : List Asr), vs = [.ref p, .int m, .int sh] ∧ Sts H (src p :: F) ∧ (1 ≤ m ∧ m ≤ 1000) ∧ ∀ (a : Addr) (ps : List Int) H', Par m ps → Sts H' (pto a (.lst (ps.map V.int)) :: src p :: F) → Q (.ref a) H'
theorem ok_law_parents (T : Txt P K mg) : FnOk P w K mg base CX0 2 T.f_law_parents T.fd_law_parents ["source", "many", "shape"] spParents := by
  refine T.F_law_parents.ok sc_law_parents (fun vs H Q E h => by obtain ⟨p, m, sh, F, rfl, _⟩ := h; rfl) (fun cdv A outer s H vs Q E hr h => ?_)
  obtain ⟨p, m, sh, F, rfl, S, hm, q⟩ := h
  refine ⟨_, (pss_cons (ps_set (i := 3) sc_law_parents.nd rfl (Or.inl rfl) (pe_lst (pa_cons (pe_un un_neg pe_int) pa_nil)))
      (pss_cons (ps_for PassesOwn.never rfl (pi_range2 rfl T.z_range (pa_cons pe_int (pa_cons (pv 1) pa_nil))) (pg_name (i := 4) sc_law_parents.nd rfl (Or.inl rfl))
      (pss_one (ps_if (PW.pt (pw_or (pt_cmpR op_eq (pv 2) pe_int (nomark _)) (pw_or1 (pt_cmpR op_eq (pv 2) pe_int (nomark _)))))
      (pss_one (ps_expr (pe_bm PySem.F.plainAttrs_list PySem.F.slot_list_append PySem.F.type_list_append v_appendI (pv 3) (pa_cons (pe_op op_sub (pv 4) pe_int) pa_nil))))
      (pss_one (ps_if (pt_cmpR op_eq (pv 2) pe_int (nomark _))
      (pss_one (ps_expr (pe_bm PySem.F.plainAttrs_list PySem.F.slot_list_append PySem.F.type_list_append v_appendI (pv 3) (pa_cons pe_int pa_nil))))
      (pss_one (ps_expr (pe_bm PySem.F.plainAttrs_list PySem.F.slot_list_append PySem.F.type_list_append v_appendI (pv 3) (pa_cons (pe_op op_sub (v_call (ok_law_take T) (hr.mono (by decide)) (by rfl) T.g_law_take T.F_law_take.kp T.b_law_take (pa_cons (pv 0) (pa_cons (pe_op op_add (pv 4) pe_int) pa_nil))) pe_int) pa_nil)))))))))
      (pss_one (ps_ret (pv 3))))), st_3_2 rfl ?_⟩
  fail "go"
  rename_i a H1 S1
  refine for_range (lo := 1) (n := (m - 1).toNat) (fun i σ H => ∃ (x : Option V) (ps : List Int), σ = [some (.ref p), some (.int m), some (.int sh), some (.ref a), x] ∧ Par (1 + i) ps ∧ Sts H (pto a (.lst (ps.map V.int)) :: src p :: F)) ⟨none, [-1], rfl, ⟨rfl, fun k k0 k1 => ?_⟩, S1⟩ ?_ ?_
  · have e : k = 0 := by omega
    subst e
    exact ⟨by decide, by decide⟩
  · rintro i σ H hi ⟨x, ps, rfl, hp, S⟩
    have hl := hp.1
    fail "go"
    with_reducible refine ifB (fun c1 => ?_) (fun c1 => ?_)
    · fail "go"
      (rename_i S2; refine ⟨_, _, rfl, ?_, S2⟩; exact hp.snoc (by omega) (by omega))
    · fail "go"
      with_reducible refine ifB (fun c2 => ?_) (fun c2 => ?_)
      · fail "go"
        (rename_i S2; refine ⟨_, _, rfl, ?_, S2⟩; exact hp.snoc (by omega) (by omega))
      · fail "go"
        with_reducible refine ifB (fun c3 => ?_) (fun c3 => ?_)
        · fail "go"
          (rename_i S2; refine ⟨_, _, rfl, ?_, S2⟩; exact hp.snoc (by omega) (by omega))
        · fail "go"
          (rename_i S2; refine ⟨_, _, rfl, ?_, S2⟩; exact hp.snoc (by omega) (by omega))
  · rintro σ H ⟨x, ps, rfl, hp, S⟩
    have e : 1 + (((m - 1).toNat : Nat) : Int) = m := by omega
    rw [e] at hp
    fail "go"
    exact q a ps _ hp (by fail "fp")
local macro_rules | `(tactic| fail "gs") => `(tactic| ((with_reducible show K07.spParents _ _ _ _); refine ⟨_, _, _, _, rfl, K07.gS (by fail "fr1"), Oc.pr ⟨by omega, by omega⟩, fun oa ops oh op os => ?_⟩))

--PART
theorem mapS1 (ts : List Addr) (a : Addr) : ts.map V.ref ++ [V.ref a] = (ts ++ [a]).map V.ref := by rw [List.map_append]; rfl
def spPointers : Sp := fun vs H Q _ => ∃ (p a : Addr) (m wy : Int) (τ : Tmap) (ns : List Int) (F : List Asr), vs = [.ref p, .ref a, .int wy] ∧ Sts H (src p :: pto a (.lst (ns.map V.int)) :: im τ :: F) ∧ Par m ns ∧ (1 ≤ m ∧ m ≤ 1000) ∧ ∀ υ (b : Addr) (ts : List Addr) (ps : List Oc.PI2) H', Le τ υ → Prs υ ts ps → Ok m ps → (ps.length : Int) ≤ 2 * m → Sts H' (pto b (.lst (ts.map V.ref)) :: im υ :: src p :: pto a (.lst (ns.map V.int)) :: F) → Q (.ref b) H'
theorem ok_law_pointers (T : Txt P K mg) : FnOk P w K mg base CX0 2 T.f_law_pointers T.fd_law_pointers ["source", "parents", "way"] spPointers := by
  refine T.F_law_pointers.ok sc_law_pointers (fun vs H Q E h => by obtain ⟨p, a, m, wy, τ, ns, F, rfl, _⟩ := h; rfl) (fun cdv A outer s H vs Q E hr h => ?_)
  obtain ⟨p, a, m, wy, τ, ns, F, rfl, S, ⟨hl, hpar⟩, hm, q⟩ := h
  refine ⟨_, (pss_cons (ps_set (i := 3) sc_law_pointers.nd rfl (Or.inl rfl) (pe_lst pa_nil))
      (pss_cons (ps_for PassesOwn.never rfl (pi_range2 rfl T.z_range (pa_cons pe_int (pa_cons (pe_callB (v_lenI (K := K) rfl) (by rfl) T.z_len PySem.boot_len (pa_cons (pv 1) pa_nil)) pa_nil))) (pg_name (i := 4) sc_law_pointers.nd rfl (Or.inl rfl))
      (pss_one (ps_if (pt_cmpR op_ge (pe_ix (v_ixI (K := K) rfl) (pv 1) (pv 4) (fun _ _ => rfl)) pe_int (nomark _))
      (pss_cons (ps_set (i := 5) sc_law_pointers.nd rfl (Or.inl rfl) (pv 2))
      (pss_cons (ps_if (pt_cmpR op_gt (pv 2) pe_int (nomark _))
      (pss_one (ps_set (i := 5) sc_law_pointers.nd rfl (Or.inl rfl) (v_call (ok_law_take T) (hr.mono (by decide)) (by rfl) T.g_law_take T.F_law_take.kp T.b_law_take (pa_cons (pv 0) (pa_cons pe_int pa_nil)))))
      pss_nil)
      (pss_cons (ps_if (pt_cmpR op_ne (pv 5) pe_int (nomark _))
      (pss_one (ps_expr (pe_bm PySem.F.plainAttrs_list PySem.F.slot_list_append PySem.F.type_list_append v_append (pv 3) (pa_cons (pe_tup (pa_cons (pe_ix (v_ixI (K := K) rfl) (pv 1) (pv 4) (fun _ _ => rfl)) (pa_cons (pv 4) pa_nil))) pa_nil))))
      pss_nil)
      (pss_one (ps_if (pt_cmpR op_ne (pv 5) pe_int (nomark _))
      (pss_one (ps_expr (pe_bm PySem.F.plainAttrs_list PySem.F.slot_list_append PySem.F.type_list_append v_append (pv 3) (pa_cons (pe_tup (pa_cons (pv 4) (pa_cons (pe_ix (v_ixI (K := K) rfl) (pv 1) (pv 4) (fun _ _ => rfl)) pa_nil))) pa_nil))))
      pss_nil)))))
      pss_nil)))
      (pss_one (ps_ret (pv 3))))), st_3_3 rfl ?_⟩
  fail "go"
  rename_i b H1 S1
  refine for_range (lo := 1) (n := ((ns.length : Int) - 1).toNat) (fun i σ H => ∃ (x4 x5 : Option V) (υ : Tmap) (ts : List Addr) (ps : List Oc.PI2), σ = [some (.ref p), some (.ref a), some (.int wy), some (.ref b), x4, x5] ∧ Le τ υ ∧ Prs υ ts ps ∧ Ok (1 + i) ps ∧ (ps.length : Int) ≤ 2 * i ∧ Sts H (pto b (.lst (ts.map V.ref)) :: im υ :: src p :: pto a (.lst (ns.map V.int)) :: F)) ⟨none, none, τ, [], [], rfl, Le.refl τ, Prs.nil, Ok.nil, by simp, by fail "fp"⟩ ?_ ?_
  · rintro i σ H hi ⟨x4, x5, υ, ts, ps, rfl, hle, hts, hok, hpl, S⟩
    have hk := hpar (1 + i) (by omega) (by omega)
    have htl := hts.len
    fail "go"
    have hi1 : (1 : Int) + ((i + 1 : Nat) : Int) = 1 + i + 1 := by omega
    with_reducible refine ifB (fun c0 => ?_) (fun c0 => ?_)
    · have c0 := odt c0
      have hx0 : 0 ≤ gI ns (1 + (i : Int)) ∧ gI ns (1 + (i : Int)) < 1 + i := by omega
      fail "go"
      with_reducible refine ifB (fun c1 => ?_) (fun c1 => ?_)
      all_goals
        fail "go"
        with_reducible refine ifB (fun c2 => ?_) (fun c2 => ?_)
        all_goals
          fail "go"
          with_reducible refine ifB (fun c3 => ?_) (fun c3 => ?_)
          all_goals
            fail "go"
            rename_i S2
            first
            | exact ⟨_, _, υ, ts, ps, rfl, hle, hts, by rw [hi1]; exact hok.mono (by omega), by omega, by fail "fp"⟩
            | (simp only [mapS1] at S2
               refine ⟨_, _, _, _, ps ++ [(gI ns (1 + (i : Int)), 1 + (i : Int))] ++ [(1 + (i : Int), gI ns (1 + (i : Int)))], rfl, ?_, ?_, ?_, ?_, S2⟩
               · fail "le"
               · exact ((hts.mono (by fail "le")).snoc (by fail "te")).snoc (by fail "te")
               · rw [hi1]
                 exact hok.both hx0.1 hx0.2
               · simp only [List.length_append, List.length_cons, List.length_nil]
                 omega)
            | (simp only [mapS1] at S2
               refine ⟨_, _, _, _, ps ++ [(gI ns (1 + (i : Int)), 1 + (i : Int))], rfl, ?_, ?_, ?_, ?_, S2⟩
               · fail "le"
               · exact (hts.mono (by fail "le")).snoc (by fail "te")
               · rw [hi1]
                 exact hok.down hx0.1 hx0.2
               · simp only [List.length_append, List.length_cons, List.length_nil]
                 omega)
            | (simp only [mapS1] at S2
               refine ⟨_, _, _, _, ps ++ [(1 + (i : Int), gI ns (1 + (i : Int)))], rfl, ?_, ?_, ?_, ?_, S2⟩
               · fail "le"
               · exact (hts.mono (by fail "le")).snoc (by fail "te")
               · rw [hi1]
                 exact hok.up hx0.1 hx0.2
               · simp only [List.length_append, List.length_cons, List.length_nil]
                 omega)
    · fail "go"
      exact ⟨_, _, _, _, _, rfl, hle, hts, by rw [hi1]; exact hok.mono (by omega), by omega, by fail "fp"⟩
  · rintro σ H ⟨x4, x5, υ, ts, ps, rfl, hle, hts, hok, hpl, S⟩
    have e : 1 + ((((ns.length : Int) - 1).toNat : Nat) : Int) = m := by omega
    rw [e] at hok
    fail "go"
    exact q υ b ts ps _ hle hts hok (by omega) (by fail "fp")
theorem gSI {H : Hp} {a b : Addr} {ns : List Int} {τ : Tmap} {L : List Asr} (h : Sts H (src a :: pto b (.lst (ns.map V.int)) :: im τ :: L)) : Sts H (src a :: pto b (.lst (ns.map V.int)) :: im τ :: L) := h
local macro_rules | `(tactic| fail "gs") => `(tactic| ((with_reducible show K07.spPointers _ _ _ _); refine ⟨_, _, _, _, _, _, _, rfl, K07.gSI (by fail "fr3"), Oc.pr (by assumption), Oc.pr ⟨by omega, by omega⟩, fun oυ ob ots ops oh ole op ook ol os => ?_⟩))

--PART
theorem gI_set {ns : List Int} {x i j : Int} (i0 : 0 ≤ i) (i1 : i < ns.length) (j0 : 0 ≤ j) : gI (ns.set i.toNat x) j = if j = i then x else gI ns j := by
  unfold gI
  rw [List.getD_eq_getElem?_getD, List.getD_eq_getElem?_getD]
  by_cases e : j = i
  · subst e
    rw [List.getElem?_set_self (by omega), if_pos rfl]
    rfl
  · rw [List.getElem?_set_ne (by omega), if_neg e]
/-- a numbering of the pages -/
def Nm (m : Int) (ns : List Int) : Prop := (ns.length : Int) = m ∧ (∀ i : Int, 0 ≤ i → i < m → 0 ≤ gI ns i ∧ gI ns i < m) ∧ ∀ i j : Int, 0 ≤ i → i < m → 0 ≤ j → j < m → gI ns i = gI ns j → i = j
theorem Nm.swap {m i j : Int} {ns : List Int} (h : Nm m ns) (i0 : 0 ≤ i) (i1 : i < m) (j0 : 0 ≤ j) (j1 : j < m) : Nm m ((ns.set i.toNat (gI ns j)).set j.toNat (gI ns i)) := by
  obtain ⟨hl, hb, hi⟩ := h
  have e : ∀ k : Int, 0 ≤ k → gI ((ns.set i.toNat (gI ns j)).set j.toNat (gI ns i)) k = if k = j then gI ns i else if k = i then gI ns j else gI ns k := fun k k0 => by
    rw [gI_set j0 (by rw [List.length_set]; omega) k0, gI_set i0 (by omega) k0]
  refine ⟨by rw [List.length_set, List.length_set]; exact hl, fun k k0 k1 => ?_, fun k l k0 k1 l0 l1 q => ?_⟩
  · rw [e k k0]
    have := hb i i0 i1
    have := hb j j0 j1
    have := hb k k0 k1
    split
    · assumption
    · split <;> assumption
  · rw [e k k0, e l l0] at q
    have a1 := hi k l k0 k1 l0 l1
    have a2 := hi k i k0 k1 i0 i1
    have a3 := hi k j k0 k1 j0 j1
    have a4 := hi l i l0 l1 i0 i1
    have a5 := hi l j l0 l1 j0 j1
    have a6 := hi i j i0 i1 j0 j1
    split at q
    · split at q
      · omega
      · split at q
        · have := a6 q
          omega
        · have := a4 q.symm
          omega
    · split at q
      · split at q
        · have := a6 q.symm
          omega
        · split at q
          · omega
          · have := a5 q.symm
            omega
      · split at q
        · have := a2 q
          omega
        · split at q
          · have := a3 q
            omega
          · exact a1 q
theorem gI_mapR {n : Nat} {f : Nat → Int} {k : Int} (k0 : 0 ≤ k) (k1 : k < n) : gI ((List.range n).map f) k = f k.toNat := by
  unfold gI
  rw [List.getD_eq_getElem?_getD, List.getElem?_map, List.getElem?_range (by omega)]
  rfl
theorem Nm.up {m : Int} (h : 0 ≤ m) : Nm m ((List.range m.toNat).map fun (i : Nat) => (i : Int)) := by
  refine ⟨by rw [List.length_map, List.length_range]; omega, fun k k0 k1 => ?_, fun k l k0 k1 l0 l1 q => ?_⟩
  · rw [gI_mapR k0 (by omega)]
    omega
  · rw [gI_mapR k0 (by omega), gI_mapR l0 (by omega)] at q
    omega
theorem Nm.dn {m : Int} (h : 0 ≤ m) : Nm m ((List.range m.toNat).map fun (i : Nat) => m - 1 - (i : Int)) := by
  refine ⟨by rw [List.length_map, List.length_range]; omega, fun k k0 k1 => ?_, fun k l k0 k1 l0 l1 q => ?_⟩
  · rw [gI_mapR k0 (by omega)]
    omega
  · rw [gI_mapR k0 (by omega), gI_mapR l0 (by omega)] at q
    omega
def spNames : Sp := fun vs H Q _ => ∃ (p : Addr) (m : Int) (F : List Asr), vs = [.ref p, .int m] ∧ Sts H (src p :: F) ∧ (1 ≤ m ∧ m ≤ 1000) ∧ ∀ (a : Addr) (ns : List Int) H', Nm m ns → Sts H' (pto a (.lst (ns.map V.int)) :: src p :: F) → Q (.ref a) H'
theorem ok_law_names (T : Txt P K mg) : FnOk P w K mg base CX0 2 T.f_law_names T.fd_law_names ["source", "many"] spNames := by
  refine T.F_law_names.ok sc_law_names (fun vs H Q E h => by obtain ⟨p, m, F, rfl, _⟩ := h; rfl) (fun cdv A outer s H vs Q E hr h => ?_)
  obtain ⟨p, m, F, rfl, S, hm, q⟩ := h
  refine ⟨_, (pss_cons (ps_set (i := 2) sc_law_names.nd rfl (Or.inl rfl) (pe_listRg rfl rfl T.z_list (prg_1 rfl T.z_range (pv 1))))
      (pss_cons (ps_set (i := 3) sc_law_names.nd rfl (Or.inl rfl) (v_call (ok_law_take T) (hr.mono (by decide)) (by rfl) T.g_law_take T.F_law_take.kp T.b_law_take (pa_cons (pv 0) (pa_cons pe_int pa_nil))))
      (pss_cons (ps_if (pt_cmpR op_eq (pv 3) pe_int (nomark _))
      (pss_one (ps_ret (pv 2)))
      pss_nil)
      (pss_cons (ps_if (pt_cmpR op_eq (pv 3) pe_int (nomark _))
      (pss_one (ps_ret (pe_lc (own := [("k", 4)]) (g := gName 4) (tt := tYes) rfl sc_law_names.nd (pi_range1 rfl T.z_range (pa_cons (pv 1) pa_nil)) (blkOk_by (own := [("k", 4)]) (N := ["source", "many", "names", "way", "k", "other", "held"]) (sc := defScope s_law_names) (by decide +kernel)) (fun _ _ _ _ _ => (pg_name (i := 4) sc_law_names.nd rfl (Or.inl rfl))) (fun _ _ _ _ _ => pts_nil) (fun _ _ _ _ _ => (pe_op op_sub (pe_op op_sub (pv 1) pe_int) (pv 4))))))
      pss_nil)
      (pss_cons (ps_for PassesOwn.never rfl (pi_range1 rfl T.z_range (pa_cons (pe_op op_sub (pv 1) pe_int) pa_nil)) (pg_name (i := 4) sc_law_names.nd rfl (Or.inl rfl))
      (pss_cons (ps_set (i := 5) sc_law_names.nd rfl (Or.inl rfl) (pe_op op_add (pv 4) (v_call (ok_law_take T) (hr.mono (by decide)) (by rfl) T.g_law_take T.F_law_take.kp T.b_law_take (pa_cons (pv 0) (pa_cons (pe_op op_sub (pv 1) (pv 4)) pa_nil)))))
      (pss_cons (ps_set (i := 6) sc_law_names.nd rfl (Or.inl rfl) (pe_ix (v_ixI (K := K) rfl) (pv 2) (pv 4) (fun _ _ => rfl)))
      (pss_cons (ps_asg (pe_ix (v_ixI (K := K) rfl) (pv 2) (pv 5) (fun _ _ => rfl)) (pg_sub (pv 2) (pv 4) v_setI))
      (pss_one (ps_asg (pv 6) (pg_sub (pv 2) (pv 5) v_setI)))))))
      (pss_one (ps_ret (pv 2)))))))), st_2_5 rfl ?_⟩
  fail "go"
  rename_i a H1 S1 d H2 d0 d1 S2
  have e0 : rgI 0 m = (List.range m.toNat).map fun (i : Nat) => (i : Int) := by
    unfold rgI
    rw [Int.sub_zero]
    refine List.map_congr_left fun i _ => ?_
    exact Int.zero_add _
  rw [e0] at S2
  with_reducible refine ifB (fun c => ?_) (fun c => ?_)
  · fail "go"
    exact q a _ _ (Nm.up (by omega)) (by fail "fp")
  · fail "go"
    with_reducible refine ifB (fun c2 => ?_) (fun c2 => ?_)
    · fail "go"
      rename_i D H3 S3
      refine oc_lcR (lo := 0) (n := m.toNat) (fun i H => Sts H (pto D (.lst (((List.range i).map fun (h : Nat) => m - 1 - (h : Int)).map V.int)) :: src p :: F)) (by fail "fp") ?_ ?_
      · rintro i H hi S
        fail "go"
        fail "lce"
        rename_i S4
        rw [List.range_succ, List.map_append, List.map_append]
        rw [Int.zero_add] at S4
        fail "fp"
      · rintro H S
        exact q D _ _ (Nm.dn (by omega)) S
    · fail "go"
      refine for_range (lo := 0) (n := (m - 1).toNat) (fun i σ H => ∃ (x4 x5 x6 : Option V) (ns : List Int), σ = [some (.ref p), some (.int m), some (.ref a), some (.int d), x4, x5, x6] ∧ Nm m ns ∧ Sts H (pto a (.lst (ns.map V.int)) :: src p :: F)) ⟨none, none, none, _, rfl, Nm.up (by omega), by fail "fp"⟩ ?_ ?_
      · rintro i σ H hi ⟨x4, x5, x6, ns, rfl, hn, S⟩
        have hl := hn.1
        fail "go"
        rename_i dd H5 dd0 dd1 S5 H6 S6 H7 S7
        exact ⟨_, _, _, _, rfl, hn.swap (i := 0 + i) (j := 0 + i + dd) (by omega) (by omega) (by omega) (by omega), by fail "fp"⟩
      · rintro σ H ⟨x4, x5, x6, ns, rfl, hn, S⟩
        fail "go"
        exact q a ns _ hn S
local macro_rules | `(tactic| fail "gs") => `(tactic| ((with_reducible show K07.spNames _ _ _ _); refine ⟨_, _, _, rfl, K07.gS (by fail "fr1"), Oc.pr ⟨by omega, by omega⟩, fun oa ons oh on os => ?_⟩))

--PART
/-- the pairs under new names -/
def nmd (ns : List Int) (ps : List Oc.PI2) : List Oc.PI2 := ps.map fun p => (gI ns p.1, gI ns p.2)
theorem nmd_ok {m : Int} {ns : List Int} {ps : List Oc.PI2} (h : Nm m ns) (o : Ok m ps) : Ok m (nmd ns ps) := by
  obtain ⟨hl, hb, hi⟩ := h
  refine ⟨?_, fun q hq => ?_⟩
  · unfold nmd
    rw [List.Nodup, List.pairwise_map]
    refine (List.Pairwise.and_mem.mp o.1).imp ?_
    rintro p q ⟨hp, hq, n⟩ e
    have h1 := o.2 p hp
    have h2 := o.2 q hq
    have e1 := hi _ _ h1.1 h1.2.1 h2.1 h2.2.1 (congrArg Prod.fst e)
    have e2 := hi _ _ h1.2.2.1 h1.2.2.2.1 h2.2.2.1 h2.2.2.2.1 (congrArg Prod.snd e)
    exact n (Prod.ext e1 e2)
  · obtain ⟨p, hp, rfl⟩ := List.mem_map.mp hq
    have h1 := o.2 p hp
    have b1 := hb _ h1.1 h1.2.1
    have b2 := hb _ h1.2.2.1 h1.2.2.2.1
    exact ⟨b1.1, b1.2, b2.1, b2.2, fun e => h1.2.2.2.2 (hi _ _ h1.1 h1.2.1 h1.2.2.1 h1.2.2.2.1 e)⟩
theorem okPerm {m : Int} {ps qs : List Oc.PI2} (o : Ok m ps) (h : qs.Perm ps) : Ok m qs := ⟨h.nodup_iff.mpr o.1, fun p hp => o.2 p (h.mem_iff.mp hp)⟩
def spNamed : Sp := fun vs H Q _ => ∃ (a b : Addr) (m t : Int) (τ : Tmap) (ts : List Addr) (ps : List Oc.PI2) (ns : List Int) (F : List Asr), vs = [.ref a, .ref b, .int t] ∧ Sts H (pto a (.lst (ts.map V.ref)) :: im τ :: pto b (.lst (ns.map V.int)) :: F) ∧ Prs τ ts ps ∧ Nm m ns ∧ Ok m ps ∧ ps.length ≤ 10000 ∧ 0 ≤ t ∧
  ∀ υ (c : Addr) (us : List Addr) (qs : List Oc.PI2) H', Le τ υ → Prs υ us qs → Ok m qs → qs.length = ps.length → Sts H' (pto c (.lst (us.map V.ref)) :: im υ :: pto a (.lst (ts.map V.ref)) :: pto b (.lst (ns.map V.int)) :: F) → Q (.ref c) H'
theorem ok_law_named (T : Txt P K mg) : FnOk P w K mg base CX0 1 T.f_law_named T.fd_law_named ["pointers", "names", "turn"] spNamed := by
  refine T.F_law_named.ok sc_law_named (fun vs H Q E h => by obtain ⟨a, b, m, t, τ, ts, ps, ns, F, rfl, _⟩ := h; rfl) (fun cdv A outer s H vs Q E hr h => ?_)
  obtain ⟨a, b, m, t, τ, ts, ps, ns, F, rfl, S, hts, hn, hok, hpl, ht, q⟩ := h
  have hl := hn.1
  refine ⟨_, (pss_cons (ps_setLc (i := 3) (own := [("pair", 4)]) (g := gName 4) (tt := tYes) rfl sc_law_named.nd rfl rfl (sw_true rfl rfl rfl (by decide +kernel)) (pi_list (pv 0)) (blkOk_by (own := [("pair", 4)]) (N := ["pointers", "names", "turn", "named", "pair"]) (sc := defScope s_law_named) (by decide +kernel)) (fun _ _ _ _ _ => (pg_name (i := 4) sc_law_named.nd rfl (Or.inl rfl))) (fun _ _ _ _ _ => pts_nil) (fun _ _ _ _ _ => (pe_tup (pa_cons (pe_ix (v_ixI (K := K) rfl) (pv 1) (pe_ix (v_ixT (K := K) rfl) (pv 4) pe_int (fun _ _ => rfl)) (fun _ _ => rfl)) (pa_cons (pe_ix (v_ixI (K := K) rfl) (pv 1) (pe_ix (v_ixT (K := K) rfl) (pv 4) pe_int (fun _ _ => rfl)) (fun _ _ => rfl)) pa_nil)))))
      (pss_one (ps_ret (pe_op op_cat (pe_slice (v_sl (K := K) rfl) (pv 3) (po_some (pv 2)) po_none) (pe_slice (v_sl (K := K) rfl) (pv 3) po_none (po_some (pv 2))))))), st_3_2 rfl ?_⟩
  fail "go"
  rename_i D H1 S1
  refine lc_prs (K := K) hts (fun i H => ∃ (ψ : Tmap) (bs : List Addr), Sts H (pto D (.lst (bs.map V.ref)) :: im ψ :: pto a (.lst (ts.map V.ref)) :: pto b (.lst (ns.map V.int)) :: F) ∧ Le τ ψ ∧ Prs ψ bs (nmd ns (ps.take i))) ⟨τ, [], by fail "fp", Le.refl _, Prs.nil⟩ (fun i H ⟨_, _, S, _, _⟩ => by fail "sq") ?_ ?_
  · rintro i u q0 H hi hu ⟨ψ, bs, S, l3, hbs⟩
    have hbl := hbs.len
    unfold nmd at hbl
    rw [List.length_map, List.length_take] at hbl
    have hq := hok.2 q0 (List.mem_of_getElem? hi)
    fail "go"
    fail "lce"
    refine ⟨_, bs ++ [_], by rw [List.map_append]; fail "fp", by fail "le", ?_⟩
    unfold nmd
    rw [List.take_add_one, hi, List.map_append]
    exact (hbs.mono (by fail "le")).snoc (by assumption)
  rintro H ⟨ψ, bs, S, l3, hbs⟩
  rw [List.take_length] at hbs
  have hbl := hbs.len
  unfold nmd at hbl
  rw [List.length_map] at hbl
  fail "go"
  rename_i x H5 S5 y H6 S6
  rw [cutV_map, cutV_map, cutL_drop _ ht, cutL_take _ ht] at S6
  refine ⟨x, y, (bs.drop t.toNat).map V.ref, (bs.take t.toNat).map V.ref, rfl, rfl, S6.tail.hd, S6.hd, ?_, fun c np => ?_⟩
  · have hz : ((bs.drop t.toNat).map V.ref).length + ((bs.take t.toNat).map V.ref).length ≤ 1000000 := by
      rw [List.length_map, List.length_map, List.length_drop, List.length_take]
      omega
    exact Nat.le_of_lt (Oc.small hz)
  have S7 := S6.new (.lst ((bs.drop t.toNat).map V.ref ++ (bs.take t.toNat).map V.ref)) np
  refine q ψ c (bs.drop t.toNat ++ bs.take t.toNat) ((nmd ns ps).drop t.toNat ++ (nmd ns ps).take t.toNat) _ l3 ((hbs.drop _).app (hbs.take _)) (okPerm (nmd_ok hn hok) (List.perm_append_comm.trans (by rw [List.take_append_drop]))) ?_ (by rw [List.map_append]; fail "fp")
  rw [List.length_append, Nat.add_comm, ← List.length_append, List.take_append_drop]
  unfold nmd
  rw [List.length_map]
local macro_rules | `(tactic| fail "gs") => `(tactic| ((with_reducible show K07.spNamed _ _ _ _); refine ⟨_, _, _, _, _, _, _, _, _, rfl, Oc.pr (by fail "fr3"), Oc.pr (by fail "prl"), Oc.pr (by assumption), Oc.pr (by assumption), Oc.pr (by omega), Oc.pr (by omega), fun oυ oc ous oqs oh ole op oo ol os => ?_⟩))

--PART
def In (m : Int) (ps : List Oc.PI2) : Prop := ∀ p ∈ ps, 0 ≤ p.1 ∧ p.1 < m ∧ 0 ≤ p.2 ∧ p.2 < m
theorem in_snoc {m : Int} {ps : List Oc.PI2} {p : Oc.PI2} (h : In m ps) (hp : 0 ≤ p.1 ∧ p.1 < m ∧ 0 ≤ p.2 ∧ p.2 < m) : In m (ps ++ [p]) := fun q hq => by
  rcases List.mem_append.mp hq with hq | hq
  · exact h q hq
  · rw [List.mem_singleton.mp hq]
    exact hp
theorem in_nil {m : Int} : In m [] := fun _ h => nomatch h
def spExtras : Sp := fun vs H Q _ => ∃ (p : Addr) (m sh : Int) (τ : Tmap) (F : List Asr), vs = [.ref p, .int m, .int sh] ∧ Sts H (src p :: im τ :: F) ∧ (1 ≤ m ∧ m ≤ 1000) ∧ ∀ υ (b : Addr) (ts : List Addr) (ps : List Oc.PI2) H', Le τ υ → Prs υ ts ps → In m ps → ps.length ≤ 100 → Sts H' (pto b (.lst (ts.map V.ref)) :: im υ :: src p :: F) → Q (.ref b) H'
theorem ok_law_extras (T : Txt P K mg) : FnOk P w K mg base CX0 2 T.f_law_extras T.fd_law_extras ["source", "many", "shape"] spExtras := by
  refine T.F_law_extras.ok sc_law_extras (fun vs H Q E h => by obtain ⟨p, m, sh, τ, F, rfl, _⟩ := h; rfl) (fun cdv A outer s H vs Q E hr h => ?_)
  obtain ⟨p, m, sh, τ, F, rfl, S, hm, q⟩ := h
  refine ⟨_, (pss_cons (ps_set (i := 3) sc_law_extras.nd rfl (Or.inl rfl) (pe_lst pa_nil))
      (pss_cons (ps_if (pt_cmpR op_eq (pv 2) pe_int (nomark _))
      (pss_one (ps_expr (pe_bm PySem.F.plainAttrs_list PySem.F.slot_list_append PySem.F.type_list_append v_append (pv 3) (pa_cons (pe_tup (pa_cons (pe_op op_sub (pv 1) pe_int) (pa_cons pe_int pa_nil))) pa_nil))))
      pss_nil)
      (pss_cons (ps_if (PW.pt (pw_or (pt_cmpR op_eq (pv 2) pe_int (nomark _)) (pw_or1 (PW.pt (pw_and (pt_cmpR op_eq (pv 2) pe_int (nomark _)) (pw_and1 (pt_cmpR op_gt (pv 1) pe_int (nomark _))))))))
      (pss_one (ps_for PassesOwn.never rfl (pi_range1 rfl T.z_range (pa_cons (pe_op op_add pe_int (v_call (ok_law_take T) (hr.mono (by decide)) (by rfl) T.g_law_take T.F_law_take.kp T.b_law_take (pa_cons (pv 0) (pa_cons pe_int pa_nil)))) pa_nil)) (pg_name (i := 4) sc_law_extras.nd rfl (Or.inl rfl))
      (pss_cons (ps_set (i := 5) sc_law_extras.nd rfl (Or.inl rfl) (v_call (ok_law_take T) (hr.mono (by decide)) (by rfl) T.g_law_take T.F_law_take.kp T.b_law_take (pa_cons (pv 0) (pa_cons (pv 1) pa_nil))))
      (pss_one (ps_expr (pe_bm PySem.F.plainAttrs_list PySem.F.slot_list_append PySem.F.type_list_append v_append (pv 3) (pa_cons (pe_tup (pa_cons (pv 5) (pa_cons (v_call (ok_law_take T) (hr.mono (by decide)) (by rfl) T.g_law_take T.F_law_take.kp T.b_law_take (pa_cons (pv 0) (pa_cons (pv 1) pa_nil))) pa_nil))) pa_nil)))))))
      pss_nil)
      (pss_cons (ps_if (PW.pt (pw_and (pt_cmpR op_eq (pv 2) pe_int (nomark _)) (pw_and1 (pt_cmpR op_le (pv 1) pe_int (nomark _)))))
      (pss_cons (ps_set (i := 6) sc_law_extras.nd rfl (Or.inl rfl) (pe_op op_add pe_int (v_call (ok_law_take T) (hr.mono (by decide)) (by rfl) T.g_law_take T.F_law_take.kp T.b_law_take (pa_cons (pv 0) (pa_cons pe_int pa_nil)))))
      (pss_one (ps_for PassesOwn.never rfl (pi_range1 rfl T.z_range (pa_cons (pv 1) pa_nil)) (pg_name (i := 5) sc_law_extras.nd rfl (Or.inl rfl))
      (pss_one (ps_for PassesOwn.never rfl (pi_range1 rfl T.z_range (pa_cons (pv 1) pa_nil)) (pg_name (i := 7) sc_law_extras.nd rfl (Or.inl rfl))
      (pss_one (ps_if (PW.pt (pw_and (pt_cmpR op_ne (pv 5) (pv 7) (nomark _)) (pw_and1 (pt_cmpR op_eq (v_call (ok_law_take T) (hr.mono (by decide)) (by rfl) T.g_law_take T.F_law_take.kp T.b_law_take (pa_cons (pv 0) (pa_cons (pv 6) pa_nil))) pe_int (nomark _)))))
      (pss_one (ps_expr (pe_bm PySem.F.plainAttrs_list PySem.F.slot_list_append PySem.F.type_list_append v_append (pv 3) (pa_cons (pe_tup (pa_cons (pv 5) (pa_cons (pv 7) pa_nil))) pa_nil))))
      pss_nil)))))))
      pss_nil)
      (pss_one (ps_ret (pv 3))))))), st_3_5 rfl ?_⟩
  by_cases h3 : sh = 3
  · fail "gd"
    rename_i S2
    exact q _ _ [_] [(m - 1, 0)] _ (by fail "le") (Prs.nil.snoc (by fail "te")) (in_snoc in_nil ⟨by show 0 ≤ m - 1; omega, by show m - 1 < m; omega, by show (0 : Int) ≤ 0; omega, by show 0 < m; omega⟩) (Nat.le_of_ble_eq_true rfl) S2
  by_cases h4 : sh = 4 ∨ (sh = 5 ∧ 7 < m)
  · rcases h4 with h4 | ⟨h4, h5⟩
    all_goals
      fail "gd"
      rename_i b H1 S1 d H2 d0 d1 S2
      refine for_range (lo := 0) (n := (1 + d).toNat) (fun i σ H => ∃ (x4 x5 : Option V) (υ : Tmap) (ts : List Addr) (ps : List Oc.PI2), σ = [some (.ref p), some (.int m), some (.int sh), some (.ref b), x4, x5, none, none] ∧ Le τ υ ∧ Prs υ ts ps ∧ In m ps ∧ ps.length = i ∧ Sts H (pto b (.lst (ts.map V.ref)) :: im υ :: src p :: F)) ⟨none, none, τ, [], [], rfl, Le.refl τ, Prs.nil, in_nil, rfl, by fail "fp"⟩ ?_ ?_
      · rintro i σ H hi ⟨x4, x5, υ, ts, ps, rfl, hle, hts, hok, hpl, S⟩
        have htl := hts.len
        fail "go"
        rename_i d H3 d0 d1 S3 e H4 e0 e1 S4 t H5 φ l1 te S5 H6 S6
        simp only [mapS1] at S6
        exact ⟨_, _, φ, _, ps ++ [(d, e)], rfl, by fail "le", (hts.mono (by fail "le")).snoc (by fail "te"), in_snoc hok ⟨d0, d1, e0, e1⟩, by rw [List.length_append, hpl]; rfl, S6⟩
      · rintro σ H ⟨x4, x5, υ, ts, ps, rfl, hle, hts, hok, hpl, S⟩
        fail "gd"
        exact q υ b ts ps _ hle hts hok (by omega) (by fail "fp")
  by_cases h5 : sh = 5
  · fail "gd"
    rename_i b H1 S1 d H2 d0 d1 S2
    refine for_range (lo := 0) (n := m.toNat) (fun i σ H => ∃ (x5 x7 : Option V) (υ : Tmap) (ts : List Addr) (ps : List Oc.PI2), σ = [some (.ref p), some (.int m), some (.int sh), some (.ref b), none, x5, some (.int (2 + d)), x7] ∧ Le τ υ ∧ Prs υ ts ps ∧ In m ps ∧ ps.length ≤ 7 * i ∧ Sts H (pto b (.lst (ts.map V.ref)) :: im υ :: src p :: F)) ⟨none, none, τ, [], [], rfl, Le.refl τ, Prs.nil, in_nil, by simp, by fail "fp"⟩ ?_ ?_
    · rintro i σ H hi ⟨x5, x7, υ, ts, ps, rfl, hle, hts, hok, hpl, S⟩
      fail "go"
      refine for_range (lo := 0) (n := m.toNat) (fun j σ H => ∃ (x7 : Option V) (υ : Tmap) (ts : List Addr) (ps : List Oc.PI2), σ = [some (.ref p), some (.int m), some (.int sh), some (.ref b), none, some (.int (0 + (i : Int))), some (.int (2 + d)), x7] ∧ Le τ υ ∧ Prs υ ts ps ∧ In m ps ∧ ps.length ≤ 7 * i + j ∧ Sts H (pto b (.lst (ts.map V.ref)) :: im υ :: src p :: F)) ⟨x7, υ, ts, ps, rfl, hle, hts, hok, by omega, by fail "fp"⟩ ?_ ?_
      · clear hts hok hpl S hle
        rintro j σ H hj ⟨x7, υ, ts, ps, rfl, hle, hts, hok, hpl, S⟩
        have htl := hts.len
        fail "go"
        with_reducible refine ifB (fun c1 => ?_) (fun c1 => ?_)
        · fail "go"
          with_reducible refine ifB (fun c2 => ?_) (fun c2 => ?_)
          · fail "go"
            rename_i S6
            simp only [mapS1] at S6
            exact ⟨_, _, _, ps ++ [(0 + (i : Int), 0 + (j : Int))], rfl, by fail "le", (hts.mono (by fail "le")).snoc (by fail "te"), in_snoc hok ⟨by show 0 ≤ 0 + (i : Int); omega, by show 0 + (i : Int) < m; omega, by show 0 ≤ 0 + (j : Int); omega, by show 0 + (j : Int) < m; omega⟩, by rw [List.length_append]; show ps.length + 1 ≤ _; omega, S6⟩
          · fail "go"
            exact ⟨_, υ, ts, ps, rfl, hle, hts, hok, by omega, by fail "fp"⟩
        · fail "go"
          exact ⟨_, υ, ts, ps, rfl, hle, hts, hok, by omega, by fail "fp"⟩
      · clear hts hok hpl S hle
        rintro σ H ⟨x7, υ, ts, ps, rfl, hle, hts, hok, hpl, S⟩
        fail "go"
        exact ⟨_, _, υ, ts, ps, rfl, hle, hts, hok, by omega, by fail "fp"⟩
    · rintro σ H ⟨x5, x7, υ, ts, ps, rfl, hle, hts, hok, hpl, S⟩
      fail "go"
      exact q υ b ts ps _ hle hts hok (by omega) (by fail "fp")
  · fail "gd"
    rename_i S2
    exact q τ _ [] [] _ (Le.refl τ) Prs.nil in_nil (by decide) (by fail "fp")
theorem gSM {H : Hp} {a : Addr} {τ : Tmap} {L : List Asr} (h : Sts H (src a :: im τ :: L)) : Sts H (src a :: im τ :: L) := h
local macro_rules | `(tactic| fail "gs") => `(tactic| ((with_reducible show K07.spExtras _ _ _ _); refine ⟨_, _, _, _, _, rfl, K07.gSM (by fail "fr2"), Oc.pr ⟨by omega, by omega⟩, fun oυ ob ots ops oh ole op oo ol os => ?_⟩))
def spJoined : Sp := fun vs H Q _ => ∃ (a b : Addr) (m : Int) (τ : Tmap) (ts us : List Addr) (ps qs : List Oc.PI2) (F : List Asr), vs = [.ref a, .ref b] ∧ Sts H (pto a (.lst (ts.map V.ref)) :: pto b (.lst (us.map V.ref)) :: im τ :: F) ∧ Prs τ ts ps ∧ Prs τ us qs ∧ Ok m ps ∧ In m qs ∧ (ps.length ≤ 10000 ∧ qs.length ≤ 10000) ∧
  ∀ (c : Addr) (ws : List Addr) (rs : List Oc.PI2) H', Prs τ ws rs → Ok m rs → rs.length ≤ ps.length + qs.length → Sts H' (pto c (.lst (ws.map V.ref)) :: pto a (.lst (ts.map V.ref)) :: pto b (.lst (us.map V.ref)) :: im τ :: F) → Q (.ref c) H'
theorem ok_law_joined (T : Txt P K mg) : FnOk P w K mg base CX0 1 T.f_law_joined T.fd_law_joined ["pointers", "more"] spJoined := by
  refine T.F_law_joined.ok sc_law_joined (fun vs H Q E h => by obtain ⟨a, b, m, τ, ts, us, ps, qs, F, rfl, _⟩ := h; rfl) (fun cdv A outer s H vs Q E hr h => ?_)
  obtain ⟨a, b, m, τ, ts, us, ps, qs, F, rfl, S, hts, hus, hok, hin, hl, q⟩ := h
  refine ⟨_, (pss_cons (ps_set (i := 2) sc_law_joined.nd rfl (Or.inl rfl) (pe_callTy (v_list (K := K) rfl) (by rfl) T.z_list PyProof.Rows.boot_list (pa_cons (pv 0) pa_nil)))
      (pss_cons (ps_for PassesOwn.never rfl (pi_list (pv 1)) (pg_name (i := 3) sc_law_joined.nd rfl (Or.inl rfl))
      (pss_one (ps_if (PW.pt (pw_and (pt_cmpR op_ne (pe_ix (v_ixT (K := K) rfl) (pv 3) pe_int (fun _ _ => rfl)) (pe_ix (v_ixT (K := K) rfl) (pv 3) pe_int (fun _ _ => rfl)) (nomark _)) (pw_and1 (pt_cmpR (v_notInPs (K := K) rfl (Oc.room65 hr)) (pv 3) (pv 2) (by rfl)))))
      (pss_one (ps_expr (pe_bm PySem.F.plainAttrs_list PySem.F.slot_list_append PySem.F.type_list_append v_append (pv 2) (pa_cons (pv 3) pa_nil))))
      pss_nil)))
      (pss_one (ps_ret (pv 2))))), st_2_2 rfl ?_⟩
  fail "go"
  rename_i c H1 S1
  refine for_prs (K := K) hus (fun i σ H => ∃ (x3 : Option V) (ws : List Addr) (rs : List Oc.PI2), σ = [some (.ref a), some (.ref b), some (.ref c), x3] ∧ Prs τ ws rs ∧ Ok m rs ∧ rs.length ≤ ps.length + i ∧ Sts H (pto c (.lst (ws.map V.ref)) :: pto a (.lst (ts.map V.ref)) :: pto b (.lst (us.map V.ref)) :: im τ :: F)) ⟨none, ts, ps, rfl, hts, hok, by omega, by fail "fp"⟩ (fun i σ H ⟨_, _, _, _, _, _, _, S⟩ => by fail "sq") ?_ ?_
  · rintro i t p σ H hi ht ⟨x3, ws, rs, rfl, hws, hrs, hrl, S⟩
    have hb := hin p (List.mem_of_getElem? hi)
    have hil : i < qs.length := (List.getElem?_eq_some_iff.mp hi).1
    have hwl := hws.len
    fail "go"
    with_reducible refine ifB (fun c1 => ?_) (fun c1 => ?_)
    · have c1 := ont c1
      fail "go"
      with_reducible refine ifB (fun c2 => ?_) (fun c2 => ?_)
      · have c2 := ont c2
        fail "go"
        rename_i S6
        simp only [mapS1] at S6
        exact ⟨_, _, rs ++ [p], rfl, hws.snoc ht, hrs.snoc ⟨hb.1, hb.2.1, hb.2.2.1, hb.2.2.2, c1⟩ c2, by rw [List.length_append]; show rs.length + 1 ≤ _; omega, S6⟩
      · fail "go"
        exact ⟨_, ws, rs, rfl, hws, hrs, by omega, by fail "fp"⟩
    · fail "go"
      exact ⟨_, ws, rs, rfl, hws, hrs, by omega, by fail "fp"⟩
  · rintro σ H ⟨x3, ws, rs, rfl, hws, hrs, hrl, S⟩
    fail "go"
    exact q c ws rs _ hws hrs hrl (by fail "fp")
local macro_rules | `(tactic| fail "gs") => `(tactic| ((with_reducible show K07.spJoined _ _ _ _); refine ⟨_, _, _, _, _, _, _, _, _, rfl, Oc.pr (by fail "fr3"), Oc.pr (by fail "prl"), Oc.pr (by fail "prl"), Oc.pr (by assumption), Oc.pr (by assumption), Oc.pr ⟨by omega, by omega⟩, fun oc ows ors oh op oo ol os => ?_⟩))

--PART
theorem gQM {K : PySem.W.Frag} {H : Hp} {a : Addr} {xs : List V} {τ : Tmap} {L : List Asr} (h : Sts H (sqc K a xs :: im τ :: L)) : Sts H (sqc K a xs :: im τ :: L) := h
def spWorld (K : PySem.W.Frag) : Sp := fun vs H Q _ => ∃ (a : Addr) (r : Int) (τ : Tmap) (ns : List Int) (F : List Asr), vs = [.ref a, .int r] ∧ Sts H (sqc K a (ns.map V.int) :: im τ :: F) ∧ (1 ≤ r ∧ r ≤ 900) ∧ ∀ υ (t b c d : Addr) (m sh : Int) (ts : List Addr) (ps : List Oc.PI2) H', Le τ υ → υ t = some [.int m, .ref b, .ref c, .ref d, .int sh] → (1 ≤ m ∧ m ≤ 1000) → m ≤ 9 + r → Prs υ ts ps → Ok m ps → ps.length ≤ 5000 →
  Sts H' (pto b (.lst (ts.map V.ref)) :: im υ :: sqc K a (ns.map V.int) :: F) → Q (.ref t) H'
theorem ok_law_world (T : Txt P K mg) : FnOk P w K mg base CX0 3 T.f_law_world T.fd_law_world ["script", "room"] (spWorld K) := by
  refine T.F_law_world.ok sc_law_world (fun vs H Q E h => by obtain ⟨a, r, τ, ns, F, rfl, _⟩ := h; rfl) (fun cdv A outer s H vs Q E hr h => ?_)
  obtain ⟨a, r, τ, ns, F, rfl, S, hr9, q⟩ := h
  refine ⟨_, (pss_cons (ps_set (i := 2) sc_law_world.nd rfl (Or.inl rfl) (v_call (ok_law_source T) (hr.mono (by decide)) (by rfl) T.g_law_source T.F_law_source.kp T.b_law_source (pa_cons (v_call (ok_law_cell T) (hr.mono (by decide)) (by rfl) T.g_law_cell T.F_law_cell.kp T.b_law_cell (pa_cons (pv 0) (pa_cons pe_int pa_nil))) pa_nil)))
      (pss_cons (ps_set (i := 3) sc_law_world.nd rfl (Or.inl rfl) (pe_op op_add pe_int (v_call (ok_law_take T) (hr.mono (by decide)) (by rfl) T.g_law_take T.F_law_take.kp T.b_law_take (pa_cons (pv 2) (pa_cons pe_int pa_nil)))))
      (oc_cut (ps_if (pt_cmpR op_eq (v_call (ok_law_take T) (hr.mono (by decide)) (by rfl) T.g_law_take T.F_law_take.kp T.b_law_take (pa_cons (pv 2) (pa_cons pe_int pa_nil))) pe_int (nomark _))
      (pss_one (ps_set (i := 3) sc_law_world.nd rfl (Or.inl rfl) (pe_op op_add pe_int (v_call (ok_law_take T) (hr.mono (by decide)) (by rfl) T.g_law_take T.F_law_take.kp T.b_law_take (pa_cons (pv 2) (pa_cons (pv 1) pa_nil))))))
      pss_nil)
      (pss_cons (ps_set (i := 4) sc_law_world.nd rfl (Or.inl rfl) (pe_ix (v_ixI (K := K) rfl) (pe_lst (pa_cons pe_int (pa_cons pe_int (pa_cons pe_int (pa_cons pe_int (pa_cons pe_int (pa_cons pe_int (pa_cons pe_int (pa_cons pe_int pa_nil))))))))) (v_call (ok_law_take T) (hr.mono (by decide)) (by rfl) T.g_law_take T.F_law_take.kp T.b_law_take (pa_cons (pv 2) (pa_cons pe_int pa_nil))) (fun _ _ => rfl)))
      (pss_cons (ps_set (i := 5) sc_law_world.nd rfl (Or.inl rfl) (v_call (ok_law_take T) (hr.mono (by decide)) (by rfl) T.g_law_take T.F_law_take.kp T.b_law_take (pa_cons (pv 2) (pa_cons pe_int pa_nil))))
      (pss_cons (ps_set (i := 6) sc_law_world.nd rfl (Or.inl rfl) (v_call (ok_law_parents T) (hr.mono (by decide)) (by rfl) T.g_law_parents T.F_law_parents.kp T.b_law_parents (pa_cons (v_call (ok_law_source T) (hr.mono (by decide)) (by rfl) T.g_law_source T.F_law_source.kp T.b_law_source (pa_cons (v_call (ok_law_cell T) (hr.mono (by decide)) (by rfl) T.g_law_cell T.F_law_cell.kp T.b_law_cell (pa_cons (pv 0) (pa_cons pe_int pa_nil))) pa_nil)) (pa_cons (pv 3) (pa_cons (pv 4) pa_nil)))))
      (pss_cons (ps_set (i := 7) sc_law_world.nd rfl (Or.inl rfl) (v_call (ok_law_pointers T) (hr.mono (by decide)) (by rfl) T.g_law_pointers T.F_law_pointers.kp T.b_law_pointers (pa_cons (v_call (ok_law_source T) (hr.mono (by decide)) (by rfl) T.g_law_source T.F_law_source.kp T.b_law_source (pa_cons (v_call (ok_law_cell T) (hr.mono (by decide)) (by rfl) T.g_law_cell T.F_law_cell.kp T.b_law_cell (pa_cons (pv 0) (pa_cons pe_int pa_nil))) pa_nil)) (pa_cons (pv 6) (pa_cons (pv 5) pa_nil)))))
      (pss_cons (ps_set (i := 7) sc_law_world.nd rfl (Or.inl rfl) (v_call (ok_law_joined T) (hr.mono (by decide)) (by rfl) T.g_law_joined T.F_law_joined.kp T.b_law_joined (pa_cons (pv 7) (pa_cons (v_call (ok_law_extras T) (hr.mono (by decide)) (by rfl) T.g_law_extras T.F_law_extras.kp T.b_law_extras (pa_cons (v_call (ok_law_source T) (hr.mono (by decide)) (by rfl) T.g_law_source T.F_law_source.kp T.b_law_source (pa_cons (v_call (ok_law_cell T) (hr.mono (by decide)) (by rfl) T.g_law_cell T.F_law_cell.kp T.b_law_cell (pa_cons (pv 0) (pa_cons pe_int pa_nil))) pa_nil)) (pa_cons (pv 3) (pa_cons (pv 4) pa_nil)))) pa_nil))))
      (pss_cons (ps_set (i := 8) sc_law_world.nd rfl (Or.inl rfl) (v_call (ok_law_names T) (hr.mono (by decide)) (by rfl) T.g_law_names T.F_law_names.kp T.b_law_names (pa_cons (v_call (ok_law_source T) (hr.mono (by decide)) (by rfl) T.g_law_source T.F_law_source.kp T.b_law_source (pa_cons (v_call (ok_law_cell T) (hr.mono (by decide)) (by rfl) T.g_law_cell T.F_law_cell.kp T.b_law_cell (pa_cons (pv 0) (pa_cons pe_int pa_nil))) pa_nil)) (pa_cons (pv 3) pa_nil))))
      (pss_cons (ps_set (i := 9) sc_law_world.nd rfl (Or.inl rfl) (v_call (ok_law_take T) (hr.mono (by decide)) (by rfl) T.g_law_take T.F_law_take.kp T.b_law_take (pa_cons (pv 2) (pa_cons (pe_op op_add pe_int (pe_callB (v_len (K := K) rfl) (by rfl) T.z_len PySem.boot_len (pa_cons (pv 7) pa_nil))) pa_nil))))
      (pss_one (ps_ret (pe_tup (pa_cons (pv 3) (pa_cons (v_call (ok_law_named T) (hr.mono (by decide)) (by rfl) T.g_law_named T.F_law_named.kp T.b_law_named (pa_cons (pv 7) (pa_cons (pv 8) (pa_cons (pv 9) pa_nil)))) (pa_cons (pv 8) (pa_cons (pv 6) (pa_cons (pv 4) pa_nil)))))))))))))))))), st_2_8 rfl ?_⟩
  fail "go"
  rename_i s0 H3 S3 d0 H4 d00 d01 S4
  refine ⟨fun σ H => ∃ m : Int, (1 ≤ m ∧ m ≤ 1000) ∧ m ≤ 9 + r ∧ σ = [some (.ref a), some (.int r), some (.ref s0), some (.int m), none, none, none, none, none, none] ∧ Sts H (src s0 :: sqc K a (ns.map V.int) :: im τ :: F), ?_, ?_⟩
  · fail "go"
    with_reducible refine ifB (fun c => ?_) (fun c => ?_)
    · fail "go"
      exact ⟨_, ⟨by omega, by omega⟩, by omega, rfl, by fail "fp"⟩
    · fail "go"
      exact ⟨_, ⟨by omega, by omega⟩, by omega, rfl, by fail "fp"⟩
  rintro σ H ⟨m, hm, hmr, rfl, S⟩
  fail "go"
  rename_i l8 H6 S6 d2 H7 d20 d21 S7
  refine g_ixI (K := K) (ns := [0, 0, 1, 2, 3, 4, 5, 5]) (SqL.of (by fail "hp")) ⟨by omega, by show d2 < 8; omega⟩ ?_
  fail "go"
  rename_i υ2 eb ets eps H8 le2 hep hei hel S8 jc jts jps H9 hjp hjo hjl S9 c8 H10 c80 S10 nsrc H11 S11 na nns H12 hnn S12
  have htl : (jts.map V.ref).length = jps.length := by rw [List.length_map]; exact hjp.len
  fail "go"
  rename_i d5 H13 d50 d51 S13 υ3 c5 us5 qs5 H14 le5 hq5 ho5 hl5 S14 t5 H15 υ4 l6 e6 S15
  refine q υ4 t5 c5 na _ m _ us5 qs5 _ ?_ e6 hm hmr (hq5.mono l6) ho5 (by omega) (by fail "fp")
  fail "le"
local macro_rules | `(tactic| fail "gs") => `(tactic| ((with_reducible show K07.spWorld _ _ _ _ _); refine ⟨_, _, _, _, _, rfl, K07.gQM (by fail "fr2"), Oc.pr (by fail "side"), fun oυ ot ob oc od om osh ots ops oh ole oe onb onr op oo ol os => ?_⟩))

--PART
theorem small11 {k : Int} (h0 : 0 ≤ k) (h1 : k < 11) : 0 ≤ gI [0, 1, 1, 2, 2, 3, 3, 4, 5, 5, 60] k ∧ gI [0, 1, 1, 2, 2, 3, 3, 4, 5, 5, 60] k ≤ 60 := by
  have z : ∀ x ∈ ([0, 1, 1, 2, 2, 3, 3, 4, 5, 5, 60] : List Int), 0 ≤ x ∧ x ≤ 60 := by decide
  exact z _ (gI_mem h0 h1)
def spLines : Sp := fun vs H Q _ => ∃ (p : Addr) (F : List Asr), vs = [.ref p] ∧ Sts H (src p :: F) ∧ ∀ (c : Int) (H' : Hp), 0 ≤ c → c ≤ 60 → Sts H' (src p :: F) → Q (.int c) H'
theorem ok_law_lines (T : Txt P K mg) : FnOk P w K mg base CX0 2 T.f_law_lines T.fd_law_lines ["source"] spLines := by
  refine T.F_law_lines.ok sc_law_lines (fun vs H Q E h => by obtain ⟨p, F, rfl, _⟩ := h; rfl) (fun cdv A outer s H vs Q E hr h => ?_)
  obtain ⟨p, F, rfl, S, q⟩ := h
  refine ⟨_, (pss_cons (ps_set (i := 1) sc_law_lines.nd rfl (Or.inl rfl) (v_call (ok_law_take T) (hr.mono (by decide)) (by rfl) T.g_law_take T.F_law_take.kp T.b_law_take (pa_cons (pv 0) (pa_cons pe_int pa_nil))))
      (pss_cons (ps_if (pt_cmpR op_eq (pv 1) pe_int (nomark _))
      (pss_one (ps_ret (v_call (ok_law_take T) (hr.mono (by decide)) (by rfl) T.g_law_take T.F_law_take.kp T.b_law_take (pa_cons (pv 0) (pa_cons pe_int pa_nil)))))
      pss_nil)
      (pss_one (ps_ret (pe_ix (v_ixI (K := K) rfl) (pe_lst (pa_cons pe_int (pa_cons pe_int (pa_cons pe_int (pa_cons pe_int (pa_cons pe_int (pa_cons pe_int (pa_cons pe_int (pa_cons pe_int (pa_cons pe_int (pa_cons pe_int (pa_cons pe_int pa_nil)))))))))))) (pv 1) (fun _ _ => rfl)))))), st_1_1 rfl ?_⟩
  fail "go"
  rename_i d H1 d0 d1 S1
  with_reducible refine ifB (fun c => ?_) (fun c => ?_)
  · fail "go"
    exact q _ _ (by omega) (by omega) (by fail "fp")
  · have c := odf c
    fail "go"
    have z := small11 d0 (by omega)
    refine g_ixI (K := K) (ns := [0, 1, 1, 2, 2, 3, 3, 4, 5, 5, 60]) (SqL.of (by fail "hp")) ⟨by omega, by show d < 11; omega⟩ ?_
    exact q _ _ z.1 z.2 (by fail "fp")
local macro_rules | `(tactic| fail "gs") => `(tactic| ((with_reducible show K07.spLines _ _ _ _); refine ⟨_, _, rfl, K07.gS (by fail "fr1"), fun (oc : Int) (oh : L2.Hp) o0 o1 os => ?_⟩))
def spOwners : Sp := fun vs H Q _ => ∃ (p a : Addr) (m : Int) (τ : Tmap) (ts : List Addr) (ps : List Oc.PI2) (F : List Asr), vs = [.ref p, .ref a] ∧ Sts H (src p :: pto a (.lst (ts.map V.ref)) :: im τ :: F) ∧ Prs τ ts ps ∧ Ok m ps ∧ ps.length ≤ 10000 ∧
  ∀ (b : Addr) (os : List Int) H', os.length = ps.length → (∀ x ∈ os, 0 ≤ x ∧ x < m) → Sts H' (pto b (.lst (os.map V.int)) :: pto a (.lst (ts.map V.ref)) :: im τ :: F) → Q (.ref b) H'
theorem ok_law_owners (T : Txt P K mg) : FnOk P w K mg base CX0 2 T.f_law_owners T.fd_law_owners ["source", "pairs"] spOwners := by
  refine T.F_law_owners.ok sc_law_owners (fun vs H Q E h => by obtain ⟨p, a, m, τ, ts, ps, F, rfl, _⟩ := h; rfl) (fun cdv A outer s H vs Q E hr h => ?_)
  obtain ⟨p, a, m, τ, ts, ps, F, rfl, S, hts, hok, hpl, q⟩ := h
  have htl := hts.len
  have htl2 : (ts.map V.ref).length = ps.length := by rw [List.length_map]; exact htl
  refine ⟨_, (pss_cons (ps_set (i := 2) sc_law_owners.nd rfl (Or.inr rfl) (pe_lc (own := [("k", 3)]) (g := gName 3) (tt := tYes) rfl sc_law_owners.nd (pi_range1 rfl T.z_range (pa_cons (pe_callB (v_min2 rfl) (by rfl) T.z_min PyProof.Rows.boot_min (pa_cons pe_int (pa_cons (pe_callB (v_len (K := K) rfl) (by rfl) T.z_len PySem.boot_len (pa_cons (pv 1) pa_nil)) pa_nil))) pa_nil)) (blkOk_by (own := [("k", 3)]) (N := ["source", "pairs", "sides", "k"]) (sc := defScope s_law_owners) (by decide +kernel)) (fun _ _ _ _ _ => (pg_name (i := 3) sc_law_owners.nd rfl (Or.inl rfl))) (fun _ _ _ _ _ => pts_nil) (fun _ _ _ _ _ => (v_call (ok_law_take T) (hr.mono (by decide)) (by rfl) T.g_law_take T.F_law_take.kp T.b_law_take (pa_cons (pv 0) (pa_cons pe_int pa_nil))))))
      (pss_one (ps_ret (pe_lc (own := [("k", 3)]) (g := gName 3) (tt := tYes) rfl sc_law_owners.nd (pi_range1 rfl T.z_range (pa_cons (pe_callB (v_len (K := K) rfl) (by rfl) T.z_len PySem.boot_len (pa_cons (pv 1) pa_nil)) pa_nil)) (blkOk_by (own := [("k", 3)]) (N := ["source", "pairs", "sides", "k"]) (sc := defScope s_law_owners) (by decide +kernel)) (fun _ _ _ _ _ => (pg_name (i := 3) sc_law_owners.nd rfl (Or.inl rfl))) (fun _ _ _ _ _ => pts_nil) (fun _ _ _ _ _ => (pe_ix (v_ixT (K := K) rfl) (pe_ix (v_ix (K := K) rfl) (pv 1) (pv 3) (fun _ _ => rfl)) (pe_ix (v_ixI (K := K) rfl) (pv 2) (pe_op op_mod (pv 3) pe_int) (fun _ _ => rfl)) (fun _ _ => rfl))))))), st_2_2 rfl ?_⟩
  fail "go"
  rename_i D H2 S2
  refine oc_lcR (lo := 0) (n := (min 60 ((ts.map V.ref).length : Int)).toNat) (fun i H => ∃ ns : List Int, ns.length = i ∧ (∀ x ∈ ns, 0 ≤ x ∧ x ≤ 1) ∧ Sts H (pto D (.lst (ns.map V.int)) :: src p :: pto a (.lst (ts.map V.ref)) :: im τ :: F)) ⟨[], rfl, (fun _ h => nomatch h), by fail "fp"⟩ ?_ ?_
  · rintro i H hi ⟨ns, hl, hn, S⟩
    fail "go"
    rename_i d H3 d0 d1 S3
    fail "lce"
    refine ⟨ns ++ [d], by rw [List.length_append, hl]; rfl, fun x hx => ?_, ?_⟩
    · rcases List.mem_append.mp hx with hx | hx
      · exact hn x hx
      · rw [List.mem_singleton.mp hx]
        omega
    · rw [List.map_append]
      fail "fp"
  rintro H ⟨sd, hl, hn, S⟩
  rw [List.length_map] at hl
  fail "go"
  rename_i E2 H4 S4
  refine oc_lcR (lo := 0) (n := (((ts.map V.ref).length : Int)).toNat) (fun i H => ∃ ns : List Int, ns.length = i ∧ (∀ x ∈ ns, 0 ≤ x ∧ x < m) ∧ Sts H (pto E2 (.lst (ns.map V.int)) :: pto D (.lst (sd.map V.int)) :: src p :: pto a (.lst (ts.map V.ref)) :: im τ :: F)) ⟨[], rfl, (fun _ h => nomatch h), by fail "fp"⟩ ?_ ?_
  · rintro i H hi ⟨ns, hnl, hns, S⟩
    rw [List.length_map] at hi
    obtain ⟨t, r, e1, e2, e3⟩ := atI_ref hts (i := 0 + (i : Int)) (by omega) (by omega)
    have hb := hok.2 r (List.mem_of_getElem? e1)
    have hv := hn _ (gI_mem (ns := sd) (i := (0 + (i : Int)) % 60) (by omega) (by omega))
    fail "go"
    refine g_ix (K := K) (by fail "sq") e3 ?_
    fail "go"
    obtain hv | hv : gI sd ((0 + (i : Int)) % 60) = 0 ∨ gI sd ((0 + (i : Int)) % 60) = 1 := by omega
    all_goals
      rw [hv]
      fail "go"
      fail "lce"
      rename_i S5
      refine ⟨ns ++ [_], by rw [List.length_append, hnl]; rfl, ?_, by rw [List.map_append]; exact S5⟩
      intro x hx
      rcases List.mem_append.mp hx with hx | hx
      · exact hns x hx
      · rw [List.mem_singleton.mp hx]
        omega
  · rintro H ⟨ns, hnl, hns, S⟩
    rw [List.length_map] at hnl
    exact q E2 ns _ (by omega) hns (by fail "fp")
theorem gSLM {H : Hp} {a b : Addr} {ts : List Addr} {τ : Tmap} {L : List Asr} (h : Sts H (src a :: pto b (.lst (ts.map V.ref)) :: im τ :: L)) : Sts H (src a :: pto b (.lst (ts.map V.ref)) :: im τ :: L) := h
local macro_rules | `(tactic| fail "gs") => `(tactic| ((with_reducible show K07.spOwners _ _ _ _); refine ⟨_, _, _, _, _, _, _, rfl, K07.gSLM (by fail "fr3"), Oc.pr (by fail "prl"), Oc.pr (by assumption), Oc.pr (by omega), fun ob oos oh ol ob os => ?_⟩))

--PART
theorem b_snoc {c x : Int} {bl : List Int} (h : ∀ y ∈ bl, 0 ≤ y ∧ y ≤ c) (h0 : 0 ≤ x) (h1 : x ≤ c) : ∀ y ∈ bl ++ [x], 0 ≤ y ∧ y ≤ c := fun y hy => by
  rcases List.mem_append.mp hy with hy | hy
  · exact h y hy
  · rw [List.mem_singleton.mp hy]
    exact ⟨h0, h1⟩
theorem b_set {c x : Int} {bl : List Int} {n : Nat} (h : ∀ y ∈ bl, 0 ≤ y ∧ y ≤ c) (h0 : 0 ≤ x) (h1 : x ≤ c) : ∀ y ∈ bl.set n x, 0 ≤ y ∧ y ≤ c := fun y hy => by
  rcases List.mem_or_eq_of_mem_set hy with q | q
  · exact h y q
  · rw [q]
    exact ⟨h0, h1⟩
theorem small3 {k : Int} (h0 : 0 ≤ k) (h1 : k < 3) : 0 ≤ gI [0, 0, 1] k ∧ gI [0, 0, 1] k ≤ 1 := by
  have z : ∀ x ∈ ([0, 0, 1] : List Int), 0 ≤ x ∧ x ≤ 1 := by decide
  exact z _ (gI_mem h0 h1)
def spTable : Sp := fun vs H Q _ => ∃ (p a : Addr) (m : Int) (τ : Tmap) (os : List Int) (F : List Asr), vs = [.ref p, .int m, .ref a] ∧ Sts H (src p :: pto a (.lst (os.map V.int)) :: im τ :: F) ∧ (1 ≤ m ∧ m ≤ 1000) ∧ (∀ x ∈ os, 0 ≤ x ∧ x < m) ∧
  ∀ υ (t b : Addr) (l : Int) (bl : List Int) H', Le τ υ → υ t = some [.int l, .ref b] → 0 ≤ l → (bl.length : Int) = m → (∀ x ∈ bl, 0 ≤ x ∧ x ≤ l) → Sts H' (pto b (.lst (bl.map V.int)) :: im υ :: src p :: pto a (.lst (os.map V.int)) :: F) → Q (.ref t) H'
theorem ok_law_table (T : Txt P K mg) : FnOk P w K mg base CX0 3 T.f_law_table T.fd_law_table ["source", "many", "owners"] spTable := by
  refine T.F_law_table.ok sc_law_table (fun vs H Q E h => by obtain ⟨p, a, m, τ, os, F, rfl, _⟩ := h; rfl) (fun cdv A outer s H vs Q E hr h => ?_)
  obtain ⟨p, a, m, τ, os, F, rfl, S, hm, hos, q⟩ := h
  refine ⟨_, (pss_cons (ps_set (i := 3) sc_law_table.nd rfl (Or.inl rfl) (v_call (ok_law_lines T) (hr.mono (by decide)) (by rfl) T.g_law_lines T.F_law_lines.kp T.b_law_lines (pa_cons (pv 0) pa_nil)))
      (pss_cons (ps_set (i := 4) sc_law_table.nd rfl (Or.inl rfl) (v_call (ok_law_take T) (hr.mono (by decide)) (by rfl) T.g_law_take T.F_law_take.kp T.b_law_take (pa_cons (pv 0) (pa_cons pe_int pa_nil))))
      (pss_cons (ps_set (i := 5) sc_law_table.nd rfl (Or.inl rfl) (v_call (ok_law_take T) (hr.mono (by decide)) (by rfl) T.g_law_take T.F_law_take.kp T.b_law_take (pa_cons (pv 0) (pa_cons pe_int pa_nil))))
      (pss_cons (ps_set (i := 6) sc_law_table.nd rfl (Or.inl rfl) (v_call (ok_law_take T) (hr.mono (by decide)) (by rfl) T.g_law_take T.F_law_take.kp T.b_law_take (pa_cons (pv 0) (pa_cons (pv 1) pa_nil))))
      (pss_cons (ps_set (i := 7) sc_law_table.nd rfl (Or.inl rfl) (pe_lst pa_nil))
      (pss_cons (ps_for PassesOwn.never rfl (pi_range1 rfl T.z_range (pa_cons (pv 1) pa_nil)) (pg_name (i := 8) sc_law_table.nd rfl (Or.inl rfl))
      (pss_one (ps_if (pt_cmpR op_lt (pv 4) pe_int (nomark _))
      (pss_one (ps_expr (pe_bm PySem.F.plainAttrs_list PySem.F.slot_list_append PySem.F.type_list_append v_appendI (pv 7) (pa_cons (pe_callB (v_min2 rfl) (by rfl) T.z_min PyProof.Rows.boot_min (pa_cons pe_int (pa_cons (pe_bm PySem.F.plainAttrs_list PySem.F.slot_list_count PySem.F.type_list_count (v_countI (K := K) rfl) (pv 2) (pa_cons (pv 8) pa_nil)) pa_nil))) pa_nil))))
      (pss_one (ps_if (pt_cmpR op_eq (pv 4) pe_int (nomark _))
      (pss_one (ps_expr (pe_bm PySem.F.plainAttrs_list PySem.F.slot_list_append PySem.F.type_list_append v_appendI (pv 7) (pa_cons (pe_callB (v_min2 rfl) (by rfl) T.z_min PyProof.Rows.boot_min (pa_cons pe_int (pa_cons (pe_op op_add (pe_bm PySem.F.plainAttrs_list PySem.F.slot_list_count PySem.F.type_list_count (v_countI (K := K) rfl) (pv 2) (pa_cons (pv 8) pa_nil)) (pe_ix (v_ixI (K := K) rfl) (pe_lst (pa_cons pe_int (pa_cons pe_int (pa_cons pe_int pa_nil)))) (v_call (ok_law_take T) (hr.mono (by decide)) (by rfl) T.g_law_take T.F_law_take.kp T.b_law_take (pa_cons (pv 0) (pa_cons pe_int pa_nil))) (fun _ _ => rfl))) pa_nil))) pa_nil))))
      (pss_one (ps_if (pt_cmpR op_eq (pv 4) pe_int (nomark _))
      (pss_one (ps_expr (pe_bm PySem.F.plainAttrs_list PySem.F.slot_list_append PySem.F.type_list_append v_appendI (pv 7) (pa_cons (v_call (ok_law_take T) (hr.mono (by decide)) (by rfl) T.g_law_take T.F_law_take.kp T.b_law_take (pa_cons (pv 0) (pa_cons (pe_op op_add (pv 3) pe_int) pa_nil))) pa_nil))))
      (pss_one (ps_expr (pe_bm PySem.F.plainAttrs_list PySem.F.slot_list_append PySem.F.type_list_append v_appendI (pv 7) (pa_cons (pe_callB (v_min2 rfl) (by rfl) T.z_min PyProof.Rows.boot_min (pa_cons (pv 3) (pa_cons (v_call (ok_law_take T) (hr.mono (by decide)) (by rfl) T.g_law_take T.F_law_take.kp T.b_law_take (pa_cons (pv 0) (pa_cons pe_int pa_nil))) pa_nil))) pa_nil)))))))))))
      (pss_cons (ps_set (i := 3) sc_law_table.nd rfl (Or.inl rfl) (pe_callB (v_max2 rfl) (by rfl) T.z_max PyProof.Rows.boot_max (pa_cons (pv 3) (pa_cons (pe_callB (v_max (K := K) rfl rfl) (by rfl) T.z_max PyProof.Rows.boot_max (pa_cons (pv 7) pa_nil)) pa_nil))))
      (pss_cons (ps_if (pt_cmpR op_eq (pv 5) pe_int (nomark _))
      (pss_one (ps_asg (pe_callB (v_min2 rfl) (by rfl) T.z_min PyProof.Rows.boot_min (pa_cons (pv 3) (pa_cons (pe_op op_add (pe_ix (v_ixI (K := K) rfl) (pv 7) (pv 6) (fun _ _ => rfl)) pe_int) pa_nil))) (pg_sub (pv 7) (pv 6) v_setI)))
      pss_nil)
      (pss_cons (ps_if (pt_cmpR op_gt (pv 5) pe_int (nomark _))
      (pss_cons (ps_if (PW.pt (pw_and (pt_cmpR op_eq (pe_ix (v_ixI (K := K) rfl) (pv 7) (pv 6) (fun _ _ => rfl)) pe_int (nomark _)) (pw_and1 (pt_cmpR (v_neIs (K := K) rfl hr.units) (pv 2) (pe_lst pa_nil) (nomark _)))))
      (pss_one (ps_set (i := 6) sc_law_table.nd rfl (Or.inl rfl) (pe_ix (v_ixI (K := K) rfl) (pv 2) pe_int (fun _ _ => rfl))))
      pss_nil)
      (pss_one (ps_asg (pe_callB (v_max2 rfl) (by rfl) T.z_max PyProof.Rows.boot_max (pa_cons pe_int (pa_cons (pe_op op_sub (pe_ix (v_ixI (K := K) rfl) (pv 7) (pv 6) (fun _ _ => rfl)) pe_int) pa_nil))) (pg_sub (pv 7) (pv 6) v_setI))))
      pss_nil)
      (pss_one (ps_ret (pe_tup (pa_cons (pv 3) (pa_cons (pv 7) pa_nil)))))))))))))), st_3_6 rfl ?_⟩
  fail "go"
  rename_i li H1 li0 li1 S1 mo H2 mo0 mo1 S2 ch H3 ch0 ch1 S3 pg H4 pg0 pg1 S4 b H5 S5
  refine for_range (lo := 0) (n := m.toNat) (fun i σ H => ∃ (x8 : Option V) (bl : List Int), σ = [some (.ref p), some (.int m), some (.ref a), some (.int li), some (.int mo), some (.int ch), some (.int pg), some (.ref b), x8] ∧ bl.length = i ∧ (∀ x ∈ bl, 0 ≤ x ∧ x ≤ 100) ∧ Sts H (pto b (.lst (bl.map V.int)) :: src p :: pto a (.lst (os.map V.int)) :: im τ :: F)) ⟨none, [], rfl, rfl, (fun _ h => nomatch h), by fail "fp"⟩ ?_ ?_
  · rintro i σ H hi ⟨x8, bl, rfl, hl, hb, S⟩
    fail "go"
    with_reducible refine ifB (fun c1 => ?_) (fun c1 => ?_)
    · fail "go"
      rename_i S6
      (refine ⟨_, _, rfl, ?_, ?_, S6⟩; (rw [List.length_append, hl]; rfl); exact b_snoc hb (by omega) (by omega))
    · fail "go"
      with_reducible refine ifB (fun c2 => ?_) (fun c2 => ?_)
      · fail "go"
        rename_i t3 H6 S6 d H7 d0 d1 S7 H8 S8
        have z := small3 d0 d1
        refine ⟨_, bl ++ [min 60 (((os.count (0 + (i : Int)) : Nat) : Int) + gI [0, 0, 1] d)], rfl, ?_, ?_, by fail "fp"⟩
        · rw [List.length_append, hl]
          rfl
        · exact b_snoc hb (by omega) (by omega)
      · fail "go"
        with_reducible refine ifB (fun c3 => ?_) (fun c3 => ?_)
        · fail "go"
          rename_i S6
          (refine ⟨_, _, rfl, ?_, ?_, S6⟩; (rw [List.length_append, hl]; rfl); exact b_snoc hb (by omega) (by omega))
        · fail "go"
          rename_i S6
          (refine ⟨_, _, rfl, ?_, ?_, S6⟩; (rw [List.length_append, hl]; rfl); exact b_snoc hb (by omega) (by omega))
  · rintro σ H ⟨x8, bl, rfl, hl, hb, S⟩
    fail "go"
    refine g_max (by fail "sq") (by omega) (fun x hx hle => ?_)
    have hb2 : ∀ y ∈ bl, 0 ≤ y ∧ y ≤ max li x := fun y hy => by
      have h1 := hb y hy
      have h2 := hle y hy
      omega
    have hpg := hb2 _ (gI_mem (ns := bl) (i := pg) pg0 (by omega))
    by_cases hc1 : ch = 1
    · fail "gd"
      rename_i H8 S8 t H9 υ l1 e1 S9
      exact q υ t b _ (bl.set pg.toNat (min (max li x) (gI bl pg + 1))) _ l1 e1 (by omega) (by rw [List.length_set]; omega) (b_set hb2 (by omega) (by omega)) (by fail "fp")
    by_cases hc2 : 1 < ch
    · fail "gd"
      with_reducible refine ifB (fun c4 => ?_) (fun c4 => ?_)
      · fail "go"
        with_reducible refine ifB (fun c5 => ?_) (fun c5 => ?_)
        · have c5 := ont c5
          have hol : 0 < os.length := List.length_pos_iff.mpr c5
          have h00 := hos _ (gI_mem (ns := os) (i := 0) (by omega) (by omega))
          have hpg2 := hb2 _ (gI_mem (ns := bl) (i := gI os 0) (by omega) (by omega))
          fail "go"
          rename_i H8 S8 t H9 υ l1 e1 S9
          exact q υ t b _ (bl.set (gI os 0).toNat (max 0 (gI bl (gI os 0) - 1))) _ l1 e1 (by omega) (by rw [List.length_set]; omega) (b_set hb2 (by omega) (by omega)) (by fail "fp")
        · fail "go"
          rename_i H8 S8 t H9 υ l1 e1 S9
          exact q υ t b _ (bl.set pg.toNat (max 0 (gI bl pg - 1))) _ l1 e1 (by omega) (by rw [List.length_set]; omega) (b_set hb2 (by omega) (by omega)) (by fail "fp")
      · fail "go"
        rename_i H8 S8 t H9 υ l1 e1 S9
        exact q υ t b _ (bl.set pg.toNat (max 0 (gI bl pg - 1))) _ l1 e1 (by omega) (by rw [List.length_set]; omega) (b_set hb2 (by omega) (by omega)) (by fail "fp")
    · fail "gd"
      rename_i t H9 υ l1 e1 S9
      exact q υ t b _ bl _ l1 e1 (by omega) (by omega) hb2 (by fail "fp")
local macro_rules | `(tactic| fail "gs") => `(tactic| ((with_reducible show K07.spTable _ _ _ _); refine ⟨_, _, _, _, _, _, rfl, K07.gSI (by fail "fr3"), Oc.pr ⟨by omega, by omega⟩, Oc.pr (by assumption), fun oυ ot ob ol obl oh ole oe o0 oL ob os => ?_⟩))
def spNear : Sp := fun vs H Q _ => ∃ (p a : Addr) (m l : Int) (bl : List Int) (F : List Asr), vs = [.ref p, .int l, .ref a] ∧ Sts H (src p :: pto a (.lst (bl.map V.int)) :: F) ∧ (bl.length : Int) = m ∧ (1 ≤ m ∧ m ≤ 1000) ∧ (∀ x ∈ bl, 0 ≤ x ∧ x ≤ l) ∧
  ∀ (b : Addr) (nl : List Int) H', (nl.length : Int) = m → (∀ x ∈ nl, 0 ≤ x ∧ x ≤ l) → Sts H' (pto b (.lst (nl.map V.int)) :: src p :: pto a (.lst (bl.map V.int)) :: F) → Q (.ref b) H'
theorem ok_law_near (T : Txt P K mg) : FnOk P w K mg base CX0 2 T.f_law_near T.fd_law_near ["source", "lines", "blank"] spNear := by
  refine T.F_law_near.ok sc_law_near (fun vs H Q E h => by obtain ⟨p, a, m, l, bl, F, rfl, _⟩ := h; rfl) (fun cdv A outer s H vs Q E hr h => ?_)
  obtain ⟨p, a, m, l, bl, F, rfl, S, hbl, hm, hb, q⟩ := h
  refine ⟨_, (pss_cons (ps_set (i := 3) sc_law_near.nd rfl (Or.inl rfl) (pe_callTy (v_list (K := K) rfl) (by rfl) T.z_list PyProof.Rows.boot_list (pa_cons (pv 2) pa_nil)))
      (pss_cons (ps_set (i := 4) sc_law_near.nd rfl (Or.inl rfl) (v_call (ok_law_take T) (hr.mono (by decide)) (by rfl) T.g_law_take T.F_law_take.kp T.b_law_take (pa_cons (pv 0) (pa_cons (pe_callB (v_lenI (K := K) rfl) (by rfl) T.z_len PySem.boot_len (pa_cons (pv 2) pa_nil)) pa_nil))))
      (pss_cons (ps_set (i := 5) sc_law_near.nd rfl (Or.inl rfl) (pe_cmpR op_eq (v_call (ok_law_take T) (hr.mono (by decide)) (by rfl) T.g_law_take T.F_law_take.kp T.b_law_take (pa_cons (pv 0) (pa_cons pe_int pa_nil))) pe_int (nomark _)))
      (pss_cons (ps_if (PW.pt (pw_and (pt_cmpR op_gt (pe_ix (v_ixI (K := K) rfl) (pv 3) (pv 4) (fun _ _ => rfl)) pe_int (nomark _)) (pw_and1 (PW.pt (pw_or (pt_val (pv 5)) (pw_or1 (pt_cmpR op_eq (pe_ix (v_ixI (K := K) rfl) (pv 3) (pv 4) (fun _ _ => rfl)) (pv 1) (nomark _))))))))
      (pss_one (ps_asg (pe_op op_sub (pe_ix (v_ixI (K := K) rfl) (pv 3) (pv 4) (fun _ _ => rfl)) pe_int) (pg_sub (pv 3) (pv 4) v_setI)))
      (pss_one (ps_if (pt_cmpR op_lt (pe_ix (v_ixI (K := K) rfl) (pv 3) (pv 4) (fun _ _ => rfl)) (pv 1) (nomark _))
      (pss_one (ps_asg (pe_op op_add (pe_ix (v_ixI (K := K) rfl) (pv 3) (pv 4) (fun _ _ => rfl)) pe_int) (pg_sub (pv 3) (pv 4) v_setI)))
      pss_nil)))
      (pss_one (ps_ret (pv 3))))))), st_3_3 rfl ?_⟩
  fail "go"
  rename_i n H1 S1 pg H2 pg0 pg1 S2 fw H3 fw0 fw1 S3
  have hpg := hb _ (gI_mem (ns := bl) (i := pg) pg0 (by omega))
  by_cases h0 : gI bl pg = 0
  · fail "gd"
    with_reducible refine ifB (fun c => ?_) (fun c => ?_)
    · have c := odt c
      fail "go"
      exact q _ (bl.set pg.toNat (gI bl pg + 1)) _ (by rw [List.length_set]; exact hbl) (b_set hb (by omega) (by omega)) (by fail "fp")
    · fail "go"
      exact q _ bl _ hbl hb (by fail "fp")
  by_cases h1 : fw = 0
  · fail "gd"
    exact q _ (bl.set pg.toNat (gI bl pg - 1)) _ (by rw [List.length_set]; exact hbl) (b_set hb (by omega) (by omega)) (by fail "fp")
  by_cases h2 : gI bl pg = l
  · fail "gd"
    exact q _ (bl.set pg.toNat (gI bl pg - 1)) _ (by rw [List.length_set]; exact hbl) (b_set hb (by omega) (by omega)) (by fail "fp")
  · fail "gd"
    exact q _ (bl.set pg.toNat (gI bl pg + 1)) _ (by rw [List.length_set]; exact hbl) (b_set hb (by omega) (by omega)) (by fail "fp")
theorem gSL2 {H : Hp} {a b : Addr} {ns : List Int} {L : List Asr} (h : Sts H (src a :: pto b (.lst (ns.map V.int)) :: L)) : Sts H (src a :: pto b (.lst (ns.map V.int)) :: L) := h
local macro_rules | `(tactic| fail "gs") => `(tactic| ((with_reducible show K07.spNear _ _ _ _); refine ⟨_, _, _, _, _, _, rfl, K07.gSL2 (by fail "fr2"), rfl, Oc.pr ⟨by omega, by omega⟩, Oc.pr (by assumption), fun ob onl oh oL obl os => ?_⟩))

--PART
/-! ### the law's own judges -/
def spIsInt : Sp := fun vs H Q _ => ∃ i : Int, vs = [.int i] ∧ Q (.bl true) H
theorem ok_law_is_integer (T : Txt P K mg) : FnOk P w K mg base CX0 1 T.f_law_is_integer T.fd_law_is_integer ["told"] spIsInt := by
  refine T.F_law_is_integer.ok sc_law_is_integer (fun vs H Q E h => by obtain ⟨i, rfl, _⟩ := h; rfl) (fun cdv A outer s H vs Q E hr h => ?_)
  obtain ⟨i, rfl, q⟩ := h
  refine ⟨_, (pss_one (ps_ret (pe_and (pe_callB v_isII (by rfl) T.z_isinstance PyProof.Rows.boot_isinstance (pa_cons (pv 0) (pa_cons (pe_bltn (v := .ty "int") (by rfl) T.z_int PyProof.Rows.boot_int rfl) pa_nil))) (pe_one (pe_not (pe_callB v_isIB (by rfl) T.z_isinstance PyProof.Rows.boot_isinstance (pa_cons (pv 0) (pa_cons (pe_bltn (v := .ty "bool") (by rfl) T.z_bool PyProof.Rows.boot_bool rfl) pa_nil)))))))), st_1_0 rfl ?_⟩
  fail "go"
  exact q
local macro_rules | `(tactic| fail "gs") => `(tactic| ((with_reducible show K07.spIsInt _ _ _ _); refine ⟨_, rfl, ?_⟩))
def spIsDeal : Sp := fun vs H Q _ => ∃ (a b c : Addr) (m : Int) (τ : Tmap) (ts : List Addr) (ps : List Oc.PI2) (bl os : List Int) (F : List Asr), vs = [.ref a, .ref b, .ref c] ∧ Sts H (pto a (.lst (ts.map V.ref)) :: pto b (.lst (bl.map V.int)) :: pto c (.lst (os.map V.int)) :: im τ :: F) ∧ Prs τ ts ps ∧ os.length = ps.length ∧
  (∀ (i : Nat) p o, ps[i]? = some p → os[i]? = some o → o = p.1 ∨ o = p.2) ∧ ((bl.length : Int) = m ∧ 1 ≤ m ∧ m ≤ 1000) ∧ (∀ x ∈ os, 0 ≤ x ∧ x < m) ∧ (∀ k : Int, 0 ≤ k → k < m → (os.count k : Int) ≤ gI bl k) ∧ ps.length ≤ 90000 ∧
  ∀ H', Sts H' (pto a (.lst (ts.map V.ref)) :: pto b (.lst (bl.map V.int)) :: pto c (.lst (os.map V.int)) :: im τ :: F) → Q (.bl true) H'
theorem ok_law_is_dealing (T : Txt P K mg) : FnOk P w K mg base CX0 2 T.f_law_is_dealing T.fd_law_is_dealing ["pairs", "blank", "told"] spIsDeal := by
  refine T.F_law_is_dealing.ok sc_law_is_dealing (fun vs H Q E h => by obtain ⟨a, b, c, m, τ, ts, ps, bl, os, F, rfl, _⟩ := h; rfl) (fun cdv A outer s H vs Q E hr h => ?_)
  obtain ⟨a, b, c, m, τ, ts, ps, bl, os, F, rfl, S, hts, hol, hend, ⟨hbl, hm1, hm2⟩, hos, hfit, hpl, q⟩ := h
  have htl := hts.len
  have htl2 : (ts.map V.ref).length = ps.length := by rw [List.length_map]; exact htl
  refine ⟨_, (pss_cons (ps_if (PW.pt (pw_or (pt_not (pt_val (pe_callB v_isLL (by rfl) T.z_isinstance PyProof.Rows.boot_isinstance (pa_cons (pv 2) (pa_cons (pe_bltn (v := .ty "list") (by rfl) T.z_list PyProof.Rows.boot_list rfl) pa_nil))))) (pw_or1 (pt_cmpR op_ne (pe_callB (v_lenI (K := K) rfl) (by rfl) T.z_len PySem.boot_len (pa_cons (pv 2) pa_nil)) (pe_callB (v_len (K := K) rfl) (by rfl) T.z_len PySem.boot_len (pa_cons (pv 0) pa_nil)) (nomark _)))))
      (pss_one (ps_ret pe_bl))
      pss_nil)
      (pss_cons (ps_set (i := 3) sc_law_is_dealing.nd rfl (Or.inl rfl) (pe_callTy (v_list (K := K) rfl) (by rfl) T.z_list PyProof.Rows.boot_list (pa_cons (pv 1) pa_nil)))
      (pss_cons (ps_for PassesOwn.never rfl (pi_range1 rfl T.z_range (pa_cons (pe_callB (v_len (K := K) rfl) (by rfl) T.z_len PySem.boot_len (pa_cons (pv 0) pa_nil)) pa_nil)) (pg_name (i := 4) sc_law_is_dealing.nd rfl (Or.inl rfl))
      (pss_cons (ps_if (PW.pt (pw_or (pt_not (pt_val (v_call (ok_law_is_integer T) (hr.mono (by decide)) (by rfl) T.g_law_is_integer T.F_law_is_integer.kp T.b_law_is_integer (pa_cons (pe_ix (v_ixI (K := K) rfl) (pv 2) (pv 4) (fun _ _ => rfl)) pa_nil)))) (pw_or1 (pt_cmpR (v_notInP (K := K) rfl) (pe_ix (v_ixI (K := K) rfl) (pv 2) (pv 4) (fun _ _ => rfl)) (pe_ix (v_ix (K := K) rfl) (pv 0) (pv 4) (fun _ _ => rfl)) (by rfl)))))
      (pss_one (ps_ret pe_bl))
      pss_nil)
      (pss_one (ps_asg (pe_op op_sub (pe_ix (v_ixI (K := K) rfl) (pv 3) (pe_ix (v_ixI (K := K) rfl) (pv 2) (pv 4) (fun _ _ => rfl)) (fun _ _ => rfl)) pe_int) (pg_sub (pv 3) (pe_ix (v_ixI (K := K) rfl) (pv 2) (pv 4) (fun _ _ => rfl)) v_setI)))))
      (pss_one (ps_ret (pe_cmpR op_ge (pe_callB (v_min (K := K) rfl rfl) (by rfl) T.z_min PyProof.Rows.boot_min (pa_cons (pv 3) pa_nil)) pe_int (nomark _))))))), st_3_2 rfl ?_⟩
  fail "go"
  with_reducible refine ifB (fun hlen => ?_) (fun hlen => ?_)
  · have := ont hlen
    simp only [List.length_map] at *
    omega
  fail "go"
  rename_i l H2 S2
  clear S
  refine for_range (lo := 0) (n := (((ts.map V.ref).length : Int)).toNat) (fun i σ H => ∃ (lf : List Int) (x4 : Option V), σ = [some (.ref a), some (.ref b), some (.ref c), some (.ref l), x4] ∧ lf.length = bl.length ∧ (∀ k : Int, 0 ≤ k → k < m → gI lf k = gI bl k - ((os.take i).count k : Nat)) ∧ Sts H (pto l (.lst (lf.map V.int)) :: pto a (.lst (ts.map V.ref)) :: pto b (.lst (bl.map V.int)) :: pto c (.lst (os.map V.int)) :: im τ :: F)) ⟨bl, none, rfl, rfl, fun k _ _ => by show _ = gI bl k - 0; rw [Int.sub_zero], by fail "fp"⟩ ?_ ?_
  · rintro i σ H hi ⟨lf, x4, rfl, hlf, hlk, S⟩
    rw [List.length_map] at hi
    have hip : i < ps.length := by omega
    obtain ⟨t, p, e1, e2, e3⟩ := atI_ref hts (i := 0 + (i : Int)) (by omega) (by omega)
    have hii : (0 + (i : Int)).toNat = i := by omega
    rw [hii] at e1
    have hog : os[i]? = some (gI os (0 + (i : Int))) := by
      have z := gI_get (L := os) (k := 0 + (i : Int)) (by omega) (by omega)
      rwa [hii] at z
    have hob := hos _ (List.mem_of_getElem? hog)
    have hor := hend i p _ e1 hog
    fail "go"
    refine g_ix (K := K) (by fail "sq") e3 ?_
    fail "go"
    refine ifF (by rw [decide_eq_true hor]; decide) ?_
    fail "go"
    rename_i H9 S9
    refine ⟨lf.set (gI os (0 + (i : Int))).toNat (gI lf (gI os (0 + (i : Int))) - 1), _, rfl, by rw [List.length_set]; exact hlf, fun k k0 k1 => ?_, by fail "fp"⟩
    rw [gI_set hob.1 (by omega) k0, List.take_add_one, hog, List.count_append]
    have e9 : (some (gI os (0 + (i : Int)))).toList = [gI os (0 + (i : Int))] := rfl
    rw [e9, List.count_singleton]
    by_cases e : k = gI os (0 + (i : Int))
    · rw [if_pos e, ← e, hlk k k0 k1]
      have e5 : (k == k) = true := beq_self_eq_true k
      simp only [e5, if_true]
      omega
    · rw [if_neg e, hlk k k0 k1]
      have e5 : (gI os (0 + (i : Int)) == k) = false := beq_eq_false_iff_ne.mpr fun z => e z.symm
      simp only [e5, Bool.false_eq_true, if_false]
      omega
  · rintro σ H ⟨lf, x4, rfl, hlf, hlk, S⟩
    have et : (((ts.map V.ref).length : Int)).toNat = os.length := by rw [List.length_map]; omega
    rw [et, List.take_length] at hlk
    fail "go"
    refine g_min (by fail "sq") (by omega) (fun x hx hle => ?_)
    fail "go"
    have h0 : 0 ≤ x := by
      obtain ⟨j, hj⟩ := List.getElem?_of_mem hx
      have hjl : j < lf.length := (List.getElem?_eq_some_iff.mp hj).1
      have z := hlk (j : Int) (by omega) (by omega)
      have z2 := hfit (j : Int) (by omega) (by omega)
      have z3 : gI lf (j : Int) = x := by
        unfold gI
        have e : ((j : Nat) : Int).toNat = j := by omega
        rw [e, List.getD_eq_getElem?_getD, hj]
        rfl
      omega
    rw [decide_eq_true h0]
    exact q _ (by fail "fp")
def spIsLot : Sp := fun vs H Q _ => ∃ (a : Addr) (m : Int) (L : List Int) (F : List Asr), vs = [.ref a, .int m] ∧ Sts H (pto a (.lst (L.map V.int)) :: F) ∧ L.Pairwise (· < ·) ∧ (∀ p ∈ L, 0 ≤ p ∧ p < m) ∧ ∀ H', Sts H' (pto a (.lst (L.map V.int)) :: F) → Q (.bl true) H'
theorem ok_law_is_lot (T : Txt P K mg) : FnOk P w K mg base CX0 2 T.f_law_is_lot T.fd_law_is_lot ["told", "many"] spIsLot := by
  refine T.F_law_is_lot.ok sc_law_is_lot (fun vs H Q E h => by obtain ⟨a, m, L, F, rfl, _⟩ := h; rfl) (fun cdv A outer s H vs Q E hr h => ?_)
  obtain ⟨a, m, L, F, rfl, S, hpw, hrg, q⟩ := h
  refine ⟨_, (pss_cons (ps_if (pt_not (pt_val (pe_callB v_isLL (by rfl) T.z_isinstance PyProof.Rows.boot_isinstance (pa_cons (pv 0) (pa_cons (pe_bltn (v := .ty "list") (by rfl) T.z_list PyProof.Rows.boot_list rfl) pa_nil)))))
      (pss_one (ps_ret pe_bl))
      pss_nil)
      (pss_cons (ps_set (i := 2) sc_law_is_lot.nd rfl (Or.inl rfl) (pe_un un_neg pe_int))
      (pss_cons (ps_for PassesOwn.never rfl (pi_list (pv 0)) (pg_name (i := 3) sc_law_is_lot.nd rfl (Or.inl rfl))
      (pss_cons (ps_if (PW.pt (pw_or (pt_not (pt_val (v_call (ok_law_is_integer T) (hr.mono (by decide)) (by rfl) T.g_law_is_integer T.F_law_is_integer.kp T.b_law_is_integer (pa_cons (pv 3) pa_nil)))) (pw_or (pt_cmpR op_le (pv 3) (pv 2) (nomark _)) (pw_or1 (pt_cmpR op_ge (pv 3) (pv 1) (nomark _))))))
      (pss_one (ps_ret pe_bl))
      pss_nil)
      (pss_one (ps_set (i := 2) sc_law_is_lot.nd rfl (Or.inl rfl) (pv 3)))))
      (pss_one (ps_ret pe_bl))))), st_2_2 rfl ?_⟩
  fail "go"
  refine for_ints (K := K) L (fun i σ H => ∃ (lo : Int) (x3 : Option V), σ = [some (.ref a), some (.int m), some (.int lo), x3] ∧ (i = 0 → lo = -1) ∧ (∀ j : Nat, i = j + 1 → L[j]? = some lo) ∧ Sts H (pto a (.lst (L.map V.int)) :: F)) ⟨_, none, rfl, (fun _ => rfl), (fun j h => nomatch h), S⟩ (fun i σ H ⟨_, _, _, _, _, S⟩ => by fail "sq") ?_ ?_
  · rintro i x σ H hi ⟨lo, x3, rfl, h0, h1, S⟩
    have hxr := hrg x (List.mem_of_getElem? hi)
    have hlo : lo < x := by
      cases i with
      | zero =>
        have := h0 rfl
        omega
      | succ j =>
        have z := h1 j rfl
        obtain ⟨a1, a2⟩ := List.getElem?_eq_some_iff.mp z
        obtain ⟨b1, b2⟩ := List.getElem?_eq_some_iff.mp hi
        have w := List.pairwise_iff_getElem.mp hpw j (j + 1) a1 b1 (Nat.lt_succ_self j)
        rw [a2, b2] at w
        exact w
    fail "gd"
    exact ⟨_, _, rfl, (fun h => nomatch h), (fun j h => by cases h; exact hi), S⟩
  · rintro σ H ⟨lo, x3, rfl, _, _, S⟩
    fail "go"
    exact q _ S
def spLeft : Sp := fun vs H Q _ => ∃ (a b c : Addr) (m : Int) (τ : Tmap) (ts : List Addr) (ps : List Oc.PI2) (bl L : List Int) (F : List Asr), vs = [.ref a, .ref b, .ref c] ∧ Sts H (pto a (.lst (ts.map V.ref)) :: pto b (.lst (bl.map V.int)) :: pto c (.lst (L.map V.int)) :: im τ :: F) ∧ Prs τ ts ps ∧ (bl.length : Int) = m ∧ (∀ p ∈ L, 0 ≤ p ∧ p < m) ∧ L.length ≤ 100000 ∧
  ∀ H', Sts H' (pto a (.lst (ts.map V.ref)) :: pto b (.lst (bl.map V.int)) :: pto c (.lst (L.map V.int)) :: im τ :: F) → Q (.int (tot bl L - ins ps L)) H'
theorem ins_snoc {ps : List Oc.PI2} {L : List Int} {i : Nat} {p : Oc.PI2} (h : ps[i]? = some p) : ins (ps.take (i + 1)) L = ins (ps.take i) L + if p.1 ∈ L ∧ p.2 ∈ L then 1 else 0 := by
  unfold ins
  rw [List.take_add_one, h, List.countP_append]
  congr 1
  show [p].countP _ = _
  rw [List.countP_cons]
  by_cases e : p.1 ∈ L ∧ p.2 ∈ L
  · rw [if_pos e, if_pos (decide_eq_true e)]
    rfl
  · rw [if_neg e, if_neg fun z => e (of_decide_eq_true z)]
    rfl
theorem ok_law_left (T : Txt P K mg) : FnOk P w K mg base CX0 1 T.f_law_left T.fd_law_left ["pairs", "blank", "lot"] spLeft := by
  refine T.F_law_left.ok sc_law_left (fun vs H Q E h => by obtain ⟨a, b, c, m, τ, ts, ps, bl, L, F, rfl, _⟩ := h; rfl) (fun cdv A outer s H vs Q E hr h => ?_)
  obtain ⟨a, b, c, m, τ, ts, ps, bl, L, F, rfl, S, hts, hbl, hrg, hLl, q⟩ := h
  refine ⟨_, (pss_cons (ps_set (i := 3) sc_law_left.nd rfl (Or.inl rfl) (pe_callB (oc_sum (K := K) rfl rfl) (by rfl) T.z_sum PyProof.Rows.boot_sum (pa_cons (pe_lc (own := [("page", 5)]) (g := gName 5) (tt := tYes) rfl sc_law_left.nd (pi_list (pv 2)) (blkOk_by (own := [("page", 5)]) (N := ["pairs", "blank", "lot", "total", "pair", "page"]) (sc := defScope s_law_left) (by decide +kernel)) (fun _ _ _ _ _ => (pg_name (i := 5) sc_law_left.nd rfl (Or.inl rfl))) (fun _ _ _ _ _ => pts_nil) (fun _ _ _ _ _ => (pe_ix (v_ixI (K := K) rfl) (pv 1) (pv 5) (fun _ _ => rfl)))) pa_nil)))
      (pss_cons (ps_for PassesOwn.never rfl (pi_list (pv 0)) (pg_name (i := 4) sc_law_left.nd rfl (Or.inl rfl))
      (pss_one (ps_if (PW.pt (pw_and (pt_cmpR (v_inIs (K := K) rfl) (pe_ix (v_ixT (K := K) rfl) (pv 4) pe_int (fun _ _ => rfl)) (pv 2) (by rfl)) (pw_and1 (pt_cmpR (v_inIs (K := K) rfl) (pe_ix (v_ixT (K := K) rfl) (pv 4) pe_int (fun _ _ => rfl)) (pv 2) (by rfl)))))
      (pss_one (ps_set (i := 3) sc_law_left.nd rfl (Or.inl rfl) (pe_op op_sub (pv 3) pe_int)))
      pss_nil)))
      (pss_one (ps_ret (pv 3))))), st_3_3 rfl ?_⟩
  fail "go"
  rename_i D H1 S1
  refine lc_pureI (K := K) L (fun p => V.int (gI bl p)) (a := c) S1 (fun H S => by fail "sq") (by omega) (fun _ => rfl) (fun p H Q' hp S q => ?_) (fun H2 S2 => ?_)
  · have := hrg p hp
    fail "go"
    exact q
  · have e : (L.map fun p => V.int (gI bl p)) = (L.map fun p => gI bl p).map V.int := by
      rw [List.map_map]
      rfl
    rw [e] at S2
    clear S S1
    fail "go"
    refine for_prs (K := K) hts (fun i σ H => ∃ (v : Int) (x4 x5 : Option V), v = tot bl L - ins (ps.take i) L ∧ σ = [some (.ref a), some (.ref b), some (.ref c), some (.int v), x4, x5] ∧ Sts H (pto a (.lst (ts.map V.ref)) :: pto b (.lst (bl.map V.int)) :: pto c (.lst (L.map V.int)) :: im τ :: F)) ⟨tot bl L, none, none, (by show _ = tot bl L - ((0 : Nat) : Int); omega), rfl, by fail "fp"⟩ (fun i σ H ⟨_, _, _, _, _, S⟩ => by fail "sq") ?_ ?_
    · clear S2
      rintro i t p σ H hi ht ⟨v, x4, x5, hv, rfl, S⟩
      have hs := ins_snoc (L := L) hi
      fail "go"
      with_reducible refine ifB (fun c1 => ?_) (fun c1 => ?_)
      · have c1 := odt c1
        fail "go"
        with_reducible refine ifB (fun c2 => ?_) (fun c2 => ?_)
        · have c2 := odt c2
          rw [if_pos ⟨c1, c2⟩] at hs
          fail "go"
          exact ⟨_, _, _, by omega, rfl, S⟩
        · have c2 := odf c2
          rw [if_neg (fun z => c2 z.2)] at hs
          fail "go"
          exact ⟨_, _, _, by omega, rfl, S⟩
      · have c1 := odf c1
        rw [if_neg (fun z => c1 z.1)] at hs
        fail "go"
        exact ⟨_, _, _, by omega, rfl, S⟩
    · clear S2
      rintro σ H ⟨v, x4, x5, hv, rfl, S⟩
      rw [List.take_length] at hv
      subst hv
      fail "go"
      exact q _ S

--PART
/-! ### all lots, by the bits of a number -/
def bI (x p : Int) : Bool := !decide (x / 2 ^ p.toNat % 2 = 0)
def lotOf (x : Int) (n : Nat) : List Int := ((List.range n).map fun p : Nat => (p : Int)).filter (bI x)
theorem lotOf_snoc (x : Int) (n : Nat) : lotOf x (n + 1) = lotOf x n ++ if bI x n = true then [(n : Int)] else [] := by
  unfold lotOf
  rw [List.range_succ, List.map_append, List.filter_append]
  congr 1
  show [(n : Int)].filter (bI x) = _
  rw [List.filter_cons]
  rfl
theorem lotOf_mem {x : Int} {n : Nat} {p : Int} : p ∈ lotOf x n ↔ (0 ≤ p ∧ p < n) ∧ bI x p = true := by
  unfold lotOf
  rw [List.mem_filter, List.mem_map]
  constructor
  · rintro ⟨⟨k, hk, rfl⟩, h⟩
    have := List.mem_range.mp hk
    exact ⟨⟨by omega, by omega⟩, h⟩
  · rintro ⟨⟨h0, h1⟩, h⟩
    exact ⟨⟨p.toNat, List.mem_range.mpr (by omega), by omega⟩, h⟩
theorem lotOf_pw (x : Int) (n : Nat) : (lotOf x n).Pairwise (· < ·) := by
  unfold lotOf
  refine List.Pairwise.filter _ ?_
  exact List.Pairwise.map _ (fun a b h => Int.ofNat_lt.mpr h) List.pairwise_lt_range
theorem lt_uniq : ∀ {l m : List Int}, l.Pairwise (· < ·) → m.Pairwise (· < ·) → (∀ k, k ∈ l ↔ k ∈ m) → l = m
  | [], [], _, _, _ => rfl
  | [], b :: m, _, _, h => nomatch (h b).mpr List.mem_cons_self
  | a :: l, [], _, _, h => nomatch (h a).mp List.mem_cons_self
  | a :: l, b :: m, h1, h2, h => by
    obtain ⟨a1, a2⟩ := List.pairwise_cons.mp h1
    obtain ⟨b1, b2⟩ := List.pairwise_cons.mp h2
    have e : a = b := by
      rcases List.mem_cons.mp ((h a).mp List.mem_cons_self) with z | z
      · exact z
      · rcases List.mem_cons.mp ((h b).mpr List.mem_cons_self) with y | y
        · exact y.symm
        · have := b1 a z
          have := a1 b y
          omega
    subst e
    congr 1
    refine lt_uniq a2 b2 fun k => ?_
    constructor
    · intro hk
      rcases List.mem_cons.mp ((h k).mp (List.mem_cons_of_mem _ hk)) with z | z
      · have := a1 k hk
        omega
      · exact z
    · intro hk
      rcases List.mem_cons.mp ((h k).mpr (List.mem_cons_of_mem _ hk)) with z | z
      · have := b1 k hk
        omega
      · exact z
def maskOf (L : List Int) : Nat → Nat
  | 0 => 0
  | n + 1 => maskOf L n + if (n : Int) ∈ L then 2 ^ n else 0
theorem maskOf_lt (L : List Int) : ∀ n, maskOf L n < 2 ^ n
  | 0 => Nat.one_pos
  | n + 1 => by
    have z := maskOf_lt L n
    have e : 2 ^ (n + 1) = 2 ^ n + 2 ^ n := by rw [Nat.pow_succ]; omega
    show maskOf L n + (if (n : Int) ∈ L then 2 ^ n else 0) < _
    rw [e]
    split <;> omega
theorem bI_nat (x p : Nat) : bI (x : Int) (p : Int) = x.testBit p := by
  unfold bI
  rw [Nat.testBit_eq_decide_div_mod_eq]
  have e : ((p : Nat) : Int).toNat = p := by omega
  have e2 : ((x : Int) / 2 ^ p % 2) = ((x / 2 ^ p % 2 : Nat) : Int) := by norm_cast
  rw [e, e2]
  have h := Nat.mod_two_eq_zero_or_one (x / 2 ^ p)
  rcases h with h | h <;> rw [h] <;> rfl
theorem maskOf_bit (L : List Int) : ∀ (n p : Nat), p < n → (maskOf L n).testBit p = decide ((p : Int) ∈ L)
  | 0, _, h => absurd h (Nat.not_lt_zero _)
  | n + 1, p, h => by
    have lt := maskOf_lt L n
    show (maskOf L n + (if (n : Int) ∈ L then 2 ^ n else 0)).testBit p = _
    by_cases e : p = n
    · subst e
      by_cases m : (p : Int) ∈ L
      · rw [if_pos m, decide_eq_true m, Nat.add_comm, Nat.testBit_two_pow_add_eq, Nat.testBit_lt_two_pow lt]
        rfl
      · rw [if_neg m, decide_eq_false m, Nat.add_zero]
        exact Nat.testBit_lt_two_pow lt
    · have ih := maskOf_bit L n p (by omega)
      by_cases m : (n : Int) ∈ L
      · rw [if_pos m, Nat.add_comm, Nat.testBit_two_pow_add_gt (by omega), ih]
      · rw [if_neg m, Nat.add_zero, ih]
theorem lotOf_mask {L : List Int} {n : Nat} (h : L.Pairwise (· < ·)) (r : ∀ p ∈ L, 0 ≤ p ∧ p < (n : Int)) : lotOf (maskOf L n : Nat) n = L := by
  refine lt_uniq (lotOf_pw _ _) h fun k => ?_
  rw [lotOf_mem]
  constructor
  · rintro ⟨⟨k0, k1⟩, hb⟩
    have e : k = (k.toNat : Int) := by omega
    rw [e, bI_nat, maskOf_bit L n k.toNat (by omega)] at hb
    rw [e]
    exact of_decide_eq_true hb
  · intro hk
    have z := r k hk
    refine ⟨z, ?_⟩
    have e : k = (k.toNat : Int) := by omega
    rw [e, bI_nat, maskOf_bit L n k.toNat (by omega)]
    rw [e] at hk
    exact decide_eq_true hk
theorem tot_snoc (bl L : List Int) (p : Int) : tot bl (L ++ [p]) = tot bl L + gI bl p := by
  unfold tot
  rw [List.map_append, List.sum_append]
  show _ + (gI bl p + 0) = _
  omega

--PART
def valOf (bl : List Int) (ps : List Oc.PI2) (n : Nat) (x : Nat) : Int := tot bl (lotOf (x : Int) n) - ins ps (lotOf (x : Int) n)
def vals (bl : List Int) (ps : List Oc.PI2) (n k : Nat) : List Int := (List.range k).map fun x => valOf bl ps n x
theorem vals_snoc (bl : List Int) (ps : List Oc.PI2) (n k : Nat) : vals bl ps n (k + 1) = vals bl ps n k ++ [valOf bl ps n k] := by
  unfold vals
  rw [List.range_succ, List.map_append]
  rfl
theorem vals_len (bl : List Int) (ps : List Oc.PI2) (n k : Nat) : (vals bl ps n k).length = k := by
  unfold vals
  rw [List.length_map, List.length_range]
def spVals : Sp := fun vs H Q _ => ∃ (a b : Addr) (m : Int) (τ : Tmap) (ts : List Addr) (ps : List Oc.PI2) (bl : List Int) (F : List Asr), vs = [.int m, .ref a, .ref b] ∧ Sts H (pto a (.lst (ts.map V.ref)) :: pto b (.lst (bl.map V.int)) :: im τ :: F) ∧ Prs τ ts ps ∧ (∀ q ∈ ps, OkP m q) ∧ ((bl.length : Int) = m ∧ 1 ≤ m ∧ m ≤ 7) ∧
  ∀ c H', Sts H' (pto c (.lst ((vals bl ps m.toNat (2 ^ m.toNat)).map V.int)) :: pto a (.lst (ts.map V.ref)) :: pto b (.lst (bl.map V.int)) :: im τ :: F) → Q (.ref c) H'
theorem ok_law_values (T : Txt P K mg) : FnOk P w K mg base CX0 1 T.f_law_values T.fd_law_values ["many", "pairs", "blank"] spVals := by
  refine T.F_law_values.ok sc_law_values (fun vs H Q E h => by obtain ⟨a, b, m, τ, ts, ps, bl, F, rfl, _⟩ := h; rfl) (fun cdv A outer s H vs Q E hr h => ?_)
  obtain ⟨a, b, m, τ, ts, ps, bl, F, rfl, S, hts, hok, ⟨hbl, hm1, hm2⟩, q⟩ := h
  refine ⟨_, (pss_cons (ps_set (i := 3) sc_law_values.nd rfl (Or.inl rfl) (pe_lst pa_nil))
      (pss_cons (ps_for PassesOwn.never rfl (pi_range1 rfl T.z_range (pa_cons (pe_op op_shl pe_int (pv 0)) pa_nil)) (pg_name (i := 4) sc_law_values.nd rfl (Or.inl rfl))
      (pss_cons (ps_set (i := 5) sc_law_values.nd rfl (Or.inl rfl) pe_int)
      (pss_cons (ps_for PassesOwn.never rfl (pi_range1 rfl T.z_range (pa_cons (pv 0) pa_nil)) (pg_name (i := 6) sc_law_values.nd rfl (Or.inl rfl))
      (pss_one (ps_if (v_truth (K := K) rfl (pe_op v_and1 (pe_op op_shr (pv 4) (pv 6)) pe_int) (by intro _; rfl))
      (pss_one (ps_set (i := 5) sc_law_values.nd rfl (Or.inl rfl) (pe_op op_add (pv 5) (pe_ix (v_ixI (K := K) rfl) (pv 2) (pv 6) (fun _ _ => rfl)))))
      pss_nil)))
      (pss_cons (ps_for PassesOwn.never rfl (pi_list (pv 1)) (pg_name (i := 7) sc_law_values.nd rfl (Or.inl rfl))
      (pss_one (ps_if (PW.pt (pw_and (v_truth (K := K) rfl (pe_op v_and1 (pe_op op_shr (pv 4) (pe_ix (v_ixT (K := K) rfl) (pv 7) pe_int (fun _ _ => rfl))) pe_int) (by intro _; rfl)) (pw_and1 (v_truth (K := K) rfl (pe_op v_and1 (pe_op op_shr (pv 4) (pe_ix (v_ixT (K := K) rfl) (pv 7) pe_int (fun _ _ => rfl))) pe_int) (by intro _; rfl)))))
      (pss_one (ps_set (i := 5) sc_law_values.nd rfl (Or.inl rfl) (pe_op op_sub (pv 5) pe_int)))
      pss_nil)))
      (pss_one (ps_expr (pe_bm PySem.F.plainAttrs_list PySem.F.slot_list_append PySem.F.type_list_append v_appendI (pv 3) (pa_cons (pv 5) pa_nil))))))))
      (pss_one (ps_ret (pv 3))))), st_3_5 rfl ?_⟩
  obtain ⟨B, hB⟩ : ∃ B : Nat, 2 ^ m.toNat = B := ⟨_, rfl⟩
  have hpw : ((1 : Int) * 2 ^ m.toNat) = (B : Int) := by rw [Int.one_mul, ← hB]; norm_cast
  have hp3 : B ≤ 128 := hB ▸ (Nat.pow_le_pow_right (by decide) (by omega) : 2 ^ m.toNat ≤ 2 ^ 7)
  have hnat : ((1 : Int) * 2 ^ m.toNat).toNat = B := by rw [hpw]; exact Int.toNat_natCast B
  have hmt : (m.toNat : Int) = m := by omega
  fail "go"
  rename_i c H1 S1
  clear S
  refine for_range (lo := 0) (n := ((1 : Int) * 2 ^ m.toNat).toNat) (fun i σ H => ∃ (x3 x4 x5 x6 : Option V), σ = [some (.int m), some (.ref a), some (.ref b), some (.ref c), x3, x4, x5, x6] ∧ Sts H (pto c (.lst ((vals bl ps m.toNat i).map V.int)) :: pto a (.lst (ts.map V.ref)) :: pto b (.lst (bl.map V.int)) :: im τ :: F)) ⟨none, none, none, none, rfl, S1⟩ ?_ ?_
  · rintro i σ H hi ⟨x3, x4, x5, x6, rfl, S⟩
    have ei : 0 + (i : Int) = (i : Int) := by omega
    have hvl := vals_len bl ps m.toNat i
    rw [hnat] at hi
    rw [ei]
    fail "go"
    refine for_range (lo := 0) (n := m.toNat) (fun p σ H => ∃ (v : Int) (x5 : Option V), v = tot bl (lotOf (i : Int) p) ∧ σ = [some (.int m), some (.ref a), some (.ref b), some (.ref c), some (.int i), some (.int v), x5, x6] ∧ Sts H (pto c (.lst ((vals bl ps m.toNat i).map V.int)) :: pto a (.lst (ts.map V.ref)) :: pto b (.lst (bl.map V.int)) :: im τ :: F)) ⟨0, x5, rfl, rfl, S⟩ ?_ ?_
    · rintro p σ H hp ⟨v, x5, hv, rfl, S⟩
      have ep : 0 + (p : Int) = (p : Int) := by omega
      rw [ep]
      have hs := lotOf_snoc (i : Int) p
      fail "go"
      with_reducible refine ifB (fun c => ?_) (fun c => ?_)
      · have c : bI (i : Int) (p : Int) = true := c
        rw [if_pos c] at hs
        fail "go"
        exact ⟨_, _, by rw [hs, tot_snoc, hv], rfl, S⟩
      · have c : bI (i : Int) (p : Int) = false := c
        rw [if_neg (by rw [c]; exact Bool.false_ne_true), List.append_nil] at hs
        fail "go"
        exact ⟨_, _, by rw [hs, hv], rfl, S⟩
    · rintro σ H ⟨v, x5, hv, rfl, S⟩
      fail "go"
      refine for_prs (K := K) hts (fun k σ H => ∃ (u : Int) (x6 : Option V), u = v - ins (ps.take k) (lotOf (i : Int) m.toNat) ∧ σ = [some (.int m), some (.ref a), some (.ref b), some (.ref c), some (.int i), some (.int u), x5, x6] ∧ Sts H (pto c (.lst ((vals bl ps m.toNat i).map V.int)) :: pto a (.lst (ts.map V.ref)) :: pto b (.lst (bl.map V.int)) :: im τ :: F)) ⟨v, x6, (by show _ = v - ((0 : Nat) : Int); omega), rfl, S⟩ (fun k σ H ⟨_, _, _, _, S⟩ => by fail "sq") ?_ ?_
      · rintro k t p σ H hk ht ⟨u, x6, hu, rfl, S⟩
        have hs := ins_snoc (L := lotOf (i : Int) m.toNat) hk
        obtain ⟨_, ⟨p10, p11⟩, p20, p21⟩ := hok p (List.mem_of_getElem? hk)
        have hm1 : p.1 ∈ lotOf (i : Int) m.toNat ↔ bI (i : Int) p.1 = true := lotOf_mem.trans ⟨fun z => z.2, fun z => ⟨⟨p10, by omega⟩, z⟩⟩
        have hm2 : p.2 ∈ lotOf (i : Int) m.toNat ↔ bI (i : Int) p.2 = true := lotOf_mem.trans ⟨fun z => z.2, fun z => ⟨⟨p20, by omega⟩, z⟩⟩
        fail "go"
        with_reducible refine ifB (fun c1 => ?_) (fun c1 => ?_)
        · have c1 : bI (i : Int) p.1 = true := c1
          fail "go"
          with_reducible refine ifB (fun c2 => ?_) (fun c2 => ?_)
          · have c2 : bI (i : Int) p.2 = true := c2
            rw [if_pos ⟨hm1.mpr c1, hm2.mpr c2⟩] at hs
            fail "go"
            exact ⟨_, _, by omega, rfl, S⟩
          · have c2 : bI (i : Int) p.2 = false := c2
            rw [if_neg (fun z => by have := hm2.mp z.2; rw [c2] at this; cases this)] at hs
            fail "go"
            exact ⟨_, _, by omega, rfl, S⟩
        · have c1 : bI (i : Int) p.1 = false := c1
          rw [if_neg (fun z => by have := hm1.mp z.1; rw [c1] at this; cases this)] at hs
          fail "go"
          exact ⟨_, _, by omega, rfl, S⟩
      · rintro σ H ⟨u, x6, hu, rfl, S⟩
        rw [List.take_length] at hu
        fail "go"
        rename_i H9 S9
        refine ⟨_, _, _, _, rfl, ?_⟩
        rw [vals_snoc, show valOf bl ps m.toNat i = u by unfold valOf; omega]
        exact S9
  · rintro σ H ⟨x3, x4, x5, x6, rfl, S⟩
    rw [hnat] at S
    fail "go"
    rw [hB] at q
    exact q c _ S
local macro_rules | `(tactic| fail "gs") => `(tactic| ((with_reducible show K07.spIsInt _ _ _ _); refine ⟨_, rfl, ?_⟩))

--PART
/-! ### what slack tells, judged -/
theorem okH_law_is_integer (T : Txt P K mg) : L2H.FnH P w K mg base CX0 1 T.f_law_is_integer T.fd_law_is_integer ["told"] spIsInt := by
  refine okH T.F_law_is_integer sc_law_is_integer (fun vs H Q E h => by obtain ⟨i, rfl, _⟩ := h; rfl) (fun cdv A outer s H vs Q E p hot hr h => ?_)
  obtain ⟨i, rfl, q⟩ := h
  refine ⟨_, (pss_one (ps_ret (pe_and (pe_callB v_isII (by rfl) T.z_isinstance PyProof.Rows.boot_isinstance (pa_cons (pv 0) (pa_cons (pe_bltn (v := .ty "int") (by rfl) T.z_int PyProof.Rows.boot_int rfl) pa_nil))) (pe_one (pe_not (pe_callB v_isIB (by rfl) T.z_isinstance PyProof.Rows.boot_isinstance (pa_cons (pv 0) (pa_cons (pe_bltn (v := .ty "bool") (by rfl) T.z_bool PyProof.Rows.boot_bool rfl) pa_nil)))))))), st_1_0 rfl ?_⟩
  fail "go"
  exact q
def spTold (cS cW : Addr) : Sp := fun vs H Q _ => ∃ (p w : Addr) (x n k : Int) (τ0 τ : Tmap) (ps : List Oc.PI2) (bl : List Int) (F : List Asr), vs = [.ref p, .int x] ∧ Sts H (stnc cS p w k bl :: webc τ0 cW w n ps :: im τ :: F) ∧ Le τ0 τ ∧ Wb1 n ps bl ∧ (0 ≤ x ∧ x < n) ∧
  (∀ (r u a l : Addr) (L : List Int) (ow : OwL) (υ : Tmap) H', Le τ υ → υ r = some [.bl true, .ref u, .bl true] → υ u = some [.int (gI bl x - ocn ow x), .ref a, .ref l] → Dl n bl ps ow → L.Pairwise (· < ·) → x ∈ L → (∀ p ∈ L, 0 ≤ p ∧ p < n) → tot bl L - ins ps L = gI bl x - ocn ow x →
    Sts H' (pto a (.lst ((olist ow (srt ps)).map V.int)) :: pto l (.lst (L.map V.int)) :: stnc cS p w k bl :: webc τ0 cW w n ps :: im υ :: F) → Q (.ref r) H') ∧
  ∀ (r l : Addr) (L : List Int) (υ : Tmap) H', Le τ υ → υ r = some [.bl false, .ref l, .bl true] → Lot n bl L ps → Sts H' (pto l (.lst (L.map V.int)) :: stnc cS p w k bl :: webc τ0 cW w n ps :: im υ :: F) → Q (.ref r) H'
theorem ok_law_told (T : Txt P K mg) : FnOk P w K mg base CX0 9 T.f_law_told T.fd_law_told ["standing", "page"] (spTold T.c_Standing T.c_Web) := by
  refine T.F_law_told.ok sc_law_told (fun vs H Q E h => by obtain ⟨p, w, x, n, k, τ0, τ, ps, bl, F, rfl, _⟩ := h; rfl) (fun cdv A outer s H vs Q E hr h => ?_)
  obtain ⟨p, w, x, n, k, τ0, τ, ps, bl, F, rfl, S, hle, hw, hx, q1, q2⟩ := h
  refine ⟨_, (pss_one (L2N.ps_try_as (i := 2) (Wout := fun _ _ _ _ => False) rfl rfl sc_law_told.nd rfl rfl ⟨rfl, by decide, Or.inl T.gc_LotError⟩ takes0N
      (fun W pn xe tk hp => (pss_one (ps_ret (pe_tup (pa_cons pe_bl (pa_cons (pe_callS (CX := L2N.CX _ _) (E := WE W) (ok_slack T) (hr.mono (by decide)) (by rfl) T.g_slack T.F_slack.kp T.b_slack (fun σ => L2N.passAt tk σ) (pa_cons (pv 0) (pa_cons (pv 1) pa_nil))) (pa_cons pe_bl pa_nil)))))))
      (fun a oe cls d pn hz hf => (pss_one (ps_ret (pe_tup (pa_cons pe_bl (pa_cons (pe_xf T.xf_ShortLot T.nx_ShortLot_lot hz.zc hf (pv 2)) (pa_cons (pe_and (pe_callB (v_isE (c := (.ref T.c_ShortLot)) T.xc_ShortLot hz.zc hf T.ki_ShortLot_ShortLot (fun _ r => r)) (by rfl) T.z_isinstance PyProof.Rows.boot_isinstance (pa_cons (pv 2) (pa_cons (pe_glob (v := .ref T.c_ShortLot) (by rfl) T.gc_ShortLot rfl) pa_nil))) (pe_one (pe_not (pe_callB (v_isE (c := (.ref T.c_NotShort)) T.xc_ShortLot hz.zc hf T.ki_ShortLot_NotShort (fun _ r => r)) (by rfl) T.z_isinstance PyProof.Rows.boot_isinstance (pa_cons (pv 2) (pa_cons (pe_glob (v := .ref T.c_NotShort) (by rfl) T.gc_NotShort rfl) pa_nil)))))) pa_nil))))))))), st_2_1 rfl ?_⟩
  fail "go"
  refine ⟨p, w, x, n, k, τ0, τ, ps, bl, F, rfl, S, hle, hw, fun _ u a l L ow υ H1 l1 eu hD g1 g2 g3 g4 S1 => ?_, fun _ d l L υ H1 l1 hL S1 => ?_, fun n => absurd hx n⟩
  · fail "go"
    rename_i r H2 χ l2 e2 S2
    exact q1 r u a l L ow χ _ (l1.trans l2) e2 (l2 _ _ eu) hD g1 g2 g3 g4 (by fail "fp")
  · refine ⟨true, T.te_ShortLot_LotError, fun _ a0 na => ?_, fun z => nomatch z⟩
    fail "go"
    rename_i r H2 χ l2 e2 S2
    exact q2 r l L χ _ (l1.trans l2) e2 hL (by fail "fp")
def spRefused (cS cW : Addr) : Sp := fun vs H Q _ => ∃ (p w : Addr) (x n k : Int) (τ0 τ : Tmap) (ps : List Oc.PI2) (bl : List Int) (F : List Asr), vs = [.ref p, .int x] ∧ Sts H (stnc cS p w k bl :: webc τ0 cW w n ps :: im τ :: F) ∧ Le τ0 τ ∧ Wb1 n ps bl ∧ ¬ (0 ≤ x ∧ x < n) ∧
  ∀ H', Sts H' (stnc cS p w k bl :: webc τ0 cW w n ps :: im τ :: F) → Q (.bl true) H'
theorem ok_law_refused (T : Txt P K mg) : FnOk P w K mg base CX0 9 T.f_law_refused T.fd_law_refused ["standing", "page"] (spRefused T.c_Standing T.c_Web) := by
  refine T.F_law_refused.ok sc_law_refused (fun vs H Q E h => by obtain ⟨p, w, x, n, k, τ0, τ, ps, bl, F, rfl, _⟩ := h; rfl) (fun cdv A outer s H vs Q E hr h => ?_)
  obtain ⟨p, w, x, n, k, τ0, τ, ps, bl, F, rfl, S, hle, hw, hx, q⟩ := h
  refine ⟨_, (pss_cons (L2N.ps_try_as (i := 2) (Wout := fun _ _ _ _ => False) rfl rfl sc_law_refused.nd rfl rfl ⟨rfl, by decide, Or.inl T.gc_NoPage⟩ takes0N
      (fun W pn xe tk hp => (pss_one (ps_expr (pe_callS (CX := L2N.CX _ _) (E := WE W) (ok_slack T) (hr.mono (by decide)) (by rfl) T.g_slack T.F_slack.kp T.b_slack (fun σ => L2N.passAt tk σ) (pa_cons (pv 0) (pa_cons (pv 1) pa_nil))))))
      (fun a oe cls d pn hz hf => (pss_one (ps_ret (pe_and (oc_callH (okH_law_is_integer T) (L2H.roomH_mark (hr.mono (by decide)) _) (hotC hz hf) (by rfl) T.g_law_is_integer T.F_law_is_integer.kp T.b_law_is_integer (pa_cons (pe_xf T.xf_NoPage T.nx_NoPage_page hz.zc hf (pv 2)) pa_nil)) (pe_and (pe_cmpR op_eq (pe_xf T.xf_NoPage T.nx_NoPage_page hz.zc hf (pv 2)) (pv 1) (nomark _)) (pe_one (pe_not (pe_callB (v_isE (c := (.ref T.c_LotError)) T.xc_NoPage hz.zc hf T.ki_NoPage_LotError (fun _ r => r)) (by rfl) T.z_isinstance PyProof.Rows.boot_isinstance (pa_cons (pv 2) (pa_cons (pe_glob (v := .ref T.c_LotError) (by rfl) T.gc_LotError rfl) pa_nil)))))))))))
      (pss_one (ps_ret pe_bl))), st_2_1 rfl ?_⟩
  fail "go"
  refine ⟨p, w, x, n, k, τ0, τ, ps, bl, F, rfl, S, hle, hw, (fun hb => absurd hb hx), (fun hb => absurd hb hx), fun _ d H1 S1 => ?_⟩
  refine ⟨true, T.te_NoPage, fun _ a0 na => ?_, fun z => nomatch z⟩
  fail "go"
  exact q _ (by fail "fp")
local macro_rules | `(tactic| fail "gs") => `(tactic| ((with_reducible apply Oc.g_isTT); fail "tp"))
local macro_rules | `(tactic| fail "gs") => `(tactic| ((with_reducible apply Oc.g_notInIs); fail "sq"))
def spPapers : Sp := fun vs H Q _ => ∃ (u a b c l : Addr) (m x v : Int) (τ : Tmap) (ts : List Addr) (ps : List Oc.PI2) (bl os L : List Int) (F : List Asr), vs = [.ref u, .int m, .ref a, .ref b, .int x] ∧ Sts H (pto a (.lst (ts.map V.ref)) :: pto b (.lst (bl.map V.int)) :: pto c (.lst (os.map V.int)) :: pto l (.lst (L.map V.int)) :: im τ :: F) ∧ τ u = some [.int v, .ref c, .ref l] ∧ Prs τ ts ps ∧ os.length = ps.length ∧
  (∀ (i : Nat) p o, ps[i]? = some p → os[i]? = some o → o = p.1 ∨ o = p.2) ∧ ((bl.length : Int) = m ∧ 1 ≤ m ∧ m ≤ 1000) ∧ (∀ x ∈ os, 0 ≤ x ∧ x < m) ∧ (∀ k : Int, 0 ≤ k → k < m → (os.count k : Int) ≤ gI bl k) ∧ ps.length ≤ 90000 ∧
  L.Pairwise (· < ·) ∧ (∀ p ∈ L, 0 ≤ p ∧ p < m) ∧ L.length ≤ 1000 ∧ x ∈ L ∧ v = gI bl x - (os.count x : Nat) ∧ v = tot bl L - ins ps L ∧
  ∀ H', Sts H' (pto a (.lst (ts.map V.ref)) :: pto b (.lst (bl.map V.int)) :: pto c (.lst (os.map V.int)) :: pto l (.lst (L.map V.int)) :: im τ :: F) → Q (.bl true) H'
theorem ok_law_papers (T : Txt P K mg) : FnOk P w K mg base CX0 3 T.f_law_papers T.fd_law_papers ["told", "many", "pairs", "blank", "page"] spPapers := by
  refine T.F_law_papers.ok sc_law_papers (fun vs H Q E h => by obtain ⟨u, a, b, c, l, m, x, v, τ, ts, ps, bl, os, L, F, rfl, _⟩ := h; rfl) (fun cdv A outer s H vs Q E hr h => ?_)
  obtain ⟨u, a, b, c, l, m, x, v, τ, ts, ps, bl, os, L, F, rfl, S, hu, hts, hol, hend, hbl, hos, hfit, hpl, hpw, hrg, hLl, hxL, hv1, hv2, q⟩ := h
  have hxr := hrg x hxL
  refine ⟨_, (pss_cons (ps_if (PW.pt (pw_or (pt_not (pt_val (pe_callB v_isTT (by rfl) T.z_isinstance PyProof.Rows.boot_isinstance (pa_cons (pv 0) (pa_cons (pe_bltn (v := .ty "tuple") (by rfl) T.z_tuple PyProof.Rows.boot_tuple rfl) pa_nil))))) (pw_or1 (pt_cmpR op_ne (pe_callB (v_lenT (K := K) rfl) (by rfl) T.z_len PySem.boot_len (pa_cons (pv 0) pa_nil)) pe_int (nomark _)))))
      (pss_one (ps_ret pe_bl))
      pss_nil)
      (pss_cons (ps_if (PW.pt (pw_or (pt_not (pt_val (v_call (ok_law_is_integer T) (hr.mono (by decide)) (by rfl) T.g_law_is_integer T.F_law_is_integer.kp T.b_law_is_integer (pa_cons (pe_ix (v_ixT (K := K) rfl) (pv 0) pe_int (fun _ _ => rfl)) pa_nil)))) (pw_or1 (pt_not (pt_val (v_call (ok_law_is_dealing T) (hr.mono (by decide)) (by rfl) T.g_law_is_dealing T.F_law_is_dealing.kp T.b_law_is_dealing (pa_cons (pv 2) (pa_cons (pv 3) (pa_cons (pe_ix (v_ixT (K := K) rfl) (pv 0) pe_int (fun _ _ => rfl)) pa_nil)))))))))
      (pss_one (ps_ret pe_bl))
      pss_nil)
      (pss_cons (ps_if (PW.pt (pw_or (pt_not (pt_val (v_call (ok_law_is_lot T) (hr.mono (by decide)) (by rfl) T.g_law_is_lot T.F_law_is_lot.kp T.b_law_is_lot (pa_cons (pe_ix (v_ixT (K := K) rfl) (pv 0) pe_int (fun _ _ => rfl)) (pa_cons (pv 1) pa_nil))))) (pw_or1 (pt_cmpR (v_notInIs (K := K) rfl) (pv 4) (pe_ix (v_ixT (K := K) rfl) (pv 0) pe_int (fun _ _ => rfl)) (by rfl)))))
      (pss_one (ps_ret pe_bl))
      pss_nil)
      (pss_cons (ps_set (i := 5) sc_law_papers.nd rfl (Or.inl rfl) (pe_op op_sub (pe_ix (v_ixI (K := K) rfl) (pv 3) (pv 4) (fun _ _ => rfl)) (pe_bm PySem.F.plainAttrs_list PySem.F.slot_list_count PySem.F.type_list_count (v_countI (K := K) rfl) (pe_ix (v_ixT (K := K) rfl) (pv 0) pe_int (fun _ _ => rfl)) (pa_cons (pv 4) pa_nil))))
      (pss_one (ps_ret (pe_and (pe_cmpR op_eq (pe_ix (v_ixT (K := K) rfl) (pv 0) pe_int (fun _ _ => rfl)) (pv 5) (nomark _)) (pe_one (pe_cmpR op_eq (pe_ix (v_ixT (K := K) rfl) (pv 0) pe_int (fun _ _ => rfl)) (v_call (ok_law_left T) (hr.mono (by decide)) (by rfl) T.g_law_left T.F_law_left.kp T.b_law_left (pa_cons (pv 2) (pa_cons (pv 3) (pa_cons (pe_ix (v_ixT (K := K) rfl) (pv 0) pe_int (fun _ _ => rfl)) pa_nil)))) (nomark _)))))))))), st_5_1 rfl ?_⟩
  fail "go"
  refine ifF rfl ?_
  fail "go"
  refine ⟨a, b, c, m, τ, ts, ps, bl, os, _, rfl, (show Sts H (pto a (.lst (ts.map V.ref)) :: pto b (.lst (bl.map V.int)) :: pto c (.lst (os.map V.int)) :: im τ :: pto l (.lst (L.map V.int)) :: F) by fail "fp"), hts, hol, hend, hbl, hos, hfit, hpl, fun H1 S1 => ?_⟩
  clear S
  fail "go"
  refine ⟨l, m, L, _, rfl, (show Sts H1 (pto l (.lst (L.map V.int)) :: pto a (.lst (ts.map V.ref)) :: pto b (.lst (bl.map V.int)) :: pto c (.lst (os.map V.int)) :: im τ :: F) by fail "fp"), hpw, hrg, fun H2 S2 => ?_⟩
  clear S1
  fail "go"
  refine ifF (by rw [decide_eq_true hxL]; rfl) ?_
  fail "go"
  refine ifT (decide_eq_true hv1) ?_
  fail "go"
  refine ⟨a, b, l, m, τ, ts, ps, bl, L, _, rfl, (show Sts H2 (pto a (.lst (ts.map V.ref)) :: pto b (.lst (bl.map V.int)) :: pto l (.lst (L.map V.int)) :: im τ :: pto c (.lst (os.map V.int)) :: F) by fail "fp"), hts, hbl.1, hrg, by omega, fun H3 S3 => ?_⟩
  clear S2
  fail "go"
  rw [decide_eq_true hv2]
  exact q _ (by fail "fp")

--PART
theorem olist_perm {m : Int} {bl : List Int} {ps : List Oc.PI2} {ow : OwL} (h : Dl m bl ps ow) : (olist ow (srt ps)).Perm (ow.map (·.2)) := by
  have e : (ow.map (·.1)).map (fun q => (getT ow q).getD 0) = ow.map (·.2) := by
    rw [List.map_map]
    refine List.map_congr_left fun x hx => ?_
    show (getT ow x.1).getD 0 = x.2
    rw [getT_of h.1.nd hx]
    rfl
  rw [← e]
  exact ((srt_perm ps).trans h.2.1.symm).map _
theorem olist_count {m : Int} {bl : List Int} {ps : List Oc.PI2} {ow : OwL} (h : Dl m bl ps ow) (k : Int) : (olist ow (srt ps)).count k = ocn ow k := by
  rw [(olist_perm h).count_eq]
  unfold ocn List.count
  rw [List.countP_map]
  congr 1
theorem olist_rng {m : Int} {bl : List Int} {ps : List Oc.PI2} {ow : OwL} (h : Dl m bl ps ow) : ∀ x ∈ olist ow (srt ps), 0 ≤ x ∧ x < m := fun x hx => by
  obtain ⟨e, he, rfl⟩ := List.mem_map.mp ((olist_perm h).mem_iff.mp hx)
  exact h.1.rg2 he
theorem olist_end {m : Int} {bl : List Int} {ps : List Oc.PI2} {ow : OwL} (h : Dl m bl ps ow) (i : Nat) (p : Oc.PI2) (o : Int) (h1 : (srt ps)[i]? = some p) (h2 : (olist ow (srt ps))[i]? = some o) : o = p.1 ∨ o = p.2 := by
  unfold olist at h2
  rw [List.getElem?_map, h1] at h2
  have hm : p ∈ ow.map (·.1) := h.2.1.mem_iff.mpr (srt_mem.mp (List.mem_of_getElem? h1))
  have hs : (getT ow p).isSome = true := by rw [getT_some]; exact decide_eq_true hm
  obtain ⟨v, hv⟩ := Option.isSome_iff_exists.mp hs
  have e : (getT ow p).getD 0 = o := Option.some.inj h2
  rw [hv] at e
  have e : v = o := e
  subst e
  exact h.1.en _ (getT_mem hv)
theorem ins_perm {ks ps : List Oc.PI2} (h : ks.Perm ps) (L : List Int) : ins ks L = ins ps L := h.countP_eq _
theorem deal_all {m : Int} {bl : List Int} {ps : List Oc.PI2} {ow : OwL} (h : Dl m bl ps ow) {L : List Int} (n : L.Pairwise (· < ·)) (r : ∀ p ∈ L, 0 ≤ p ∧ p < m) : (ins ps L : Int) ≤ tot bl L := by
  rw [← ins_perm h.2.1]
  exact deal_not h.1 (n.imp fun a e => by omega) fun p hp => h.2.2 p (r p hp).1 (r p hp).2

theorem vals_gI (bl : List Int) (ps : List Oc.PI2) (n k i : Nat) (h : i < k) : gI (vals bl ps n k) (i : Int) = valOf bl ps n i := by
  unfold gI vals
  have e : ((i : Nat) : Int).toNat = i := by omega
  rw [e, List.getD_eq_getElem?_getD, List.getElem?_map, List.getElem?_range h]
  rfl
theorem vals_mem {bl : List Int} {ps : List Oc.PI2} {n k : Nat} {y : Int} : y ∈ vals bl ps n k ↔ ∃ i, i < k ∧ valOf bl ps n i = y := by
  unfold vals
  rw [List.mem_map]
  constructor
  · rintro ⟨i, hi, e⟩
    exact ⟨i, List.mem_range.mp hi, e⟩
  · rintro ⟨i, hi, e⟩
    exact ⟨i, List.mem_range.mpr hi, e⟩
theorem val_mask {bl : List Int} {ps : List Oc.PI2} {n : Nat} {L : List Int} (h : L.Pairwise (· < ·)) (r : ∀ p ∈ L, 0 ≤ p ∧ p < (n : Int)) : valOf bl ps n (maskOf L n) = tot bl L - ins ps L := by
  unfold valOf
  rw [lotOf_mask h r]
def withP (x : Int) (k : Nat) : List Nat := (List.range k).filter fun j : Nat => bI (j : Int) x
theorem withP_snoc (x : Int) (k : Nat) : withP x (k + 1) = withP x k ++ if bI (k : Int) x = true then [k] else [] := by
  unfold withP
  rw [List.range_succ, List.filter_append]
  congr 1
  show [k].filter (fun j : Nat => bI (j : Int) x) = _
  rw [List.filter_cons]
  rfl
theorem withP_len (x : Int) (k : Nat) : (withP x k).length ≤ k := by
  unfold withP
  refine Nat.le_trans (List.length_filter_le _ _) ?_
  rw [List.length_range]
  exact Nat.le_refl _
def spJudged (cS cW : Addr) : Sp := fun vs H Q _ => ∃ (p w a b : Addr) (x n k : Int) (τ0 τ : Tmap) (ts : List Addr) (ps : List Oc.PI2) (bl : List Int) (F : List Asr), vs = [.ref p, .int n, .ref a, .ref b, .int x] ∧ Sts H (stnc cS p w k bl :: webc τ0 cW w n ps :: im τ :: pto a (.lst (ts.map V.ref)) :: pto b (.lst (bl.map V.int)) :: F) ∧ Le τ0 τ ∧ Prs τ ts (srt ps) ∧ Wb1 n ps bl ∧ (0 ≤ x ∧ x < n) ∧
  ∀ υ H', Le τ υ → Sts H' (stnc cS p w k bl :: webc τ0 cW w n ps :: im υ :: pto a (.lst (ts.map V.ref)) :: pto b (.lst (bl.map V.int)) :: F) → Q (.bl true) H'
theorem ok_law_judged (T : Txt P K mg) : FnOk P w K mg base CX0 10 T.f_law_judged T.fd_law_judged ["standing", "many", "pairs", "blank", "page"] (spJudged T.c_Standing T.c_Web) := by
  refine T.F_law_judged.ok sc_law_judged (fun vs H Q E h => by obtain ⟨p, w, a, b, x, n, k, τ0, τ, ts, ps, bl, F, rfl, _⟩ := h; rfl) (fun cdv A outer s H vs Q E hr h => ?_)
  obtain ⟨p, w, a, b, x, n, k, τ0, τ, ts, ps, bl, F, rfl, S, hle, hts, hw, hx, q⟩ := h
  obtain ⟨hnd, hok, ⟨hbl, hm⟩, hbn, hpl⟩ := id hw
  have hsl := srt_len ps
  have hnt : (n.toNat : Int) = n := by omega
  refine ⟨_, (pss_cons (ps_set (i := 5) sc_law_judged.nd rfl (Or.inr rfl) (pe_lst pa_nil))
      (oc_cut (ps_if (pt_cmpR op_le (pv 1) pe_int (nomark _))
      (pss_one (ps_set (i := 5) sc_law_judged.nd rfl (Or.inr rfl) (v_call (ok_law_values T) (hr.mono (by decide)) (by rfl) T.g_law_values T.F_law_values.kp T.b_law_values (pa_cons (pv 1) (pa_cons (pv 2) (pa_cons (pv 3) pa_nil))))))
      pss_nil)
      (pss_cons (ps_set (i := 6) sc_law_judged.nd rfl (Or.inl rfl) (v_call (ok_law_told T) (hr.mono (by decide)) (by rfl) T.g_law_told T.F_law_told.kp T.b_law_told (pa_cons (pv 0) (pa_cons (pv 4) pa_nil))))
      (pss_cons (ps_if (pt_not (pt_val (pe_ix (v_ixT (K := K) rfl) (pv 6) pe_int (fun _ _ => rfl))))
      (pss_cons (ps_if (PW.pt (pw_and (pt_cmpR op_le (pv 1) pe_int (nomark _)) (pw_and1 (pt_cmpR op_ge (pe_callB (v_min (K := K) rfl rfl) (by rfl) T.z_min PyProof.Rows.boot_min (pa_cons (pv 5) pa_nil)) pe_int (nomark _)))))
      (pss_one (ps_ret pe_bl))
      pss_nil)
      (pss_one (ps_ret (pe_and (pe_ix (v_ixT (K := K) rfl) (pv 6) pe_int (fun _ _ => rfl)) (pe_and (v_call (ok_law_is_lot T) (hr.mono (by decide)) (by rfl) T.g_law_is_lot T.F_law_is_lot.kp T.b_law_is_lot (pa_cons (pe_ix (v_ixT (K := K) rfl) (pv 6) pe_int (fun _ _ => rfl)) (pa_cons (pv 1) pa_nil))) (pe_one (pe_cmpR op_lt (v_call (ok_law_left T) (hr.mono (by decide)) (by rfl) T.g_law_left T.F_law_left.kp T.b_law_left (pa_cons (pv 2) (pa_cons (pv 3) (pa_cons (pe_ix (v_ixT (K := K) rfl) (pv 6) pe_int (fun _ _ => rfl)) pa_nil)))) pe_int (nomark _))))))))
      pss_nil)
      (pss_cons (ps_if (pt_not (pt_val (v_call (ok_law_papers T) (hr.mono (by decide)) (by rfl) T.g_law_papers T.F_law_papers.kp T.b_law_papers (pa_cons (pe_ix (v_ixT (K := K) rfl) (pv 6) pe_int (fun _ _ => rfl)) (pa_cons (pv 1) (pa_cons (pv 2) (pa_cons (pv 3) (pa_cons (pv 4) pa_nil))))))))
      (pss_one (ps_ret pe_bl))
      pss_nil)
      (oc_cut (ps_if (pt_cmpR op_le (pv 1) pe_int (nomark _))
      (pss_cons (ps_set (i := 7) sc_law_judged.nd rfl (Or.inl rfl) (pe_callB (v_min (K := K) rfl rfl) (by rfl) T.z_min PyProof.Rows.boot_min (pa_cons (pe_lc (own := [("mask", 8)]) (g := gName 8) rfl sc_law_judged.nd (pi_range1 rfl T.z_range (pa_cons (pe_op op_shl pe_int (pv 1)) pa_nil)) (blkOk_by (own := [("mask", 8)]) (N := ["standing", "many", "pairs", "blank", "page", "values", "told", "least", "mask"]) (sc := defScope s_law_judged) (by decide +kernel)) (fun _ _ _ _ _ => (pg_name (i := 8) sc_law_judged.nd rfl (Or.inl rfl))) (fun _ _ _ _ _ => (pts_one (v_truth (K := K) rfl (pe_op v_and1 (pe_op op_shr (pv 8) (pv 4)) pe_int) (by intro _; rfl)))) (fun _ _ _ _ _ => (pe_ix (v_ixI (K := K) rfl) (pv 5) (pv 8) (fun _ _ => rfl)))) pa_nil)))
      (pss_one (ps_if (PW.pt (pw_or (pt_cmpR op_lt (pe_callB (v_min (K := K) rfl rfl) (by rfl) T.z_min PyProof.Rows.boot_min (pa_cons (pv 5) pa_nil)) pe_int (nomark _)) (pw_or1 (pt_cmpR op_ne (pe_ix (v_ixT (K := K) rfl) (pe_ix (v_ixT (K := K) rfl) (pv 6) pe_int (fun _ _ => rfl)) pe_int (fun _ _ => rfl)) (pv 7) (nomark _)))))
      (pss_one (ps_ret pe_bl))
      pss_nil)))
      pss_nil)
      (pss_cons (ps_expr (pe_bm PySem.F.plainAttrs_list PySem.F.slot_list_append PySem.F.type_list_append v_appendI (pe_ix (v_ixT (K := K) rfl) (pe_ix (v_ixT (K := K) rfl) (pv 6) pe_int (fun _ _ => rfl)) pe_int (fun _ _ => rfl)) (pa_cons (pv 4) pa_nil)))
      (pss_cons (ps_expr (pe_bm0 PySem.F.plainAttrs_list PySem.F.slot_list_reverse PySem.F.type_list_reverse mt_reverse (pe_ix (v_ixT (K := K) rfl) (pe_ix (v_ixT (K := K) rfl) (pv 6) pe_int (fun _ _ => rfl)) pe_int (fun _ _ => rfl))))
      (pss_cons (ps_expr (pe_bm PySem.F.plainAttrs_list PySem.F.slot_list_append PySem.F.type_list_append v_appendI (pe_ix (v_ixT (K := K) rfl) (pe_ix (v_ixT (K := K) rfl) (pv 6) pe_int (fun _ _ => rfl)) pe_int (fun _ _ => rfl)) (pa_cons (pv 4) pa_nil)))
      (pss_one (ps_ret pe_bl))))))))))), st_5_4 rfl ?_⟩
  fail "go"
  refine ⟨fun σ H => ∃ (c : Addr) (vl : List Int), σ = [some (.ref p), some (.int n), some (.ref a), some (.ref b), some (.int x), some (.ref c), none, none, none] ∧ (n ≤ 7 → vl = vals bl (srt ps) n.toNat (2 ^ n.toNat)) ∧
    Sts H (stnc T.c_Standing p w k bl :: webc τ0 T.c_Web w n ps :: im τ :: pto a (.lst (ts.map V.ref)) :: pto b (.lst (bl.map V.int)) :: pto c (.lst (vl.map V.int)) :: F), ?_, ?_⟩
  · fail "go"
    rename_i c0 H0 S0
    with_reducible refine ifB (fun c => ?_) (fun c => ?_)
    · have c := odt c
      fail "go"
      refine ⟨a, b, n, τ, ts, srt ps, bl, _, rfl, (show Sts H0 (pto a (.lst (ts.map V.ref)) :: pto b (.lst (bl.map V.int)) :: im τ :: stnc T.c_Standing p w k bl :: webc τ0 T.c_Web w n ps :: F) by fail "fp"), hts, (fun y hy => hok y (srt_mem.mp hy)), ⟨hbl, by omega, c⟩, fun c1 H1 S1 => ?_⟩
      fail "go"
      exact ⟨c1, _, rfl, fun _ => rfl, by fail "fp"⟩
    · have c := odf c
      fail "go"
      exact ⟨c0, [], rfl, fun e => absurd e c, by fail "fp"⟩
  rintro σ H ⟨c, vl, rfl, hvl, S⟩
  have hvp : n ≤ 7 → 0 < vl.length := fun h => by
    rw [hvl h, vals_len]
    exact Nat.two_pow_pos _
  fail "go"
  refine ⟨p, w, x, n, k, τ0, τ, ps, bl, _, rfl, S, hle, hw, hx, fun r u y l L ow υ H1 l1 er eu hD g1 g2 g3 g4 S1 => ?_, fun r l L υ H1 l1 er hL S1 => ?_⟩
  · have hol : (olist ow (srt ps)).length = (srt ps).length := List.length_map _
    have hLl : (L.length : Int) ≤ 60 := by
      rcases nodup_range_le (L := L) (m := n) (g1.imp fun h e => by omega) g3 with z | z
      · omega
      · rw [z, List.length_nil]
        decide
    have hval : ∀ M : List Int, M.Pairwise (· < ·) → (∀ p ∈ M, 0 ≤ p ∧ p < n) → (ins (srt ps) M : Int) ≤ tot bl M := fun M h1 h2 => by
      rw [ins_perm (srt_perm ps)]
      exact deal_all hD h1 h2
    have hlot : ∀ i : Nat, (∀ p ∈ lotOf (i : Int) n.toNat, 0 ≤ p ∧ p < n) := fun i p hp => by
      have := (lotOf_mem.mp hp).1
      omega
    have hv0 : ∀ i : Nat, 0 ≤ valOf bl (srt ps) n.toNat i := fun i => by
      have := hval (lotOf (i : Int) n.toNat) (lotOf_pw _ _) (hlot i)
      unfold valOf
      omega
    have hsl2 : tot bl L - ins (srt ps) L = gI bl x - ocn ow x := by
      rw [ins_perm (srt_perm ps)]
      exact g4
    have hleast : ∀ i : Nat, bI (i : Int) x = true → gI bl x - ocn ow x ≤ valOf bl (srt ps) n.toNat i := fun i hb => by
      have z := slack_le hD.1 hD.2.2 (L := lotOf (i : Int) n.toNat) ((lotOf_pw _ _).imp fun h e => by omega) (hlot i) (lotOf_mem.mpr ⟨⟨hx.1, by omega⟩, hb⟩)
      rw [ins_perm hD.2.1, ← ins_perm (srt_perm ps)] at z
      exact z
    have hmx : bI ((maskOf L n.toNat : Nat) : Int) x = true := by
      have e : x = (x.toNat : Int) := by omega
      rw [e, bI_nat, maskOf_bit L n.toNat x.toNat (by omega), ← e]
      exact decide_eq_true g2
    have hmv : valOf bl (srt ps) n.toNat (maskOf L n.toNat) = gI bl x - ocn ow x := by
      rw [val_mask g1 (fun p hp => by have := g3 p hp; omega)]
      exact hsl2
    clear S
    fail "go"
    refine ⟨u, a, b, y, l, n, x, _, υ, ts, srt ps, bl, olist ow (srt ps), L, _, rfl, (show Sts H1 (pto a (.lst (ts.map V.ref)) :: pto b (.lst (bl.map V.int)) :: pto y (.lst ((olist ow (srt ps)).map V.int)) :: pto l (.lst (L.map V.int)) :: im υ :: stnc T.c_Standing p w k bl :: webc τ0 T.c_Web w n ps :: pto c (.lst (vl.map V.int)) :: F) by fail "fp"), eu, hts.mono l1, hol, olist_end hD, ⟨hbl, by omega, by omega⟩, olist_rng hD, (fun k k0 k1 => by rw [olist_count hD]; exact hD.2.2 k k0 k1), by omega, g1, g3, by omega, g2, by rw [olist_count hD], hsl2.symm, fun H2 S2 => ?_⟩
    clear S1
    have fin : ∀ H2, Sts H2 (pto a (.lst (ts.map V.ref)) :: pto b (.lst (bl.map V.int)) :: stnc T.c_Standing p w k bl :: webc τ0 T.c_Web w n ps :: im υ :: F) → Q (.bl true) H2 := fun H2 S2 => q υ _ l1 (by fail "fp")
    fail "go"
    refine ⟨fun σ H => ∃ x7 x8 : Option V, σ = [some (.ref p), some (.int n), some (.ref a), some (.ref b), some (.int x), some (.ref c), some (.ref r), x7, x8] ∧ Sts H (pto y (.lst ((olist ow (srt ps)).map V.int)) :: pto l (.lst (L.map V.int)) :: im υ :: pto a (.lst (ts.map V.ref)) :: pto b (.lst (bl.map V.int)) :: stnc T.c_Standing p w k bl :: webc τ0 T.c_Web w n ps :: F), ?_, ?_⟩
    · fail "go"
      with_reducible refine ifB (fun c7 => ?_) (fun c7 => ?_)
      · have c7 := odt c7
        obtain ⟨B, hB⟩ : ∃ B : Nat, 2 ^ n.toNat = B := ⟨_, rfl⟩
        have hpw : ((1 : Int) * 2 ^ n.toNat) = (B : Int) := by rw [Int.one_mul, ← hB]; norm_cast
        have hp3 : B ≤ 128 := hB ▸ (Nat.pow_le_pow_right (by decide) (by omega) : 2 ^ n.toNat ≤ 2 ^ 7)
        have hnat : ((1 : Int) * 2 ^ n.toNat).toNat = B := by rw [hpw]; exact Int.toNat_natCast B
        have hvl := hvl c7
        rw [hB] at hvl
        have hvlen : vl.length = B := by rw [hvl, vals_len]
        fail "go"
        rename_i D H4 S4
        rw [hnat]
        refine oc_lcR (lo := 0) (n := B) (fun i H => Sts H (pto D (.lst (((withP x i).map fun j => valOf bl (srt ps) n.toNat j).map V.int)) :: pto c (.lst (vl.map V.int)) :: pto y (.lst ((olist ow (srt ps)).map V.int)) :: pto l (.lst (L.map V.int)) :: im υ :: pto a (.lst (ts.map V.ref)) :: pto b (.lst (bl.map V.int)) :: stnc T.c_Standing p w k bl :: webc τ0 T.c_Web w n ps :: F)) (by show Sts H4 _; exact (by fail "fp")) ?_ ?_
        · rintro i H hi S
          have ei : 0 + (i : Int) = (i : Int) := by omega
          have hs := withP_snoc x i
          have hwl := withP_len x i
          rw [ei]
          fail "go"
          with_reducible refine ifB (fun c8 => ?_) (fun c8 => ?_)
          · have c8 : bI (i : Int) x = true := c8
            rw [if_pos c8] at hs
            fail "go"
            fail "lce"
            rename_i H8 S8
            have e : gI vl (i : Int) = valOf bl (srt ps) n.toNat i := by rw [hvl]; exact vals_gI bl (srt ps) n.toNat B i hi
            rw [e] at S8
            show Sts _ _
            rw [hs, List.map_append, List.map_append]
            exact S8
          · have c8 : bI (i : Int) x = false := c8
            rw [if_neg (by rw [c8]; exact Bool.false_ne_true), List.append_nil] at hs
            show Sts _ _
            rw [hs]
            exact S
        · rintro H S
          have hmemw : maskOf L n.toNat ∈ withP x B := by
            unfold withP
            exact List.mem_filter.mpr ⟨List.mem_range.mpr (hB ▸ maskOf_lt L n.toNat), hmx⟩
          have hmem2 : gI bl x - ocn ow x ∈ (withP x B).map fun j => valOf bl (srt ps) n.toNat j := List.mem_map.mpr ⟨_, hmemw, hmv⟩
          have hlen2 : 0 < ((withP x B).map fun j => valOf bl (srt ps) n.toNat j).length := List.length_pos_of_mem hmem2
          fail "go"
          refine g_min (by fail "sq") hlen2 (fun m0 hm1 hm2 => ?_)
          have em : m0 = gI bl x - ocn ow x := by
            obtain ⟨j, hj, e⟩ := List.mem_map.mp hm1
            have h1 := hleast j (List.mem_filter.mp hj).2
            have h2 := hm2 _ hmem2
            have e : valOf bl (srt ps) n.toNat j = m0 := e
            omega
          subst em
          fail "go"
          refine g_min (by fail "sq") (by omega) (fun z hz hzl => ?_)
          have hz0 : 0 ≤ z := by
            rw [hvl] at hz
            obtain ⟨j, _, rfl⟩ := vals_mem.mp hz
            exact hv0 j
          fail "gd"
          exact ⟨_, _, rfl, by fail "fp"⟩
      · fail "go"
        exact ⟨_, _, rfl, by fail "fp"⟩
    clear S2
    rintro σ H ⟨x7, x8, rfl, S⟩
    fail "go"
    rename_i H5 S5
    refine ⟨l, _, rfl, rfl, (by fail "hp"), ?_⟩
    have S6 := (show Sts H5 (pto l (.lst (L.map V.int)) :: pto y (.lst ((olist ow (srt ps) ++ [x]).map V.int)) :: im υ :: pto a (.lst (ts.map V.ref)) :: pto b (.lst (bl.map V.int)) :: stnc T.c_Standing p w k bl :: webc τ0 T.c_Web w n ps :: F) by fail "fp").put (.lst (L.map V.int).reverse)
    rw [← List.map_reverse] at S6 ⊢
    generalize upd H5 l _ = H6 at S6 ⊢
    clear S5 S
    have hLr : L.reverse.length ≤ 100000 := by rw [List.length_reverse]; omega
    fail "go"
    exact fin _ (by fail "fp")
  · have hneg : tot bl L < ins (srt ps) L := by
      rw [ins_perm (srt_perm ps)]
      exact hL.2.2
    have hLl : (L.length : Int) ≤ 60 := by
      rcases nodup_range_le (L := L) (m := n) (hL.1.imp fun h e => by omega) hL.2.1 with z | z
      · omega
      · rw [z, List.length_nil]
        decide
    clear S
    have fin : ∀ H2, Sts H2 (pto l (.lst (L.map V.int)) :: stnc T.c_Standing p w k bl :: webc τ0 T.c_Web w n ps :: im υ :: pto a (.lst (ts.map V.ref)) :: pto b (.lst (bl.map V.int)) :: pto c (.lst (vl.map V.int)) :: F) → Q (.bl true) H2 := fun H2 S2 => q υ _ l1 (by fail "fp")
    fail "go"
    with_reducible refine ifB (fun c7 => ?_) (fun c7 => ?_)
    · have c7 := odt c7
      fail "go"
      refine g_min (by fail "sq") (hvp c7) (fun z hz hzl => ?_)
      have hzn : z < 0 := by
        have w := hzl (valOf bl (srt ps) n.toNat (maskOf L n.toNat)) (by rw [hvl c7]; exact vals_mem.mpr ⟨_, maskOf_lt L _, rfl⟩)
        rw [val_mask hL.1 (fun p hp => by have := hL.2.1 p hp; omega)] at w
        omega
      fail "gd"
      refine ⟨l, n, L, _, rfl, (show Sts H1 (pto l (.lst (L.map V.int)) :: stnc T.c_Standing p w k bl :: webc τ0 T.c_Web w n ps :: im υ :: pto a (.lst (ts.map V.ref)) :: pto b (.lst (bl.map V.int)) :: pto c (.lst (vl.map V.int)) :: F) by fail "fp"), hL.1, hL.2.1, fun H2 S2 => ?_⟩
      fail "go"
      refine ⟨a, b, l, n, υ, ts, srt ps, bl, L, _, rfl, (show Sts H2 (pto a (.lst (ts.map V.ref)) :: pto b (.lst (bl.map V.int)) :: pto l (.lst (L.map V.int)) :: im υ :: stnc T.c_Standing p w k bl :: webc τ0 T.c_Web w n ps :: pto c (.lst (vl.map V.int)) :: F) by fail "fp"), hts.mono l1, hbl, hL.2.1, by omega, fun H3 S3 => ?_⟩
      clear S1 S2
      fail "go"
      rw [decide_eq_true (by omega : tot bl L - (ins (srt ps) L : Int) < 0)]
      exact fin _ (by fail "fp")
    · fail "go"
      refine ⟨l, n, L, _, rfl, (show Sts H1 (pto l (.lst (L.map V.int)) :: stnc T.c_Standing p w k bl :: webc τ0 T.c_Web w n ps :: im υ :: pto a (.lst (ts.map V.ref)) :: pto b (.lst (bl.map V.int)) :: pto c (.lst (vl.map V.int)) :: F) by fail "fp"), hL.1, hL.2.1, fun H2 S2 => ?_⟩
      fail "go"
      refine ⟨a, b, l, n, υ, ts, srt ps, bl, L, _, rfl, (show Sts H2 (pto a (.lst (ts.map V.ref)) :: pto b (.lst (bl.map V.int)) :: pto l (.lst (L.map V.int)) :: im υ :: stnc T.c_Standing p w k bl :: webc τ0 T.c_Web w n ps :: pto c (.lst (vl.map V.int)) :: F) by fail "fp"), hts.mono l1, hbl, hL.2.1, by omega, fun H3 S3 => ?_⟩
      clear S1 S2
      fail "go"
      rw [decide_eq_true (by omega : tot bl L - (ins (srt ps) L : Int) < 0)]
      exact fin _ (by fail "fp")

--PART
theorem go_makeW {cW a : Addr} {n : Int} {τ : Tmap} {ts : List Addr} {ps : List Oc.PI2} {L : List Asr} {H1 : Hp} {Q : VK} (S : Sts H1 (im τ :: pto a (.lst (ts.map V.ref)) :: L)) (hp : Prs τ ts ps) (ho : Ok n ps) (hn : 0 ≤ n ∧ n ≤ 100000) (hl : ps.length ≤ 100000) (k : ∀ x υ H3, Le τ υ → Sts H3 (webc υ cW x n ps :: im υ :: pto a (.lst (ts.map V.ref)) :: L) → Q (.ref x) H3) : kMake cW (spWebInit cW) [] Q [.int n, .ref a] H1 :=
  ⟨_, S, fun x dx H2 S2 => ⟨x, dx, a, n, τ, ts, ps, L, rfl, S2, hp, ho, hn, hl, fun υ H' l S' => ⟨rfl, k x υ H' l S'⟩⟩⟩
theorem go_makeS {cS cW w a : Addr} {n k : Int} {τ : Tmap} {ps : List Oc.PI2} {bl : List Int} {L : List Asr} {H1 : Hp} {Q : VK} (S : Sts H1 (webc τ cW w n ps :: pto a (.lst (bl.map V.int)) :: L)) (hn : (bl.length : Int) = n) (hb : ∀ x ∈ bl, 0 ≤ x ∧ x ≤ k) (kk : ∀ x H3, Sts H3 (stnc cS x w k bl :: webc τ cW w n ps :: pto a (.lst (bl.map V.int)) :: L) → Q (.ref x) H3) : kMake cS (spStInit cS cW) [] Q [.ref w, .int k, .ref a] H1 :=
  ⟨_, S, fun x dx H2 S2 => ⟨x, dx, w, a, n, k, τ, ps, bl, L, rfl, S2, hn, hb, fun H' S' => ⟨rfl, kk x H' S'⟩⟩⟩
local macro_rules | `(tactic| fail "gs") => `(tactic| ((with_reducible apply K07.go_makeW); fail "fr2"; fail "prl"; assumption; exact ⟨by omega, by omega⟩; omega; intro ox oυ oh ol os))
local macro_rules | `(tactic| fail "gs") => `(tactic| ((with_reducible apply K07.go_makeS); fail "fr2"; assumption; assumption; intro ox oh os))
theorem ok_wb1 {m l : Int} {ps : List Oc.PI2} {bl : List Int} (h : Ok m ps) (hb : (bl.length : Int) = m) (hm : m ≤ 60) (hbl : ∀ x ∈ bl, 0 ≤ x ∧ x ≤ l) (hp : ps.length ≤ 90000) : Wb1 m ps bl :=
  ⟨h.1, fun q hq => have z := h.2 q hq; ⟨z.2.2.2.2, ⟨z.1, z.2.1⟩, z.2.2.1, z.2.2.2.1⟩, ⟨hb, hm⟩, fun x hx => (hbl x hx).1, hp⟩
def spLaw (K : PySem.W.Frag) : Sp := fun vs H Q _ => ∃ (a : Addr) (ns : List Int), vs = [.ref a] ∧ SqL K H a (ns.map V.int) ∧ ns.length ≤ 63 ∧ ∀ H', Q (.bl true) H'
theorem ok_law (T : Txt P K mg) : FnOk P w K mg base CX0 11 T.f_law T.fd_law ["script"] (spLaw K) := by
  refine T.F_law.ok sc_law (fun vs H Q E h => by obtain ⟨a, ns, rfl, _⟩ := h; rfl) (fun cdv A outer s H vs Q E hr h => ?_)
  obtain ⟨a, ns, rfl, hS, hlen, q⟩ := h
  have S := (sts_script hS).im0
  clear hS
  refine ⟨_, (pss_cons (ps_set (i := 1) sc_law.nd rfl (Or.inl rfl) (v_call (ok_law_world T) (hr.mono (by decide)) (by rfl) T.g_law_world T.F_law_world.kp T.b_law_world (pa_cons (pv 0) (pa_cons pe_int pa_nil))))
      (pss_cons (ps_set (i := 2) sc_law.nd rfl (Or.inr rfl) (pe_ix (v_ixT (K := K) rfl) (pv 1) pe_int (fun _ _ => rfl)))
      (pss_cons (ps_set (i := 3) sc_law.nd rfl (Or.inl rfl) (pe_callB (v_sortP (K := K) rfl) (by rfl) T.z_sorted PyProof.Rows.boot_sorted (pa_cons (pe_ix (v_ixT (K := K) rfl) (pv 1) pe_int (fun _ _ => rfl)) pa_nil)))
      (oc_cut (ps_set (i := 4) sc_law.nd rfl (Or.inl rfl) (v_call (ok_law_owners T) (hr.mono (by decide)) (by rfl) T.g_law_owners T.F_law_owners.kp T.b_law_owners (pa_cons (v_call (ok_law_source T) (hr.mono (by decide)) (by rfl) T.g_law_source T.F_law_source.kp T.b_law_source (pa_cons (v_call (ok_law_cell T) (hr.mono (by decide)) (by rfl) T.g_law_cell T.F_law_cell.kp T.b_law_cell (pa_cons (pv 0) (pa_cons pe_int pa_nil))) pa_nil)) (pa_cons (pv 3) pa_nil))))
      (pss_cons (ps_set (i := 5) sc_law.nd rfl (Or.inr rfl) (v_call (ok_law_source T) (hr.mono (by decide)) (by rfl) T.g_law_source T.F_law_source.kp T.b_law_source (pa_cons (v_call (ok_law_cell T) (hr.mono (by decide)) (by rfl) T.g_law_cell T.F_law_cell.kp T.b_law_cell (pa_cons (pv 0) (pa_cons pe_int pa_nil))) pa_nil)))
      (pss_cons (ps_set (i := 6) sc_law.nd rfl (Or.inl rfl) (v_call (ok_law_table T) (hr.mono (by decide)) (by rfl) T.g_law_table T.F_law_table.kp T.b_law_table (pa_cons (pv 5) (pa_cons (pv 2) (pa_cons (pv 4) pa_nil)))))
      (pss_cons (ps_set (i := 7) sc_law.nd rfl (Or.inl rfl) (pe_ix (v_ixT (K := K) rfl) (pv 6) pe_int (fun _ _ => rfl)))
      (pss_cons (ps_set (i := 8) sc_law.nd rfl (Or.inl rfl) (pe_ix (v_ixT (K := K) rfl) (pv 6) pe_int (fun _ _ => rfl)))
      (oc_cut (ps_set (i := 9) sc_law.nd rfl (Or.inl rfl) (v_call (ok_law_near T) (hr.mono (by decide)) (by rfl) T.g_law_near T.F_law_near.kp T.b_law_near (pa_cons (pv 5) (pa_cons (pv 7) (pa_cons (pv 8) pa_nil)))))
      (pss_cons (ps_set (i := 5) sc_law.nd rfl (Or.inr rfl) (v_call (ok_law_source T) (hr.mono (by decide)) (by rfl) T.g_law_source T.F_law_source.kp T.b_law_source (pa_cons (v_call (ok_law_cell T) (hr.mono (by decide)) (by rfl) T.g_law_cell T.F_law_cell.kp T.b_law_cell (pa_cons (pv 0) (pa_cons pe_int pa_nil))) pa_nil)))
      (pss_cons (ps_setLc (i := 10) (own := [("k", 16)]) (g := gName 16) (tt := tYes) rfl sc_law.nd rfl rfl (sw_true rfl rfl rfl (by decide +kernel)) (pi_range1 rfl T.z_range (pa_cons pe_int pa_nil)) (blkOk_by (own := [("k", 16)]) (N := ["script", "world", "many", "pairs", "owners", "source", "table", "lines", "blank", "near", "asked", "stranger", "web", "first", "second", "page", "k"]) (sc := defScope s_law) (by decide +kernel)) (fun _ _ _ _ _ => (pg_name (i := 16) sc_law.nd rfl (Or.inl rfl))) (fun _ _ _ _ _ => pts_nil) (fun _ _ _ _ _ => (v_call (ok_law_take T) (hr.mono (by decide)) (by rfl) T.g_law_take T.F_law_take.kp T.b_law_take (pa_cons (pv 5) (pa_cons (pv 2) pa_nil)))))
      (pss_cons (ps_set (i := 11) sc_law.nd rfl (Or.inl rfl) (pe_op op_add (pv 2) (v_call (ok_law_take T) (hr.mono (by decide)) (by rfl) T.g_law_take T.F_law_take.kp T.b_law_take (pa_cons (pv 5) (pa_cons pe_int pa_nil)))))
      (oc_cut (ps_if (pt_cmpR op_eq (v_call (ok_law_take T) (hr.mono (by decide)) (by rfl) T.g_law_take T.F_law_take.kp T.b_law_take (pa_cons (pv 5) (pa_cons pe_int pa_nil))) pe_int (nomark _))
      (pss_one (ps_set (i := 11) sc_law.nd rfl (Or.inl rfl) (pe_op op_sub (pe_un un_neg pe_int) (v_call (ok_law_take T) (hr.mono (by decide)) (by rfl) T.g_law_take T.F_law_take.kp T.b_law_take (pa_cons (pv 5) (pa_cons (pv 2) pa_nil))))))
      pss_nil)
      (pss_cons (ps_set (i := 12) sc_law.nd rfl (Or.inl rfl) (oc_make T.mk_Web (ok_Web_init T) (hr.mono (by decide)) (by rfl) T.gc_Web T.b_Web_init .nil (pa_cons (pv 2) (pa_cons (pe_callTy (v_list (K := K) rfl) (by rfl) T.z_list PyProof.Rows.boot_list (pa_cons (pe_ix (v_ixT (K := K) rfl) (pv 1) pe_int (fun _ _ => rfl)) pa_nil)) pa_nil))))
      (pss_cons (ps_set (i := 13) sc_law.nd rfl (Or.inl rfl) (oc_make T.mk_Standing (ok_Standing_init T) (hr.mono (by decide)) (by rfl) T.gc_Standing T.b_Standing_init .nil (pa_cons (pv 12) (pa_cons (pv 7) (pa_cons (pe_callTy (v_list (K := K) rfl) (by rfl) T.z_list PyProof.Rows.boot_list (pa_cons (pv 8) pa_nil)) pa_nil)))))
      (pss_cons (ps_set (i := 14) sc_law.nd rfl (Or.inl rfl) (oc_make T.mk_Standing (ok_Standing_init T) (hr.mono (by decide)) (by rfl) T.gc_Standing T.b_Standing_init .nil (pa_cons (pv 12) (pa_cons (pv 7) (pa_cons (pe_callTy (v_list (K := K) rfl) (by rfl) T.z_list PyProof.Rows.boot_list (pa_cons (pv 9) pa_nil)) pa_nil)))))
      (pss_cons (ps_for PassesOwn.never rfl (pi_list (pv 10)) (pg_name (i := 15) sc_law.nd rfl (Or.inl rfl))
      (pss_one (ps_if (pt_not (pt_val (v_call (ok_law_judged T) (hr.mono (by decide)) (by rfl) T.g_law_judged T.F_law_judged.kp T.b_law_judged (pa_cons (pv 13) (pa_cons (pv 2) (pa_cons (pv 3) (pa_cons (pv 8) (pa_cons (pv 15) pa_nil))))))))
      (pss_one (ps_ret pe_bl))
      pss_nil)))
      (pss_cons (ps_if (pt_not (pt_val (v_call (ok_law_judged T) (hr.mono (by decide)) (by rfl) T.g_law_judged T.F_law_judged.kp T.b_law_judged (pa_cons (pv 14) (pa_cons (pv 2) (pa_cons (pv 3) (pa_cons (pv 9) (pa_cons (pe_ix (v_ixI (K := K) rfl) (pv 10) pe_int (fun _ _ => rfl)) pa_nil))))))))
      (pss_one (ps_ret pe_bl))
      pss_nil)
      (pss_cons (ps_if (pt_not (pt_val (v_call (ok_law_judged T) (hr.mono (by decide)) (by rfl) T.g_law_judged T.F_law_judged.kp T.b_law_judged (pa_cons (pv 13) (pa_cons (pv 2) (pa_cons (pv 3) (pa_cons (pv 8) (pa_cons (pe_ix (v_ixI (K := K) rfl) (pv 10) pe_int (fun _ _ => rfl)) pa_nil))))))))
      (pss_one (ps_ret pe_bl))
      pss_nil)
      (pss_cons (ps_if (PW.pt (pw_or (pt_not (pt_val (v_call (ok_law_refused T) (hr.mono (by decide)) (by rfl) T.g_law_refused T.F_law_refused.kp T.b_law_refused (pa_cons (pv 13) (pa_cons (pv 11) pa_nil))))) (pw_or1 (pt_not (pt_val (v_call (ok_law_refused T) (hr.mono (by decide)) (by rfl) T.g_law_refused T.F_law_refused.kp T.b_law_refused (pa_cons (pv 14) (pa_cons (pv 11) pa_nil))))))))
      (pss_one (ps_ret pe_bl))
      pss_nil)
      (pss_one (ps_ret (pe_and (pe_cmpR (v_eqIs (K := K) rfl hr.units) (oc_meth0 (pv 13) T.cl_Standing T.me_Standing_blanks (ok_Standing_blanks T) (hr.mono (by decide)) T.b_Standing_blanks) (pv 8) (nomark _)) (pe_and (pe_cmpR (v_eqIs (K := K) rfl hr.units) (oc_meth0 (pv 14) T.cl_Standing T.me_Standing_blanks (ok_Standing_blanks T) (hr.mono (by decide)) T.b_Standing_blanks) (pv 9) (nomark _)) (pe_one (pe_cmpR (v_eqPs (K := K) rfl hr.units) (oc_meth0 (pv 12) T.cl_Web T.me_Web_arrows (ok_Web_arrows T) (hr.mono (by decide)) T.b_Web_arrows) (pv 3) (nomark _))))))))))))))))))))))))))), st_1_16 rfl ?_⟩
  fail "go"
  rename_i υ t b c d m sh ts ps H1 hle ht hm hmr hts hok hpl S1
  refine g_sortP (by fail "sq") (by fail "prs") (fun us hus => ?_)
  obtain ⟨φ, l2, hus2, S2⟩ := S1.swap.learnL hus
  clear S1
  have hts2 := hts.mono l2
  have ht2 : φ t = some [.int m, .ref b, .ref c, .ref d, .int sh] := l2 _ _ ht
  have hok2 := okPerm hok (srt_perm ps)
  have hsl := srt_len ps
  clear hts ht hus S
  fail "go"
  rename_i pa H2 S3
  clear S2
  refine ⟨fun σ H => ∃ (ow : Addr) (os : List Int), σ = [some (.ref a), some (.ref t), some (.int m), some (.ref pa), some (.ref ow), none, none, none, none, none, none, none, none, none, none, none, none] ∧ os.length = ps.length ∧ (∀ x ∈ os, 0 ≤ x ∧ x < m) ∧ Sts H [pto ow (.lst (os.map V.int)), pto pa (.lst (us.map V.ref)), im φ, sqc K a (ns.map V.int), pto b (.lst (ts.map V.ref))], ?_, ?_⟩
  · fail "go"
    rename_i c5 H5 c50 S5 s5 H6 S6 ow os H7 e1 e2 S7
    exact ⟨ow, os, rfl, by omega, e2, by fail "fp"⟩
  clear S3
  rintro σ H ⟨ow, os, rfl, hol, hos, S⟩
  fail "go"
  refine ⟨fun σ H => ∃ (φ2 : Tmap) (s tb bb nn : Addr) (l : Int) (bl nl : List Int), σ = [some (.ref a), some (.ref t), some (.int m), some (.ref pa), some (.ref ow), some (.ref s), some (.ref tb), some (.int l), some (.ref bb), some (.ref nn), none, none, none, none, none, none, none] ∧ Le φ φ2 ∧ (bl.length : Int) = m ∧ (∀ x ∈ bl, 0 ≤ x ∧ x ≤ l) ∧ (nl.length : Int) = m ∧ (∀ x ∈ nl, 0 ≤ x ∧ x ≤ l) ∧
    Sts H [pto nn (.lst (nl.map V.int)), pto bb (.lst (bl.map V.int)), im φ2, pto ow (.lst (os.map V.int)), pto pa (.lst (us.map V.ref)), sqc K a (ns.map V.int), pto b (.lst (ts.map V.ref))], ?_, ?_⟩
  · fail "go"
    rename_i c6 H5 c60 S5 s H6 S6 φ2 tb bb l bl H7 l7 e7 l0 hbl hblb S7 nn nl H8 hnl hnlb S8
    exact ⟨φ2, s, tb, bb, nn, l, bl, nl, rfl, l7, hbl, hblb, by omega, hnlb, by fail "fp"⟩
  clear S
  rintro σ H ⟨φ2, s, tb, bb, nn, l, bl, nl, rfl, l3, hbl, hblb, hnl, hnlb, S⟩
  have hts3 := hts2.mono l3
  have hus3 := hus2.mono l3
  have ht3 : φ2 t = some [.int m, .ref b, .ref c, .ref d, .int sh] := l3 _ _ ht2
  have hw1 := ok_wb1 hok hbl (by omega) hblb (by omega)
  have hw2 := ok_wb1 hok hnl (by omega) hnlb (by omega)
  clear hts2 hus2 ht2
  fail "go"
  rename_i c7 H5 c70 S5 s2 H6 S6 D H7 S7
  clear S5 S6 S
  refine oc_lcR (lo := 0) (n := ((3 : Int)).toNat) (fun i H => ∃ al : List Int, al.length = i ∧ (∀ x ∈ al, 0 ≤ x ∧ x < m) ∧ Sts H [pto D (.lst (al.map V.int)), src s2, pto nn (.lst (nl.map V.int)), pto bb (.lst (bl.map V.int)), im φ2, pto pa (.lst (us.map V.ref)), pto b (.lst (ts.map V.ref))]) ⟨[], rfl, (fun _ h => nomatch h), by fail "fp"⟩ ?_ ?_
  · clear S7
    rintro i H hi ⟨al, hl, ha, S⟩
    fail "go"
    rename_i d8 H8 d80 d81 S8
    fail "lce"
    refine ⟨al ++ [d8], by rw [List.length_append, hl]; rfl, fun x hx => ?_, by rw [List.map_append]; fail "fp"⟩
    rcases List.mem_append.mp hx with hx | hx
    · exact ha x hx
    · rw [List.mem_singleton.mp hx]
      omega
  clear S7
  rintro H ⟨al, hal, hak, S⟩
  have hal : al.length = 3 := hal
  fail "go"
  rename_i d9 H9 d90 d91 S9
  clear S
  refine ⟨fun σ H => ∃ (st : Int), σ = [some (.ref a), some (.ref t), some (.int m), some (.ref pa), some (.ref ow), some (.ref s2), some (.ref tb), some (.int l), some (.ref bb), some (.ref nn), some (.ref D), some (.int st), none, none, none, none, none] ∧ ¬ (0 ≤ st ∧ st < m) ∧
    Sts H [pto D (.lst (al.map V.int)), pto nn (.lst (nl.map V.int)), pto bb (.lst (bl.map V.int)), im φ2, pto pa (.lst (us.map V.ref)), pto b (.lst (ts.map V.ref))], ?_, ?_⟩
  · fail "go"
    rename_i d10 H10 d100 d101 S10
    with_reducible refine ifB (fun c => ?_) (fun c => ?_)
    · fail "go"
      rename_i d11 H11 d110 d111 S11
      exact ⟨_, rfl, by omega, by fail "fp"⟩
    · fail "go"
      exact ⟨_, rfl, by omega, by fail "fp"⟩
  clear S9
  rintro σ H ⟨st, rfl, hst, S⟩
  fail "go"
  rename_i cp H20 S20 web υ4 H21 l4 S21 cb H22 S22 p1 H23 S23 cn H24 S24 p2 H25 S25
  have hus4 := hus3.mono l4
  clear S20 S21 S22 S23 S24 S hts3 hus3 ht3
  refine for_ints (K := K) al (fun i σ H => ∃ (υ : Tmap) (x15 : Option V), σ = [some (.ref a), some (.ref t), some (.int m), some (.ref pa), some (.ref ow), some (.ref s2), some (.ref tb), some (.int l), some (.ref bb), some (.ref nn), some (.ref D), some (.int st), some (.ref web), some (.ref p1), some (.ref p2), x15, none] ∧ Le υ4 υ ∧
    Sts H [stnc T.c_Standing p1 web l bl, webc υ4 T.c_Web web m ps, im υ, pto pa (.lst (us.map V.ref)), pto bb (.lst (bl.map V.int)), stnc T.c_Standing p2 web l nl, pto nn (.lst (nl.map V.int)), pto D (.lst (al.map V.int))]) ⟨υ4, none, rfl, Le.refl _, by fail "fp"⟩ (fun i σ H ⟨_, _, _, _, S⟩ => by fail "sq") ?_ ?_
  · clear S25
    rintro i x σ H hi ⟨υ, x15, rfl, l5, S⟩
    have hxr := hak x (List.mem_of_getElem? hi)
    fail "go"
    refine ⟨p1, web, pa, bb, x, m, l, υ4, υ, us, ps, bl, _, rfl, S, l5, hus4.mono l5, hw1, hxr, fun υ6 H26 l6 S26 => ?_⟩
    clear S
    fail "go"
    exact ⟨υ6, _, rfl, l5.trans l6, by fail "fp"⟩
  clear S25
  rintro σ H ⟨υ5, x15, rfl, l5, S⟩
  have h0 := hak _ (gI_mem (ns := al) (i := 0) (Int.le_refl 0) (by omega))
  fail "go"
  refine ⟨p2, web, pa, nn, _, m, l, υ4, υ5, us, ps, nl, _, rfl, (show Sts H (stnc T.c_Standing p2 web l nl :: webc υ4 T.c_Web web m ps :: im υ5 :: pto pa (.lst (us.map V.ref)) :: pto nn (.lst (nl.map V.int)) :: [stnc T.c_Standing p1 web l bl, pto bb (.lst (bl.map V.int)), pto D (.lst (al.map V.int))]) by fail "fp"), l5, hus4.mono l5, hw2, h0, fun υ6 H27 l6 S27 => ?_⟩
  clear S
  fail "go"
  refine ⟨p1, web, pa, bb, _, m, l, υ4, υ6, us, ps, bl, _, rfl, (show Sts H27 (stnc T.c_Standing p1 web l bl :: webc υ4 T.c_Web web m ps :: im υ6 :: pto pa (.lst (us.map V.ref)) :: pto bb (.lst (bl.map V.int)) :: [stnc T.c_Standing p2 web l nl, pto nn (.lst (nl.map V.int))]) by fail "fp"), l5.trans l6, (hus4.mono l5).mono l6, hw1, h0, fun υ7 H28 l7 S28 => ?_⟩
  clear S27
  have hus7 := ((hus4.mono l5).mono l6).mono l7
  have hle7 : Le υ4 υ7 := l5.trans (l6.trans l7)
  fail "go"
  refine ⟨p1, web, st, m, l, υ4, υ7, ps, bl, _, rfl, S28, hle7, hw1, hst, fun H29 S29 => ?_⟩
  clear S28
  fail "go"
  refine ⟨p2, web, st, m, l, υ4, υ7, ps, nl, _, rfl, (show Sts H29 (stnc T.c_Standing p2 web l nl :: webc υ4 T.c_Web web m ps :: im υ7 :: pto pa (.lst (us.map V.ref)) :: pto nn (.lst (nl.map V.int)) :: [stnc T.c_Standing p1 web l bl, pto bb (.lst (bl.map V.int))]) by fail "fp"), hle7, hw2, hst, fun H30 S30 => ?_⟩
  clear S29
  fail "go"
  rw [decide_eq_true rfl]
  exact q _

--PART
/-! -/

end
set_option maxHeartbeats 4000000
/-! ### what the top has written; the law's own head -/
theorem all_mk {w : World} {K : PySem.W.Frag} {h : Heap} {mg : Str → Option Value} {fa : Addr} (X : K.In h) (G : h.Ns mainGlobals mg) (hfa : mg "law" = some (.ref fa))
    {cc_OnecopyError : Addr}
    {cc_LotError : Addr}
    {cc_ShortLot : Addr}
    {cc_NotShort : Addr}
    {cc_NoPage : Addr}
    {cc_InvalidPointer : Addr}
    {cc_InvalidStanding : Addr}
    {cc_NoLine : Addr}
    {cc_Web : Addr}
    {cc_Standing : Addr}
    {f0 : Addr} {od0 an0 : Option Addr} {sl0 : Array (Option Value)} {oc0 kV0 dc0 pm0 ct0 : Value}
    {q0 h0 : Addr} {ql0 hl0 : Value} {qd0 hd0 : Option Addr} {qs0 hs0 : Array (Option Value)} {hv0 : Array Value} {hf0 : Str} {ht0 : Tok} {ci0 : ClassData}
    {dT0 : Addr} {dv0_0 dtc0 : Value} {dtd0 : Option Addr} {dtm0 : Nat} {dts0 : Array (Option Value)}
    {f1 : Addr} {od1 an1 : Option Addr} {sl1 : Array (Option Value)} {oc1 kV1 dc1 pm1 ct1 : Value}
    {q1 h1 : Addr} {ql1 hl1 : Value} {qd1 hd1 : Option Addr} {qs1 hs1 : Array (Option Value)} {hv1 : Array Value} {hf1 : Str} {ht1 : Tok} {ci1 : ClassData}
    {f2 : Addr} {od2 an2 : Option Addr} {sl2 : Array (Option Value)} {oc2 kV2 dc2 pm2 ct2 : Value}
    {q2 h2 : Addr} {ql2 hl2 : Value} {qd2 hd2 : Option Addr} {qs2 hs2 : Array (Option Value)} {hv2 : Array Value} {hf2 : Str} {ht2 : Tok} {ci2 : ClassData}
    {f3 : Addr} {od3 an3 : Option Addr} {sl3 : Array (Option Value)} {oc3 kV3 dc3 pm3 cd3 ct3 : Value}
    {f4 : Addr} {od4 an4 : Option Addr} {sl4 : Array (Option Value)} {oc4 kV4 dc4 pm4 cd4 ct4 : Value}
    {f5 : Addr} {od5 an5 : Option Addr} {sl5 : Array (Option Value)} {oc5 kV5 dc5 pm5 cd5 ct5 : Value}
    {f6 : Addr} {od6 an6 : Option Addr} {sl6 : Array (Option Value)} {oc6 kV6 dc6 pm6 cd6 ct6 : Value}
    {f7 : Addr} {od7 an7 : Option Addr} {sl7 : Array (Option Value)} {oc7 kV7 dc7 pm7 cd7 ct7 : Value}
    {f8 : Addr} {od8 an8 : Option Addr} {sl8 : Array (Option Value)} {oc8 kV8 dc8 pm8 cd8 ct8 : Value}
    {f9 : Addr} {od9 an9 : Option Addr} {sl9 : Array (Option Value)} {oc9 kV9 dc9 pm9 cd9 ct9 : Value}
    {f10 : Addr} {od10 an10 : Option Addr} {sl10 : Array (Option Value)} {oc10 kV10 dc10 pm10 cd10 ct10 : Value}
    {f11 : Addr} {od11 an11 : Option Addr} {sl11 : Array (Option Value)} {oc11 kV11 dc11 pm11 cd11 ct11 : Value}
    {f12 : Addr} {od12 an12 : Option Addr} {sl12 : Array (Option Value)} {oc12 kV12 dc12 pm12 cd12 ct12 : Value}
    {f13 : Addr} {od13 an13 : Option Addr} {sl13 : Array (Option Value)} {oc13 kV13 dc13 pm13 cd13 ct13 : Value}
    {f14 : Addr} {od14 an14 : Option Addr} {sl14 : Array (Option Value)} {oc14 kV14 dc14 pm14 cd14 ct14 : Value}
    {f15 : Addr} {od15 an15 : Option Addr} {sl15 : Array (Option Value)} {oc15 kV15 dc15 pm15 cd15 ct15 : Value}
    {f16 : Addr} {od16 an16 : Option Addr} {sl16 : Array (Option Value)} {oc16 kV16 dc16 pm16 cd16 ct16 : Value}
    {f17 : Addr} {od17 an17 : Option Addr} {sl17 : Array (Option Value)} {oc17 kV17 dc17 pm17 cd17 ct17 : Value}
    {f18 : Addr} {od18 an18 : Option Addr} {sl18 : Array (Option Value)} {oc18 kV18 dc18 pm18 cd18 ct18 : Value}
    {f19 : Addr} {od19 an19 : Option Addr} {sl19 : Array (Option Value)} {oc19 kV19 dc19 pm19 cd19 ct19 : Value}
    {f20 : Addr} {od20 an20 : Option Addr} {sl20 : Array (Option Value)} {oc20 kV20 dc20 pm20 cd20 ct20 : Value}
    {f21 : Addr} {od21 an21 : Option Addr} {sl21 : Array (Option Value)} {oc21 kV21 dc21 pm21 cd21 ct21 : Value}
    {f22 : Addr} {od22 an22 : Option Addr} {sl22 : Array (Option Value)} {oc22 kV22 dc22 pm22 cd22 ct22 : Value}
    {f23 : Addr} {od23 an23 : Option Addr} {sl23 : Array (Option Value)} {oc23 kV23 dc23 pm23 cd23 ct23 : Value}
    {f24 : Addr} {od24 an24 : Option Addr} {sl24 : Array (Option Value)} {oc24 kV24 dc24 pm24 cd24 ct24 : Value}
    {f25 : Addr} {od25 an25 : Option Addr} {sl25 : Array (Option Value)} {oc25 kV25 dc25 pm25 cd25 ct25 : Value}
    {f26 : Addr} {od26 an26 : Option Addr} {sl26 : Array (Option Value)} {oc26 kV26 dc26 pm26 cd26 ct26 : Value}
    {f27 : Addr} {od27 an27 : Option Addr} {sl27 : Array (Option Value)} {oc27 kV27 dc27 pm27 cd27 ct27 : Value}
    {f28 : Addr} {od28 an28 : Option Addr} {sl28 : Array (Option Value)} {oc28 kV28 dc28 pm28 cd28 ct28 : Value}
    {f29 : Addr} {od29 an29 : Option Addr} {sl29 : Array (Option Value)} {oc29 kV29 dc29 pm29 cd29 ct29 : Value}
    {f30 : Addr} {od30 an30 : Option Addr} {sl30 : Array (Option Value)} {oc30 kV30 dc30 pm30 cd30 ct30 : Value}
    {f31 : Addr} {od31 an31 : Option Addr} {sl31 : Array (Option Value)} {oc31 kV31 dc31 pm31 cd31 ct31 : Value}
    {f32 : Addr} {od32 an32 : Option Addr} {sl32 : Array (Option Value)} {oc32 kV32 dc32 pm32 cd32 ct32 : Value}
    {f33 : Addr} {od33 an33 : Option Addr} {sl33 : Array (Option Value)} {oc33 kV33 dc33 pm33 cd33 ct33 : Value}
    {f34 : Addr} {od34 an34 : Option Addr} {sl34 : Array (Option Value)} {oc34 kV34 dc34 pm34 cd34 ct34 : Value}
    {f35 : Addr} {od35 an35 : Option Addr} {sl35 : Array (Option Value)} {oc35 kV35 dc35 pm35 cd35 ct35 : Value}
    {f36 : Addr} {od36 an36 : Option Addr} {sl36 : Array (Option Value)} {oc36 kV36 dc36 pm36 cd36 ct36 : Value}
    {f37 : Addr} {od37 an37 : Option Addr} {sl37 : Array (Option Value)} {oc37 kV37 dc37 pm37 cd37 ct37 : Value}
    {f38 : Addr} {od38 an38 : Option Addr} {sl38 : Array (Option Value)} {oc38 kV38 dc38 pm38 cd38 ct38 : Value}
    {f39 : Addr} {od39 an39 : Option Addr} {sl39 : Array (Option Value)} {oc39 kV39 dc39 pm39 cd39 ct39 : Value}
    {f40 : Addr} {od40 an40 : Option Addr} {sl40 : Array (Option Value)} {oc40 kV40 dc40 pm40 cd40 ct40 : Value}
    {f41 : Addr} {od41 an41 : Option Addr} {sl41 : Array (Option Value)} {oc41 kV41 dc41 pm41 cd41 ct41 : Value}
    {f42 : Addr} {od42 an42 : Option Addr} {sl42 : Array (Option Value)} {oc42 kV42 dc42 pm42 cd42 ct42 : Value}
    {f43 : Addr} {od43 an43 : Option Addr} {sl43 : Array (Option Value)} {oc43 kV43 dc43 pm43 cd43 ct43 : Value}
    {f44 : Addr} {od44 an44 : Option Addr} {sl44 : Array (Option Value)} {oc44 kV44 dc44 pm44 cd44 ct44 : Value}
    {f45 : Addr} {od45 an45 : Option Addr} {sl45 : Array (Option Value)} {oc45 kV45 dc45 pm45 cd45 ct45 : Value}
    {xnm_ShortLot xq_ShortLot : Str} {xN_ShortLot : Addr} {xbs_ShortLot xbm_ShortLot xsub_ShortLot : List Value} {xsn_ShortLot : List Str} {xab_ShortLot : Bool} {xcol_ShortLot : Option Bool} {xdd_ShortLot : Option Addr} {x0_ShortLot x1_ShortLot x2_ShortLot x3_ShortLot x5_ShortLot : Option Value}
    {xnm_NoPage xq_NoPage : Str} {xN_NoPage : Addr} {xbs_NoPage xbm_NoPage xsub_NoPage : List Value} {xsn_NoPage : List Str} {xab_NoPage : Bool} {xcol_NoPage : Option Bool} {xdd_NoPage : Option Addr} {x0_NoPage x1_NoPage x2_NoPage x3_NoPage x5_NoPage : Option Value}
    (gc_OnecopyError : PySem.W.nsIn K mainGlobals "OnecopyError" = some (some (.ref cc_OnecopyError)))
    (gc_LotError : PySem.W.nsIn K mainGlobals "LotError" = some (some (.ref cc_LotError)))
    (gc_ShortLot : PySem.W.nsIn K mainGlobals "ShortLot" = some (some (.ref cc_ShortLot)))
    (gc_NotShort : PySem.W.nsIn K mainGlobals "NotShort" = some (some (.ref cc_NotShort)))
    (gc_NoPage : PySem.W.nsIn K mainGlobals "NoPage" = some (some (.ref cc_NoPage)))
    (gc_InvalidPointer : PySem.W.nsIn K mainGlobals "InvalidPointer" = some (some (.ref cc_InvalidPointer)))
    (gc_InvalidStanding : PySem.W.nsIn K mainGlobals "InvalidStanding" = some (some (.ref cc_InvalidStanding)))
    (gc_NoLine : PySem.W.nsIn K mainGlobals "NoLine" = some (some (.ref cc_NoLine)))
    (gc_Web : PySem.W.nsIn K mainGlobals "Web" = some (some (.ref cc_Web)))
    (gc_Standing : PySem.W.nsIn K mainGlobals "Standing" = some (some (.ref cc_Standing)))
    (a0 : PySem.W.findIn K (.ref cc_LotError) "__init__" = some (some (.ref f0)))
    (l0 : K.lookup f0 = some ⟨oc0, od0, .func (PySem.W.fnX "__init__" "LotError.__init__" (defArgs s_LotError_init) (defBody s_LotError_init) (defScope s_LotError_init) [("__class__", q0)] (.ref dT0) kV0 dc0 pm0 an0 (.ref h0) ct0), sl0⟩)
    (dd0 : K.lookup dT0 = some ⟨dtc0, dtd0, .seq #[dv0_0] dtm0, dts0⟩)
    (c0 : PySem.W.codeIn K (.ref h0) "LotError.__init__" = true)
    (cq0 : K.lookup q0 = some ⟨ql0, qd0, .cell (some (.ref cc_LotError)), qs0⟩)
    (ch0 : K.lookup h0 = some ⟨hl0, hd0, .fields hv0, hs0⟩)
    (cf0 : hv0[2]? = some (.str hf0 ht0))
    (cg0 : ((PySem.Challenge.rw_onecopy_k07_whole_slack.prog.main.file : Str) == hf0) = true)
    (ci0x : PySem.W.clsIn K cc_LotError = some ci0)
    (cs0 : PySem.W.nsIn K mainGlobals "super" = some none)
    (ct0x : (PySem.Challenge.rw_onecopy_k07_whole_slack.prog.main.scope.names.lookup ("super" : Str)).isSome = false)
    (a1 : PySem.W.findIn K (.ref cc_ShortLot) "__init__" = some (some (.ref f1)))
    (l1 : K.lookup f1 = some ⟨oc1, od1, .func (PySem.W.fnX "__init__" "ShortLot.__init__" (defArgs s_ShortLot_init) (defBody s_ShortLot_init) (defScope s_ShortLot_init) [("__class__", q1)] .none kV1 dc1 pm1 an1 (.ref h1) ct1), sl1⟩)
    (c1 : PySem.W.codeIn K (.ref h1) "ShortLot.__init__" = true)
    (cq1 : K.lookup q1 = some ⟨ql1, qd1, .cell (some (.ref cc_ShortLot)), qs1⟩)
    (ch1 : K.lookup h1 = some ⟨hl1, hd1, .fields hv1, hs1⟩)
    (cf1 : hv1[2]? = some (.str hf1 ht1))
    (cg1 : ((PySem.Challenge.rw_onecopy_k07_whole_slack.prog.main.file : Str) == hf1) = true)
    (ci1x : PySem.W.clsIn K cc_ShortLot = some ci1)
    (cs1 : PySem.W.nsIn K mainGlobals "super" = some none)
    (ct1x : (PySem.Challenge.rw_onecopy_k07_whole_slack.prog.main.scope.names.lookup ("super" : Str)).isSome = false)
    (a2 : PySem.W.findIn K (.ref cc_NoPage) "__init__" = some (some (.ref f2)))
    (l2 : K.lookup f2 = some ⟨oc2, od2, .func (PySem.W.fnX "__init__" "NoPage.__init__" (defArgs s_NoPage_init) (defBody s_NoPage_init) (defScope s_NoPage_init) [("__class__", q2)] .none kV2 dc2 pm2 an2 (.ref h2) ct2), sl2⟩)
    (c2 : PySem.W.codeIn K (.ref h2) "NoPage.__init__" = true)
    (cq2 : K.lookup q2 = some ⟨ql2, qd2, .cell (some (.ref cc_NoPage)), qs2⟩)
    (ch2 : K.lookup h2 = some ⟨hl2, hd2, .fields hv2, hs2⟩)
    (cf2 : hv2[2]? = some (.str hf2 ht2))
    (cg2 : ((PySem.Challenge.rw_onecopy_k07_whole_slack.prog.main.file : Str) == hf2) = true)
    (ci2x : PySem.W.clsIn K cc_NoPage = some ci2)
    (cs2 : PySem.W.nsIn K mainGlobals "super" = some none)
    (ct2x : (PySem.Challenge.rw_onecopy_k07_whole_slack.prog.main.scope.names.lookup ("super" : Str)).isSome = false)
    (a3 : PySem.W.nsIn K mainGlobals "other_end" = some (some (.ref f3)))
    (l3 : K.lookup f3 = some ⟨oc3, od3, .func (PySem.W.fnOf "other_end" "other_end" (defArgs s_other_end) (defBody s_other_end) (defScope s_other_end) .none kV3 dc3 pm3 an3 cd3 ct3), sl3⟩)
    (c3 : PySem.W.codeIn K cd3 "other_end" = true)
    (k3 : PySem.W.keepIn K (.ref f3) = true)
    (a4 : PySem.W.nsIn K mainGlobals "owned_count" = some (some (.ref f4)))
    (l4 : K.lookup f4 = some ⟨oc4, od4, .func (PySem.W.fnOf "owned_count" "owned_count" (defArgs s_owned_count) (defBody s_owned_count) (defScope s_owned_count) .none kV4 dc4 pm4 an4 cd4 ct4), sl4⟩)
    (c4 : PySem.W.codeIn K cd4 "owned_count" = true)
    (k4 : PySem.W.keepIn K (.ref f4) = true)
    (a5 : PySem.W.nsIn K mainGlobals "owned_lists" = some (some (.ref f5)))
    (l5 : K.lookup f5 = some ⟨oc5, od5, .func (PySem.W.fnOf "owned_lists" "owned_lists" (defArgs s_owned_lists) (defBody s_owned_lists) (defScope s_owned_lists) .none kV5 dc5 pm5 an5 cd5 ct5), sl5⟩)
    (c5 : PySem.W.codeIn K cd5 "owned_lists" = true)
    (k5 : PySem.W.keepIn K (.ref f5) = true)
    (a6 : PySem.W.nsIn K mainGlobals "make_room" = some (some (.ref f6)))
    (l6 : K.lookup f6 = some ⟨oc6, od6, .func (PySem.W.fnOf "make_room" "make_room" (defArgs s_make_room) (defBody s_make_room) (defScope s_make_room) .none kV6 dc6 pm6 an6 cd6 ct6), sl6⟩)
    (c6 : PySem.W.codeIn K cd6 "make_room" = true)
    (k6 : PySem.W.keepIn K (.ref f6) = true)
    (a7 : PySem.W.nsIn K mainGlobals "turn_chain" = some (some (.ref f7)))
    (l7 : K.lookup f7 = some ⟨oc7, od7, .func (PySem.W.fnOf "turn_chain" "turn_chain" (defArgs s_turn_chain) (defBody s_turn_chain) (defScope s_turn_chain) .none kV7 dc7 pm7 an7 cd7 ct7), sl7⟩)
    (c7 : PySem.W.codeIn K cd7 "turn_chain" = true)
    (k7 : PySem.W.keepIn K (.ref f7) = true)
    (a8 : PySem.W.nsIn K mainGlobals "place_pointer" = some (some (.ref f8)))
    (l8 : K.lookup f8 = some ⟨oc8, od8, .func (PySem.W.fnOf "place_pointer" "place_pointer" (defArgs s_place_pointer) (defBody s_place_pointer) (defScope s_place_pointer) .none kV8 dc8 pm8 an8 cd8 ct8), sl8⟩)
    (c8 : PySem.W.codeIn K cd8 "place_pointer" = true)
    (k8 : PySem.W.keepIn K (.ref f8) = true)
    (a9 : PySem.W.nsIn K mainGlobals "place_rest" = some (some (.ref f9)))
    (l9 : K.lookup f9 = some ⟨oc9, od9, .func (PySem.W.fnOf "place_rest" "place_rest" (defArgs s_place_rest) (defBody s_place_rest) (defScope s_place_rest) .none kV9 dc9 pm9 an9 cd9 ct9), sl9⟩)
    (c9 : PySem.W.codeIn K cd9 "place_rest" = true)
    (k9 : PySem.W.keepIn K (.ref f9) = true)
    (a10 : PySem.W.nsIn K mainGlobals "place_all" = some (some (.ref f10)))
    (l10 : K.lookup f10 = some ⟨oc10, od10, .func (PySem.W.fnOf "place_all" "place_all" (defArgs s_place_all) (defBody s_place_all) (defScope s_place_all) .none kV10 dc10 pm10 an10 cd10 ct10), sl10⟩)
    (c10 : PySem.W.codeIn K cd10 "place_all" = true)
    (k10 : PySem.W.keepIn K (.ref f10) = true)
    (a11 : PySem.W.nsIn K mainGlobals "check_pages" = some (some (.ref f11)))
    (l11 : K.lookup f11 = some ⟨oc11, od11, .func (PySem.W.fnOf "check_pages" "check_pages" (defArgs s_check_pages) (defBody s_check_pages) (defScope s_check_pages) .none kV11 dc11 pm11 an11 cd11 ct11), sl11⟩)
    (c11 : PySem.W.codeIn K cd11 "check_pages" = true)
    (k11 : PySem.W.keepIn K (.ref f11) = true)
    (a12 : PySem.W.nsIn K mainGlobals "grouped" = some (some (.ref f12)))
    (l12 : K.lookup f12 = some ⟨oc12, od12, .func (PySem.W.fnOf "grouped" "grouped" (defArgs s_grouped) (defBody s_grouped) (defScope s_grouped) .none kV12 dc12 pm12 an12 cd12 ct12), sl12⟩)
    (c12 : PySem.W.codeIn K cd12 "grouped" = true)
    (k12 : PySem.W.keepIn K (.ref f12) = true)
    (a13 : PySem.W.findIn K (.ref cc_Web) "__init__" = some (some (.ref f13)))
    (l13 : K.lookup f13 = some ⟨oc13, od13, .func (PySem.W.fnOf "__init__" "Web.__init__" (defArgs s_Web_init) (defBody s_Web_init) (defScope s_Web_init) .none kV13 dc13 pm13 an13 cd13 ct13), sl13⟩)
    (c13 : PySem.W.codeIn K cd13 "Web.__init__" = true)
    (k13 : PySem.W.keepIn K (.ref f13) = true)
    (a14 : PySem.W.findIn K (.ref cc_Web) "arrows" = some (some (.ref f14)))
    (l14 : K.lookup f14 = some ⟨oc14, od14, .func (PySem.W.fnOf "arrows" "Web.arrows" (defArgs s_Web_arrows) (defBody s_Web_arrows) (defScope s_Web_arrows) .none kV14 dc14 pm14 an14 cd14 ct14), sl14⟩)
    (c14 : PySem.W.codeIn K cd14 "Web.arrows" = true)
    (k14 : PySem.W.keepIn K (.ref f14) = true)
    (a15 : PySem.W.findIn K (.ref cc_Standing) "__init__" = some (some (.ref f15)))
    (l15 : K.lookup f15 = some ⟨oc15, od15, .func (PySem.W.fnOf "__init__" "Standing.__init__" (defArgs s_Standing_init) (defBody s_Standing_init) (defScope s_Standing_init) .none kV15 dc15 pm15 an15 cd15 ct15), sl15⟩)
    (c15 : PySem.W.codeIn K cd15 "Standing.__init__" = true)
    (k15 : PySem.W.keepIn K (.ref f15) = true)
    (a16 : PySem.W.findIn K (.ref cc_Standing) "blanks" = some (some (.ref f16)))
    (l16 : K.lookup f16 = some ⟨oc16, od16, .func (PySem.W.fnOf "blanks" "Standing.blanks" (defArgs s_Standing_blanks) (defBody s_Standing_blanks) (defScope s_Standing_blanks) .none kV16 dc16 pm16 an16 cd16 ct16), sl16⟩)
    (c16 : PySem.W.codeIn K cd16 "Standing.blanks" = true)
    (k16 : PySem.W.keepIn K (.ref f16) = true)
    (a17 : PySem.W.findIn K (.ref cc_Standing) "blank_of" = some (some (.ref f17)))
    (l17 : K.lookup f17 = some ⟨oc17, od17, .func (PySem.W.fnOf "blank_of" "Standing.blank_of" (defArgs s_Standing_blank_of) (defBody s_Standing_blank_of) (defScope s_Standing_blank_of) .none kV17 dc17 pm17 an17 cd17 ct17), sl17⟩)
    (c17 : PySem.W.codeIn K cd17 "Standing.blank_of" = true)
    (k17 : PySem.W.keepIn K (.ref f17) = true)
    (a18 : PySem.W.nsIn K mainGlobals "blank_table" = some (some (.ref f18)))
    (l18 : K.lookup f18 = some ⟨oc18, od18, .func (PySem.W.fnOf "blank_table" "blank_table" (defArgs s_blank_table) (defBody s_blank_table) (defScope s_blank_table) .none kV18 dc18 pm18 an18 cd18 ct18), sl18⟩)
    (c18 : PySem.W.codeIn K cd18 "blank_table" = true)
    (k18 : PySem.W.keepIn K (.ref f18) = true)
    (a19 : PySem.W.nsIn K mainGlobals "owner_table" = some (some (.ref f19)))
    (l19 : K.lookup f19 = some ⟨oc19, od19, .func (PySem.W.fnOf "owner_table" "owner_table" (defArgs s_owner_table) (defBody s_owner_table) (defScope s_owner_table) .none kV19 dc19 pm19 an19 cd19 ct19), sl19⟩)
    (c19 : PySem.W.codeIn K cd19 "owner_table" = true)
    (k19 : PySem.W.keepIn K (.ref f19) = true)
    (a20 : PySem.W.nsIn K mainGlobals "owner_list" = some (some (.ref f20)))
    (l20 : K.lookup f20 = some ⟨oc20, od20, .func (PySem.W.fnOf "owner_list" "owner_list" (defArgs s_owner_list) (defBody s_owner_list) (defScope s_owner_list) .none kV20 dc20 pm20 an20 cd20 ct20), sl20⟩)
    (c20 : PySem.W.codeIn K cd20 "owner_list" = true)
    (k20 : PySem.W.keepIn K (.ref f20) = true)
    (a21 : PySem.W.nsIn K mainGlobals "slack" = some (some (.ref f21)))
    (l21 : K.lookup f21 = some ⟨oc21, od21, .func (PySem.W.fnOf "slack" "slack" (defArgs s_slack) (defBody s_slack) (defScope s_slack) .none kV21 dc21 pm21 an21 cd21 ct21), sl21⟩)
    (c21 : PySem.W.codeIn K cd21 "slack" = true)
    (k21 : PySem.W.keepIn K (.ref f21) = true)
    (a22 : PySem.W.nsIn K mainGlobals "_law_cell" = some (some (.ref f22)))
    (l22 : K.lookup f22 = some ⟨oc22, od22, .func (PySem.W.fnOf "_law_cell" "_law_cell" (defArgs s_law_cell) (defBody s_law_cell) (defScope s_law_cell) .none kV22 dc22 pm22 an22 cd22 ct22), sl22⟩)
    (c22 : PySem.W.codeIn K cd22 "_law_cell" = true)
    (k22 : PySem.W.keepIn K (.ref f22) = true)
    (a23 : PySem.W.nsIn K mainGlobals "_law_source" = some (some (.ref f23)))
    (l23 : K.lookup f23 = some ⟨oc23, od23, .func (PySem.W.fnOf "_law_source" "_law_source" (defArgs s_law_source) (defBody s_law_source) (defScope s_law_source) .none kV23 dc23 pm23 an23 cd23 ct23), sl23⟩)
    (c23 : PySem.W.codeIn K cd23 "_law_source" = true)
    (k23 : PySem.W.keepIn K (.ref f23) = true)
    (a24 : PySem.W.nsIn K mainGlobals "_law_take" = some (some (.ref f24)))
    (l24 : K.lookup f24 = some ⟨oc24, od24, .func (PySem.W.fnOf "_law_take" "_law_take" (defArgs s_law_take) (defBody s_law_take) (defScope s_law_take) .none kV24 dc24 pm24 an24 cd24 ct24), sl24⟩)
    (c24 : PySem.W.codeIn K cd24 "_law_take" = true)
    (k24 : PySem.W.keepIn K (.ref f24) = true)
    (a25 : PySem.W.nsIn K mainGlobals "_law_parents" = some (some (.ref f25)))
    (l25 : K.lookup f25 = some ⟨oc25, od25, .func (PySem.W.fnOf "_law_parents" "_law_parents" (defArgs s_law_parents) (defBody s_law_parents) (defScope s_law_parents) .none kV25 dc25 pm25 an25 cd25 ct25), sl25⟩)
    (c25 : PySem.W.codeIn K cd25 "_law_parents" = true)
    (k25 : PySem.W.keepIn K (.ref f25) = true)
    (a26 : PySem.W.nsIn K mainGlobals "_law_pointers" = some (some (.ref f26)))
    (l26 : K.lookup f26 = some ⟨oc26, od26, .func (PySem.W.fnOf "_law_pointers" "_law_pointers" (defArgs s_law_pointers) (defBody s_law_pointers) (defScope s_law_pointers) .none kV26 dc26 pm26 an26 cd26 ct26), sl26⟩)
    (c26 : PySem.W.codeIn K cd26 "_law_pointers" = true)
    (k26 : PySem.W.keepIn K (.ref f26) = true)
    (a27 : PySem.W.nsIn K mainGlobals "_law_names" = some (some (.ref f27)))
    (l27 : K.lookup f27 = some ⟨oc27, od27, .func (PySem.W.fnOf "_law_names" "_law_names" (defArgs s_law_names) (defBody s_law_names) (defScope s_law_names) .none kV27 dc27 pm27 an27 cd27 ct27), sl27⟩)
    (c27 : PySem.W.codeIn K cd27 "_law_names" = true)
    (k27 : PySem.W.keepIn K (.ref f27) = true)
    (a28 : PySem.W.nsIn K mainGlobals "_law_named" = some (some (.ref f28)))
    (l28 : K.lookup f28 = some ⟨oc28, od28, .func (PySem.W.fnOf "_law_named" "_law_named" (defArgs s_law_named) (defBody s_law_named) (defScope s_law_named) .none kV28 dc28 pm28 an28 cd28 ct28), sl28⟩)
    (c28 : PySem.W.codeIn K cd28 "_law_named" = true)
    (k28 : PySem.W.keepIn K (.ref f28) = true)
    (a29 : PySem.W.nsIn K mainGlobals "_law_extras" = some (some (.ref f29)))
    (l29 : K.lookup f29 = some ⟨oc29, od29, .func (PySem.W.fnOf "_law_extras" "_law_extras" (defArgs s_law_extras) (defBody s_law_extras) (defScope s_law_extras) .none kV29 dc29 pm29 an29 cd29 ct29), sl29⟩)
    (c29 : PySem.W.codeIn K cd29 "_law_extras" = true)
    (k29 : PySem.W.keepIn K (.ref f29) = true)
    (a30 : PySem.W.nsIn K mainGlobals "_law_joined" = some (some (.ref f30)))
    (l30 : K.lookup f30 = some ⟨oc30, od30, .func (PySem.W.fnOf "_law_joined" "_law_joined" (defArgs s_law_joined) (defBody s_law_joined) (defScope s_law_joined) .none kV30 dc30 pm30 an30 cd30 ct30), sl30⟩)
    (c30 : PySem.W.codeIn K cd30 "_law_joined" = true)
    (k30 : PySem.W.keepIn K (.ref f30) = true)
    (a31 : PySem.W.nsIn K mainGlobals "_law_world" = some (some (.ref f31)))
    (l31 : K.lookup f31 = some ⟨oc31, od31, .func (PySem.W.fnOf "_law_world" "_law_world" (defArgs s_law_world) (defBody s_law_world) (defScope s_law_world) .none kV31 dc31 pm31 an31 cd31 ct31), sl31⟩)
    (c31 : PySem.W.codeIn K cd31 "_law_world" = true)
    (k31 : PySem.W.keepIn K (.ref f31) = true)
    (a32 : PySem.W.nsIn K mainGlobals "_law_lines" = some (some (.ref f32)))
    (l32 : K.lookup f32 = some ⟨oc32, od32, .func (PySem.W.fnOf "_law_lines" "_law_lines" (defArgs s_law_lines) (defBody s_law_lines) (defScope s_law_lines) .none kV32 dc32 pm32 an32 cd32 ct32), sl32⟩)
    (c32 : PySem.W.codeIn K cd32 "_law_lines" = true)
    (k32 : PySem.W.keepIn K (.ref f32) = true)
    (a33 : PySem.W.nsIn K mainGlobals "_law_owners" = some (some (.ref f33)))
    (l33 : K.lookup f33 = some ⟨oc33, od33, .func (PySem.W.fnOf "_law_owners" "_law_owners" (defArgs s_law_owners) (defBody s_law_owners) (defScope s_law_owners) .none kV33 dc33 pm33 an33 cd33 ct33), sl33⟩)
    (c33 : PySem.W.codeIn K cd33 "_law_owners" = true)
    (k33 : PySem.W.keepIn K (.ref f33) = true)
    (a34 : PySem.W.nsIn K mainGlobals "_law_table" = some (some (.ref f34)))
    (l34 : K.lookup f34 = some ⟨oc34, od34, .func (PySem.W.fnOf "_law_table" "_law_table" (defArgs s_law_table) (defBody s_law_table) (defScope s_law_table) .none kV34 dc34 pm34 an34 cd34 ct34), sl34⟩)
    (c34 : PySem.W.codeIn K cd34 "_law_table" = true)
    (k34 : PySem.W.keepIn K (.ref f34) = true)
    (a35 : PySem.W.nsIn K mainGlobals "_law_near" = some (some (.ref f35)))
    (l35 : K.lookup f35 = some ⟨oc35, od35, .func (PySem.W.fnOf "_law_near" "_law_near" (defArgs s_law_near) (defBody s_law_near) (defScope s_law_near) .none kV35 dc35 pm35 an35 cd35 ct35), sl35⟩)
    (c35 : PySem.W.codeIn K cd35 "_law_near" = true)
    (k35 : PySem.W.keepIn K (.ref f35) = true)
    (a36 : PySem.W.nsIn K mainGlobals "_law_is_integer" = some (some (.ref f36)))
    (l36 : K.lookup f36 = some ⟨oc36, od36, .func (PySem.W.fnOf "_law_is_integer" "_law_is_integer" (defArgs s_law_is_integer) (defBody s_law_is_integer) (defScope s_law_is_integer) .none kV36 dc36 pm36 an36 cd36 ct36), sl36⟩)
    (c36 : PySem.W.codeIn K cd36 "_law_is_integer" = true)
    (k36 : PySem.W.keepIn K (.ref f36) = true)
    (a37 : PySem.W.nsIn K mainGlobals "_law_is_dealing" = some (some (.ref f37)))
    (l37 : K.lookup f37 = some ⟨oc37, od37, .func (PySem.W.fnOf "_law_is_dealing" "_law_is_dealing" (defArgs s_law_is_dealing) (defBody s_law_is_dealing) (defScope s_law_is_dealing) .none kV37 dc37 pm37 an37 cd37 ct37), sl37⟩)
    (c37 : PySem.W.codeIn K cd37 "_law_is_dealing" = true)
    (k37 : PySem.W.keepIn K (.ref f37) = true)
    (a38 : PySem.W.nsIn K mainGlobals "_law_is_lot" = some (some (.ref f38)))
    (l38 : K.lookup f38 = some ⟨oc38, od38, .func (PySem.W.fnOf "_law_is_lot" "_law_is_lot" (defArgs s_law_is_lot) (defBody s_law_is_lot) (defScope s_law_is_lot) .none kV38 dc38 pm38 an38 cd38 ct38), sl38⟩)
    (c38 : PySem.W.codeIn K cd38 "_law_is_lot" = true)
    (k38 : PySem.W.keepIn K (.ref f38) = true)
    (a39 : PySem.W.nsIn K mainGlobals "_law_left" = some (some (.ref f39)))
    (l39 : K.lookup f39 = some ⟨oc39, od39, .func (PySem.W.fnOf "_law_left" "_law_left" (defArgs s_law_left) (defBody s_law_left) (defScope s_law_left) .none kV39 dc39 pm39 an39 cd39 ct39), sl39⟩)
    (c39 : PySem.W.codeIn K cd39 "_law_left" = true)
    (k39 : PySem.W.keepIn K (.ref f39) = true)
    (a40 : PySem.W.nsIn K mainGlobals "_law_values" = some (some (.ref f40)))
    (l40 : K.lookup f40 = some ⟨oc40, od40, .func (PySem.W.fnOf "_law_values" "_law_values" (defArgs s_law_values) (defBody s_law_values) (defScope s_law_values) .none kV40 dc40 pm40 an40 cd40 ct40), sl40⟩)
    (c40 : PySem.W.codeIn K cd40 "_law_values" = true)
    (k40 : PySem.W.keepIn K (.ref f40) = true)
    (a41 : PySem.W.nsIn K mainGlobals "_law_told" = some (some (.ref f41)))
    (l41 : K.lookup f41 = some ⟨oc41, od41, .func (PySem.W.fnOf "_law_told" "_law_told" (defArgs s_law_told) (defBody s_law_told) (defScope s_law_told) .none kV41 dc41 pm41 an41 cd41 ct41), sl41⟩)
    (c41 : PySem.W.codeIn K cd41 "_law_told" = true)
    (k41 : PySem.W.keepIn K (.ref f41) = true)
    (a42 : PySem.W.nsIn K mainGlobals "_law_papers" = some (some (.ref f42)))
    (l42 : K.lookup f42 = some ⟨oc42, od42, .func (PySem.W.fnOf "_law_papers" "_law_papers" (defArgs s_law_papers) (defBody s_law_papers) (defScope s_law_papers) .none kV42 dc42 pm42 an42 cd42 ct42), sl42⟩)
    (c42 : PySem.W.codeIn K cd42 "_law_papers" = true)
    (k42 : PySem.W.keepIn K (.ref f42) = true)
    (a43 : PySem.W.nsIn K mainGlobals "_law_judged" = some (some (.ref f43)))
    (l43 : K.lookup f43 = some ⟨oc43, od43, .func (PySem.W.fnOf "_law_judged" "_law_judged" (defArgs s_law_judged) (defBody s_law_judged) (defScope s_law_judged) .none kV43 dc43 pm43 an43 cd43 ct43), sl43⟩)
    (c43 : PySem.W.codeIn K cd43 "_law_judged" = true)
    (k43 : PySem.W.keepIn K (.ref f43) = true)
    (a44 : PySem.W.nsIn K mainGlobals "_law_refused" = some (some (.ref f44)))
    (l44 : K.lookup f44 = some ⟨oc44, od44, .func (PySem.W.fnOf "_law_refused" "_law_refused" (defArgs s_law_refused) (defBody s_law_refused) (defScope s_law_refused) .none kV44 dc44 pm44 an44 cd44 ct44), sl44⟩)
    (c44 : PySem.W.codeIn K cd44 "_law_refused" = true)
    (k44 : PySem.W.keepIn K (.ref f44) = true)
    (a45 : PySem.W.nsIn K mainGlobals "law" = some (some (.ref f45)))
    (l45 : K.lookup f45 = some ⟨oc45, od45, .func (PySem.W.fnOf "law" "law" (defArgs s_law) (defBody s_law) (defScope s_law) .none kV45 dc45 pm45 an45 cd45 ct45), sl45⟩)
    (c45 : PySem.W.codeIn K cd45 "law" = true)
    (k45 : PySem.W.keepIn K (.ref f45) = true)
    (xL_ShortLot : K.lookup cc_ShortLot = some (excClassObj xnm_ShortLot xq_ShortLot cc_ShortLot xN_ShortLot xbs_ShortLot xbm_ShortLot true xsn_ShortLot xsub_ShortLot xab_ShortLot xcol_ShortLot xdd_ShortLot x0_ShortLot x1_ShortLot x2_ShortLot x3_ShortLot x5_ShortLot "ValueError.__new__"))
    (xr_ShortLot : PySem.HandSPX.refsVE xbm_ShortLot = true)
    (xs_ShortLot : PySem.W.findIn K (.ref cc_ShortLot) "__setattr__" = some (some (.builtin "object.__setattr__")))
    (xe_ShortLot : PySem.W.subIn K (.ref cc_ShortLot) (.type "BaseException") = some true)
    (xt_ShortLot : PySem.W.typeIn K (.ref cc_ShortLot) = some (.type "type"))
    (xk_ShortLot : PySem.W.keepIn K (.ref cc_ShortLot) = true)
    (xu_ShortLot : PySem.W.mroIn K cc_ShortLot (.ref cc_LotError) = some true)
    (xn_ShortLot : PySem.W.ks_superIn K cc_ShortLot cc_LotError "__init__" = some (some (.builtin "ValueError.__init__")))
    (yu_ShortLot : PySem.W.mroIn K cc_ShortLot (.ref cc_ShortLot) = some true)
    (yn_ShortLot : PySem.W.ks_superIn K cc_ShortLot cc_ShortLot "__init__" = some (some (.ref f0)))
    (yi_ShortLot : PySem.W.fnIn K f0 = true)
    (yt_ShortLot : PySem.W.typeIn K (.ref f0) = some (.type "function"))
    (te_ShortLot_LotError : PySem.W.exmOne K (.ref cc_ShortLot) (.ref cc_LotError) = some true)
    (xv_ShortLot : PySem.W.subIn K (.ref cc_ShortLot) (.type "ValueError") = some true)
    (xy_ShortLot : PySem.W.nsIn K cStatics "thirdparty.any" = some none)
    (ti_ShortLot : PySem.W.typeIn K (.ref f1) = some (.type "function"))
    (xga_ShortLot : PySem.W.findIn K (.ref cc_ShortLot) "__getattribute__" = some (some (.builtin "BaseException.__getattribute__")))
    (xgg_ShortLot : PySem.W.findIn K (.ref cc_ShortLot) "__getattr__" = some none)
    (xhd_ShortLot : PySem.W.hasDictIn K cc_ShortLot = true)
    (xcl_ShortLot : PySem.W.findIn K (.ref cc_ShortLot) "__class__" = some (some (.builtin "object.__class__")))
    (xcn_ShortLot : PySem.W.specialIn K (.builtin "object.__class__") "__get__" = some (some (.builtin "getset_descriptor.__get__")))
    (xct_ShortLot : PySem.W.takesIn K (.builtin "object.__class__") = some true)
    (xcm_ShortLot : PySem.W.mroIn K cc_ShortLot (.type "object") = some true)
    (te_ShortLot : PySem.W.exmOne K (.ref cc_ShortLot) (.ref cc_ShortLot) = some true)
    (nx_ShortLot_lot : PySem.W.findIn K (.ref cc_ShortLot) "lot" = some none)
    (xL_NoPage : K.lookup cc_NoPage = some (excClassObj xnm_NoPage xq_NoPage cc_NoPage xN_NoPage xbs_NoPage xbm_NoPage true xsn_NoPage xsub_NoPage xab_NoPage xcol_NoPage xdd_NoPage x0_NoPage x1_NoPage x2_NoPage x3_NoPage x5_NoPage "ValueError.__new__"))
    (xr_NoPage : PySem.HandSPX.refsVE xbm_NoPage = true)
    (xs_NoPage : PySem.W.findIn K (.ref cc_NoPage) "__setattr__" = some (some (.builtin "object.__setattr__")))
    (xe_NoPage : PySem.W.subIn K (.ref cc_NoPage) (.type "BaseException") = some true)
    (xt_NoPage : PySem.W.typeIn K (.ref cc_NoPage) = some (.type "type"))
    (xk_NoPage : PySem.W.keepIn K (.ref cc_NoPage) = true)
    (xu_NoPage : PySem.W.mroIn K cc_NoPage (.ref cc_NoPage) = some true)
    (xn_NoPage : PySem.W.ks_superIn K cc_NoPage cc_NoPage "__init__" = some (some (.builtin "ValueError.__init__")))
    (xv_NoPage : PySem.W.subIn K (.ref cc_NoPage) (.type "ValueError") = some true)
    (xy_NoPage : PySem.W.nsIn K cStatics "thirdparty.any" = some none)
    (ti_NoPage : PySem.W.typeIn K (.ref f2) = some (.type "function"))
    (xga_NoPage : PySem.W.findIn K (.ref cc_NoPage) "__getattribute__" = some (some (.builtin "BaseException.__getattribute__")))
    (xgg_NoPage : PySem.W.findIn K (.ref cc_NoPage) "__getattr__" = some none)
    (xhd_NoPage : PySem.W.hasDictIn K cc_NoPage = true)
    (xcl_NoPage : PySem.W.findIn K (.ref cc_NoPage) "__class__" = some (some (.builtin "object.__class__")))
    (xcn_NoPage : PySem.W.specialIn K (.builtin "object.__class__") "__get__" = some (some (.builtin "getset_descriptor.__get__")))
    (xct_NoPage : PySem.W.takesIn K (.builtin "object.__class__") = some true)
    (xcm_NoPage : PySem.W.mroIn K cc_NoPage (.type "object") = some true)
    (te_NoPage : PySem.W.exmOne K (.ref cc_NoPage) (.ref cc_NoPage) = some true)
    (nx_NoPage_page : PySem.W.findIn K (.ref cc_NoPage) "page" = some none)
    (pg_Web : PySem.W.plainGet K cc_Web Str.empty = true)
    (hd_Web : PySem.W.hasDictIn K cc_Web = true)
    (po_Web : PySem.W.plainOver K cc_Web = true)
    (sa_Web : PySem.W.findIn K (.ref cc_Web) "__setattr__" = some (some (.builtin "object.__setattr__")))
    (mm_Web : PySem.W.makesIn K cc_Web = true)
    (mf_Web : PySem.W.isFn K (.ref f13) = true)
    (mp_Web : PySem.W.keepIn K (.ref cc_Web) = true)
    (n_Web_pages : PySem.W.findIn K (.ref cc_Web) "pages" = some none)
    (n_Web__known : PySem.W.findIn K (.ref cc_Web) "_known" = some none)
    (n_Web__arrows : PySem.W.findIn K (.ref cc_Web) "_arrows" = some none)
    (n_Web__holders : PySem.W.findIn K (.ref cc_Web) "_holders" = some none)
    (n_Web__targets : PySem.W.findIn K (.ref cc_Web) "_targets" = some none)
    (ia14 : PySem.W.isFn K (.ref f14) = true)
    (pg_Standing : PySem.W.plainGet K cc_Standing Str.empty = true)
    (hd_Standing : PySem.W.hasDictIn K cc_Standing = true)
    (po_Standing : PySem.W.plainOver K cc_Standing = true)
    (sa_Standing : PySem.W.findIn K (.ref cc_Standing) "__setattr__" = some (some (.builtin "object.__setattr__")))
    (mm_Standing : PySem.W.makesIn K cc_Standing = true)
    (mf_Standing : PySem.W.isFn K (.ref f15) = true)
    (mp_Standing : PySem.W.keepIn K (.ref cc_Standing) = true)
    (n_Standing_web : PySem.W.findIn K (.ref cc_Standing) "web" = some none)
    (n_Standing_lines : PySem.W.findIn K (.ref cc_Standing) "lines" = some none)
    (n_Standing__blank : PySem.W.findIn K (.ref cc_Standing) "_blank" = some none)
    (ia16 : PySem.W.isFn K (.ref f16) = true)
    (ia17 : PySem.W.isFn K (.ref f17) = true)
    (ki_NoPage_LotError : PySem.W.kitOne K (.ref cc_NoPage) (.ref cc_LotError) = some false)
    (ki_ShortLot_NotShort : PySem.W.kitOne K (.ref cc_ShortLot) (.ref cc_NotShort) = some false)
    (ki_ShortLot_ShortLot : PySem.W.kitOne K (.ref cc_ShortLot) (.ref cc_ShortLot) = some true)
    (z_abs : PySem.W.nsIn K mainGlobals "abs" = some none)
    (z_bool : PySem.W.nsIn K mainGlobals "bool" = some none)
    (z_dict : PySem.W.nsIn K mainGlobals "dict" = some none)
    (z_enumerate : PySem.W.nsIn K mainGlobals "enumerate" = some none)
    (z_int : PySem.W.nsIn K mainGlobals "int" = some none)
    (z_isinstance : PySem.W.nsIn K mainGlobals "isinstance" = some none)
    (z_len : PySem.W.nsIn K mainGlobals "len" = some none)
    (z_list : PySem.W.nsIn K mainGlobals "list" = some none)
    (z_max : PySem.W.nsIn K mainGlobals "max" = some none)
    (z_min : PySem.W.nsIn K mainGlobals "min" = some none)
    (z_range : PySem.W.nsIn K mainGlobals "range" = some none)
    (z_set : PySem.W.nsIn K mainGlobals "set" = some none)
    (z_sorted : PySem.W.nsIn K mainGlobals "sorted" = some none)
    (z_sum : PySem.W.nsIn K mainGlobals "sum" = some none)
    (z_tuple : PySem.W.nsIn K mainGlobals "tuple" = some none) :
    ∃ fd : FuncData, (∀ (s : Shared) (v : Value), BindsTo s fd ⟨[v], []⟩ [("script", v)]) ∧ ∀ base : Heap, K.In base → base.Ns mainGlobals mg → FnOk PySem.Challenge.rw_onecopy_k07_whole_slack.prog w K mg base CX0 11 fa fd ["script"] (spLaw K) := by
  have e := hfa.symm.trans (PySem.W.mg_of X G a45)
  cases e
  let T : Txt PySem.Challenge.rw_onecopy_k07_whole_slack.prog K mg := { c_OnecopyError := cc_OnecopyError, gc_OnecopyError := PySem.W.mg_of X G gc_OnecopyError, c_LotError := cc_LotError, gc_LotError := PySem.W.mg_of X G gc_LotError, c_ShortLot := cc_ShortLot, gc_ShortLot := PySem.W.mg_of X G gc_ShortLot, c_NotShort := cc_NotShort, gc_NotShort := PySem.W.mg_of X G gc_NotShort, c_NoPage := cc_NoPage, gc_NoPage := PySem.W.mg_of X G gc_NoPage, c_InvalidPointer := cc_InvalidPointer, gc_InvalidPointer := PySem.W.mg_of X G gc_InvalidPointer, c_InvalidStanding := cc_InvalidStanding, gc_InvalidStanding := PySem.W.mg_of X G gc_InvalidStanding, c_NoLine := cc_NoLine, gc_NoLine := PySem.W.mg_of X G gc_NoLine, c_Web := cc_Web, gc_Web := PySem.W.mg_of X G gc_Web, c_Standing := cc_Standing, gc_Standing := PySem.W.mg_of X G gc_Standing, f_LotError_init := f0, fd_LotError_init := _, X_LotError_init := ⟨⟨_, _, _, _, _, _, _, q0, h0, _, _, rfl, l0, c0, ⟨_, _, _, cq0⟩, ⟨_, _, _, _, _, _, ch0, cf0, cg0⟩⟩, ⟨_, ci0x⟩, PySem.W.mg_none_of X G cs0, ct0x⟩, b_LotError_init := bindsX dd0 rfl (fun us hl => match us, hl with | [_, _, _], _ => ⟨_, rfl, rfl⟩), f_ShortLot_init := f1, fd_ShortLot_init := _, X_ShortLot_init := ⟨⟨_, _, _, _, _, _, _, q1, h1, _, _, rfl, l1, c1, ⟨_, _, _, cq1⟩, ⟨_, _, _, _, _, _, ch1, cf1, cg1⟩⟩, ⟨_, ci1x⟩, PySem.W.mg_none_of X G cs1, ct1x⟩, b_ShortLot_init := .all fun us hl => match us, hl with | [_, _], _ => rfl, f_NoPage_init := f2, fd_NoPage_init := _, X_NoPage_init := ⟨⟨_, _, _, _, _, _, _, q2, h2, _, _, rfl, l2, c2, ⟨_, _, _, cq2⟩, ⟨_, _, _, _, _, _, ch2, cf2, cg2⟩⟩, ⟨_, ci2x⟩, PySem.W.mg_none_of X G cs2, ct2x⟩, b_NoPage_init := .all fun us hl => match us, hl with | [_, _], _ => rfl, f_other_end := f3, fd_other_end := _, F_other_end := fun_mk (st := s_other_end) l3 c3 k3, g_other_end := PySem.W.mg_of X G a3, b_other_end := (fun_mk (st := s_other_end) l3 c3 k3).binds (ps := ["pointer", "page"]) (fun _ _ _ _ _ _ us hl => match us, hl with | [_, _], _ => rfl), f_owned_count := f4, fd_owned_count := _, F_owned_count := fun_mk (st := s_owned_count) l4 c4 k4, g_owned_count := PySem.W.mg_of X G a4, b_owned_count := (fun_mk (st := s_owned_count) l4 c4 k4).binds (ps := ["owners", "page"]) (fun _ _ _ _ _ _ us hl => match us, hl with | [_, _], _ => rfl), f_owned_lists := f5, fd_owned_lists := _, F_owned_lists := fun_mk (st := s_owned_lists) l5 c5 k5, g_owned_lists := PySem.W.mg_of X G a5, b_owned_lists := (fun_mk (st := s_owned_lists) l5 c5 k5).binds (ps := ["owners"]) (fun _ _ _ _ _ _ us hl => match us, hl with | [_], _ => rfl), f_make_room := f6, fd_make_room := _, F_make_room := fun_mk (st := s_make_room) l6 c6 k6, g_make_room := PySem.W.mg_of X G a6, b_make_room := (fun_mk (st := s_make_room) l6 c6 k6).binds (ps := ["owners", "blank", "start"]) (fun _ _ _ _ _ _ us hl => match us, hl with | [_, _, _], _ => rfl), f_turn_chain := f7, fd_turn_chain := _, F_turn_chain := fun_mk (st := s_turn_chain) l7 c7 k7, g_turn_chain := PySem.W.mg_of X G a7, b_turn_chain := (fun_mk (st := s_turn_chain) l7 c7 k7).binds (ps := ["owners", "came_along", "last"]) (fun _ _ _ _ _ _ us hl => match us, hl with | [_, _, _], _ => rfl), f_place_pointer := f8, fd_place_pointer := _, F_place_pointer := fun_mk (st := s_place_pointer) l8 c8 k8, g_place_pointer := PySem.W.mg_of X G a8, b_place_pointer := (fun_mk (st := s_place_pointer) l8 c8 k8).binds (ps := ["owners", "blank", "pointer"]) (fun _ _ _ _ _ _ us hl => match us, hl with | [_, _, _], _ => rfl), f_place_rest := f9, fd_place_rest := _, F_place_rest := fun_mk (st := s_place_rest) l9 c9 k9, g_place_rest := PySem.W.mg_of X G a9, b_place_rest := (fun_mk (st := s_place_rest) l9 c9 k9).binds (ps := ["owners", "blank", "pointers"]) (fun _ _ _ _ _ _ us hl => match us, hl with | [_, _, _], _ => rfl), f_place_all := f10, fd_place_all := _, F_place_all := fun_mk (st := s_place_all) l10 c10 k10, g_place_all := PySem.W.mg_of X G a10, b_place_all := (fun_mk (st := s_place_all) l10 c10 k10).binds (ps := ["blank", "pointers"]) (fun _ _ _ _ _ _ us hl => match us, hl with | [_, _], _ => rfl), f_check_pages := f11, fd_check_pages := _, F_check_pages := fun_mk (st := s_check_pages) l11 c11 k11, g_check_pages := PySem.W.mg_of X G a11, b_check_pages := (fun_mk (st := s_check_pages) l11 c11 k11).binds (ps := ["pages", "lot"]) (fun _ _ _ _ _ _ us hl => match us, hl with | [_, _], _ => rfl), f_grouped := f12, fd_grouped := _, F_grouped := fun_mk (st := s_grouped) l12 c12 k12, g_grouped := PySem.W.mg_of X G a12, b_grouped := (fun_mk (st := s_grouped) l12 c12 k12).binds (ps := ["pages", "pairs"]) (fun _ _ _ _ _ _ us hl => match us, hl with | [_, _], _ => rfl), f_Web_init := f13, fd_Web_init := _, F_Web_init := fun_mk (st := s_Web_init) l13 c13 k13, b_Web_init := (fun_mk (st := s_Web_init) l13 c13 k13).binds (ps := ["self", "pages", "pointers"]) (fun _ _ _ _ _ _ us hl => match us, hl with | [_, _, _], _ => rfl), f_Web_arrows := f14, fd_Web_arrows := _, F_Web_arrows := fun_mk (st := s_Web_arrows) l14 c14 k14, b_Web_arrows := (fun_mk (st := s_Web_arrows) l14 c14 k14).binds (ps := ["self"]) (fun _ _ _ _ _ _ us hl => match us, hl with | [_], _ => rfl), f_Standing_init := f15, fd_Standing_init := _, F_Standing_init := fun_mk (st := s_Standing_init) l15 c15 k15, b_Standing_init := (fun_mk (st := s_Standing_init) l15 c15 k15).binds (ps := ["self", "web", "lines", "blank"]) (fun _ _ _ _ _ _ us hl => match us, hl with | [_, _, _, _], _ => rfl), f_Standing_blanks := f16, fd_Standing_blanks := _, F_Standing_blanks := fun_mk (st := s_Standing_blanks) l16 c16 k16, b_Standing_blanks := (fun_mk (st := s_Standing_blanks) l16 c16 k16).binds (ps := ["self"]) (fun _ _ _ _ _ _ us hl => match us, hl with | [_], _ => rfl), f_Standing_blank_of := f17, fd_Standing_blank_of := _, F_Standing_blank_of := fun_mk (st := s_Standing_blank_of) l17 c17 k17, b_Standing_blank_of := (fun_mk (st := s_Standing_blank_of) l17 c17 k17).binds (ps := ["self", "page"]) (fun _ _ _ _ _ _ us hl => match us, hl with | [_, _], _ => rfl), f_blank_table := f18, fd_blank_table := _, F_blank_table := fun_mk (st := s_blank_table) l18 c18 k18, g_blank_table := PySem.W.mg_of X G a18, b_blank_table := (fun_mk (st := s_blank_table) l18 c18 k18).binds (ps := ["standing"]) (fun _ _ _ _ _ _ us hl => match us, hl with | [_], _ => rfl), f_owner_table := f19, fd_owner_table := _, F_owner_table := fun_mk (st := s_owner_table) l19 c19 k19, g_owner_table := PySem.W.mg_of X G a19, b_owner_table := (fun_mk (st := s_owner_table) l19 c19 k19).binds (ps := ["standing"]) (fun _ _ _ _ _ _ us hl => match us, hl with | [_], _ => rfl), f_owner_list := f20, fd_owner_list := _, F_owner_list := fun_mk (st := s_owner_list) l20 c20 k20, g_owner_list := PySem.W.mg_of X G a20, b_owner_list := (fun_mk (st := s_owner_list) l20 c20 k20).binds (ps := ["standing", "owners"]) (fun _ _ _ _ _ _ us hl => match us, hl with | [_, _], _ => rfl), f_slack := f21, fd_slack := _, F_slack := fun_mk (st := s_slack) l21 c21 k21, g_slack := PySem.W.mg_of X G a21, b_slack := (fun_mk (st := s_slack) l21 c21 k21).binds (ps := ["standing", "page"]) (fun _ _ _ _ _ _ us hl => match us, hl with | [_, _], _ => rfl), f_law_cell := f22, fd_law_cell := _, F_law_cell := fun_mk (st := s_law_cell) l22 c22 k22, g_law_cell := PySem.W.mg_of X G a22, b_law_cell := (fun_mk (st := s_law_cell) l22 c22 k22).binds (ps := ["script", "k"]) (fun _ _ _ _ _ _ us hl => match us, hl with | [_, _], _ => rfl), f_law_source := f23, fd_law_source := _, F_law_source := fun_mk (st := s_law_source) l23 c23 k23, g_law_source := PySem.W.mg_of X G a23, b_law_source := (fun_mk (st := s_law_source) l23 c23 k23).binds (ps := ["cell"]) (fun _ _ _ _ _ _ us hl => match us, hl with | [_], _ => rfl), f_law_take := f24, fd_law_take := _, F_law_take := fun_mk (st := s_law_take) l24 c24 k24, g_law_take := PySem.W.mg_of X G a24, b_law_take := (fun_mk (st := s_law_take) l24 c24 k24).binds (ps := ["source", "size"]) (fun _ _ _ _ _ _ us hl => match us, hl with | [_, _], _ => rfl), f_law_parents := f25, fd_law_parents := _, F_law_parents := fun_mk (st := s_law_parents) l25 c25 k25, g_law_parents := PySem.W.mg_of X G a25, b_law_parents := (fun_mk (st := s_law_parents) l25 c25 k25).binds (ps := ["source", "many", "shape"]) (fun _ _ _ _ _ _ us hl => match us, hl with | [_, _, _], _ => rfl), f_law_pointers := f26, fd_law_pointers := _, F_law_pointers := fun_mk (st := s_law_pointers) l26 c26 k26, g_law_pointers := PySem.W.mg_of X G a26, b_law_pointers := (fun_mk (st := s_law_pointers) l26 c26 k26).binds (ps := ["source", "parents", "way"]) (fun _ _ _ _ _ _ us hl => match us, hl with | [_, _, _], _ => rfl), f_law_names := f27, fd_law_names := _, F_law_names := fun_mk (st := s_law_names) l27 c27 k27, g_law_names := PySem.W.mg_of X G a27, b_law_names := (fun_mk (st := s_law_names) l27 c27 k27).binds (ps := ["source", "many"]) (fun _ _ _ _ _ _ us hl => match us, hl with | [_, _], _ => rfl), f_law_named := f28, fd_law_named := _, F_law_named := fun_mk (st := s_law_named) l28 c28 k28, g_law_named := PySem.W.mg_of X G a28, b_law_named := (fun_mk (st := s_law_named) l28 c28 k28).binds (ps := ["pointers", "names", "turn"]) (fun _ _ _ _ _ _ us hl => match us, hl with | [_, _, _], _ => rfl), f_law_extras := f29, fd_law_extras := _, F_law_extras := fun_mk (st := s_law_extras) l29 c29 k29, g_law_extras := PySem.W.mg_of X G a29, b_law_extras := (fun_mk (st := s_law_extras) l29 c29 k29).binds (ps := ["source", "many", "shape"]) (fun _ _ _ _ _ _ us hl => match us, hl with | [_, _, _], _ => rfl), f_law_joined := f30, fd_law_joined := _, F_law_joined := fun_mk (st := s_law_joined) l30 c30 k30, g_law_joined := PySem.W.mg_of X G a30, b_law_joined := (fun_mk (st := s_law_joined) l30 c30 k30).binds (ps := ["pointers", "more"]) (fun _ _ _ _ _ _ us hl => match us, hl with | [_, _], _ => rfl), f_law_world := f31, fd_law_world := _, F_law_world := fun_mk (st := s_law_world) l31 c31 k31, g_law_world := PySem.W.mg_of X G a31, b_law_world := (fun_mk (st := s_law_world) l31 c31 k31).binds (ps := ["script", "room"]) (fun _ _ _ _ _ _ us hl => match us, hl with | [_, _], _ => rfl), f_law_lines := f32, fd_law_lines := _, F_law_lines := fun_mk (st := s_law_lines) l32 c32 k32, g_law_lines := PySem.W.mg_of X G a32, b_law_lines := (fun_mk (st := s_law_lines) l32 c32 k32).binds (ps := ["source"]) (fun _ _ _ _ _ _ us hl => match us, hl with | [_], _ => rfl), f_law_owners := f33, fd_law_owners := _, F_law_owners := fun_mk (st := s_law_owners) l33 c33 k33, g_law_owners := PySem.W.mg_of X G a33, b_law_owners := (fun_mk (st := s_law_owners) l33 c33 k33).binds (ps := ["source", "pairs"]) (fun _ _ _ _ _ _ us hl => match us, hl with | [_, _], _ => rfl), f_law_table := f34, fd_law_table := _, F_law_table := fun_mk (st := s_law_table) l34 c34 k34, g_law_table := PySem.W.mg_of X G a34, b_law_table := (fun_mk (st := s_law_table) l34 c34 k34).binds (ps := ["source", "many", "owners"]) (fun _ _ _ _ _ _ us hl => match us, hl with | [_, _, _], _ => rfl), f_law_near := f35, fd_law_near := _, F_law_near := fun_mk (st := s_law_near) l35 c35 k35, g_law_near := PySem.W.mg_of X G a35, b_law_near := (fun_mk (st := s_law_near) l35 c35 k35).binds (ps := ["source", "lines", "blank"]) (fun _ _ _ _ _ _ us hl => match us, hl with | [_, _, _], _ => rfl), f_law_is_integer := f36, fd_law_is_integer := _, F_law_is_integer := fun_mk (st := s_law_is_integer) l36 c36 k36, g_law_is_integer := PySem.W.mg_of X G a36, b_law_is_integer := (fun_mk (st := s_law_is_integer) l36 c36 k36).binds (ps := ["told"]) (fun _ _ _ _ _ _ us hl => match us, hl with | [_], _ => rfl), f_law_is_dealing := f37, fd_law_is_dealing := _, F_law_is_dealing := fun_mk (st := s_law_is_dealing) l37 c37 k37, g_law_is_dealing := PySem.W.mg_of X G a37, b_law_is_dealing := (fun_mk (st := s_law_is_dealing) l37 c37 k37).binds (ps := ["pairs", "blank", "told"]) (fun _ _ _ _ _ _ us hl => match us, hl with | [_, _, _], _ => rfl), f_law_is_lot := f38, fd_law_is_lot := _, F_law_is_lot := fun_mk (st := s_law_is_lot) l38 c38 k38, g_law_is_lot := PySem.W.mg_of X G a38, b_law_is_lot := (fun_mk (st := s_law_is_lot) l38 c38 k38).binds (ps := ["told", "many"]) (fun _ _ _ _ _ _ us hl => match us, hl with | [_, _], _ => rfl), f_law_left := f39, fd_law_left := _, F_law_left := fun_mk (st := s_law_left) l39 c39 k39, g_law_left := PySem.W.mg_of X G a39, b_law_left := (fun_mk (st := s_law_left) l39 c39 k39).binds (ps := ["pairs", "blank", "lot"]) (fun _ _ _ _ _ _ us hl => match us, hl with | [_, _, _], _ => rfl), f_law_values := f40, fd_law_values := _, F_law_values := fun_mk (st := s_law_values) l40 c40 k40, g_law_values := PySem.W.mg_of X G a40, b_law_values := (fun_mk (st := s_law_values) l40 c40 k40).binds (ps := ["many", "pairs", "blank"]) (fun _ _ _ _ _ _ us hl => match us, hl with | [_, _, _], _ => rfl), f_law_told := f41, fd_law_told := _, F_law_told := fun_mk (st := s_law_told) l41 c41 k41, g_law_told := PySem.W.mg_of X G a41, b_law_told := (fun_mk (st := s_law_told) l41 c41 k41).binds (ps := ["standing", "page"]) (fun _ _ _ _ _ _ us hl => match us, hl with | [_, _], _ => rfl), f_law_papers := f42, fd_law_papers := _, F_law_papers := fun_mk (st := s_law_papers) l42 c42 k42, g_law_papers := PySem.W.mg_of X G a42, b_law_papers := (fun_mk (st := s_law_papers) l42 c42 k42).binds (ps := ["told", "many", "pairs", "blank", "page"]) (fun _ _ _ _ _ _ us hl => match us, hl with | [_, _, _, _, _], _ => rfl), f_law_judged := f43, fd_law_judged := _, F_law_judged := fun_mk (st := s_law_judged) l43 c43 k43, g_law_judged := PySem.W.mg_of X G a43, b_law_judged := (fun_mk (st := s_law_judged) l43 c43 k43).binds (ps := ["standing", "many", "pairs", "blank", "page"]) (fun _ _ _ _ _ _ us hl => match us, hl with | [_, _, _, _, _], _ => rfl), f_law_refused := f44, fd_law_refused := _, F_law_refused := fun_mk (st := s_law_refused) l44 c44 k44, g_law_refused := PySem.W.mg_of X G a44, b_law_refused := (fun_mk (st := s_law_refused) l44 c44 k44).binds (ps := ["standing", "page"]) (fun _ _ _ _ _ _ us hl => match us, hl with | [_, _], _ => rfl), f_law := _, fd_law := _, F_law := fun_mk (st := s_law) l45 c45 k45, g_law := PySem.W.mg_of X G a45, b_law := (fun_mk (st := s_law) l45 c45 k45).binds (ps := ["script"]) (fun _ _ _ _ _ _ us hl => match us, hl with | [_], _ => rfl), ox_ShortLot := ⟨⟨_, _, _, _, _, _, _, _, _, _, _, _, _, _, _, xL_ShortLot, xr_ShortLot⟩, xs_ShortLot, xe_ShortLot, xt_ShortLot, xk_ShortLot⟩, te_ShortLot_LotError := te_ShortLot_LotError, su_ShortLot := ⟨⟨⟨_, _, _, _, _, _, _, _, _, _, _, _, _, _, _, xL_ShortLot, xr_ShortLot⟩, xs_ShortLot, xe_ShortLot, xt_ShortLot, xk_ShortLot⟩, xu_ShortLot, xn_ShortLot, xv_ShortLot, xy_ShortLot, ⟨_, _, _, _, _, _, _, _, _, _, _, _, _, _, _, xL_ShortLot⟩⟩, so_ShortLot := ⟨⟨⟨_, _, _, _, _, _, _, _, _, _, _, _, _, _, _, xL_ShortLot, xr_ShortLot⟩, xs_ShortLot, xe_ShortLot, xt_ShortLot, xk_ShortLot⟩, yu_ShortLot, yn_ShortLot, xy_ShortLot⟩, si_ShortLot := yi_ShortLot, st_ShortLot := yt_ShortLot, ix_ShortLot := a1, ti_ShortLot := ti_ShortLot, xf_ShortLot := ⟨xga_ShortLot, xgg_ShortLot, xe_ShortLot, xhd_ShortLot⟩, xc_ShortLot := ⟨xga_ShortLot, xgg_ShortLot, xe_ShortLot, xhd_ShortLot, xcl_ShortLot, xcn_ShortLot, xct_ShortLot, xcm_ShortLot⟩, te_ShortLot := te_ShortLot, nx_ShortLot_lot := nx_ShortLot_lot, ox_NoPage := ⟨⟨_, _, _, _, _, _, _, _, _, _, _, _, _, _, _, xL_NoPage, xr_NoPage⟩, xs_NoPage, xe_NoPage, xt_NoPage, xk_NoPage⟩, su_NoPage := ⟨⟨⟨_, _, _, _, _, _, _, _, _, _, _, _, _, _, _, xL_NoPage, xr_NoPage⟩, xs_NoPage, xe_NoPage, xt_NoPage, xk_NoPage⟩, xu_NoPage, xn_NoPage, xv_NoPage, xy_NoPage, ⟨_, _, _, _, _, _, _, _, _, _, _, _, _, _, _, xL_NoPage⟩⟩, ix_NoPage := a2, ti_NoPage := ti_NoPage, xf_NoPage := ⟨xga_NoPage, xgg_NoPage, xe_NoPage, xhd_NoPage⟩, xc_NoPage := ⟨xga_NoPage, xgg_NoPage, xe_NoPage, xhd_NoPage, xcl_NoPage, xcn_NoPage, xct_NoPage, xcm_NoPage⟩, te_NoPage := te_NoPage, nx_NoPage_page := nx_NoPage_page, cl_Web := ⟨pg_Web, hd_Web, po_Web, sa_Web⟩, mk_Web := ⟨mm_Web, a13, mf_Web, mp_Web⟩, n_Web_pages := n_Web_pages, n_Web__known := n_Web__known, n_Web__arrows := n_Web__arrows, n_Web__holders := n_Web__holders, n_Web__targets := n_Web__targets, me_Web_arrows := ⟨a14, ia14, k14⟩, cl_Standing := ⟨pg_Standing, hd_Standing, po_Standing, sa_Standing⟩, mk_Standing := ⟨mm_Standing, a15, mf_Standing, mp_Standing⟩, n_Standing_web := n_Standing_web, n_Standing_lines := n_Standing_lines, n_Standing__blank := n_Standing__blank, me_Standing_blanks := ⟨a16, ia16, k16⟩, me_Standing_blank_of := ⟨a17, ia17, k17⟩, ki_NoPage_LotError := ki_NoPage_LotError, ki_ShortLot_NotShort := ki_ShortLot_NotShort, ki_ShortLot_ShortLot := ki_ShortLot_ShortLot, z_abs := PySem.W.mg_none_of X G z_abs, z_bool := PySem.W.mg_none_of X G z_bool, z_dict := PySem.W.mg_none_of X G z_dict, z_enumerate := PySem.W.mg_none_of X G z_enumerate, z_int := PySem.W.mg_none_of X G z_int, z_isinstance := PySem.W.mg_none_of X G z_isinstance, z_len := PySem.W.mg_none_of X G z_len, z_list := PySem.W.mg_none_of X G z_list, z_max := PySem.W.mg_none_of X G z_max, z_min := PySem.W.mg_none_of X G z_min, z_range := PySem.W.mg_none_of X G z_range, z_set := PySem.W.mg_none_of X G z_set, z_sorted := PySem.W.mg_none_of X G z_sorted, z_sum := PySem.W.mg_none_of X G z_sum, z_tuple := PySem.W.mg_none_of X G z_tuple }
  exact ⟨T.fd_law, fun s v => .of_eq rfl, fun base _ _ => ok_law T⟩
end K07
open PySem PySem.W PyProof.Rows
set_option maxRecDepth 100000 in
set_option maxHeartbeats 0 in
theorem PySem.Challenge.cw_onecopy_k07_whole_slack_holds : PySem.Challenge.rw_onecopy_k07_whole_slack.Holds := by
  w_on; o_law; k_head; (case hw => w_witness2)
  k_fill
  refine L2.walk_of (l := PySem.Challenge.rw_onecopy_k07_whole_slack) (n := 63) (k := 11) (x := "script") (CX := fun _ => L2.CX0) (sp := fun w => K07.spLaw _) rfl (by decide) rfl ⟨rfl, by decide, by decide⟩ (fun w h Y => PySem.W.kIn_of Y) ?F (fun _ _ a ns hl _ hS => ⟨a, ns, rfl, hS, hl, fun _ => rfl⟩) (fun _ _ _ _ _ h => h)
  case F =>
    intro w mg fa h KX G hmg
    refine' K07.all_mk KX G hmg ?gc_OnecopyError ?gc_LotError ?gc_ShortLot ?gc_NotShort ?gc_NoPage ?gc_InvalidPointer ?gc_InvalidStanding ?gc_NoLine ?gc_Web ?gc_Standing ?a0 ?l0 ?dd0 ?c0 ?cq0 ?ch0 ?cf0 ?cg0 ?ci0x ?cs0 ?ct0x ?a1 ?l1 ?c1 ?cq1 ?ch1 ?cf1 ?cg1 ?ci1x ?cs1 ?ct1x ?a2 ?l2 ?c2 ?cq2 ?ch2 ?cf2 ?cg2 ?ci2x ?cs2 ?ct2x ?a3 ?l3 ?c3 ?k3 ?a4 ?l4 ?c4 ?k4 ?a5 ?l5 ?c5 ?k5 ?a6 ?l6 ?c6 ?k6 ?a7 ?l7 ?c7 ?k7 ?a8 ?l8 ?c8 ?k8 ?a9 ?l9 ?c9 ?k9 ?a10 ?l10 ?c10 ?k10 ?a11 ?l11 ?c11 ?k11 ?a12 ?l12 ?c12 ?k12 ?a13 ?l13 ?c13 ?k13 ?a14 ?l14 ?c14 ?k14 ?a15 ?l15 ?c15 ?k15 ?a16 ?l16 ?c16 ?k16 ?a17 ?l17 ?c17 ?k17 ?a18 ?l18 ?c18 ?k18 ?a19 ?l19 ?c19 ?k19 ?a20 ?l20 ?c20 ?k20 ?a21 ?l21 ?c21 ?k21 ?a22 ?l22 ?c22 ?k22 ?a23 ?l23 ?c23 ?k23 ?a24 ?l24 ?c24 ?k24 ?a25 ?l25 ?c25 ?k25 ?a26 ?l26 ?c26 ?k26 ?a27 ?l27 ?c27 ?k27 ?a28 ?l28 ?c28 ?k28 ?a29 ?l29 ?c29 ?k29 ?a30 ?l30 ?c30 ?k30 ?a31 ?l31 ?c31 ?k31 ?a32 ?l32 ?c32 ?k32 ?a33 ?l33 ?c33 ?k33 ?a34 ?l34 ?c34 ?k34 ?a35 ?l35 ?c35 ?k35 ?a36 ?l36 ?c36 ?k36 ?a37 ?l37 ?c37 ?k37 ?a38 ?l38 ?c38 ?k38 ?a39 ?l39 ?c39 ?k39 ?a40 ?l40 ?c40 ?k40 ?a41 ?l41 ?c41 ?k41 ?a42 ?l42 ?c42 ?k42 ?a43 ?l43 ?c43 ?k43 ?a44 ?l44 ?c44 ?k44 ?a45 ?l45 ?c45 ?k45 ?xL_ShortLot ?xr_ShortLot ?xs_ShortLot ?xe_ShortLot ?xt_ShortLot ?xk_ShortLot ?xu_ShortLot ?xn_ShortLot ?yu_ShortLot ?yn_ShortLot ?yi_ShortLot ?yt_ShortLot ?te_ShortLot_LotError ?xv_ShortLot ?xy_ShortLot ?ti_ShortLot ?xga_ShortLot ?xgg_ShortLot ?xhd_ShortLot ?xcl_ShortLot ?xcn_ShortLot ?xct_ShortLot ?xcm_ShortLot ?te_ShortLot ?nx_ShortLot_lot ?xL_NoPage ?xr_NoPage ?xs_NoPage ?xe_NoPage ?xt_NoPage ?xk_NoPage ?xu_NoPage ?xn_NoPage ?xv_NoPage ?xy_NoPage ?ti_NoPage ?xga_NoPage ?xgg_NoPage ?xhd_NoPage ?xcl_NoPage ?xcn_NoPage ?xct_NoPage ?xcm_NoPage ?te_NoPage ?nx_NoPage_page ?pg_Web ?hd_Web ?po_Web ?sa_Web ?mm_Web ?mf_Web ?mp_Web ?n_Web_pages ?n_Web__known ?n_Web__arrows ?n_Web__holders ?n_Web__targets ?ia14 ?pg_Standing ?hd_Standing ?po_Standing ?sa_Standing ?mm_Standing ?mf_Standing ?mp_Standing ?n_Standing_web ?n_Standing_lines ?n_Standing__blank ?ia16 ?ia17 ?ki_NoPage_LotError ?ki_ShortLot_NotShort ?ki_ShortLot_ShortLot ?z_abs ?z_bool ?z_dict ?z_enumerate ?z_int ?z_isinstance ?z_len ?z_list ?z_max ?z_min ?z_range ?z_set ?z_sorted ?z_sum ?z_tuple
    (case gc_OnecopyError => k_is); (case gc_LotError => k_is); (case gc_ShortLot => k_is); (case gc_NotShort => k_is); (case gc_NoPage => k_is); (case gc_InvalidPointer => k_is); (case gc_InvalidStanding => k_is); (case gc_NoLine => k_is); (case gc_Web => k_is); (case gc_Standing => k_is); (case a0 => k_is); (case l0 => k_is); (case dd0 => k_is); (case c0 => k_is); (case cq0 => k_is); (case ch0 => k_is); (case cf0 => exact rfl); (case cg0 => first | exact rfl | decide +kernel); (case ci0x => k_is); (case cs0 => k_is); (case ct0x => first | exact rfl | decide +kernel); (case a1 => k_is); (case l1 => k_is); (case c1 => k_is); (case cq1 => k_is); (case ch1 => k_is); (case cf1 => exact rfl); (case cg1 => first | exact rfl | decide +kernel); (case ci1x => k_is); (case cs1 => k_is); (case ct1x => first | exact rfl | decide +kernel); (case a2 => k_is); (case l2 => k_is); (case c2 => k_is); (case cq2 => k_is); (case ch2 => k_is); (case cf2 => exact rfl); (case cg2 => first | exact rfl | decide +kernel); (case ci2x => k_is); (case cs2 => k_is); (case ct2x => first | exact rfl | decide +kernel); (case a3 => k_is); (case l3 => k_is); (case c3 => k_is); (case k3 => k_is); (case a4 => k_is); (case l4 => k_is); (case c4 => k_is); (case k4 => k_is); (case a5 => k_is); (case l5 => k_is); (case c5 => k_is); (case k5 => k_is); (case a6 => k_is); (case l6 => k_is); (case c6 => k_is); (case k6 => k_is); (case a7 => k_is); (case l7 => k_is); (case c7 => k_is); (case k7 => k_is); (case a8 => k_is); (case l8 => k_is); (case c8 => k_is); (case k8 => k_is); (case a9 => k_is); (case l9 => k_is); (case c9 => k_is); (case k9 => k_is); (case a10 => k_is); (case l10 => k_is); (case c10 => k_is); (case k10 => k_is); (case a11 => k_is); (case l11 => k_is); (case c11 => k_is); (case k11 => k_is); (case a12 => k_is); (case l12 => k_is); (case c12 => k_is); (case k12 => k_is); (case a13 => k_is); (case l13 => k_is); (case c13 => k_is); (case k13 => k_is); (case a14 => k_is); (case l14 => k_is); (case c14 => k_is); (case k14 => k_is); (case a15 => k_is); (case l15 => k_is); (case c15 => k_is); (case k15 => k_is); (case a16 => k_is); (case l16 => k_is); (case c16 => k_is); (case k16 => k_is); (case a17 => k_is); (case l17 => k_is); (case c17 => k_is); (case k17 => k_is); (case a18 => k_is); (case l18 => k_is); (case c18 => k_is); (case k18 => k_is); (case a19 => k_is); (case l19 => k_is); (case c19 => k_is); (case k19 => k_is); (case a20 => k_is); (case l20 => k_is); (case c20 => k_is); (case k20 => k_is); (case a21 => k_is); (case l21 => k_is); (case c21 => k_is); (case k21 => k_is); (case a22 => k_is); (case l22 => k_is); (case c22 => k_is); (case k22 => k_is); (case a23 => k_is); (case l23 => k_is); (case c23 => k_is); (case k23 => k_is); (case a24 => k_is); (case l24 => k_is); (case c24 => k_is); (case k24 => k_is); (case a25 => k_is); (case l25 => k_is); (case c25 => k_is); (case k25 => k_is); (case a26 => k_is); (case l26 => k_is); (case c26 => k_is); (case k26 => k_is); (case a27 => k_is); (case l27 => k_is); (case c27 => k_is); (case k27 => k_is); (case a28 => k_is); (case l28 => k_is); (case c28 => k_is); (case k28 => k_is); (case a29 => k_is); (case l29 => k_is); (case c29 => k_is); (case k29 => k_is); (case a30 => k_is); (case l30 => k_is); (case c30 => k_is); (case k30 => k_is); (case a31 => k_is); (case l31 => k_is); (case c31 => k_is); (case k31 => k_is); (case a32 => k_is); (case l32 => k_is); (case c32 => k_is); (case k32 => k_is); (case a33 => k_is); (case l33 => k_is); (case c33 => k_is); (case k33 => k_is); (case a34 => k_is); (case l34 => k_is); (case c34 => k_is); (case k34 => k_is); (case a35 => k_is); (case l35 => k_is); (case c35 => k_is); (case k35 => k_is); (case a36 => k_is); (case l36 => k_is); (case c36 => k_is); (case k36 => k_is); (case a37 => k_is); (case l37 => k_is); (case c37 => k_is); (case k37 => k_is); (case a38 => k_is); (case l38 => k_is); (case c38 => k_is); (case k38 => k_is); (case a39 => k_is); (case l39 => k_is); (case c39 => k_is); (case k39 => k_is); (case a40 => k_is); (case l40 => k_is); (case c40 => k_is); (case k40 => k_is); (case a41 => k_is); (case l41 => k_is); (case c41 => k_is); (case k41 => k_is); (case a42 => k_is); (case l42 => k_is); (case c42 => k_is); (case k42 => k_is); (case a43 => k_is); (case l43 => k_is); (case c43 => k_is); (case k43 => k_is); (case a44 => k_is); (case l44 => k_is); (case c44 => k_is); (case k44 => k_is); (case a45 => k_is); (case l45 => k_is); (case c45 => k_is); (case k45 => k_is); (case xL_ShortLot => k_is); (case xr_ShortLot => first | exact rfl | decide +kernel); (case xs_ShortLot => k_is); (case xe_ShortLot => k_is); (case xt_ShortLot => k_is); (case xk_ShortLot => k_is); (case xu_ShortLot => k_is); (case xn_ShortLot => ks_is); (case yu_ShortLot => k_is); (case yn_ShortLot => ks_is); (case yi_ShortLot => k_is); (case yt_ShortLot => k_is); (case te_ShortLot_LotError => kts_exm); (case xv_ShortLot => k_is); (case xy_ShortLot => k_is); (case ti_ShortLot => k_is); (case xga_ShortLot => k_is); (case xgg_ShortLot => k_is); (case xhd_ShortLot => k_is); (case xcl_ShortLot => k_is); (case xcn_ShortLot => k_is); (case xct_ShortLot => k_is); (case xcm_ShortLot => k_is); (case te_ShortLot => kts_exm); (case nx_ShortLot_lot => k_is); (case xL_NoPage => k_is); (case xr_NoPage => first | exact rfl | decide +kernel); (case xs_NoPage => k_is); (case xe_NoPage => k_is); (case xt_NoPage => k_is); (case xk_NoPage => k_is); (case xu_NoPage => k_is); (case xn_NoPage => ks_is); (case xv_NoPage => k_is); (case xy_NoPage => k_is); (case ti_NoPage => k_is); (case xga_NoPage => k_is); (case xgg_NoPage => k_is); (case xhd_NoPage => k_is); (case xcl_NoPage => k_is); (case xcn_NoPage => k_is); (case xct_NoPage => k_is); (case xcm_NoPage => k_is); (case te_NoPage => kts_exm); (case nx_NoPage_page => k_is); (case pg_Web => k_is); (case hd_Web => k_is); (case po_Web => k_is); (case sa_Web => k_is); (case mm_Web => k_is); (case mf_Web => k_is); (case mp_Web => k_is); (case n_Web_pages => k_is); (case n_Web__known => k_is); (case n_Web__arrows => k_is); (case n_Web__holders => k_is); (case n_Web__targets => k_is); (case ia14 => k_is); (case pg_Standing => k_is); (case hd_Standing => k_is); (case po_Standing => k_is); (case sa_Standing => k_is); (case mm_Standing => k_is); (case mf_Standing => k_is); (case mp_Standing => k_is); (case n_Standing_web => k_is); (case n_Standing_lines => k_is); (case n_Standing__blank => k_is); (case ia16 => k_is); (case ia17 => k_is); (case ki_NoPage_LotError => kit_is); (case ki_ShortLot_NotShort => kit_is); (case ki_ShortLot_ShortLot => kit_is); (case z_abs => k_is); (case z_bool => k_is); (case z_dict => k_is); (case z_enumerate => k_is); (case z_int => k_is); (case z_isinstance => k_is); (case z_len => k_is); (case z_list => k_is); (case z_max => k_is); (case z_min => k_is); (case z_range => k_is); (case z_set => k_is); (case z_sorted => k_is); (case z_sum => k_is); (case z_tuple => k_is)