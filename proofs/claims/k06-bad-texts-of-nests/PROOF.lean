import PyProof.Rows.All
import HandS.SortOrd
import KE.KSortAsk
import Wide.All
import OpenK.AllK
import Wide.FinOn
import HandS.ForMost
import HandS.Style
import HandS.IsInst
import HandS.SortInts
import HandS.More
import HandS.Codes
import HandS.Strs
import HandS.SetFor
import HandS.Deep
import HandS.Defaults
import HandS.Dict
import HandS.TupLen
import HandS.ForExc
import HandS.ExcIs
import HandS.CallSlots
import HandS.ClsMeth
import HandS.Property
import HandS.ListItems
import HandS.CallLocal
import HandS.MakeKwOnly
import HandS.Walk
import PyProof.Rows.SortH.SortRunsSt
import HandS.OwnEq
import HandS.IterVal
import KE.KOwnIter
import KE.LtData
import KE.DataMinMax
import HandS.SortKw
import HandS.Star
import HandS.Rev
import HandS.Text
import HandS.RaiseMore
import PyProof.StrLawsIn
import PyProof.Draws
import PyProof.EnumMake
import HandS.TryMany
import HandS.ExcField
import KE.KExcIs
import HandS.Nested
import HandS.ExcInit
import HandS.FStr
import HandS.ExcSuper
import KE.KExcSuper
import HandS.Steps
import PyProof.StrBlock2
import PyProof.Rows.StrJoinRep
import HandS.SetTxt0
import PyProof.Rows.SortShellAny
import KE.RegKIsAll
import KE.RegKTryMore
import KE.RegKSuper
import PySem.Challenge.RW_setnests_k06_bad_texts_of_nests
set_option Elab.async false
set_option linter.all false
set_option maxRecDepth 100000
set_option maxHeartbeats 4000000
/-! what the sort of fewer than 64 items asks, and that its answer is in order -/
namespace Lw
open PySem PySem.W PyProof.Rows SrtO
/-- each question is about places below n, and behind the answers of lt stands P -/
def AskP {α : Type} (n : Nat) (lt : Nat → Nat → Bool) : KasT α → (α → Prop) → Prop
  | .ret a, P => P a
  | .ask i j k, P => i < n ∧ j < n ∧ AskP n lt (k (lt i j)) P
section
variable {n : Nat} {lt : Nat → Nat → Bool}
theorem AskP.imp {α : Type} {P Q : α → Prop} (h : ∀ a, P a → Q a) : ∀ {t : KasT α}, AskP n lt t P → AskP n lt t Q
  | .ret a, x => h a x
  | .ask i j k, ⟨h1, h2, h3⟩ => ⟨h1, h2, AskP.imp h h3⟩
theorem AskP.bind {α β : Type} {P : α → Prop} {Q : β → Prop} {f : α → KasT β} : ∀ {t : KasT α}, AskP n lt t P → (∀ a, P a → AskP n lt (f a) Q) → AskP n lt (t.bind f) Q
  | .ret a, x, h => h a x
  | .ask i j k, ⟨h1, h2, h3⟩, h => ⟨h1, h2, AskP.bind h3 h⟩
/-- with a comparison that keeps I -/
theorem AskP.wp {α : Type} {P : α → Prop} {I : Shared → Prop} {cmp : Nat → Nat → (Bool → Shared → Prop) → Shared → Prop} {Q : α → Shared → Prop} (hc : ∀ i j s C, i < n → j < n → I s → (∀ s', I s' → C (lt i j) s') → cmp i j C s) (hq : ∀ a s, P a → I s → Q a s) :
    ∀ {t : KasT α} {s : Shared}, AskP n lt t P → I s → t.kasWp cmp Q s
  | .ret a, s, x, hi => hq a s x hi
  | .ask i j k, s, ⟨h1, h2, h3⟩, hi => hc i j s _ h1 h2 hi fun s' hi' => AskP.wp hc hq h3 hi'
theorem gd_at {p : Array Nat} {i x : Nat} (h : p.toList[i]? = some x) : p.getD i 0 = x := by
  rw [Array.getElem?_toList] at h
  rw [Array.getD_eq_getD_getElem?, h]; rfl
theorem at_lt {l : List Nat} {i : Nat} (h : i < l.length) : ∃ x, l[i]? = some x ∧ x ∈ l := ⟨l[i], List.getElem?_eq_getElem h, List.getElem_mem h⟩
variable (O : Swo lt)
include O
theorem srtd_more {l : List Nat} {m x z : Nat} (h : Srtd lt (l.take m)) (hm : 1 ≤ m) (hx : l[m]? = some x) (hz : l[m - 1]? = some z) (hxz : lt x z = false) : Srtd lt (l.take (m + 1)) := by
  have e : l.take (m + 1) = l.take m ++ [x] := by rw [List.take_add_one, hx]; rfl
  rw [e]
  refine srtd_snoc h fun y hy => ?_
  have e2 : l.take m = l.take (m - 1) ++ [z] := by
    have e3 : m = m - 1 + 1 := by omega
    rw [e3, List.take_add_one, hz, ← e3]; rfl
  rw [e2] at h hy
  exact O.tr y z x (O.le_last h y hy) hxz
theorem asc_ok {p : Array Nat} (hp : p.size = n) (hb : ∀ x ∈ p.toList, x < n) : ∀ (f m : Nat), 1 ≤ m → m + f ≤ n → Srtd lt (p.toList.take m) →
    AskP n lt (kas_asc p f m) (fun m' => m ≤ m' ∧ m' ≤ m + f ∧ Srtd lt (p.toList.take m') ∧ (m' < m + f → ∃ x z, p.toList[m']? = some x ∧ p.toList[m' - 1]? = some z ∧ lt x z = true))
  | 0, m, h1, h2, h3 => ⟨Nat.le_refl _, Nat.le_refl _, h3, fun h => absurd h (by omega)⟩
  | f + 1, m, h1, h2, h3 => by
    have hl : p.toList.length = n := by rw [Array.length_toList, hp]
    obtain ⟨x, hx, hxm⟩ := at_lt (l := p.toList) (i := m) (by omega)
    obtain ⟨z, hz, hzm⟩ := at_lt (l := p.toList) (i := m - 1) (by omega)
    show p.getD m 0 < n ∧ p.getD (m - 1) 0 < n ∧ AskP n lt (if lt (p.getD m 0) (p.getD (m - 1) 0) = true then KasT.ret m else kas_asc p f (m + 1)) _
    rw [gd_at hx, gd_at hz]
    refine ⟨hb x hxm, hb z hzm, ?_⟩
    rcases bcase (lt x z) with c | c
    · rw [if_pos c]
      exact ⟨Nat.le_refl _, by omega, h3, fun _ => ⟨x, z, hx, hz, c⟩⟩
    · rw [if_neg (by rw [c]; exact Bool.false_ne_true)]
      refine AskP.imp (fun m' ⟨k1, k2, k3, k4⟩ => ⟨by omega, by omega, k3, fun h => k4 (by omega)⟩) (asc_ok hp hb f (m + 1) (by omega) (by omega) (srtd_more O h3 h1 hx hz c))
omit O in
theorem rev_list {p : Array Nat} {A M B : List Nat} {i j : Nat} (e : p.toList = A ++ (M ++ B)) (hi : i = A.length) (hj : j = A.length + M.length) : (kas_rev p i j).toList = A ++ (M.reverse ++ B) := mirror_list e hi hj
omit O in
theorem perm_rev {A M B : List Nat} : (A ++ (M.reverse ++ B)).Perm (A ++ (M ++ B)) := List.Perm.append_left _ (List.Perm.append_right _ (List.reverse_perm M))
/-- the state of a descending run -/
structure Dsc (lt : Nat → Nat → Bool) (p₀ p : Array Nat) (m q : Nat) : Prop where
  perm : p.toList.Perm p₀.toList
  run : ∃ U V T W, p.toList = U ++ V ++ T ∧ U.length + V.length = m ∧ V.length = q + 1 ∧ Hd lt U V W
theorem desc_ok {p₀ : Array Nat} (hb : ∀ x ∈ p₀.toList, x < n) (hn : p₀.size = n) : ∀ (f : Nat) (p : Array Nat) (m q : Nat), m + f ≤ n → Dsc lt p₀ p m q →
    AskP n lt (kas_desc f p m q) (fun r => m ≤ r.2.1 ∧ r.2.1 ≤ n ∧ Dsc lt p₀ r.1 r.2.1 r.2.2)
  | 0, p, m, q, h1, h2 => ⟨Nat.le_refl _, by omega, h2⟩
  | f + 1, p, m, q, h1, h2 => by
    obtain ⟨hperm, U, V, T, W, e, hm, hq, hd⟩ := id h2
    have hl : p.toList.length = n := by rw [hperm.length_eq, Array.length_toList, hn]
    have hbp : ∀ x ∈ p.toList, x < n := fun x hx => hb x (hperm.mem_iff.mp hx)
    obtain ⟨x, hx, hxm⟩ := at_lt (l := p.toList) (i := m) (by omega)
    obtain ⟨z, hz, hzm⟩ := at_lt (l := p.toList) (i := m - 1) (by omega)
    show p.getD m 0 < n ∧ p.getD (m - 1) 0 < n ∧ AskP n lt (if lt (p.getD m 0) (p.getD (m - 1) 0) = true then (if q > 0 then kas_desc f (kas_rev p (m - (q + 1)) m) (m + 1) 0 else kas_desc f p (m + 1) 0)
      else KasT.ask (p.getD (m - 1) 0) (p.getD m 0) fun d => if d = true then .ret (p, m, q) else kas_desc f p (m + 1) (q + 1)) _
    rw [gd_at hx, gd_at hz]
    refine ⟨hbp x hxm, hbp z hzm, ?_⟩
    -- x is the head of T, z the last of V
    obtain ⟨T', hT⟩ : ∃ T', T = x :: T' := by
      rw [e, List.getElem?_append_right (by rw [List.length_append]; omega), List.length_append, hm, Nat.sub_self] at hx
      cases T with
      | nil => cases hx
      | cons y r => exact ⟨r, by rw [Option.some.inj hx]⟩
    have hzV : z ∈ V := by
      rw [e, List.getElem?_append_left (by rw [List.length_append]; omega), List.getElem?_append_right (by omega)] at hz
      exact List.mem_of_getElem? hz
    subst hT
    rcases bcase (lt x z) with c | c
    · rw [if_pos c]
      have hd' := hd.down O hzV c
      by_cases hq0 : q > 0
      · rw [if_pos hq0]
        have er : (kas_rev p (m - (q + 1)) m).toList = U ++ (V.reverse ++ (x :: T')) := rev_list (by rw [e, List.append_assoc]) (by omega) (by omega)
        refine AskP.imp (fun r ⟨k1, k2, k3⟩ => ⟨by omega, k2, k3⟩) (desc_ok hb hn f _ (m + 1) 0 (by omega) ⟨?_, U ++ V.reverse, [x], T', _, ?_, ?_, rfl, hd'⟩)
        · rw [er]
          refine List.Perm.trans perm_rev ?_
          rw [← List.append_assoc, ← e]; exact hperm
        · rw [er]; simp
        · rw [List.length_append, List.length_reverse, List.length_singleton]; omega
      · rw [if_neg hq0]
        obtain ⟨v, hv⟩ := List.length_eq_one_iff.mp (show V.length = 1 by omega)
        subst hv
        refine AskP.imp (fun r ⟨k1, k2, k3⟩ => ⟨by omega, k2, k3⟩) (desc_ok hb hn f _ (m + 1) 0 (by omega) ⟨hperm, U ++ [v], [x], T', _, ?_, ?_, rfl, hd'⟩)
        · rw [e]; simp
        · rw [List.length_append, List.length_singleton, List.length_singleton]; simp at hm; omega
    · rw [if_neg (by rw [c]; exact Bool.false_ne_true)]
      show z < n ∧ x < n ∧ AskP n lt (if lt z x = true then .ret (p, m, q) else kas_desc f p (m + 1) (q + 1)) _
      refine ⟨hbp z hzm, hbp x hxm, ?_⟩
      rcases bcase (lt z x) with d | d
      · rw [if_pos d]
        exact ⟨Nat.le_refl _, by show m ≤ n; omega, h2⟩
      · rw [if_neg (by rw [d]; exact Bool.false_ne_true)]
        refine AskP.imp (fun r ⟨k1, k2, k3⟩ => ⟨by omega, k2, k3⟩) (desc_ok hb hn f _ (m + 1) (q + 1) (by omega) ⟨hperm, U, V ++ [x], T', _, ?_, ?_, ?_, hd.same O hzV c d⟩)
        · rw [e]; simp
        · rw [List.length_append, List.length_singleton]; omega
        · rw [List.length_append, List.length_singleton, hq]
/-- what the count of the first run leaves -/
def Cnt (lt : Nat → Nat → Bool) (n : Nat) (p₀ : Array Nat) (r : Nat × Array Nat) : Prop := 1 ≤ r.1 ∧ r.1 ≤ n ∧ r.2.toList.Perm p₀.toList ∧ Srtd lt (r.2.toList.take r.1)
theorem tail3_ok {p₀ p : Array Nat} {m : Nat} {A T : List Nat} (hb : ∀ x ∈ p₀.toList, x < n) (hn : p₀.size = n) (hperm : p.toList.Perm p₀.toList) (e : p.toList = A ++ T) (hA : A.length = m) (h1 : 1 ≤ m) (hs : Srtd lt A.reverse) : AskP n lt (kas_tail3 m n p) (Cnt lt n p₀) := by
  have er : (kas_rev p 0 m).toList = A.reverse ++ T := by
    have := rev_list (p := p) (A := []) (M := A) (B := T) (i := 0) (j := m) e rfl (by rw [hA]; simp)
    exact this
  have hp2 : (kas_rev p 0 m).toList.Perm p₀.toList := by
    rw [er]
    refine (List.Perm.append_right _ (List.reverse_perm A)).trans ?_
    rw [← e]; exact hperm
  have hsz : (kas_rev p 0 m).size = n := by rw [← Array.length_toList, hp2.length_eq, Array.length_toList, hn]
  have hm : m ≤ n := by
    have := congrArg List.length er
    rw [Array.length_toList, hsz, List.length_append, List.length_reverse] at this
    omega
  refine AskP.bind (asc_ok O hsz (fun x hx => hb x (hp2.mem_iff.mp hx)) (n - m) m h1 (by omega) ?_) fun m' ⟨k1, k2, k3, _⟩ => ?_
  · have : (kas_rev p 0 m).toList.take m = A.reverse := by rw [er, List.take_left' (by rw [List.length_reverse, hA])]
    rw [this]; exact hs
  · exact ⟨by omega, by omega, hp2, k3⟩
theorem descPart_ok {p₀ p : Array Nat} {m y : Nat} {U T : List Nat} (hb : ∀ x ∈ p₀.toList, x < n) (hn : p₀.size = n) (hperm : p.toList.Perm p₀.toList) (e : p.toList = U ++ y :: T) (hU : U.length = m) (hs : Srtd lt U.reverse) (hy : ∀ u ∈ U, lt y u = true) : AskP n lt (kas_descPart m n p) (Cnt lt n p₀) := by
  have hl : p.toList.length = n := by rw [hperm.length_eq, Array.length_toList, hn]
  have hm : m + 1 ≤ n := by rw [← hl, e, List.length_append, List.length_cons]; omega
  refine AskP.bind (desc_ok O hb hn (n - (m + 1)) p (m + 1) 0 (by omega) ⟨hperm, U, [y], T, _, by rw [e]; simp, by rw [hU]; rfl, rfl, Hd.start O hs hy (Stb.refl _)⟩) ?_
  rintro ⟨p', m', q⟩ ⟨k1, k2, kp, U', V, T', W, e', hm', hq, hd⟩
  dsimp only at k1 k2 kp e' hm' hq ⊢
  by_cases hq0 : q > 0
  · rw [if_pos hq0]
    have er : (kas_rev p' (m' - (q + 1)) m').toList = U' ++ (V.reverse ++ T') := rev_list (by rw [e', List.append_assoc]) (by omega) (by omega)
    refine tail3_ok O (A := U' ++ V.reverse) (T := T') hb hn ?_ (by rw [er, List.append_assoc]) (by rw [List.length_append, List.length_reverse]; omega) (by omega) ?_
    · rw [er]
      refine perm_rev.trans ?_
      rw [← List.append_assoc, ← e']; exact kp
    · rw [List.reverse_append, List.reverse_reverse]; exact hd.sorted O
  · rw [if_neg hq0]
    obtain ⟨v, hv⟩ := List.length_eq_one_iff.mp (show V.length = 1 by omega)
    subst hv
    refine tail3_ok O (A := U' ++ [v]) (T := T') hb hn kp e' (by rw [List.length_append]; exact hm') (by omega) ?_
    have := hd.sorted O
    rw [List.reverse_append]; exact this
theorem count_ok {p : Array Nat} (hn : p.size = n) (h1 : 1 ≤ n) (hb : ∀ x ∈ p.toList, x < n) : AskP n lt (kas_count n p) (Cnt lt n p) := by
  have hl : p.toList.length = n := by rw [Array.length_toList, hn]
  have s1 : Srtd lt (p.toList.take 1) := by
    cases e : p.toList with
    | nil => exact List.Pairwise.nil
    | cons x r => exact srtd_one x
  refine AskP.bind (asc_ok O hn hb (n - 1) 1 (Nat.le_refl _) (by omega) s1) fun m ⟨k1, k2, k3, k4⟩ => ?_
  by_cases hm : m = n
  · rw [if_pos (by rw [hm]; exact beq_self_eq_true n)]
    exact ⟨k1, by omega, List.Perm.refl _, k3⟩
  · rw [if_neg (by simp [hm])]
    obtain ⟨y, z, hy, hz, c⟩ := k4 (by omega)
    have ed : p.toList = p.toList.take m ++ (y :: p.toList.drop (m + 1)) := by
      have e1 : p.toList.drop m = y :: p.toList.drop (m + 1) := by
        have := List.drop_eq_getElem_cons (l := p.toList) (i := m) (by omega)
        rw [this]
        congr 1
        rw [List.getElem?_eq_getElem (by omega)] at hy
        exact Option.some.inj hy
      rw [← e1, List.take_append_drop]
    have htl : (p.toList.take m).length = m := by rw [List.length_take]; omega
    have hz2 : p.toList.take m = p.toList.take (m - 1) ++ [z] := by
      have e3 : m = m - 1 + 1 := by omega
      rw [e3, List.take_add_one, hz, ← e3]; rfl
    by_cases hm1 : m > 1
    · rw [if_pos hm1]
      obtain ⟨x, hx, hxm⟩ := at_lt (l := p.toList) (i := 0) (by omega)
      show p.getD 0 0 < n ∧ p.getD (m - 1) 0 < n ∧ AskP n lt (if lt (p.getD 0 0) (p.getD (m - 1) 0) = true then .ret (m, p) else kas_descPart m n (kas_rev p 0 m)) _
      rw [gd_at hx, gd_at hz]
      refine ⟨hb x hxm, hb z (List.mem_of_getElem? hz), ?_⟩
      rcases bcase (lt x z) with d | d
      · rw [if_pos d]
        exact ⟨k1, by omega, List.Perm.refl _, k3⟩
      · rw [if_neg (by rw [d]; exact Bool.false_ne_true)]
        have er : (kas_rev p 0 m).toList = (p.toList.take m).reverse ++ (y :: p.toList.drop (m + 1)) := by
          have := rev_list (p := p) (A := []) (M := p.toList.take m) (B := y :: p.toList.drop (m + 1)) (i := 0) (j := m) ed rfl (by rw [htl]; simp)
          exact this
        refine descPart_ok O hb hn ?_ er (by rw [List.length_reverse, htl]) (by rw [List.reverse_reverse]; exact k3) fun u hu => ?_
        · rw [er]
          refine (List.Perm.append_right _ (List.reverse_perm _)).trans ?_
          rw [← ed]
        · have hu := List.mem_reverse.mp hu
          have hux : lt u x = false := by
            have e0 : p.toList.take m = x :: (p.toList.take m).tail := by
              cases e : p.toList with
              | nil => rw [e] at hx; cases hx
              | cons a r =>
                rw [e] at hx
                have : a = x := Option.some.inj hx
                subst this
                obtain ⟨k, rfl⟩ : ∃ k, m = k + 1 := ⟨m - 1, by omega⟩
                rfl
            rw [e0] at hu k3
            rcases List.mem_cons.mp hu with e | hu
            · rw [e]; exact O.refl x
            · exact srtd_head k3 u hu
          exact O.ltle c (O.tr z x u d hux)
    · rw [if_neg hm1]
      have m1 : m = 1 := by omega
      subst m1
      refine descPart_ok O hb hn (List.Perm.refl _) ed htl ?_ fun u hu => ?_
      · rw [hz2]; exact srtd_one z
      · rw [hz2] at hu
        have : u = z := by simpa using hu
        rw [this]; exact c
theorem place_ok {p : Array Nat} (hn : p.size = n) (hb : ∀ x ∈ p.toList, x < n) {k x : Nat} (hk : k < n) (hx : p.toList[k]? = some x) (hs : Srtd lt (p.toList.take k)) : ∀ (f l r : Nat), r - l ≤ f → l ≤ r → r ≤ k → (∀ i y, i < l → p.toList[i]? = some y → lt x y = false) → (∀ i y, r ≤ i → i < k → p.toList[i]? = some y → lt x y = true) →
    AskP n lt (kas_place p k f l r) (fun l' => l' ≤ k ∧ (∀ i y, i < l' → p.toList[i]? = some y → lt x y = false) ∧ (∀ i y, l' ≤ i → i < k → p.toList[i]? = some y → lt x y = true))
  | 0, l, r, h1, h2, h3, h4, h5 => ⟨by omega, h4, fun i y hi => h5 i y (by omega)⟩
  | f + 1, l, r, h1, h2, h3, h4, h5 => by
    have hl : p.toList.length = n := by rw [Array.length_toList, hn]
    by_cases hlr : l ≥ r
    · show AskP n lt (if l ≥ r then KasT.ret l else _) _
      rw [if_pos hlr]
      exact ⟨by omega, h4, fun i y hi => h5 i y (by omega)⟩
    · show AskP n lt (if l ≥ r then KasT.ret l else KasT.ask (p.getD k 0) (p.getD ((l + r) / 2) 0) fun c => if c = true then kas_place p k f l ((l + r) / 2) else kas_place p k f ((l + r) / 2 + 1) r) _
      rw [if_neg hlr]
      obtain ⟨z, hz, hzm⟩ := at_lt (l := p.toList) (i := (l + r) / 2) (by omega)
      show p.getD k 0 < n ∧ p.getD ((l + r) / 2) 0 < n ∧ AskP n lt (if lt (p.getD k 0) (p.getD ((l + r) / 2) 0) = true then kas_place p k f l ((l + r) / 2) else kas_place p k f ((l + r) / 2 + 1) r) _
      rw [gd_at hx, gd_at hz]
      refine ⟨hb x (List.mem_of_getElem? hx), hb z hzm, ?_⟩
      have srt : ∀ i j a b, i < j → j < k → p.toList[i]? = some a → p.toList[j]? = some b → lt b a = false := fun i j a b hij hj ha hb2 => by
        have h1 : (p.toList.take k)[i]? = some a := by rw [List.getElem?_take, if_pos (by omega)]; exact ha
        have h2 : (p.toList.take k)[j]? = some b := by rw [List.getElem?_take, if_pos hj]; exact hb2
        obtain ⟨q1, e1⟩ := List.getElem?_eq_some_iff.mp h1
        obtain ⟨q2, e2⟩ := List.getElem?_eq_some_iff.mp h2
        have := List.pairwise_iff_getElem.mp hs i j q1 q2 hij
        rw [e1, e2] at this
        exact this
      rcases bcase (lt x z) with c | c
      · rw [if_pos c]
        refine place_ok hn hb hk hx hs f l ((l + r) / 2) (by omega) (by omega) (by omega) h4 fun i y hi hik hy => ?_
        by_cases e : i = (l + r) / 2
        · subst e
          rw [hz] at hy
          rw [← Option.some.inj hy]; exact c
        · exact O.ltle c (srt _ i z y (by omega) hik hz hy)
      · rw [if_neg (by rw [c]; exact Bool.false_ne_true)]
        refine place_ok hn hb hk hx hs f ((l + r) / 2 + 1) r (by omega) (by omega) h3 (fun i y hi hy => ?_) h5
        by_cases e : i = (l + r) / 2
        · subst e
          rw [hz] at hy
          rw [← Option.some.inj hy]; exact c
        · exact O.tr y z x (srt i _ y z (by omega) (by omega) hy hz) c
theorem bin_ok {p₀ : Array Nat} (hn : p₀.size = n) (hb : ∀ x ∈ p₀.toList, x < n) : ∀ (f : Nat) (p : Array Nat) (k : Nat), k + f = n → p.toList.Perm p₀.toList → Srtd lt (p.toList.take k) → AskP n lt (kas_bin f p k) (fun p' => p'.toList.Perm p₀.toList ∧ Srtd lt p'.toList)
  | 0, p, k, h1, h2, h3 => by
    have hl : p.toList.length = n := by rw [h2.length_eq, Array.length_toList, hn]
    refine ⟨h2, ?_⟩
    rwa [List.take_of_length_le (by omega)] at h3
  | f + 1, p, k, h1, h2, h3 => by
    have hl : p.toList.length = n := by rw [h2.length_eq, Array.length_toList, hn]
    have hbp : ∀ x ∈ p.toList, x < n := fun x hx => hb x (h2.mem_iff.mp hx)
    obtain ⟨x, hx, hxm⟩ := at_lt (l := p.toList) (i := k) (by omega)
    refine AskP.bind (place_ok O (by rw [← Array.length_toList, hl]) hbp (by omega) hx h3 k 0 k (by omega) (Nat.zero_le _) (Nat.le_refl _) (fun i y hi => absurd hi (Nat.not_lt_zero _)) (fun i y hi hi2 => absurd hi2 (by omega))) fun l ⟨k1, k2, k3⟩ => ?_
    have ed : p.toList = p.toList.take l ++ ((p.toList.take k).drop l ++ x :: p.toList.drop (k + 1)) := by
      have e1 : p.toList.drop k = x :: p.toList.drop (k + 1) := by
        have := List.drop_eq_getElem_cons (l := p.toList) (i := k) (by omega)
        rw [this]
        congr 1
        rw [List.getElem?_eq_getElem (by omega)] at hx
        exact Option.some.inj hx
      have e2 : p.toList.take k = p.toList.take l ++ (p.toList.take k).drop l := by
        have := (List.take_append_drop l (p.toList.take k)).symm
        rwa [List.take_take, Nat.min_eq_left k1] at this
      rw [← e1, ← List.append_assoc, ← e2, List.take_append_drop]
    have hl1 : (p.toList.take l).length = l := by rw [List.length_take]; omega
    have hl2 : ((p.toList.take k).drop l).length = k - l := by rw [List.length_drop, List.length_take]; omega
    have eb : (bubble p k (k - l)).toList = p.toList.take l ++ (x :: ((p.toList.take k).drop l ++ p.toList.drop (k + 1))) := bubble_list ed hl1.symm (by rw [hl1, hl2]; omega)
    refine bin_ok hn hb f _ (k + 1) (by omega) ?_ ?_
    · rw [eb]
      refine List.Perm.trans ?_ h2
      have e3 : p.toList.Perm (p.toList.take l ++ (x :: ((p.toList.take k).drop l ++ p.toList.drop (k + 1)))) := by
        conv => lhs; rw [ed]
        exact List.Perm.append_left _ List.perm_middle
      exact e3.symm
    · have et : (bubble p k (k - l)).toList.take (k + 1) = p.toList.take l ++ x :: (p.toList.take k).drop l := by
        rw [eb]
        have : p.toList.take l ++ (x :: ((p.toList.take k).drop l ++ p.toList.drop (k + 1))) = (p.toList.take l ++ x :: (p.toList.take k).drop l) ++ p.toList.drop (k + 1) := by simp
        rw [this, List.take_left' (by rw [List.length_append, List.length_cons, hl1, hl2]; omega)]
      rw [et]
      have es : p.toList.take l ++ (p.toList.take k).drop l = p.toList.take k := by
        have := List.take_append_drop l (p.toList.take k)
        rwa [List.take_take, Nat.min_eq_left k1] at this
      refine ins_srtd O (by rw [es]; exact h3) (fun y hy => ?_) fun y hy => ?_
      · obtain ⟨i, hi⟩ := List.getElem?_of_mem hy
        have hil : i < l := by
          have := (List.getElem?_eq_some_iff.mp hi).1
          omega
        rw [List.getElem?_take, if_pos hil] at hi
        exact k2 i y hil hi
      · obtain ⟨i, hi⟩ := List.getElem?_of_mem hy
        rw [List.getElem?_drop, List.getElem?_take] at hi
        by_cases hik : l + i < k
        · rw [if_pos hik] at hi
          exact k3 (l + i) y (by omega) hik hi
        · rw [if_neg hik] at hi; cases hi
theorem sort_ok (h1 : 1 ≤ n) : AskP n lt (kas_sort n) (fun p => p.toList.Perm (List.range n) ∧ Srtd lt p.toList) := by
  have e : (List.toArray (List.range n)).toList = List.range n := rfl
  have hn : (List.toArray (List.range n)).size = n := by simp
  have hb : ∀ x ∈ (List.toArray (List.range n)).toList, x < n := fun x hx => List.mem_range.mp hx
  refine AskP.bind (count_ok O hn h1 hb) ?_
  rintro ⟨m, p⟩ ⟨k1, k2, k3, k4⟩
  dsimp only at k1 k2 k3 k4 ⊢
  have hl : p.toList.length = n := by rw [k3.length_eq, Array.length_toList, hn]
  by_cases hm : m < n
  · rw [if_pos hm]
    have em : max m 1 = m := by omega
    rw [em]
    exact bin_ok O hn hb (n - m) p m (by omega) k3 k4
  · rw [if_neg hm]
    refine ⟨k3, ?_⟩
    rwa [List.take_of_length_le (by omega)] at k4
omit O in
/-- an ascending row is one run -/
theorem asc_all {f m : Nat} (h1 : 1 ≤ m) (h2 : m + f ≤ n) (h : ∀ i, 1 ≤ i → i < n → lt i (i - 1) = false) : AskP n lt (kas_asc (List.toArray (List.range n)) f m) (fun m' => m' = m + f) := by
  induction f generalizing m with
  | zero => exact rfl
  | succ f ih =>
    have g1 : (List.toArray (List.range n)).getD m 0 = m := by simp [show m < n by omega]
    have g2 : (List.toArray (List.range n)).getD (m - 1) 0 = m - 1 := by simp [show m - 1 < n by omega]
    show (List.toArray (List.range n)).getD m 0 < n ∧ (List.toArray (List.range n)).getD (m - 1) 0 < n ∧ AskP n lt (if lt ((List.toArray (List.range n)).getD m 0) ((List.toArray (List.range n)).getD (m - 1) 0) = true then KasT.ret m else kas_asc (List.toArray (List.range n)) f (m + 1)) _
    rw [g1, g2, h m h1 (by omega)]
    refine ⟨by omega, by omega, ?_⟩
    rw [if_neg Bool.false_ne_true]
    exact AskP.imp (fun m' e => by rw [e]; omega) (ih (by omega) (by omega))
omit O in
theorem count_all (h1 : 1 ≤ n) (h : ∀ i, 1 ≤ i → i < n → lt i (i - 1) = false) : AskP n lt (kas_count n (List.toArray (List.range n))) (fun r => r = (n, List.toArray (List.range n))) := by
  refine AskP.bind (asc_all (Nat.le_refl 1) (by omega) h) fun m e => ?_
  have e : m = n := by omega
  rw [if_pos (by rw [e]; exact beq_self_eq_true n), e]
  exact rfl
end
end Lw
/-! my own base: layered heaps, readings as lemmas, a stepping tactic -/
namespace Lw
open PySem PySem.Spec PyProof.Rows L2

/-! ### heaps in layers -/
theorem upd_old {H : Hp} {p a : Addr} {x o : HO} (hp : H p = none) (h : H a = some o) : upd H p x a = some o := by
  rw [upd_ne (ne_of_none h hp)]; exact h
theorem Same.get {H H' : Hp} {a : Addr} {o : HO} (s : Same H H') (h : H a = some o) : H' a = some o := s a o h
theorem same_new {H : Hp} {p : Addr} {o : HO} (h : H p = none) : Same H (upd H p o) := fun b x e => upd_old h e
/-- the draws' state: two lists above the rest -/
structure RS where
  ns : List Int
  i : Int
  m : Int
  c : Int
structure RS.Ok (R : RS) : Prop where
  i0 : 0 ≤ R.i
  i1 : R.i ≤ R.ns.length
  pos : ∀ n ∈ R.ns, 0 ≤ n
  len : R.ns.length ≤ 63
def rg (st g : Addr) (R : RS) (B : Hp) : Hp := upd (upd B g (.lst (R.ns.map V.int))) st (.lst [.ref g, .int R.i, .int R.m, .int R.c])
structure Ok (st g : Addr) (R : RS) (B : Hp) : Prop where
  ne : st ≠ g
  ok : R.Ok
  bst : B st = none
  bg : B g = none
theorem Ok.low {st g : Addr} {R : RS} {B : Hp} (o : Ok st g R B) : (upd B g (.lst (R.ns.map V.int))) st = none := by
  rw [upd_ne o.ne]; exact o.bst
theorem rg_get {st g a : Addr} {R : RS} {B : Hp} {o : HO} (k : Ok st g R B) (h : B a = some o) : rg st g R B a = some o :=
  upd_old k.low (upd_old k.bg h)
theorem rg_st {st g : Addr} {R : RS} {B : Hp} : rg st g R B st = some (.lst [.ref g, .int R.i, .int R.m, .int R.c]) := upd_same
theorem rg_g {st g : Addr} {R : RS} {B : Hp} (k : Ok st g R B) : rg st g R B g = some (.lst (R.ns.map V.int)) := by
  unfold rg; rw [upd_ne k.ne.symm, upd_same]
theorem upd_comm {H : Hp} {a b : Addr} {x y : HO} (h : a ≠ b) : upd (upd H a x) b y = upd (upd H b y) a x := by
  funext c
  by_cases h1 : c = b
  · subst h1; rw [upd_same, upd_ne h.symm, upd_same]
  · rw [upd_ne h1]
    by_cases h2 : c = a
    · subst h2; rw [upd_same, upd_same]
    · rw [upd_ne h2, upd_ne h2, upd_ne h1]
theorem upd_none {H : Hp} {a b : Addr} {x : HO} (h : upd H a x b = none) : b ≠ a ∧ H b = none := by
  by_cases e : b = a
  · subst e; rw [upd_same] at h; cases h
  · rw [upd_ne e] at h; exact ⟨e, h⟩
theorem rg_none {st g b : Addr} {R : RS} {B : Hp} (h : rg st g R B b = none) : b ≠ st ∧ b ≠ g ∧ B b = none := by
  obtain ⟨h1, h2⟩ := upd_none h
  obtain ⟨h3, h4⟩ := upd_none h2
  exact ⟨h1, h3, h4⟩
theorem rg_upd {st g b : Addr} {R : RS} {B : Hp} {o : HO} (h1 : b ≠ st) (h2 : b ≠ g) : upd (rg st g R B) b o = rg st g R (upd B b o) := by
  unfold rg; rw [upd_comm h1.symm, upd_comm h2.symm]
theorem Ok.upd {st g b : Addr} {R : RS} {B : Hp} {o : HO} (k : Ok st g R B) (h1 : b ≠ st) (h2 : b ≠ g) : Ok st g R (upd B b o) :=
  ⟨k.ne, k.ok, by rw [upd_ne h1.symm]; exact k.bst, by rw [upd_ne h2.symm]; exact k.bg⟩
/-- a new object below the draws' state -/
theorem rg_new {st g : Addr} {R : RS} {B : Hp} {o : HO} {Q : Addr → Hp → Prop} (k : Ok st g R B)
    (h : ∀ p, B p = none → p ≠ st → p ≠ g → Ok st g R (upd B p o) → Q p (rg st g R (upd B p o))) : ∀ p, rg st g R B p = none → Q p (upd (rg st g R B) p o) := fun p hp => by
  obtain ⟨h1, h2, h3⟩ := rg_none hp
  rw [rg_upd h1 h2]
  exact h p h3 h1 h2 (k.upd h1 h2)
/-- an object written below the draws' state -/
theorem rg_write {st g b : Addr} {R : RS} {B : Hp} {o o' : HO} (k : Ok st g R B) (h : B b = some o') : upd (rg st g R B) b o = rg st g R (upd B b o) ∧ Ok st g R (upd B b o) := by
  have h1 := ne_of_none h k.bst
  have h2 := ne_of_none h k.bg
  exact ⟨rg_upd h1 h2, k.upd h1 h2⟩
/-- behind a call that keeps all that was -/
theorem rg_same {st g : Addr} {R : RS} {B H : Hp} (k : Ok st g R B) (s : Same (rg st g R B) H) : ∃ B', H = rg st g R B' ∧ Ok st g R B' ∧ Same B B' := by
  refine ⟨fun b => if b = st ∨ b = g then none else H b, ?_, ⟨k.ne, k.ok, if_pos (.inl rfl), if_pos (.inr rfl)⟩, fun b o e => ?_⟩
  · funext b
    by_cases h1 : b = st
    · subst h1; rw [rg_st]; exact s _ _ rg_st
    · by_cases h2 : b = g
      · subst h2
        rw [show rg st b R (fun c => if c = st ∨ c = b then none else H c) b = some (.lst (R.ns.map V.int)) by unfold rg; rw [upd_ne h1, upd_same]]
        exact s _ _ (rg_g k)
      · unfold rg
        rw [upd_ne h1, upd_ne h2, if_neg (by intro z; rcases z with z | z; exact h1 z; exact h2 z)]
  · have h1 := ne_of_none e k.bst
    have h2 := ne_of_none e k.bg
    show (if b = st ∨ b = g then none else H b) = some o
    rw [if_neg (by intro z; rcases z with z | z; exact h1 z; exact h2 z)]
    exact s _ _ (rg_get k e)
/-- a list that is under way lies above the rest -/
theorem lay_new {C : Hp} {D : Addr} {x o : HO} {Q : Addr → Hp → Prop} (k : C D = none)
    (h : ∀ p, C p = none → p ≠ D → (upd C p o) D = none → Q p (upd (upd C p o) D x)) : ∀ p, upd C D x p = none → Q p (upd (upd C D x) p o) := fun p hp => by
  obtain ⟨h1, h2⟩ := upd_none hp
  rw [upd_comm h1.symm]
  exact h p h2 h1 (by rw [upd_ne h1.symm]; exact k)
theorem lay_same {C H : Hp} {D : Addr} {x : HO} (k : C D = none) (s : Same (upd C D x) H) : ∃ C', H = upd C' D x ∧ C' D = none ∧ Same C C' := by
  refine ⟨fun b => if b = D then none else H b, ?_, if_pos rfl, fun b o e => ?_⟩
  · funext b
    by_cases h1 : b = D
    · subst h1; rw [upd_same]; exact s _ _ upd_same
    · rw [upd_ne h1, if_neg h1]
  · have h1 := ne_of_none e k
    show (if b = D then none else H b) = some o
    rw [if_neg h1]
    exact s _ _ (upd_old k e)

/-! ### readings as lemmas -/
section
variable {K : PySem.W.Frag} {σ : L2.St} {H : Hp} {Q : VK} {D : Ends}
theorem r_seq {t u : TS} (h : t { D with nx := u D } σ H) : tSeq t u D σ H := h
theorem r_ifs {c : TT} {t u : TS} (h : c σ H fun b H1 => if b = true then t D σ H1 else u D σ H1) : tIfS c t u D σ H := h
theorem r_next (h : D.nx σ H) : tNext D σ H := h
theorem r_asg {te : TE} {g : TG} (h : te σ H fun x H1 => g x σ H1 D.nx) : tAsg te g D σ H := h
theorem r_ret {te : TE} (h : te σ H D.rt) : tRet te D σ H := h
theorem r_drop {te : TE} (h : te σ H fun _ H1 => D.nx σ H1) : tDrop te D σ H := h
theorem r_for {wi : TI} {g : TG} {tb : TS} (h : wi σ H fun J H1 => ∃ W : Nat → Nat → L2.St → Hp → Prop, (∃ m, W 0 m σ H1) ∧ ∀ i m σ H, W i m σ H →
  (J.stop i H ∧ D.nx σ H) ∨ (J.go i H ∧ ∃ N : L2.St → Hp → Prop, (∀ σ' H', N σ' H' → ∃ m', m' < m ∧ W (i + 1) m' σ' H') ∧ ∀ x H', J.yld i H x H' → g x σ H' fun σ2 H2 => tb { D with nx := N, ct := N, bk := D.nx } σ2 H2)) : tFor wi g tb D σ H := h
theorem r_name {i : Nat} {v : V} {q : L2.St → Hp → Prop} (h : q (σ.set i (some v)) H) : gName i v σ H q := h
theorem r_sub {to ti : TE} {t : TSet} {v : V} {q : L2.St → Hp → Prop} (h : to σ H fun o H1 => ti σ H1 fun i H2 => t o i v H2 fun H3 => q σ H3) : gSub to ti t v σ H q := h
theorem r_tup {n : Nat} {t : TGs} {a : Addr} {xs : List V} {q : L2.St → Hp → Prop} (h : SqT K H a xs) (e : xs.length = n) (h2 : t xs σ H q) : gTup K n t (.ref a) σ H q := ⟨a, xs, rfl, h, e, h2⟩
theorem r_gcons {t : TG} {u : TGs} {v : V} {r : List V} {q : L2.St → Hp → Prop} (h : t v σ H fun σ' H' => u r σ' H' q) : gCons t u (v :: r) σ H q := ⟨v, r, rfl, h⟩
theorem r_gnil {q : L2.St → Hp → Prop} (h : q σ H) : gNil [] σ H q := ⟨rfl, h⟩
theorem r_aug {i : Nat} {te : TE} {ti : TIp} {x : V} (e : σ[i]? = some (some x)) (h : te σ H fun y H1 => ti x y H1 fun z H2 => D.nx (σ.set i (some z)) H2) : tAug i te ti D σ H := ⟨x, e, h⟩
theorem r_augS {to ti te : TE} {tget : V → V → Hp → VK → Prop} {tip : TIp} {tset : TSet} (h : to σ H fun o H1 => ti σ H1 fun i H2 => tget o i H2 fun x H3 => te σ H3 fun y H4 => tip x y H4 fun z H5 => tset o i z H5 fun H6 => D.nx σ H6) : tAugS to ti te tget tip tset D σ H := h
theorem r_ipI {f : Int → Int → Int} {i j : Int} (h : Q (.int (f i j)) H) : ipI f (.int i) (.int j) H Q := ⟨i, j, rfl, rfl, h⟩
theorem r_test {t : TE} {q : Bool → Hp → Prop} (h : t σ H fun x H' => ∃ k, x = .bl k ∧ q k H') : tTest t σ H q := h
theorem r_tB {t : TE} {q : Bool → Hp → Prop} (h : t σ H fun x H' => ∃ k, x = .bl k ∧ q k H') : tB t σ H q := h
theorem r_bl {b : Bool} {q : Bool → Prop} (h : q b) : ∃ k, V.bl b = .bl k ∧ q k := ⟨b, rfl, h⟩
theorem r_not {t : TT} {q : Bool → Hp → Prop} (h : t σ H fun c H1 => q (!c) H1) : tNot t σ H q := h
theorem r_and {t u : TT} {q : Bool → Hp → Prop} (h : t σ H fun c H1 => if c = true then u σ H1 q else q false H1) : tAnd t u σ H q := h
theorem r_or {t u : TT} {q : Bool → Hp → Prop} (h : t σ H fun c H1 => if c = true then q true H1 else u σ H1 q) : tOr t u σ H q := h
theorem r_andV {ta tb : TE} (h : ta σ H fun x H1 => ∃ c, x = .bl c ∧ if c = true then tb σ H1 Q else Q (.bl false) H1) : tAndV ta tb σ H Q := h
theorem r_orV {ta tb : TE} (h : ta σ H fun x H1 => ∃ c, x = .bl c ∧ if c = true then Q (.bl true) H1 else tb σ H1 Q) : tOrV ta tb σ H Q := h
theorem r_notV {ta : TE} (h : ta σ H fun x H1 => ∃ c, x = .bl c ∧ Q (.bl (!c)) H1) : tNotV ta σ H Q := h
theorem r_if {t : TT} {ta tb : TE} (h : t σ H fun c H1 => if c = true then ta σ H1 Q else tb σ H1 Q) : tIf t ta tb σ H Q := h
theorem r_var {i : Nat} {v : V} (e : σ[i]? = some (some v)) (h : Q v H) : tVar i σ H Q := ⟨v, e, h⟩
theorem r_c {v : V} (h : Q v H) : tC v σ H Q := h
theorem r_op {r : R2} {ta tb : TE} (h : ta σ H fun x H1 => tb σ H1 fun y H2 => r x y H2 Q) : tOp r ta tb σ H Q := h
theorem r_un {r : V → Hp → VK → Prop} {ta : TE} (h : ta σ H fun x H1 => r x H1 Q) : tUn r ta σ H Q := h
theorem r_i0 {g : Int → Int → V} {i j : Int} (h : Q (g i j) H) : rI0 g (.int i) (.int j) H Q := ⟨i, j, rfl, rfl, h⟩
theorem r_i {C : Int → Int → Prop} {g : Int → Int → V} {i j : Int} (c : C i j) (h : Q (g i j) H) : rI C g (.int i) (.int j) H Q := ⟨i, j, rfl, rfl, c, h⟩
theorem r_u {g : Int → V} {i : Int} (h : Q (g i) H) : rU g (.int i) H Q := ⟨i, rfl, h⟩
theorem r_eq {x y : V} (e : scal x y = true) (h : Q (.bl (decide (x = y))) H) : rEq x y H Q := ⟨e, h⟩
theorem r_ne {x y : V} (e : scal x y = true) (h : Q (.bl (!decide (x = y))) H) : rNe x y H Q := ⟨e, h⟩
theorem r_chain {r r' : R2} {ta tb tc : TE} (h : ta σ H fun x H1 => tb σ H1 fun y H2 => r x y H2 fun z H3 => ∃ k, z = .bl k ∧ (if k = true then tc σ H3 fun w' H4 => r' y w' H4 Q else Q (.bl false) H3)) : tChain r r' ta tb tc σ H Q := h
theorem r_nil {q : List V → Hp → Prop} (h : q [] H) : tNil σ H q := h
theorem r_cons {ta : TE} {tr : TA} {q : List V → Hp → Prop} (h : ta σ H fun x H1 => tr σ H1 fun xs H2 => q (x :: xs) H2) : tCons ta tr σ H q := h
theorem r_cb {r : List V → Hp → VK → Prop} {t : TA} (h : t σ H fun vs H1 => r vs H1 Q) : tCB r t σ H Q := h
theorem r_call {sp : Sp} {E : XK} {t : TA} (h : t σ H fun vs H1 => sp (vs ++ []) H1 Q E) : tCall sp [] E t σ H Q := h
theorem r_lst {t : TA} (h : t σ H fun xs H1 => xs.length ≤ sizeLine ∧ ∀ p, H1 p = none → Q (.ref p) (upd H1 p (.lst xs))) : tLst t σ H Q := h
theorem r_tupE {t : TA} (h : t σ H fun xs H1 => xs.length ≤ sizeLine ∧ ∀ p, H1 p = none → Q (.ref p) (upd H1 p (.tup xs))) : tTup t σ H Q := h
theorem r_ixL {p : Addr} {xs : List V} {i : Int} {v : V} (h : H p = some (.lst xs)) (a : atI xs i = some v) (q : Q v H) : rIxL K (.ref p) (.int i) H Q := ⟨p, xs, i, v, rfl, rfl, SqL.of h, a, q⟩
theorem r_ixT {p : Addr} {xs : List V} {i : Int} {v : V} (h : H p = some (.tup xs)) (a : atI xs i = some v) (q : Q v H) : rIxT K (.ref p) (.int i) H Q := ⟨p, xs, i, v, rfl, rfl, SqT.of h, a, q⟩
theorem r_setL {p : Addr} {xs : List V} {k : Int} {j : Nat} {v : V} {q : Hp → Prop} (h : H p = some (.lst xs)) (a : ixN xs.length k = some j) (hq : q (upd H p (.lst (xs.set j v)))) : rSetL (.ref p) (.int k) v H q := ⟨p, xs, k, j, rfl, rfl, h, a, hq⟩
theorem r_len {a : Addr} {xs : List V} {F : List V → Prop} (h : H a = some (.lst xs)) (q : F xs) : ∃ p ys, [V.ref a] = [V.ref p] ∧ (SqL K H p ys ∨ SqT K H p ys) ∧ F ys := ⟨a, xs, rfl, .inl (SqL.of h), q⟩
theorem r_bm {T : String} {r : V → List V → Hp → VK → Prop} {to : TE} {t : TA} (h : to σ H fun x H1 => tyV K T x H1 ∧ t σ H1 fun xs H2 => r x xs H2 Q) : tBM K T r to t σ H Q := h
theorem r_bm0 {T : String} {r : V → List V → Hp → VK → Prop} {to : TE} (h : to σ H fun x H1 => tyV K T x H1 ∧ r x [] H1 Q) : tBM0 K T r to σ H Q := h
theorem r_ty {p : Addr} {xs : List V} (h : H p = some (.lst xs)) : tyV K "list" (.ref p) H := .inl ⟨rfl, _, SqL.of h⟩
theorem r_append {l : Addr} {xs : List V} {y : V} (h : H l = some (.lst xs)) (z : xs.length < sizeLine) (q : Q .non (upd H l (.lst (xs ++ [y])))) : rAppend (.ref l) [y] H Q := ⟨l, xs, y, rfl, rfl, h, z, q⟩
theorem r_pop {l : Addr} {xs : List V} {y : V} (h : H l = some (.lst xs)) (z : xs[xs.length - 1]? = some y) (q : Q y (upd H l (.lst xs.dropLast))) : rPop (.ref l) [] H Q := ⟨l, xs, y, rfl, rfl, h, z, q⟩
theorem r_iList {tl : TE} {R : It → Hp → Prop} (h : tl σ H fun x H1 => ∃ a, x = .ref a ∧ (∃ xs, SqL K H1 a xs) ∧ R (Itl K a) H1) : iList K tl σ H R := h
theorem r_isL {a : Addr} {xs : List V} {q : Addr → Prop} (h : H a = some (.lst xs)) (hq : q a) : ∃ b, V.ref a = .ref b ∧ (∃ xs, SqL K H b xs) ∧ q b := ⟨a, rfl, ⟨xs, SqL.of h⟩, hq⟩
theorem r_rng1 {ta : TA} {R : It → Hp → Prop} (h : ta σ H fun vs H1 => ∃ j : Int, vs = [.int j] ∧ -(2 ^ 62) ≤ j ∧ j < 2 ^ 62 ∧ R (Itr 0 j.toNat) H1) : iRng1 ta σ H R := h
theorem r_isR {j : Int} {R : It → Hp → Prop} (h1 : -(2 ^ 62) ≤ j) (h2 : j < 2 ^ 62) (hq : R (Itr 0 j.toNat) H) : ∃ k : Int, [V.int j] = [.int k] ∧ -(2 ^ 62) ≤ k ∧ k < 2 ^ 62 ∧ R (Itr 0 k.toNat) H := ⟨j, rfl, h1, h2, hq⟩
theorem r_enum {ta : TA} {R : It → Hp → Prop} (h : ta σ H fun vs H1 => ∃ a xs, vs = [.ref a] ∧ SqL K H1 a xs ∧ R (Ite K a) H1) : iEnum K ta σ H R := h
theorem r_isE {a : Addr} {xs : List V} {q : Addr → Prop} (h : H a = some (.lst xs)) (hq : q a) : ∃ b ys, [V.ref a] = [.ref b] ∧ SqL K H b ys ∧ q b := ⟨a, xs, rfl, SqL.of h, hq⟩
theorem r_abs {j : Int} {F : Int → Prop} (q : F j) : ∃ i, [V.int j] = [V.int i] ∧ F i := ⟨j, rfl, q⟩
theorem r_int {j : Int} {F : Int → Prop} {G : Prop} (q : F j) : (∃ i, [V.int j] = [V.int i] ∧ F i) ∨ G := .inl ⟨j, rfl, q⟩
theorem r_ite {p : Prop} [Decidable p] {A B : Prop} (h1 : p → A) (h2 : ¬p → B) : if decide p = true then A else B := by
  by_cases h : p
  · rw [if_pos (decide_eq_true h)]; exact h1 h
  · rw [if_neg (by rw [decide_eq_false h]; exact Bool.false_ne_true)]; exact h2 h
theorem r_iten {p : Prop} [Decidable p] {A B : Prop} (h1 : ¬p → A) (h2 : p → B) : if (!decide p) = true then A else B := by
  by_cases h : p
  · rw [if_neg (by rw [decide_eq_true h]; exact Bool.false_ne_true)]; exact h2 h
  · rw [if_pos (by rw [decide_eq_false h]; rfl)]; exact h1 h
theorem int_eq {i j : Int} : (V.int i = V.int j) ↔ i = j := ⟨fun h => V.int.inj h, fun h => by rw [h]⟩
theorem small {n : Nat} (h : n ≤ 100000) : n < sizeLine := Nat.lt_of_le_of_lt h (by decide)
end
end Lw
namespace Lw
open PySem PySem.Spec PyProof.Rows L2
theorem rg_set_st {st g : Addr} {R : RS} {B : Hp} {i m c : Int} : upd (rg st g R B) st (.lst [.ref g, .int i, .int m, .int c]) = rg st g ⟨R.ns, i, m, c⟩ B := by
  unfold rg; rw [upd_upd]
theorem rg_set_g {st g : Addr} {R : RS} {B : Hp} {ns : List Int} (k : Ok st g R B) : upd (rg st g R B) g (.lst (ns.map V.int)) = rg st g ⟨ns, R.i, R.m, R.c⟩ B := by
  unfold rg; rw [upd_comm k.ne, upd_upd]
theorem Ok.re {st g : Addr} {R R' : RS} {B : Hp} (k : Ok st g R B) (h : R'.Ok) : Ok st g R' B := ⟨k.ne, h, k.bst, k.bg⟩
theorem Ok.base {st g : Addr} {R : RS} {B C : Hp} (k : Ok st g R B) (h1 : C st = none) (h2 : C g = none) : Ok st g R C := ⟨k.ne, k.ok, h1, h2⟩
theorem at_i {xs : List V} {z : Int} {v : V} (h0 : 0 ≤ z) (h : xs[z.toNat]? = some v) : atI xs z = some v := at_of (j := z.toNat) (by omega) h
theorem ix_i {n : Nat} {z : Int} (h0 : 0 ≤ z) (h : z < n) : ixN n z = some z.toNat := by unfold ixN; rw [if_pos h0, if_pos h]
theorem setMap (l : List Int) (j : Nat) (x : Int) : (l.map V.int).set j (.int x) = (l.set j x).map V.int := by rw [List.map_set]
/-- a draw -/
def spDraw : Sp := fun vs H Q _ => ∃ (st g : Addr) (R : RS) (B : Hp) (many : Int), vs = [.ref st, .int many] ∧ H = rg st g R B ∧ Ok st g R B ∧ 1 ≤ many ∧ many < 1073741824 ∧
  ∀ R' n, RS.Ok R' → 0 ≤ n → n < many → Q (.int n) (rg st g R' B)
def spStart (K : PySem.W.Frag) : Sp := fun vs H Q _ => ∃ (a : Addr) (ns : List Int), vs = [.ref a] ∧ SqL K H a (ns.map V.int) ∧ ns.length ≤ 63 ∧
  ∀ st g R, Ok st g R H → Q (.ref st) (rg st g R H)
theorem r_draw {st g : Addr} {R : RS} {B : Hp} {many : Int} {Q : VK} {E : XK} (k : Ok st g R B) (h1 : 1 ≤ many) (h2 : many < 1073741824) (q : ∀ R' n, Ok st g R' B → 0 ≤ n → n < many → Q (.int n) (rg st g R' B)) :
    spDraw ([.ref st, .int many] ++ []) (rg st g R B) Q E := ⟨st, g, R, B, many, rfl, rfl, k, h1, h2, fun R' n h => q R' n (k.re h)⟩
end Lw
namespace Lw
open PySem PySem.Spec PyProof.Rows L2
theorem cmul_mod {x y m : Int} (h : 0 < m) (h2 : m ≤ 4294967296) : CMul (x.fmod m) y := by
  have a := Int.fmod_nonneg_of_pos x h
  have b := Int.fmod_lt_of_pos x h
  exact .inl ⟨by omega, by omega⟩
end Lw
namespace Lw
open PySem PySem.Spec PyProof.Rows L2
theorem cdivN {i j : Int} (h : 0 < j) (h2 : j < 1073741824) : CDivN i j := ⟨by omega, by omega⟩
end Lw
namespace Lw
open PySem PySem.Spec PyProof.Rows L2
theorem cmulL {i j : Int} (h : -18446744073709551616 < i) (h2 : i < 18446744073709551616) : CMul i j := .inl ⟨h, h2⟩
theorem cmulR {i j : Int} (h : -18446744073709551616 < j) (h2 : j < 18446744073709551616) : CMul i j := .inr ⟨h, h2⟩
theorem cpow {i j : Int} (h : 0 ≤ j) (h2 : j ≤ 1000000) (h3 : -18446744073709551616 < i) (h4 : i < 18446744073709551616) : CPow i j := ⟨h, h2, by
  show i.natAbs < 18446744073709551616
  omega⟩
end Lw
namespace Lw
open PySem PySem.Spec PyProof.Rows L2
section
variable {K : PySem.W.Frag} {σ : L2.St} {H : Hp} {D : Ends} {g : TG} {tb : TS}
/-- for x in a list -/
theorem r_forS {a : Addr} {xs : List V} (hx : SqL K H a xs) (Pv : Nat → L2.St → Hp → Prop) (h0 : Pv 0 σ H) (hl : ∀ i σ H, i ≤ xs.length → Pv i σ H → SqL K H a xs)
    (hs : ∀ i x σ H, xs[i]? = some x → Pv i σ H → g x σ H fun σ2 H2 => tb { D with nx := Pv (i + 1), ct := Pv (i + 1), bk := D.nx } σ2 H2) (hd : ∀ σ H, Pv xs.length σ H → D.nx σ H) :
    ∃ b, V.ref a = .ref b ∧ (∃ xs, SqL K H b xs) ∧ ∃ W : Nat → Nat → L2.St → Hp → Prop, (∃ m, W 0 m σ H) ∧ ∀ i m σ H, W i m σ H →
      ((Itl K b).stop i H ∧ D.nx σ H) ∨ ((Itl K b).go i H ∧ ∃ N : L2.St → Hp → Prop, (∀ σ' H', N σ' H' → ∃ m', m' < m ∧ W (i + 1) m' σ' H') ∧ ∀ x H', (Itl K b).yld i H x H' → g x σ H' fun σ2 H2 => tb { D with nx := N, ct := N, bk := D.nx } σ2 H2) :=
  ⟨a, rfl, ⟨xs, hx⟩, for_list Pv h0 hl hs hd⟩
theorem r_forL {a : Addr} {xs : List V} (hx : H a = some (.lst xs)) (Pv : Nat → L2.St → Hp → Prop) (h0 : Pv 0 σ H) (hl : ∀ i σ H, i ≤ xs.length → Pv i σ H → H a = some (.lst xs))
    (hs : ∀ i x σ H, xs[i]? = some x → Pv i σ H → g x σ H fun σ2 H2 => tb { D with nx := Pv (i + 1), ct := Pv (i + 1), bk := D.nx } σ2 H2) (hd : ∀ σ H, Pv xs.length σ H → D.nx σ H) :
    ∃ b, V.ref a = .ref b ∧ (∃ xs, SqL K H b xs) ∧ ∃ W : Nat → Nat → L2.St → Hp → Prop, (∃ m, W 0 m σ H) ∧ ∀ i m σ H, W i m σ H →
      ((Itl K b).stop i H ∧ D.nx σ H) ∨ ((Itl K b).go i H ∧ ∃ N : L2.St → Hp → Prop, (∀ σ' H', N σ' H' → ∃ m', m' < m ∧ W (i + 1) m' σ' H') ∧ ∀ x H', (Itl K b).yld i H x H' → g x σ H' fun σ2 H2 => tb { D with nx := N, ct := N, bk := D.nx } σ2 H2) :=
  r_forS (SqL.of hx) Pv h0 (fun i σ H h1 h2 => SqL.of (hl i σ H h1 h2)) hs hd
/-- for k in range(n) -/
theorem r_forR {n : Int} (h1 : -4611686018427387904 ≤ n) (h2 : n < 4611686018427387904) (Pv : Nat → L2.St → Hp → Prop) (h0 : Pv 0 σ H)
    (hs : ∀ i σ H, i < n.toNat → Pv i σ H → g (.int i) σ H fun σ2 H2 => tb { D with nx := Pv (i + 1), ct := Pv (i + 1), bk := D.nx } σ2 H2) (hd : ∀ σ H, Pv n.toNat σ H → D.nx σ H) :
    ∃ j : Int, [V.int n] = [.int j] ∧ -(2 ^ 62) ≤ j ∧ j < 2 ^ 62 ∧ ∃ W : Nat → Nat → L2.St → Hp → Prop, (∃ m, W 0 m σ H) ∧ ∀ i m σ H, W i m σ H →
      ((Itr 0 j.toNat).stop i H ∧ D.nx σ H) ∨ ((Itr 0 j.toNat).go i H ∧ ∃ N : L2.St → Hp → Prop, (∀ σ' H', N σ' H' → ∃ m', m' < m ∧ W (i + 1) m' σ' H') ∧ ∀ x H', (Itr 0 j.toNat).yld i H x H' → g x σ H' fun σ2 H2 => tb { D with nx := N, ct := N, bk := D.nx } σ2 H2) :=
  ⟨n, rfl, h1, h2, for_range Pv h0 (fun i σ H hi hp => by rw [Int.zero_add]; exact hs i σ H hi hp) hd⟩
end
theorem size_nil : ([] : List V).length ≤ sizeLine := Nat.zero_le _
theorem size_le {xs : List V} {n : Nat} (e : xs.length = n) (h : n ≤ 1000) : xs.length ≤ sizeLine := by rw [e]; exact Nat.le_of_lt (small (by omega))
end Lw
namespace Lw
open PySem PySem.Spec PyProof.Rows L2
/-! ### what lies above the growing heap -/
structure TopOk {S : Type} (F : S → Hp → Hp) (ok : S → Hp → Prop) : Prop where
  new : ∀ s C p, ok s C → F s C p = none → C p = none ∧ ∀ o, upd (F s C) p o = F s (upd C p o) ∧ ok s (upd C p o)
  write : ∀ s C b o o', ok s C → C b = some o' → upd (F s C) b o = F s (upd C b o) ∧ ok s (upd C b o)
  get : ∀ s C a o, ok s C → C a = some o → F s C a = some o
theorem topRg (st g : Addr) : TopOk (rg st g) (Ok st g) where
  new := fun R C p k h => by
    obtain ⟨h1, h2, h3⟩ := rg_none h
    exact ⟨h3, fun o => ⟨rg_upd h1 h2, k.upd h1 h2⟩⟩
  write := fun R C b o o' k h => rg_write k h
  get := fun R C a o k h => rg_get k h
theorem topH : TopOk (fun (_ : Unit) (C : Hp) => C) (fun _ _ => True) where
  new := fun _ C p _ h => ⟨h, fun o => ⟨rfl, trivial⟩⟩
  write := fun _ C b o o' _ h => ⟨rfl, trivial⟩
  get := fun _ C a o _ h => h
section
variable {S : Type} {F : S → Hp → Hp} {ok : S → Hp → Prop} (T : TopOk F ok)
include T
theorem newT {s : S} {C : Hp} {o : HO} {Q : Addr → Hp → Prop} (k : ok s C) (h : ∀ p, C p = none → ok s (upd C p o) → Q p (F s (upd C p o))) : ∀ p, F s C p = none → Q p (upd (F s C) p o) := fun p hp => by
  obtain ⟨h1, h2⟩ := T.new s C p k hp
  rw [(h2 o).1]
  exact h p h1 (h2 o).2
/-- a new object below a list that is under way -/
theorem newTD {s : S} {C : Hp} {D : Addr} {x o : HO} {Q : Addr → Hp → Prop} (k : ok s (upd C D x)) (hD : C D = none)
    (h : ∀ p, C p = none → p ≠ D → ok s (upd (upd C p o) D x) → (upd C p o) D = none → Q p (F s (upd (upd C p o) D x))) : ∀ p, F s (upd C D x) p = none → Q p (upd (F s (upd C D x)) p o) := fun p hp => by
  obtain ⟨h1, h2⟩ := T.new s (upd C D x) p k hp
  obtain ⟨h3, h4⟩ := upd_none h1
  have e := h2 o
  rw [upd_comm h3.symm] at e
  rw [e.1]
  exact h p h4 h3 e.2 (by rw [upd_ne h3.symm]; exact hD)
/-- what a turn of a comprehension is to reach -/
def LcN (F : S → Hp → Hp) (ok : S → Hp → Prop) (B : Hp) (D : Addr) (Pv : Hp → List V → Prop) : Hp → Prop := fun H' => ∃ s C acc, H' = F s (upd C D (.lst acc)) ∧ ok s (upd C D (.lst acc)) ∧ C D = none ∧ Same B C ∧ Pv C acc
omit T in
theorem lcN_skip {s : S} {B C : Hp} {D : Addr} {acc : List V} {Pv : Hp → List V → Prop} (k : ok s (upd C D (.lst acc))) (hD : C D = none) (hS : Same B C) (h : Pv C acc) : LcN F ok B D Pv (F s (upd C D (.lst acc))) := ⟨s, C, acc, rfl, k, hD, hS, h⟩
theorem lcN_put {s : S} {B C : Hp} {D : Addr} {acc : List V} {y : V} {Pv : Hp → List V → Prop} (k : ok s (upd C D (.lst acc))) (hD : C D = none) (hS : Same B C) (hz : acc.length ≤ 100000) (h : Pv C (acc ++ [y])) :
    ∃ acc', (F s (upd C D (.lst acc))) D = some (.lst acc') ∧ acc'.length < sizeLine ∧ LcN F ok B D Pv (upd (F s (upd C D (.lst acc))) D (.lst (acc' ++ [y]))) := by
  obtain ⟨e1, e2⟩ := T.write s _ D (.lst (acc ++ [y])) (.lst acc) k upd_same
  rw [upd_upd] at e1 e2
  exact ⟨acc, T.get _ _ _ _ k upd_same, small hz, s, C, acc ++ [y], e1, e2, hD, hS, h⟩
variable {σ : L2.St} {g : TG} {tt : TT} {te : TE} {vs : List Nat} {Q : Addr → Hp → Prop}
theorem lcT_range {s0 : S} {B : Hp} (k : ok s0 B) {n : Int} (h1 : -4611686018427387904 ≤ n) (h2 : n < 4611686018427387904) (Pv : Nat → Hp → List V → Prop) (h0 : Pv 0 B [])
    (hs : ∀ D i s C acc, ok s (upd C D (.lst acc)) → C D = none → Same B C → i < n.toNat → Pv i C acc → g (.int i) (wipe σ vs) (F s (upd C D (.lst acc))) fun σ2 H2 => wipe σ2 vs = wipe σ vs ∧ tt σ2 H2 fun b H3 =>
      if b = true then te σ2 H3 fun y H4 => ∃ acc', H4 D = some (.lst acc') ∧ acc'.length < sizeLine ∧ LcN F ok B D (Pv (i + 1)) (upd H4 D (.lst (acc' ++ [y]))) else LcN F ok B D (Pv (i + 1)) H3)
    (hd : ∀ D s C acc, ok s (upd C D (.lst acc)) → B D = none → C D = none → Same B C → Pv n.toNat C acc → Q D (F s (upd C D (.lst acc)))) :
    ∃ j : Int, [V.int n] = [.int j] ∧ -(2 ^ 62) ≤ j ∧ j < 2 ^ 62 ∧ ∀ D, (F s0 B) D = none → ∃ W : Nat → Nat → Hp → Prop, (∃ m, W 0 m (upd (F s0 B) D (.lst []))) ∧ ∀ i m H, W i m H →
      ((Itr 0 j.toNat).stop i H ∧ Q D H) ∨ ((Itr 0 j.toNat).go i H ∧ ∃ Nx : Hp → Prop, (∀ H', Nx H' → ∃ m', m' < m ∧ W (i + 1) m' H') ∧ ∀ x H', (Itr 0 j.toNat).yld i H x H' → g x (wipe σ vs) H' fun σ2 H2 => wipe σ2 vs = wipe σ vs ∧ tt σ2 H2 fun b H3 =>
        if b = true then te σ2 H3 fun y H4 => ∃ acc, H4 D = some (.lst acc) ∧ acc.length < sizeLine ∧ Nx (upd H4 D (.lst (acc ++ [y]))) else Nx H3) := by
  refine ⟨n, rfl, h1, h2, fun D hD => ?_⟩
  obtain ⟨hB, hn⟩ := T.new s0 B D k hD
  refine lc_range (fun i H => LcN F ok B D (Pv i) H) ?_ ?_ ?_
  · rw [(hn _).1]
    exact ⟨s0, B, [], rfl, (hn _).2, hB, Same.refl B, h0⟩
  · rintro i H hi ⟨s, C, acc, rfl, k', hD', hS, hp⟩
    rw [Int.zero_add]
    exact hs D i s C acc k' hD' hS hi hp
  · rintro H ⟨s, C, acc, rfl, k', hD', hS, hp⟩
    exact hd D s C acc k' hB hD' hS hp
theorem lcT_list {K : PySem.W.Frag} {s0 : S} {B : Hp} (k : ok s0 B) {a : Addr} {xs : List V} (ha : B a = some (.lst xs)) (Pv : Nat → Hp → List V → Prop) (h0 : Pv 0 B [])
    (hs : ∀ D i x s C acc, ok s (upd C D (.lst acc)) → C D = none → Same B C → xs[i]? = some x → Pv i C acc → g x (wipe σ vs) (F s (upd C D (.lst acc))) fun σ2 H2 => wipe σ2 vs = wipe σ vs ∧ tt σ2 H2 fun b H3 =>
      if b = true then te σ2 H3 fun y H4 => ∃ acc', H4 D = some (.lst acc') ∧ acc'.length < sizeLine ∧ LcN F ok B D (Pv (i + 1)) (upd H4 D (.lst (acc' ++ [y]))) else LcN F ok B D (Pv (i + 1)) H3)
    (hd : ∀ D s C acc, ok s (upd C D (.lst acc)) → B D = none → C D = none → Same B C → Pv xs.length C acc → Q D (F s (upd C D (.lst acc)))) :
    ∃ b, V.ref a = .ref b ∧ (∃ xs, SqL K (F s0 B) b xs) ∧ ∀ D, (F s0 B) D = none → ∃ W : Nat → Nat → Hp → Prop, (∃ m, W 0 m (upd (F s0 B) D (.lst []))) ∧ ∀ i m H, W i m H →
      ((Itl K b).stop i H ∧ Q D H) ∨ ((Itl K b).go i H ∧ ∃ Nx : Hp → Prop, (∀ H', Nx H' → ∃ m', m' < m ∧ W (i + 1) m' H') ∧ ∀ x H', (Itl K b).yld i H x H' → g x (wipe σ vs) H' fun σ2 H2 => wipe σ2 vs = wipe σ vs ∧ tt σ2 H2 fun b H3 =>
        if b = true then te σ2 H3 fun y H4 => ∃ acc, H4 D = some (.lst acc) ∧ acc.length < sizeLine ∧ Nx (upd H4 D (.lst (acc ++ [y]))) else Nx H3) := by
  refine ⟨a, rfl, ⟨xs, SqL.of (T.get _ _ _ _ k ha)⟩, fun D hD => ?_⟩
  obtain ⟨hB, hn⟩ := T.new s0 B D k hD
  refine lc_list (xs := xs) (fun i H => LcN F ok B D (Pv i) H) ?_ ?_ ?_ ?_
  · rw [(hn _).1]
    exact ⟨s0, B, [], rfl, (hn _).2, hB, Same.refl B, h0⟩
  · rintro i H _ ⟨s, C, acc, rfl, k', hD', hS, hp⟩
    exact SqL.of (T.get _ _ _ _ k' (upd_old hD' (hS _ _ ha)))
  · rintro i x H hx ⟨s, C, acc, rfl, k', hD', hS, hp⟩
    exact hs D i x s C acc k' hD' hS hx hp
  · rintro H ⟨s, C, acc, rfl, k', hD', hS, hp⟩
    exact hd D s C acc k' hB hD' hS hp
end
section
variable {σ : L2.St} {H : Hp} {Q : VK}
theorem r_lc {wi : TI} {g : TG} {tt : TT} {te : TE} {vs : List Nat} (h : wi σ H fun J H1 => ∀ D, H1 D = none → ∃ W : Nat → Nat → Hp → Prop, (∃ m, W 0 m (upd H1 D (.lst []))) ∧ ∀ i m H, W i m H →
  (J.stop i H ∧ Q (.ref D) H) ∨ (J.go i H ∧ ∃ Nx : Hp → Prop, (∀ H', Nx H' → ∃ m', m' < m ∧ W (i + 1) m' H') ∧ ∀ x H', J.yld i H x H' → g x (wipe σ vs) H' fun σ2 H2 => wipe σ2 vs = wipe σ vs ∧ tt σ2 H2 fun b H3 =>
    if b = true then te σ2 H3 fun y H4 => ∃ acc, H4 D = some (.lst acc) ∧ acc.length < sizeLine ∧ Nx (upd H4 D (.lst (acc ++ [y]))) else Nx H3)) : tLc wi g tt te vs σ H Q := h
theorem r_yes {q : Bool → Hp → Prop} (h : q true H) : tYes σ H q := h
end
/-! ### rows of ints -/
def Rw (C : Hp) (as : List Addr) (rs : List (List Int)) : Prop := as.length = rs.length ∧ ∀ (i : Nat) (b : Addr), as[i]? = some b → ∃ r, rs[i]? = some r ∧ C b = some (.lst (r.map V.int))
theorem Rw.nil {C : Hp} : Rw C [] [] := ⟨rfl, fun i b h => by simp at h⟩
theorem Rw.mono {C C' : Hp} {as : List Addr} {rs : List (List Int)} (h : Rw C as rs) (s : Same C C') : Rw C' as rs :=
  ⟨h.1, fun i b e => by obtain ⟨r, h1, h2⟩ := h.2 i b e; exact ⟨r, h1, s _ _ h2⟩⟩
theorem Rw.push {C : Hp} {as : List Addr} {rs : List (List Int)} {b : Addr} {r : List Int} (h : Rw C as rs) (e : C b = some (.lst (r.map V.int))) : Rw C (as ++ [b]) (rs ++ [r]) := by
  refine ⟨by rw [List.length_append, List.length_append, h.1]; rfl, fun i c hc => ?_⟩
  by_cases hi : i < as.length
  · rw [List.getElem?_append_left hi] at hc
    obtain ⟨r', h1, h2⟩ := h.2 i c hc
    exact ⟨r', by rw [List.getElem?_append_left (by rw [← h.1]; exact hi)]; exact h1, h2⟩
  · have h3 := (List.getElem?_eq_some_iff.mp hc).1
    rw [List.length_append, List.length_singleton] at h3
    have e2 : i = as.length := by omega
    rw [e2, List.getElem?_append_right (Nat.le_refl _), Nat.sub_self] at hc
    have e3 : b = c := Option.some.inj hc
    refine ⟨r, ?_, e3 ▸ e⟩
    rw [e2, h.1, List.getElem?_append_right (Nat.le_refl _), Nat.sub_self]; rfl
theorem Rw.set {C : Hp} {as : List Addr} {rs : List (List Int)} {b : Addr} {r : List Int} (h : Rw C as rs) (j : Nat) (e : C b = some (.lst (r.map V.int))) : Rw C (as.set j b) (rs.set j r) := by
  refine ⟨by rw [List.length_set, List.length_set, h.1], fun i c hc => ?_⟩
  rw [List.getElem?_set] at hc
  split at hc
  · rename_i hj
    split at hc
    · rename_i hl
      refine ⟨r, ?_, (Option.some.inj hc) ▸ e⟩
      rw [List.getElem?_set, if_pos hj, if_pos (by rw [← h.1]; exact hl)]
    · cases hc
  · rename_i hj
    obtain ⟨r', h1, h2⟩ := h.2 i c hc
    exact ⟨r', by rw [List.getElem?_set, if_neg hj]; exact h1, h2⟩
/-- a row of places below n, at most L of them, each once -/
def Gd (n : Int) (L : Nat) (r : List Int) : Prop := r.length ≤ L ∧ r.Nodup ∧ ∀ e ∈ r, 0 ≤ e ∧ e < n
def Wf (n L : Nat) (rs : List (List Int)) : Prop := rs.length = n ∧ ∀ r ∈ rs, Gd (n : Int) L r
end Lw
namespace Lw
open PySem PySem.Spec PyProof.Rows L2
/-- a list that was made (y at D2) below one that is under way (x at D1) -/
theorem under {C1 C2 : Hp} {D1 D2 : Addr} {x y : HO} (h1 : C1 D1 = none) (h2 : (upd C1 D1 x) D2 = none) (hS : Same (upd C1 D1 x) C2) :
    ∃ C3, upd C2 D2 y = upd C3 D1 x ∧ C3 D1 = none ∧ Same C1 C3 ∧ C3 D2 = some y ∧ C1 D2 = none ∧ D2 ≠ D1 := by
  obtain ⟨n1, n2⟩ := upd_none h2
  obtain ⟨C3, e, e1, e2⟩ := lay_same h1 hS
  refine ⟨upd C3 D2 y, ?_, by rw [upd_ne n1.symm]; exact e1, fun b o hb => ?_, upd_same, n2, n1⟩
  · rw [e, upd_comm n1.symm]
  · rw [upd_ne (ne_of_none hb n2)]; exact e2 _ _ hb
theorem ints_push (r : List Int) (z : Int) : r.map V.int ++ [.int z] = (r ++ [z]).map V.int := by rw [List.map_append]; rfl
theorem refs_push (r : List Addr) (z : Addr) : r.map V.ref ++ [.ref z] = (r ++ [z]).map V.ref := by rw [List.map_append]; rfl
theorem wf_push {n : Int} {L : Nat} {rs : List (List Int)} {r : List Int} (h : ∀ r ∈ rs, Gd n L r) (h1 : Gd n L r) : ∀ r' ∈ rs ++ [r], Gd n L r' := fun r' hr => by
  rcases List.mem_append.mp hr with e | e
  · exact h r' e
  · rw [List.mem_singleton.mp e]; exact h1
/-- a row that is grown by something greater -/
def Up (n : Int) (j : Nat) (r : List Int) : Prop := r.length ≤ j ∧ r.Nodup ∧ (∀ e ∈ r, 0 ≤ e ∧ e < n) ∧ ∀ e ∈ r, e < (j : Int)
theorem Up.nil {n : Int} : Up n 0 [] := ⟨Nat.le_refl _, List.nodup_nil, (fun e he => nomatch he), (fun e he => nomatch he)⟩
theorem Up.skip {n : Int} {j : Nat} {r : List Int} (h : Up n j r) : Up n (j + 1) r := ⟨by have := h.1; omega, h.2.1, h.2.2.1, fun e he => by have := h.2.2.2 e he; omega⟩
theorem nodup_push {α : Type} {r : List α} {z : α} (h : r.Nodup) (hz : z ∉ r) : (r ++ [z]).Nodup := by
  rw [List.nodup_append]
  exact ⟨h, by simp, fun a ha b hb e => hz (by rw [← List.mem_singleton.mp hb, ← e]; exact ha)⟩
theorem Up.push {n : Int} {j : Nat} {r : List Int} (h : Up n j r) (hj : (j : Int) < n) : Up n (j + 1) (r ++ [(j : Int)]) := by
  refine ⟨by rw [List.length_append, List.length_singleton]; have := h.1; omega, nodup_push h.2.1 fun hm => ?_, fun e he => ?_, fun e he => ?_⟩
  · have := h.2.2.2 _ hm; omega
  · rcases List.mem_append.mp he with q | q
    · exact h.2.2.1 e q
    · rw [List.mem_singleton.mp q]; omega
  · rcases List.mem_append.mp he with q | q
    · have := h.2.2.2 e q; omega
    · rw [List.mem_singleton.mp q]; omega
theorem Up.gd {n : Int} {j L : Nat} {r : List Int} (h : Up n j r) (hj : j ≤ L) : Gd n L r := ⟨by have := h.1; omega, h.2.1, h.2.2.1⟩
theorem Gd.weak {n : Int} {L L' : Nat} {r : List Int} (h : Gd n L r) (hl : L ≤ L') : Gd n L' r := ⟨Nat.le_trans h.1 hl, h.2⟩
theorem all_push {P : Int → Prop} {r : List Int} {z : Int} (h : ∀ e ∈ r, P e) (hz : P z) : ∀ e ∈ r ++ [z], P e := fun e he => by
  rcases List.mem_append.mp he with q | q
  · exact h e q
  · rw [List.mem_singleton.mp q]; exact hz
end Lw
namespace Lw
open PySem PySem.Spec PyProof.Rows L2
section
variable {S : Type} {F : S → Hp → Hp} {ok : S → Hp → Prop} (T : TopOk F ok)
include T
theorem newT_eq {s : S} {C : Hp} {p : Addr} (k : ok s C) (hp : F s C p = none) (o : HO) : upd (F s C) p o = F s (upd C p o) ∧ ok s (upd C p o) ∧ C p = none := by
  obtain ⟨h1, h2⟩ := T.new s C p k hp
  exact ⟨(h2 o).1, (h2 o).2, h1⟩
theorem newTD_eq {s : S} {C : Hp} {D p : Addr} {x : HO} (k : ok s (upd C D x)) (hD : C D = none) (hp : F s (upd C D x) p = none) (o : HO) :
    upd (F s (upd C D x)) p o = F s (upd (upd C p o) D x) ∧ ok s (upd (upd C p o) D x) ∧ (upd C p o) D = none ∧ C p = none ∧ p ≠ D := by
  obtain ⟨h1, h2⟩ := T.new s (upd C D x) p k hp
  obtain ⟨h3, h4⟩ := upd_none h1
  have e := h2 o
  rw [upd_comm h3.symm] at e
  exact ⟨e.1, e.2, by rw [upd_ne h3.symm]; exact hD, h4, h3⟩
theorem setTD_eq {s : S} {C : Hp} {D : Addr} {x : HO} (k : ok s (upd C D x)) (y : HO) : upd (F s (upd C D x)) D y = F s (upd C D y) ∧ ok s (upd C D y) := by
  have e := T.write s _ D y x k upd_same
  rw [upd_upd] at e
  exact e
end
theorem refsSet (l : List Addr) (j : Nat) (x : Addr) : (l.map V.ref).set j (.ref x) = (l.set j x).map V.ref := by rw [List.map_set]
theorem refsRev (l : List Addr) : (l.map V.ref).reverse = l.reverse.map V.ref := by rw [List.map_reverse]
theorem Rw.rev {C : Hp} {as : List Addr} {rs : List (List Int)} (h : Rw C as rs) : Rw C as.reverse rs.reverse := by
  refine ⟨by rw [List.length_reverse, List.length_reverse, h.1], fun i b e => ?_⟩
  have hi := (List.getElem?_eq_some_iff.mp e).1
  rw [List.length_reverse] at hi
  rw [List.getElem?_reverse hi] at e
  obtain ⟨r, h1, h2⟩ := h.2 _ b e
  exact ⟨r, by rw [List.getElem?_reverse (by rw [← h.1]; exact hi), ← h.1]; exact h1, h2⟩
theorem Rw.at {C : Hp} {as : List Addr} {rs : List (List Int)} {i : Nat} {x : V} (h : Rw C as rs) (e : (as.map V.ref)[i]? = some x) : ∃ b r, x = .ref b ∧ as[i]? = some b ∧ rs[i]? = some r ∧ C b = some (.lst (r.map V.int)) := by
  rw [List.getElem?_map] at e
  cases q : as[i]? with
  | none => rw [q] at e; cases e
  | some b =>
    rw [q] at e
    obtain ⟨r, h1, h2⟩ := h.2 i b q
    exact ⟨b, r, (Option.some.inj e).symm, rfl, h1, h2⟩
theorem ints_at {r : List Int} {i : Nat} {x : V} (e : (r.map V.int)[i]? = some x) : ∃ z, x = .int z ∧ r[i]? = some z := by
  rw [List.getElem?_map] at e
  cases q : r[i]? with
  | none => rw [q] at e; cases e
  | some z => rw [q] at e; exact ⟨z, (Option.some.inj e).symm, rfl⟩
theorem r_revL {K : PySem.W.Frag} {σ : L2.St} {H : Hp} {Q : VK} {te : TE} (h : te σ H fun x H1 => ∃ a xs, x = .ref a ∧ SqL K H1 a xs ∧ ∀ p, H1 p = none → Q (.ref p) (upd H1 p (.lst xs.reverse))) : tRevL K te σ H Q := h
theorem r_isrev {K : PySem.W.Frag} {H : Hp} {a : Addr} {xs : List V} {q : List V → Prop} (h : H a = some (.lst xs)) (hq : q xs) : ∃ b ys, V.ref a = .ref b ∧ SqL K H b ys ∧ q ys := ⟨a, xs, rfl, SqL.of h, hq⟩
end Lw
namespace Lw
open PySem PySem.Spec PyProof.Rows L2
/-! ### the rules with the written part named (so that they stand within a comprehension's block) -/
section
variable {X : Cx} {K : PySem.W.Frag} {tg : Expr}
theorem pi_listK (h : X.K = K) {l : Expr} {tl : TE} (hl : PE X l tl) : PI X tg l (iList K tl) := by subst h; exact pi_list hl
theorem pi_tupK (h : X.K = K) {l : Expr} {tl : TE} (hl : PE X l tl) : PI X tg l (iTup K tl) := by subst h; exact pi_tup hl
theorem pi_enumK (h : X.K = K) {e : Expr} {ta : TA} {p pos tpos : Pos} {elts : List Expr} {kk : Nat} (hg : Gl X "enumerate") (hm : X.mg "enumerate" = none) (ha : PA X [e] ta) (hs : starEach [e] X.env = [(false, eval e X.env)] := by rfl) :
    PI X (.Tuple elts kk tpos) (.Call (.Name "enumerate" p) [e] [] pos) (iEnum K ta) := by subst h; exact pi_enum hg hm ha hs
theorem pi_zipK (h : X.K = K) {e e2 : Expr} {ta : TA} {p pos tpos : Pos} {elts : List Expr} {kk : Nat} (hg : Gl X "zip") (hm : X.mg "zip" = none) (ha : PA X [e, e2] ta)
    (hs : starEach [e, e2] X.env = (false, eval e X.env) :: starEach [e2] X.env := by rfl) (hpl : (backTo pos (starEach [e2] X.env)).any (·.1) = false := by rfl) :
    PI X (.Tuple elts kk tpos) (.Call (.Name "zip" p) [e, e2] [] pos) (iZip K ta) := by subst h; exact pi_zip hg hm ha hs hpl
theorem pi_reversedK (h : X.K = K) {e : Expr} {ta : TA} {p pos : Pos} (hg : Gl X "reversed") (hm : X.mg "reversed" = none) (ha : PA X [e] ta) (hs : starEach [e] X.env = [(false, eval e X.env)] := by rfl) : PI X tg (.Call (.Name "reversed" p) [e] [] pos) (iRev K ta) := by subst h; exact pi_reversed hg hm ha hs
theorem ix_listK (h : X.K = K) : IxR X (rIxL K) := by subst h; exact ix_list
theorem ix_tupK (h : X.K = K) : IxR X (rIxT K) := by subst h; exact ix_tup
theorem sl_listK (h : X.K = K) : SlR X (rSlL K) := by subst h; exact sl_list
theorem sl_tupK (h : X.K = K) : SlR X (rSlT K) := by subst h; exact sl_tup
theorem op_in_seqK (h : X.K = K) : OpR X (compareOp .In) (rIn K false) := by subst h; exact op_in_seq
theorem op_notIn_seqK (h : X.K = K) : OpR X (compareOp .NotIn) (rIn K true) := by subst h; exact op_notIn_seq
theorem op_eqDK (h : X.K = K) (hu : X.A.units + 64 < cLine) : OpR X (compareOp .Eq) (rEqD K) := by subst h; exact op_eqD hu
theorem op_neDK (h : X.K = K) (hu : X.A.units + 64 < cLine) : OpR X (compareOp .NotEq) (rNeD K) := by subst h; exact op_neD hu
theorem op_catTK (h : X.K = K) : OpR X (binaryOp .Add) (rCatT K) := by subst h; exact op_catT
def rLen (K : PySem.W.Frag) : List V → Hp → VK → Prop := fun xs H Q => ∃ p ys, xs = [V.ref p] ∧ (SqL K H p ys ∨ SqT K H p ys) ∧ Q (.int ys.length) H
theorem call_len_seqK (h : X.K = K) : CallR X (.builtin "len") (rLen K) := by subst h; exact call_len_seq
def rListOf (K : PySem.W.Frag) : List V → Hp → VK → Prop := fun xs H Q => ∃ p ys, xs = [V.ref p] ∧ (SqL K H p ys ∨ SqT K H p ys) ∧ ∀ l, H l = none → Q (.ref l) (upd H l (.lst ys))
theorem call_list_ofK (h : X.K = K) : CallR X (.type "list") (rListOf K) := by subst h; exact call_list_of
theorem cr_sumK (h : X.K = K) (hc : X.calm = true) : CallR X (.builtin "sum") (rSum K) := by subst h; exact cr_sum hc
theorem cr_maxK (h : X.K = K) (hc : X.calm = true) : CallR X (.builtin "max") (rMax K) := by subst h; exact cr_max hc
theorem cr_minK (h : X.K = K) (hc : X.calm = true) : CallR X (.builtin "min") (rMin K) := by subst h; exact cr_min hc
theorem cr_sortedK (h : X.K = K) : CallR X (.builtin "sorted") (rSortedI K) := by subst h; exact cr_sortedI
theorem cr_sortedSK (h : X.K = K) : CallR X (.builtin "sorted") (rSortedS K) := by subst h; exact cr_sortedS
theorem cr_anyK (h : X.K = K) (hc : X.calm = true) : CallR X (.builtin "any") (rAny K) := by subst h; exact cr_any hc
theorem cr_allK (h : X.K = K) (hc : X.calm = true) : CallR X (.builtin "all") (rAll K) := by subst h; exact cr_all hc
theorem call_isiK' (h : X.K = K) : CallR X (.builtin "isinstance") (rIsi K) := by subst h; exact call_isi
theorem mt_indexK (h : X.K = K) : MtR X "list.index" (rIndex K) := by subst h; exact mt_index
def rInsert : V → List V → Hp → VK → Prop := fun x vs H Q => ∃ (l : Addr) (xs : List V) (i : Int) (y : V), x = .ref l ∧ vs = [.int i, y] ∧ H l = some (.lst xs) ∧ xs.length < sizeLine ∧ 0 ≤ i ∧ i < 2 ^ 63 ∧
    Q .non (upd H l (.lst (xs.take i.toNat ++ [y] ++ xs.drop i.toNat)))
theorem mt_insert' : MtR X "list.insert" rInsert := mt_insert
theorem pg_tupK (h : X.K = K) {pos : Pos} {es : List Expr} {k : Nat} {t : TGs} {n : Nat} (hc : X.calm = true) (hp : PGs X es t)
    (hn : (assignEach es X.env).length = n := by rfl) (hst : (assignEach es X.env).findIdx? (·.1) = none := by rfl) : PG X (.Tuple es k pos) (gTup K n t) := by subst h; exact pg_tup hc hp hn hst
theorem pe_revLK (h : X.K = K) {e : Expr} {te : TE} {k : Nat} {p1 p2 p3 pos : Pos} (he : PE X e te) : PE X (.Subscript e (.Slice none none (some (.UnaryOp .USub (.Constant (.int 1) k p1) p2)) p3) pos) (tRevL K te) := by subst h; exact pe_revL he
theorem pt_truthK (h : X.K = K) {a : Expr} {ta : TE} (ha : PE X a ta) (he : ∀ whole, isTrue a X.env whole = (do let v ← whole; standAt a.pos; holding [v] (truthy v))) :
    PT X a (fun σ H Q => ta σ H fun x H1 => ∃ k, TruV K x H1 k ∧ Q k H1) := by subst h; exact pt_truth ha he
/-- xs[i] read for xs[i] op= e -/
theorem get_listK (h : X.K = K) : PGet X (rIxL K) := by
  subst h
  intro pins s σ H o i ov iv Q I rx ry h
  obtain ⟨p, xs, i, z, rfl, rfl, hq, he, q⟩ := h
  cases rx
  obtain ⟨t, rfl⟩ := ry
  obtain ⟨its, r, pl, hz⟩ := I.list hq
  obtain ⟨j, h1, h2, h3, h4, h5⟩ := atI_get he
  obtain ⟨w, ew, rw'⟩ := r.get h2
  have hl := r.length
  have hn := line63
  have fin : EP X pins σ Q w s := ⟨z, H, I, rw', q⟩
  by_cases h0 : 0 ≤ i
  · have hj : i.toNat = j := by
      rw [seqIndex_of h0 h5] at h1
      exact Option.some.inj h1
    exact wpAny_getItem_list pl.isList h0 (by omega) (by rw [hj]; simpa using ew) fin
  · have hj : (i + (its.toArray.size : Int)).toNat = j := by
      rw [seqIndex_neg (by omega) h4] at h1
      rw [List.size_toArray, ← hl]
      exact Option.some.inj h1
    exact wpAny_getItem_list_neg pl.isList (by omega) (by rw [List.size_toArray] <;> omega) (by omega) (by rw [hj]; simpa using ew) fin
theorem pe_bm0K (h : X.K = K) {o : Expr} {to : TE} {name : Str} {apos cpos : Pos} {T id : String} {r : V → List V → Hp → VK → Prop} (pa : PlainAttrs T) (slot : Slot T name id) (hty : typeOf (.builtin id) = pure (.type "method_descriptor")) (hm : MtR X id r) (ho : PE X o to)
    (hbase : attributeBase o name X.env (eval o X.env) = eval o X.env := by rfl) (hline : (apos.endLine == cpos.line) = true := by rfl) : PE X (.Call (.Attribute o name apos) [] [] cpos) (tBM0 K T r to) := by subst h; exact pe_bm0 pa slot hty hm ho hbase hline
theorem pe_bmK (h : X.K = K) {o e : Expr} {es : List Expr} {to : TE} {t : TA} {name : Str} {apos cpos : Pos} {T id : String} {r : V → List V → Hp → VK → Prop} (pa : PlainAttrs T) (slot : Slot T name id) (hty : typeOf (.builtin id) = pure (.type "method_descriptor")) (hm : MtR X id r) (ho : PE X o to) (ha : PA X (e :: es) t)
    (hbase : attributeBase o name X.env (eval o X.env) = eval o X.env := by rfl)
    (hfew : ((backTo cpos (starEach (e :: es) X.env)).all (fun x => !x.1) && (backToKw cpos (keywordEach [] X.env)).all (fun x => x.1.isSome)
      && decide ((e :: es).length + ([] : List Keyword).length + (if ([] : List Keyword).isEmpty then 0 else 1) < 30)) = true := by rfl)
    (hline : (apos.endLine == cpos.line) = true := by rfl) (hs : starEach (e :: es) X.env = (false, eval e X.env) :: starEach es X.env := by rfl) (hplain : (backTo cpos (starEach es X.env)).any (·.1) = false := by rfl) :
    PE X (.Call (.Attribute o name apos) (e :: es) [] cpos) (tBM K T r to t) := by subst h; exact pe_bm pa slot hty hm ho ha hbase hfew hline hs hplain
end
section
variable {K : PySem.W.Frag} {H : Hp} {Q : VK}
theorem r_lenK {a : Addr} {xs : List V} (h : H a = some (.lst xs)) (q : Q (.int xs.length) H) : rLen K [.ref a] H Q := ⟨a, xs, rfl, .inl (SqL.of h), q⟩
theorem r_lenT {a : Addr} {xs : List V} (h : H a = some (.tup xs)) (q : Q (.int xs.length) H) : rLen K [.ref a] H Q := ⟨a, xs, rfl, .inr (SqT.of h), q⟩
theorem r_listOf {a : Addr} {xs : List V} (h : H a = some (.lst xs)) (q : ∀ l, H l = none → Q (.ref l) (upd H l (.lst xs))) : rListOf K [.ref a] H Q := ⟨a, xs, rfl, .inl (SqL.of h), q⟩
theorem r_sortedI {a : Addr} {ns : List Int} (h : H a = some (.lst (ns.map V.int))) (q : ∀ (ns' : List Int) (p : Addr), ns'.Perm ns → ns'.Pairwise (· ≤ ·) → H p = none → Q (.ref p) (upd H p (.lst (ns'.map V.int)))) : rSortedI K [.ref a] H Q := ⟨a, ns, rfl, SqL.of h, q⟩
theorem r_sum {a : Addr} {ns : List Int} (h : H a = some (.lst (ns.map V.int))) (q : Q (.int ns.sum) H) : rSum K [.ref a] H Q := ⟨a, ns, rfl, SqL.of h, q⟩
theorem r_insert {l : Addr} {xs : List V} {i : Int} {y : V} (h : H l = some (.lst xs)) (hz : xs.length < sizeLine) (h0 : 0 ≤ i) (h1 : i < 9223372036854775808) (q : Q .non (upd H l (.lst (xs.take i.toNat ++ [y] ++ xs.drop i.toNat)))) : rInsert (.ref l) [.int i, y] H Q := ⟨l, xs, i, y, rfl, rfl, h, hz, h0, h1, q⟩
end
end Lw
namespace Lw
theorem nodup_le1 {α : Type} {r : List α} (h : r.length ≤ 1) : r.Nodup := by
  match r, h with
  | [], _ => exact List.nodup_nil
  | [x], _ => simp
theorem nodup_of_map {α β : Type} {f : α → β} {l : List α} (h : (l.map f).Nodup) : l.Nodup := by
  induction l with
  | nil => exact List.nodup_nil
  | cons a r ih =>
    rw [List.map_cons, List.nodup_cons] at h
    exact List.nodup_cons.mpr ⟨fun hm => h.1 (List.mem_map.mpr ⟨a, hm, rfl⟩), ih h.2⟩
theorem nodup_map {α β : Type} {f : α → β} (hf : ∀ x y, f x = f y → x = y) {l : List α} (h : l.Nodup) : (l.map f).Nodup := by
  induction l with
  | nil => exact List.nodup_nil
  | cons a r ih =>
    rw [List.nodup_cons] at h
    rw [List.map_cons, List.nodup_cons]
    refine ⟨fun hm => ?_, ih h.2⟩
    obtain ⟨b, hb, e⟩ := List.mem_map.mp hm
    exact h.1 (hf _ _ e ▸ hb)
theorem nodup_lt {l : List Int} (h : l.Pairwise (· < ·)) : l.Nodup := h.imp fun {a b} q => Int.ne_of_lt q
theorem nodup_take {α : Type} {l : List α} (n : Nat) (h : l.Nodup) : (l.take n).Nodup := h.sublist (List.take_sublist n l)
end Lw
/-! lists of ints and lists of lists of ints as data, for == -/
namespace Lw
open PySem PySem.Spec PyProof.Rows L2
def dI (xs : List Int) : PyData := .list (xs.map PyData.int)
def dR (rs : List (List Int)) : PyData := .list (rs.map dI)
section
variable {K : PySem.W.Frag} {H : Hp}
theorem dpAllI : ∀ xs : List Int, DpAll K H (xs.map V.int) (xs.map PyData.int)
  | [] => .nil
  | x :: r => .cons (.int x) (dpAllI r)
theorem dpI {a : Addr} {xs : List Int} (h : H a = some (.lst (xs.map V.int))) : Dp K H (.ref a) (dI xs) := .lst (SqL.of h) (dpAllI xs)
theorem dpAllR : ∀ {as : List Addr} {rs : List (List Int)}, Rw H as rs → DpAll K H (as.map V.ref) (rs.map dI)
  | [], [], _ => .nil
  | [], _ :: _, h => by have := h.1; simp at this
  | _ :: _, [], h => by have := h.1; simp at this
  | a :: as, r :: rs, h => by
    obtain ⟨r', h1, h2⟩ := h.2 0 a rfl
    have e : r = r' := Option.some.inj h1
    refine .cons (dpI (by rw [e]; exact h2)) (dpAllR ⟨by have := h.1; simpa using this, fun i b hb => ?_⟩)
    obtain ⟨r2, h3, h4⟩ := h.2 (i + 1) b hb
    exact ⟨r2, h3, h4⟩
theorem dpR {a : Addr} {as : List Addr} {rs : List (List Int)} (h : H a = some (.lst (as.map V.ref))) (hr : Rw H as rs) : Dp K H (.ref a) (dR rs) := .lst (SqL.of h) (dpAllR hr)
end
theorem layI : ∀ xs : List Int, PyData.canLayAll0 (xs.map PyData.int) = true
  | [] => rfl
  | x :: r => by
    show (true && PyData.canLayAll0 (r.map PyData.int)) = true
    rw [layI r]; rfl
theorem layR : ∀ rs : List (List Int), PyData.canLayAll0 (rs.map dI) = true
  | [] => rfl
  | x :: r => by
    show (PyData.canLay0 (dI x) && PyData.canLayAll0 (r.map dI)) = true
    rw [layR r]
    show (PyData.canLayAll0 (x.map PyData.int) && true) = true
    rw [layI x]; rfl
theorem eqI : ∀ xs ys : List Int, PyData.eqvAll (xs.map PyData.int) (ys.map PyData.int) = decide (xs = ys)
  | [], [] => by simp [PyData.eqvAll]
  | [], _ :: _ => by simp [PyData.eqvAll]
  | _ :: _, [] => by simp [PyData.eqvAll]
  | x :: xs, y :: ys => by
    rw [List.map_cons, List.map_cons, PyData.eqvAll, eqI xs ys, PyData.eqv]
    by_cases h : x = y <;> by_cases h2 : xs = ys <;> simp [h, h2]
theorem eqR : ∀ xs ys : List (List Int), PyData.eqvAll (xs.map dI) (ys.map dI) = decide (xs = ys)
  | [], [] => by simp [PyData.eqvAll]
  | [], _ :: _ => by simp [PyData.eqvAll]
  | _ :: _, [] => by simp [PyData.eqvAll]
  | x :: xs, y :: ys => by
    rw [List.map_cons, List.map_cons, PyData.eqvAll, eqR xs ys, show PyData.eqv (dI x) (dI y) = decide (x = y) from by unfold dI; rw [PyData.eqv, eqI]]
    by_cases h : x = y <;> by_cases h2 : xs = ys <;> simp [h, h2]
end Lw
namespace Lw
open PySem PySem.Spec PyProof.Rows L2
theorem depI : ∀ xs : List Int, PyData.depthAll (xs.map PyData.int) = 0
  | [] => by simp [PyData.depthAll]
  | x :: r => by rw [List.map_cons, PyData.depthAll, depI r, PyData.depth]; rfl
theorem depR : ∀ rs : List (List Int), PyData.depthAll (rs.map dI) ≤ 1
  | [] => by simp [PyData.depthAll]
  | x :: r => by
    rw [List.map_cons, PyData.depthAll, show PyData.depth (dI x) = 1 from by unfold dI; rw [PyData.depth, depI]]
    exact Nat.max_le.mpr ⟨Nat.le_refl 1, depR r⟩
theorem shI (xs : List Int) : SeqAt.shaped (dI xs) = true := by
  unfold SeqAt.shaped
  rw [show PyData.canLay0 (dI xs) = true from by unfold dI; rw [PyData.canLay0]; exact layI xs, show PyData.depth (dI xs) = 1 from by unfold dI; rw [PyData.depth, depI]]
  rfl
theorem shR (rs : List (List Int)) : SeqAt.shaped (dR rs) = true := by
  unfold SeqAt.shaped
  rw [show PyData.canLay0 (dR rs) = true from by unfold dR; rw [PyData.canLay0]; exact layR rs]
  have h : PyData.depth (dR rs) ≤ 64 := by unfold dR; rw [PyData.depth]; have := depR rs; omega
  rw [decide_eq_true h]; rfl
section
variable {K : PySem.W.Frag} {σ : L2.St} {H : Hp} {Q : VK} {D : Ends}
theorem r_eqI {a b : Addr} {xs ys : List Int} (h1 : H a = some (.lst (xs.map V.int))) (h2 : H b = some (.lst (ys.map V.int))) (q : Q (.bl (decide (xs = ys))) H) : rEqD K (.ref a) (.ref b) H Q :=
  ⟨dI xs, dI ys, dpI h1, dpI h2, shI xs, shI ys, by unfold dI; rw [PyData.eqv, eqI]; exact q⟩
theorem r_neI {a b : Addr} {xs ys : List Int} (h1 : H a = some (.lst (xs.map V.int))) (h2 : H b = some (.lst (ys.map V.int))) (q : Q (.bl (!decide (xs = ys))) H) : rNeD K (.ref a) (.ref b) H Q :=
  ⟨dI xs, dI ys, dpI h1, dpI h2, shI xs, shI ys, by unfold dI; rw [PyData.eqv, eqI]; exact q⟩
theorem r_eqR {a b : Addr} {as bs : List Addr} {xs ys : List (List Int)} (h1 : H a = some (.lst (as.map V.ref))) (h2 : H b = some (.lst (bs.map V.ref))) (r1 : Rw H as xs) (r2 : Rw H bs ys) (q : Q (.bl (decide (xs = ys))) H) : rEqD K (.ref a) (.ref b) H Q :=
  ⟨dR xs, dR ys, dpR h1 r1, dpR h2 r2, shR xs, shR ys, by unfold dR; rw [PyData.eqv, eqR]; exact q⟩
theorem r_while {c : TT} {tb : TS} (Pv : Nat → L2.St → Hp → Prop) (h0 : ∃ m, Pv m σ H) (hs : ∀ m σ H, Pv m σ H → c σ H fun b H1 => if b = true then ∃ N : L2.St → Hp → Prop, (∀ σ' H', N σ' H' → ∃ m', m' < m ∧ Pv m' σ' H') ∧ tb { D with nx := N, ct := N, bk := D.nx } σ H1 else D.nx σ H1) : tWhile c tb D σ H := ⟨Pv, h0, hs⟩
end
end Lw
/-! enumerate: loops and comprehensions; rows that are written -/
namespace Lw
open PySem PySem.Spec PyProof.Rows L2
section
variable {K : PySem.W.Frag} {σ : L2.St} {H : Hp} {D : Ends} {g : TG} {tb : TS}
theorem r_forE {a : Addr} {xs : List V} (hx : H a = some (.lst xs)) (Pv : Nat → L2.St → Hp → Prop) (h0 : Pv 0 σ H) (hl : ∀ i σ H, i ≤ xs.length → Pv i σ H → H a = some (.lst xs))
    (hs : ∀ i x σ H t, xs[i]? = some x → Pv i σ H → H t = none → g (.ref t) σ (upd H t (.tup [.int (i : Nat), x])) fun σ2 H2 => tb { D with nx := Pv (i + 1), ct := Pv (i + 1), bk := D.nx } σ2 H2) (hd : ∀ σ H, Pv xs.length σ H → D.nx σ H) :
    ∃ b ys, [V.ref a] = [.ref b] ∧ SqL K H b ys ∧ ∃ W : Nat → Nat → L2.St → Hp → Prop, (∃ m, W 0 m σ H) ∧ ∀ i m σ H, W i m σ H →
      ((Ite K b).stop i H ∧ D.nx σ H) ∨ ((Ite K b).go i H ∧ ∃ N : L2.St → Hp → Prop, (∀ σ' H', N σ' H' → ∃ m', m' < m ∧ W (i + 1) m' σ' H') ∧ ∀ x H', (Ite K b).yld i H x H' → g x σ H' fun σ2 H2 => tb { D with nx := N, ct := N, bk := D.nx } σ2 H2) := by
  refine ⟨a, xs, rfl, SqL.of hx, fun i m σ H => m = xs.length - i ∧ i ≤ xs.length ∧ Pv i σ H, ⟨xs.length, by simp, Nat.zero_le _, h0⟩, ?_⟩
  rintro i m σ H ⟨rfl, hi, p⟩
  have q := hl i σ H hi p
  by_cases hlt : i < xs.length
  · refine .inr ⟨⟨xs, xs[i], SqL.of q, by simp [hlt]⟩, Pv (i + 1), fun σ' H' p' => ⟨xs.length - (i + 1), by omega, rfl, hlt, p'⟩, fun x H' y => ?_⟩
    obtain ⟨t, x', rfl, nt, rfl, y⟩ := y
    exact hs i x' σ H t (y xs (SqL.of q)) p nt
  · have e : i = xs.length := by omega
    subst e
    exact .inl ⟨⟨xs, SqL.of q, Nat.le_refl _⟩, hd σ H p⟩
end
section
variable {S : Type} {F : S → Hp → Hp} {ok : S → Hp → Prop} (T : TopOk F ok) {σ : L2.St} {g : TG} {tt : TT} {te : TE} {vs : List Nat} {Q : Addr → Hp → Prop}
include T
theorem lcT_enum {K : PySem.W.Frag} {s0 : S} {B : Hp} (k : ok s0 B) {a : Addr} {xs : List V} (ha : B a = some (.lst xs)) (Pv : Nat → Hp → List V → Prop) (mono : ∀ i C C' acc, Same C C' → Pv i C acc → Pv i C' acc) (h0 : Pv 0 B [])
    (hs : ∀ D i x s C acc t, ok s (upd C D (.lst acc)) → C D = none → Same B C → xs[i]? = some x → C t = some (.tup [.int (i : Nat), x]) → Pv i C acc → g (.ref t) (wipe σ vs) (F s (upd C D (.lst acc))) fun σ2 H2 => wipe σ2 vs = wipe σ vs ∧ tt σ2 H2 fun b H3 =>
      if b = true then te σ2 H3 fun y H4 => ∃ acc', H4 D = some (.lst acc') ∧ acc'.length < sizeLine ∧ LcN F ok B D (Pv (i + 1)) (upd H4 D (.lst (acc' ++ [y]))) else LcN F ok B D (Pv (i + 1)) H3)
    (hd : ∀ D s C acc, ok s (upd C D (.lst acc)) → B D = none → C D = none → Same B C → Pv xs.length C acc → Q D (F s (upd C D (.lst acc)))) :
    ∃ b ys, [V.ref a] = [.ref b] ∧ SqL K (F s0 B) b ys ∧ ∀ D, (F s0 B) D = none → ∃ W : Nat → Nat → Hp → Prop, (∃ m, W 0 m (upd (F s0 B) D (.lst []))) ∧ ∀ i m H, W i m H →
      ((Ite K b).stop i H ∧ Q D H) ∨ ((Ite K b).go i H ∧ ∃ Nx : Hp → Prop, (∀ H', Nx H' → ∃ m', m' < m ∧ W (i + 1) m' H') ∧ ∀ x H', (Ite K b).yld i H x H' → g x (wipe σ vs) H' fun σ2 H2 => wipe σ2 vs = wipe σ vs ∧ tt σ2 H2 fun b H3 =>
        if b = true then te σ2 H3 fun y H4 => ∃ acc, H4 D = some (.lst acc) ∧ acc.length < sizeLine ∧ Nx (upd H4 D (.lst (acc ++ [y]))) else Nx H3) := by
  refine ⟨a, xs, rfl, SqL.of (T.get _ _ _ _ k ha), fun D hD => ?_⟩
  obtain ⟨hB, hn⟩ := T.new s0 B D k hD
  refine ⟨fun i m H => m = xs.length - i ∧ i ≤ xs.length ∧ LcN F ok B D (Pv i) H, ⟨xs.length, by simp, Nat.zero_le _, ?_⟩, ?_⟩
  · rw [(hn _).1]
    exact ⟨s0, B, [], rfl, (hn _).2, hB, Same.refl B, h0⟩
  · rintro i m H ⟨rfl, hi, s, C, acc, rfl, k', hD', hS, hp⟩
    have hA : SqL K (F s (upd C D (.lst acc))) a xs := SqL.of (T.get _ _ _ _ k' (upd_old hD' (hS _ _ ha)))
    by_cases hlt : i < xs.length
    · refine .inr ⟨⟨xs, xs[i], hA, by simp [hlt]⟩, fun H' => LcN F ok B D (Pv (i + 1)) H', fun H' p' => ⟨xs.length - (i + 1), by omega, rfl, hlt, p'⟩, fun x H' y => ?_⟩
      obtain ⟨t, x', rfl, nt, rfl, y⟩ := y
      obtain ⟨e, k2, hD2, n2, ne2⟩ := newTD_eq T k' hD' nt (.tup [.int (i : Nat), x'])
      rw [e]
      exact hs D i x' s _ acc t k2 hD2 (hS.trans (same_new n2)) (y xs hA) upd_same (mono _ _ _ _ (same_new n2) hp)
    · have e : i = xs.length := by omega
      subst e
      exact .inl ⟨⟨xs, hA, Nat.le_refl _⟩, hd D s C acc k' hB hD' hS hp⟩
end
theorem Rw.write {C : Hp} {as : List Addr} {rs : List (List Int)} (h : Rw C as rs) (hn : as.Nodup) {k : Nat} {b : Addr} (hb : as[k]? = some b) (r' : List Int) : Rw (upd C b (.lst (r'.map V.int))) as (rs.set k r') := by
  refine ⟨by rw [List.length_set, h.1], fun i c hc => ?_⟩
  by_cases e : k = i
  · subst e
    rw [hb] at hc
    cases hc
    have hk := (List.getElem?_eq_some_iff.mp hb).1
    exact ⟨r', List.getElem?_set_self (by rw [← h.1]; exact hk), upd_same⟩
  · obtain ⟨r, h1, h2⟩ := h.2 i c hc
    have hne : c ≠ b := fun q => by
      rw [q] at hc
      exact e (nd_ix hn hb hc)
    exact ⟨r, by rw [List.getElem?_set_ne e]; exact h1, by rw [upd_ne hne]; exact h2⟩
theorem r_enumE {K : PySem.W.Frag} {σ : L2.St} {H : Hp} {ta : TA} {R : It → Hp → Prop} (h : ta σ H fun vs H1 => ∃ a xs, vs = [.ref a] ∧ SqL K H1 a xs ∧ R (Ite K a) H1) : iEnum K ta σ H R := h
end Lw
namespace Lw
open PySem PySem.Spec PyProof.Rows L2
theorem r_isi {K : PySem.W.Frag} {H : Hp} {Q : VK} {x : V} {a b : String} {r : Bool} (ty : TyX K H x (.type a)) (k : kitB a b = some r) (q : Q (.bl r) H) : rIsi K [x, .ty b] H Q := ⟨x, .ty b, .type a, .type b, r, rfl, .ty b, ty, kit_ty k, q⟩
end Lw
/-! set(xs) of a list of ints -/
namespace Lw
open PySem PySem.Spec PyProof.Rows L2
section
variable {P : Program} {w : World} {A : Around} {E : Value → Shared → Prop} {s : Shared}
set_option maxHeartbeats 3200000 in
theorem mk_set_of_list {l : Addr} {its : Array Value} (ns : List Int) {Q : Value → Shared → Prop} (hA : A.handled = none) (hL : s.heap.IsList l its) (hI : IntsAre its.toList ns) (room : ns.length + 1 < scanBound)
    (fin : ∀ (h2 : Heap) (tk c : Nat), SetR w h2 s.heap.objs.size (fun j => decide (j ∈ ns)) c → c ≤ ns.length → (∀ b o, s.heap.get? b = some o → h2.get? b = some o) → Q (.ref s.heap.objs.size) { s with heap := h2, toks := tk }) :
    wpAny (model P w) A (call (.type "set") [.ref l]) Q E s := by
  have len : its.size = ns.length := by rw [← Array.length_toList]; exact IntsAre.length hI
  obtain ⟨c0, t0, mro⟩ := PySem.F.called_set.mro
  have u1 := PySem.F.called_set.made
  have u2 := PySem.F.called_set.sub
  have u3 := PySem.F.called_set.notType
  have u4 := PySem.F.called_set.canCreate
  have u5 := PySem.F.typeCall_set_1 (.ref l)
  refine wpAny_call (codeAny_of_tree ?_)
  show wpAny _ _ (callAny (.type "set") _) _ _ _
  refine wpAny_pure ⟨Code.quiet_builtin _ (by decide +kernel), codeAny_builtin PySem.F.entry_type_call ?_⟩
  rw [Around.under_plain (weight_type_call_type "set" [.ref l] []) rfl]
  repeat (any_goals (first | assumption | wp_step))
  -- the empty set is laid
  generalize hN : ({ cls := .type "set", dict := none, data := .set #[] 0 (.fresh 0 0 (!w.params.followText "set-order")) } : Obj) = N
  refine codeAny_mono (code_set_led1 (.ref l) (E := E) (Q₁ := fun x z => x = .ref s.heap.objs.size ∧ z = { s with heap := s.heap.push N }) ⟨rfl, by rw [hN]⟩) fun r z hr => ?_
  match r, hr with
  | .error e, hr => exact hr
  | .ok .next, hr => exact hr.elim
  | .ok .brk, hr => exact hr.elim
  | .ok .cont, hr => exact hr.elim
  | .ok (.ret x), hr =>
    obtain ⟨rfl, rfl⟩ := hr
    have at0 : (s.heap.push N).get? s.heap.objs.size = some N := Heap.get?_push_size _ (by rw [← hN]; rfl)
    have isSet : Shared.TypeIs { s with heap := s.heap.push N } (.ref s.heap.objs.size) "set" := ⟨_, at0, by rw [← hN]⟩
    have v1 := PySem.F.called_set.init.lookup
    have v2 := PySem.F.called_set.init.bind (.ref s.heap.objs.size)
    repeat (any_goals (first | assumption | wp_step))
    refine codeAny_mono (codeAny_call_builtin (R := wants (fun r z => r = .none ∧ ∃ h2 tk c, z = { s with heap := h2, toks := tk } ∧ SetR w h2 s.heap.objs.size (fun j => decide (j ∈ ns)) c ∧ c ≤ ns.length ∧ ∀ b o, s.heap.get? b = some o → h2.get? b = some o) E)
      PySem.F.called_set.init.plain PySem.F.entry_set_init (check_set_init_1 isSet ?_)) fun r z hr => ?_
    · -- the items are laid in, one by one
      subst hN
      obtain ⟨⟨ocl, odi, oda, osl⟩, at1, e1, n1, e2⟩ := id hL
      simp only at e1 e2
      subst e1; subst e2
      have at2 : (s.heap.push { cls := .type "set", dict := none, data := .set #[] 0 (.fresh 0 0 (!w.params.followText "set-order")) }).get? l = some { cls := .type "list", dict := odi, data := .seq its n1, slots := osl } := Heap.get?_push_of_some _ at1
      have x1 := PySem.F.sub_list_set
      have x2 := PySem.F.sub_list_frozenset
      have x3 : (Value.type "list" == Value.type "dict") = false := by decide
      have lst1 : (s.heap.push { cls := .type "set", dict := none, data := .set #[] 0 (.fresh 0 0 (!w.params.followText "set-order")) }).IsList l its := ⟨_, at2, rfl, n1, rfl⟩
      unfold Builtin.«set.__init__» noKeywords Builtin.Frozenset.updateFrom
      generalize hp : pyIter = pit
      wp_walk
      subst hp
      refine wpAny_pyIter_list lst1 ?_
      refine wpAny_bind (wpAny_runValue ?_)
      have below : l < s.heap.objs.size := Heap.lt_size at1
      have size1 : ∀ o, (s.heap.push o).objs.size = s.heap.objs.size + 1 := fun o => Heap.size_push ..
      have nl : ∀ o, l ≠ (s.heap.push o).objs.size := fun o => by rw [size1]; exact Nat.ne_of_lt (Nat.lt_succ_of_lt below)
      have nS : ∀ o, s.heap.objs.size ∉ [(s.heap.push o).objs.size, l] := fun o z => by
        rcases List.mem_cons.mp z with z | z
        · rw [size1] at z; exact absurd z (Nat.ne_of_lt (Nat.lt_succ_self _))
        · exact absurd (List.mem_singleton.mp z) (Nat.ne_of_gt below)
      have vals : ∀ (i : Nat) (v : Value), its[i]? = some v → ∃ k t, ns[i]? = some k ∧ v = .int k t := fun i v hv => by
        have hi : i < ns.length := by rw [← len]; exact (Array.getElem?_eq_some_iff.mp hv).1
        obtain ⟨t, e⟩ := PyProof.Rows.IntsAre.int_at hI i v (by rw [Array.getElem?_toList]; exact hv)
        exact ⟨ns[i], t, List.getElem?_eq_getElem hi, by rw [e, List.getD_eq_getElem?_getD, List.getElem?_eq_getElem hi]; rfl⟩
      refine set_update_ints ((Walks.list (by simp [hA]) _ l (nl _) its).toS) s.heap.objs.size (nS _) ns len room vals (its.size - 0) 0 _ (by omega) (Nat.zero_le _) ⟨⟨_, Heap.get?_push_size _ rfl, rfl, rfl⟩, lst1.push _⟩ ?_ ?_
      · refine ⟨0, Nat.le_refl 0, setR_new_at ?_⟩
        exact Heap.get?_push_of_some _ at0
      · rintro ⟨h3, g3, d3, t3, o3⟩ c mv hc hS
        have q1 : g3 = s.gens := mv.gens
        have q2 : d3 = s.drawn := mv.drawn
        have q3 : o3 = s.os := mv.os
        subst q1 q2 q3
        show wpAny _ _ _ _ _ _
        refine wpAny_pure ?_
        show wpAny _ _ (ret Value.none) _ _ _
        refine wpAny_pure ⟨rfl, h3, t3, c, rfl, hS, by rw [← len]; exact hc, fun b o e => ?_⟩
        have hb := Heap.lt_size e
        refine mv.heap b o (fun z => ?_) (Heap.get?_push_of_some _ (Heap.get?_push_of_some _ e))
        rcases List.mem_cons.mp z with z | z
        · exact absurd z (Nat.ne_of_lt hb)
        · rw [List.mem_singleton.mp z, size1] at hb
          exact absurd hb (Nat.not_lt_of_le (Nat.le_succ _))
    · match r, hr with
      | .error e, hr => exact hr
      | .ok .next, hr => exact hr.elim
      | .ok .brk, hr => exact hr.elim
      | .ok .cont, hr => exact hr.elim
      | .ok (.ret x), hr =>
        obtain ⟨rfl, h3, t3, c, rfl, hS, hc, hk⟩ := hr
        repeat (any_goals (first | assumption | wp_step))
        exact fin _ _ _ hS hc hk
end
/-- set(xs) -/
def rSetOf (w : World) (K : PySem.W.Frag) : List V → Hp → VK → Prop := fun vs H Q => ∃ (a : Addr) (ns : List Int), vs = [V.ref a] ∧ SqL K H a (ns.map V.int) ∧ ns.length ≤ 1000 ∧
  ∀ (c : Nat) (p : Addr), c ≤ ns.length → H p = none → Q (.ref p) (upd H p (SetO w p (fun j => decide (j ∈ ns)) c))
section
variable {X : Cx} {K : PySem.W.Frag} {w : World}
theorem cr_setOf (h : X.K = K) (hw : X.w = w) (hc : X.calm = true) : CallR X (.type "set") (rSetOf w K) := by
  subst h hw
  intro pins s σ H xs us Q I r hq
  obtain ⟨a, ns, rfl, hS, hl, q⟩ := hq
  rw [Vals.ref1 r]
  obtain ⟨its, rv, pl, hz⟩ := I.list hS
  refine mk_set_of_list ns (I.ok.hd hc) pl.isList (by simpa using Vals.ints rv) (by unfold scanBound; omega) fun h2 tk c R hcn keep => ?_
  have hn : H s.heap.objs.size = none := I.hok.fresh (Nat.le_refl _)
  exact ⟨.ref _, upd H s.heap.objs.size (SetO X.w s.heap.objs.size (fun j => decide (j ∈ ns)) c), I.laid (t' := tk) keep (Nat.le_refl _) (setO_new R), rfl, q c _ hcn hn⟩
theorem cr_sortedSetK (hw : X.w = w) (hc : X.calm = true) : CallR X (.builtin "sorted") (rSortedSet w) := by subst hw; exact cr_sortedSet hc
end
end Lw
namespace Lw
open PySem PySem.Spec PyProof.Rows L2
section
variable {K : PySem.W.Frag} {w : World} {H : Hp} {Q : VK}
theorem r_setOf {a : Addr} {ns : List Int} (h : H a = some (.lst (ns.map V.int))) (hl : ns.length ≤ 1000) (q : ∀ (c : Nat) (p : Addr), c ≤ ns.length → H p = none → Q (.ref p) (upd H p (SetO w p (fun j => decide (j ∈ ns)) c))) : rSetOf w K [.ref a] H Q := ⟨a, ns, rfl, SqL.of h, hl, q⟩
theorem r_sortedSet {a : Addr} {S : Int → Bool} {n : Nat} (h : H a = some (SetO w a S n)) (hl : n < 64) (q : ∀ (ns : List Int) (p : Addr), ns.Pairwise (· < ·) → (∀ k : Int, k ∈ ns ↔ S k = true) → ns.length = n → H p = none → Q (.ref p) (upd H p (.lst (ns.map V.int)))) : rSortedSet w [.ref a] H Q := ⟨a, S, n, rfl, h, hl, q⟩
theorem r_index {a : Addr} {ns : List Int} {y : Int} {j : Nat} (h : H a = some (.lst (ns.map V.int))) (h1 : ns[j]? = some y) (h2 : ∀ m, m < j → ns[m]? ≠ some y) (q : Q (.int j) H) : rIndex K (.ref a) [.int y] H Q := by
  refine ⟨a, ns.map V.int, .int y, j, .int y, rfl, rfl, SqL.of h, rfl, ?_, by rw [List.getElem?_map, h1]; rfl, by simp [eqV], fun m z' hm hz => ?_, q⟩
  · rw [List.all_map]; exact List.all_eq_true.mpr fun x _ => rfl
  · rw [List.getElem?_map] at hz
    cases e : ns[m]? with
    | none => rw [e] at hz; cases hz
    | some x =>
      rw [e] at hz
      rw [← Option.some.inj hz]
      have hne : x ≠ y := fun z => h2 m hm (by rw [e, z])
      simp [eqV, hne]
end
theorem first_at {ns : List Int} {y : Int} (h : y ∈ ns) : ∃ j : Nat, ns[j]? = some y ∧ (∀ m, m < j → ns[m]? ≠ some y) ∧ j < ns.length := by
  induction ns with
  | nil => cases h
  | cons a r ih =>
    by_cases e : a = y
    · exact ⟨0, by rw [e]; rfl, fun m hm => absurd hm (Nat.not_lt_zero _), Nat.succ_pos _⟩
    · have h2 : y ∈ r := by
        rcases List.mem_cons.mp h with q | q
        · exact absurd q.symm e
        · exact q
      obtain ⟨j, h3, h4, h5⟩ := ih h2
      refine ⟨j + 1, h3, fun m hm => ?_, Nat.succ_lt_succ h5⟩
      cases m with
      | zero => exact fun q => e (Option.some.inj q)
      | succ m => exact h4 m (Nat.lt_of_succ_lt_succ hm)
end Lw
namespace Lw
theorem perm_ins {α : Type} (r : List α) (n : Nat) (k : α) : (r.take n ++ [k] ++ r.drop n).Perm (r ++ [k]) := by
  rw [List.append_assoc]
  have h := (List.perm_append_comm (l₁ := [k]) (l₂ := r.drop n)).append_left (r.take n)
  have e : r.take n ++ (r.drop n ++ [k]) = r ++ [k] := by rw [← List.append_assoc, List.take_append_drop]
  rw [e] at h
  exact h
end Lw
namespace Lw
open PySem PySem.Spec PyProof.Rows L2
section
variable {K : PySem.W.Frag} {H : Hp} {Q : VK}
theorem r_inI {neg : Bool} {a : Addr} {ns : List Int} {z : Int} (h : H a = some (.lst (ns.map V.int))) (q : Q (.bl (if neg then !decide (z ∈ ns) else decide (z ∈ ns))) H) : rIn K neg (.int z) (.ref a) H Q := by
  have e : inV (.int z) (ns.map V.int) = decide (z ∈ ns) := by
    unfold inV
    rw [List.any_map]
    by_cases h : z ∈ ns
    · rw [decide_eq_true h]; exact List.any_eq_true.mpr ⟨z, h, by simp [eqV]⟩
    · rw [decide_eq_false h]
      refine List.any_eq_false.mpr fun x hx => ?_
      have hne : x ≠ z := fun e => h (e ▸ hx)
      simp [eqV, hne]
  refine ⟨a, ns.map V.int, rfl, .inl (SqL.of h), rfl, ?_, ?_⟩
  · rw [List.all_map]; exact List.all_eq_true.mpr fun x _ => rfl
  · rw [e]; exact q
theorem r_cat {a b : Addr} {xs ys : List V} (h1 : H a = some (.lst xs)) (h2 : H b = some (.lst ys)) (hz : xs.length + ys.length ≤ 100000) (q : ∀ p, H p = none → Q (.ref p) (upd H p (.lst (xs ++ ys)))) : rCat (.ref a) (.ref b) H Q := ⟨a, b, xs, ys, rfl, rfl, h1, h2, Nat.le_of_lt (small hz), q⟩
theorem r_iteB {b : Bool} {A B : Prop} (h1 : b = true → A) (h2 : b = false → B) : if b = true then A else B := by
  cases b
  · rw [if_neg (by decide)]; exact h2 rfl
  · rw [if_pos rfl]; exact h1 rfl
end
end Lw
/-! rows of any kind, tuples in lists, comprehensions with two fors, deep `in` and `index`, defs with keyword-only parameters -/
namespace Lw
open PySem PySem.Spec PyProof.Rows L2
/-! ### rows of any kind -/
def Ro {α : Type} (f : α → V) (C : Hp) (as : List Addr) (rs : List (List α)) : Prop := as.length = rs.length ∧ ∀ (i : Nat) (b : Addr), as[i]? = some b → ∃ r, rs[i]? = some r ∧ C b = some (.lst (r.map f))
section
variable {α : Type} {f : α → V}
theorem Ro.nil {C : Hp} : Ro f C [] [] := ⟨rfl, fun i b h => by simp at h⟩
theorem Ro.mono {C C' : Hp} {as : List Addr} {rs : List (List α)} (h : Ro f C as rs) (s : Same C C') : Ro f C' as rs :=
  ⟨h.1, fun i b e => by obtain ⟨r, h1, h2⟩ := h.2 i b e; exact ⟨r, h1, s _ _ h2⟩⟩
theorem Ro.push {C : Hp} {as : List Addr} {rs : List (List α)} {b : Addr} {r : List α} (h : Ro f C as rs) (e : C b = some (.lst (r.map f))) : Ro f C (as ++ [b]) (rs ++ [r]) := by
  refine ⟨by rw [List.length_append, List.length_append, h.1]; rfl, fun i c hc => ?_⟩
  by_cases hi : i < as.length
  · rw [List.getElem?_append_left hi] at hc
    obtain ⟨r', h1, h2⟩ := h.2 i c hc
    exact ⟨r', by rw [List.getElem?_append_left (by rw [← h.1]; exact hi)]; exact h1, h2⟩
  · rw [List.getElem?_append_right (by omega)] at hc
    have h0 : i - as.length = 0 := by
      have := (List.getElem?_eq_some_iff.mp hc).1
      rw [List.length_singleton] at this; omega
    rw [h0] at hc
    cases hc
    exact ⟨r, by rw [List.getElem?_append_right (by rw [← h.1]; omega), ← h.1, h0]; rfl, e⟩
theorem Ro.at {C : Hp} {as : List Addr} {rs : List (List α)} {i : Nat} {x : V} (h : Ro f C as rs) (e : (as.map V.ref)[i]? = some x) : ∃ b r, x = .ref b ∧ as[i]? = some b ∧ rs[i]? = some r ∧ C b = some (.lst (r.map f)) := by
  rw [List.getElem?_map] at e
  cases q : as[i]? with
  | none => rw [q] at e; cases e
  | some b =>
    rw [q] at e
    obtain ⟨r, h1, h2⟩ := h.2 i b q
    exact ⟨b, r, (Option.some.inj e).symm, rfl, h1, h2⟩
theorem Ro.get {C : Hp} {as : List Addr} {rs : List (List α)} {i : Nat} {r : List α} (h : Ro f C as rs) (e : rs[i]? = some r) : ∃ b, as[i]? = some b ∧ (as.map V.ref)[i]? = some (.ref b) ∧ C b = some (.lst (r.map f)) := by
  have hi : i < as.length := by rw [h.1]; exact (List.getElem?_eq_some_iff.mp e).1
  obtain ⟨r', h1, h2⟩ := h.2 i _ (List.getElem?_eq_getElem hi)
  rw [e] at h1; cases h1
  exact ⟨_, List.getElem?_eq_getElem hi, by rw [List.getElem?_map, List.getElem?_eq_getElem hi]; rfl, h2⟩
theorem Ro.write {C : Hp} {as : List Addr} {rs : List (List α)} (h : Ro f C as rs) (hn : as.Nodup) {k : Nat} {b : Addr} (hb : as[k]? = some b) (r' : List α) : Ro f (upd C b (.lst (r'.map f))) as (rs.set k r') := by
  refine ⟨by rw [List.length_set, h.1], fun i c hc => ?_⟩
  by_cases e : k = i
  · subst e
    rw [hb] at hc
    cases hc
    exact ⟨r', List.getElem?_set_self (by rw [← h.1]; exact (List.getElem?_eq_some_iff.mp hb).1), upd_same⟩
  · obtain ⟨r, h1, h2⟩ := h.2 i c hc
    refine ⟨r, by rw [List.getElem?_set_ne e]; exact h1, ?_⟩
    rw [upd_ne]
    · exact h2
    · intro z
      subst z
      obtain ⟨h3, e3⟩ := List.getElem?_eq_some_iff.mp hb
      obtain ⟨h4, e4⟩ := List.getElem?_eq_some_iff.mp hc
      exact e ((List.getElem_inj hn).mp (e3.trans e4.symm))
theorem Ro.isRw {C : Hp} {as : List Addr} {rs : List (List Int)} : Ro V.int C as rs ↔ Rw C as rs := Iff.rfl
theorem bls_at {r : List Bool} {i : Nat} {x : V} (e : (r.map V.bl)[i]? = some x) : ∃ z, x = .bl z ∧ r[i]? = some z := by
  rw [List.getElem?_map] at e
  cases q : r[i]? with
  | none => rw [q] at e; cases e
  | some z => rw [q] at e; exact ⟨z, (Option.some.inj e).symm, rfl⟩
theorem map_at {r : List α} {i : Nat} {z : α} (e : r[i]? = some z) : (r.map f)[i]? = some (f z) := by rw [List.getElem?_map, e]; rfl
end
/-! ### pairs of ints in a list -/
def Tp (C : Hp) (ts : List Addr) (qs : List (Int × Int)) : Prop := ts.length = qs.length ∧ ∀ (i : Nat) (b : Addr), ts[i]? = some b → ∃ q, qs[i]? = some q ∧ C b = some (.tup [.int q.1, .int q.2])
theorem Tp.nil {C : Hp} : Tp C [] [] := ⟨rfl, fun i b h => by simp at h⟩
theorem Tp.mono {C C' : Hp} {ts : List Addr} {qs : List (Int × Int)} (h : Tp C ts qs) (s : Same C C') : Tp C' ts qs :=
  ⟨h.1, fun i b e => by obtain ⟨r, h1, h2⟩ := h.2 i b e; exact ⟨r, h1, s _ _ h2⟩⟩
theorem Tp.push {C : Hp} {ts : List Addr} {qs : List (Int × Int)} {b : Addr} {q : Int × Int} (h : Tp C ts qs) (e : C b = some (.tup [.int q.1, .int q.2])) : Tp C (ts ++ [b]) (qs ++ [q]) := by
  refine ⟨by rw [List.length_append, List.length_append, h.1]; rfl, fun i c hc => ?_⟩
  by_cases hi : i < ts.length
  · rw [List.getElem?_append_left hi] at hc
    obtain ⟨r', h1, h2⟩ := h.2 i c hc
    exact ⟨r', by rw [List.getElem?_append_left (by rw [← h.1]; exact hi)]; exact h1, h2⟩
  · rw [List.getElem?_append_right (by omega)] at hc
    have h0 : i - ts.length = 0 := by
      have := (List.getElem?_eq_some_iff.mp hc).1
      rw [List.length_singleton] at this; omega
    rw [h0] at hc
    cases hc
    exact ⟨q, by rw [List.getElem?_append_right (by rw [← h.1]; omega), ← h.1, h0]; rfl, e⟩
theorem Tp.at {C : Hp} {ts : List Addr} {qs : List (Int × Int)} {i : Nat} {x : V} (h : Tp C ts qs) (e : (ts.map V.ref)[i]? = some x) : ∃ b q, x = .ref b ∧ ts[i]? = some b ∧ qs[i]? = some q ∧ C b = some (.tup [.int q.1, .int q.2]) := by
  rw [List.getElem?_map] at e
  cases q : ts[i]? with
  | none => rw [q] at e; cases e
  | some b =>
    rw [q] at e
    obtain ⟨r, h1, h2⟩ := h.2 i b q
    exact ⟨b, r, (Option.some.inj e).symm, rfl, h1, h2⟩
theorem Tp.keep {C C' : Hp} {ts : List Addr} {qs : List (Int × Int)} (h : Tp C ts qs) (s : ∀ t ∈ ts, C' t = C t) : Tp C' ts qs :=
  ⟨h.1, fun i b e => by obtain ⟨r, h1, h2⟩ := h.2 i b e; exact ⟨r, h1, by rw [s b (List.mem_of_getElem? e)]; exact h2⟩⟩
theorem Ro.keep {α : Type} {f : α → V} {C C' : Hp} {as : List Addr} {rs : List (List α)} (h : Ro f C as rs) (s : ∀ t ∈ as, C' t = C t) : Ro f C' as rs :=
  ⟨h.1, fun i b e => by obtain ⟨r, h1, h2⟩ := h.2 i b e; exact ⟨r, h1, by rw [s b (List.mem_of_getElem? e)]; exact h2⟩⟩
/-! ### a filter, turn by turn -/
theorem fl_put {α : Type} {p : α → Bool} {r : List α} {i : Nat} {x : α} (hx : r[i]? = some x) (hp : p x = true) : (r.take (i + 1)).filter p = (r.take i).filter p ++ [x] := by
  rw [List.take_add_one, hx, List.filter_append]; simp [hp]
theorem fl_skip {α : Type} {p : α → Bool} {r : List α} {i : Nat} {x : α} (hx : r[i]? = some x) (hp : p x = false) : (r.take (i + 1)).filter p = (r.take i).filter p := by
  rw [List.take_add_one, hx, List.filter_append]; simp [hp]
theorem mp_put {α β : Type} {p : α → β} {r : List α} {i : Nat} {x : α} (hx : r[i]? = some x) : (r.take (i + 1)).map p = (r.take i).map p ++ [p x] := by
  rw [List.take_add_one, hx, List.map_append]; rfl
/-! ### two fors in a comprehension -/
section
variable {S : Type} {F : S → Hp → Hp} {ok : S → Hp → Prop} (T : TopOk F ok) {σ σ2 : L2.St} {g g1 : TG} {tt tt1 : TT} {te : TE} {vs vs1 : List Nat} {wi1 : TI} {Q : Addr → Hp → Prop}
def Lin (vs1 : List Nat) (g1 : TG) (tt1 : TT) (te : TE) (σ2 : L2.St) (D : Addr) (Nx : Hp → Prop) : It → Hp → Prop := fun J1 H4 => ∃ W1 : Nat → Nat → Hp → Prop, (∃ m, W1 0 m H4) ∧ ∀ j k H, W1 j k H →
  (J1.stop j H ∧ Nx H) ∨ (J1.go j H ∧ ∃ Nx1 : Hp → Prop, (∀ H', Nx1 H' → ∃ k', k' < k ∧ W1 (j + 1) k' H') ∧ ∀ x H', J1.yld j H x H' → g1 x (wipe σ2 vs1) H' fun σ3 H5 => wipe σ3 vs1 = wipe σ2 vs1 ∧ tt1 σ3 H5 fun b H6 =>
    if b = true then te σ3 H6 fun y H7 => ∃ acc, H7 D = some (.lst acc) ∧ acc.length < sizeLine ∧ Nx1 (upd H7 D (.lst (acc ++ [y]))) else Nx1 H6)
include T
theorem lcT2_range {s0 : S} {B : Hp} (k : ok s0 B) {n : Int} (h1 : -4611686018427387904 ≤ n) (h2 : n < 4611686018427387904) (Pv : Nat → Hp → List V → Prop) (h0 : Pv 0 B [])
    (hs : ∀ D i s C acc, ok s (upd C D (.lst acc)) → C D = none → Same B C → i < n.toNat → Pv i C acc → g (.int i) (wipe σ vs) (F s (upd C D (.lst acc))) fun σ2 H2 => wipe σ2 vs = wipe σ vs ∧ tt σ2 H2 fun b H3 =>
      if b = true then wi1 σ2 H3 (Lin vs1 g1 tt1 te σ2 D (LcN F ok B D (Pv (i + 1)))) else LcN F ok B D (Pv (i + 1)) H3)
    (hd : ∀ D s C acc, ok s (upd C D (.lst acc)) → B D = none → C D = none → Same B C → Pv n.toNat C acc → Q D (F s (upd C D (.lst acc)))) :
    ∃ j : Int, [V.int n] = [.int j] ∧ -(2 ^ 62) ≤ j ∧ j < 2 ^ 62 ∧ ∀ D, (F s0 B) D = none → ∃ W : Nat → Nat → Hp → Prop, (∃ m, W 0 m (upd (F s0 B) D (.lst []))) ∧ ∀ i m H, W i m H →
      ((Itr 0 j.toNat).stop i H ∧ Q D H) ∨ ((Itr 0 j.toNat).go i H ∧ ∃ Nx : Hp → Prop, (∀ H', Nx H' → ∃ m', m' < m ∧ W (i + 1) m' H') ∧ ∀ x H', (Itr 0 j.toNat).yld i H x H' → g x (wipe σ vs) H' fun σ2 H2 => wipe σ2 vs = wipe σ vs ∧ tt σ2 H2 fun b H3 =>
        if b = true then wi1 σ2 H3 fun J1 H4 => ∃ W1 : Nat → Nat → Hp → Prop, (∃ m, W1 0 m H4) ∧ ∀ j k H, W1 j k H →
          (J1.stop j H ∧ Nx H) ∨ (J1.go j H ∧ ∃ Nx1 : Hp → Prop, (∀ H', Nx1 H' → ∃ k', k' < k ∧ W1 (j + 1) k' H') ∧ ∀ x H', J1.yld j H x H' → g1 x (wipe σ2 vs1) H' fun σ3 H5 => wipe σ3 vs1 = wipe σ2 vs1 ∧ tt1 σ3 H5 fun b H6 =>
            if b = true then te σ3 H6 fun y H7 => ∃ acc, H7 D = some (.lst acc) ∧ acc.length < sizeLine ∧ Nx1 (upd H7 D (.lst (acc ++ [y]))) else Nx1 H6)
        else Nx H3) := by
  refine ⟨n, rfl, h1, h2, fun D hD => ?_⟩
  obtain ⟨hB, hn⟩ := T.new s0 B D k hD
  refine ⟨fun i m H => m = n.toNat - i ∧ i ≤ n.toNat ∧ LcN F ok B D (Pv i) H, ⟨n.toNat, by simp, Nat.zero_le _, ?_⟩, ?_⟩
  · rw [(hn _).1]
    exact ⟨s0, B, [], rfl, (hn _).2, hB, Same.refl B, h0⟩
  · rintro i m H ⟨rfl, hi, s, C, acc, rfl, k', hD', hS, hp⟩
    by_cases hlt : i < n.toNat
    · refine .inr ⟨hlt, fun H' => LcN F ok B D (Pv (i + 1)) H', fun H' p' => ⟨n.toNat - (i + 1), by omega, rfl, hlt, p'⟩, fun x H' y => ?_⟩
      obtain ⟨rfl, rfl⟩ := y
      rw [Int.zero_add]
      exact hs D i s C acc k' hD' hS hlt hp
    · have e : i = n.toNat := by omega
      subst e
      exact .inl ⟨Nat.le_refl _, hd D s C acc k' hB hD' hS hp⟩
omit T in
theorem lin_range {B : Hp} {lo : Int} {m : Nat} {D : Addr} {Pn : Hp → List V → Prop} (Pw : Nat → Hp → List V → Prop) {s0 : S} {C0 : Hp} {acc0 : List V} (k : ok s0 (upd C0 D (.lst acc0))) (hD : C0 D = none) (hS : Same B C0) (h0 : Pw 0 C0 acc0)
    (hs : ∀ j s C acc, ok s (upd C D (.lst acc)) → C D = none → Same B C → j < m → Pw j C acc → g1 (.int (lo + j)) (wipe σ2 vs1) (F s (upd C D (.lst acc))) fun σ3 H5 => wipe σ3 vs1 = wipe σ2 vs1 ∧ tt1 σ3 H5 fun b H6 =>
      if b = true then te σ3 H6 fun y H7 => ∃ acc, H7 D = some (.lst acc) ∧ acc.length < sizeLine ∧ LcN F ok B D (Pw (j + 1)) (upd H7 D (.lst (acc ++ [y]))) else LcN F ok B D (Pw (j + 1)) H6)
    (hd : ∀ C acc, Pw m C acc → Pn C acc) : Lin vs1 g1 tt1 te σ2 D (LcN F ok B D Pn) (Itr lo m) (F s0 (upd C0 D (.lst acc0))) := by
  refine ⟨fun j q H => q = m - j ∧ j ≤ m ∧ LcN F ok B D (Pw j) H, ⟨m, by simp, Nat.zero_le _, s0, C0, acc0, rfl, k, hD, hS, h0⟩, ?_⟩
  rintro j q H ⟨rfl, hj, s, C, acc, rfl, k', hD', hS', hp⟩
  by_cases hlt : j < m
  · refine .inr ⟨hlt, fun H' => LcN F ok B D (Pw (j + 1)) H', fun H' p' => ⟨m - (j + 1), by omega, rfl, hlt, p'⟩, fun x H' y => ?_⟩
    obtain ⟨rfl, rfl⟩ := y
    exact hs j s C acc k' hD' hS' hlt hp
  · have e : j = m := by omega
    subst e
    exact .inl ⟨Nat.le_refl _, s, C, acc, rfl, k', hD', hS', hd C acc hp⟩
end
section
variable {σ : L2.St} {H : Hp} {Q : VK}
theorem r_lc2 {wi : TI} {g : TG} {tt : TT} {wi1 : TI} {g1 : TG} {tt1 : TT} {te : TE} {vs vs1 : List Nat} (h : wi σ H fun J H1 => ∀ D, H1 D = none → ∃ W : Nat → Nat → Hp → Prop, (∃ m, W 0 m (upd H1 D (.lst []))) ∧ ∀ i m H, W i m H →
  (J.stop i H ∧ Q (.ref D) H) ∨ (J.go i H ∧ ∃ Nx : Hp → Prop, (∀ H', Nx H' → ∃ m', m' < m ∧ W (i + 1) m' H') ∧ ∀ x H', J.yld i H x H' → g x (wipe σ vs) H' fun σ2 H2 => wipe σ2 vs = wipe σ vs ∧ tt σ2 H2 fun b H3 =>
    if b = true then wi1 σ2 H3 fun J1 H4 => ∃ W1 : Nat → Nat → Hp → Prop, (∃ m, W1 0 m H4) ∧ ∀ j k H, W1 j k H →
      (J1.stop j H ∧ Nx H) ∨ (J1.go j H ∧ ∃ Nx1 : Hp → Prop, (∀ H', Nx1 H' → ∃ k', k' < k ∧ W1 (j + 1) k' H') ∧ ∀ x H', J1.yld j H x H' → g1 x (wipe σ2 vs1) H' fun σ3 H5 => wipe σ3 vs1 = wipe σ2 vs1 ∧ tt1 σ3 H5 fun b H6 =>
        if b = true then te σ3 H6 fun y H7 => ∃ acc, H7 D = some (.lst acc) ∧ acc.length < sizeLine ∧ Nx1 (upd H7 D (.lst (acc ++ [y]))) else Nx1 H6)
    else Nx H3)) : tLc2 wi g tt wi1 g1 tt1 te vs vs1 σ H Q := h
theorem r_rng2 {ta : TA} {R : It → Hp → Prop} (h : ta σ H fun vs H1 => ∃ i j : Int, vs = [.int i, .int j] ∧ (-(2 ^ 62) ≤ i ∧ i < 2 ^ 62 ∧ -(2 ^ 62) ≤ j ∧ j < 2 ^ 62) ∧ R (Itr i (j - i).toNat) H1) : iRng2 ta σ H R := h
theorem r_isR2 {i j : Int} {R : It → Hp → Prop} (h1 : -4611686018427387904 ≤ i) (h2 : i < 4611686018427387904) (h3 : -4611686018427387904 ≤ j) (h4 : j < 4611686018427387904) (hq : R (Itr i (j - i).toNat) H) : ∃ a b : Int, [V.int i, .int j] = [.int a, .int b] ∧ (-(2 ^ 62) ≤ a ∧ a < 2 ^ 62 ∧ -(2 ^ 62) ≤ b ∧ b < 2 ^ 62) ∧ R (Itr a (b - a).toNat) H := ⟨i, j, rfl, ⟨h1, h2, h3, h4⟩, hq⟩
theorem r_any {K : PySem.W.Frag} {a : Addr} {bs : List Bool} (h : H a = some (.lst (bs.map V.bl))) (q : Q (.bl (bs.any id)) H) : rAny K [.ref a] H Q := ⟨a, bs, rfl, SqL.of h, q⟩
theorem r_callN {n m : Nat} {sp : Sp} {gV : List V → List V → List V} {E : XK} {t tk : TA} (h : t σ H fun vs H1 => tk σ H1 fun zs H2 => vs.length = n ∧ zs.length = m ∧ sp (gV vs zs) H2 Q E) : tCallN n m sp gV E t tk σ H Q := h
theorem r_callD {sp : Sp} {ds : List V} {E : XK} {t : TA} (h : t σ H fun vs H1 => sp (vs ++ ds) H1 Q E) : tCall sp ds E t σ H Q := h
end
/-! ### deep data -/
section
variable {X : Cx} {K : PySem.W.Frag}
theorem u65 {k : Nat} {A : Around} (r : Room k A) : A.units + 65 < cLine := by have := r.un; omega
theorem op_inDK (h : X.K = K) (hu : X.A.units + 65 < cLine) : OpR X (compareOp .In) (rInD K) := by subst h; exact op_inD hu
theorem op_notInDK (h : X.K = K) (hu : X.A.units + 65 < cLine) : OpR X (compareOp .NotIn) (rNotInD K) := by subst h; exact op_notInD hu
theorem mt_indexDK (h : X.K = K) (hu : X.A.units + 65 < cLine) : MtR X "list.index" (rIndexD K) := by subst h; exact mt_indexD hu
end
section
variable {K : PySem.W.Frag} {H : Hp} {Q : VK}
theorem eqI1 (xs ys : List Int) : PyData.eqv (dI xs) (dI ys) = decide (xs = ys) := eqI xs ys
theorem r_inR {a b : Addr} {as : List Addr} {rs : List (List Int)} {xs : List Int} (h1 : H a = some (.lst (xs.map V.int))) (h2 : H b = some (.lst (as.map V.ref))) (hr : Rw H as rs) (q : Q (.bl (decide (xs ∈ rs))) H) : rInD K (.ref a) (.ref b) H Q := by
  refine ⟨dI xs, rs.map dI, dpI h1, dpR h2 hr, shI xs, shR rs, ?_⟩
  have e : (rs.map dI).any (fun z => PyData.eqv z (dI xs)) = decide (xs ∈ rs) := by
    rw [Bool.eq_iff_iff, List.any_eq_true, decide_eq_true_eq]
    constructor
    · rintro ⟨z, hz, e⟩
      obtain ⟨r, hr, rfl⟩ := List.mem_map.mp hz
      rw [eqI1, decide_eq_true_eq] at e
      rw [← e]; exact hr
    · intro hx
      exact ⟨dI xs, List.mem_map.mpr ⟨xs, hx, rfl⟩, by rw [eqI1]; exact decide_eq_true rfl⟩
  rw [e]; exact q
end
/-! ### keyword-only parameters -/
section
variable {K : PySem.W.Frag} {x qual : Str} {st : Stmt} {f : Addr} {fd : FuncData} {ps : List Str}
/-- f(e, .., k = v, ..) where all keyword-only parameters are written -/
theorem kb_all (F : Fun K x qual st f fd) (n : Nat) (ks : List Str)
    (h : ∀ (kV doc pm : Value) (an : Option Addr) (cdv ct : Value) (us ws : List Value), us.length = n → ws.length = ks.length → bindArgs (PySem.W.fnOf x qual (defArgs st) (defBody st) (defScope st) .none kV doc pm an cdv ct) ⟨us, ks.zip ws⟩ = pure (ps.zip (us ++ ws))) :
    KBn K fd ps n ks (fun us ws => us ++ ws) (fun vs zs => vs ++ zs) := by
  obtain ⟨oc, od, kV, doc, pm, an, cdv, ct, osl, rfl, lk, hcd⟩ := F.ex
  exact ⟨fun s us ws _ l1 l2 => .of_eq (h kV doc pm an cdv ct us ws l1 l2), fun r1 r2 => r1.append r2⟩
end
def pick (n : Nat) (f : Nat → Bool) : List Int := ((List.range n).filter f).map Int.ofNat
theorem pick_succ (n : Nat) (f : Nat → Bool) : pick (n + 1) f = pick n f ++ if f n then [(n : Int)] else [] := by
  unfold pick
  rw [List.range_succ, List.filter_append, List.map_append]
  congr 1
  rw [List.filter_cons]
  split <;> rfl
theorem pick_len (n : Nat) (f : Nat → Bool) : (pick n f).length ≤ n := by
  unfold pick
  rw [List.length_map]
  exact Nat.le_trans (List.length_filter_le _ _) (by rw [List.length_range]; exact Nat.le_refl _)
theorem pick_congr {n : Nat} {f f' : Nat → Bool} (h : ∀ i, i < n → f i = f' i) : pick n f = pick n f' := by
  unfold pick
  rw [List.filter_congr fun i hi => h i (List.mem_range.mp hi)]
end Lw
/-! slices of lists -/
namespace Lw
open PySem PySem.Spec PyProof.Rows L2
theorem cut_to (xs : List V) {c : Int} (h : 0 ≤ c) : cutV xs none (some c) = xs.take c.toNat := by
  obtain ⟨n, rfl⟩ : ∃ n : Nat, c = n := ⟨c.toNat, by omega⟩
  unfold cutV
  rw [HT.sIx_none, HT.sIx_nat, List.drop_zero, Nat.sub_zero, Int.toNat_natCast]
  by_cases hn : n ≤ xs.length
  · rw [Nat.min_eq_left hn]
  · rw [Nat.min_eq_right (by omega), List.take_length, List.take_of_length_le (by omega)]
theorem cut_from (xs : List V) {c : Int} (h : 0 ≤ c) : cutV xs (some c) none = xs.drop c.toNat := by
  obtain ⟨n, rfl⟩ : ∃ n : Nat, c = n := ⟨c.toNat, by omega⟩
  unfold cutV
  rw [HT.sIx_none, HT.sIx_nat, Int.toNat_natCast, List.take_of_length_le (by rw [List.length_drop]; omega)]
  by_cases hn : n ≤ xs.length
  · rw [Nat.min_eq_left hn]
  · rw [Nat.min_eq_right (by omega), List.drop_length, List.drop_of_length_le (by omega)]
section
variable {K : PySem.W.Frag} {σ : L2.St} {H : Hp} {Q : VK}
theorem r_sl {r : V → Option Int → Option Int → Hp → VK → Prop} {te : TE} {tl th : TO} (h : te σ H fun x H1 => tl σ H1 fun l H2 => th σ H2 fun u H3 => r x l u H3 Q) : L2.tSl r te tl th σ H Q := h
theorem r_noPart {q : Option Int → Hp → Prop} (h : q none H) : tNoPart σ H q := h
theorem r_part {t : TE} {q : Option Int → Hp → Prop} (h : t σ H fun x H1 => ∃ i, x = .int i ∧ q (some i) H1) : tPart t σ H q := h
theorem r_i1 {j : Int} {F : Int → Prop} (h : F j) : ∃ i, V.int j = .int i ∧ F i := ⟨j, rfl, h⟩
theorem r_slL {a : Addr} {xs : List V} {lo hi : Option Int} (h : H a = some (.lst xs)) (q : ∀ p, H p = none → Q (.ref p) (upd H p (.lst (cutV xs lo hi)))) : rSlL K (.ref a) lo hi H Q := ⟨a, xs, rfl, SqL.of h, q⟩
end
theorem take_at {α : Type} {xs : List α} {c i : Nat} {x : α} (h : (xs.take c)[i]? = some x) : i < c ∧ xs[i]? = some x := by
  by_cases hi : i < c
  · rw [List.getElem?_take_of_lt hi] at h; exact ⟨hi, h⟩
  · rw [List.getElem?_eq_none (by rw [List.length_take]; omega)] at h; cases h
theorem tk_succ {α : Type} {l : List α} {i : Nat} {x : α} (h : l[i]? = some x) : l.take (i + 1) = l.take i ++ [x] := by rw [List.take_add_one, h]; rfl
end Lw
/-! deep data: equal exactly if the same (no bools, no dicts) -/
namespace Lw
open PySem PySem.Spec PyProof.Rows L2
mutual
def pl : PyData → Bool
  | .none => true
  | .bool _ => false
  | .int _ => true
  | .str _ => true
  | .list xs => plAll xs
  | .tuple xs => plAll xs
  | .dict _ => false
def plAll : List PyData → Bool
  | [] => true
  | x :: r => pl x && plAll r
end
mutual
theorem eqv_iff : ∀ a b : PyData, pl a = true → pl b = true → (PyData.eqv a b = true ↔ a = b)
  | .none, b, _, hb => by cases b <;> simp [PyData.eqv]
  | .bool _, _, ha, _ => by simp [pl] at ha
  | .int i, b, _, hb => by cases b <;> simp [PyData.eqv, pl] at hb ⊢
  | .str s, b, _, hb => by cases b <;> simp [PyData.eqv, pl] at hb ⊢
  | .list xs, b, ha, hb => by
    cases b with
    | list ys =>
      rw [PyData.eqv, eqvAll_iff xs ys (by simpa [pl] using ha) (by simpa [pl] using hb)]
      exact ⟨fun h => by rw [h], fun h => by cases h; rfl⟩
    | _ => simp [PyData.eqv]
  | .tuple xs, b, ha, hb => by
    cases b with
    | tuple ys =>
      rw [PyData.eqv, eqvAll_iff xs ys (by simpa [pl] using ha) (by simpa [pl] using hb)]
      exact ⟨fun h => by rw [h], fun h => by cases h; rfl⟩
    | _ => simp [PyData.eqv]
  | .dict _, _, ha, _ => by simp [pl] at ha
theorem eqvAll_iff : ∀ a b : List PyData, plAll a = true → plAll b = true → (PyData.eqvAll a b = true ↔ a = b)
  | [], [], _, _ => by simp [PyData.eqvAll]
  | [], _ :: _, _, _ => by simp [PyData.eqvAll]
  | _ :: _, [], _, _ => by simp [PyData.eqvAll]
  | x :: xs, y :: ys, ha, hb => by
    simp only [plAll, Bool.and_eq_true] at ha hb
    rw [PyData.eqvAll, Bool.and_eq_true, eqv_iff x y ha.1 hb.1, eqvAll_iff xs ys ha.2 hb.2]
    exact ⟨fun h => by rw [h.1, h.2], fun h => by cases h; exact ⟨rfl, rfl⟩⟩
end
section
variable {K : PySem.W.Frag} {H H' : Hp}
mutual
theorem dp_mono (s : Same H H') : ∀ {v : V} {d : PyData}, Dp K H v d → Dp K H' v d
  | _, _, .non => .non
  | _, _, .bl b => .bl b
  | _, _, .int i => .int i
  | _, _, .str x => .str x
  | _, _, .lst h a => .lst (s.seq h) (dpAll_mono s a)
  | _, _, .tup h a => .tup (h.imp (fun h => h.imp (fun h => s _ _ h) (fun ⟨o, h⟩ => ⟨o, s _ _ h⟩)) id) (dpAll_mono s a)
theorem dpAll_mono (s : Same H H') : ∀ {vs : List V} {ds : List PyData}, DpAll K H vs ds → DpAll K H' vs ds
  | _, _, .nil => .nil
  | _, _, .cons h a => .cons (dp_mono s h) (dpAll_mono s a)
end
theorem dpAll_push : ∀ {vs : List V} {ds : List PyData} {v : V} {d : PyData}, DpAll K H vs ds → Dp K H v d → DpAll K H (vs ++ [v]) (ds ++ [d])
  | _, _, _, _, .nil, e => .cons e .nil
  | _, _, _, _, .cons h a, e => .cons h (dpAll_push a e)
theorem dpAll_len : ∀ {vs : List V} {ds : List PyData}, DpAll K H vs ds → vs.length = ds.length
  | _, _, .nil => rfl
  | _, _, .cons _ a => congrArg Nat.succ (dpAll_len a)
theorem dpAll_at : ∀ {vs : List V} {ds : List PyData} {i : Nat} {v : V}, DpAll K H vs ds → vs[i]? = some v → ∃ d, ds[i]? = some d ∧ Dp K H v d
  | _, _, _, _, .nil, e => by simp at e
  | _, _, 0, _, .cons h a, e => by cases e; exact ⟨_, rfl, h⟩
  | _, _, i + 1, v, .cons h a, e => dpAll_at (i := i) (v := v) a (by simpa using e)
theorem dpAll_get : ∀ {vs : List V} {ds : List PyData} {i : Nat} {d : PyData}, DpAll K H vs ds → ds[i]? = some d → ∃ v, vs[i]? = some v ∧ Dp K H v d
  | _, _, _, _, .nil, e => by simp at e
  | _, _, 0, _, .cons h a, e => by cases e; exact ⟨_, rfl, h⟩
  | _, _, i + 1, d, .cons h a, e => dpAll_get (i := i) (d := d) a (by simpa using e)
end
section
variable {K : PySem.W.Frag} {H : Hp} {Q : VK}
theorem r_eqDd {x y : V} {d e : PyData} (h1 : Dp K H x d) (h2 : Dp K H y e) (s1 : SeqAt.shaped d = true) (s2 : SeqAt.shaped e = true) (p1 : pl d = true) (p2 : pl e = true) (q : ∀ b : Bool, (b = true ↔ d = e) → Q (.bl b) H) : rEqD K x y H Q :=
  ⟨d, e, h1, h2, s1, s2, q _ (eqv_iff d e p1 p2)⟩
theorem r_neDd {x y : V} {d e : PyData} (h1 : Dp K H x d) (h2 : Dp K H y e) (s1 : SeqAt.shaped d = true) (s2 : SeqAt.shaped e = true) (p1 : pl d = true) (p2 : pl e = true) (q : ∀ b : Bool, (b = true ↔ ¬ d = e) → Q (.bl b) H) : rNeD K x y H Q :=
  ⟨d, e, h1, h2, s1, s2, q _ (by rw [Bool.not_eq_true', ← eqv_iff d e p1 p2, Bool.not_eq_true])⟩
theorem plAll_mem : ∀ {ds : List PyData} {d : PyData}, plAll ds = true → d ∈ ds → pl d = true
  | [], _, _, h => absurd h List.not_mem_nil
  | x :: r, d, h, hm => by
    simp only [plAll, Bool.and_eq_true] at h
    rcases List.mem_cons.mp hm with e | e
    · rw [e]; exact h.1
    · exact plAll_mem h.2 e
theorem r_inDd {x y : V} {d : PyData} {ds : List PyData} (h1 : Dp K H x d) (h2 : Dp K H y (.list ds)) (s1 : SeqAt.shaped d = true) (s2 : SeqAt.shaped (.list ds) = true) (p1 : pl d = true) (p2 : plAll ds = true) (q : ∀ b : Bool, (b = true ↔ d ∈ ds) → Q (.bl b) H) : rInD K x y H Q := by
  refine ⟨d, ds, h1, h2, s1, s2, q _ ?_⟩
  rw [List.any_eq_true]
  constructor
  · rintro ⟨z, hz, e⟩
    rw [eqv_iff z d (plAll_mem p2 hz) p1] at e
    rw [← e]; exact hz
  · intro hm
    exact ⟨d, hm, (eqv_iff d d p1 p1).mpr rfl⟩
theorem r_indexDd {a : Addr} {x y : V} {d : PyData} {ds : List PyData} {j : Nat} (hx : x = .ref a) (h1 : Dp K H x (.list ds)) (h2 : Dp K H y d) (s1 : SeqAt.shaped (.list ds) = true) (s2 : SeqAt.shaped d = true) (p1 : plAll ds = true) (p2 : pl d = true)
    (hj : ds[j]? = some d) (hm : ∀ m, m < j → ds[m]? ≠ some d) (q : Q (.int j) H) : rIndexD K x [y] H Q := by
  subst hx
  refine ⟨a, y, d, ds, j, d, rfl, rfl, h1, h2, s1, s2, hj, (eqv_iff d d p2 p2).mpr rfl, fun m z hmj hz => ?_, q⟩
  rw [Bool.eq_false_iff]
  intro e
  rw [eqv_iff z d (plAll_mem p1 (List.mem_of_getElem? hz)) p2] at e
  rw [e] at hz
  exact hm m hmj hz
end
theorem r_iteP {b : Bool} {p : Prop} (h : b = true ↔ p) {A B : Prop} (h1 : p → A) (h2 : ¬ p → B) : if b = true then A else B := by
  cases b with
  | true => exact h1 (h.mp rfl)
  | false => exact h2 fun z => Bool.noConfusion (h.mpr z)
theorem first_of {α : Type} : ∀ {l : List α} {i : Nat} {y : α}, l[i]? = some y → ∃ j, j ≤ i ∧ l[j]? = some y ∧ ∀ m, m < j → l[m]? ≠ some y
  | [], i, y, h => by simp at h
  | x :: l, 0, y, h => ⟨0, Nat.le_refl _, h, fun m hm => absurd hm (Nat.not_lt_zero _)⟩
  | x :: l, i + 1, y, h => by
    by_cases e : (x :: l)[0]? = some y
    · exact ⟨0, Nat.zero_le _, e, fun m hm => absurd hm (Nat.not_lt_zero _)⟩
    · rw [List.getElem?_cons_succ] at h
      obtain ⟨j, h1, h2, h3⟩ := first_of h
      refine ⟨j + 1, by omega, by rw [List.getElem?_cons_succ]; exact h2, fun m hm => ?_⟩
      cases m with
      | zero => exact e
      | succ m => rw [List.getElem?_cons_succ]; exact h3 m (by omega)
/-! shapes -/
theorem sh_list {ds : List PyData} (h : ∀ d ∈ ds, PyData.canLay0 d = true ∧ PyData.depth d ≤ 63) : SeqAt.shaped (.list ds) = true := by
  unfold SeqAt.shaped
  have h1 : ∀ ds : List PyData, (∀ d ∈ ds, PyData.canLay0 d = true ∧ PyData.depth d ≤ 63) → PyData.canLayAll0 ds = true ∧ PyData.depthAll ds ≤ 63 := fun ds => by
    induction ds with
    | nil => intro _; exact ⟨by rw [PyData.canLayAll0], by rw [PyData.depthAll]; omega⟩
    | cons x r ih =>
      intro h
      obtain ⟨e1, e2⟩ := ih fun d hd => h d (List.mem_cons_of_mem _ hd)
      obtain ⟨e3, e4⟩ := h x List.mem_cons_self
      exact ⟨by rw [PyData.canLayAll0, e1, e3]; rfl, by rw [PyData.depthAll]; exact Nat.max_le.mpr ⟨e4, e2⟩⟩
  obtain ⟨e1, e2⟩ := h1 ds h
  rw [PyData.canLay0, e1, PyData.depth]
  exact decide_eq_true (by omega)
theorem plAll_of : ∀ {ds : List PyData}, (∀ d ∈ ds, pl d = true) → plAll ds = true
  | [], _ => rfl
  | x :: r, h => by
    show (pl x && plAll r) = true
    rw [h x List.mem_cons_self, plAll_of fun d hd => h d (List.mem_cons_of_mem _ hd)]; rfl
theorem plI (xs : List Int) : pl (dI xs) = true := plAll_of fun d hd => by
  obtain ⟨i, _, rfl⟩ := List.mem_map.mp hd; rfl
theorem dI_inj {xs ys : List Int} (h : dI xs = dI ys) : xs = ys := by
  have h2 : xs.map PyData.int = ys.map PyData.int := by unfold dI at h; injection h
  exact (List.map_inj_right (fun a b e => by cases e; rfl)).mp h2
/-! keys: a number and two rows -/
def dK (k : Int × List Int × List Int) : PyData := .list [.int k.1, dI k.2.1, dI k.2.2]
theorem dK_inj {x y : Int × List Int × List Int} (h : dK x = dK y) : x = y := by
  unfold dK at h
  injection h with h
  injection h with h1 h
  injection h with h2 h
  injection h with h3 h
  injection h1 with h1
  exact Prod.ext h1 (Prod.ext (dI_inj h2) (dI_inj h3))
theorem plK (k : Int × List Int × List Int) : pl (dK k) = true := by
  unfold dK
  rw [pl]
  refine plAll_of fun d hd => ?_
  rcases List.mem_cons.mp hd with e | hd
  · rw [e]; rfl
  · rcases List.mem_cons.mp hd with e | hd
    · rw [e]; exact plI _
    · rw [List.mem_singleton.mp hd]; exact plI _
theorem layI1 (xs : List Int) : PyData.canLay0 (dI xs) = true := by unfold dI; rw [PyData.canLay0]; exact layI xs
theorem depI1 (xs : List Int) : PyData.depth (dI xs) = 1 := by unfold dI; rw [PyData.depth, depI]
theorem kItems (k : Int × List Int × List Int) : ∀ d ∈ [PyData.int k.1, dI k.2.1, dI k.2.2], PyData.canLay0 d = true ∧ PyData.depth d ≤ 1 := fun d hd => by
  rcases List.mem_cons.mp hd with e | hd
  · rw [e]; exact ⟨by rw [PyData.canLay0], by rw [PyData.depth]; omega⟩
  · rcases List.mem_cons.mp hd with e | hd
    · rw [e]; exact ⟨layI1 _, by rw [depI1]; omega⟩
    · rw [List.mem_singleton.mp hd]; exact ⟨layI1 _, by rw [depI1]; omega⟩
theorem shK (k : Int × List Int × List Int) : SeqAt.shaped (dK k) = true := sh_list fun d hd => ⟨(kItems k d hd).1, by have := (kItems k d hd).2; omega⟩
theorem layK (k : Int × List Int × List Int) : PyData.canLay0 (dK k) = true ∧ PyData.depth (dK k) ≤ 2 := by
  unfold dK
  refine ⟨?_, ?_⟩
  · have := SeqAt.canLay_of_shaped (shK k); unfold dK at this; exact this
  · rw [PyData.depth, PyData.depthAll, PyData.depthAll, PyData.depthAll, PyData.depthAll, depI1, depI1, PyData.depth]; decide
theorem shKs (ks : List (Int × List Int × List Int)) : SeqAt.shaped (.list (ks.map dK)) = true := sh_list fun d hd => by
  obtain ⟨k, _, rfl⟩ := List.mem_map.mp hd
  exact ⟨(layK k).1, by have := (layK k).2; omega⟩
theorem plKs (ks : List (Int × List Int × List Int)) : plAll (ks.map dK) = true := plAll_of fun d hd => by
  obtain ⟨k, _, rfl⟩ := List.mem_map.mp hd; exact plK k
/-! pairs -/
def dT (q : Int × Int) : PyData := .tuple [.int q.1, .int q.2]
theorem Tp.dp {K : PySem.W.Frag} {C : Hp} : ∀ {ts : List Addr} {qs : List (Int × Int)}, Tp C ts qs → DpAll K C (ts.map V.ref) (qs.map dT)
  | [], [], _ => .nil
  | [], _ :: _, h => by have := h.1; simp at this
  | _ :: _, [], h => by have := h.1; simp at this
  | a :: as, r :: rs, h => by
    obtain ⟨r', h1, h2⟩ := h.2 0 a rfl
    have e : r = r' := Option.some.inj h1
    refine .cons (.tup (SqT.of (by rw [e]; exact h2)) (.cons (.int _) (.cons (.int _) .nil))) (Tp.dp ⟨by have := h.1; simpa using this, fun i b hb => ?_⟩)
    obtain ⟨r2, h3, h4⟩ := h.2 (i + 1) b hb
    exact ⟨r2, h3, h4⟩
theorem layT (q : Int × Int) : PyData.canLay0 (dT q) = true ∧ PyData.depth (dT q) ≤ 2 := by
  unfold dT
  exact ⟨rfl, by rw [PyData.depth, PyData.depthAll, PyData.depthAll, PyData.depthAll, PyData.depth, PyData.depth]; decide⟩
theorem shTs (qs : List (Int × Int)) : SeqAt.shaped (.list (qs.map dT)) = true := sh_list fun d hd => by
  obtain ⟨k, _, rfl⟩ := List.mem_map.mp hd
  exact ⟨(layT k).1, by have := (layT k).2; omega⟩
theorem plTs (qs : List (Int × Int)) : plAll (qs.map dT) = true := plAll_of fun d hd => by
  obtain ⟨k, _, rfl⟩ := List.mem_map.mp hd; rfl
theorem r_neNil {K : PySem.W.Frag} {H : Hp} {Q : VK} {a b : Addr} {ts : List Addr} {qs : List (Int × Int)} (h1 : H a = some (.lst (ts.map V.ref))) (ht : Tp H ts qs) (h2 : H b = some (.lst [])) (q : ∀ z : Bool, (z = true ↔ ts ≠ []) → Q (.bl z) H) : rNeD K (.ref a) (.ref b) H Q := by
  refine r_neDd (d := .list (qs.map dT)) (e := .list []) (.lst (SqL.of h1) ht.dp) (.lst (SqL.of h2) .nil) (shTs qs) rfl (plTs qs) rfl fun z hz => q z ?_
  rw [hz]
  constructor
  · intro h e
    have := ht.1
    rw [e] at this
    exact h (by rw [List.length_eq_zero_iff.mp this.symm]; rfl)
  · intro h e
    injection e with e
    rw [List.map_eq_nil_iff] at e
    have := ht.1
    rw [e] at this
    exact h (List.length_eq_zero_iff.mp this)
end Lw
/-! a table: rows of ints as tuple keys, each with its place as value -/
namespace Lw
open PySem PySem.Spec PyProof.Rows L2
def tkey (k : List Int) : List Key := k.map Sum.inl
theorem tkey_inj {k l : List Int} (h : tkey k = tkey l) : k = l := (List.map_inj_right (fun a b e => by cases e; rfl)).mp h
theorem tkey_kV (k : List Int) : (tkey k).map kV = k.map V.int := by
  unfold tkey; rw [List.map_map]; rfl
def tabF (i : Nat) : List (List Int) → List (List Key × V)
  | [] => []
  | k :: r => (tkey k, .int (i : Int)) :: tabF (i + 1) r
def tab (ks : List (List Int)) : List (List Key × V) := tabF 0 ks
theorem tabF_len : ∀ (ks : List (List Int)) (i : Nat), (tabF i ks).length = ks.length
  | [], _ => rfl
  | _ :: r, i => congrArg Nat.succ (tabF_len r (i + 1))
theorem tab_len (ks : List (List Int)) : (tab ks).length = ks.length := tabF_len ks 0
theorem tabF_get : ∀ (ks : List (List Int)) (i : Nat) {j : Nat} {k : List Int}, ks.Nodup → ks[j]? = some k → valV (tabF i ks) (tkey k) = some (.int ((i + j : Nat) : Int))
  | [], _, _, _, _, h => by simp at h
  | x :: r, i, j, k, hn, h => by
    rw [List.nodup_cons] at hn
    unfold valV tabF
    by_cases e : x = k
    · have hj : j = 0 := by
        cases j with
        | zero => rfl
        | succ j => rw [List.getElem?_cons_succ] at h; exact absurd (e ▸ List.mem_of_getElem? h) hn.1
      subst hj e
      rw [List.find?_cons_of_pos (by simp)]; rfl
    · rw [List.find?_cons_of_neg (by simp only [decide_eq_true_eq]; exact fun z => e (tkey_inj z))]
      cases j with
      | zero => simp at h; exact absurd h e
      | succ j =>
        rw [List.getElem?_cons_succ] at h
        have := tabF_get r (i + 1) hn.2 h
        unfold valV at this
        rw [this]
        congr 2
        omega
theorem tabF_none : ∀ (ks : List (List Int)) (i : Nat) {k : List Int}, k ∉ ks → valV (tabF i ks) (tkey k) = none
  | [], _, _, _ => rfl
  | x :: r, i, k, h => by
    unfold valV tabF
    rw [List.find?_cons_of_neg (by simp only [decide_eq_true_eq]; exact fun z => h (by rw [← tkey_inj z]; exact List.mem_cons_self))]
    have := tabF_none r (i + 1) (k := k) fun z => h (List.mem_cons_of_mem _ z)
    unfold valV at this
    exact this
theorem tab_get {ks : List (List Int)} {j : Nat} {k : List Int} (hn : ks.Nodup) (h : ks[j]? = some k) : valV (tab ks) (tkey k) = some (.int (j : Int)) := by
  have := tabF_get ks 0 hn h
  rw [Nat.zero_add] at this; exact this
theorem tab_none {ks : List (List Int)} {k : List Int} (h : k ∉ ks) : valV (tab ks) (tkey k) = none := tabF_none ks 0 h
theorem tabF_push : ∀ (ks : List (List Int)) (i : Nat) (k : List Int), tabF i ks ++ [(tkey k, .int ((i + ks.length : Nat) : Int))] = tabF i (ks ++ [k])
  | [], _, _ => rfl
  | x :: r, i, k => by
    show (tkey x, V.int (i : Int)) :: (tabF (i + 1) r ++ _) = (tkey x, V.int (i : Int)) :: tabF (i + 1) (r ++ [k])
    rw [← tabF_push r (i + 1) k, show i + (x :: r).length = i + 1 + r.length by rw [List.length_cons]; omega]
theorem tabF_any : ∀ (ks : List (List Int)) (i : Nat) {k : List Int}, k ∉ ks → (tabF i ks).any (fun kv => decide (kv.1 = tkey k)) = false
  | [], _, _, _ => rfl
  | x :: r, i, k, h => by
    show (decide (tkey x = tkey k) || (tabF (i + 1) r).any _) = false
    rw [tabF_any r (i + 1) fun z => h (List.mem_cons_of_mem _ z), decide_eq_false (fun z => h (by rw [← tkey_inj z]; exact List.mem_cons_self))]; rfl
theorem tab_put {ks : List (List Int)} {k : List Int} (h : k ∉ ks) : putK (tab ks) (tkey k) (.int (ks.length : Int)) = tab (ks ++ [k]) := by
  unfold putK tab
  rw [tabF_any ks 0 h]
  simp only [Bool.false_eq_true, if_false]
  have := tabF_push ks 0 k
  rw [Nat.zero_add] at this
  exact this
end Lw
namespace Lw
open PySem PySem.Spec PyProof.Rows L2
section
variable {X : Cx}
def rTupleOf (K : PySem.W.Frag) : List V → Hp → VK → Prop := fun xs H Q => ∃ p ys, xs = [.ref p] ∧ ((SqL K H p ys ∧ ∀ l, H l = none → Q (.ref l) (upd H l (.tup ys))) ∨ (SqT K H p ys ∧ Q (.ref p) H))
theorem call_tuple_ofK {K : PySem.W.Frag} (h : X.K = K) : CallR X (.type "tuple") (rTupleOf K) := by subst h; exact call_tuple_of
end
section
variable {K : PySem.W.Frag} {σ : L2.St} {H : Hp} {Q : VK} {D : Ends}
theorem r_tupleOf {a : Addr} {xs : List V} (h : H a = some (.lst xs)) (q : ∀ l, H l = none → Q (.ref l) (upd H l (.tup xs))) : rTupleOf K [.ref a] H Q := ⟨a, xs, rfl, .inl ⟨SqL.of h, q⟩⟩
theorem r_lenTb {a : Addr} {kvs : List (List Key × V)} (h : H a = some (.dT kvs)) (q : Q (.int kvs.length) H) : L2.rLenT [.ref a] H Q := ⟨a, kvs, rfl, h, q⟩
theorem r_dget {td ty : TE} (h : td σ H fun x H1 => ty σ H1 fun y H2 => ∃ a v, x = .ref a ∧ DGet H2 a y (some v) ∧ Q v H2) : tDGet td ty σ H Q := h
theorem r_dnot {td ty : TE} (h : ty σ H fun y H1 => td σ H1 fun x H2 => ∃ a o, x = .ref a ∧ DGet H2 a y o ∧ Q (.bl (!o.isSome)) H2) : tDNotIn ty td σ H Q := h
theorem r_dput {td ty tv : TE} (h : tv σ H fun v H1 => td σ H1 fun x H2 => ty σ H2 fun y H3 => ∃ a H4, x = .ref a ∧ DPut H3 a y v H4 ∧ D.nx σ H4) : sDPut td ty tv D σ H := h
theorem r_dnewT (h : ∀ p, H p = none → Q (.ref p) (upd H p (.dT []))) : tDNewT σ H Q := h
end
end Lw
/-! dicts whose keys are pairs: an int (or a text) and a tuple of ints (and texts) -/
namespace PySem
open Sem (wp)
section
variable {prog : Program} {w : World} {K : Type} [DecidableEq K] (knd : KeyKind prog w K)
def IsPairKey (h : Heap) (k : K × List K) (a : Addr) : Prop := ∃ o v b n, h.get? a = some o ∧ o.cls = .type "tuple" ∧ o.data = .seq #[v, .ref b] n ∧ knd.is k.1 v = true ∧ IsTupleKey knd h k.2 b
variable {knd}
theorem IsPairKey.typeIs {s : Shared} {k : K × List K} {a : Addr} (x : IsPairKey knd s.heap k a) : s.TypeIs (.ref a) "tuple" := let ⟨o, _, _, _, ho, hc, _⟩ := x; ⟨o, ho, hc⟩
theorem IsPairKey.inj {h : Heap} {a : Addr} {x y : K × List K} (hx : IsPairKey knd h x a) (hy : IsPairKey knd h y a) : x = y := by
  obtain ⟨o, v, b, n, ho, _, hd, h1, h2⟩ := hx
  obtain ⟨o', v', b', n', ho', _, hd', h1', h2'⟩ := hy
  obtain rfl : o = o' := Option.some.inj (ho.symm.trans ho')
  rw [hd] at hd'
  injection hd' with q _
  have q2 := congrArg Array.toList q
  simp only [List.cons.injEq, Value.ref.injEq, and_true] at q2
  obtain ⟨rfl, rfl⟩ := q2
  exact Prod.ext (knd.inj _ _ _ h1 h1') (h2.inj h2')
theorem IsPairKey.keeps {h h' : Heap} {k : K × List K} {a d : Addr} {o : Obj} {es ep} (x : IsPairKey knd h k a) (ho : h.get? d = some o) (hd : o.data = .dict es ep) (hs : Heap.SameBut d h h') : IsPairKey knd h' k a := by
  obtain ⟨o', v, b, n, ho', hc, hd', h1, h2⟩ := x
  have hne : a ≠ d := by
    rintro rfl
    obtain rfl : o' = o := Option.some.inj (ho'.symm.trans ho)
    rw [hd] at hd'; exact nomatch hd'
  exact ⟨o', v, b, n, (hs.2 a hne).trans ho', hc, hd', h1, h2.keeps ho hd hs⟩
def pairKeyHash (knd : KeyKind prog w K) (k : K × List K) : Int := reduceHash (Builtin.Tuple.tupleHashOf [knd.hash k.1, tupleKeyHash knd k.2])
variable {A : Around} {E : Value → Shared → Prop} {s : Shared}
theorem wpAny_pyHash_pair {k : K × List K} {a : Addr} {Q : Int → Shared → Prop} (hu : A.units + 1 < cLine) (hk : IsPairKey knd s.heap k a) (h : Q (pairKeyHash knd k) { s with toks := s.toks + (k.2.length + 3) }) :
    wpAny (model prog w) A (pyHash (.ref a)) Q E s := by
  have hT := hk.typeIs
  obtain ⟨o, v, b', n, ho, _, hd, h1, h2⟩ := hk
  unfold pyHash
  first | unfold pyHashByItsType | skip
  first | refine wpAny_bind (wpAny_cRoomFor_or (.inr (by omega)) ?_) | skip
  refine wpAny_bind (wpAny_specialOf hT F.slot_tuple_hash.lookup ?_)
  show wpAny _ _ (if (some (Value.builtin "tuple.__hash__") == some Value.none) = true then _ else _) Q E s
  rw [if_neg (by rw [beq_builtin_none]; exact Bool.false_ne_true)]
  refine wpAny_bind (wpAny_specialOf hT F.slot_tuple_hash.lookup ?_)
  show wpAny _ _ (callSpecialIfBoundUnlessNone? (.ref a) "__hash__" _ >>= _) Q E s
  refine wpAny_bind (wpAny_callSpecialIfBoundUnlessNone?_slot hT F.slot_tuple_hash (wpAny_call_entry F.slot_tuple_hash hT F.entry_tuple_hash ?_ (F.args_tuple_hash_1 _)))
  show wpAny _ _ (Builtin.Tuple.tupleItemsOf (.ref a) >>= _) _ _ s
  refine wpAny_bind (wpAny_tupleItemsOf ho hd ?_)
  refine wpAny_bind ?_
  rw [← Array.forIn_toList]
  refine wpAny_forIn_list _
    (fun rest (b : Array Int) s' => (rest = [v, .ref b'] ∧ b.toList = [] ∧ s' = s) ∨ (rest = [.ref b'] ∧ b.toList = [knd.hash k.1] ∧ s' = { s with toks := s.toks + 1 }) ∨
      (rest = [] ∧ b.toList = [knd.hash k.1, tupleKeyHash knd k.2] ∧ s' = { s with toks := s.toks + (k.2.length + 2) }))
    _ ?_ ?_ _ _ (.inl ⟨rfl, rfl, rfl⟩)
  · rintro x rest b s' (⟨hr, hb, rfl⟩ | ⟨hr, hb, rfl⟩ | ⟨hr, _, _⟩)
    · obtain ⟨rfl, rfl⟩ := List.cons.inj hr
      refine wpAny_bind (knd.pyHash h1 ?_)
      first
        | exact wpAny_pure (.inr (.inl ⟨rfl, by simp [hb], rfl⟩))
        | exact wpAny_bind (wpAny_pure (wpAny_pure (.inr (.inl ⟨rfl, by simp [hb], rfl⟩))))
    · obtain ⟨rfl, rfl⟩ := List.cons.inj hr
      refine wpAny_bind (wpAny_pyHash_tuple (s := { s with toks := s.toks + 1 }) ?_ h2 ?_)
      · exact hu
      · first
          | exact wpAny_pure (.inr (.inr ⟨rfl, by simp [hb], by simp; omega⟩))
          | exact wpAny_bind (wpAny_pure (wpAny_pure (.inr (.inr ⟨rfl, by simp [hb], by simp; omega⟩))))
    · cases hr
  · rintro b s' (⟨hr, _⟩ | ⟨hr, _⟩ | ⟨_, hb, rfl⟩)
    · cases hr
    · cases hr
    · show wpAny _ _ (retInt (Builtin.Tuple.tupleHashOf b.toList)) _ _ _
      rw [hb]
      refine wpAny_ret_mkInt ?_
      show wpAny _ _ (if (decide (-(2 : Int) ^ 63 ≤ Builtin.Tuple.tupleHashOf [knd.hash k.1, tupleKeyHash knd k.2]) && decide (Builtin.Tuple.tupleHashOf [knd.hash k.1, tupleKeyHash knd k.2] < 2 ^ 63)) = true then _ else _) Q E _
      unfold pairKeyHash reduceHash at h
      by_cases hr : (decide (-(2 : Int) ^ 63 ≤ Builtin.Tuple.tupleHashOf [knd.hash k.1, tupleKeyHash knd k.2]) && decide (Builtin.Tuple.tupleHashOf [knd.hash k.1, tupleKeyHash knd k.2] < 2 ^ 63)) = true
      · rw [if_pos hr]
        rw [if_pos hr] at h
        exact wpAny_pure (by simpa [Nat.add_assoc] using h)
      · rw [if_neg hr]
        rw [if_neg hr] at h
        exact wpAny_bind (wpAny_rule (wpAny_pure (by simpa [Nat.add_assoc] using h)))

theorem wpAny_eqIsQuiet_tup {ks : List K} {a : Addr} {m : Nat} {Q : Bool → Shared → Prop} (hk : IsTupleKey knd s.heap ks a) (h : Q true s) : wpAny (model prog w) A (eqIsQuiet (m + 1) (.ref a)) Q E s := by
  have hT := hk.typeIs
  obtain ⟨o, items, n, ho, _, hd, hi⟩ := hk
  unfold eqIsQuiet
  refine wpAny_bind (wpAny_specialOf hT F.slot_tuple_eq.lookup ?_)
  show wpAny _ _ (isInstance (.ref a) (.type "tuple") >>= _) _ _ s
  refine wpAny_bind (wpAny_isInstance hT isSubtype_tuple_tuple ?_)
  simp only [Bool.not_true, Bool.false_eq_true, if_false]
  refine wpAny_bind (wpAny_seqItems ho hd ?_)
  refine wpAny_bind ?_
  show wpAny _ _ (forIn items _ _) _ _ s
  rw [← Array.forIn_toList]
  refine wpAny_forIn_list _ (fun rest r s' => r.1 = none ∧ s' = s ∧ ∀ v ∈ rest, carriedByValue v = true) _ ?_ ?_ _ _ ⟨rfl, rfl, hi.byValue⟩
  · rintro v rest r s' ⟨hr, rfl, hall⟩
    rw [eqIsQuiet_byValue _ (hall v List.mem_cons_self)]
    refine wpAny_bind (wpAny_pure ?_)
    simp only [Bool.not_true, Bool.false_eq_true, if_false]
    exact wpAny_pure ⟨rfl, rfl, fun u hu' => hall u (List.mem_cons_of_mem _ hu')⟩
  · rintro ⟨r1, r2⟩ s' ⟨hr, rfl, _⟩
    simp only at hr
    subst hr
    exact wpAny_pure h
theorem wpAny_eqIsQuiet_pair {k : K × List K} {a : Addr} {Q : Bool → Shared → Prop} (hk : IsPairKey knd s.heap k a) (h : Q true s) : wpAny (model prog w) A (eqIsQuiet 8 (.ref a)) Q E s := by
  have hT := hk.typeIs
  obtain ⟨o, v, b', n, ho, _, hd, h1, h2⟩ := hk
  unfold eqIsQuiet
  refine wpAny_bind (wpAny_specialOf hT F.slot_tuple_eq.lookup ?_)
  show wpAny _ _ (isInstance (.ref a) (.type "tuple") >>= _) _ _ s
  refine wpAny_bind (wpAny_isInstance hT isSubtype_tuple_tuple ?_)
  simp only [Bool.not_true, Bool.false_eq_true, if_false]
  refine wpAny_bind (wpAny_seqItems ho hd ?_)
  refine wpAny_bind ?_
  show wpAny _ _ (forIn #[v, Value.ref b'] _ _) _ _ s
  rw [← Array.forIn_toList]
  refine wpAny_forIn_list _ (fun rest r s' => r.1 = none ∧ s' = s ∧ ∀ u ∈ rest, u = v ∨ u = .ref b') _ ?_ ?_ _ _ ⟨rfl, rfl, fun u hu => by simpa using hu⟩
  · rintro u rest r s' ⟨hr, rfl, hall⟩
    have hnext : ∀ u ∈ rest, u = v ∨ u = .ref b' := fun u hu' => hall u (List.mem_cons_of_mem _ hu')
    rcases hall u List.mem_cons_self with e | e
    · subst e
      rw [eqIsQuiet_byValue _ (knd.byValue _ _ h1)]
      refine wpAny_bind (wpAny_pure ?_)
      simp only [Bool.not_true, Bool.false_eq_true, if_false]
      exact wpAny_pure ⟨rfl, rfl, hnext⟩
    · subst e
      refine wpAny_bind (wpAny_eqIsQuiet_tup (m := 6) h2 ?_)
      simp only [Bool.not_true, Bool.false_eq_true, if_false]
      exact wpAny_pure ⟨rfl, rfl, hnext⟩
  · rintro ⟨r1, r2⟩ s' ⟨hr, rfl, _⟩
    simp only at hr
    subst hr
    exact wpAny_pure h
theorem pair_eq_tree {x y : K × List K} {a b : Addr} {P : Fin → Shared → Prop} (hu : A.units < cLine) (hx : IsPairKey knd s.heap x a) (hy : IsPairKey knd s.heap y b) (h : P (.done (.ret (.bool (decide (x = y))))) s) :
    wpAny (model prog w) A (Builtin.«tuple.__eq__» ⟨[.ref a, .ref b], []⟩) P E s := by
  have hTb := hy.typeIs
  obtain ⟨oa, va, ba, na, hoa, _, hda, hia, hja⟩ := hx
  obtain ⟨ob, vb, bb, nb, hob, _, hdb, hib, hjb⟩ := hy
  show wpAny _ _ (isInstance (.ref b) (.type "tuple") >>= _) _ _ s
  refine wpAny_bind (wpAny_isInstance hTb isSubtype_tuple_tuple ?_)
  simp only [Bool.not_true, Bool.false_eq_true, if_false]
  refine wpAny_bind (wpAny_tupleItemsOf hoa hda ?_)
  refine wpAny_bind (wpAny_tupleItemsOf hob hdb ?_)
  refine wpAny_bind ?_
  refine wpAny_forIn_list _
    (fun rest r s' => r.1 = none ∧ s' = s ∧ ((rest = [(va, vb), (.ref ba, .ref bb)]) ∨ (rest = [(.ref ba, .ref bb)] ∧ x.1 = y.1) ∨ (rest = [] ∧ x.1 = y.1 ∧ x.2 = y.2)))
    _ ?_ ?_ _ _ ⟨rfl, rfl, .inl rfl⟩
  · rintro ⟨u, v⟩ rest r s' ⟨hr, rfl, (hz | ⟨hz, e1⟩ | ⟨hz, _⟩)⟩
    · obtain ⟨e, rfl⟩ := List.cons.inj hz
      obtain ⟨rfl, rfl⟩ := Prod.mk.inj e
      refine wpAny_bind (knd.eqBool (a := x.1) (b := y.1) hia hib ?_)
      by_cases hk : x.1 = y.1
      · rw [decide_eq_true hk]
        simp only [Bool.not_true, Bool.false_eq_true, if_false]
        exact wpAny_pure ⟨by first | trivial | rfl, by first | trivial | rfl, .inr (.inl ⟨by first | trivial | rfl, hk⟩)⟩
      · rw [decide_eq_false hk]
        simp only [Bool.not_false, if_true]
        have hf : decide (x = y) = false := by simp [Prod.ext_iff, hk]
        rw [hf] at h
        exact wpAny_bind (wpAny_pure (wpAny_pure (wpAny_pure h)))
    · obtain ⟨e, rfl⟩ := List.cons.inj hz
      obtain ⟨rfl, rfl⟩ := Prod.mk.inj e
      refine wpAny_bind (wpAny_eqBool_tuple hu hja hjb ?_)
      by_cases hk : x.2 = y.2
      · rw [decide_eq_true hk]
        simp only [Bool.not_true, Bool.false_eq_true, if_false]
        exact wpAny_pure ⟨by first | trivial | rfl, by first | trivial | rfl, .inr (.inr ⟨by first | trivial | rfl, e1, hk⟩)⟩
      · rw [decide_eq_false hk]
        simp only [Bool.not_false, if_true]
        have hf : decide (x = y) = false := by simp [Prod.ext_iff, hk]
        rw [hf] at h
        exact wpAny_bind (wpAny_pure (wpAny_pure (wpAny_pure h)))
    · cases hz
  · rintro ⟨r1, r2⟩ s' ⟨hr, rfl, (hz | ⟨hz, _⟩ | ⟨_, e1, e2⟩)⟩
    · cases hz
    · cases hz
    · simp only at hr
      subst hr
      refine wpAny_pure ?_
      have hfin : decide (x = y) = true := decide_eq_true (Prod.ext e1 e2)
      rw [hfin] at h
      exact h
theorem wpAny_eqBool_pair {x y : K × List K} {a b : Addr} {Q : Bool → Shared → Prop} (hu : A.units + 1 < cLine) (hx : IsPairKey knd s.heap x a) (hy : IsPairKey knd s.heap y b) (h : Q (decide (x = y)) s) :
    wpAny (model prog w) A (eqBool (.ref a) (.ref b)) Q E s := by
  unfold eqBool
  try with_reducible refine wpAny_holding ?_
  show wpAny _ _ (if (Value.ref a == Value.ref b) = true then _ else _) Q E s
  by_cases hab : (Value.ref a == Value.ref b) = true
  · rw [if_pos hab]
    have e : a = b := by have := eq_of_beq hab; injection this
    subst e
    obtain rfl := hx.inj hy
    exact wpAny_bind (wpAny_rule (wpAny_pure (by simpa using h)))
  · rw [if_neg hab]
    exact wpAny_bind (wpAny_richCompare_same_room (op := .Eq) hx.typeIs hy.typeIs F.slot_tuple_eq
      (wpAny_call_entry F.slot_tuple_eq hx.typeIs F.entry_tuple_eq (pair_eq_tree (by first | exact hu | (show _ < _; omega)) hx hy ⟨_, rfl, (fun e => nomatch e), wpAny_truthy_bool h⟩) (F.args_tuple_eq_2 _ _)) (by omega))
end
def pairKind {prog : Program} {w : World} {K : Type} [DecidableEq K] (knd : KeyKind prog w K) : HeapKind prog w (K × List K) where
  is := IsPairKey knd
  hash := pairKeyHash knd
  draws := fun k => k.2.length + 3
  room := fun A => A.units + 1 < cLine
  inj := fun hx hy => hx.inj hy
  keeps := fun x ho hd hs => x.keeps ho hd hs
  pyHash := fun hu hk h => wpAny_pyHash_pair hu hk h
  eqBool := fun hu hx hy h => wpAny_eqBool_pair hu hx hy h
  quiet := fun hk h => wpAny_eqIsQuiet_pair hk h
end PySem

namespace L2
open PySem PySem.Spec PyProof.Rows
abbrev PKey := Key × List Key
/-- the dict at d, its entries told -/
def NdO (P : Program) (w : World) (d : Addr) (xs : List (PKey × Addr × Value)) : HO := .ext fun h => (d == sysModules) = false ∧ xs.length ≤ sizeLine ∧ ∃ o es ep, h.get? d = some o ∧ o.ExactDict ∧ o.data = .dict es ep ∧ es.toList = xs.map (entryOfKey (pairKind (mixKind P w))) ∧ (xs.map (·.1)).Nodup
abbrev KN (H : Hp) : List (PKey × V) → List (PKey × Addr × Value) → Prop := Paired fun p q => p.1 = q.1 ∧ (∃ b, H q.2.1 = some (.tup [kV p.1.1, .ref b]) ∧ H b = some (.tup (p.1.2.map kV))) ∧ RelV p.2 q.2.2
theorem KN.val {H : Hp} {kvs : List (PKey × V)} {xs : List (PKey × Addr × Value)} (r : KN H kvs xs) (k : PKey) : RelO (valV kvs k) ((atKey xs k).map (·.2)) := by
  induction r with
  | nil => exact True.intro
  | @cons p q ps qs h t ih =>
    obtain ⟨k1, v⟩ := p
    obtain ⟨k2, b, u⟩ := q
    obtain ⟨e, _, rv⟩ := h
    cases (show k1 = k2 from e)
    by_cases hk : k1 = k
    · subst hk; simpa [valV, atKey, List.find?_cons, RelO] using rv
    · have e1 : valV ((k1, v) :: ps) k = valV ps k := by simp [valV, List.find?_cons, hk]
      have e2 : (atKey ((k1, b, u) :: qs) k).map (·.2) = (atKey qs k).map (·.2) := by simp [atKey, List.find?_cons, hk]
      rw [e1, e2]; exact ih
theorem KN.repl {H : Hp} {kvs : List (PKey × V)} {xs : List (PKey × Addr × Value)} (r : KN H kvs xs) (k : PKey) {y : V} {u : Value} (ry : RelV y u) :
    KN H (kvs.map fun kv => if kv.1 = k then (kv.1, y) else kv) (xs.map (putAt k u)) := by
  induction r with
  | nil => exact .nil
  | @cons p q ps qs h t ih =>
    obtain ⟨k1, v⟩ := p
    obtain ⟨k2, b, u0⟩ := q
    obtain ⟨e, hb, rv⟩ := h
    cases (show k1 = k2 from e)
    by_cases hk : k1 = k
    · simp only [List.map_cons, putAt, hk, if_true]
      exact .cons ⟨rfl, by subst hk; exact hb, ry⟩ ih
    · simp only [List.map_cons, putAt, hk, if_false]
      exact .cons ⟨rfl, hb, rv⟩ ih
theorem KN.snoc {H : Hp} : ∀ {kvs : List (PKey × V)} {xs : List (PKey × Addr × Value)}, KN H kvs xs → ∀ {p : PKey × V} {q : PKey × Addr × Value}, (p.1 = q.1 ∧ (∃ b, H q.2.1 = some (.tup [kV p.1.1, .ref b]) ∧ H b = some (.tup (p.1.2.map kV))) ∧ RelV p.2 q.2.2) → KN H (kvs ++ [p]) (xs ++ [q])
  | _, _, .nil, _, _, h => .cons h .nil
  | _, _, .cons r t, _, _, h => .cons r (KN.snoc t h)
theorem KN.put {H : Hp} {kvs : List (PKey × V)} {xs : List (PKey × Addr × Value)} (r : KN H kvs xs) (k : PKey) {a b : Addr} {y : V} {u : Value} (ha : H a = some (.tup [kV k.1, .ref b])) (hb : H b = some (.tup (k.2.map kV))) (ry : RelV y u) :
    KN H (putK kvs k y) (storedH xs k a u) := by
  have hv := r.val k
  have hs := hv.isSome_eq
  rw [Option.isSome_map] at hs
  unfold putK storedH
  rw [valV_any, hs]
  by_cases q : (atKey xs k).isSome = true
  · rw [if_pos q, if_pos q]; exact r.repl k ry
  · rw [if_neg q, if_neg q]
    exact r.snoc ⟨rfl, ⟨b, ha, hb⟩, ry⟩
theorem KN.keeps {H H' : Hp} {kvs : List (PKey × V)} {xs : List (PKey × Addr × Value)} (r : KN H kvs xs) (ht : ∀ b ys, H b = some (.tup ys) → H' b = some (.tup ys)) : KN H' kvs xs :=
  Paired.mapP r fun p q z => ⟨z.1, let ⟨b, h1, h2⟩ := z.2.1; ⟨b, ht _ _ h1, ht _ _ h2⟩, z.2.2⟩
/-- the dict at d holds these pairs -/
def Nd (P : Program) (w : World) (H : Hp) (d : Addr) (kvs : List (PKey × V)) : Prop := ∃ xs, H d = some (NdO P w d xs) ∧ KN H kvs xs
theorem Nd.keep {P : Program} {w : World} {H H' : Hp} {d : Addr} {kvs : List (PKey × V)} (n : Nd P w H d kvs) (hd : H' d = H d) (ht : ∀ b ys, H b = some (.tup ys) → H' b = some (.tup ys)) : Nd P w H' d kvs :=
  let ⟨xs, h1, h2⟩ := n; ⟨xs, hd.trans h1, h2.keeps ht⟩
section
variable {P : Program} {w : World} {H : Hp} {h : Heap} {a b d : Addr}
theorem pair_of {k : PKey} (ok : HOk P w H h) (e : H a = some (.tup [kV k.1, .ref b])) (eb : H b = some (.tup (k.2.map kV))) : (pairKind (mixKind P w)).is h k a := by
  obtain ⟨_, its, r, o, h1, h2, n, h3⟩ := (show ObjOk P w H h a (.tup [kV k.1, .ref b]) from ok a _ e)
  cases r with
  | cons r1 r => cases r with
    | cons r2 r => cases r; cases r2; exact ⟨o, _, b, n, h1, h2, h3, kV_is r1, key_of ok eb⟩
theorem nd_of {kvs : List (PKey × V)} (ok : HOk P w H h) (n : Nd P w H d kvs) : kvs.length ≤ sizeLine ∧ (d == sysModules) = false ∧ ∃ xs, H d = some (NdO P w d xs) ∧ KN H kvs xs ∧ h.DictOfH (pairKind (mixKind P w)) d xs := by
  obtain ⟨xs, e, r⟩ := n
  obtain ⟨⟨hd, z, o, es, ep, h1, h2, h3, h4, h5⟩, _, _⟩ := (show ObjOk P w H h d (NdO P w d xs) from ok d _ e)
  refine ⟨by rw [Paired.length r]; exact z, hd, xs, e, r, o, es, ep, h1, h2, h3, h4, fun x hx => ?_, h5⟩
  have all : ∀ {l : List (PKey × V)} {m : List (PKey × Addr × Value)}, KN H l m → ∀ x ∈ m, (pairKind (mixKind P w)).is h x.1 x.2.1 := by
    intro l m q
    induction q with
    | nil => intro x hx; exact nomatch hx
    | @cons p q ps qs hq t ih =>
      intro x hx
      rcases List.mem_cons.mp hx with e | hx
      · subst e
        obtain ⟨b, e1, e2⟩ := hq.2.1
        rw [hq.1] at e1 e2
        exact pair_of ok e1 e2
      · exact ih x hx
  exact all r x hx
theorem ndO_ok {xs : List (PKey × Addr × Value)} {H' : Hp} (hd : (d == sysModules) = false) (z : xs.length ≤ sizeLine) (e : h.DictOfH (pairKind (mixKind P w)) d xs) : ObjOk P w H' h d (NdO P w d xs) := by
  obtain ⟨o, es, ep, h1, h2, h3, h4, _, h5⟩ := e
  exact ⟨⟨hd, z, o, es, ep, h1, h2, h3, h4, h5⟩, ⟨o, h1⟩, fun g1 g2 ⟨x1, x2, o, es, ep, y1, y2⟩ k => ⟨x1, x2, o, es, ep, k _ y1, y2⟩⟩
end
section
variable {X : Cx} {pins : List (Addr × Obj)} {σ : St} {H : Hp} {s : Shared} {a b d : Addr} {k : PKey} {kvs : List (PKey × V)} {v : V} {r : Value} {A : Around} {E : Value → Shared → Prop}
/-- y is the pair k -/
def IsP (H : Hp) (y : V) (k : PKey) : Prop := ∃ a b, y = .ref a ∧ H a = some (.tup [kV k.1, .ref b]) ∧ H b = some (.tup (k.2.map kV))
theorem n_getItem {y : V} {u : Value} {Q : Value → Shared → Prop} (hu : A.units + 2 < cLine) (I : Inv X pins σ H s) (n : Nd X.prog X.w H d kvs) (hp : IsP H y k) (l : valV kvs k = some v) (ry : RelV y u) (h : ∀ w' s', Inv X pins σ H s' → RelV v w' → Q w' s') :
    wpAny (model X.prog X.w) A (getItem (.ref d) u) Q E s := by
  obtain ⟨a, b, rfl, ea, eb⟩ := hp
  cases (show u = Value.ref a from ry)
  obtain ⟨z, hd, xs, _, rel, dd⟩ := nd_of I.hok n
  obtain ⟨w', hw, rw'⟩ := RelO.some_of (v := v) (o := (atKey xs k).map (·.2)) (by rw [← l]; exact rel.val k)
  obtain ⟨p, hp, hp2⟩ := Option.map_eq_some_iff.mp hw
  refine wpAny_getItem_heap (knd := pairKind (mixKind X.prog X.w)) hu (pair_of I.hok ea eb) dd hp ?_
  rw [hp2]
  exact h w' _ (I.tok _) rw'
theorem n_in {y : V} {u : Value} {Q : Value → Shared → Prop} (hu : A.units + 2 < cLine) (I : Inv X pins σ H s) (n : Nd X.prog X.w H d kvs) (hp : IsP H y k) (ry : RelV y u) (h : ∀ s', Inv X pins σ H s' → Q (.bool (valV kvs k).isSome) s') :
    wpAny (model X.prog X.w) A (compareOp .In u (.ref d)) Q E s := by
  obtain ⟨a, b, rfl, ea, eb⟩ := hp
  cases (show u = Value.ref a from ry)
  obtain ⟨z, hd, xs, _, rel, dd⟩ := nd_of I.hok n
  refine wpAny_in_heap (knd := pairKind (mixKind X.prog X.w)) hu (pair_of I.hok ea eb) hd dd ?_
  have q := (rel.val k).isSome_eq
  rw [Option.isSome_map] at q
  rw [← q]
  exact h _ (I.tok _)
theorem n_notIn {y : V} {u : Value} {Q : Value → Shared → Prop} (hu : A.units + 2 < cLine) (I : Inv X pins σ H s) (n : Nd X.prog X.w H d kvs) (hp : IsP H y k) (ry : RelV y u) (h : ∀ s', Inv X pins σ H s' → Q (.bool (!(valV kvs k).isSome)) s') :
    wpAny (model X.prog X.w) A (compareOp .NotIn u (.ref d)) Q E s := by
  obtain ⟨a, b, rfl, ea, eb⟩ := hp
  cases (show u = Value.ref a from ry)
  obtain ⟨z, hd, xs, _, rel, dd⟩ := nd_of I.hok n
  refine wpAny_notIn_heap (knd := pairKind (mixKind X.prog X.w)) hu (pair_of I.hok ea eb) hd dd ?_
  have q := (rel.val k).isSome_eq
  rw [Option.isSome_map] at q
  rw [← q]
  exact h _ (I.tok _)
theorem n_setItem {y : V} {u : Value} {Q : Unit → Shared → Prop} (hu : A.units + 2 < cLine) (I : Inv X pins σ H s) (n : Nd X.prog X.w H d kvs) (hp : IsP H y k) (hl : kvs.length < sizeLine) (ry : RelV y u) (rv : RelV v r)
    (h : ∀ H' s', (∀ c, c ≠ d → H' c = H c) → Nd X.prog X.w H' d (putK kvs k v) → Inv X pins σ H' s' → Q () s') :
    wpAny (model X.prog X.w) A (setItem (.ref d) u r) Q E s := by
  obtain ⟨a, b, rfl, ea, eb⟩ := hp
  cases (show u = Value.ref a from ry)
  obtain ⟨z, hd, xs, e, rel, dd⟩ := nd_of I.hok n
  have hz : xs.length ≤ sizeLine := by rw [← Paired.length rel]; exact z
  have hl2 : (putK kvs k v).length ≤ sizeLine := by have := length_putK kvs k v; omega
  have rel2 := rel.put k ea eb rv
  have hz2 : (storedH xs k a r).length ≤ sizeLine := by rw [← Paired.length rel2]; exact hl2
  refine wpAny_setItem_heap (hsz := hz) (knd := pairKind (mixKind X.prog X.w)) hu (pair_of I.hok ea eb) dd fun h' dd' hs => ?_
  have he : ∃ q, h'.get? d = some q := let ⟨q, _, _, hq, _⟩ := dd'; ⟨q, hq⟩
  refine h (upd H d (NdO X.prog X.w d (storedH xs k a r))) _ (fun c hc => upd_ne hc) ⟨_, upd_same, rel2.keeps fun c ys ec => ?_⟩ (d_write I (by rw [e]; exact True.intro) hs he (ndO_ok hd hz2 dd'))
  rw [upd_ne (ne_of ec e (fun z => nomatch z))]
  exact ec
end
/-- d[y] -/
def tNGet (P : Program) (w : World) (td ty : TE) : TE := fun σ H Q => td σ H fun x H1 => ty σ H1 fun y H2 => ∃ a kvs k v, x = .ref a ∧ Nd P w H2 a kvs ∧ IsP H2 y k ∧ valV kvs k = some v ∧ Q v H2
def tNIn (P : Program) (w : World) (neg : Bool) (ty td : TE) : TE := fun σ H Q => ty σ H fun y H1 => td σ H1 fun x H2 => ∃ a kvs k, x = .ref a ∧ Nd P w H2 a kvs ∧ IsP H2 y k ∧ Q (.bl (if neg then !(valV kvs k).isSome else (valV kvs k).isSome)) H2
def sNPut (P : Program) (w : World) (td ty tv : TE) : TS := fun D σ H => tv σ H fun v H1 => td σ H1 fun x H2 => ty σ H2 fun y H3 => ∃ a kvs k, x = .ref a ∧ Nd P w H3 a kvs ∧ IsP H3 y k ∧ kvs.length < sizeLine ∧
  ∀ H4, (∀ c, c ≠ a → H4 c = H3 c) → Nd P w H4 a (putK kvs k v) → D.nx σ H4
def tNNew (P : Program) (w : World) : TE := fun _ H Q => ∀ p H', H p = none → (∀ c, c ≠ p → H' c = H c) → Nd P w H' p [] → Q (.ref p) H'
def rNLen (P : Program) (w : World) : List V → Hp → VK → Prop := fun xs H Q => ∃ (p : Addr) (kvs : List (PKey × V)), xs = [.ref p] ∧ Nd P w H p kvs ∧ Q (.int ((kvs.length : Nat) : Int)) H
section
variable {X : Cx} {o i e value : Expr} {pos pos' tpos : Pos} {td ty tv : TE}
theorem nd_typeIs {pins : List (Addr × Obj)} {σ : St} {H : Hp} {s : Shared} {a : Addr} {kvs : List (PKey × V)} (I : Inv X pins σ H s) (n : Nd X.prog X.w H a kvs) : s.TypeIs (.ref a) "dict" := by
  obtain ⟨_, _, xs, _, _, dd⟩ := nd_of I.hok n
  exact dd.typeIs
theorem pe_nget (hu : X.A.units + 2 < cLine) (ho : PE X o td) (hi : PE X i ty) (hs : NoSl i) : PE X (.Subscript o i pos) (tNGet X.prog X.w td ty) := by
  refine ⟨fun pins s σ H Q I h => ?_⟩
  refine subD_of PySem.F.slot_dict_getitem.lookup hs (thn (ho.run pins s σ H _ I h) fun u s1 ⟨x, H1, I1, rx, q1⟩ => thn (hi.run pins s1 σ H1 _ I1 q1) fun iv s2 ⟨y, H2, I2, ry, a, kvs, k, v, ex, n, hp, l, q2⟩ => ?_)
  subst ex
  obtain rfl : u = Value.ref a := rx
  exact ⟨nd_typeIs I2 n, n_getItem hu I2 n hp l ry fun w' s3 I3 rw' => ⟨v, H2, I3, rw', q2⟩⟩
theorem pc_nin (hu : X.A.units + 2 < cLine) (hi : PE X i ty) (ho : PE X o td) : PC X .In i o (tNIn X.prog X.w false ty td) := by
  refine ⟨fun pins s σ H Q I h => ?_⟩
  refine thn (hi.run pins s σ H _ I h) fun iv s1 ⟨y, H1, I1, ry, q1⟩ => thn (ho.run pins s1 σ H1 _ I1 q1) fun u s2 ⟨x, H2, I2, rx, a, kvs, k, ex, n, hp, q2⟩ => ?_
  subst ex
  obtain rfl : u = Value.ref a := rx
  exact n_in hu I2 n hp ry fun s3 I3 => ⟨.bl (valV kvs k).isSome, H2, I3, rfl, q2⟩
theorem pc_nnotin (hu : X.A.units + 2 < cLine) (hi : PE X i ty) (ho : PE X o td) : PC X .NotIn i o (tNIn X.prog X.w true ty td) := by
  refine ⟨fun pins s σ H Q I h => ?_⟩
  refine thn (hi.run pins s σ H _ I h) fun iv s1 ⟨y, H1, I1, ry, q1⟩ => thn (ho.run pins s1 σ H1 _ I1 q1) fun u s2 ⟨x, H2, I2, rx, a, kvs, k, ex, n, hp, q2⟩ => ?_
  subst ex
  obtain rfl : u = Value.ref a := rx
  exact n_notIn hu I2 n hp ry fun s3 I3 => ⟨.bl (!(valV kvs k).isSome), H2, I3, rfl, q2⟩
theorem ps_nput (hu : X.A.units + 2 < cLine) (ho : PE X o td) (hi : PE X i ty) (hv : PE X value tv) (hs : swapsWith value (some (.Subscript o i pos')) pos.line X.env = pure false) :
    PS X (.Assign [.Subscript o i pos'] value pos) (sNPut X.prog X.w td ty tv) := by
  refine ⟨fun pins s σ H D I h => ?_⟩
  refine wpAny_Assign_Subscript (thn (hv.run pins s σ H _ I h) fun r s1 ⟨v, H1, I1, rv, q1⟩ => thn (ho.run pins s1 σ H1 _ I1 q1) fun u s2 ⟨x, H2, I2, rx, q2⟩ => thn (hi.run pins s2 σ H2 _ I2 q2) fun iv s3 ⟨y, H3, I3, ry, a, kvs, k, ex, n, hp, hl, q3⟩ => ?_) hs
  subst ex
  obtain rfl : u = Value.ref a := rx
  exact n_setItem hu I3 n hp hl ry rv fun H4 s4 c4 n4 I4 => ⟨σ, H4, I4, q3 H4 c4 n4⟩
theorem pe_nnew : PE X (.Dict [] [] pos) (tNNew X.prog X.w) := ⟨fun pins s σ H Q I h =>
  have hn : H s.heap.objs.size = none := I.hok.fresh (Nat.le_refl _)
  wpAny_Dict_empty ⟨.ref s.heap.objs.size, _, I.laid (a := s.heap.objs.size) (o := NdO X.prog X.w s.heap.objs.size []) (t' := s.toks) (fun _ _ q => Heap.get?_push_of_some _ q) (Nat.le_refl _)
    (ndO_ok (beq_eq_false_iff_ne.mpr (Ne.symm (Nat.ne_of_lt I.big))) (Nat.zero_le _) (Heap.DictOfH.new s.heap)), rfl, h _ _ hn (fun c hc => upd_ne hc) ⟨[], upd_same, .nil⟩⟩⟩
theorem call_len_nd : CallR X (.builtin "len") (rNLen X.prog X.w) := by
  intro pins s σ H xs us Q I r h
  obtain ⟨p, kvs, rfl, hp, q⟩ := h
  obtain ⟨u, rfl, rx⟩ := vals1 r
  obtain rfl : u = .ref p := rx
  obtain ⟨z, hd, ys, _, rel, dd⟩ := nd_of I.hok hp
  have hl : kvs.length = ys.length := Paired.length rel
  refine call_len_dictH hd dd (by rw [← hl]; rw [sizeLine_eq] at z; omega) ?_
  rw [← hl]
  exact ⟨.int ((kvs.length : Nat) : Int), H, I.tok _, ⟨_, rfl⟩, q⟩
end
end L2
/-! plain mathematics: drawings as relations; no program in sight -/
namespace Lm
/-- places in order, each once, below n: at most n of them -/
theorem nodup_le {n : Nat} : ∀ {l : List Nat}, l.Nodup → (∀ x ∈ l, x < n) → l.length ≤ n := by
  induction n with
  | zero =>
    intro l _ h
    match l, h with
    | [], _ => exact Nat.le_refl _
    | x :: _, h => exact absurd (h x List.mem_cons_self) (Nat.not_lt_zero _)
  | succ n ih =>
    intro l hn h
    have h1 : (l.erase n).length ≤ n := ih (hn.erase n) fun x hx => by
      have h2 := (List.Nodup.mem_erase_iff hn).mp hx
      have := h x h2.2
      have h3 := h2.1
      omega
    have h2 : l.length ≤ (l.erase n).length + 1 := by
      by_cases hm : n ∈ l
      · rw [List.length_erase_of_mem hm]; omega
      · rw [List.erase_of_not_mem hm]; omega
    omega
theorem nodup_all {n : Nat} {l : List Nat} (hn : l.Nodup) (h : ∀ x ∈ l, x < n) (hl : l.length = n) : ∀ x, x < n → x ∈ l := fun x hx => by
  by_cases hm : x ∈ l
  · exact hm
  · have h1 : (x :: l).length ≤ n := nodup_le (List.nodup_cons.mpr ⟨hm, hn⟩) fun y hy => by
      rcases List.mem_cons.mp hy with e | e
      · rw [e]; exact hx
      · exact h y e
    rw [List.length_cons] at h1
    omega
/-- a walk of n + 1 places below n meets one twice -/
theorem twice {n : Nat} (f : Nat → Nat) (h : ∀ i, i ≤ n → f i < n) : ∃ i j, i < j ∧ j ≤ n ∧ f i = f j := by
  refine Classical.byContradiction fun hc => ?_
  have nd : ((List.range (n + 1)).map f).Nodup := by
    rw [List.Nodup, List.pairwise_map]
    refine List.Pairwise.imp_of_mem (fun {a b} ha hb hab => ?_) List.pairwise_lt_range
    exact fun e => hc ⟨a, b, hab, by have := List.mem_range.mp hb; omega, e⟩
  have h1 := nodup_le nd fun x hx => by
    obtain ⟨i, hi, rfl⟩ := List.mem_map.mp hx
    exact h i (by have := List.mem_range.mp hi; omega)
  rw [List.length_map, List.length_range] at h1
  omega
/-! ### paths -/
variable (E : Nat → Nat → Prop)
/-- by one step or more -/
inductive Tc : Nat → Nat → Prop
  | one {a b : Nat} : E a b → Tc a b
  | more {a b c : Nat} : Tc a b → E b c → Tc a c
/-- by any number of steps -/
def Rc (a b : Nat) : Prop := a = b ∨ Tc E a b
variable {E}
theorem Tc.trans {a b c : Nat} (h : Tc E a b) (h2 : Tc E b c) : Tc E a c := by
  induction h2 with
  | one e => exact .more h e
  | more _ e ih => exact .more ih e
theorem Tc.front {a b c : Nat} (e : E a b) (h : Tc E b c) : Tc E a c := Tc.trans (.one e) h
theorem Rc.step {a b c : Nat} (h : Rc E a b) (e : E b c) : Rc E a c := by
  rcases h with rfl | h
  · exact .inr (.one e)
  · exact .inr (.more h e)
/-- what is closed and holds the start holds all that is reached -/
theorem Rc.closed {P : Nat → Prop} {a b : Nat} (h : Rc E a b) (ha : P a) (hc : ∀ x y, P x → E x y → P y) : P b := by
  rcases h with rfl | h
  · exact ha
  · induction h with
    | one e => exact hc _ _ ha e
    | more _ e ih => exact hc _ _ ih e
/-- a measure that falls along each step: no ring -/
theorem no_ring {μ : Nat → Nat} (h : ∀ a b, E a b → μ b < μ a) {a b : Nat} (t : Tc E a b) : μ b < μ a := by
  induction t with
  | one e => exact h _ _ e
  | more _ e ih => exact Nat.lt_trans (h _ _ e) ih
/-- where each place of U leads on into U there is a ring -/
theorem ring_of {n : Nat} {U : Nat → Prop} (hb : ∀ a, U a → a < n) (hs : ∀ a, U a → ∃ b, U b ∧ E a b) {a : Nat} (ha : U a) : ∃ k, U k ∧ Tc E k k := by
  have ch1 : ∀ x, ∃ y, U x → U y ∧ E x y := fun x => by
    by_cases h : U x
    · obtain ⟨y, hy⟩ := hs x h
      exact ⟨y, fun _ => hy⟩
    · exact ⟨0, fun q => absurd q h⟩
  have ch : ∃ g : Nat → Nat, ∀ x, U x → U (g x) ∧ E x (g x) := ⟨fun x => Classical.choose (ch1 x), fun x => Classical.choose_spec (ch1 x)⟩
  obtain ⟨g, hg⟩ := ch
  have hf : ∀ i, U (Nat.rec (motive := fun _ => Nat) a (fun _ x => g x) i) := by
    intro i
    induction i with
    | zero => exact ha
    | succ i ih => exact (hg _ ih).1
  generalize hF : (fun i => (Nat.rec (motive := fun _ => Nat) a (fun _ x => g x) i : Nat)) = F at *
  have hF0 : ∀ i, U (F i) := fun i => by rw [← hF]; exact hf i
  have hF1 : ∀ i, E (F i) (F (i + 1)) := fun i => by
    have := (hg (F i) (hF0 i)).2
    rw [← hF] at this ⊢
    exact this
  obtain ⟨i, j, hij, _, e⟩ := twice (n := n) F fun i _ => hb _ (hF0 i)
  have path : ∀ d, Tc E (F i) (F (i + d + 1)) := fun d => by
    induction d with
    | zero => exact .one (hF1 i)
    | succ d ih => exact .more ih (hF1 (i + d + 1))
  have h2 := path (j - i - 1)
  rw [show i + (j - i - 1) + 1 = j by omega, ← e] at h2
  exact ⟨F i, hF0 i, h2⟩
/-! ### the closure, place by place -/
/-- a path whose inner places are below k -/
inductive Via (E : Nat → Nat → Prop) (k : Nat) : Nat → Nat → Prop
  | one {a b : Nat} : E a b → Via E k a b
  | more {a b c : Nat} : Via E k a b → b < k → E b c → Via E k a c
theorem Via.tc {k a b : Nat} (h : Via E k a b) : Tc E a b := by
  induction h with
  | one e => exact .one e
  | more _ _ e ih => exact .more ih e
theorem Via.mono {k l a b : Nat} (h : Via E k a b) (hl : k ≤ l) : Via E l a b := by
  induction h with
  | one e => exact .one e
  | more _ h e ih => exact .more ih (Nat.lt_of_lt_of_le h hl) e
theorem Via.of {n a b : Nat} (hn : ∀ a b, E a b → b < n) (h : Tc E a b) : Via E n a b := by
  induction h with
  | one e => exact .one e
  | @more b c h e ih =>
    refine .more ih ?_ e
    cases h with
    | one e' => exact hn _ _ e'
    | more _ e' => exact hn _ _ e'
theorem Via.app {k a b c : Nat} (h : Via E k a b) (hb : b < k) (h2 : Via E k b c) : Via E k a c := by
  induction h2 with
  | one e => exact .more h hb e
  | more _ hk e ih => exact .more ih hk e
/-- a path by places below k + 1 is one below k, or goes by k -/
theorem Via.split {k a c : Nat} (h : Via E (k + 1) a c) : Via E k a c ∨ (Via E k a k ∧ Via E k k c) := by
  induction h with
  | one e => exact .inl (.one e)
  | @more b c h hb e ih =>
    by_cases hk : b = k
    · subst hk
      refine .inr ⟨?_, .one e⟩
      rcases ih with q | q
      · exact q
      · exact q.1
    · rcases ih with q | q
      · exact .inl (.more q (by omega) e)
      · exact .inr ⟨q.1, .more q.2 (by omega) e⟩
theorem Via.join {k a c : Nat} (h : Via E k a k) (h2 : Via E k k c) : Via E (k + 1) a c := (h.mono (Nat.le_succ k)).app (Nat.lt_succ_self k) (h2.mono (Nat.le_succ k))
end Lm
namespace Lm
/-! ### rows of places -/
/-- place b stands in the row of place a -/
def Ed (rs : List (List Int)) (a b : Nat) : Prop := ∃ r, rs[a]? = some r ∧ (b : Int) ∈ r
/-- every place in a row is one of the rows' own -/
def In (rs : List (List Int)) : Prop := ∀ r ∈ rs, ∀ e ∈ r, 0 ≤ e ∧ e < (rs.length : Int)
theorem In.lt {rs : List (List Int)} (h : In rs) {a b : Nat} (e : Ed rs a b) : b < rs.length := by
  obtain ⟨r, hr, hb⟩ := e
  have := (h r (List.mem_of_getElem? hr) _ hb).2
  omega
theorem In.gt {rs : List (List Int)} {a b : Nat} (e : Ed rs a b) : a < rs.length := by
  obtain ⟨r, hr, _⟩ := e
  exact (List.getElem?_eq_some_iff.mp hr).1
/-! ### all that is reached -/
structure Ds (rs : List (List Int)) (p : Nat) (bs : List Bool) (ws : List Int) (X : Nat → Prop) : Prop where
  len : bs.length = rs.length
  start : bs[p]? = some true
  reach : ∀ i : Nat, bs[i]? = some true → Rc (Ed rs) p i
  wait : ∀ w ∈ ws, 0 ≤ w ∧ w < (rs.length : Int) ∧ bs[w.toNat]? = some true
  closed : ∀ i : Nat, bs[i]? = some true → (i : Int) ∈ ws ∨ X i ∨ ∀ c, Ed rs i c → bs[c]? = some true
section
variable {rs : List (List Int)} {p : Nat} {bs : List Bool} {ws : List Int} {X : Nat → Prop}
theorem Ds.init {n : Nat} (hn : rs.length = n) (hp : p < n) : Ds rs p ((List.replicate n false).set p true) [(p : Int)] (fun _ => False) := by
  refine ⟨by rw [List.length_set, List.length_replicate, hn], ?_, fun i hi => ?_, fun w hw => ?_, fun i hi => ?_⟩
  · rw [List.getElem?_set_self (by rw [List.length_replicate]; exact hp)]
  · by_cases e : p = i
    · exact .inl e
    · rw [List.getElem?_set_ne e, List.getElem?_replicate] at hi
      split at hi <;> cases hi
  · rw [List.mem_singleton.mp hw]
    refine ⟨by omega, by omega, ?_⟩
    rw [Int.toNat_natCast, List.getElem?_set_self (by rw [List.length_replicate]; exact hp)]
  · by_cases e : p = i
    · exact .inl (by rw [e]; exact List.mem_singleton.mpr rfl)
    · rw [List.getElem?_set_ne e, List.getElem?_replicate] at hi
      split at hi <;> cases hi
theorem Ds.pop {w : Int} (d : Ds rs p bs ws (fun _ => False)) (hw : ws[ws.length - 1]? = some w) : Ds rs p bs ws.dropLast (fun i => i = w.toNat) := by
  have hne : ws ≠ [] := fun e => by rw [e] at hw; simp at hw
  have e1 : ws = ws.dropLast ++ [w] := by
    have h2 := List.dropLast_concat_getLast hne
    have h3 : ws.getLast hne = w := by
      rw [List.getLast_eq_getElem]
      exact (List.getElem?_eq_some_iff.mp hw).2
    rw [h3] at h2
    exact h2.symm
  refine ⟨d.len, d.start, d.reach, fun x hx => d.wait x ?_, fun i hi => ?_⟩
  · rw [e1]; exact List.mem_append_left _ hx
  · rcases d.closed i hi with q | q | q
    · rw [e1] at q
      rcases List.mem_append.mp q with z | z
      · exact .inl z
      · exact .inr (.inl (by have := List.mem_singleton.mp z; omega))
    · exact q.elim
    · exact .inr (.inr q)
theorem Ds.mark {cur h : Nat} (d : Ds rs p bs ws X) (hc : bs[cur]? = some true) (e : Ed rs cur h) (hi : h < rs.length) : Ds rs p (bs.set h true) (ws ++ [(h : Int)]) X := by
  have hl : h < bs.length := by rw [d.len]; exact hi
  have keep : ∀ i : Nat, bs[i]? = some true → (bs.set h true)[i]? = some true := fun i q => by
    by_cases z : h = i
    · rw [← z, List.getElem?_set_self hl]
    · rw [List.getElem?_set_ne z]; exact q
  refine ⟨by rw [List.length_set]; exact d.len, keep _ d.start, fun i q => ?_, fun w hw => ?_, fun i q => ?_⟩
  · by_cases z : h = i
    · rw [← z]; exact (d.reach cur hc).step e
    · rw [List.getElem?_set_ne z] at q; exact d.reach i q
  · rcases List.mem_append.mp hw with z | z
    · exact ⟨(d.wait w z).1, (d.wait w z).2.1, keep _ (d.wait w z).2.2⟩
    · rw [List.mem_singleton.mp z]
      exact ⟨by omega, by omega, by rw [Int.toNat_natCast, List.getElem?_set_self hl]⟩
  · by_cases z : h = i
    · exact .inl (by rw [← z]; exact List.mem_append_right _ (List.mem_singleton.mpr rfl))
    · rw [List.getElem?_set_ne z] at q
      rcases d.closed i q with y | y | y
      · exact .inl (List.mem_append_left _ y)
      · exact .inr (.inl y)
      · exact .inr (.inr fun c hc => keep c (y c hc))
theorem Ds.done {cur : Nat} (d : Ds rs p bs ws (fun i => i = cur)) (h : ∀ c, Ed rs cur c → bs[c]? = some true) : Ds rs p bs ws (fun _ => False) :=
  ⟨d.len, d.start, d.reach, d.wait, fun i hi => by
    rcases d.closed i hi with q | q | q
    · exact .inl q
    · exact .inr (.inr (by rw [q]; exact h))
    · exact .inr (.inr q)⟩
theorem Ds.final (d : Ds rs p bs [] (fun _ => False)) (i : Nat) : bs[i]? = some true ↔ Rc (Ed rs) p i := by
  refine ⟨d.reach i, fun h => h.closed (P := fun i => bs[i]? = some true) d.start fun x y hx e => ?_⟩
  rcases d.closed x hx with q | q | q
  · exact absurd q List.not_mem_nil
  · exact q.elim
  · exact q y e
theorem count_set {bs : List Bool} {h : Nat} (e : bs[h]? = some false) : (bs.set h true).count false + 1 = bs.count false := by
  induction bs generalizing h with
  | nil => simp at e
  | cons b r ih =>
    cases h with
    | zero =>
      have : b = false := Option.some.inj e
      subst this
      simp
    | succ h =>
      have h2 := ih (h := h) e
      rw [List.set_cons_succ, List.count_cons, List.count_cons]
      omega
end
/-! ### settled places -/
/-- how many of a row's places are not among those -/
def miss (S : List Int) (r : List Int) : Nat := r.countP fun h => decide (h ∉ S)
theorem miss_zero {S r : List Int} : miss S r = 0 ↔ ∀ h ∈ r, h ∈ S := by
  unfold miss
  rw [List.countP_eq_zero]
  constructor
  · intro q h hr
    have := q h hr
    simpa using this
  · intro q h hr
    have := q h hr
    simpa using this
theorem miss_push {S r : List Int} {l : Int} (hl : l ∉ S) : miss S r = miss (S ++ [l]) r + r.count l := by
  unfold miss
  induction r with
  | nil => rfl
  | cons a r ih =>
    rw [List.countP_cons, List.countP_cons, List.count_cons, ih]
    by_cases e : a = l
    · subst e
      simp [hl]; omega
    · by_cases h : a ∈ S
      · simp [h, e]
      · simp [h, e]; omega
theorem miss_nil {r : List Int} : miss [] r = r.length := by
  unfold miss
  rw [List.countP_eq_length.mpr]
  intro a _
  simp
end Lm

namespace Lm
theorem nodup_miss {n : Nat} : ∀ {l : List Nat}, l.Nodup → (∀ x ∈ l, x < n) → l.length < n → ∃ x, x < n ∧ x ∉ l := by
  induction n with
  | zero => intro l _ _ h; exact absurd h (Nat.not_lt_zero _)
  | succ n ih =>
    intro l hn h hl
    by_cases hm : n ∈ l
    · have e := List.length_erase_of_mem hm
      have hp := List.length_pos_of_mem hm
      obtain ⟨x, hx, hx2⟩ := ih (hn.erase n) (fun x hx => by
        have h2 := (List.Nodup.mem_erase_iff hn).mp hx
        have := h x h2.2
        have h3 := h2.1
        omega) (by omega)
      exact ⟨x, by omega, fun q => hx2 ((List.Nodup.mem_erase_iff hn).mpr ⟨by omega, q⟩)⟩
    · exact ⟨n, Nat.lt_succ_self n, hm⟩
theorem nat_list {ss : List Int} {n : Nat} (hn : ss.Nodup) (h : ∀ s ∈ ss, 0 ≤ s ∧ s < (n : Int)) : (ss.map Int.toNat).Nodup ∧ ∀ x ∈ ss.map Int.toNat, x < n := by
  constructor
  · rw [List.Nodup, List.pairwise_map]
    refine List.Pairwise.imp_of_mem (fun {a b} ha hb hab e => ?_) hn
    have := h a ha
    have := h b hb
    exact hab (by omega)
  · intro x hx
    obtain ⟨s, hs, rfl⟩ := List.mem_map.mp hx
    have := h s hs
    omega
theorem at_inj {α : Type} {l : List α} (hn : l.Nodup) {i j : Nat} {x : α} (hi : l[i]? = some x) (hj : l[j]? = some x) : i = j := by
  obtain ⟨h1, e1⟩ := List.getElem?_eq_some_iff.mp hi
  obtain ⟨h2, e2⟩ := List.getElem?_eq_some_iff.mp hj
  exact (List.getElem_inj hn).mp (e1.trans e2.symm)
/-- who holds whom -/
def Hd (rs hs : List (List Int)) : Prop := hs.length = rs.length ∧ (∀ l ∈ hs, ∀ e ∈ l, 0 ≤ e ∧ e < (rs.length : Int)) ∧
  ∀ (l p : Nat) hl r, hs[l]? = some hl → rs[p]? = some r → hl.count (p : Int) = r.count (l : Int)
structure Kn (rs : List (List Int)) (ms ss : List Int) (q : Nat) : Prop where
  nd : ss.Nodup
  rng : ∀ s ∈ ss, 0 ≤ s ∧ s < (rs.length : Int)
  le : q ≤ ss.length
  len : ms.length = rs.length
  val : ∀ (p : Nat) r, rs[p]? = some r → ms[p]? = some ((miss (ss.take q) r : Nat) : Int)
  zero : ∀ (p : Nat) r, rs[p]? = some r → ((p : Int) ∈ ss ↔ miss (ss.take q) r = 0)
  ord : ∀ (i : Nat) s r, ss[i]? = some s → rs[s.toNat]? = some r → ∀ h ∈ r, ∃ j, j < i ∧ ss[j]? = some h
/-- within a turn: l is the settled place at q, done are those of its holders -/
structure Km (rs : List (List Int)) (ms ss : List Int) (q : Nat) (l : Int) (done : List Int) : Prop where
  nd : ss.Nodup
  rng : ∀ s ∈ ss, 0 ≤ s ∧ s < (rs.length : Int)
  cur : ss[q]? = some l
  len : ms.length = rs.length
  val : ∀ (p : Nat) r, rs[p]? = some r → ∃ v : Nat, ms[p]? = some (v : Int) ∧ v + done.count (p : Int) = miss (ss.take q) r ∧ ((p : Int) ∈ ss ↔ v = 0)
  ord : ∀ (i : Nat) s r, ss[i]? = some s → rs[s.toNat]? = some r → ∀ h ∈ r, ∃ j, j < i ∧ ss[j]? = some h
section
variable {rs hs : List (List Int)} {ms ss : List Int} {q : Nat} {l : Int}
theorem Kn.lt (k : Kn rs ms ss q) : ss.length ≤ rs.length := by
  obtain ⟨h1, h2⟩ := nat_list k.nd k.rng
  have := nodup_le h1 h2
  rwa [List.length_map] at this
theorem Km.lt {done : List Int} (k : Km rs ms ss q l done) : ss.length ≤ rs.length := by
  obtain ⟨h1, h2⟩ := nat_list k.nd k.rng
  have := nodup_le h1 h2
  rwa [List.length_map] at this
theorem Kn.open (k : Kn rs ms ss q) (h : ss[q]? = some l) : Km rs ms ss q l [] :=
  ⟨k.nd, k.rng, h, k.len, fun p r hr => ⟨_, k.val p r hr, by rw [List.count_nil]; rfl, k.zero p r hr⟩, k.ord⟩
theorem not_before (nd : ss.Nodup) (h : ss[q]? = some l) : l ∉ ss.take q := fun hm => by
  obtain ⟨i, hi⟩ := List.mem_iff_getElem?.mp hm
  have hi2 := (List.getElem?_eq_some_iff.mp hi).1
  rw [List.length_take] at hi2
  rw [List.getElem?_take_of_lt (by omega)] at hi
  have := at_inj nd hi h
  omega
theorem take_succ_of (h : ss[q]? = some l) : ss.take (q + 1) = ss.take q ++ [l] := by rw [List.take_add_one, h]; rfl
theorem Km.count {done rest : List Int} (k : Km rs ms ss q l done) (hd : Hd rs hs) (hl0 : 0 ≤ l) (hl : hs[l.toNat]? = some (done ++ rest)) {p : Nat} {r : List Int} (hr : rs[p]? = some r) :
    miss (ss.take q) r = miss (ss.take (q + 1)) r + done.count (p : Int) + rest.count (p : Int) := by
  have h1 := hd.2.2 _ _ _ _ hl hr
  rw [List.count_append, show ((l.toNat : Nat) : Int) = l by omega] at h1
  rw [take_succ_of k.cur, miss_push (r := r) (not_before k.nd k.cur), ← h1]
  omega
/-- one holder more -/
theorem Km.step {done rest : List Int} {h : Int} (k : Km rs ms ss q l done) (hd : Hd rs hs) (hl0 : 0 ≤ l) (hl : hs[l.toNat]? = some (done ++ h :: rest)) :
    ∃ v : Nat, 0 ≤ h ∧ h < (rs.length : Int) ∧ ms[h.toNat]? = some ((v + 1 : Nat) : Int) ∧
      (v ≠ 0 → Km rs (ms.set h.toNat (v : Int)) ss q l (done ++ [h])) ∧ (v = 0 → Km rs (ms.set h.toNat 0) (ss ++ [h]) q l (done ++ [h])) := by
  have hrg := hd.2.1 _ (List.mem_of_getElem? hl) h (List.mem_append_right _ List.mem_cons_self)
  have eh : ((h.toNat : Nat) : Int) = h := by omega
  have hlt : h.toNat < rs.length := by omega
  have hr : rs[h.toNat]? = some rs[h.toNat] := List.getElem?_eq_getElem hlt
  obtain ⟨v, hv1, hv2, hv3⟩ := k.val _ _ hr
  have hc := k.count hd hl0 hl hr
  rw [eh] at hc hv2 hv3
  rw [List.count_cons_self] at hc
  obtain ⟨u, rfl⟩ : ∃ u, v = u + 1 := ⟨v - 1, by omega⟩
  have hns : h ∉ ss := fun hm => by have := hv3.mp hm; omega
  have hq : q < ss.length := (List.getElem?_eq_some_iff.mp k.cur).1
  have cnt : ∀ p : Nat, p ≠ h.toNat → (done ++ [h]).count (p : Int) = done.count (p : Int) := fun p hp => by
    rw [List.count_append, List.count_singleton]
    have : ¬ h = (p : Int) := by omega
    simp [this]
  have cnt2 : (done ++ [h]).count h = done.count h + 1 := by rw [List.count_append, List.count_singleton_self]
  have hml : h.toNat < ms.length := by rw [k.len]; exact hlt
  refine ⟨u, hrg.1, hrg.2, hv1, fun hu => ?_, fun hu => ?_⟩
  · refine ⟨k.nd, k.rng, k.cur, by rw [List.length_set]; exact k.len, fun p r hp => ?_, k.ord⟩
    by_cases e : p = h.toNat
    · subst e
      rw [hp] at hr
      cases hr
      rw [eh]
      refine ⟨u, List.getElem?_set_self hml, by rw [cnt2]; omega, fun hm => absurd hm hns, fun z => absurd z hu⟩
    · rw [List.getElem?_set_ne (Ne.symm e), cnt p e]
      exact k.val p r hp
  · subst hu
    have et : (ss ++ [h]).take q = ss.take q := List.take_append_of_le_length (Nat.le_of_lt hq)
    refine ⟨?_, fun s hs => ?_, by rw [List.getElem?_append_left hq]; exact k.cur, by rw [List.length_set]; exact k.len, fun p r hp => ?_, fun i s r hi hs x hx => ?_⟩
    · rw [List.nodup_append]
      exact ⟨k.nd, by simp, fun a ha b hb e => hns (by rw [← List.mem_singleton.mp hb, ← e]; exact ha)⟩
    · rcases List.mem_append.mp hs with z | z
      · exact k.rng s z
      · rw [List.mem_singleton.mp z]; exact hrg
    · rw [et]
      by_cases e : p = h.toNat
      · subst e
        rw [hp] at hr
        cases hr
        rw [eh]
        exact ⟨0, List.getElem?_set_self hml, by rw [cnt2]; omega, fun _ => rfl, fun _ => List.mem_append_right _ (List.mem_singleton.mpr rfl)⟩
      · rw [List.getElem?_set_ne (Ne.symm e), cnt p e]
        obtain ⟨v, a1, a2, a3⟩ := k.val p r hp
        refine ⟨v, a1, a2, ?_⟩
        rw [← a3]
        constructor
        · intro hm
          rcases List.mem_append.mp hm with z | z
          · exact z
          · have := List.mem_singleton.mp z
            omega
        · exact fun hm => List.mem_append_left _ hm
    · by_cases hil : i < ss.length
      · rw [List.getElem?_append_left hil] at hi
        obtain ⟨j, hj, hj2⟩ := k.ord i s r hi hs x hx
        exact ⟨j, hj, by rw [List.getElem?_append_left (by omega)]; exact hj2⟩
      · have h3 := (List.getElem?_eq_some_iff.mp hi).1
        rw [List.length_append, List.length_singleton] at h3
        have ei : i = ss.length := by omega
        rw [ei, List.getElem?_append_right (Nat.le_refl _), Nat.sub_self] at hi
        have es : h = s := Option.some.inj hi
        rw [← es, hr] at hs
        have er := Option.some.inj hs
        have hz : miss (ss.take (q + 1)) rs[h.toNat] = 0 := by omega
        have hm := miss_zero.mp hz x (by rw [er]; exact hx)
        obtain ⟨j, hj⟩ := List.mem_iff_getElem?.mp hm
        have hj2 := (List.getElem?_eq_some_iff.mp hj).1
        rw [List.length_take] at hj2
        rw [List.getElem?_take_of_lt (by omega)] at hj
        exact ⟨j, by omega, by rw [List.getElem?_append_left (by omega)]; exact hj⟩
/-- the turn's end -/
theorem Km.close {done : List Int} (k : Km rs ms ss q l done) (hd : Hd rs hs) (hl0 : 0 ≤ l) (hl : hs[l.toNat]? = some done) : Kn rs ms ss (q + 1) := by
  have hq : q < ss.length := (List.getElem?_eq_some_iff.mp k.cur).1
  refine ⟨k.nd, k.rng, hq, k.len, fun p r hr => ?_, fun p r hr => ?_, k.ord⟩
  · obtain ⟨v, a1, a2, a3⟩ := k.val p r hr
    have hc := k.count (rest := []) hd hl0 (by rw [List.append_nil]; exact hl) hr
    rw [List.count_nil] at hc
    rw [a1]
    congr 2
    omega
  · obtain ⟨v, a1, a2, a3⟩ := k.val p r hr
    have hc := k.count (rest := []) hd hl0 (by rw [List.append_nil]; exact hl) hr
    rw [List.count_nil] at hc
    rw [a3]
    omega
theorem Kn.final (k : Kn rs ms ss q) (hq : ss.length ≤ q) (hin : In rs) : ss.length = rs.length ↔ ∀ x, ¬ Tc (Ed rs) x x := by
  have et : ss.take q = ss := List.take_of_length_le hq
  constructor
  · intro hl x t
    have path : ∀ {a b : Nat}, Tc (Ed rs) a b → ∀ i : Nat, ss[i]? = some (a : Int) → ∃ j, j < i ∧ ss[j]? = some (b : Int) := by
      intro a b t
      induction t with
      | one e =>
        intro i hi
        obtain ⟨r, hr, hb⟩ := e
        exact k.ord i _ r hi (by rw [Int.toNat_natCast]; exact hr) _ hb
      | more _ e ih =>
        intro i hi
        obtain ⟨j, hj, hj2⟩ := ih i hi
        obtain ⟨r, hr, hb⟩ := e
        obtain ⟨m, hm, hm2⟩ := k.ord j _ r hj2 (by rw [Int.toNat_natCast]; exact hr) _ hb
        exact ⟨m, Nat.lt_trans hm hj, hm2⟩
    have hx : x < rs.length := by
      cases t with
      | one e => exact In.gt e
      | more t e => exact hin.lt e
    obtain ⟨h1, h2⟩ := nat_list k.nd k.rng
    have hm := nodup_all h1 h2 (by rw [List.length_map]; exact hl) x hx
    obtain ⟨s, hs, es⟩ := List.mem_map.mp hm
    have hr := k.rng s hs
    have e2 : s = (x : Int) := by omega
    rw [e2] at hs
    obtain ⟨i, hi⟩ := List.mem_iff_getElem?.mp hs
    obtain ⟨j, hj, hj2⟩ := path t i hi
    have := at_inj k.nd hi hj2
    omega
  · intro hno
    refine Classical.byContradiction fun hl => ?_
    have hlt : ss.length < rs.length := Nat.lt_of_le_of_ne k.lt hl
    obtain ⟨h1, h2⟩ := nat_list k.nd k.rng
    obtain ⟨x, hx, hx2⟩ := nodup_miss h1 h2 (by rw [List.length_map]; exact hlt)
    have hU : (x : Int) ∉ ss := fun hm => hx2 (List.mem_map.mpr ⟨_, hm, Int.toNat_natCast x⟩)
    obtain ⟨y, _, hy⟩ := ring_of (E := Ed rs) (n := rs.length) (U := fun v => v < rs.length ∧ (v : Int) ∉ ss) (fun a h => h.1) (fun a ha => by
      have hr : rs[a]? = some rs[a] := List.getElem?_eq_getElem ha.1
      have hz : miss ss rs[a] ≠ 0 := fun z => ha.2 ((k.zero a _ hr).mpr (by rw [et]; exact z))
      obtain ⟨h, hh, hns⟩ : ∃ h, h ∈ rs[a] ∧ h ∉ ss := Classical.byContradiction fun hc => hz (miss_zero.mpr fun h hh => Classical.byContradiction fun q => hc ⟨h, hh, q⟩)
      have hg := hin _ (List.mem_of_getElem? hr) h hh
      have eh : ((h.toNat : Nat) : Int) = h := by omega
      exact ⟨h.toNat, ⟨by omega, by rw [eh]; exact hns⟩, rs[a], hr, by rw [eh]; exact hh⟩) ⟨hx, hU⟩
    exact hno y hy
end
end Lm
namespace Lm
/-! ### bits -/
theorem tb_add {i : Nat} : ∀ {x j : Nat}, x.testBit i = false → (2 ^ i + x).testBit j = (decide (i = j) || x.testBit j) := by
  induction i with
  | zero =>
    intro x j h
    have h0 : x % 2 = 0 := by
      rw [Nat.testBit_zero] at h
      have := of_decide_eq_false h
      omega
    cases j with
    | zero =>
      rw [Nat.testBit_zero]
      have : (2 ^ 0 + x) % 2 = 1 := by show (1 + x) % 2 = 1; omega
      rw [this]
      simp
    | succ j =>
      rw [Nat.testBit_succ, Nat.testBit_succ]
      have : (2 ^ 0 + x) / 2 = x / 2 := by show (1 + x) / 2 = x / 2; omega
      rw [this]
      simp
  | succ i ih =>
    intro x j h
    rw [Nat.testBit_succ] at h
    have e1 : (2 ^ (i + 1) + x) / 2 = 2 ^ i + x / 2 := by
      rw [Nat.pow_succ]; omega
    cases j with
    | zero =>
      rw [Nat.testBit_zero, Nat.testBit_zero]
      have : (2 ^ (i + 1) + x) % 2 = x % 2 := by rw [Nat.pow_succ]; omega
      rw [this]
      simp
    | succ j =>
      rw [Nat.testBit_succ, Nat.testBit_succ, e1, ih h]
      congr 1
      simp
/-- the mask of a row -/
def mask : List Int → Nat
  | [] => 0
  | e :: r => 2 ^ e.toNat + mask r
theorem mask_bit : ∀ {r : List Int}, r.Nodup → (∀ e ∈ r, 0 ≤ e) → ∀ b : Nat, (mask r).testBit b = true ↔ (b : Int) ∈ r
  | [], _, _, b => by simp [mask]
  | e :: r, hn, h0, b => by
    obtain ⟨hn1, hn2⟩ := List.nodup_cons.mp hn
    have h1 := h0 e List.mem_cons_self
    have ih := mask_bit hn2 (fun x hx => h0 x (List.mem_cons_of_mem _ hx))
    have hz : (mask r).testBit e.toNat = false := by
      cases q : (mask r).testBit e.toNat with
      | false => rfl
      | true =>
        have := (ih e.toNat).mp q
        rw [show ((e.toNat : Nat) : Int) = e by omega] at this
        exact absurd this hn1
    show (2 ^ e.toNat + mask r).testBit b = true ↔ _
    rw [tb_add hz, Bool.or_eq_true, decide_eq_true_eq, ih b, List.mem_cons]
    constructor
    · rintro (q | q)
      · exact .inl (by omega)
      · exact .inr q
    · rintro (q | q)
      · exact .inl (by omega)
      · exact .inr q
theorem mask_sum : ∀ r : List Int, ((mask r : Nat) : Int) = (r.map fun e => 1 * (2 : Int) ^ e.toNat).sum
  | [] => rfl
  | e :: r => by
    rw [List.map_cons, List.sum_cons, ← mask_sum r, Int.one_mul]
    show (((2 ^ e.toNat + mask r : Nat)) : Int) = _
    rw [Int.natCast_add, Int.natCast_pow]
    rfl
/-- masks in the stage k, those below a done -/
def Ms (rs : List (List Int)) (k a : Nat) (ms : List Nat) : Prop := ms.length = rs.length ∧
  ∀ (c m : Nat), ms[c]? = some m → ∀ b, m.testBit b = true ↔ (c < a ∧ Via (Ed rs) (k + 1) c b) ∨ (a ≤ c ∧ Via (Ed rs) k c b)
theorem via0 {rs : List (List Int)} {a b : Nat} : Via (Ed rs) 0 a b ↔ Ed rs a b := by
  constructor
  · intro h
    cases h with
    | one e => exact e
    | more _ h _ => exact absurd h (Nat.not_lt_zero _)
  · exact .one
theorem Ms.init {rs : List (List Int)} (hn : ∀ r ∈ rs, r.Nodup) (hin : In rs) : Ms rs 0 0 (rs.map mask) := by
  refine ⟨List.length_map .., fun c m hm b => ?_⟩
  rw [List.getElem?_map] at hm
  cases hr : rs[c]? with
  | none => rw [hr] at hm; cases hm
  | some r =>
    rw [hr] at hm
    rw [← Option.some.inj hm, mask_bit (hn r (List.mem_of_getElem? hr)) (fun e he => (hin r (List.mem_of_getElem? hr) e he).1)]
    constructor
    · exact fun h => .inr ⟨Nat.zero_le _, via0.mpr ⟨r, hr, h⟩⟩
    · rintro (⟨h, _⟩ | ⟨_, h⟩)
      · exact absurd h (Nat.not_lt_zero _)
      · obtain ⟨r', hr', hb⟩ := via0.mp h
        rw [hr] at hr'
        rw [Option.some.inj hr']; exact hb
/-- the mask at k is alike in both stages -/
theorem Ms.own {rs : List (List Int)} {k a : Nat} {ms : List Nat} (h : Ms rs k a ms) {m : Nat} (hm : ms[k]? = some m) (b : Nat) : m.testBit b = true ↔ Via (Ed rs) k k b := by
  rw [h.2 k m hm b]
  constructor
  · rintro (⟨_, q⟩ | ⟨_, q⟩)
    · rcases q.split with z | z
      · exact z
      · exact z.2
    · exact q
  · intro q
    by_cases hk : k < a
    · exact .inl ⟨hk, q.mono (Nat.le_succ k)⟩
    · exact .inr ⟨by omega, q⟩
theorem Ms.next {rs : List (List Int)} {k a : Nat} {ms : List Nat} (h : Ms rs k a ms) {x : Nat} (hx : ∀ b, x.testBit b = true ↔ Via (Ed rs) (k + 1) a b) (ha : a < rs.length) : Ms rs k (a + 1) (ms.set a x) := by
  refine ⟨by rw [List.length_set]; exact h.1, fun c m hm b => ?_⟩
  by_cases e : a = c
  · subst e
    rw [List.getElem?_set_self (by rw [h.1]; exact ha)] at hm
    rw [← Option.some.inj hm, hx b]
    constructor
    · exact fun q => .inl ⟨Nat.lt_succ_self _, q⟩
    · rintro (⟨_, q⟩ | ⟨q, _⟩)
      · exact q
      · omega
  · rw [List.getElem?_set_ne e] at hm
    rw [h.2 c m hm b]
    constructor
    · rintro (⟨q, v⟩ | ⟨q, v⟩)
      · exact .inl ⟨by omega, v⟩
      · exact .inr ⟨by omega, v⟩
    · rintro (⟨q, v⟩ | ⟨q, v⟩)
      · exact .inl ⟨by omega, v⟩
      · exact .inr ⟨by omega, v⟩
theorem Ms.yes {rs : List (List Int)} {k a : Nat} {ms : List Nat} (h : Ms rs k a ms) {x y : Nat} (hx : ms[a]? = some x) (hy : ms[k]? = some y) (t : x.testBit k = true) : Ms rs k (a + 1) (ms.set a (x ||| y)) := by
  have ha : a < rs.length := by rw [← h.1]; exact (List.getElem?_eq_some_iff.mp hx).1
  have hx2 : ∀ b, x.testBit b = true ↔ Via (Ed rs) k a b := fun b => by
    rw [h.2 a x hx b]
    constructor
    · rintro (⟨q, _⟩ | ⟨_, q⟩)
      · omega
      · exact q
    · exact fun q => .inr ⟨Nat.le_refl _, q⟩
  have hak := (hx2 k).mp t
  refine h.next (fun b => ?_) ha
  rw [Nat.testBit_or, Bool.or_eq_true, hx2 b, h.own hy b]
  constructor
  · rintro (q | q)
    · exact q.mono (Nat.le_succ k)
    · exact hak.join q
  · intro q
    rcases q.split with z | z
    · exact .inl z
    · exact .inr z.2
theorem Ms.no {rs : List (List Int)} {k a : Nat} {ms : List Nat} (h : Ms rs k a ms) {x : Nat} (hx : ms[a]? = some x) (t : x.testBit k = false) : Ms rs k (a + 1) ms := by
  have ha : a < rs.length := by rw [← h.1]; exact (List.getElem?_eq_some_iff.mp hx).1
  have hx2 : ∀ b, x.testBit b = true ↔ Via (Ed rs) k a b := fun b => by
    rw [h.2 a x hx b]
    constructor
    · rintro (⟨q, _⟩ | ⟨_, q⟩)
      · omega
      · exact q
    · exact fun q => .inr ⟨Nat.le_refl _, q⟩
  have h2 := h.next (x := x) (fun b => by
    rw [hx2 b]
    constructor
    · exact fun q => q.mono (Nat.le_succ k)
    · intro q
      rcases q.split with z | z
      · exact z
      · have := (hx2 k).mpr z.1
        rw [t] at this
        cases this) ha
  have e : ms.set a x = ms := by
    obtain ⟨hl, e⟩ := List.getElem?_eq_some_iff.mp hx
    rw [← e, List.set_getElem_self]
  rw [e] at h2
  exact h2
theorem Ms.turn {rs : List (List Int)} {k : Nat} {ms : List Nat} (h : Ms rs k rs.length ms) : Ms rs (k + 1) 0 ms := by
  refine ⟨h.1, fun c m hm b => ?_⟩
  have hc : c < rs.length := by rw [← h.1]; exact (List.getElem?_eq_some_iff.mp hm).1
  rw [h.2 c m hm b]
  constructor
  · rintro (⟨_, q⟩ | ⟨q, _⟩)
    · exact .inr ⟨Nat.zero_le _, q⟩
    · omega
  · rintro (⟨q, _⟩ | ⟨_, q⟩)
    · omega
    · exact .inl ⟨hc, q⟩
theorem Ms.final {rs : List (List Int)} {ms : List Nat} (h : Ms rs rs.length 0 ms) (hin : In rs) {c m : Nat} (hm : ms[c]? = some m) (b : Nat) : m.testBit b = true ↔ Tc (Ed rs) c b := by
  rw [h.2 c m hm b]
  constructor
  · rintro (⟨q, _⟩ | ⟨_, q⟩)
    · omega
    · exact q.tc
  · exact fun q => .inr ⟨Nat.zero_le _, Via.of (fun _ _ e => hin.lt e) q⟩
end Lm
namespace Lm
/-! ### the holders, row by row -/
def Hpt (rs hs : List (List Int)) (i : Nat) (done : List Int) : Prop := hs.length = rs.length ∧ (∀ l ∈ hs, ∀ e ∈ l, 0 ≤ e ∧ e < (rs.length : Int)) ∧
  ∀ (l p : Nat) hl, hs[l]? = some hl → hl.count (p : Int) = if p < i then (rs.getD p []).count (l : Int) else if p = i then done.count (l : Int) else 0
theorem Hpt.init (rs : List (List Int)) : Hpt rs (List.replicate rs.length []) 0 [] := by
  refine ⟨List.length_replicate, fun l hl e he => ?_, fun l p hl h => ?_⟩
  · rw [(List.mem_replicate.mp hl).2] at he; exact nomatch he
  · rw [List.getElem?_replicate] at h
    split at h
    · rw [← Option.some.inj h]; simp
    · cases h
theorem Hpt.step {rs hs : List (List Int)} {i : Nat} {done : List Int} (k : Hpt rs hs i done) (hi : i < rs.length) {h : Int} (h0 : 0 ≤ h) {hl : List Int} (e : hs[h.toNat]? = some hl) : Hpt rs (hs.set h.toNat (hl ++ [(i : Int)])) i (done ++ [h]) := by
  have hlt := (List.getElem?_eq_some_iff.mp e).1
  refine ⟨by rw [List.length_set]; exact k.1, fun l hm x hx => ?_, fun l p hl' hp => ?_⟩
  · rcases List.mem_or_eq_of_mem_set hm with q | q
    · exact k.2.1 l q x hx
    · rw [q] at hx
      rcases List.mem_append.mp hx with z | z
      · exact k.2.1 hl (List.mem_of_getElem? e) x z
      · rw [List.mem_singleton.mp z]; omega
  · rw [List.getElem?_set] at hp
    by_cases q : h.toNat = l
    · rw [if_pos q, if_pos hlt] at hp
      have c := k.2.2 l p hl (by rw [← q]; exact e)
      rw [← Option.some.inj hp, List.count_append, c, List.count_append]
      have el : h = (l : Int) := by omega
      rw [el]
      by_cases a : p < i
      · have t : ¬ i = p := by omega
        have t2 : ¬ (i : Int) = (p : Int) := by omega
        rw [List.count_singleton, if_pos a, if_pos a]
        simp [t, t2]
      · by_cases b : p = i
        · subst b; simp
        · have t : ¬ i = p := by omega
          have t2 : ¬ (i : Int) = (p : Int) := by omega
          rw [List.count_singleton, if_neg a, if_neg a, if_neg b, if_neg b]
          simp [t, t2]
    · rw [if_neg q] at hp
      have el : ¬ h = (l : Int) := by omega
      rw [k.2.2 l p hl' hp, List.count_append]
      simp [el]
theorem Hpt.row {rs hs : List (List Int)} {i : Nat} {r : List Int} (k : Hpt rs hs i r) (hr : rs[i]? = some r) : Hpt rs hs (i + 1) [] := by
  refine ⟨k.1, k.2.1, fun l p hl h => ?_⟩
  rw [k.2.2 l p hl h]
  by_cases a : p < i
  · rw [if_pos a, if_pos (by omega)]
  · by_cases b : p = i
    · subst b
      rw [if_neg a, if_pos rfl, if_pos (by omega), List.getD_eq_getElem?_getD, hr]; rfl
    · rw [if_neg a, if_neg b, if_neg (by omega)]; simp
theorem Hpt.final {rs hs : List (List Int)} (k : Hpt rs hs rs.length []) : Hd rs hs := by
  refine ⟨k.1, k.2.1, fun l p hl r h1 h2 => ?_⟩
  have hp := (List.getElem?_eq_some_iff.mp h2).1
  rw [k.2.2 l p hl h1, if_pos hp, List.getD_eq_getElem?_getD, h2]; rfl
/-- the start: the places of empty rows -/
theorem Kn.init {rs : List (List Int)} {ss : List Int} (nd : ss.Nodup) (h : ∀ p : Int, p ∈ ss ↔ 0 ≤ p ∧ rs[p.toNat]? = some []) : Kn rs (rs.map fun r => (r.length : Int)) ss 0 := by
  refine ⟨nd, fun s hs => ?_, Nat.zero_le _, List.length_map .., fun p r hr => ?_, fun p r hr => ?_, fun i s r hi hr x hx => ?_⟩
  · obtain ⟨h0, h1⟩ := (h s).mp hs
    have := (List.getElem?_eq_some_iff.mp h1).1
    omega
  · rw [List.getElem?_map, hr, List.take_zero, miss_nil]; rfl
  · rw [List.take_zero, miss_nil, h, Int.toNat_natCast, hr]
    constructor
    · rintro ⟨_, e⟩; rw [Option.some.inj e]; rfl
    · intro e
      exact ⟨by omega, by rw [List.length_eq_zero_iff.mp e]⟩
  · obtain ⟨_, h1⟩ := (h s).mp (List.mem_of_getElem? hi)
    rw [hr] at h1
    rw [Option.some.inj h1] at hx
    exact nomatch hx
end Lm
/-! plain maths: likeness of groups, as the greatest relation and as a partition -/
namespace Lm
def gp (c : Nat) (r : List Int) : List Int := r.filter fun e => decide (e < (c : Int))
def br (c : Nat) (r : List Int) : List Int := r.filter fun e => decide (e ≥ (c : Int))
def Mt (R : Nat → Nat → Prop) (xs ys : List Int) : Prop := (∀ e ∈ xs, ∃ f ∈ ys, R e.toNat f.toNat) ∧ (∀ f ∈ ys, ∃ e ∈ xs, R e.toNat f.toNat)
theorem Mt.mono {R S : Nat → Nat → Prop} {xs ys : List Int} (h : Mt R xs ys) (hs : ∀ a b, R a b → S a b) : Mt S xs ys :=
  ⟨fun e he => by obtain ⟨f, hf, r⟩ := h.1 e he; exact ⟨f, hf, hs _ _ r⟩, fun f hf => by obtain ⟨e, he, r⟩ := h.2 f hf; exact ⟨e, he, hs _ _ r⟩⟩
def IsB (c : Nat) (rs : List (List Int)) (R : Nat → Nat → Prop) : Prop := ∀ g h, R g h → ∃ r s, g < c ∧ h < c ∧ rs[g]? = some r ∧ rs[h]? = some s ∧ br c r = br c s ∧ Mt R (gp c r) (gp c s)
def Bs (c : Nat) (rs : List (List Int)) (g h : Nat) : Prop := ∃ R, IsB c rs R ∧ R g h
theorem Bs.isB {c : Nat} {rs : List (List Int)} : IsB c rs (Bs c rs) := by
  rintro g h ⟨R, hR, r⟩
  obtain ⟨a, b, h1, h2, h3, h4, h5, h6⟩ := hR g h r
  exact ⟨a, b, h1, h2, h3, h4, h5, h6.mono fun x y q => ⟨R, hR, q⟩⟩
theorem Bs.symm {c : Nat} {rs : List (List Int)} {g h : Nat} (b : Bs c rs g h) : Bs c rs h g := by
  obtain ⟨R, hR, r⟩ := b
  refine ⟨fun x y => R y x, fun x y q => ?_, r⟩
  obtain ⟨a, b, h1, h2, h3, h4, h5, h6⟩ := hR y x q
  exact ⟨b, a, h2, h1, h4, h3, h5.symm, h6.2, h6.1⟩
theorem gp_mem {c : Nat} {r : List Int} {e : Int} : e ∈ gp c r ↔ e ∈ r ∧ e < (c : Int) := by
  unfold gp; rw [List.mem_filter, decide_eq_true_eq]
theorem br_mem {c : Nat} {r : List Int} {e : Int} : e ∈ br c r ↔ e ∈ r ∧ e ≥ (c : Int) := by
  unfold br; rw [List.mem_filter, decide_eq_true_eq]
/-- two equal rows are alike -/
theorem Bs.of_eq {n c : Nat} {rs : List (List Int)} (hn : rs.length = n) (hc : c ≤ n) (h0 : ∀ r ∈ rs, ∀ e ∈ r, 0 ≤ e) {g h : Nat} (hg : g < c) (hh : h < c) (e : rs[g]? = rs[h]?) : Bs c rs g h := by
  refine ⟨fun x y => (x < c ∧ x = y) ∨ (x = g ∧ y = h), fun x y q => ?_, .inr ⟨rfl, rfl⟩⟩
  have refl : ∀ x, x < c → ∃ r, rs[x]? = some r ∧ Mt (fun x y => (x < c ∧ x = y) ∨ (x = g ∧ y = h)) (gp c r) (gp c r) := fun x hx => by
    refine ⟨_, List.getElem?_eq_getElem (by omega), fun e he => ⟨e, he, .inl ⟨?_, rfl⟩⟩, fun e he => ⟨e, he, .inl ⟨?_, rfl⟩⟩⟩
    all_goals
      have h1 := gp_mem.mp he
      have h2 := h0 _ (List.getElem_mem _) e h1.1
      omega
  rcases q with ⟨hx, rfl⟩ | ⟨rfl, rfl⟩
  · obtain ⟨r, h1, h2⟩ := refl x hx
    exact ⟨r, r, hx, hx, h1, h1, rfl, h2⟩
  · obtain ⟨r, h1, h2⟩ := refl x hg
    exact ⟨r, r, hg, hh, h1, by rw [← e]; exact h1, rfl, h2⟩
/-- lists that ascend and have the same members are the same -/
theorem asc_eq : ∀ {xs ys : List Int}, xs.Pairwise (· < ·) → ys.Pairwise (· < ·) → (∀ e, e ∈ xs ↔ e ∈ ys) → xs = ys
  | [], [], _, _, _ => rfl
  | [], y :: ys, _, _, h => absurd ((h y).mpr List.mem_cons_self) List.not_mem_nil
  | x :: xs, [], _, _, h => absurd ((h x).mp List.mem_cons_self) List.not_mem_nil
  | x :: xs, y :: ys, h1, h2, h => by
    rw [List.pairwise_cons] at h1 h2
    have e : x = y := by
      rcases List.mem_cons.mp ((h x).mp List.mem_cons_self) with e | e
      · exact e
      · rcases List.mem_cons.mp ((h y).mpr List.mem_cons_self) with e2 | e2
        · exact e2.symm
        · have := h2.1 x e; have := h1.1 y e2; omega
    subst e
    congr 1
    refine asc_eq h1.2 h2.2 fun z => ⟨fun hz => ?_, fun hz => ?_⟩
    · rcases List.mem_cons.mp ((h z).mp (List.mem_cons_of_mem _ hz)) with q | q
      · subst q; have := h1.1 z hz; omega
      · exact q
    · rcases List.mem_cons.mp ((h z).mpr (List.mem_cons_of_mem _ hz)) with q | q
      · subst q; have := h2.1 z hz; omega
      · exact q
/-- without rings: where two unlike places are alike, two of the rows are equal -/
theorem Bs.doubled {n c : Nat} {rs : List (List Int)} (hn : rs.length = n) (hc : c ≤ n) (h0 : ∀ r ∈ rs, ∀ e ∈ r, 0 ≤ e) (ha : ∀ r ∈ rs, r.Pairwise (· < ·)) (hr : ∀ x, ¬ Tc (Ed rs) x x) {g h : Nat} (b : Bs c rs g h) (hgh : g ≠ h) :
    ∃ x y, x < y ∧ y < c ∧ rs[x]? = rs[y]? := by
  refine Classical.byContradiction fun hno => ?_
  have U : ∀ a, (∃ b, Bs c rs a b ∧ a ≠ b) → ∃ b, (∃ d, Bs c rs b d ∧ b ≠ d) ∧ Ed rs a b := by
    rintro a ⟨b, hb, hab⟩
    obtain ⟨r, s, a1, a2, a3, a4, a5, a6⟩ := Bs.isB a b hb
    refine Classical.byContradiction fun hn2 => ?_
    have key : ∀ e f, e ∈ gp c r → f ∈ gp c s → Bs c rs e.toNat f.toNat → e = f := fun e f he hf q => by
      refine Classical.byContradiction fun hne => hn2 ⟨e.toNat, ⟨f.toNat, q, fun z => hne ?_⟩, r, a3, ?_⟩
      · have := h0 r (List.mem_of_getElem? a3) e (gp_mem.mp he).1
        have := h0 s (List.mem_of_getElem? a4) f (gp_mem.mp hf).1
        omega
      · have := h0 r (List.mem_of_getElem? a3) e (gp_mem.mp he).1
        rw [show ((e.toNat : Nat) : Int) = e by omega]; exact (gp_mem.mp he).1
    have same : ∀ e, e ∈ r ↔ e ∈ s := fun e => by
      by_cases hlt : e < (c : Int)
      · constructor
        · intro he
          obtain ⟨f, hf, q⟩ := a6.1 e (gp_mem.mpr ⟨he, hlt⟩)
          rw [key e f (gp_mem.mpr ⟨he, hlt⟩) hf q]; exact (gp_mem.mp hf).1
        · intro he
          obtain ⟨f, hf, q⟩ := a6.2 e (gp_mem.mpr ⟨he, hlt⟩)
          rw [← key f e hf (gp_mem.mpr ⟨he, hlt⟩) q]; exact (gp_mem.mp hf).1
      · have h1 : e ∈ br c r ↔ e ∈ br c s := by rw [a5]
        rw [br_mem, br_mem] at h1
        constructor
        · intro he; exact (h1.mp ⟨he, by omega⟩).1
        · intro he; exact (h1.mpr ⟨he, by omega⟩).1
    have e : r = s := asc_eq (ha r (List.mem_of_getElem? a3)) (ha s (List.mem_of_getElem? a4)) same
    rcases Nat.lt_or_gt_of_ne hab with q | q
    · exact hno ⟨a, b, q, a2, by rw [a3, a4, e]⟩
    · exact hno ⟨b, a, q, a1, by rw [a3, a4, e]⟩
  obtain ⟨k, _, t⟩ := ring_of (E := Ed rs) (n := n) (U := fun a => ∃ b, Bs c rs a b ∧ a ≠ b) (fun a ⟨b, hb, _⟩ => by obtain ⟨_, _, h1, _⟩ := Bs.isB a b hb; omega) U ⟨h, b, hgh⟩
  exact hr k t
/-! ### the table of bools -/
def tr (M : List (List Bool)) (g h : Nat) : Prop := ∃ r, M[g]? = some r ∧ r[h]? = some true
structure Gl (c : Nat) (rs : List (List Int)) (M : List (List Bool)) : Prop where
  len : M.length = c
  row : ∀ r ∈ M, r.length = c
  has : ∀ g h, Bs c rs g h → tr M g h
  bare : ∀ g h, tr M g h → ∃ r s, g < c ∧ h < c ∧ rs[g]? = some r ∧ rs[h]? = some s ∧ br c r = br c s
theorem Gl.init {n c : Nat} {rs : List (List Int)} (hn : rs.length = n) (hc : c ≤ n) {bs : List (List Int)} (hb : bs = (rs.take c).map (br c)) : Gl c rs (bs.map fun x => bs.map fun y => decide (x = y)) := by
  have hl : bs.length = c := by rw [hb, List.length_map, List.length_take]; omega
  have hg : ∀ g, g < c → ∃ r, rs[g]? = some r ∧ bs[g]? = some (br c r) := fun g hg => by
    obtain ⟨r, hr⟩ : ∃ r, rs[g]? = some r := ⟨_, List.getElem?_eq_getElem (by omega)⟩
    refine ⟨r, hr, ?_⟩
    rw [hb, List.getElem?_map, List.getElem?_take_of_lt hg, hr]; rfl
  refine ⟨by rw [List.length_map, hl], fun r hr => ?_, fun g h b => ?_, fun g h ⟨r, h1, h2⟩ => ?_⟩
  · obtain ⟨x, _, rfl⟩ := List.mem_map.mp hr
    rw [List.length_map, hl]
  · obtain ⟨r, s, a1, a2, a3, a4, a5, _⟩ := Bs.isB g h b
    obtain ⟨r', b1, b2⟩ := hg g a1
    obtain ⟨s', d1, d2⟩ := hg h a2
    rw [a3] at b1; cases b1
    rw [a4] at d1; cases d1
    refine ⟨_, by rw [List.getElem?_map, b2]; rfl, ?_⟩
    rw [List.getElem?_map, d2]
    show some (decide _) = _
    rw [a5, decide_eq_true rfl]
  · rw [List.getElem?_map] at h1
    cases q : bs[g]? with
    | none => rw [q] at h1; cases h1
    | some x =>
      rw [q] at h1
      cases h1
      rw [List.getElem?_map] at h2
      cases q2 : bs[h]? with
      | none => rw [q2] at h2; cases h2
      | some y =>
        rw [q2] at h2
        have e : x = y := of_decide_eq_true (Option.some.inj h2)
        have g1 : g < c := by rw [← hl]; exact (List.getElem?_eq_some_iff.mp q).1
        have g2 : h < c := by rw [← hl]; exact (List.getElem?_eq_some_iff.mp q2).1
        obtain ⟨r', b1, b2⟩ := hg g g1
        obtain ⟨s', d1, d2⟩ := hg h g2
        rw [q] at b2; rw [q2] at d2
        exact ⟨r', s', g1, g2, b1, d1, by rw [← Option.some.inj b2, ← Option.some.inj d2]; exact e⟩
theorem tr_set {M : List (List Bool)} {f s : Nat} {r : List Bool} (hr : M[f]? = some r) {g h : Nat} : tr (M.set f (r.set s false)) g h ↔ tr M g h ∧ ¬ (g = f ∧ h = s) := by
  have hf := (List.getElem?_eq_some_iff.mp hr).1
  unfold tr
  by_cases e : f = g
  · subst e
    rw [List.getElem?_set_self hf, hr]
    constructor
    · rintro ⟨r', h1, h2⟩
      cases h1
      by_cases e2 : s = h
      · subst e2
        have : s < r.length := by
          have := (List.getElem?_eq_some_iff.mp h2).1; rwa [List.length_set] at this
        rw [List.getElem?_set_self this] at h2; cases h2
      · rw [List.getElem?_set_ne e2] at h2
        exact ⟨⟨r, rfl, h2⟩, fun z => e2 z.2.symm⟩
    · rintro ⟨⟨r', h1, h2⟩, hn⟩
      cases h1
      exact ⟨_, rfl, by rw [List.getElem?_set_ne (fun z => hn ⟨rfl, z.symm⟩)]; exact h2⟩
  · rw [List.getElem?_set_ne e]
    exact ⟨fun q => ⟨q, fun z => e z.1.symm⟩, fun q => q.1⟩
theorem Gl.fall {c : Nat} {rs : List (List Int)} {M : List (List Bool)} (G : Gl c rs M) {f s : Nat} {r : List Bool} (hr : M[f]? = some r) {x y : List Int} (hx : rs[f]? = some x) (hy : rs[s]? = some y) (hn : ¬ Mt (tr M) (gp c x) (gp c y)) :
    Gl c rs (M.set f (r.set s false)) := by
  refine ⟨by rw [List.length_set]; exact G.len, fun r' h' => ?_, fun g h b => ?_, fun g h t => ?_⟩
  · rcases List.mem_or_eq_of_mem_set h' with q | q
    · exact G.row r' q
    · rw [q, List.length_set]; exact G.row r (List.mem_of_getElem? hr)
  · refine (tr_set hr).mpr ⟨G.has g h b, ?_⟩
    rintro ⟨rfl, rfl⟩
    obtain ⟨r', s', _, _, a3, a4, _, a6⟩ := Bs.isB g h b
    rw [hx] at a3; cases a3
    rw [hy] at a4; cases a4
    exact hn (a6.mono fun a b q => G.has a b q)
  · exact G.bare g h ((tr_set hr).mp t).1
/-- no pair falls any more -/
theorem Gl.final {c : Nat} {rs : List (List Int)} {M : List (List Bool)} (G : Gl c rs M) (h : ∀ g k x y, tr M g k → rs[g]? = some x → rs[k]? = some y → Mt (tr M) (gp c x) (gp c y)) (g k : Nat) : tr M g k ↔ Bs c rs g k := by
  refine ⟨fun t => ⟨tr M, fun a b q => ?_, t⟩, G.has g k⟩
  obtain ⟨r, s, a1, a2, a3, a4, a5⟩ := G.bare a b q
  exact ⟨r, s, a1, a2, a3, a4, a5, h a b r s q a3 a4⟩
def trues (M : List (List Bool)) : Nat := (M.map fun r => r.countP id).sum
theorem count_false {r : List Bool} : ∀ {s : Nat}, r[s]? = some true → (r.set s false).countP id + 1 = r.countP id := by
  induction r with
  | nil => intro s h; simp at h
  | cons b r ih =>
    intro s h
    cases s with
    | zero => simp at h; subst h; simp [List.countP_cons]
    | succ s =>
      rw [List.getElem?_cons_succ] at h
      rw [List.set_cons_succ, List.countP_cons, List.countP_cons, ← ih h]; omega
theorem trues_fall {M : List (List Bool)} : ∀ {f s : Nat} {r : List Bool}, M[f]? = some r → r[s]? = some true → trues (M.set f (r.set s false)) + 1 = trues M := by
  induction M with
  | nil => intro f s r h; simp at h
  | cons a M ih =>
    intro f s r h h2
    cases f with
    | zero =>
      simp at h; subst h
      have := count_false h2
      simp only [trues, List.set_cons_zero, List.map_cons, List.sum_cons]; omega
    | succ f =>
      rw [List.getElem?_cons_succ] at h
      have := ih h h2
      simp only [trues] at this
      simp only [trues, List.set_cons_succ, List.map_cons, List.sum_cons]; omega
/-! ### the partition by rounds -/
/-- where a list's first entry of a kind stands -/
structure Can (p : List Int) (c : Nat) : Prop where
  len : p.length = c
  fix : ∀ (a : Nat) (z : Int), p[a]? = some z → 0 ≤ z ∧ z ≤ a ∧ p[z.toNat]? = some z
def fixed (p : List Int) (c : Nat) : Nat := (List.range c).countP fun a : Nat => decide (p[a]? = some (a : Int))
theorem fixed_le (p : List Int) (c : Nat) : fixed p c ≤ c := by
  unfold fixed
  have := List.countP_le_length (p := fun a : Nat => decide (p[a]? = some (a : Int))) (l := List.range c)
  rwa [List.length_range] at this
theorem countP_lt {α : Type} {P Q : α → Bool} : ∀ {l : List α}, (∀ x ∈ l, P x = true → Q x = true) → (∃ x ∈ l, Q x = true ∧ P x = false) → l.countP P < l.countP Q
  | [], _, ⟨x, hx, _⟩ => absurd hx List.not_mem_nil
  | y :: l, h, ⟨x, hx, hq, hp⟩ => by
    have mono : l.countP P ≤ l.countP Q := List.countP_mono_left fun z hz => h z (List.mem_cons_of_mem _ hz)
    rcases List.mem_cons.mp hx with e | e
    · subst e
      rw [List.countP_cons_of_pos hq, List.countP_cons_of_neg (by rw [hp]; decide)]; omega
    · have ih := countP_lt (l := l) (fun z hz => h z (List.mem_cons_of_mem _ hz)) ⟨x, e, hq, hp⟩
      by_cases hy : P y = true
      · rw [List.countP_cons_of_pos hy, List.countP_cons_of_pos (h y List.mem_cons_self hy)]; omega
      · rw [List.countP_cons_of_neg hy]
        by_cases hy2 : Q y = true
        · rw [List.countP_cons_of_pos hy2]; omega
        · rw [List.countP_cons_of_neg hy2]; exact ih
/-- one round: q numbers the keys that refine p's numbers -/
structure Rd {κ : Type} (p q : List Int) (key : Nat → κ) (c : Nat) : Prop where
  len : q.length = c
  first : ∀ a, a < c → ∃ b : Nat, q[a]? = some (b : Int) ∧ b ≤ a ∧ key b = key a ∧ ∀ d, d < b → key d ≠ key a
  ref : ∀ a b, a < c → b < c → key a = key b → p[a]? = p[b]?
theorem Rd.can {κ : Type} {p q : List Int} {key : Nat → κ} {c : Nat} (R : Rd p q key c) : Can q c := by
  refine ⟨R.len, fun a z hz => ?_⟩
  have ha : a < c := by rw [← R.len]; exact (List.getElem?_eq_some_iff.mp hz).1
  obtain ⟨b, h1, h2, h3, h4⟩ := R.first a ha
  rw [h1] at hz; cases hz
  refine ⟨by omega, by omega, ?_⟩
  obtain ⟨d, k1, k2, k3, k4⟩ := R.first b (by omega)
  rw [Int.toNat_natCast, k1]
  have : d = b := by
    rcases Nat.lt_or_ge d b with q | q
    · exact absurd (k3.trans h3) (h4 d q)
    · omega
  rw [this]
theorem Rd.same {κ : Type} {p q : List Int} {key : Nat → κ} {c : Nat} (R : Rd p q key c) {a b : Nat} (ha : a < c) (hb : b < c) : q[a]? = q[b]? ↔ key a = key b := by
  obtain ⟨x, h1, h2, h3, h4⟩ := R.first a ha
  obtain ⟨y, k1, k2, k3, k4⟩ := R.first b hb
  rw [h1, k1]
  constructor
  · intro e
    have : x = y := by have := Option.some.inj e; omega
    subst this
    exact h3.symm.trans k3
  · intro e
    have : x = y := by
      rcases Nat.lt_trichotomy x y with z | z | z
      · exact absurd (h3.trans e) (k4 x z)
      · exact z
      · exact absurd (k3.trans e.symm) (h4 y z)
    rw [this]
theorem Rd.grow {κ : Type} {p q : List Int} {key : Nat → κ} {c : Nat} (R : Rd p q key c) (P : Can p c) (hne : q ≠ p) : fixed p c < fixed q c := by
  have Q := R.can
  have up : ∀ (a : Nat) (z w : Int), p[a]? = some z → q[a]? = some w → z ≤ w ∧ p[w.toNat]? = some z := fun a z w hz hw => by
    have ha : a < c := by rw [← P.len]; exact (List.getElem?_eq_some_iff.mp hz).1
    obtain ⟨b, h1, h2, h3, h4⟩ := R.first a ha
    rw [h1] at hw; cases hw
    have e := R.ref b a (by omega) ha h3
    rw [hz] at e
    obtain ⟨e0, e1, e2⟩ := P.fix b z e
    exact ⟨e1, by rw [Int.toNat_natCast]; exact e⟩
  refine countP_lt (fun a ha h => ?_) ?_
  · have ha := List.mem_range.mp ha
    have hp : p[a]? = some (a : Int) := of_decide_eq_true h
    obtain ⟨b, h1, h2, h3, h4⟩ := R.first a ha
    have := (up a _ _ hp h1).1
    have e : b = a := by omega
    rw [e] at h1
    exact decide_eq_true h1
  · obtain ⟨a, ha, hne2⟩ : ∃ a, a < c ∧ q[a]? ≠ p[a]? := by
      refine Classical.byContradiction fun hn => hne (List.ext_getElem? fun a => ?_)
      by_cases ha : a < c
      · exact Classical.byContradiction fun z => hn ⟨a, ha, z⟩
      · rw [List.getElem?_eq_none (by rw [R.len]; omega), List.getElem?_eq_none (by rw [P.len]; omega)]
    obtain ⟨b, h1, h2, h3, h4⟩ := R.first a ha
    obtain ⟨z, hz⟩ : ∃ z, p[a]? = some z := ⟨_, List.getElem?_eq_getElem (by rw [P.len]; exact ha)⟩
    obtain ⟨u1, u2⟩ := up a z b hz h1
    rw [Int.toNat_natCast] at u2
    refine ⟨b, List.mem_range.mpr (by omega), ?_, ?_⟩
    · have := (Q.fix a b h1).2.2
      rw [Int.toNat_natCast] at this
      exact decide_eq_true this
    · refine decide_eq_false fun e => hne2 ?_
      rw [u2] at e
      rw [h1, hz, ← Option.some.inj e]
theorem zeros_can (c : Nat) : Can (List.replicate c 0) c := by
  refine ⟨List.length_replicate, fun a z hz => ?_⟩
  rw [List.getElem?_replicate] at hz
  by_cases h : a < c
  · rw [if_pos h] at hz
    cases hz
    exact ⟨by omega, by omega, by rw [List.getElem?_replicate, if_pos (by show (0 : Int).toNat < c; simp; omega)]⟩
  · rw [if_neg h] at hz; cases hz
/-- a key of a place: its number, the numbers it holds, what it holds beside -/
structure Ky (c : Nat) (rs : List (List Int)) (p : List Int) (key : Nat → Int × List Int × List Int) : Prop where
  val : ∀ (a : Nat) r, a < c → rs[a]? = some r → (key a).2.2 = br c r ∧ p[a]? = some (key a).1 ∧ (∀ z, z ∈ (key a).2.1 ↔ ∃ e ∈ gp c r, p[e.toNat]? = some z)
theorem Ky.keep {n c : Nat} {rs : List (List Int)} {p : List Int} {key : Nat → Int × List Int × List Int} (k : Ky c rs p key) (hn : rs.length = n) (hc : c ≤ n) (hp : p.length = c) (h0 : ∀ r ∈ rs, ∀ e ∈ r, 0 ≤ e)
    (hasc : ∀ a, a < c → (key a).2.1.Pairwise (· < ·)) (hb : ∀ g h, Bs c rs g h → p[g]? = p[h]?) {g h : Nat} (b : Bs c rs g h) : key g = key h := by
  obtain ⟨r, s, a1, a2, a3, a4, a5, a6⟩ := Bs.isB g h b
  obtain ⟨k1, k2, k3⟩ := k.val g r a1 a3
  obtain ⟨l1, l2, l3⟩ := k.val h s a2 a4
  have e1 : (key g).1 = (key h).1 := by
    have := hb g h b
    rw [k2, l2] at this
    exact Option.some.inj this
  have e2 : (key g).2.1 = (key h).2.1 := by
    refine asc_eq (hasc g a1) (hasc h a2) fun z => ?_
    rw [k3, l3]
    constructor
    · rintro ⟨e, he, hz⟩
      obtain ⟨f, hf, q⟩ := a6.1 e he
      exact ⟨f, hf, by rw [← hb _ _ q]; exact hz⟩
    · rintro ⟨f, hf, hz⟩
      obtain ⟨e, he, q⟩ := a6.2 f hf
      exact ⟨e, he, by rw [hb _ _ q]; exact hz⟩
  have e3 : (key g).2.2 = (key h).2.2 := by rw [k1, l1, a5]
  exact Prod.ext e1 (Prod.ext e2 e3)
/-- a numbering that a round leaves as it is -/
theorem Ky.stable {n c : Nat} {rs : List (List Int)} {p : List Int} {key : Nat → Int × List Int × List Int} (k : Ky c rs p key) (hn : rs.length = n) (hc : c ≤ n) (R : Rd p p key c) (h0 : ∀ r ∈ rs, ∀ e ∈ r, 0 ≤ e)
    {g h : Nat} (hg : g < c) (hh : h < c) (e : p[g]? = p[h]?) : Bs c rs g h := by
  refine ⟨fun x y => x < c ∧ y < c ∧ p[x]? = p[y]?, ?_, hg, hh, e⟩
  rintro x y ⟨hx, hy, e⟩
  have ek := (R.same hx hy).mp e
  obtain ⟨r, hr⟩ : ∃ r, rs[x]? = some r := ⟨_, List.getElem?_eq_getElem (by omega)⟩
  obtain ⟨s, hs⟩ : ∃ s, rs[y]? = some s := ⟨_, List.getElem?_eq_getElem (by omega)⟩
  obtain ⟨k1, k2, k3⟩ := k.val x r hx hr
  obtain ⟨l1, l2, l3⟩ := k.val y s hy hs
  have lt : ∀ {r e}, r ∈ rs → e ∈ gp c r → e.toNat < c := fun {r e} hr he => by
    have := gp_mem.mp he
    have := h0 r hr e this.1
    omega
  have has : ∀ a, a < c → ∃ z, p[a]? = some z := fun a ha => ⟨_, List.getElem?_eq_getElem (by rw [R.len]; exact ha)⟩
  refine ⟨r, s, hx, hy, hr, hs, by rw [← k1, ← l1, ek], fun e he => ?_, fun f hf => ?_⟩
  · have h1 := lt (List.mem_of_getElem? hr) he
    obtain ⟨z, hz⟩ := has _ h1
    have : z ∈ (key y).2.1 := by rw [← ek]; exact (k3 z).mpr ⟨e, he, hz⟩
    obtain ⟨f, hf, hz2⟩ := (l3 z).mp this
    exact ⟨f, hf, h1, lt (List.mem_of_getElem? hs) hf, by rw [hz, hz2]⟩
  · have h1 := lt (List.mem_of_getElem? hs) hf
    obtain ⟨z, hz⟩ := has _ h1
    have : z ∈ (key x).2.1 := by rw [ek]; exact (l3 z).mpr ⟨f, hf, hz⟩
    obtain ⟨e, he, hz2⟩ := (k3 z).mp this
    exact ⟨e, he, lt (List.mem_of_getElem? hr) he, h1, by rw [hz2, hz]⟩
theorem Can.id_iff {p : List Int} {c : Nat} (P : Can p c) : p = (List.range c).map (fun k : Nat => (k : Int)) ↔ ∀ g h, g < c → h < c → p[g]? = p[h]? → g = h := by
  constructor
  · intro e g h hg hh q
    rw [e, List.getElem?_map, List.getElem?_map, List.getElem?_range hg, List.getElem?_range hh] at q
    simp only [Option.map_some, Option.some.injEq] at q
    omega
  · intro hi
    refine List.ext_getElem? fun a => ?_
    by_cases ha : a < c
    · obtain ⟨z, hz⟩ : ∃ z, p[a]? = some z := ⟨_, List.getElem?_eq_getElem (by rw [P.len]; exact ha)⟩
      obtain ⟨z0, z1, z2⟩ := P.fix a z hz
      have := hi z.toNat a (by omega) ha (by rw [z2, hz])
      rw [hz, List.getElem?_map, List.getElem?_range ha]
      simp only [Option.map_some, Option.some.injEq]
      omega
    · rw [List.getElem?_eq_none (by rw [P.len]; omega), List.getElem?_eq_none (by rw [List.length_map, List.length_range]; omega)]
end Lm
/-! plain maths: numberings that tell the sets, and the drawing built of a sketch -/
namespace Lm
/-- equal numbers exactly at places with the same members' numbers -/
def Ext (T : List (List Int)) (N : Nat → Int) : Prop := ∀ (a b : Nat) r s, T[a]? = some r → T[b]? = some s → (N a = N b ↔ ∀ z, (∃ e ∈ r, N e.toNat = z) ↔ (∃ e ∈ s, N e.toNat = z))
/-- the drawing T built of the rows rs, c of them groups -/
structure Bd (T rs : List (List Int)) (n c : Nat) : Prop where
  len : rs.length = n
  cn : c ≤ n
  grp : ∀ a, a < c → T[a]? = rs[a]?
  bar : ∀ (i : Nat) r, c + i < n → rs[c + i]? = some r → T[c + i]? = some (r ++ [((n + i : Nat) : Int)])
  mark : ∀ i, c + i < n → T[n + i]? = some [((n + (n - c) : Nat) : Int), ((n + (n - c) + (c + 1 + i) : Nat) : Int)]
  zero : c < n → T[n + (n - c)]? = some []
  wrap : c < n → ∀ w, w < n → T[n + (n - c) + (w + 1)]? = some [((n + (n - c) + w : Nat) : Int)]
section
variable {T rs : List (List Int)} {n c : Nat} {N : Nat → Int}
theorem Bd.z_inj (B : Bd T rs n c) (X : Ext T N) (h : c < n) : ∀ j k, j ≤ n → k ≤ n → N (n + (n - c) + j) = N (n + (n - c) + k) → j = k := by
  intro j
  induction j with
  | zero =>
    intro k _ hk e
    cases k with
    | zero => rfl
    | succ k =>
      have := (X _ _ _ _ (B.zero h) (B.wrap h k (by omega))).mp e (N (n + (n - c) + k))
      obtain ⟨e, he, _⟩ := this.mpr ⟨_, List.mem_singleton.mpr rfl, by rw [Int.toNat_natCast]⟩
      exact nomatch he
  | succ j ih =>
    intro k hj hk e
    cases k with
    | zero =>
      have := (X _ _ _ _ (B.wrap h j (by omega)) (B.zero h)).mp e (N (n + (n - c) + j))
      obtain ⟨e, he, _⟩ := this.mp ⟨_, List.mem_singleton.mpr rfl, by rw [Int.toNat_natCast]⟩
      exact nomatch he
    | succ k =>
      have := (X _ _ _ _ (B.wrap h j (by omega)) (B.wrap h k (by omega))).mp e (N (n + (n - c) + j))
      obtain ⟨e, he, e2⟩ := this.mp ⟨_, List.mem_singleton.mpr rfl, by rw [Int.toNat_natCast]⟩
      rw [List.mem_singleton.mp he, Int.toNat_natCast] at e2
      rw [ih k (by omega) (by omega) e2.symm]
/-- a place with the number of j nested braces -/
theorem Bd.z_zero (B : Bd T rs n c) (X : Ext T N) (h : c < n) {a : Nat} {r : List Int} (hr : T[a]? = some r) (e : N a = N (n + (n - c) + 0)) : r = [] := by
  cases r with
  | nil => rfl
  | cons x r =>
    have := (X _ _ _ _ hr (B.zero h)).mp e (N x.toNat)
    obtain ⟨e, he, _⟩ := this.mp ⟨x, List.mem_cons_self, rfl⟩
    exact nomatch he
theorem Bd.z_succ (B : Bd T rs n c) (X : Ext T N) (h : c < n) {a : Nat} {r : List Int} (hr : T[a]? = some r) {j : Nat} (hj : j < n) (e : N a = N (n + (n - c) + (j + 1))) : (∀ x ∈ r, N x.toNat = N (n + (n - c) + j)) ∧ ∃ x, x ∈ r := by
  have key := (X _ _ _ _ hr (B.wrap h j hj)).mp e
  constructor
  · intro x hx
    obtain ⟨y, hy, e2⟩ := (key (N x.toNat)).mp ⟨x, hx, rfl⟩
    rw [List.mem_singleton.mp hy, Int.toNat_natCast] at e2
    exact e2.symm
  · obtain ⟨x, hx, _⟩ := (key (N (n + (n - c) + j))).mpr ⟨_, List.mem_singleton.mpr rfl, by rw [Int.toNat_natCast]⟩
    exact ⟨x, hx⟩
theorem Bd.mark_z (B : Bd T rs n c) (X : Ext T N) {i : Nat} (hi : c + i < n) {j : Nat} (hj : j ≤ n) : N (n + i) ≠ N (n + (n - c) + j) := by
  intro e
  have h : c < n := by omega
  cases j with
  | zero => have := B.z_zero X h (B.mark i hi) e; cases this
  | succ j =>
    obtain ⟨k1, _⟩ := B.z_succ X h (B.mark i hi) (by omega) e
    have e1 := k1 _ (List.mem_cons_self)
    have e2 := k1 _ (List.mem_cons_of_mem _ (List.mem_singleton.mpr rfl))
    rw [Int.toNat_natCast] at e1 e2
    have h1 := B.z_inj X h 0 j (by omega) (by omega) e1
    have h2 := B.z_inj X h (c + 1 + i) j (by omega) (by omega) e2
    omega
theorem Bd.bare_row (B : Bd T rs n c) {i : Nat} (hi : c + i < n) : ∃ r, rs[c + i]? = some r ∧ T[c + i]? = some (r ++ [((n + i : Nat) : Int)]) := by
  obtain ⟨r, hr⟩ : ∃ r, rs[c + i]? = some r := ⟨_, List.getElem?_eq_getElem (by rw [B.len]; exact hi)⟩
  exact ⟨r, hr, B.bar i r hi hr⟩
theorem Bd.bare_z (B : Bd T rs n c) (X : Ext T N) {i : Nat} (hi : c + i < n) {j : Nat} (hj : j ≤ n) : N (c + i) ≠ N (n + (n - c) + j) := by
  intro e
  have h : c < n := by omega
  obtain ⟨r, _, hr⟩ := B.bare_row hi
  cases j with
  | zero => have := B.z_zero X h hr e; simp at this
  | succ j =>
    obtain ⟨k1, _⟩ := B.z_succ X h hr (by omega) e
    have e1 := k1 _ (List.mem_append_right _ (List.mem_singleton.mpr rfl))
    rw [Int.toNat_natCast] at e1
    exact B.mark_z X hi (by omega) e1
/-- a place below n with the number of j nested braces is the end of a chain of j + 1 groups -/
theorem Bd.chain (B : Bd T rs n c) (X : Ext T N) (hin : In rs) (h : c < n) : ∀ j, j ≤ n → ∀ p, p < n → N p = N (n + (n - c) + j) → ∃ f : Nat → Nat, ∀ k, k ≤ j → f k < c ∧ N (f k) = N (n + (n - c) + k) := by
  intro j
  induction j with
  | zero =>
    intro hj p hp e
    refine ⟨fun _ => p, fun k hk => ?_⟩
    have : k = 0 := by omega
    subst this
    refine ⟨?_, e⟩
    rcases Nat.lt_or_ge p c with q | q
    · exact q
    · have := B.bare_z X (i := p - c) (by omega) (j := 0) (by omega)
      rw [show c + (p - c) = p by omega] at this
      exact absurd e this
  | succ j ih =>
    intro hj p hp e
    have hpc : p < c := by
      rcases Nat.lt_or_ge p c with q | q
      · exact q
      · have := B.bare_z X (i := p - c) (by omega) hj
        rw [show c + (p - c) = p by omega] at this
        exact absurd e this
    obtain ⟨r, hr⟩ : ∃ r, rs[p]? = some r := ⟨_, List.getElem?_eq_getElem (by rw [B.len]; exact hp)⟩
    have hT : T[p]? = some r := by rw [B.grp p hpc]; exact hr
    obtain ⟨k1, x, hx⟩ := B.z_succ X h hT (by omega) e
    have hx2 := hin r (List.mem_of_getElem? hr) x hx
    rw [B.len] at hx2
    obtain ⟨f, hf⟩ := ih (by omega) x.toNat (by omega) (k1 x hx)
    refine ⟨fun k => if k = j + 1 then p else f k, fun k hk => ?_⟩
    by_cases hk2 : k = j + 1
    · subst hk2; simp only [if_pos]; exact ⟨hpc, e⟩
    · simp only [if_neg hk2]; exact hf k (by omega)
theorem Bd.low (B : Bd T rs n c) (X : Ext T N) (hin : In rs) (h : c < n) {j : Nat} (hj : j ≤ n) {p : Nat} (hp : p < n) (e : N p = N (n + (n - c) + j)) : j < c := by
  obtain ⟨f, hf⟩ := B.chain X hin h j hj p hp e
  have nd : ((List.range (j + 1)).map f).Nodup := by
    rw [List.Nodup, List.pairwise_map]
    refine List.Pairwise.imp_of_mem (fun {a b} ha hb hab e2 => ?_) (List.nodup_range (n := j + 1))
    have h1 := List.mem_range.mp ha
    have h2 := List.mem_range.mp hb
    have e3 := (hf a (by omega)).2
    have e4 := (hf b (by omega)).2
    rw [e2] at e3
    exact hab (B.z_inj X h a b (by omega) (by omega) (e3.symm.trans e4))
  have := nodup_le (n := c) nd fun x hx => by
    obtain ⟨k, hk, rfl⟩ := List.mem_map.mp hx
    exact (hf k (by have := List.mem_range.mp hk; omega)).1
  rw [List.length_map, List.length_range] at this
  omega
/-- no place below n is a mark's set -/
theorem Bd.no_mark (B : Bd T rs n c) (X : Ext T N) (hin : In rs) {i : Nat} (hi : c + i < n) {p : Nat} (hp : p < n) : N p ≠ N (n + i) := by
  intro e
  have h : c < n := by omega
  have key : ∀ r, T[p]? = some r → ∃ x ∈ r, N x.toNat = N (n + (n - c) + (c + 1 + i)) := fun r hr => by
    refine ((X _ _ _ _ hr (B.mark i hi)).mp e _).mpr ⟨_, List.mem_cons_of_mem _ (List.mem_singleton.mpr rfl), by rw [Int.toNat_natCast]⟩
  obtain ⟨r, hr⟩ : ∃ r, rs[p]? = some r := ⟨_, List.getElem?_eq_getElem (by rw [B.len]; exact hp)⟩
  have low : ∀ x ∈ r, N x.toNat ≠ N (n + (n - c) + (c + 1 + i)) := fun x hx e2 => by
    have hx2 := hin r (List.mem_of_getElem? hr) x hx
    rw [B.len] at hx2
    have := B.low X hin h (j := c + 1 + i) (by omega) (p := x.toNat) (by omega) e2
    omega
  rcases Nat.lt_or_ge p c with q | q
  · obtain ⟨x, hx, e2⟩ := key r (by rw [B.grp p q]; exact hr)
    exact low x hx e2
  · have hb := B.bar (p - c) r (by omega) (by rw [show c + (p - c) = p by omega]; exact hr)
    rw [show c + (p - c) = p by omega] at hb
    obtain ⟨x, hx, e2⟩ := key _ hb
    rcases List.mem_append.mp hx with z | z
    · exact low x z e2
    · rw [List.mem_singleton.mp z, Int.toNat_natCast] at e2
      exact B.mark_z X (i := p - c) (by omega) (j := c + 1 + i) (by omega) e2
theorem Bd.mark_in (B : Bd T rs n c) (X : Ext T N) {i : Nat} (hi : c + i < n) {p : Nat} {r : List Int} (hr : T[p]? = some r) (e : N (c + i) = N p) : ∃ x ∈ r, N x.toNat = N (n + i) := by
  obtain ⟨r0, _, h0⟩ := B.bare_row hi
  exact ((X _ _ _ _ h0 hr).mp e _).mp ⟨_, List.mem_append_right _ (List.mem_singleton.mpr rfl), by rw [Int.toNat_natCast]⟩
theorem Bd.bare_inj (B : Bd T rs n c) (X : Ext T N) (hin : In rs) {i k : Nat} (hi : c + i < n) (hk : c + k < n) (e : N (c + i) = N (c + k)) : i = k := by
  have h : c < n := by omega
  obtain ⟨r, hr0, hr⟩ := B.bare_row hk
  obtain ⟨x, hx, e2⟩ := B.mark_in X hi hr e
  rcases List.mem_append.mp hx with z | z
  · have hx2 := hin r (List.mem_of_getElem? hr0) x z
    rw [B.len] at hx2
    exact absurd e2 (B.no_mark X hin hi (by omega))
  · rw [List.mem_singleton.mp z, Int.toNat_natCast] at e2
    have := (X _ _ _ _ (B.mark k hk) (B.mark i hi)).mp e2 (N (n + (n - c) + (c + 1 + i)))
    obtain ⟨y, hy, e3⟩ := this.mpr ⟨_, List.mem_cons_of_mem _ (List.mem_singleton.mpr rfl), by rw [Int.toNat_natCast]⟩
    rcases List.mem_cons.mp hy with w | w
    · rw [w, Int.toNat_natCast] at e3
      have := B.z_inj X h 0 (c + 1 + i) (by omega) (by omega) e3
      omega
    · rw [List.mem_singleton.mp w, Int.toNat_natCast] at e3
      have := B.z_inj X h (c + 1 + k) (c + 1 + i) (by omega) (by omega) e3
      omega
theorem Bd.bare_grp (B : Bd T rs n c) (X : Ext T N) (hin : In rs) {i g : Nat} (hi : c + i < n) (hg : g < c) : N (c + i) ≠ N g := by
  intro e
  obtain ⟨r, hr⟩ : ∃ r, rs[g]? = some r := ⟨_, List.getElem?_eq_getElem (by rw [B.len]; omega)⟩
  obtain ⟨x, hx, e2⟩ := B.mark_in X hi (show T[g]? = some r by rw [B.grp g hg]; exact hr) e
  have hx2 := hin r (List.mem_of_getElem? hr) x hx
  rw [B.len] at hx2
  exact absurd e2 (B.no_mark X hin hi (by omega))
/-- equal numbers of two groups: alike as the sketch has it -/
theorem Bd.isB (B : Bd T rs n c) (X : Ext T N) (hin : In rs) (hasc : ∀ r ∈ rs, r.Pairwise (· < ·)) {g h : Nat} (hg : g < c) (hh : h < c) (e : N g = N h) : Bs c rs g h := by
  refine ⟨fun x y => x < c ∧ y < c ∧ N x = N y, ?_, hg, hh, e⟩
  rintro x y ⟨hx, hy, e⟩
  obtain ⟨r, hr⟩ : ∃ r, rs[x]? = some r := ⟨_, List.getElem?_eq_getElem (by rw [B.len]; have := B.cn; omega)⟩
  obtain ⟨s, hs⟩ : ∃ s, rs[y]? = some s := ⟨_, List.getElem?_eq_getElem (by rw [B.len]; have := B.cn; omega)⟩
  have key := (X _ _ r s (by rw [B.grp x hx]; exact hr) (by rw [B.grp y hy]; exact hs)).mp e
  have hi : ∀ {t}, t ∈ rs → ∀ z ∈ t, 0 ≤ z ∧ z < (n : Int) := fun {t} ht z hz => by have := hin t ht z hz; rw [B.len] at this; exact this
  have hrm := List.mem_of_getElem? hr
  have hsm := List.mem_of_getElem? hs
  -- a member's partner is of its own kind
  have part : ∀ {a b : Int}, 0 ≤ a → a < (n : Int) → 0 ≤ b → b < (n : Int) → N a.toNat = N b.toNat → (a < (c : Int) ↔ b < (c : Int)) ∧ (¬ a < (c : Int) → a = b) := fun {a b} a0 a1 b0 b1 e => by
    by_cases ha : a < (c : Int)
    · by_cases hb : b < (c : Int)
      · exact ⟨⟨fun _ => hb, fun _ => ha⟩, fun z => absurd ha z⟩
      · have := B.bare_grp X hin (i := b.toNat - c) (g := a.toNat) (by omega) (by omega)
        rw [show c + (b.toNat - c) = b.toNat by omega] at this
        exact absurd e.symm this
    · by_cases hb : b < (c : Int)
      · have := B.bare_grp X hin (i := a.toNat - c) (g := b.toNat) (by omega) (by omega)
        rw [show c + (a.toNat - c) = a.toNat by omega] at this
        exact absurd e this
      · have := B.bare_inj X hin (i := a.toNat - c) (k := b.toNat - c) (by omega) (by omega) (by rw [show c + (a.toNat - c) = a.toNat by omega, show c + (b.toNat - c) = b.toNat by omega]; exact e)
        exact ⟨⟨fun z => absurd z ha, fun z => absurd z hb⟩, fun _ => by omega⟩
  have go : ∀ a ∈ r, ∃ b ∈ s, N a.toNat = N b.toNat := fun a ha => by
    obtain ⟨b, hb, e2⟩ := (key (N a.toNat)).mp ⟨a, ha, rfl⟩
    exact ⟨b, hb, e2.symm⟩
  have back : ∀ b ∈ s, ∃ a ∈ r, N a.toNat = N b.toNat := fun b hb => by
    obtain ⟨a, ha, e2⟩ := (key (N b.toNat)).mpr ⟨b, hb, rfl⟩
    exact ⟨a, ha, e2⟩
  refine ⟨r, s, hx, hy, hr, hs, ?_, fun a ha => ?_, fun b hb => ?_⟩
  · refine asc_eq ((hasc r hrm).filter _) ((hasc s hsm).filter _) fun z => ?_
    show z ∈ br c r ↔ z ∈ br c s
    rw [br_mem, br_mem]
    constructor
    · rintro ⟨hz, hz2⟩
      obtain ⟨b, hb, e2⟩ := go z hz
      have := (part (hi hrm z hz).1 (hi hrm z hz).2 (hi hsm b hb).1 (hi hsm b hb).2 e2).2 (by omega)
      rw [this] at hz2 ⊢; exact ⟨hb, hz2⟩
    · rintro ⟨hz, hz2⟩
      obtain ⟨a, ha, e2⟩ := back z hz
      have := (part (hi hsm z hz).1 (hi hsm z hz).2 (hi hrm a ha).1 (hi hrm a ha).2 e2.symm).2 (by omega)
      rw [this] at hz2 ⊢; exact ⟨ha, hz2⟩
  · obtain ⟨ha1, ha2⟩ := gp_mem.mp ha
    obtain ⟨b, hb, e2⟩ := go a ha1
    have a3 := hi hrm a ha1
    have b3 := hi hsm b hb
    have := ((part a3.1 a3.2 b3.1 b3.2 e2).1).mp ha2
    exact ⟨b, gp_mem.mpr ⟨hb, this⟩, by omega, by omega, e2⟩
  · obtain ⟨hb1, hb2⟩ := gp_mem.mp hb
    obtain ⟨a, ha, e2⟩ := back b hb1
    have a3 := hi hrm a ha
    have b3 := hi hsm b hb1
    have := ((part a3.1 a3.2 b3.1 b3.2 e2).1).mpr hb2
    exact ⟨a, gp_mem.mpr ⟨ha, this⟩, by omega, by omega, e2⟩
/-- where no two groups are alike, the places below n have different numbers, and the rows tell the members -/
theorem Bd.inj (B : Bd T rs n c) (X : Ext T N) (hin : In rs) (hasc : ∀ r ∈ rs, r.Pairwise (· < ·)) (hs : ∀ g h, Bs c rs g h → g = h) {p q : Nat} (hp : p < n) (hq : q < n) (e : N p = N q) : p = q := by
  rcases Nat.lt_or_ge p c with a | a
  · rcases Nat.lt_or_ge q c with b | b
    · exact hs p q (B.isB X hin hasc a b e)
    · have := B.bare_grp X hin (i := q - c) (g := p) (by omega) a
      rw [show c + (q - c) = q by omega] at this
      exact absurd e.symm this
  · rcases Nat.lt_or_ge q c with b | b
    · have := B.bare_grp X hin (i := p - c) (g := q) (by omega) b
      rw [show c + (p - c) = p by omega] at this
      exact absurd e this
    · have := B.bare_inj X hin (i := p - c) (k := q - c) (by omega) (by omega) (by rw [show c + (p - c) = p by omega, show c + (q - c) = q by omega]; exact e)
      omega
theorem Bd.mem (B : Bd T rs n c) (X : Ext T N) (hin : In rs) (hasc : ∀ r ∈ rs, r.Pairwise (· < ·)) (hs : ∀ g h, Bs c rs g h → g = h) {a k : Nat} (ha : a < n) (hk : k < n) {r t : List Int} (hr : rs[a]? = some r) (ht : T[a]? = some t) :
    (∃ e ∈ t, N e.toNat = N k) ↔ (k : Int) ∈ r := by
  have low : ∀ e ∈ r, N e.toNat = N k → e = (k : Int) := fun e he e2 => by
    have h1 := hin r (List.mem_of_getElem? hr) e he
    rw [B.len] at h1
    have := B.inj X hin hasc hs (p := e.toNat) (q := k) (by omega) hk e2
    omega
  rcases Nat.lt_or_ge a c with q | q
  · rw [B.grp a q, hr] at ht
    cases ht
    exact ⟨fun ⟨e, he, e2⟩ => by rw [← low e he e2]; exact he, fun h => ⟨_, h, by rw [Int.toNat_natCast]⟩⟩
  · have hb := B.bar (a - c) r (by omega) (by rw [show c + (a - c) = a by omega]; exact hr)
    rw [show c + (a - c) = a by omega, ht] at hb
    cases hb
    constructor
    · rintro ⟨e, he, e2⟩
      rcases List.mem_append.mp he with z | z
      · rw [← low e z e2]; exact z
      · rw [List.mem_singleton.mp z, Int.toNat_natCast] at e2
        exact absurd e2.symm (B.no_mark X hin (i := a - c) (by omega) hk)
    · intro h
      exact ⟨_, List.mem_append_left _ h, by rw [Int.toNat_natCast]⟩
end
end Lm
/-! plain maths: a partition refined by rounds ends at the greatest likeness -/
namespace Lm
/-- how many different ones -/
def nf (p : List Int) : Nat := (List.range p.length).countP fun a => decide (∀ b, b < a → p[b]? ≠ p[a]?)
theorem nf_le (p : List Int) : nf p ≤ p.length := by
  unfold nf
  have := List.countP_le_length (p := fun a : Nat => decide (∀ b, b < a → p[b]? ≠ p[a]?)) (l := List.range p.length)
  rwa [List.length_range] at this
theorem nf_push (p : List Int) (z : Int) : nf (p ++ [z]) = nf p + if z ∈ p then 0 else 1 := by
  unfold nf
  rw [List.length_append, List.length_singleton, List.range_succ, List.countP_append]
  congr 1
  · refine List.countP_congr fun a ha => ?_
    have ha := List.mem_range.mp ha
    rw [decide_eq_true_eq, decide_eq_true_eq]
    constructor
    · intro h b hb
      have := h b hb
      rwa [List.getElem?_append_left (by omega), List.getElem?_append_left ha] at this
    · intro h b hb
      rw [List.getElem?_append_left (by omega), List.getElem?_append_left ha]
      exact h b hb
  · have e : (p ++ [z])[p.length]? = some z := by rw [List.getElem?_append_right (Nat.le_refl _), Nat.sub_self]; rfl
    by_cases hz : z ∈ p
    · rw [if_pos hz, List.countP_cons_of_neg, List.countP_nil]
      rw [decide_eq_true_eq]
      intro h
      obtain ⟨b, hb⟩ := List.mem_iff_getElem?.mp hz
      have hbl := (List.getElem?_eq_some_iff.mp hb).1
      refine h b hbl ?_
      rw [e, List.getElem?_append_left hbl, hb]
    · rw [if_neg hz, List.countP_cons_of_pos, List.countP_nil]
      rw [decide_eq_true_eq]
      intro b hb
      rw [e, List.getElem?_append_left hb]
      intro q
      exact hz (List.mem_of_getElem? q)
/-- one round: q tells the keys, which refine p -/
structure Rn {κ : Type} (p q : List Int) (key : Nat → κ) (c : Nat) : Prop where
  lp : p.length = c
  lq : q.length = c
  same : ∀ a b, a < c → b < c → (q[a]? = q[b]? ↔ key a = key b)
  ref : ∀ a b, a < c → b < c → key a = key b → p[a]? = p[b]?
theorem least_of {P : Nat → Prop} : ∀ {a : Nat}, P a → ∃ m, m ≤ a ∧ P m ∧ ∀ b, b < m → ¬ P b := by
  intro a
  induction a using Nat.strongRecOn with
  | ind a ih =>
    intro h
    by_cases q : ∃ b, b < a ∧ P b
    · obtain ⟨b, hb, pb⟩ := q
      obtain ⟨m, h1, h2, h3⟩ := ih b hb pb
      exact ⟨m, by omega, h2, h3⟩
    · exact ⟨a, Nat.le_refl _, h, fun b hb pb => q ⟨b, hb, pb⟩⟩
section
variable {κ : Type} {p q : List Int} {key : Nat → κ} {c : Nat}
theorem Rn.le (R : Rn p q key c) : nf p ≤ nf q := by
  unfold nf
  rw [R.lp, R.lq]
  refine List.countP_mono_left fun a ha h => ?_
  have ha := List.mem_range.mp ha
  rw [decide_eq_true_eq] at h ⊢
  intro b hb e
  exact h b hb (R.ref b a (by omega) ha ((R.same b a (by omega) ha).mp e))
theorem Rn.grow (R : Rn p q key c) {a b : Nat} (ha : a < c) (hb : b < c) (e : p[a]? = p[b]?) (hne : q[a]? ≠ q[b]?) : nf p < nf q := by
  unfold nf
  rw [R.lp, R.lq]
  obtain ⟨x, x1, x2, x3⟩ := least_of (P := fun m => q[m]? = q[a]?) (a := a) rfl
  obtain ⟨y, y1, y2, y3⟩ := least_of (P := fun m => q[m]? = q[b]?) (a := b) rfl
  have px : p[x]? = p[a]? := R.ref x a (by omega) ha ((R.same x a (by omega) ha).mp x2)
  have py : p[y]? = p[b]? := R.ref y b (by omega) hb ((R.same y b (by omega) hb).mp y2)
  have hxy : x ≠ y := fun z => hne (by rw [← x2, ← y2, z])
  have key1 : ∀ u v, u < v → v < c → p[u]? = p[v]? → (∀ b, b < v → q[b]? ≠ q[v]?) → (List.range c).countP (fun a => decide (∀ b, b < a → p[b]? ≠ p[a]?)) < (List.range c).countP fun a => decide (∀ b, b < a → q[b]? ≠ q[a]?) := fun u v huv hv e1 h1 => by
    refine countP_lt (fun a ha h => ?_) ⟨v, List.mem_range.mpr hv, decide_eq_true h1, decide_eq_false fun h => h u huv e1⟩
    have ha := List.mem_range.mp ha
    rw [decide_eq_true_eq] at h ⊢
    intro b hb e
    exact h b hb (R.ref b a (by omega) ha ((R.same b a (by omega) ha).mp e))
  rcases Nat.lt_or_gt_of_ne hxy with z | z
  · exact key1 x y z (by omega) (by rw [px, py, e]) fun b hb q1 => y3 b hb (q1.trans y2)
  · exact key1 y x z (by omega) (by rw [px, py, e]) fun b hb q1 => x3 b hb (q1.trans x2)
theorem Rn.still (R : Rn p q key c) (e : nf q = nf p) {a b : Nat} (ha : a < c) (hb : b < c) : q[a]? = q[b]? ↔ p[a]? = p[b]? := by
  constructor
  · intro h
    exact R.ref a b ha hb ((R.same a b ha hb).mp h)
  · intro h
    refine Classical.byContradiction fun hn => ?_
    have := R.grow ha hb h hn
    omega
end
/-- the table of one round: ks the different keys in order, f their places -/
structure Fr {κ : Type} (ks : List κ) (f : List Int) (key : Nat → κ) (j : Nat) : Prop where
  len : f.length = j
  nd : ks.Nodup
  at_ : ∀ i, i < j → ∃ m : Nat, f[i]? = some (m : Int) ∧ ks[m]? = some (key i)
  used : ∀ m, m < ks.length → (m : Int) ∈ f
  nf : nf f = ks.length
section
variable {κ : Type} {ks : List κ} {f : List Int} {key : Nat → κ} {j : Nat}
theorem Fr.nil : Fr ([] : List κ) [] key 0 := ⟨rfl, List.nodup_nil, fun i hi => absurd hi (Nat.not_lt_zero _), fun m hm => absurd hm (Nat.not_lt_zero _), rfl⟩
theorem Fr.lt (F : Fr ks f key j) {z : Int} (hz : z ∈ f) : 0 ≤ z ∧ z < (ks.length : Int) := by
  obtain ⟨i, hi⟩ := List.mem_iff_getElem?.mp hz
  obtain ⟨m, h1, h2⟩ := F.at_ i (by rw [← F.len]; exact (List.getElem?_eq_some_iff.mp hi).1)
  rw [h1] at hi; cases hi
  have := (List.getElem?_eq_some_iff.mp h2).1
  omega
theorem Fr.le (F : Fr ks f key j) : ks.length ≤ j := by
  have := nf_le f
  rw [F.nf, F.len] at this
  exact this
theorem Fr.old (F : Fr ks f key j) {m : Nat} (h : ks[m]? = some (key j)) : Fr ks (f ++ [(m : Int)]) key (j + 1) := by
  have hm := (List.getElem?_eq_some_iff.mp h).1
  refine ⟨by rw [List.length_append, F.len]; rfl, F.nd, fun i hi => ?_, fun k hk => List.mem_append_left _ (F.used k hk), by rw [nf_push, if_pos (F.used m hm), F.nf]; rfl⟩
  by_cases e : i = j
  · subst e
    exact ⟨m, by rw [List.getElem?_append_right (by rw [F.len]; exact Nat.le_refl _), F.len, Nat.sub_self]; rfl, h⟩
  · obtain ⟨k, h1, h2⟩ := F.at_ i (by omega)
    exact ⟨k, by rw [List.getElem?_append_left (by rw [F.len]; omega)]; exact h1, h2⟩
theorem Fr.new (F : Fr ks f key j) (h : key j ∉ ks) : Fr (ks ++ [key j]) (f ++ [(ks.length : Int)]) key (j + 1) := by
  have hn : (ks.length : Int) ∉ f := fun z => by have := (F.lt z).2; omega
  refine ⟨by rw [List.length_append, F.len]; rfl, ?_, fun i hi => ?_, fun k hk => ?_, by rw [nf_push, if_neg hn, F.nf, List.length_append]; rfl⟩
  · rw [List.nodup_append]
    refine ⟨F.nd, List.nodup_cons.mpr ⟨List.not_mem_nil, List.nodup_nil⟩, fun a ha b hb => ?_⟩
    rw [List.mem_singleton.mp hb]
    exact fun e => h (e ▸ ha)
  · by_cases e : i = j
    · subst e
      exact ⟨ks.length, by rw [List.getElem?_append_right (by rw [F.len]; exact Nat.le_refl _), F.len, Nat.sub_self]; rfl, by rw [List.getElem?_append_right (Nat.le_refl _), Nat.sub_self]; rfl⟩
    · obtain ⟨k, h1, h2⟩ := F.at_ i (by omega)
      exact ⟨k, by rw [List.getElem?_append_left (by rw [F.len]; omega)]; exact h1, by rw [List.getElem?_append_left (List.getElem?_eq_some_iff.mp h2).1]; exact h2⟩
  · by_cases e : k = ks.length
    · subst e; exact List.mem_append_right _ (List.mem_singleton.mpr rfl)
    · rw [List.length_append, List.length_singleton] at hk
      exact List.mem_append_left _ (F.used k (by omega))
theorem Fr.same (F : Fr ks f key j) {a b : Nat} (ha : a < j) (hb : b < j) : f[a]? = f[b]? ↔ key a = key b := by
  obtain ⟨m, h1, h2⟩ := F.at_ a ha
  obtain ⟨k, h3, h4⟩ := F.at_ b hb
  rw [h1, h3]
  constructor
  · intro e
    have : m = k := by have := Option.some.inj e; omega
    subst this
    rw [h2] at h4
    exact Option.some.inj h4
  · intro e
    rw [← e] at h4
    have : m = k := (List.getElem?_inj (List.getElem?_eq_some_iff.mp h2).1 F.nd).mp (h2.trans h4.symm)
    rw [this]
end
/-- the rounds so far: p -/
structure Rs (c : Nat) (rs : List (List Int)) (p : List Int) : Prop where
  len : p.length = c
  bs : ∀ a b, Bs c rs a b → p[a]? = p[b]?
def Fin (c : Nat) (rs : List (List Int)) (p : List Int) : Prop := ∀ a b, a < c → b < c → p[a]? = p[b]? → Bs c rs a b
theorem zeros_rs (c : Nat) (rs : List (List Int)) : Rs c rs (List.replicate c 0) := ⟨List.length_replicate, fun a b h => by
  obtain ⟨_, _, h1, h2, _⟩ := Bs.isB a b h
  rw [List.getElem?_replicate, List.getElem?_replicate, if_pos h1, if_pos h2]⟩
section
variable {n c : Nat} {rs : List (List Int)} {p q : List Int} {key : Nat → Int × List Int × List Int}
theorem Rs.next (P : Rs c rs p) (k : Ky c rs p key) (hn : rs.length = n) (hc : c ≤ n) (h0 : ∀ r ∈ rs, ∀ e ∈ r, 0 ≤ e) (hasc : ∀ a, a < c → (key a).2.1.Pairwise (· < ·)) {ks : List (Int × List Int × List Int)} (F : Fr ks q key c) : Rs c rs q ∧ Rn p q key c := by
  refine ⟨⟨F.len, fun a b h => ?_⟩, P.len, F.len, fun a b ha hb => F.same ha hb, fun a b ha hb e => ?_⟩
  · obtain ⟨_, _, h1, h2, _⟩ := Bs.isB a b h
    exact (F.same h1 h2).mpr (k.keep hn hc P.len h0 hasc P.bs h)
  · obtain ⟨r, hr⟩ : ∃ r, rs[a]? = some r := ⟨_, List.getElem?_eq_getElem (by omega)⟩
    obtain ⟨s, hs⟩ : ∃ s, rs[b]? = some s := ⟨_, List.getElem?_eq_getElem (by omega)⟩
    rw [(k.val a r ha hr).2.1, (k.val b s hb hs).2.1, e]
/-- where a round parts nothing -/
theorem Rn.fin (R : Rn p q key c) (k : Ky c rs p key) (hn : rs.length = n) (hc : c ≤ n) (h0 : ∀ r ∈ rs, ∀ e ∈ r, 0 ≤ e) (e : ∀ a b, a < c → b < c → p[a]? = p[b]? → q[a]? = q[b]?) : Fin c rs p := by
  intro g h hg hh eg
  refine ⟨fun x y => x < c ∧ y < c ∧ p[x]? = p[y]?, ?_, hg, hh, eg⟩
  rintro x y ⟨hx, hy, exy⟩
  have ek := (R.same x y hx hy).mp (e x y hx hy exy)
  obtain ⟨r, hr⟩ : ∃ r, rs[x]? = some r := ⟨_, List.getElem?_eq_getElem (by omega)⟩
  obtain ⟨s, hs⟩ : ∃ s, rs[y]? = some s := ⟨_, List.getElem?_eq_getElem (by omega)⟩
  obtain ⟨k1, k2, k3⟩ := k.val x r hx hr
  obtain ⟨l1, l2, l3⟩ := k.val y s hy hs
  have lt : ∀ {r e}, r ∈ rs → e ∈ gp c r → e.toNat < c := fun {r e} hr he => by
    have := gp_mem.mp he
    have := h0 r hr e this.1
    omega
  have has : ∀ a, a < c → ∃ z, p[a]? = some z := fun a ha => ⟨_, List.getElem?_eq_getElem (by rw [R.lp]; exact ha)⟩
  refine ⟨r, s, hx, hy, hr, hs, by rw [← k1, ← l1, ek], fun e he => ?_, fun f hf => ?_⟩
  · have h1 := lt (List.mem_of_getElem? hr) he
    obtain ⟨z, hz⟩ := has _ h1
    have := (k3 z).mpr ⟨e, he, hz⟩
    rw [ek] at this
    obtain ⟨f, hf, hz2⟩ := (l3 z).mp this
    exact ⟨f, hf, h1, lt (List.mem_of_getElem? hs) hf, by rw [hz, hz2]⟩
  · have h1 := lt (List.mem_of_getElem? hs) hf
    obtain ⟨z, hz⟩ := has _ h1
    have := (l3 z).mpr ⟨f, hf, hz⟩
    rw [← ek] at this
    obtain ⟨e, he, hz2⟩ := (k3 z).mp this
    exact ⟨e, he, lt (List.mem_of_getElem? hr) he, h1, by rw [hz, hz2]⟩
/-- a numbering that is done stays so -/
theorem Fin.next (f : Fin c rs p) (P : Rs c rs p) (Q : Rs c rs q) (R : Rn p q key c) : Fin c rs q := fun a b ha hb e => f a b ha hb (R.ref a b ha hb ((R.same a b ha hb).mp e))
theorem Fin.or_grow (P : Rs c rs p) (Q : Rs c rs q) (R : Rn p q key c) (k : Ky c rs p key) (hn : rs.length = n) (hc : c ≤ n) (h0 : ∀ r ∈ rs, ∀ e ∈ r, 0 ≤ e) {t : Nat} (h : Fin c rs p ∨ t < nf p) : Fin c rs q ∨ t + 1 < nf q := by
  rcases h with h | h
  · exact .inl (h.next P Q R)
  · by_cases e : nf q = nf p
    · have f := R.fin k hn hc h0 fun a b ha hb e2 => (R.still e ha hb).mpr e2
      exact .inl (f.next P Q R)
    · have := R.le
      exact .inr (by omega)
end
/-- all places groups: a numbering by the greatest likeness tells the sets -/
theorem ext_of {T : List (List Int)} {N : List Int} {l : Nat} (hl : T.length = l) (hN : N.length = l) (hin : In T) (h1 : Rs l T N) (h2 : Fin l T N) : Ext T (fun a => (N[a]?).getD 0) := by
  have hg : ∀ {r}, r ∈ T → gp l r = r := fun {r} hr => by
    unfold gp
    rw [List.filter_eq_self]
    intro e he
    have := (hin r hr e he).2
    rw [hl] at this
    exact decide_eq_true this
  have hb : ∀ {r}, r ∈ T → br l r = [] := fun {r} hr => by
    unfold br
    rw [List.filter_eq_nil_iff]
    intro e he
    have := (hin r hr e he).2
    rw [hl] at this
    rw [decide_eq_true_eq]
    omega
  have dec : ∀ {x y : Nat}, x < l → y < l → ((N[x]?).getD 0 = (N[y]?).getD 0 ↔ N[x]? = N[y]?) := fun {x y} hx hy => by
    rw [List.getElem?_eq_getElem (show x < N.length by omega), List.getElem?_eq_getElem (show y < N.length by omega)]
    exact ⟨fun h => by rw [show N[x] = N[y] from h], fun h => Option.some.inj h⟩
  have lt : ∀ {r e}, r ∈ T → e ∈ r → e.toNat < l := fun {r e} hr he => by have := hin r hr e he; omega
  intro a b r s hr hs
  have ha : a < l := by rw [← hl]; exact (List.getElem?_eq_some_iff.mp hr).1
  have hbl : b < l := by rw [← hl]; exact (List.getElem?_eq_some_iff.mp hs).1
  have hrm := List.mem_of_getElem? hr
  have hsm := List.mem_of_getElem? hs
  rw [dec ha hbl]
  constructor
  · intro e
    obtain ⟨r', s', _, _, e1, e2, _, m1, m2⟩ := Bs.isB a b (h2 a b ha hbl e)
    rw [hr] at e1; cases e1
    rw [hs] at e2; cases e2
    rw [hg hrm, hg hsm] at m1 m2
    intro z
    constructor
    · rintro ⟨x, hx, rfl⟩
      obtain ⟨y, hy, q⟩ := m1 x hx
      exact ⟨y, hy, (congrArg (fun o : Option Int => o.getD 0) (h1.bs _ _ q)).symm⟩
    · rintro ⟨y, hy, rfl⟩
      obtain ⟨x, hx, q⟩ := m2 y hy
      exact ⟨x, hx, congrArg (fun o : Option Int => o.getD 0) (h1.bs _ _ q)⟩
  · intro h
    refine h1.bs a b ⟨fun x y => Bs l T x y ∨ (x = a ∧ y = b), ?_, .inr ⟨rfl, rfl⟩⟩
    rintro x y (q | ⟨rfl, rfl⟩)
    · obtain ⟨r', s', k1, k2, k3, k4, k5, k6, k7⟩ := Bs.isB x y q
      exact ⟨r', s', k1, k2, k3, k4, k5, fun e he => let ⟨f, hf, z⟩ := k6 e he; ⟨f, hf, .inl z⟩, fun f hf => let ⟨e, he, z⟩ := k7 f hf; ⟨e, he, .inl z⟩⟩
    · refine ⟨r, s, ha, hbl, hr, hs, by rw [hb hrm, hb hsm], fun e he => ?_, fun f hf => ?_⟩
      · rw [hg hrm] at he
        obtain ⟨f, hf, z⟩ := (h _).mp ⟨e, he, rfl⟩
        exact ⟨f, by rw [hg hsm]; exact hf, .inl (h2 _ _ (lt hrm he) (lt hsm hf) ((dec (lt hrm he) (lt hsm hf)).mp z.symm))⟩
      · rw [hg hsm] at hf
        obtain ⟨e, he, z⟩ := (h _).mpr ⟨f, hf, rfl⟩
        exact ⟨e, by rw [hg hrm]; exact he, .inl (h2 _ _ (lt hrm he) (lt hsm hf) ((dec (lt hrm he) (lt hsm hf)).mp z)) ⟩
/-! ### the keys -/
def insA (z : Int) : List Int → List Int
  | [] => [z]
  | x :: r => if z < x then z :: x :: r else if z = x then x :: r else x :: insA z r
theorem insA_mem {z w : Int} : ∀ {l : List Int}, w ∈ insA z l ↔ w = z ∨ w ∈ l
  | [] => by simp [insA]
  | x :: r => by
    unfold insA
    split
    · simp
    · split
      · next h => subst h; simp
      · rw [List.mem_cons, insA_mem, List.mem_cons]
        constructor
        · rintro (h | h | h)
          · exact .inr (.inl h)
          · exact .inl h
          · exact .inr (.inr h)
        · rintro (h | h | h)
          · exact .inr (.inl h)
          · exact .inl h
          · exact .inr (.inr h)
theorem insA_asc {z : Int} : ∀ {l : List Int}, l.Pairwise (· < ·) → (insA z l).Pairwise (· < ·)
  | [], _ => List.pairwise_singleton _ _
  | x :: r, h => by
    have h1 := (List.pairwise_cons.mp h).1
    have h2 := (List.pairwise_cons.mp h).2
    unfold insA
    split
    · next q =>
      refine List.pairwise_cons.mpr ⟨fun w hw => ?_, h⟩
      rcases List.mem_cons.mp hw with e | e
      · rw [e]; exact q
      · have := h1 w e; omega
    · split
      · exact h
      · next q1 q2 =>
        refine List.pairwise_cons.mpr ⟨fun w hw => ?_, insA_asc h2⟩
        rcases insA_mem.mp hw with e | e
        · rw [e]; omega
        · exact h1 w e
def asc (l : List Int) : List Int := l.foldr insA []
theorem asc_mem {w : Int} : ∀ {l : List Int}, w ∈ asc l ↔ w ∈ l
  | [] => Iff.rfl
  | x :: r => by
    show w ∈ insA x (asc r) ↔ _
    rw [insA_mem, asc_mem, List.mem_cons]
theorem asc_pw : ∀ l : List Int, (asc l).Pairwise (· < ·)
  | [] => List.Pairwise.nil
  | _ :: r => insA_asc (asc_pw r)
theorem asc_of {l s : List Int} (h : s.Pairwise (· < ·)) (hm : ∀ z, z ∈ s ↔ z ∈ l) : s = asc l := asc_eq h (asc_pw l) fun z => (hm z).trans asc_mem.symm
def pAt (p : List Int) (a : Nat) : Int := (p[a]?).getD 0
theorem pAt_of {p : List Int} {a : Nat} (h : a < p.length) : p[a]? = some (pAt p a) := by unfold pAt; rw [List.getElem?_eq_getElem h]; rfl
def rowAt (rs : List (List Int)) (a : Nat) : List Int := (rs[a]?).getD []
theorem rowAt_of {rs : List (List Int)} {a : Nat} {r : List Int} (h : rs[a]? = some r) : rowAt rs a = r := by unfold rowAt; rw [h]; rfl
def keyK (c : Nat) (rs : List (List Int)) (p : List Int) (a : Nat) : Int × List Int × List Int := (pAt p a, asc ((gp c (rowAt rs a)).map fun e => pAt p e.toNat), br c (rowAt rs a))
theorem keyK_ky {n c : Nat} {rs : List (List Int)} {p : List Int} (hn : rs.length = n) (hc : c ≤ n) (hp : p.length = c) (h0 : ∀ r ∈ rs, ∀ e ∈ r, 0 ≤ e) : Ky c rs p (keyK c rs p) := ⟨fun a r ha hr => by
  unfold keyK
  rw [rowAt_of hr]
  refine ⟨rfl, pAt_of (by omega), fun z => ?_⟩
  have lt : ∀ e ∈ gp c r, e.toNat < p.length := fun e he => by
    have h1 := gp_mem.mp he
    have := h0 r (List.mem_of_getElem? hr) e h1.1
    omega
  rw [asc_mem, List.mem_map]
  constructor
  · rintro ⟨e, he, rfl⟩
    exact ⟨e, he, pAt_of (lt e he)⟩
  · rintro ⟨e, he, q⟩
    exact ⟨e, he, Option.some.inj ((pAt_of (lt e he)).symm.trans q)⟩⟩
theorem Fr.congr {κ : Type} {ks : List κ} {f : List Int} {key key' : Nat → κ} {j : Nat} (F : Fr ks f key j) (h : ∀ i, i < j → key i = key' i) : Fr ks f key' j :=
  ⟨F.len, F.nd, fun i hi => by rw [← h i hi]; exact F.at_ i hi, F.used, F.nf⟩
theorem Fr.map {κ μ : Type} {ks : List κ} {f : List Int} {key : Nat → κ} {j : Nat} (F : Fr ks f key j) {g : κ → μ} (hg : ∀ x y, g x = g y → x = y) : Fr (ks.map g) f (fun i => g (key i)) j := by
  refine ⟨F.len, ?_, fun i hi => ?_, fun m hm => F.used m (by rwa [List.length_map] at hm), by rw [F.nf, List.length_map]⟩
  · rw [List.Nodup, List.pairwise_map]
    exact F.nd.imp fun h e => h (hg _ _ e)
  · obtain ⟨m, h1, h2⟩ := F.at_ i hi
    exact ⟨m, h1, by rw [List.getElem?_map, h2]; rfl⟩
theorem nf_zeros : ∀ l : Nat, 1 ≤ l → nf (List.replicate l 0) = 1
  | 0, h => absurd h (by decide)
  | 1, _ => by decide
  | l + 2, _ => by
    rw [show List.replicate (l + 2) (0 : Int) = List.replicate (l + 1) 0 ++ [0] from List.replicate_succ', nf_push, nf_zeros (l + 1) (by omega), if_pos (List.mem_replicate.mpr ⟨by omega, rfl⟩)]
end Lm
/-! a table: keys by an injection, each with its place as value -/
namespace Lw
open PySem PySem.Spec PyProof.Rows L2
section
variable {α κ : Type} [DecidableEq κ]
def tagF (g : α → κ) (i : Nat) : List α → List (κ × V)
  | [] => []
  | k :: r => (g k, .int (i : Int)) :: tagF g (i + 1) r
def tag (g : α → κ) (ks : List α) : List (κ × V) := tagF g 0 ks
variable {g : α → κ}
theorem tagF_len : ∀ (ks : List α) (i : Nat), (tagF g i ks).length = ks.length
  | [], _ => rfl
  | _ :: r, i => congrArg Nat.succ (tagF_len r (i + 1))
theorem tag_len (ks : List α) : (tag g ks).length = ks.length := tagF_len ks 0
theorem tagF_get (hg : ∀ x y, g x = g y → x = y) : ∀ (ks : List α) (i : Nat) {j : Nat} {k : α}, ks.Nodup → ks[j]? = some k → valV (tagF g i ks) (g k) = some (.int ((i + j : Nat) : Int))
  | [], _, _, _, _, h => by simp at h
  | x :: r, i, j, k, hn, h => by
    rw [List.nodup_cons] at hn
    unfold valV tagF
    by_cases e : x = k
    · have hj : j = 0 := by
        cases j with
        | zero => rfl
        | succ j => rw [List.getElem?_cons_succ] at h; exact absurd (e ▸ List.mem_of_getElem? h) hn.1
      subst hj e
      rw [List.find?_cons_of_pos (by simp)]; rfl
    · rw [List.find?_cons_of_neg (by simp only [decide_eq_true_eq]; exact fun z => e (hg _ _ z))]
      cases j with
      | zero => simp at h; exact absurd h e
      | succ j =>
        rw [List.getElem?_cons_succ] at h
        have := tagF_get hg r (i + 1) hn.2 h
        unfold valV at this
        rw [this]
        congr 2
        omega
theorem tagF_none (hg : ∀ x y, g x = g y → x = y) : ∀ (ks : List α) (i : Nat) {k : α}, k ∉ ks → valV (tagF g i ks) (g k) = none
  | [], _, _, _ => rfl
  | x :: r, i, k, h => by
    unfold valV tagF
    rw [List.find?_cons_of_neg (by simp only [decide_eq_true_eq]; exact fun z => h (by rw [← hg _ _ z]; exact List.mem_cons_self))]
    have := tagF_none hg r (i + 1) (k := k) fun z => h (List.mem_cons_of_mem _ z)
    unfold valV at this
    exact this
theorem tag_get (hg : ∀ x y, g x = g y → x = y) {ks : List α} {j : Nat} {k : α} (hn : ks.Nodup) (h : ks[j]? = some k) : valV (tag g ks) (g k) = some (.int (j : Int)) := by
  have := tagF_get hg ks 0 hn h
  rw [Nat.zero_add] at this; exact this
theorem tag_none (hg : ∀ x y, g x = g y → x = y) {ks : List α} {k : α} (h : k ∉ ks) : valV (tag g ks) (g k) = none := tagF_none hg ks 0 h
theorem tagF_push : ∀ (ks : List α) (i : Nat) (k : α), tagF g i ks ++ [(g k, .int ((i + ks.length : Nat) : Int))] = tagF g i (ks ++ [k])
  | [], _, _ => rfl
  | x :: r, i, k => by
    show (g x, V.int (i : Int)) :: (tagF g (i + 1) r ++ _) = (g x, V.int (i : Int)) :: tagF g (i + 1) (r ++ [k])
    rw [← tagF_push r (i + 1) k, show i + (x :: r).length = i + 1 + r.length by rw [List.length_cons]; omega]
theorem tag_put (hg : ∀ x y, g x = g y → x = y) {ks : List α} {k : α} (h : k ∉ ks) : putK (tag g ks) (g k) (.int (ks.length : Int)) = tag g (ks ++ [k]) := by
  rw [putK_new _ (tag_none hg h)]
  have := tagF_push (g := g) ks 0 k
  rw [Nat.zero_add] at this
  exact this
end
/-- a pair as a key -/
def pk (k : Int × List Int) : PKey := (Sum.inl k.1, tkey k.2)
theorem pk_inj (x y : Int × List Int) (h : pk x = pk y) : x = y := by
  have h1 := congrArg Prod.fst h
  have h2 := congrArg Prod.snd h
  exact Prod.ext (Sum.inl.inj h1) (tkey_inj h2)
theorem isP_of {H : Hp} {a b : Addr} {k : Int × List Int} (h1 : H a = some (.tup [.int k.1, .ref b])) (h2 : H b = some (.tup (k.2.map V.int))) : IsP H (.ref a) (pk k) := ⟨a, b, rfl, h1, by
  show H b = some (.tup ((tkey k.2).map kV))
  rw [tkey_kV]; exact h2⟩
section
variable {P : Program} {w : World} {σ : L2.St} {H : Hp} {Q : VK} {D : Ends}
theorem r_nIn {neg : Bool} {ty td : TE} (h : ty σ H fun y H1 => td σ H1 fun x H2 => ∃ a kvs k, x = .ref a ∧ Nd P w H2 a kvs ∧ IsP H2 y k ∧ Q (.bl (if neg then !(valV kvs k).isSome else (valV kvs k).isSome)) H2) : tNIn P w neg ty td σ H Q := h
theorem r_nGet {td ty : TE} (h : td σ H fun x H1 => ty σ H1 fun y H2 => ∃ a kvs k v, x = .ref a ∧ Nd P w H2 a kvs ∧ IsP H2 y k ∧ valV kvs k = some v ∧ Q v H2) : tNGet P w td ty σ H Q := h
theorem r_nPut {td ty tv : TE} (h : tv σ H fun v H1 => td σ H1 fun x H2 => ty σ H2 fun y H3 => ∃ a kvs k, x = .ref a ∧ Nd P w H3 a kvs ∧ IsP H3 y k ∧ kvs.length < sizeLine ∧
  ∀ H4, (∀ c, c ≠ a → H4 c = H3 c) → Nd P w H4 a (putK kvs k v) → D.nx σ H4) : sNPut P w td ty tv D σ H := h
theorem r_nNew (h : ∀ p H', H p = none → (∀ c, c ≠ p → H' c = H c) → Nd P w H' p [] → Q (.ref p) H') : tNNew P w σ H Q := h
theorem r_nLen {p : Addr} {kvs : List (PKey × V)} (n : Nd P w H p kvs) (q : Q (.int ((kvs.length : Nat) : Int)) H) : rNLen P w [.ref p] H Q := ⟨p, kvs, rfl, n, q⟩
end
theorem gd_up {n n' : Int} {L L' : Nat} {r : List Int} (h : Gd n L r) (hn : n ≤ n') (hl : L ≤ L') : Gd n' L' r := ⟨Nat.le_trans h.1 hl, h.2.1, fun e he => by have := h.2.2 e he; omega⟩
theorem gd_put {n n' : Int} {L : Nat} {r : List Int} {z : Int} (h : Gd n L r) (h0 : 0 ≤ z) (h1 : n ≤ z) (h2 : z < n') : Gd n' (L + 1) (r ++ [z]) := by
  refine ⟨by rw [List.length_append, List.length_singleton]; have := h.1; omega, nodup_push h.2.1 fun hm => ?_, fun e he => ?_⟩
  · have := (h.2.2 z hm).2; omega
  · rcases List.mem_append.mp he with q | q
    · have := h.2.2 e q; omega
    · rw [List.mem_singleton.mp q]; omega
theorem gd_len {n : Nat} {L : Nat} {r : List Int} (h : Gd (n : Int) L r) : r.length ≤ n := by
  have := Lm.nat_list h.2.1 h.2.2
  have h2 := Lm.nodup_le this.1 this.2
  rwa [List.length_map] at h2
theorem hu2_of {A : Around} {k : Nat} (hr : Room k A) : A.units + 2 < cLine := Nat.lt_of_le_of_lt (Nat.add_le_add_left (by decide : 2 ≤ 64) _) hr.units
section
variable {S : Type} {F : S → Hp → Hp} {ok : S → Hp → Prop} (T : TopOk F ok) {σ σ2 : L2.St} {g : TG} {tt : TT} {te : TE} {vs : List Nat} {Q : Addr → Hp → Prop}
include T
theorem lcT_range2 {s0 : S} {B : Hp} (k : ok s0 B) {lo n : Int} (h0' : -4611686018427387904 ≤ lo) (h0'' : lo < 4611686018427387904) (h1 : -4611686018427387904 ≤ n) (h2 : n < 4611686018427387904) (Pv : Nat → Hp → List V → Prop) (h0 : Pv 0 B [])
    (hs : ∀ D i s C acc, ok s (upd C D (.lst acc)) → C D = none → Same B C → i < (n - lo).toNat → Pv i C acc → g (.int (lo + i)) (wipe σ vs) (F s (upd C D (.lst acc))) fun σ2 H2 => wipe σ2 vs = wipe σ vs ∧ tt σ2 H2 fun b H3 =>
      if b = true then te σ2 H3 fun y H4 => ∃ acc', H4 D = some (.lst acc') ∧ acc'.length < sizeLine ∧ LcN F ok B D (Pv (i + 1)) (upd H4 D (.lst (acc' ++ [y]))) else LcN F ok B D (Pv (i + 1)) H3)
    (hd : ∀ D s C acc, ok s (upd C D (.lst acc)) → B D = none → C D = none → Same B C → Pv (n - lo).toNat C acc → Q D (F s (upd C D (.lst acc)))) :
    ∃ i j : Int, [V.int lo, V.int n] = [.int i, .int j] ∧ (-(2 ^ 62) ≤ i ∧ i < 2 ^ 62 ∧ -(2 ^ 62) ≤ j ∧ j < 2 ^ 62) ∧ ∀ D, (F s0 B) D = none → ∃ W : Nat → Nat → Hp → Prop, (∃ m, W 0 m (upd (F s0 B) D (.lst []))) ∧ ∀ m0 m H, W m0 m H →
      ((Itr i (j - i).toNat).stop m0 H ∧ Q D H) ∨ ((Itr i (j - i).toNat).go m0 H ∧ ∃ Nx : Hp → Prop, (∀ H', Nx H' → ∃ m', m' < m ∧ W (m0 + 1) m' H') ∧ ∀ x H', (Itr i (j - i).toNat).yld m0 H x H' → g x (wipe σ vs) H' fun σ2 H2 => wipe σ2 vs = wipe σ vs ∧ tt σ2 H2 fun b H3 =>
        if b = true then te σ2 H3 fun y H4 => ∃ acc, H4 D = some (.lst acc) ∧ acc.length < sizeLine ∧ Nx (upd H4 D (.lst (acc ++ [y]))) else Nx H3) := by
  refine ⟨lo, n, rfl, ⟨h0', h0'', h1, h2⟩, fun D hD => ?_⟩
  obtain ⟨hB, hn⟩ := T.new s0 B D k hD
  refine lc_range (fun i H => LcN F ok B D (Pv i) H) ?_ ?_ ?_
  · rw [(hn _).1]
    exact ⟨s0, B, [], rfl, (hn _).2, hB, Same.refl B, h0⟩
  · rintro i H hi ⟨s, C, acc, rfl, k', hD', hS, hp⟩
    exact hs D i s C acc k' hD' hS hi hp
  · rintro H ⟨s, C, acc, rfl, k', hD', hS, hp⟩
    exact hd D s C acc k' hB hD' hS hp
end
/-- an ascending row of places -/
def Pr (n : Nat) (r : List Int) : Prop := r.Pairwise (· < ·) ∧ ∀ e ∈ r, 0 ≤ e ∧ e < (n : Int)
theorem Pr.gd {n : Nat} {r : List Int} (h : Pr n r) : Gd (n : Int) n r := by
  have nd := nodup_lt h.1
  have h1 := Lm.nat_list nd h.2
  have h2 := Lm.nodup_le h1.1 h1.2
  rw [List.length_map] at h2
  exact ⟨h2, nd, h.2⟩
theorem Pr.up {n m : Nat} {r : List Int} (h : Pr n r) (hm : n ≤ m) : Pr m r := ⟨h.1, fun e he => by have := h.2 e he; omega⟩
theorem Pr.nil {n : Nat} : Pr n [] := ⟨List.Pairwise.nil, fun e he => nomatch he⟩
theorem Pr.push {n m : Nat} {r : List Int} {z : Int} (h : Pr n r) (h1 : (n : Int) ≤ z) (h2 : z < (m : Int)) : Pr m (r ++ [z]) := by
  refine ⟨?_, fun e he => ?_⟩
  · rw [List.pairwise_append]
    refine ⟨h.1, List.pairwise_singleton _ _, fun a ha b hb => ?_⟩
    rw [List.mem_singleton.mp hb]
    have := (h.2 a ha).2
    omega
  · rcases List.mem_append.mp he with q | q
    · have := h.2 e q; omega
    · rw [List.mem_singleton.mp q]; omega
theorem rw_append {C : Hp} {as bs : List Addr} {rs ss : List (List Int)} (h : Rw C as rs) (h2 : Rw C bs ss) : Rw C (as ++ bs) (rs ++ ss) := by
  refine ⟨by rw [List.length_append, List.length_append, h.1, h2.1], fun i b e => ?_⟩
  by_cases hi : i < as.length
  · rw [List.getElem?_append_left hi] at e
    obtain ⟨r, h3, h4⟩ := h.2 i b e
    exact ⟨r, by rw [List.getElem?_append_left (by rw [← h.1]; exact hi)]; exact h3, h4⟩
  · rw [List.getElem?_append_right (by omega)] at e
    obtain ⟨r, h3, h4⟩ := h2.2 _ b e
    exact ⟨r, by rw [List.getElem?_append_right (by rw [← h.1]; omega), ← h.1]; exact h3, h4⟩
theorem rw_drop {C : Hp} {as : List Addr} {rs : List (List Int)} (h : Rw C as rs) (c : Nat) : Rw C (as.drop c) (rs.drop c) := by
  refine ⟨by rw [List.length_drop, List.length_drop, h.1], fun i b e => ?_⟩
  rw [List.getElem?_drop] at e
  obtain ⟨r, h3, h4⟩ := h.2 _ b e
  exact ⟨r, by rw [List.getElem?_drop]; exact h3, h4⟩
theorem rw_take {C : Hp} {as : List Addr} {rs : List (List Int)} (h : Rw C as rs) (i : Nat) : Rw C (as.take i) (rs.take i) := by
  refine ⟨by rw [List.length_take, List.length_take, h.1], fun j b e => ?_⟩
  obtain ⟨h1, h2⟩ := take_at e
  obtain ⟨r, h3, h4⟩ := h.2 j b h2
  exact ⟨r, by rw [List.getElem?_take_of_lt h1]; exact h3, h4⟩
end Lw
/-! trees: tuples of a word and parts -/
/-- a term, a body, a saying: a name, or a word with its parts -/
inductive Tre where
  | nm (x : PySem.Str)
  | nd (k : PySem.Str) (ps : List Tre)
namespace Tre
mutual
def size : Tre → Nat
  | .nm _ => 1
  | .nd _ ps => 1 + sizeAll ps
def sizeAll : List Tre → Nat
  | [] => 0
  | t :: r => size t + sizeAll r
end
mutual
def deep : Tre → Nat
  | .nm _ => 1
  | .nd _ ps => 1 + deepAll ps
def deepAll : List Tre → Nat
  | [] => 0
  | t :: r => max (deep t) (deepAll r)
end
theorem deepAll_mem : ∀ {ps : List Tre} {t : Tre}, t ∈ ps → deep t ≤ deepAll ps
  | [], _, h => nomatch h
  | x :: r, t, h => by
    show deep t ≤ max (deep x) (deepAll r)
    rcases List.mem_cons.mp h with e | e
    · subst e; exact Nat.le_max_left _ _
    · exact Nat.le_trans (deepAll_mem e) (Nat.le_max_right _ _)
theorem deep_pos : ∀ t : Tre, 1 ≤ deep t
  | .nm _ => Nat.le_refl _
  | .nd _ ps => by show 1 ≤ 1 + deepAll ps; omega
mutual
theorem deep_le_size : ∀ t : Tre, deep t ≤ size t
  | .nm _ => Nat.le_refl _
  | .nd _ ps => by
    have := deepAll_le_size ps
    show 1 + deepAll ps ≤ 1 + sizeAll ps
    omega
theorem deepAll_le_size : ∀ ps : List Tre, deepAll ps ≤ sizeAll ps
  | [] => Nat.le_refl _
  | t :: r => by
    have h1 := deep_le_size t
    have h2 := deepAll_le_size r
    show max (deep t) (deepAll r) ≤ size t + sizeAll r
    omega
end
theorem sizeAll_push : ∀ (ps : List Tre) (t : Tre), sizeAll (ps ++ [t]) = sizeAll ps + size t
  | [], t => by show size t + 0 = 0 + size t; omega
  | x :: r, t => by
    show size x + sizeAll (r ++ [t]) = size x + sizeAll r + size t
    rw [sizeAll_push r t]; omega
open PySem
mutual
def data : Tre → PyData
  | .nm x => .tuple [.str "name", .str x]
  | .nd k ps => .tuple (.str k :: dataAll ps)
def dataAll : List Tre → List PyData
  | [] => []
  | t :: r => data t :: dataAll r
end
theorem data_ne_str (t : Tre) (x : Str) : data t ≠ .str x := by cases t <;> (intro h; cases h)
mutual
theorem data_inj : ∀ {t u : Tre}, data t = data u → t = u
  | .nm x, .nm y, h => by
    have h : PyData.tuple [.str "name", .str x] = PyData.tuple [.str "name", .str y] := h
    simp only [PyData.tuple.injEq, List.cons.injEq, PyData.str.injEq, and_true, true_and] at h
    rw [h]
  | .nm x, .nd k ps, h => by
    have h : PyData.tuple [.str "name", .str x] = PyData.tuple (.str k :: dataAll ps) := h
    simp only [PyData.tuple.injEq, List.cons.injEq] at h
    cases ps with
    | nil => exact absurd h.2 (by intro z; cases z)
    | cons t r =>
      have h2 : PyData.str x = data t := by
        have := h.2
        have : [PyData.str x] = data t :: dataAll r := this
        exact (List.cons.inj this).1
      exact absurd h2.symm (data_ne_str _ _)
  | .nd k ps, .nm x, h => by
    have h : PyData.tuple (.str k :: dataAll ps) = PyData.tuple [.str "name", .str x] := h
    simp only [PyData.tuple.injEq, List.cons.injEq] at h
    cases ps with
    | nil => exact absurd h.2 (by intro z; cases z)
    | cons t r =>
      have h2 : data t = PyData.str x := by
        have : data t :: dataAll r = [PyData.str x] := h.2
        exact (List.cons.inj this).1
      exact absurd h2 (data_ne_str _ _)
  | .nd k ps, .nd l qs, h => by
    have h : PyData.tuple (.str k :: dataAll ps) = PyData.tuple (.str l :: dataAll qs) := h
    simp only [PyData.tuple.injEq, List.cons.injEq, PyData.str.injEq] at h
    rw [h.1, dataAll_inj h.2]
theorem dataAll_inj : ∀ {ps qs : List Tre}, dataAll ps = dataAll qs → ps = qs
  | [], [], _ => rfl
  | [], _ :: _, h => nomatch h
  | _ :: _, [], h => nomatch h
  | t :: r, u :: s, h => by
    have h : data t :: dataAll r = data u :: dataAll s := h
    have h1 := List.cons.inj h
    rw [data_inj h1.1, dataAll_inj h1.2]
end
end Tre
namespace Lw
open PySem PySem.Spec PyProof.Rows L2
mutual
/-- the tree t at the value v -/
def Tat (H : Hp) : V → Tre → Prop
  | v, .nm x => ∃ a, v = .ref a ∧ H a = some (.tup [.str "name", .str x]) ∧ PyData.strOk x = true
  | v, .nd k ps => ∃ a vs, v = .ref a ∧ H a = some (.tup (.str k :: vs)) ∧ TatAll H vs ps ∧ PyData.strOk k = true
def TatAll (H : Hp) : List V → List Tre → Prop
  | vs, [] => vs = []
  | vs, t :: r => ∃ v ws, vs = v :: ws ∧ Tat H v t ∧ TatAll H ws r
end
/-- what keeps all tuples -/
def KT (H H' : Hp) : Prop := ∀ b ys, H b = some (.tup ys) → H' b = some (.tup ys)
theorem KT.of {H H' : Hp} (s : Same H H') : KT H H' := fun b ys e => s _ _ e
theorem KT.refl (H : Hp) : KT H H := fun _ _ e => e
theorem KT.trans {H1 H2 H3 : Hp} (a : KT H1 H2) (b : KT H2 H3) : KT H1 H3 := fun x ys e => b _ _ (a _ _ e)
mutual
theorem Tat.keep {H H' : Hp} (k : KT H H') : ∀ {t : Tre} {v : V}, Tat H v t → Tat H' v t
  | .nm _, _, h => by
    obtain ⟨a, e, h, hs⟩ := h
    exact ⟨a, e, k _ _ h, hs⟩
  | .nd _ _, _, h => by
    obtain ⟨a, vs, e, h, h2, hs⟩ := h
    exact ⟨a, vs, e, k _ _ h, TatAll.keep k h2, hs⟩
theorem TatAll.keep {H H' : Hp} (k : KT H H') : ∀ {ps : List Tre} {vs : List V}, TatAll H vs ps → TatAll H' vs ps
  | [], _, h => h
  | _ :: _, _, h => by
    obtain ⟨v, ws, e, h1, h2⟩ := h
    exact ⟨v, ws, e, Tat.keep k h1, TatAll.keep k h2⟩
end
theorem Tat.ref {H : Hp} {v : V} {t : Tre} (h : Tat H v t) : ∃ a, v = .ref a := by
  cases t with
  | nm x => obtain ⟨a, e, _⟩ := h; exact ⟨a, e⟩
  | nd k ps => obtain ⟨a, _, e, _⟩ := h; exact ⟨a, e⟩
theorem TatAll.len {H : Hp} : ∀ {ps : List Tre} {vs : List V}, TatAll H vs ps → vs.length = ps.length
  | [], _, h => by rw [h]; rfl
  | _ :: _, _, h => by
    obtain ⟨v, ws, rfl, _, h2⟩ := h
    rw [List.length_cons, List.length_cons, h2.len]
theorem TatAll.at {H : Hp} : ∀ {ps : List Tre} {vs : List V} {i : Nat} {v : V}, TatAll H vs ps → vs[i]? = some v → ∃ t, ps[i]? = some t ∧ Tat H v t
  | [], _, _, _, h, e => by rw [h] at e; simp at e
  | t :: r, _, 0, v, h, e => by
    obtain ⟨v', ws, rfl, h1, h2⟩ := h
    simp at e; subst e
    exact ⟨t, rfl, h1⟩
  | t :: r, _, i + 1, v, h, e => by
    obtain ⟨v', ws, rfl, h1, h2⟩ := h
    rw [List.getElem?_cons_succ] at e ⊢
    exact h2.at e
mutual
theorem Tat.dp {K : PySem.W.Frag} {H : Hp} : ∀ {t : Tre} {v : V}, Tat H v t → Dp K H v t.data
  | .nm x, _, h => by
    obtain ⟨a, rfl, h, _⟩ := h
    exact .tup (SqT.of h) (.cons (.str _) (.cons (.str _) .nil))
  | .nd k ps, _, h => by
    obtain ⟨a, vs, rfl, h, h2, _⟩ := h
    exact .tup (SqT.of h) (.cons (.str _) (TatAll.dp h2))
theorem TatAll.dp {K : PySem.W.Frag} {H : Hp} : ∀ {ps : List Tre} {vs : List V}, TatAll H vs ps → DpAll K H vs (Tre.dataAll ps)
  | [], _, h => by rw [h]; exact .nil
  | t :: r, _, h => by
    obtain ⟨v, ws, rfl, h1, h2⟩ := h
    exact .cons (Tat.dp h1) (TatAll.dp h2)
end
mutual
theorem Tat.lay {H : Hp} : ∀ {t : Tre} {v : V}, Tat H v t → PyData.canLay0 t.data = true
  | .nm x, _, h => by
    obtain ⟨a, _, _, hs⟩ := h
    show PyData.canLay0 (.tuple [.str "name", .str x]) = true
    rw [PyData.canLay0, PyData.canLayAll0, PyData.canLayAll0, PyData.canLayAll0, PyData.canLay0, PyData.canLay0, hs]
    decide +kernel
  | .nd k ps, _, h => by
    obtain ⟨a, vs, _, _, h2, hs⟩ := h
    show PyData.canLay0 (.tuple (.str k :: Tre.dataAll ps)) = true
    rw [PyData.canLay0, PyData.canLayAll0, PyData.canLay0, hs, TatAll.lay h2]
    rfl
theorem TatAll.lay {H : Hp} : ∀ {ps : List Tre} {vs : List V}, TatAll H vs ps → PyData.canLayAll0 (Tre.dataAll ps) = true
  | [], _, _ => by show PyData.canLayAll0 [] = true; rw [PyData.canLayAll0]
  | t :: r, _, h => by
    obtain ⟨v, ws, _, h1, h2⟩ := h
    show PyData.canLayAll0 (t.data :: Tre.dataAll r) = true
    rw [PyData.canLayAll0, Tat.lay h1, TatAll.lay h2]
    rfl
end
mutual
theorem pl_data : ∀ t : Tre, pl t.data = true
  | .nm x => rfl
  | .nd k ps => by
    show (pl (.str k) && plAll (Tre.dataAll ps)) = true
    rw [plAll_data ps]; rfl
theorem plAll_data : ∀ ps : List Tre, plAll (Tre.dataAll ps) = true
  | [] => rfl
  | t :: r => by
    show (pl t.data && plAll (Tre.dataAll r)) = true
    rw [pl_data t, plAll_data r]; rfl
end
mutual
theorem depth_data : ∀ t : Tre, PyData.depth t.data ≤ t.deep
  | .nm x => Nat.le_refl 1
  | .nd k ps => by
    have := depthAll_data ps
    show max (PyData.depth (.str k)) (PyData.depthAll (Tre.dataAll ps)) + 1 ≤ 1 + Tre.deepAll ps
    have h0 : PyData.depth (.str k) = 0 := rfl
    omega
theorem depthAll_data : ∀ ps : List Tre, PyData.depthAll (Tre.dataAll ps) ≤ Tre.deepAll ps
  | [] => Nat.le_refl _
  | t :: r => by
    have h1 := depth_data t
    have h2 := depthAll_data r
    show max (PyData.depth t.data) (PyData.depthAll (Tre.dataAll r)) ≤ max t.deep (Tre.deepAll r)
    omega
end
/-- the same tree is equal, another one not -/
theorem Tat.sh {H : Hp} {t : Tre} {v : V} (h : Tat H v t) (hd : t.deep ≤ 60) : SeqAt.shaped t.data = true := by
  unfold SeqAt.shaped
  rw [h.lay]
  have := depth_data t
  exact decide_eq_true (by omega)
theorem r_eqT {K : PySem.W.Frag} {H : Hp} {Q : VK} {x y : V} {t u : Tre} (h1 : Tat H x t) (h2 : Tat H y u) (d1 : t.deep ≤ 60) (d2 : u.deep ≤ 60) (q : ∀ b : Bool, (b = true ↔ t = u) → Q (.bl b) H) : rEqD K x y H Q :=
  r_eqDd h1.dp h2.dp (h1.sh d1) (h2.sh d2) (pl_data t) (pl_data u) fun b hb => q b (hb.trans ⟨fun e => Tre.data_inj e, fun e => by rw [e]⟩)
end Lw
namespace Lw
open PySem PySem.Spec PyProof.Rows L2
section
variable {K : PySem.W.Frag} {σ : L2.St} {H : Hp} {D : Ends} {g : TG} {tb : TS} {Q : VK}
theorem r_slT {a : Addr} {xs : List V} {n : Int} (h : H a = some (.tup xs)) (hn : 1 ≤ n) (hl : 1 ≤ xs.length) (q : ∀ p, H p = none → Q (.ref p) (upd H p (.tup (xs.drop n.toNat)))) : rSlT K (.ref a) (some n) none H Q := by
  refine ⟨a, xs, rfl, SqT.of h, fun z => ?_, fun p hp => ?_⟩
  · have h1 := z.1
    unfold HT.sIx at h1
    simp only at h1
    split at h1 <;> omega
  · rw [cut_from _ (by omega)]
    exact q p hp
theorem r_iTup {tl : TE} {R : It → Hp → Prop} (h : tl σ H fun x H1 => ∃ a, x = .ref a ∧ (∃ xs, SqT K H1 a xs) ∧ R (Itt K a) H1) : iTup K tl σ H R := h
theorem r_forT {a : Addr} {xs : List V} (hx : H a = some (.tup xs)) (Pv : Nat → L2.St → Hp → Prop) (h0 : Pv 0 σ H) (hl : ∀ i σ H, i ≤ xs.length → Pv i σ H → H a = some (.tup xs))
    (hs : ∀ i x σ H, xs[i]? = some x → Pv i σ H → g x σ H fun σ2 H2 => tb { D with nx := Pv (i + 1), ct := Pv (i + 1), bk := D.nx } σ2 H2) (hd : ∀ σ H, Pv xs.length σ H → D.nx σ H) :
    ∃ b, V.ref a = .ref b ∧ (∃ xs, SqT K H b xs) ∧ ∃ W : Nat → Nat → L2.St → Hp → Prop, (∃ m, W 0 m σ H) ∧ ∀ i m σ H, W i m σ H →
      ((Itt K b).stop i H ∧ D.nx σ H) ∨ ((Itt K b).go i H ∧ ∃ N : L2.St → Hp → Prop, (∀ σ' H', N σ' H' → ∃ m', m' < m ∧ W (i + 1) m' σ' H') ∧ ∀ x H', (Itt K b).yld i H x H' → g x σ H' fun σ2 H2 => tb { D with nx := N, ct := N, bk := D.nx } σ2 H2) :=
  ⟨a, rfl, ⟨xs, SqT.of hx⟩, for_tup Pv h0 (fun i σ H h1 h2 => SqT.of (hl i σ H h1 h2)) hs hd⟩
theorem r_ixS {z : Str} {i : Int} {c : Nat} (h : z.length ≤ sizeLine) (a : atI z.cps.toList i = some c) (q : Q (.str ⟨#[c]⟩) H) : rIxS (.str z) (.int i) H Q := ⟨z, i, c, rfl, rfl, h, a, q⟩
end
end Lw
namespace Tre
theorem sizeAll_take {ps : List Tre} {i : Nat} {t : Tre} (h : ps[i]? = some t) : sizeAll (ps.take (i + 1)) = sizeAll (ps.take i) + size t := by
  rw [List.take_add_one, h]
  exact sizeAll_push _ _
theorem sizeAll_take_le : ∀ (ps : List Tre) (i : Nat), sizeAll (ps.take i) ≤ sizeAll ps
  | [], i => by rw [List.take_nil]; exact Nat.le_refl _
  | t :: r, 0 => Nat.zero_le _
  | t :: r, i + 1 => by
    have := sizeAll_take_le r i
    show size t + sizeAll (r.take i) ≤ size t + sizeAll r
    omega
end Tre
/-! isinstance of a caught own error, asked of a tuple of classes -/
namespace Lw
open PySem PySem.Spec PyProof.Rows L2
def rIsET (K : PySem.W.Frag) (D a : Addr) : List V → Hp → VK → Prop := fun xs H Q => ∃ (tp : Addr) (cs : List Addr) (b : Bool), xs = [.ref a, .ref tp] ∧ H tp = some (.tup (cs.map V.ref)) ∧ PySem.W.kitAny K (.ref D) (cs.map Value.ref) = some b ∧ Q (.bl b) H
theorem vals_refs : ∀ {cs : List Addr} {us : List Value}, Vals (cs.map V.ref) us → us = cs.map Value.ref
  | [], _, .nil => rfl
  | c :: cs, _, .cons r t => by
    have h : _ = Value.ref c := r
    rw [h, vals_refs t]; rfl
theorem call_isET {X : Cx} {a D : Addr} {oe : Obj} {pn : List (Addr × Obj)} (C : ExcC X.K D) (hz : Zc (.ref D) none oe) (hf : ∃ vs, oe.data = .fields vs) : CallR (X.suite a ((a, oe) :: pn)) (.builtin "isinstance") (rIsET X.K D a) := by
  intro pins s σ H xs us Q I r h
  obtain ⟨tp, cs, b, rfl, ht, e, q⟩ := h
  cases r with
  | cons rx rr =>
    cases rr with
    | cons rt rr =>
      cases rr
      cases rx
      cases rt
      obtain ⟨hget, _⟩ := I.pin (a, oe) (List.mem_append.mpr (.inl List.mem_cons_self))
      obtain ⟨vs, hv⟩ := hf
      have J : PySem.W.InstAt s.heap a oe D none := by
        obtain ⟨oc, od, oda, osl⟩ := oe
        obtain ⟨h1, h2⟩ := hz
        dsimp only at h1 h2 hv
        subst h1 h2 hv
        exact ⟨hget, rfl, rfl, trivial⟩
      obtain ⟨its, rv, pl, hz2⟩ := I.tuple (SqT.of ht)
      obtain ⟨o, ho, hc, n, hd⟩ := pl
      obtain ⟨oc, od, oda, osl⟩ := o
      simp only at hc hd
      subst hc hd
      rw [vals_refs rv] at ho
      exact PySem.W.kia_tup (PySem.W.handS_kitx_exc C.hg C.hk C.hs C.hd C.ha C.hn C.ht C.hm) I.kIn J ho e (fun z => nomatch z) fun tk => ⟨.bl b, H, I.kept (t' := tk) fun _ _ z => z, rfl, q⟩
end Lw
/-! f(e, .., k = v) where what is raised is wished for at the caller's slots; a suite for one class; repr of nested lists -/
namespace L2
open PySem PySem.Spec PyProof.Rows
def tCallNS (n m : Nat) (sp : Sp) (gV : List V → List V → List V) (E : St → XK) (t tk : TA) : TE := fun σ H Q => t σ H fun vs H1 => tk σ H1 fun zs H2 => vs.length = n ∧ zs.length = m ∧ sp (gV vs zs) H2 Q (E σ)
section
variable {X : Cx} {CX : CXT} {k n : Nat} {f : Addr} {fd : FuncData} {ps ks : List Str} {sp : Sp} {E : St → XK} {x : Str} {p pos : Pos} {e : Expr} {es : List Expr} {kws : List Keyword} {t tk : TA} {g : List Value → List Value → List Value} {gV : List V → List V → List V}
theorem pe_callNS (F : FnOk X.prog X.w X.K X.mg X.base CX k f fd ps sp) (hr : Room k X.A) (hg : Gl X x) (hm : X.mg x = some (.ref f)) (hk : PySem.W.keepIn X.K (.ref f) = true) (hb : KBn X.K fd ps n ks g gV) (hx : ∀ σ, PassesAt CX X σ (E σ))
    (ha : PA X (e :: es) t) (hkw : PK X kws tk) (hall : (backToKw pos (keywordEach kws X.env)).all (·.1.isSome) = true := by rfl) (hks : (backToKw pos (keywordEach kws X.env)).filterMap (·.1) = ks := by rfl)
    (hdb : (x == ("__debug__" : Str)) = false := by decide) (he : starEach (e :: es) X.env = (false, eval e X.env) :: starEach es X.env := by rfl)
    (hpl : ((backTo pos (starEach (e :: es) X.env)).any (·.1) || (backToKw pos (keywordEach kws X.env)).any (·.1.isNone)) = false := by rfl) :
    PE X (.Call (.Name x p) (e :: es) kws pos) (tCallNS n ks.length sp gV E t tk) := by
  refine ⟨fun pins s σ H Q I h => wpAny_Call_Name_kw (ld_glob I hg hm (PySem.W.callWith_KW (h₀ := X.base) I.ok.mod.kin hk hall (thn (ha.run pos pins s σ H _ I h) fun us s1 ⟨vs, H1, I1, r, q⟩ => thn (hkw.run pos pins s1 σ H1 _ I1 q) fun ws s2 ⟨zs, H2, I2, rz, l1, l2, q2⟩ => ⟨I2.kIn, ?_⟩) hpl he) hdb)⟩
  rw [hks]
  have go := F.run X.A X.stack s2 H2 ⟨us, ks.zip ws⟩ (g us ws) (gV vs zs) Q (E σ) hr I2.env0 (hb.to s2 us ws I2.kIn (r.length.symm.trans l1) (rz.length.symm.trans l2)) (hb.rel r rz) q2
  refine wpAny_call (codeAny_mono go fun res s' hq => ?_)
  match res, hq with
  | .error e, hq => exact hx σ pins H2 s2 e s' I2 hq
  | .ok (.ret u), hq => exact I2.after hq
  | .ok .next, hq => exact hq.elim
  | .ok .brk, hq => exact hq.elim
  | .ok .cont, hq => exact hq.elim
end
end L2
namespace Lw
open PySem PySem.Spec PyProof.Rows L2
theorem r_callNS {n m : Nat} {sp : Sp} {gV : List V → List V → List V} {E : L2.St → XK} {t tk : TA} {σ : L2.St} {H : Hp} {Q : VK} (h : t σ H fun vs H1 => tk σ H1 fun zs H2 => vs.length = n ∧ zs.length = m ∧ sp (gV vs zs) H2 Q (E σ)) : tCallNS n m sp gV E t tk σ H Q := h
theorem r_callSD {sp : Sp} {dvs : List V} {E : L2.St → XK} {t : TA} {σ : L2.St} {H : Hp} {Q : VK} (h : t σ H fun vs H1 => sp (vs ++ dvs) H1 Q (E σ)) : tCallSD sp dvs E t σ H Q := h
theorem pss_when {X : Cx} {b : List Stmt} {t : TS} {P : Prop} (h : P → PSs X b t) : PSs X b (fun D σ H => P ∧ t D σ H) := ⟨fun pins s σ H D I hh => (h hh.1).run pins s σ H D I hh.2⟩
theorem zc_at {cls : Value} {d : Option Addr} {CN : Addr} {oe : Obj} (e : cls = .ref CN ∧ d = none) (h : Zc cls d oe) : Zc (.ref CN) none oe := by rw [← e.1, ← e.2]; exact h
end Lw
/-! len(set(a list of ints)); repr of nested lists -/
namespace Lm
theorem nodup_sub_len : ∀ {ks ns : List Int}, ks.Nodup → (∀ k ∈ ks, k ∈ ns) → ks.length ≤ ns.length
  | [], _, _, _ => Nat.zero_le _
  | k :: r, ns, hn, h => by
    have h1 := List.nodup_cons.mp hn
    have hk := h k List.mem_cons_self
    have ih := nodup_sub_len (ks := r) (ns := ns.erase k) h1.2 fun x hx => (List.mem_erase_of_ne (fun e => h1.1 (by rw [← e]; exact hx))).mpr (h x (List.mem_cons_of_mem _ hx))
    rw [List.length_erase_of_mem hk] at ih
    have := List.length_pos_of_mem hk
    rw [List.length_cons]; omega
theorem insA_len {z : Int} : ∀ {l : List Int}, l.Pairwise (· < ·) → (insA z l).length = l.length + if z ∈ l then 0 else 1
  | [], _ => rfl
  | x :: r, h => by
    have h1 := (List.pairwise_cons.mp h).1
    have h2 := (List.pairwise_cons.mp h).2
    unfold insA
    by_cases q : z < x
    · rw [if_pos q, if_neg (fun hm => by
        rcases List.mem_cons.mp hm with e | e
        · omega
        · have := h1 z e; omega)]
      rfl
    · rw [if_neg q]
      by_cases q2 : z = x
      · rw [if_pos q2, if_pos (by rw [q2]; exact List.mem_cons_self)]; rfl
      · rw [if_neg q2, List.length_cons, insA_len h2, List.length_cons]
        by_cases q3 : z ∈ r
        · rw [if_pos q3, if_pos (List.mem_cons_of_mem _ q3)]
        · rw [if_neg q3, if_neg (fun hm => by
            rcases List.mem_cons.mp hm with e | e
            · exact q2 e
            · exact q3 e)]
theorem asc_len : ∀ l : List Int, (asc l).length ≤ l.length ∧ ((asc l).length = l.length ↔ l.Nodup)
  | [] => ⟨Nat.le_refl _, fun _ => List.nodup_nil, fun _ => rfl⟩
  | x :: r => by
    obtain ⟨ih1, ih2⟩ := asc_len r
    have e : (asc (x :: r)).length = (asc r).length + if x ∈ asc r then 0 else 1 := insA_len (asc_pw r)
    rw [e, List.length_cons, List.nodup_cons]
    by_cases q : x ∈ r
    · rw [if_pos (asc_mem.mpr q)]
      exact ⟨by omega, fun h => by omega, fun h => absurd q h.1⟩
    · rw [if_neg (fun z => q (asc_mem.mp z))]
      exact ⟨by omega, fun h => ⟨q, ih2.mp (by omega)⟩, fun h => by have := ih2.mpr h.2; omega⟩
theorem set_len {ks ns : List Int} (h1 : ks.Nodup) (h2 : ∀ k, k ∈ ks ↔ k ∈ ns) : ks.length ≤ ns.length ∧ (ks.length = ns.length ↔ ns.Nodup) := by
  have a1 : ks.length ≤ (asc ns).length := nodup_sub_len h1 fun k hk => asc_mem.mpr ((h2 k).mp hk)
  have a2 : (asc ns).length ≤ ks.length := nodup_sub_len ((asc_pw ns).imp fun {a b} q => Int.ne_of_lt q) fun k hk => (h2 k).mpr (asc_mem.mp hk)
  have e : ks.length = (asc ns).length := by omega
  rw [e]
  exact asc_len ns
end Lm
namespace Lw
open PySem PySem.Spec PyProof.Rows L2
def rLenSet (w : World) : List V → Hp → VK → Prop := fun xs H Q => ∃ (p : Addr) (S : Int → Bool) (n : Nat), xs = [.ref p] ∧ H p = some (SetO w p S n) ∧ ∀ ks : List Int, ks.Nodup → (∀ k, k ∈ ks ↔ S k = true) → ks.length = n → Q (.int (n : Nat)) H
theorem call_len_setO {X : Cx} {w : World} (hw : X.w = w) : CallR X (.builtin "len") (rLenSet w) := by
  subst hw
  intro pins s σ H xs us Q I r h
  obtain ⟨p, S, n, rfl, hp, q⟩ := h
  obtain ⟨u, rfl, rx⟩ := vals1 r
  obtain rfl : u = .ref p := rx
  have R := setO_get I hp
  have R2 := R
  obtain ⟨o, es, ep, t, ho, hex, hd, hgood, hnd, hmem, hsz, hfit, hn, _⟩ := R2
  have q2 := q (es.toList.map keyOf) hnd (fun k => (hmem k).symm) (by rw [List.length_map, Array.length_toList, hn])
  exact call_len_set ho hex hd hfit (by rw [hn]; have : n < scanBound := by rw [← hn]; exact hsz
                                        unfold scanBound at this; omega) ⟨.int n, H, I.tok _, ⟨_, by rw [hn]⟩, q2⟩
theorem r_lenSet {w : World} {p : Addr} {ns : List Int} {n : Nat} {H : Hp} {Q : VK} (h : H p = some (SetO w p (fun j => decide (j ∈ ns)) n)) (q : n ≤ ns.length → (n = ns.length ↔ ns.Nodup) → Q (.int (n : Nat)) H) : rLenSet w [.ref p] H Q :=
  ⟨p, _, n, rfl, h, fun ks h1 h2 h3 => by
    have := Lm.set_len h1 (ns := ns) fun k => by rw [h2, decide_eq_true_eq]
    rw [h3] at this
    exact q this.1 this.2⟩
end Lw
/-! texts put together; lists of trees -/
namespace Lw
open PySem PySem.Spec PyProof.Rows L2
def rCatS : R2 := fun x y H Q => ∃ i j, x = .str i ∧ y = .str j ∧ i.length + j.length ≤ sizeLine ∧ Q (.str (i ++ j)) H
theorem op_catS {X : Cx} : OpR X (binaryOp .Add) rCatS := op_add_str
theorem r_catS {x y : Str} {H : Hp} {Q : VK} (h : x.length + y.length ≤ sizeLine) (q : Q (.str (x ++ y)) H) : rCatS (.str x) (.str y) H Q := ⟨x, y, rfl, rfl, h, q⟩
/-- each of these is a tree of at most n parts -/
def Tms (H : Hp) (n : Nat) (vs : List V) : Prop := ∀ v ∈ vs, ∃ t, Tat H v t ∧ t.size ≤ n
theorem Tms.keep {H H' : Hp} {n : Nat} {vs : List V} (k : KT H H') (h : Tms H n vs) : Tms H' n vs := fun v hv => by
  obtain ⟨t, h1, h2⟩ := h v hv
  exact ⟨t, h1.keep k, h2⟩
theorem Tms.push {H : Hp} {n : Nat} {vs : List V} {v : V} {t : Tre} (h : Tms H n vs) (h1 : Tat H v t) (h2 : t.size ≤ n) : Tms H n (vs ++ [v]) := fun x hx => by
  rcases List.mem_append.mp hx with e | e
  · exact h x e
  · rw [List.mem_singleton.mp e]; exact ⟨t, h1, h2⟩
theorem Tms.append {H : Hp} {n : Nat} {vs ws : List V} (h : Tms H n vs) (h1 : Tms H n ws) : Tms H n (vs ++ ws) := fun x hx => by
  rcases List.mem_append.mp hx with e | e
  · exact h x e
  · exact h1 x e
theorem Tms.at {H : Hp} {n i : Nat} {vs : List V} {v : V} (h : Tms H n vs) (e : vs[i]? = some v) : ∃ t, Tat H v t ∧ t.size ≤ n := h v (List.mem_of_getElem? e)
theorem Tms.nil {H : Hp} {n : Nat} : Tms H n [] := fun _ h => nomatch h
theorem tat0 {H : Hp} {p : Addr} {k : Str} (h : H p = some (.tup [.str k])) (ok : PyData.strOk k = true := by decide +kernel) : Tat H (.ref p) (.nd k []) := ⟨p, [], rfl, h, rfl, ok⟩
theorem tat1 {H : Hp} {p : Addr} {k : Str} {v : V} {t : Tre} (h : H p = some (.tup [.str k, v])) (h1 : Tat H v t) (ok : PyData.strOk k = true := by decide +kernel) : Tat H (.ref p) (.nd k [t]) := ⟨p, [v], rfl, h, ⟨v, [], rfl, h1, rfl⟩, ok⟩
theorem tat2 {H : Hp} {p : Addr} {k : Str} {v x : V} {t u : Tre} (h : H p = some (.tup [.str k, v, x])) (h1 : Tat H v t) (h2 : Tat H x u) (ok : PyData.strOk k = true := by decide +kernel) : Tat H (.ref p) (.nd k [t, u]) := ⟨p, [v, x], rfl, h, ⟨v, [x], rfl, h1, x, [], rfl, h2, rfl⟩, ok⟩
theorem strOk_app {x y : Str} (h1 : PyData.strOk x = true) (h2 : PyData.strOk y = true) : PyData.strOk (x ++ y) = true := by
  unfold PyData.strOk at h1 h2 ⊢
  show (x.cps ++ y.cps).all _ = true
  rw [Array.all_append, h1, h2]; rfl
theorem strOk_1 {c : Nat} (h : c < 0x110000) : PyData.strOk ⟨#[c]⟩ = true := by
  unfold PyData.strOk
  simp [h]
/-- one of a list of texts -/
theorem str_at {xs : List Str} {z : Int} (h0 : 0 ≤ z) (h1 : z < xs.length) : ∃ x, x ∈ xs ∧ atI (xs.map V.str) z = some (.str x) := by
  obtain ⟨x, hx⟩ : ∃ x, xs[z.toNat]? = some x := ⟨_, List.getElem?_eq_getElem (by omega)⟩
  exact ⟨x, List.mem_of_getElem? hx, at_i h0 (by rw [List.getElem?_map, hx]; rfl)⟩
theorem cp_at {x : Str} {z : Int} (h0 : 0 ≤ z) (h1 : z < x.cps.toList.length) : ∃ c, c ∈ x.cps.toList ∧ atI x.cps.toList z = some c := by
  obtain ⟨c, hx⟩ : ∃ c, x.cps.toList[z.toNat]? = some c := ⟨_, List.getElem?_eq_getElem (by omega)⟩
  refine ⟨c, List.mem_of_getElem? hx, ?_⟩
  have e : z = (z.toNat : Int) := by omega
  rw [e]
  exact atI_nat hx
end Lw
namespace Lw
open PySem PySem.Spec PyProof.Rows L2
theorem kt_lst {C : Hp} {t : Addr} {xs : List V} : KT (upd C t (.lst xs)) C := fun b ys h => by
  by_cases e : b = t
  · subst e; rw [upd_same] at h; cases h
  · rwa [upd_ne e] at h
theorem kt_rg {st g : Addr} {R : RS} {B : Hp} : KT (rg st g R B) B := fun b ys h => kt_lst _ _ (kt_lst _ _ h)
theorem kt_new {C : Hp} {p : Addr} {x : HO} (h : C p = none) : KT C (upd C p x) := KT.of (same_new h)
theorem kt_put {C : Hp} {p : Addr} {x : HO} {xs : List V} (h : C p = some (.lst xs)) : KT C (upd C p x) := fun b ys e => by
  have : b ≠ p := fun z => by rw [z, h] at e; cases e
  rw [upd_ne this]; exact e
end Lw
namespace Lw
open PySem PySem.Spec PyProof.Rows L2
theorem newX {st g : Addr} {R : RS} {C X : Hp} {p : Addr} {x : HO} (k : Ok st g R C) (np : rg st g R C p = none) (e : upd (rg st g R C) p x = X) : ∃ C1, X = rg st g R C1 ∧ Ok st g R C1 ∧ Same C C1 ∧ C1 p = some x ∧ C p = none := by
  obtain ⟨e1, o1, n1⟩ := newT_eq (topRg st g) k np x
  exact ⟨_, by rw [← e, e1], o1, same_new n1, upd_same, n1⟩
theorem newXH {C X : Hp} {p : Addr} {x : HO} (np : C p = none) (e : upd C p x = X) : Same C X ∧ X p = some x := by
  rw [← e]
  exact ⟨same_new np, upd_same⟩
end Lw
/-! instances with a dict: fields, methods within a try, classmethods, a class held by a local; keys of a dict -/
namespace L2
open PySem PySem.Spec PyProof.Rows
/-- o.m(e, ..) where what is raised is wished for at the caller's slots -/
def tMethT (C : Addr) (m : Str) (sp : Sp) (E : St → XK) (ta : TE) (t : TA) : TE := fun σ H Q => ta σ H fun x H1 => ∃ a dx fs, x = .ref a ∧ H1 a = some (.ins C dx fs) ∧ fs.lookup m = none ∧ t σ H1 fun vs H2 => sp (x :: vs) H2 Q (E σ)
/-- a classmethod, likewise -/
def tCMethT (C : Addr) (sp : Sp) (E : St → XK) (ta : TE) (t : TA) : TE := fun σ H Q => ta σ H fun x H1 => x = .ref C ∧ t σ H1 fun vs H2 => sp (.ref C :: vs) H2 Q (E σ)
/-- the class that a local holds, called without arguments -/
def tMakeL (i : Nat) (C : Addr) (sp : Sp) (dvs : List V) (E : XK) : TE := fun σ H Q => σ[i]? = some (some (.ref C)) ∧ ∀ x dx, H x = none → H dx = none → dx ≠ x →
  sp (.ref x :: dvs) (upd (upd H dx (.own x)) x (.ins C dx [])) (fun v H2 => v = .non ∧ Q (.ref x) H2) E
section
variable {X : Cx} {CX : CXT} {k i : Nat} {f C p g : Addr} {fd : FuncData} {ps : List Str} {sp : Sp} {dvs : List V} {ds : List Value} {m : Str} {pos apos np : Pos} {e o : Expr} {es : List Expr} {ta : TE} {t : TA} {pl : Sem Bool} {mc : Value}
theorem pe_methT {E : St → XK} (he : PE X o ta) (c : Cls X.K C) (hm : Meth X.K C m f)
    (F : FnOk X.prog X.w X.K X.mg X.base CX k f fd ps sp) (hr : Room k X.A) (hb : Binds X.K fd ps []) (hx : ∀ σ, PassesAt CX X σ (E σ)) (ha : PA X (e :: es) t)
    (hst : starEach (e :: es) X.env = (false, eval e X.env) :: starEach es X.env := by rfl) (hpl : (backTo pos (starEach es X.env)).any (·.1) = false := by rfl)
    (ht : eval (.Call (.Attribute o m apos) (e :: es) [] pos) X.env = (do
      let ov ← eval o X.env
      standAt apos.atName
      let (f, first) ← holding [ov] (getMethod ov m pl)
      callWith pos f first (backTo pos (starEach (e :: es) X.env)) (backToKw pos (keywordEach [] X.env))) := by rfl) :
    PE X (.Call (.Attribute o m apos) (e :: es) [] pos) (tMethT C m sp E ta t) := by
  refine ⟨fun pins s σ H Q I h => ?_⟩
  refine PySem.W.methodCall_KW (pl := pl) (thn (he.run pins s σ H _ I h) fun u s1 ⟨x, H1, I1, rx, a, dx, fs, ex, ea, l, q⟩ => ?_) ht
  subst ex
  obtain rfl : u = Value.ref a := rx
  refine getmeth_ok I1 ea c hm l ?_
  refine PySem.W.callWith_K (first := [.ref a]) (h₀ := X.base) I.ok.mod.kin hm.kp (thn (ha.run pos pins s1 σ H1 _ I1 q) fun us s2 ⟨vs, H2, I2, r, q2⟩ => ⟨I2.kIn, ?_⟩) hst hpl
  exact run_fnS (us := .ref a :: us) (vs := .ref a :: vs) F hr hb (hx σ) I2 (.cons rfl r) q2
theorem run_fnRT {pins : List (Addr × Obj)} {σ : St} {H : Hp} {s : Shared} {E : XK} {Q : VK} {us : List Value} {vs : List V} (F : FnR X.prog X.w X.K X.mg X.base CX k f sp) (hr : Room k X.A) (hx : PassesAt CX X σ E) (I : Inv X pins σ H s) (r : Vals vs us) (h : sp vs H Q E) :
    codeAny (model X.prog X.w) X.A (.call (.ref f) ⟨us, []⟩) (fun r s' => match r with | .ok (.ret v) => EP X pins σ Q v s' | .ok _ => False | .error e => X.xe e s') s := by
  refine codeAny_mono (F X.A X.stack s H us vs Q E hr I.env0 r h) fun r s' hq => ?_
  match r, hq with
  | .error e, hq => exact hx pins H s e s' I hq
  | .ok (.ret u), hq => exact I.after hq
  | .ok .next, hq => exact hq.elim
  | .ok .brk, hq => exact hq.elim
  | .ok .cont, hq => exact hq.elim
theorem run_cmT {pins : List (Addr × Obj)} {σ : St} {H : Hp} {s : Shared} {q : Addr} {E : XK} {Q : VK} {us : List Value} {vs : List V} (F : FnR X.prog X.w X.K X.mg X.base CX k g sp) (hr : Room k X.A) (hx : PassesAt CX X σ E) (I : Inv X ((q, PySem.W.methodObj (.ref g) (.ref C)) :: pins) σ H s)
    (r : Vals vs us) (h : sp (.ref C :: vs) H Q E) : wpAny (model X.prog X.w) X.A (call (.ref q) us) (EP X pins σ Q) X.xe s := by
  have z : wpAny (model X.prog X.w) X.A (call (.ref q) us) (EP X ((q, PySem.W.methodObj (.ref g) (.ref C)) :: pins) σ Q) X.xe s :=
    wpAny_call (PySem.W.method_call (ClX.pin_at I) (run_fnRT (us := .ref C :: us) (vs := .ref C :: vs) F hr hx I (.cons rfl r) h))
  exact thn z fun _ _ y => ClX.unpinE y
theorem pe_cmethT {E : St → XK} (he : PE X o ta) (r : ClX.CRead X.K C mc) (c : ClX.CMet X.K C mc m p g) (F : FnR X.prog X.w X.K X.mg X.base CX k g sp) (hr : Room k X.A) (hx : ∀ σ, PassesAt CX X σ (E σ)) (ha : PA X (e :: es) t)
    (hst : starEach (e :: es) X.env = (false, eval e X.env) :: starEach es X.env := by rfl) (hpl : (backTo pos (starEach es X.env)).any (·.1) = false := by rfl)
    (ht : eval (.Call (.Attribute o m apos) (e :: es) [] pos) X.env = (do
      let ov ← eval o X.env
      standAt apos.atName
      let (f, first) ← holding [ov] (getMethod ov m pl)
      callWith pos f first (backTo pos (starEach (e :: es) X.env)) (backToKw pos (keywordEach [] X.env))) := by rfl) :
    PE X (.Call (.Attribute o m apos) (e :: es) [] pos) (tCMethT C sp E ta t) := by
  refine ⟨fun pins s σ H Q I h => ?_⟩
  refine PySem.W.methodCall_KW (pl := pl) (thn (he.run pins s σ H _ I h) fun u s1 ⟨x, H1, I1, rx, ex, q⟩ => ?_) ht
  subst ex
  obtain rfl : u = Value.ref C := rx
  refine ClX.getmethcm_ok I1 r c fun s2 I2 => ?_
  refine ClX.callwith_cm I2 (ClX.base_none I1 (Nat.le_refl _)) c.fi (thn (ha.run pos _ s2 σ H1 _ I2 q) fun us s3 ⟨vs, H2, I3, rv, q2⟩ => ⟨⟨ClX.pin_at I3, I3.kIn⟩, ?_⟩) hst hpl
  exact run_cmT F hr (hx σ) I3 rv q2
theorem pe_makeL0 {E : XK} {x : Str} (M : Mk X.K C f) (F : FnOk X.prog X.w X.K X.mg X.base CX k f fd ps sp) (hr : Room (k + 1) X.A) (hN : X.N[i]? = some x) (hv : Vis X.env.scope x) (hb : Binds X.K fd ps ds) (hd : Vals dvs ds) (hx : Passes CX X E)
    (hdb : (x == ("__debug__" : Str)) = false := by decide) (hcd : (x == ("__classdict__" : Str)) = false := by decide) : PE X (.Call (.Name x np) [] [] pos) (tMakeL i C sp dvs E) := by
  refine ⟨fun pins s σ H Q I h => ?_⟩
  obtain ⟨hs, ht⟩ := h
  refine wpAny_Call_Name_kw (thn ((pe_var (pos := np) hN hv hdb hcd).run pins s σ H (fun v H1 => v = .ref C ∧ H1 = H) I ⟨.ref C, hs, rfl, rfl⟩) fun u s1 ⟨v, H1, I1, r1, q1⟩ => ?_)
  obtain ⟨rfl, rfl⟩ := q1
  cases r1
  exact PySem.W.callWith_K0 I1.kIn M.kp (run_make (us := []) (vs := []) M F hr hb hd hx I1 .nil ht)
end
end L2
namespace Lw
open PySem PySem.Spec PyProof.Rows L2
section
variable {K : PySem.W.Frag} {σ : L2.St} {H : Hp} {D : Ends} {Q : VK}
theorem r_fld {ta : TE} {f : Str} (h : ta σ H fun x H1 => ∃ a C dx fs v, x = .ref a ∧ H1 a = some (.ins C dx fs) ∧ Cls K C ∧ NoAttr K C f ∧ fs.lookup f = some v ∧ Q v H1) : tFld K ta f σ H Q := h
theorem r_fldI {a C dx : Addr} {fs : List (Str × V)} {f : Str} {v : V} (e : H a = some (.ins C dx fs)) (c : Cls K C) (n : NoAttr K C f) {F : V → Prop} (l : fs.lookup f = some v) (q : F v) : ∃ a' C dx fs v, V.ref a = .ref a' ∧ H a' = some (.ins C dx fs) ∧ Cls K C ∧ NoAttr K C f ∧ fs.lookup f = some v ∧ F v := ⟨a, C, dx, fs, v, rfl, e, c, n, l, q⟩
theorem r_sFld {ta tv : TE} {f : Str} (h : tv σ H fun y H1 => ta σ H1 fun x H2 => ∃ a C dx fs, x = .ref a ∧ H2 a = some (.ins C dx fs) ∧ Cls K C ∧ NoAttr K C f ∧ fs.length < 1000 ∧ D.nx σ (upd H2 a (.ins C dx (putF f y fs)))) : sFld K ta tv f D σ H := h
theorem r_sFldI {a C dx : Addr} {fs : List (Str × V)} {f : Str} {y : V} {F : Hp → Prop} (e : H a = some (.ins C dx fs)) (c : Cls K C) (n : NoAttr K C f) (l : fs.length < 1000) (q : F (upd H a (.ins C dx (putF f y fs)))) :
    ∃ a' C dx fs, V.ref a = .ref a' ∧ H a' = some (.ins C dx fs) ∧ Cls K C ∧ NoAttr K C f ∧ fs.length < 1000 ∧ F (upd H a' (.ins C dx (putF f y fs))) := ⟨a, C, dx, fs, rfl, e, c, n, l, q⟩
theorem r_cval {ta : TE} {f : Str} (h : ta σ H fun x H1 => ∃ C mc v u, x = .ref C ∧ ClX.CRead K C mc ∧ ClX.CVal K C mc f v u ∧ Q v H1) : ClX.tCVal K ta f σ H Q := h
theorem r_lenD {a : Addr} {kvs : List (Key × V)} {F : List (Key × V) → Prop} (h : H a = some (.dK kvs)) (q : F kvs) : ∃ a' kvs, [V.ref a] = [V.ref a'] ∧ H a' = some (.dK kvs) ∧ F kvs := ⟨a, kvs, rfl, h, q⟩
theorem r_meth {C : Addr} {m : Str} {sp : Sp} {dvs : List V} {E : XK} {ta : TE} {t : TA} (h : ta σ H fun x H1 => ∃ a dx fs, x = .ref a ∧ H1 a = some (.ins C dx fs) ∧ fs.lookup m = none ∧ t σ H1 fun vs H2 => sp (x :: (vs ++ dvs)) H2 Q E) : tMeth C m sp dvs E ta t σ H Q := h
theorem r_methT {C : Addr} {m : Str} {sp : Sp} {E : L2.St → XK} {ta : TE} {t : TA} (h : ta σ H fun x H1 => ∃ a dx fs, x = .ref a ∧ H1 a = some (.ins C dx fs) ∧ fs.lookup m = none ∧ t σ H1 fun vs H2 => sp (x :: vs) H2 Q (E σ)) : tMethT C m sp E ta t σ H Q := h
theorem r_cmethT {C : Addr} {sp : Sp} {E : L2.St → XK} {ta : TE} {t : TA} (h : ta σ H fun x H1 => x = .ref C ∧ t σ H1 fun vs H2 => sp (.ref C :: vs) H2 Q (E σ)) : tCMethT C sp E ta t σ H Q := h
theorem r_prop {C : Addr} {sp : Sp} {dvs : List V} {E : XK} {ta : TE} (h : ta σ H fun x H1 => ∃ a dx fs, x = .ref a ∧ H1 a = some (.ins C dx fs) ∧ sp (.ref a :: dvs) H1 Q E) : tProp C sp dvs E ta σ H Q := h
theorem r_listItems {te : TE} (h : te σ H fun x H1 => LiI.rItemsL x H1 Q) : LiI.tListItems te σ H Q := h
theorem r_dnewK (h : ∀ p, H p = none → Q (.ref p) (upd H p (.dK []))) : tDNewK σ H Q := h
theorem r_ddel {td ty : TE} (h : td σ H fun x H1 => ty σ H1 fun y H2 => ∃ a kvs k, x = .ref a ∧ H2 a = some (.dK kvs) ∧ y = kV k ∧ (valV kvs k).isSome = true ∧ D.nx σ (upd H2 a (.dK (dropK kvs k)))) : sDDel td ty D σ H := h
end
theorem r_keys {td : TE} {σ : L2.St} {H : Hp} {R : It → Hp → Prop} {d : Addr} {o : Obj} {kvs : List (Key × V)} (h : td σ H fun x H1 => x = .ref d ∧ H1 d = some (.frz o (.dK kvs)) ∧ R (Itk d o kvs) H1)
    (m : ∀ (F G : VK), (∀ x H, F x H → G x H) → td σ H F → td σ H G) : iKeys td σ H R := m _ _ (fun x H1 ⟨e, h1, h2⟩ => ⟨d, o, e, .inl ⟨kvs, h1, h2⟩⟩) h
theorem iteNTr {A B : Prop} (h : B) : if (!true) = true then A else B := by rw [if_neg (by decide)]; exact h
theorem iteNFa {A B : Prop} (h : A) : if (!false) = true then A else B := by rw [if_pos (by decide)]; exact h
theorem m_var {i : Nat} {σ : L2.St} {H : Hp} (F G : VK) (h : ∀ x H, F x H → G x H) (k : tVar i σ H F) : tVar i σ H G := by
  obtain ⟨v, e, q⟩ := k
  exact ⟨v, e, h _ _ q⟩
/-- the keys -/
def keysV (kvs : List (Key × V)) : List V := kvs.map fun q => kV q.1
/-- behind a walk over the keys of d the dict is as it was -/
theorem unlocked {H : Hp} {d p : Addr} {u o x : HO} (h : H d = some u) (np : upd H d o p = none) : p ≠ d ∧ H p = none ∧ upd (upd (upd H d o) p x) d u = upd H p x := by
  obtain ⟨h1, h2⟩ := upd_none np
  refine ⟨h1, h2, ?_⟩
  rw [upd_comm (a := p) (b := d) h1, upd_upd]
  have e : upd H d u = H := by
    funext b
    by_cases e : b = d
    · subst e; rw [upd_same, h]
    · rw [upd_ne e]
  rw [e]
/-- what keeps all but some objects -/
def Kp (N : Addr → Prop) (H H' : Hp) : Prop := ∀ c o, H c = some o → ¬ N c → H' c = some o
theorem Kp.of {N : Addr → Prop} {H H' : Hp} (s : Same H H') : Kp N H H' := fun c o e _ => s c o e
theorem Kp.trans {N : Addr → Prop} {H1 H2 H3 : Hp} (a : Kp N H1 H2) (b : Kp N H2 H3) : Kp N H1 H3 := fun c o e n => b c o (a c o e n) n
theorem Kp.mono {N M : Addr → Prop} {H H' : Hp} (a : Kp N H H') (h : ∀ c, N c → M c) : Kp M H H' := fun c o e n => a c o e fun z => n (h c z)
theorem Kp.put {N : Addr → Prop} {H : Hp} {p : Addr} {x : HO} (h : N p) : Kp N H (upd H p x) := fun c o e n => by
  have : c ≠ p := fun z => n (by rw [z]; exact h)
  rw [upd_ne this]; exact e
/-- the draws' state through what doesn't touch it -/
theorem rg_kp {N : Addr → Prop} {st g : Addr} {R : RS} {B H : Hp} (k : Ok st g R B) (s : Kp N (rg st g R B) H) (h1 : ¬ N st) (h2 : ¬ N g) : ∃ B', H = rg st g R B' ∧ Ok st g R B' ∧ Kp N B B' ∧ ∀ b, b ≠ st → b ≠ g → B' b = H b := by
  refine ⟨fun b => if b = st ∨ b = g then none else H b, ?_, ⟨k.ne, k.ok, if_pos (.inl rfl), if_pos (.inr rfl)⟩, fun b o e n => ?_, fun b e1 e2 => if_neg (fun z => z.elim e1 e2)⟩
  · funext b
    by_cases e1 : b = st
    · subst e1; rw [rg_st]; exact s _ _ rg_st h1
    · by_cases e2 : b = g
      · subst e2
        show H b = upd (upd _ b _) st _ b
        rw [upd_ne e1, upd_same]
        exact s _ _ (rg_g k) h2
      · show H b = upd (upd _ g _) st _ b
        rw [upd_ne e1, upd_ne e2]
        exact (if_neg (fun z => z.elim e1 e2)).symm
  · have e1 : b ≠ st := fun z => by rw [z, k.bst] at e; cases e
    have e2 : b ≠ g := fun z => by rw [z, k.bg] at e; cases e
    show (if b = st ∨ b = g then none else H b) = some o
    rw [if_neg (fun z => z.elim e1 e2)]
    exact s b o (rg_get k e) n
end Lw
/-! sorted(..) of own instances by their own __lt__, fewer than 64 of them -/
namespace Lw
open PySem PySem.W PySem.Calls PyProof.Rows
/-- the sort of n items by what it asks (W: behind these questions G holds) -/
structure RunsBy (prog : Program) (w : World) (n : Nat) (W : (Nat → Nat → (Bool → Shared → Prop) → Shared → Prop) → (Array Nat → Shared → Prop) → Shared → Prop) : Prop where
  run : ∀ (A : Around) (E : Value → Shared → Prop) (κ : SortKind) (it : Array Keyed) (Q : Unit → SortSt → Shared → Prop) (G : Array Nat → Shared → Prop) (s : Shared),
    (∀ p' st' s', p'.size = n → arrOf st' = p'.map (kas_item it) → failedOf st' = none → G p' s' → Q () st' s') → W (kas_cmp prog w A κ it) G s → kasC (model prog w) A E sortRuns' Q (kas_st κ it (List.toArray (List.range n))) s
  mono : ∀ (A : Around) (κ : SortKind) (it : Array Keyed) (Q Q' : Array Nat → Shared → Prop) (s : Shared), (∀ a s', Q a s' → Q' a s') → W (kas_cmp prog w A κ it) Q s → W (kas_cmp prog w A κ it) Q' s
theorem runs_few {prog : Program} {w : World} {n : Nat} (h2 : 2 ≤ n) (h64 : n < 64) : RunsBy prog w n (fun c G s => (kas_sort n).kasWp c G s) := ⟨fun A E κ it Q G s hG h => kas_runs h2 h64 hG h, fun A κ it Q Q' s hq h => kas_wp_mono h hq⟩
theorem minRun_le : ∀ (f n r : Nat), r ≤ 1 → minRun' f n r ≤ n + r
  | 0, n, r, _ => Nat.le_refl _
  | f + 1, n, r, h => by
    rw [minRun'_succ]
    split
    · exact Nat.le_refl _
    · have := minRun_le f (n / 2) (max r (n % 2)) (by omega)
      omega
theorem runs_one {prog : Program} {w : World} {n : Nat} (h2 : 2 ≤ n) : RunsBy prog w n (fun c G s => (kas_count n (List.toArray (List.range n))).kasWp c (fun r s' => r.1 = n ∧ G r.2 s') s) := by
  refine ⟨fun A E κ it Q G s hG h => ?_, fun A κ it Q Q' s hq h => kas_wp_mono h fun r s' z => ⟨z.1, hq _ _ z.2⟩⟩
  have hrs : (List.toArray (List.range n)).size = n := by simp
  have hml : minRun' n n 0 ≤ n := minRun_le n n 0 (by omega)
  obtain ⟨r, rfl⟩ : ∃ r, n = r + 2 := ⟨n - 2, by omega⟩
  have hsz : (arrOf (kas_st κ it (List.toArray (List.range (r + 2))))).size = r + 2 := by
    show ((List.toArray (List.range (r + 2))).map (kas_item it)).size = _
    rw [Array.size_map, hrs]
  rw [sortRuns'_eq]
  refine kasC_bind (kasC_get ?_)
  dsimp only
  rw [hsz]
  generalize minRun' (r + 2) (r + 2) 0 = mr at hml
  refine kasC_bind (kasC_range ?_)
  show kasC _ _ _ (forIn (0 :: 1 :: List.range' 2 r) _ _) _ _ _
  refine kasC_cons ?_
  dsimp only
  rw [if_neg (by omega)]
  simp only [Nat.sub_zero]
  refine kasC_bind (kas_count_ (by omega) (by rw [hrs]; exact Nat.le_refl _) (fun m p' s' hm1 hm2 hp hg => ?_) h)
  obtain ⟨e, hg⟩ := hg
  have e : m = r + 2 := e
  subst e
  dsimp only
  rw [if_neg (by omega)]
  refine kasC_bind (kasC_get ?_)
  rw [show (pendingOf (kas_st κ it p')).back? = none from rfl]
  dsimp only
  refine kasC_bind (kasC_modify (kasC_pure ?_))
  show kasC _ _ _ (forIn (1 :: List.range' 2 r) _ _) _ _ _
  refine kasC_cons ?_
  dsimp only
  rw [if_pos (by omega)]
  refine kasC_pure ?_
  dsimp only
  refine kasC_bind (kasC_range ?_)
  show kasC _ _ _ (forIn (0 :: 1 :: List.range' 2 r) _ _) _ _ _
  refine kasC_cons ?_
  refine kasC_bind (kasC_get ?_)
  rw [if_pos (show (pendingOf (setPending (kas_st κ it p') ((pendingOf (kas_st κ it p')).push (0, r + 2, 0)))).size ≤ 1 from Nat.le_refl 1)]
  refine kasC_pure ?_
  dsimp only
  exact kasC_pure (hG p' _ _ (hp.trans hrs) rfl rfl hg)
section
variable {prog : Program} {w : World} {A : Around} {E : Value → Shared → Prop} {s : Shared} {D : Addr} {vs : List Value} {T : Value}
theorem srt_list {n : Nat} {P : PySem.Fin → Shared → Prop} (ho : s.heap.get? D = some (seqObj "list" vs.toArray n)) (h2 : 2 ≤ vs.length) (h64 : vs.length ≤ 1000) {W : (Nat → Nat → (Bool → Shared → Prop) → Shared → Prop) → (Array Nat → Shared → Prop) → Shared → Prop} (hR : RunsBy prog w vs.length W)
    (hT : ∀ h', (∀ b o, b ≠ D → s.heap.get? b = some o → h'.get? b = some o) → ∀ v ∈ vs, Looks (model prog w) h' (typeOf v) T) (hT1 : (T != Value.type "tuple") = true) (hT2 : (T == T) = true)
    (h : ∀ e1 h', (∀ b o, b ≠ D → s.heap.get? b = some o → h'.get? b = some o) → h'.get? D = some (seqObj "list" #[] e1) →
      W (kas_ask prog w A oneType' vs) (fun p s' => s'.heap.get? D = some (seqObj "list" #[] e1) ∧
        (p.size = vs.length → P (.done (.ret .none)) { s' with heap := s'.heap.update D (Obj.mapSeq fun _ => List.toArray (p.toList.map fun i => vs.getD i Value.none)) })) { s with heap := h' }) :
    wpAny (model prog w) A (Builtin.«list.sort» ⟨[.ref D], []⟩) P E s := by
  have hz : ((s.heap.update D (Obj.mapSeq fun _ => (#[] : Array Value))).push (seqObj "tuple" vs.toArray 0)).objs.size = (s.heap.update D (Obj.mapSeq fun _ => (#[] : Array Value))).objs.size + 1 := size_push' _ _
  obtain ⟨e1, ho1⟩ : ∃ e1, (s.heap.update D (Obj.mapSeq fun _ => (#[] : Array Value))).get? D = some (seqObj "list" #[] e1) := ⟨_, get?_update_seq ho fun _ => #[]⟩
  have keep : ∀ b o, b ≠ D → s.heap.get? b = some o → (((s.heap.update D (Obj.mapSeq fun _ => (#[] : Array Value))).push (seqObj "tuple" vs.toArray 0)).push (seqObj "list" #[] 0)).get? b = some o := fun b o hb e =>
    Heap.get?_push_of_some _ (Heap.get?_push_of_some _ ((Heap.get?_update_other s.heap (Obj.mapSeq fun _ => (#[] : Array Value)) (Ne.symm hb)).trans e))
  have hD : (((s.heap.update D (Obj.mapSeq fun _ => (#[] : Array Value))).push (seqObj "tuple" vs.toArray 0)).push (seqObj "list" #[] 0)).get? D = some (seqObj "list" #[] e1) := Heap.get?_push_of_some _ (Heap.get?_push_of_some _ ho1)
  have ask := h e1 _ keep hD
  rw [kas_ask_eq] at ask
  rw [list_sort_plain]
  refine wpAny_bind (listItems_at ho rfl ?_)
  refine wpAny_bind (listUpdate_at ho rfl ?_ (by rw [List.size_toArray, sizeLine_eq]; omega) (Nat.zero_le _))
  refine wpAny_bind (seqEpoch_at ho1 rfl ?_)
  refine wpAny_bind (wpAny_newTuple ?_ (by show vs.length ≤ _; rw [sizeLine_eq]; omega))
  refine wpAny_bind (wpAny_newList ?_ (Nat.zero_le _))
  refine wpAny_holding ?_
  show wpAny (model prog w) A _ P E { s with heap := ((s.heap.update D (Obj.mapSeq fun _ => (#[] : Array Value))).push (seqObj "tuple" vs.toArray 0)).push (seqObj "list" #[] 0) }
  dsimp only
  have hn2 : ¬ vs.toArray.size < 2 := by rw [List.size_toArray]; omega
  rw [if_neg hn2, if_neg hn2]
  refine wpAny_bind (kas_kind h2 (hT _ keep) hT1 hT2 ?_)
  have est : SortSt.mk' oneType' (vs.toArray.zip vs.toArray) #[] 7 none = kas_st oneType' (pairsOf vs) (List.toArray (List.range vs.length)) := by
    have e := kas_range (pairsOf vs)
    rw [pairsOf_size] at e
    show SortSt.mk' oneType' (pairsOf vs) #[] 7 none = SortSt.mk' oneType' ((List.toArray (List.range vs.length)).map (kas_item (pairsOf vs))) #[] 7 none
    rw [e]
  have run := hR.run A E _ _ (Q := fun _ st' s' => ∃ p : Array Nat, p.size = vs.length ∧ arrOf st' = p.map (kas_item (pairsOf vs)) ∧ failedOf st' = none ∧ s'.heap.get? D = some (seqObj "list" #[] e1) ∧
      (p.size = vs.length → P (.done (.ret .none)) { s' with heap := s'.heap.update D (Obj.mapSeq fun _ => List.toArray (p.toList.map fun i => vs.getD i Value.none)) }))
    _ _ (fun p' st' s' a1 a2 a3 a4 => ⟨p', a1, a2, a3, a4⟩) ask
  rw [← est] at run
  refine wpAny_bind (wpAny_mono run ?_ fun _ _ e => e)
  rintro ⟨⟨⟩, st'⟩ s' ⟨p, hp, har, hf, hD', k⟩
  dsimp only
  have hout : (arrOf st').map (·.2) = List.toArray (p.toList.map fun i => vs.getD i Value.none) := by
    apply Array.toList_inj.mp
    rw [har, Array.map_map, Array.toList_map]
    exact List.map_congr_left fun i _ => by show (kas_item (pairsOf vs) i).2 = _; rw [kas_item_eq]
  have hsz : (List.toArray (p.toList.map fun i => vs.getD i Value.none)).size = vs.length := by rw [List.size_toArray, List.length_map, Array.length_toList, hp]
  rw [hout]
  refine wpAny_bind (seqEpoch_at hD' rfl ?_)
  refine wpAny_bind (listUpdate_at hD' rfl ?_ (Nat.zero_le _) (Nat.le_trans (Nat.le_of_eq hsz) (by rw [sizeLine_eq]; omega)))
  rw [hf]
  simp only [bne_self_eq_false, Bool.false_eq_true, if_false]
  exact wpAny_pure (k hp)
theorem srt_sorted {l : Addr} {Q : Value → Shared → Prop} (hl : s.heap.IsList l vs.toArray) (h2 : 2 ≤ vs.length) (h64 : vs.length ≤ 1000) {W : (Nat → Nat → (Bool → Shared → Prop) → Shared → Prop) → (Array Nat → Shared → Prop) → Shared → Prop} (hR : RunsBy prog w vs.length W)
    (hT : ∀ h', (∀ b o, s.heap.get? b = some o → h'.get? b = some o) → ∀ v ∈ vs, Looks (model prog w) h' (typeOf v) T) (hT1 : (T != Value.type "tuple") = true) (hT2 : (T == T) = true)
    (h : ∀ D e1 h', s.heap.objs.size ≤ D → (∀ b o, s.heap.get? b = some o → h'.get? b = some o) → h'.get? D = some (seqObj "list" #[] e1) →
      W (kas_ask prog w A.in1.in1 oneType' vs) (fun p s' => s'.heap.get? D = some (seqObj "list" #[] e1) ∧
        (p.size = vs.length → Q (.ref D) { s' with heap := s'.heap.update D (Obj.mapSeq fun _ => List.toArray (p.toList.map fun i => vs.getD i Value.none)) })) { s with heap := h' }) :
    wpAny (model prog w) A (call (.builtin "sorted") [.ref l]) Q E s := by
  refine Calls.call_function_entry kind_sorted plain_sorted entry_sorted (args_sorted1 _) ?_
  unfold Builtin.«sorted»
  refine wpAny_bind (m := checkCount "sorted" 1 1 _) (wpAny_pure ?_)
  refine wpAny_bind (collect_list hl ?_ (by rw [sizeLine_eq]; omega))
  refine wpAny_bind (wpAny_newList ?_ (by rw [sizeLine_eq]; omega))
  have hsz : ((s.heap.push (seqObj "list" #[] 0)).update s.heap.objs.size (Obj.mapSeq (· ++ vs.toArray))).objs.size = s.heap.objs.size + 1 := by
    rw [Heap.size_update, size_push']
  have hoL : (((s.heap.push (seqObj "list" #[] 0)).update s.heap.objs.size (Obj.mapSeq (· ++ vs.toArray))).push (seqObj "list" vs.toArray 0)).get? (s.heap.objs.size + 1) = some (seqObj "list" vs.toArray 0) := by
    rw [← hsz]; exact Heap.get?_push_size _ rfl
  have keep : ∀ b o, s.heap.get? b = some o → (((s.heap.push (seqObj "list" #[] 0)).update s.heap.objs.size (Obj.mapSeq (· ++ vs.toArray))).push (seqObj "list" vs.toArray 0)).get? b = some o := fun b o q => by
    have hlt : b < s.heap.objs.size := Heap.lt_size q
    rw [Heap.get?_push_ne _ _ _ (by rw [hsz]; exact Nat.ne_of_lt (Nat.lt_succ_of_lt hlt)), Heap.get?_update_ne _ _ _ _ (Nat.ne_of_lt hlt), Heap.get?_push_ne _ _ _ (Nat.ne_of_lt hlt)]
    exact q
  have neD : ∀ b o, s.heap.get? b = some o → b ≠ s.heap.objs.size + 1 := fun b o q => Nat.ne_of_lt (Nat.lt_succ_of_lt (Heap.lt_size q))
  show wpAny _ _ _ _ _ { s with heap := ((s.heap.push (seqObj "list" #[] 0)).update s.heap.objs.size (Obj.mapSeq (· ++ vs.toArray))).push (seqObj "list" vs.toArray 0) }
  rw [hsz]
  refine wpAny_bind (wpAny_holding (wpAny_call_entry slot_list_sort ⟨_, hoL, rfl⟩ entry_list_sort ?body (args_list_sort _)))
  case body =>
    refine srt_list (s := { s with heap := ((s.heap.push (seqObj "list" #[] 0)).update s.heap.objs.size (Obj.mapSeq (· ++ vs.toArray))).push (seqObj "list" vs.toArray 0) }) hoL h2 h64 hR
      (fun h' k => hT h' fun b o q => k b o (neD b o q) (keep b o q)) hT1 hT2 fun e1 h' k hD => ?_
    have ask := h (s.heap.objs.size + 1) e1 h' (Nat.le_succ _) (fun b o q => k b o (neD b o q) (keep b o q)) hD
    rw [kas_ask_eq] at ask ⊢
    exact hR.mono _ _ _ _ _ _ (fun p s' ⟨k1, k2⟩ => ⟨k1, fun k3 => ⟨_, rfl, wpAny_pure ⟨_, rfl, k2 k3⟩⟩⟩) ask
end
end Lw
/-! a run has one end; so two things that are known of one run meet -/
namespace Lw
open PySem PySem.W PyProof.Rows
theorem runs_det {M : Model} {Γ : Ctx} {p : Pos} {t : Sem PySem.Fin} {fs : List Frame} {s s' : Shared} {e : End} (h : Runs M Γ p t fs s e s') : ∀ {e2 : End} {s2 : Shared}, Runs M Γ p t fs s e2 s2 → e = e2 ∧ s' = s2 := by
  induction h with
  | done => intro e2 s2 h2; cases h2; exact ⟨rfl, rfl⟩
  | raise => intro e2 s2 h2; cases h2; exact ⟨rfl, rfl⟩
  | again _ _ ih => intro e2 s2 h2; cases h2 with | again _ h => exact ih h
  | rule _ ih => intro e2 s2 h2; cases h2 with | rule h => exact ih h
  | «at» _ ih => intro e2 s2 h2; cases h2 with | «at» h => exact ih h
  | load e1 _ ih => intro e2 s2 h2; cases h2 with | load e' h => rw [e1] at e'; cases e'; exact ih h
  | update _ _ ih => intro e2 s2 h2; cases h2 with | update _ h => exact ih h
  | loadIfAlive _ ih => intro e2 s2 h2; cases h2 with | loadIfAlive h => exact ih h
  | point _ ih => intro e2 s2 h2; cases h2 with | point h => exact ih h
  | alloc _ ih => intro e2 s2 h2; cases h2 with | alloc h => exact ih h
  | fresh _ ih => intro e2 s2 h2; cases h2 with | fresh h => exact ih h
  | ask _ ih => intro e2 s2 h2; cases h2 with | ask h => exact ih h
  | choose _ _ ih => intro e2 s2 h2; cases h2 with | choose _ h => exact ih h
  | os _ ih => intro e2 s2 h2; cases h2 with | os h => exact ih h
  | handled _ ih => intro e2 s2 h2; cases h2 with | handled h => exact ih h
  | genState e1 _ ih => intro e2 s2 h2; cases h2 with | genState e' h => rw [e1] at e'; cases e'; exact ih h
  | stack _ ih => intro e2 s2 h2; cases h2 with | stack h => exact ih h
  | thread _ ih => intro e2 s2 h2; cases h2 with | thread h => exact ih h
  | newGen _ ih => intro e2 s2 h2; cases h2 with | newGen h => exact ih h
  | call _ _ ih1 ih2 =>
    intro e2 s2 h2
    cases h2 with
    | call a b => obtain ⟨z, rfl⟩ := ih1 a; cases z; exact ih2 b
    | callSusp a => obtain ⟨z, _⟩ := ih1 a; cases z
  | callSusp _ ih1 =>
    intro e2 s2 h2
    cases h2 with
    | call a b => obtain ⟨z, _⟩ := ih1 a; cases z
    | callSusp a => obtain ⟨z, rfl⟩ := ih1 a; cases z; exact ⟨rfl, rfl⟩
  | yield => intro e2 s2 h2; cases h2; exact ⟨rfl, rfl⟩
  | resumeFresh e1 _ _ _ ih1 ih2 =>
    intro e2 s2 h2
    cases h2 with
    | resumeFresh e' a _ b => rw [e1] at e'; cases e'; obtain ⟨rfl, rfl⟩ := ih1 a; exact ih2 b
    | resumeSuspended e' => rw [e1] at e'; cases e'
    | resumeJustStarted e' n => exact absurd rfl n
    | resumeRunning e' => rw [e1] at e'; cases e'
    | resumeFinished e' => rw [e1] at e'; cases e'
  | resumeSuspended e1 _ _ _ ih1 ih2 =>
    intro e2 s2 h2
    cases h2 with
    | resumeFresh e' => rw [e1] at e'; cases e'
    | resumeSuspended e' a _ b => rw [e1] at e'; cases e'; obtain ⟨rfl, rfl⟩ := ih1 a; exact ih2 b
    | resumeJustStarted e' n => rw [e1] at e'; cases e'
    | resumeThrowFresh e' => rw [e1] at e'; cases e'
    | resumeRunning e' => rw [e1] at e'; cases e'
    | resumeFinished e' => rw [e1] at e'; cases e'
  | resumeJustStarted e1 n _ ih =>
    intro e2 s2 h2
    cases h2 with
    | resumeFresh => exact absurd rfl n
    | resumeSuspended e' => rw [e1] at e'; cases e'
    | resumeJustStarted _ _ b => exact ih b
    | resumeRunning e' => rw [e1] at e'; cases e'
    | resumeFinished e' => rw [e1] at e'; cases e'
  | resumeThrowFresh e1 _ ih =>
    intro e2 s2 h2
    cases h2 with
    | resumeSuspended e' => rw [e1] at e'; cases e'
    | resumeThrowFresh _ b => exact ih b
    | resumeRunning e' => rw [e1] at e'; cases e'
    | resumeFinished e' => rw [e1] at e'; cases e'
  | resumeRunning e1 _ ih =>
    intro e2 s2 h2
    cases h2 with
    | resumeFresh e' => rw [e1] at e'; cases e'
    | resumeSuspended e' => rw [e1] at e'; cases e'
    | resumeJustStarted e' => rw [e1] at e'; cases e'
    | resumeThrowFresh e' => rw [e1] at e'; cases e'
    | resumeRunning _ b => exact ih b
    | resumeFinished e' => rw [e1] at e'; cases e'
  | resumeFinished e1 _ ih =>
    intro e2 s2 h2
    cases h2 with
    | resumeFresh e' => rw [e1] at e'; cases e'
    | resumeSuspended e' => rw [e1] at e'; cases e'
    | resumeJustStarted e' => rw [e1] at e'; cases e'
    | resumeThrowFresh e' => rw [e1] at e'; cases e'
    | resumeRunning e' => rw [e1] at e'; cases e'
    | resumeFinished _ b => exact ih b
  | segRet _ _ ih1 ih2 =>
    intro e2 s2 h2
    cases h2 with
    | segRet a b => obtain ⟨z, rfl⟩ := ih1 a; cases z; exact ih2 b
    | segSuspOut _ a => obtain ⟨z, _⟩ := ih1 a; cases z
    | segSuspGen _ a => obtain ⟨z, _⟩ := ih1 a; cases z
  | segGen _ _ ih1 ih2 =>
    intro e2 s2 h2
    cases h2 with
    | segGen a b => obtain ⟨z, rfl⟩ := ih1 a; cases z; exact ih2 b
    | segSuspOut _ a => obtain ⟨z, _⟩ := ih1 a; cases z
    | segSuspGen _ a => obtain ⟨z, _⟩ := ih1 a; cases z
  | segSuspOut e1 _ ih1 =>
    intro e2 s2 h2
    cases h2 with
    | segRet a b => obtain ⟨z, _⟩ := ih1 a; cases z
    | segGen a b => obtain ⟨z, _⟩ := ih1 a; cases z
    | segSuspOut _ a => obtain ⟨z, rfl⟩ := ih1 a; cases z; exact ⟨rfl, rfl⟩
    | segSuspGen e' => rw [e1] at e'; cases e'
  | segSuspGen e1 _ _ _ ih1 ih2 =>
    intro e2 s2 h2
    cases h2 with
    | segRet a b => obtain ⟨z, _⟩ := ih1 a; cases z
    | segGen a b => obtain ⟨z, _⟩ := ih1 a; cases z
    | segSuspOut e' => rw [e1] at e'; cases e'
    | segSuspGen e' a _ b => rw [e1] at e'; cases e'; obtain ⟨z, rfl⟩ := ih1 a; cases z; exact ih2 b
theorem wakes_det {M : Model} {Γ : Ctx} {p : Pos} {g : Nat} {r : Resume} {s : Shared} {x y : GenResult} {s1 s2 : Shared} (h1 : Wakes M Γ p g r s x s1) (h2 : Wakes M Γ p g r s y s2) : x = y ∧ s1 = s2 := by
  unfold Wakes at h1 h2
  cases hg : s.gens[g]? with
  | none => rw [hg] at h1; exact h1.elim
  | some u =>
    rw [hg] at h1 h2
    cases u with
    | fresh c =>
      dsimp only at h1 h2
      split at h1
      · obtain ⟨e1, t1, a1, b1, rfl, rfl⟩ := h1
        obtain ⟨e2, t2, a2, b2, rfl, rfl⟩ := h2
        obtain ⟨rfl, rfl⟩ := runs_det a1 a2
        exact ⟨rfl, rfl⟩
      · split at h2
        · simp_all
        · obtain ⟨rfl, rfl⟩ := h1
          obtain ⟨rfl, rfl⟩ := h2
          exact ⟨rfl, rfl⟩
        · rename_i q; cases q
      · obtain ⟨rfl, rfl⟩ := h1
        obtain ⟨rfl, rfl⟩ := h2
        exact ⟨rfl, rfl⟩
    | suspended k₀ l c₀ p₀ fs cl =>
      obtain ⟨e1, t1, a1, b1, rfl, rfl⟩ := h1
      obtain ⟨e2, t2, a2, b2, rfl, rfl⟩ := h2
      obtain ⟨rfl, rfl⟩ := runs_det a1 a2
      exact ⟨rfl, rfl⟩
    | running =>
      obtain ⟨rfl, rfl⟩ := h1
      obtain ⟨rfl, rfl⟩ := h2
      exact ⟨rfl, rfl⟩
    | finished =>
      obtain ⟨rfl, rfl⟩ := h1
      obtain ⟨rfl, rfl⟩ := h2
      exact ⟨rfl, rfl⟩
theorem wp_meet {M : Model} {Γ : Ctx} {α : Type} {Q Q' : α → Pos → Shared → Prop} {E E' : Value → Pos → Shared → Prop} : ∀ (t : Sem α) (p : Pos) (s : Shared), Sem.wp M Γ t Q E p s → Sem.wp M Γ t Q' E' p s →
    (∃ a p' s', Q a p' s' ∧ Q' a p' s') ∨ (∃ e p' s', E e p' s' ∧ E' e p' s') := by
  intro t
  induction t with
  | pure a => intro p s h1 h2; exact .inl ⟨_, _, _, h1, h2⟩
  | raise e => intro p s h1 h2; exact .inr ⟨_, _, _, h1, h2⟩
  | unsupported _ => intro p s h1 h2; exact h1.elim
  | finish _ => intro p s h1 h2; exact h1.elim
  | rule _ k ih => intro p s h1 h2; exact ih () _ _ h1 h2
  | «at» _ k ih => intro p s h1 h2; exact ih () _ _ h1 h2
  | load a _ k ih => intro p s h1 h2; obtain ⟨o, e, h1⟩ := h1; obtain ⟨o', e', h2⟩ := h2; rw [e] at e'; cases e'; exact ih _ _ _ h1 h2
  | update a _ f k ih => intro p s h1 h2; exact ih () _ _ h1.2 h2.2
  | alloc o k ih => intro p s h1 h2; exact ih _ _ _ h1 h2
  | loadIfAlive a k ih => intro p s h1 h2; exact ih _ _ _ h1 h2
  | point l k ih => intro p s h1 h2; exact ih () _ _ h1 h2
  | register a k ih => intro p s h1 h2; exact h1.elim
  | fresh k ih => intro p s h1 h2; exact ih _ _ _ h1 h2
  | ask k ih => intro p s h1 h2; exact ih _ _ _ h1 h2
  | choose src n k ih => intro p s h1 h2; exact ih _ _ _ h1.2 h2.2
  | os q l k ih => intro p s h1 h2; exact ih _ _ _ h1 h2
  | call c h g l k ih =>
    intro p s h1 h2
    obtain ⟨r, s1, a1, h1⟩ := h1
    obtain ⟨r', s1', a2, h2⟩ := h2
    obtain ⟨z, rfl⟩ := runs_det a1 a2
    cases z
    exact ih _ _ _ h1 h2
  | handled own k ih => intro p s h1 h2; exact ih _ _ _ h1 h2
  | newGen c k ih => intro p s h1 h2; exact ih _ _ _ h1 h2
  | genState g k ih => intro p s h1 h2; obtain ⟨o, e, h1⟩ := h1; obtain ⟨o', e', h2⟩ := h2; rw [e] at e'; cases e'; exact ih _ _ _ h1 h2
  | resume g r l k ih =>
    intro p s h1 h2
    obtain ⟨x, s1, a1, h1⟩ := h1
    obtain ⟨y, s1', a2, h2⟩ := h2
    obtain ⟨rfl, rfl⟩ := wakes_det a1 a2
    exact ih _ _ _ h1 h2
  | yield v g l k ih => intro p s h1 h2; exact h1.elim
  | stack k ih => intro p s h1 h2; exact ih _ _ _ h1 h2
  | fork c k ih => intro p s h1 h2; exact h1.elim
  | thread k ih => intro p s h1 h2; exact ih _ _ _ h1 h2
  | await a f d l k ih => intro p s h1 h2; exact h1.elim
end Lw
/-! the sort's program on two rows of like order goes the same way: what a sort of whole numbers does, a sort by a comparison with state does -/
namespace Lw
open PySem PySem.W PyProof.Rows
/-- two sorts side by side: items it1 by a comparison that keeps I, items it2 by one that leaves the state s0 -/
structure Ct where
  ι : Type
  M : Model
  Γ : Ctx
  s0 : Shared
  I : Shared → Prop
  E : Value → Shared → Prop
  κ1 : SortKind
  κ2 : SortKind
  it1 : ι → Keyed
  it2 : ι → Keyed
class Rl (α : Type) where
  r : Ct → α → α → Prop
class RlEq (α : Type) [Rl α] : Prop where
  eq : ∀ (c : Ct) (a b : α), Rl.r c a b → a = b
  rf : ∀ (c : Ct) (a : α), Rl.r c a a
instance : Rl Nat := ⟨fun _ a b => a = b⟩
instance : Rl Bool := ⟨fun _ a b => a = b⟩
instance : Rl PUnit := ⟨fun _ a b => a = b⟩
instance : RlEq Nat := ⟨fun _ _ _ h => h, fun _ _ => rfl⟩
instance : RlEq Bool := ⟨fun _ _ _ h => h, fun _ _ => rfl⟩
instance : RlEq PUnit := ⟨fun _ _ _ h => h, fun _ _ => rfl⟩
instance (priority := 2000) rlKeyed : Rl Keyed := ⟨fun c a b => ∃ i, a = c.it1 i ∧ b = c.it2 i⟩
instance rlArr : Rl (Array Keyed) := ⟨fun c a b => ∃ p : Array c.ι, a = p.map c.it1 ∧ b = p.map c.it2⟩
instance {α : Type} [Rl α] : Rl (Option α) := ⟨fun c a b => match a, b with | none, none => True | some x, some y => Rl.r c x y | _, _ => False⟩
instance {α : Type} [Rl α] [RlEq α] : RlEq (Option α) := ⟨fun c a b h => by
  match a, b, h with
  | none, none, _ => rfl
  | some x, some y, h => exact congrArg some (RlEq.eq c x y h), fun c a => by
  match a with
  | none => trivial
  | some x => exact RlEq.rf c x⟩
instance {α β : Type} [Rl α] [Rl β] : Rl (α × β) := ⟨fun c a b => Rl.r c a.1 b.1 ∧ Rl.r c a.2 b.2⟩
instance {α β : Type} [Rl α] [Rl β] [RlEq α] [RlEq β] : RlEq (α × β) := ⟨fun c a b h => Prod.ext (RlEq.eq c _ _ h.1) (RlEq.eq c _ _ h.2), fun c a => ⟨RlEq.rf c _, RlEq.rf c _⟩⟩
instance {α β : Type} [Rl α] [Rl β] : Rl (MProd α β) := ⟨fun c a b => Rl.r c a.1 b.1 ∧ Rl.r c a.2 b.2⟩
instance {α β : Type} [Rl α] [Rl β] [RlEq α] [RlEq β] : RlEq (MProd α β) := ⟨fun c a b h => by
  obtain ⟨a1, a2⟩ := a
  obtain ⟨b1, b2⟩ := b
  have h1 := RlEq.eq c _ _ h.1
  have h2 := RlEq.eq c _ _ h.2
  dsimp only at h1 h2
  rw [h1, h2], fun c a => ⟨RlEq.rf c _, RlEq.rf c _⟩⟩
instance {α : Type} [Rl α] : Rl (ForInStep α) := ⟨fun c a b => match a, b with | .done x, .done y => Rl.r c x y | .yield x, .yield y => Rl.r c x y | _, _ => False⟩
instance {α : Type} [Rl α] [RlEq α] : RlEq (ForInStep α) := ⟨fun c a b h => by
  match a, b, h with
  | .done x, .done y, h => exact congrArg _ (RlEq.eq c x y h)
  | .yield x, .yield y, h => exact congrArg _ (RlEq.eq c x y h), fun c a => by
  match a with
  | .done x => exact RlEq.rf c x
  | .yield x => exact RlEq.rf c x⟩
instance rlSt : Rl SortSt := ⟨fun c a b => ∃ (p : Array c.ι) (pe : Array (Nat × Nat × Nat)) (g : Nat), a = SortSt.mk' c.κ1 (p.map c.it1) pe g none ∧ b = SortSt.mk' c.κ2 (p.map c.it2) pe g none⟩
def Tr (c : Ct) {α : Type} [Rl α] (m1 m2 : StateT SortSt Sem α) : Prop :=
  ∀ st1 st2, Rl.r c st1 st2 → ∀ (Q : α → SortSt → Pos → Shared → Prop) (p2 : Pos), Sem.wp c.M c.Γ (m2.run st2) (fun r p' s' => Q r.1 r.2 p' s') (fun _ _ _ => False) p2 c.s0 →
    ∀ (p1 : Pos) (s1 : Shared), c.I s1 → Sem.wp c.M c.Γ (m1.run st1) (fun r _ s' => c.I s' ∧ ∃ a2 st2' p2', Rl.r c r.1 a2 ∧ Rl.r c r.2 st2' ∧ Q a2 st2' p2' c.s0) (fun e _ s' => c.E e s') p1 s1
section
variable {c : Ct} {α β : Type} [Rl α] [Rl β]
theorem tr_pure {a b : α} (h : Rl.r c a b) : Tr c (pure a) (pure b) := by
  intro st1 st2 hst Q p2 w p1 s1 hi
  rw [StateT.run_pure] at w ⊢
  exact ⟨hi, _, _, _, h, hst, w⟩
theorem tr_bind {m1 m2 : StateT SortSt Sem α} {f1 f2 : α → StateT SortSt Sem β} (h : Tr c m1 m2) (k : ∀ a b, Rl.r c a b → Tr c (f1 a) (f2 b)) : Tr c (m1 >>= f1) (m2 >>= f2) := by
  intro st1 st2 hst Q p2 w p1 s1 hi
  rw [StateT.run_bind] at w ⊢
  rw [Sem.wp_bind'] at w ⊢
  refine Sem.wp_mono _ _ _ (fun r p' s' hq => ?_) (fun _ _ _ e => e) _ _ (h st1 st2 hst (fun a st p s => Sem.wp c.M c.Γ ((f2 a).run st) (fun r p' s' => Q r.1 r.2 p' s') (fun _ _ _ => False) p s) p2 w p1 s1 hi)
  obtain ⟨hi', a2, st2', p2', ha, hs, w'⟩ := hq
  exact k _ _ ha _ _ hs Q p2' w' p' s' hi'
theorem tr_bindE [RlEq α] {m1 m2 : StateT SortSt Sem α} {f1 f2 : α → StateT SortSt Sem β} (h : Tr c m1 m2) (k : ∀ a, Tr c (f1 a) (f2 a)) : Tr c (m1 >>= f1) (m2 >>= f2) :=
  tr_bind h fun a b e => by rw [RlEq.eq c a b e]; exact k b
theorem tr_get : Tr c (get : StateT SortSt Sem SortSt) get := by
  intro st1 st2 hst Q p2 w p1 s1 hi
  rw [StateT.run_get] at w ⊢
  exact ⟨hi, _, _, _, hst, hst, w⟩
theorem tr_modify {f1 f2 : SortSt → SortSt} (h : ∀ a b, Rl.r c a b → Rl.r c (f1 a) (f2 b)) : Tr c (modify f1 : StateT SortSt Sem PUnit) (modify f2) := by
  intro st1 st2 hst Q p2 w p1 s1 hi
  rw [StateT.run_modify] at w ⊢
  exact ⟨hi, _, _, _, rfl, h _ _ hst, w⟩
theorem tr_set {t1 t2 : SortSt} (h : Rl.r c t1 t2) : Tr c (set t1 : StateT SortSt Sem PUnit) (set t2) := by
  intro st1 st2 hst Q p2 w p1 s1 hi
  rw [StateT.run_set] at w ⊢
  exact ⟨hi, _, _, _, rfl, h, w⟩
theorem tr_rule {t : String} {f1 f2 : PUnit → StateT SortSt Sem β} (k : Tr c (f1 ⟨⟩) (f2 ⟨⟩)) : Tr c ((liftM (rule t) : StateT SortSt Sem PUnit) >>= f1) ((liftM (rule t) : StateT SortSt Sem PUnit) >>= f2) := by
  refine tr_bindE (α := PUnit) ?_ fun ⟨⟩ => k
  intro st1 st2 hst Q p2 w p1 s1 hi
  change Sem.wp _ _ ((StateT.lift (rule t) : StateT SortSt Sem PUnit).run st2) _ _ _ _ at w
  show Sem.wp _ _ ((StateT.lift (rule t) : StateT SortSt Sem PUnit).run st1) _ _ _ _
  rw [StateT.run_lift, Sem.wp_bind'] at w ⊢
  exact ⟨hi, _, _, _, rfl, hst, w⟩
theorem tr_unsup {m1 : StateT SortSt Sem α} {t : String} : Tr c m1 (liftM (unsupported t : Sem α)) := by
  intro st1 st2 hst Q p2 w p1 s1 hi
  change Sem.wp _ _ ((StateT.lift (unsupported t) : StateT SortSt Sem α).run st2) _ _ _ _ at w
  rw [StateT.run_lift, Sem.wp_bind'] at w
  exact w.elim
theorem tr_forL {f1 f2 : Nat → β → StateT SortSt Sem (ForInStep β)} (h : ∀ x b1 b2, Rl.r c b1 b2 → Tr c (f1 x b1) (f2 x b2)) : ∀ (l : List Nat) (b1 b2 : β), Rl.r c b1 b2 → Tr c (forIn l b1 f1) (forIn l b2 f2)
  | [], b1, b2, hb => by rw [List.forIn_nil, List.forIn_nil]; exact tr_pure hb
  | x :: l, b1, b2, hb => by
    rw [List.forIn_cons, List.forIn_cons]
    refine tr_bind (h x b1 b2 hb) fun a b hab => ?_
    match a, b, hab with
    | .done a, .done b, hab => exact tr_pure hab
    | .yield a, .yield b, hab => exact tr_forL h l a b hab
theorem tr_for {f1 f2 : Nat → β → StateT SortSt Sem (ForInStep β)} {i j : Nat} {b1 b2 : β} (hb : Rl.r c b1 b2) (h : ∀ x b1 b2, Rl.r c b1 b2 → Tr c (f1 x b1) (f2 x b2)) : Tr c (forIn [i:j] b1 f1) (forIn [i:j] b2 f2) := by
  rw [Std.Legacy.Range.forIn_eq_forIn_range', Std.Legacy.Range.forIn_eq_forIn_range']
  exact tr_forL h _ _ _ hb
theorem tr_forE [RlEq β] {f1 f2 : Nat → β → StateT SortSt Sem (ForInStep β)} {i j : Nat} {b : β} (h : ∀ x b, Tr c (f1 x b) (f2 x b)) : Tr c (forIn [i:j] b f1) (forIn [i:j] b f2) :=
  tr_for (RlEq.rf c b) fun x b1 b2 hb => by rw [RlEq.eq c b1 b2 hb]; exact h x b2
theorem tr_ite {p : Prop} [Decidable p] {a1 a2 b1 b2 : StateT SortSt Sem α} (h1 : p → Tr c a1 a2) (h2 : ¬p → Tr c b1 b2) : Tr c (if p then a1 else b1) (if p then a2 else b2) := by
  by_cases h : p
  · rw [if_pos h, if_pos h]; exact h1 h
  · rw [if_neg h, if_neg h]; exact h2 h
theorem tr_elem {p : Array c.ι} {i : Nat} : Tr c (elem' (p.map c.it1) i) (elem' (p.map c.it2) i) := by
  rw [elem'_eq, elem'_eq, Array.getElem?_map, Array.getElem?_map]
  cases p[i]? with
  | none => exact tr_unsup
  | some x => exact tr_pure ⟨x, rfl, rfl⟩
/-- the comparisons: lt on both sides -/
structure CtOk (c : Ct) (lt : c.ι → c.ι → Bool) : Prop where
  h1 : ∀ i j s p, c.I s → Sem.wp c.M c.Γ (keyLt' c.κ1 (c.it1 i).1 (c.it1 j).1) (fun b _ s' => b = lt i j ∧ c.I s') (fun _ _ _ => False) p s
  h2 : ∀ i j p, Sem.wp c.M c.Γ (keyLt' c.κ2 (c.it2 i).1 (c.it2 j).1) (fun b _ s' => b = lt i j ∧ s' = c.s0) (fun _ _ _ => False) p c.s0
theorem tr_lt {lt : c.ι → c.ι → Bool} (O : CtOk c lt) {i j : c.ι} : Tr c (lt' (c.it1 i) (c.it1 j)) (lt' (c.it2 i) (c.it2 j)) := by
  rw [lt'_eq, lt'_eq]
  refine tr_bind tr_get ?_
  rintro a b ⟨p, pe, g, rfl, rfl⟩
  intro st1 st2 hst Q p2 w p1 s1 hi
  rw [StateT.run_bind, Sem.wp_bind'] at w ⊢
  change Sem.wp _ _ ((StateT.lift (Sem.attempt (keyLt' c.κ2 (c.it2 i).1 (c.it2 j).1)) : StateT SortSt Sem _).run st2) _ _ _ _ at w
  show Sem.wp _ _ ((StateT.lift (Sem.attempt (keyLt' c.κ1 (c.it1 i).1 (c.it1 j).1)) : StateT SortSt Sem _).run st1) _ _ _ _
  rw [StateT.run_lift, Sem.wp_bind', Sem.wp_attempt] at w ⊢
  rcases wp_meet _ _ _ (O.h2 i j p2) w with ⟨b, p', s', ⟨rfl, rfl⟩, w⟩ | ⟨_, _, _, z, _⟩
  · refine Sem.wp_mono _ _ _ (fun b p'' s'' hb => ?_) (fun _ _ _ e => e.elim) _ _ (O.h1 i j s1 p1 hi)
    obtain ⟨rfl, hi'⟩ := hb
    exact ⟨hi', some (lt i j), st2, p', rfl, hst, w⟩
  · exact z.elim
end
end Lw
namespace Lw
open PySem PySem.W PyProof.Rows
local macro_rules | `(tactic| walk_at "trgo") => `(tactic| repeat' (first
  | exact tr_unsup
  | exact tr_pure (RlEq.rf _ _)
  | with_reducible refine tr_ite (fun _ => ?_) (fun _ => ?_)
  | walk_at "trcall"
  | with_reducible refine tr_bindE (tr_forE fun x b => ?_) fun r => ?_
  | split
  | dsimp only))
section
variable {c : Ct} {lt : c.ι → c.ι → Bool} (O : CtOk c lt)
include O
theorem tr_beyond {left : Bool} {k : c.ι} {p : Array c.ι} {base i : Nat} : Tr c (beyond' left (c.it1 k) (p.map c.it1) base i) (beyond' left (c.it2 k) (p.map c.it2) base i) := by
  unfold beyond'
  refine tr_bind tr_elem ?_
  rintro _ _ ⟨x, rfl, rfl⟩
  refine tr_ite (fun _ => tr_lt O) fun _ => ?_
  exact tr_bindE (tr_lt O) fun b => tr_pure (RlEq.rf c _)
local macro_rules | `(tactic| walk_at "trcall") => `(tactic| with_reducible refine tr_bindE (tr_beyond (by assumption)) fun b => ?_)
theorem tr_gallop {left : Bool} {k : c.ι} {p : Array c.ι} {base n hint : Nat} : Tr c (gallop' left (c.it1 k) (p.map c.it1) base n hint) (gallop' left (c.it2 k) (p.map c.it2) base n hint) := by
  rw [gallop'_eq, gallop'_eq]
  walk_at "trgo"
theorem tr_ltAt {i j : Nat} : Tr c (ltAt' i j) (ltAt' i j) := by
  rw [ltAt'_eq]
  refine tr_bind tr_get ?_
  rintro a b ⟨p, pe, g, rfl, rfl⟩
  refine tr_bind (tr_elem (p := p)) ?_
  rintro _ _ ⟨x, rfl, rfl⟩
  refine tr_bind (tr_elem (p := p)) ?_
  rintro _ _ ⟨y, rfl, rfl⟩
  exact tr_lt O
omit O in
theorem tr_rev {i j : Nat} : Tr c (reverseSlice' i j) (reverseSlice' i j) := by
  rw [reverseSlice'_eq]
  refine tr_modify ?_
  rintro a b ⟨p, pe, g, rfl, rfl⟩
  refine ⟨mirror p i j ((j - i) / 2), pe, g, ?_, ?_⟩
  · exact congrArg (fun z => SortSt.mk' c.κ1 z pe g none) (kas_swaps_map c.it1 (fun k => i + k) (fun k => j - 1 - k) _ p)
  · exact congrArg (fun z => SortSt.mk' c.κ2 z pe g none) (kas_swaps_map c.it2 (fun k => i + k) (fun k => j - 1 - k) _ p)
omit O in
theorem tr_move {i j : Nat} : Tr c (moveDown' i j) (moveDown' i j) := by
  rw [moveDown'_eq]
  refine tr_modify ?_
  rintro a b ⟨p, pe, g, rfl, rfl⟩
  refine ⟨bubble p i (i - j), pe, g, ?_, ?_⟩
  · exact congrArg (fun z => SortSt.mk' c.κ1 z pe g none) (kas_swaps_map c.it1 (fun k => i - k) (fun k => i - k - 1) _ p)
  · exact congrArg (fun z => SortSt.mk' c.κ2 z pe g none) (kas_swaps_map c.it2 (fun k => i - k) (fun k => i - k - 1) _ p)
local macro_rules | `(tactic| walk_at "trcall") => `(tactic| first
  | with_reducible refine tr_bindE (tr_ltAt (by assumption)) fun b => ?_
  | with_reducible refine tr_bindE tr_rev fun b => ?_
  | with_reducible refine tr_bindE tr_move fun b => ?_
  | with_reducible refine tr_rule ?_)
theorem tr_count {lo nrem : Nat} : Tr c (countRun' lo nrem) (countRun' lo nrem) := by
  rw [countRun'_eq]
  walk_at "trgo"
theorem tr_bin {lo n ok : Nat} : Tr c (binarySort' lo n ok) (binarySort' lo n ok) := by
  rw [binarySort'_eq]
  walk_at "trgo"
end
end Lw
namespace Lw
open PySem PySem.W PyProof.Rows
section
variable {c : Ct} {α β : Type} [Rl α] [Rl β]
theorem rl_prod {a a' : α} {b b' : β} (h1 : Rl.r c a a') (h2 : Rl.r c b b') : Rl.r c (a, b) (a', b') := ⟨h1, h2⟩
theorem rl_done {a b : α} (h : Rl.r c a b) : Rl.r c (ForInStep.done a) (ForInStep.done b) := h
theorem rl_yield {a b : α} (h : Rl.r c a b) : Rl.r c (ForInStep.yield a) (ForInStep.yield b) := h
theorem rl_some {a b : α} (h : Rl.r c a b) : Rl.r c (some a) (some b) := h
theorem rl_none : Rl.r c (none : Option α) none := trivial
theorem ra_map {p : Array c.ι} : Rl.r c (p.map c.it1) (p.map c.it2) := ⟨p, rfl, rfl⟩
theorem ra_one {x : c.ι} : Rl.r c #[c.it1 x] #[c.it2 x] := ⟨#[x], by simp, by simp⟩
theorem ra_push {a b : Array Keyed} {x : c.ι} (h : Rl.r c a b) : Rl.r c (a.push (c.it1 x)) (b.push (c.it2 x)) := by
  obtain ⟨p, rfl, rfl⟩ := h
  exact ⟨p.push x, by rw [Array.map_push], by rw [Array.map_push]⟩
theorem ra_app {a b a' b' : Array Keyed} (h : Rl.r c a b) (h' : Rl.r c a' b') : Rl.r c (a ++ a') (b ++ b') := by
  obtain ⟨p, rfl, rfl⟩ := h
  obtain ⟨q, rfl, rfl⟩ := h'
  exact ⟨p ++ q, by rw [Array.map_append], by rw [Array.map_append]⟩
theorem ra_ext {a b : Array Keyed} {i j : Nat} (h : Rl.r c a b) : Rl.r c (a.extract i j) (b.extract i j) := by
  obtain ⟨p, rfl, rfl⟩ := h
  exact ⟨p.extract i j, by rw [Array.map_extract], by rw [Array.map_extract]⟩
theorem ra_rev {a b : Array Keyed} (h : Rl.r c a b) : Rl.r c a.reverse b.reverse := by
  obtain ⟨p, rfl, rfl⟩ := h
  exact ⟨p.reverse, by rw [Array.map_reverse], by rw [Array.map_reverse]⟩
theorem tr_elemB {p : Array c.ι} {i : Nat} {f1 f2 : Keyed → StateT SortSt Sem β} (k : ∀ x, Tr c (f1 (c.it1 x)) (f2 (c.it2 x))) : Tr c (elem' (p.map c.it1) i >>= f1) (elem' (p.map c.it2) i >>= f2) := by
  refine tr_bind tr_elem ?_
  rintro _ _ ⟨x, rfl, rfl⟩
  exact k x
theorem tr_gallopOf {f1 f2 : SortSt → StateT SortSt Sem β} (k : ∀ (p : Array c.ι) pe g, Tr c (f1 (SortSt.mk' c.κ1 (p.map c.it1) pe g none)) (f2 (SortSt.mk' c.κ2 (p.map c.it2) pe g none))) : Tr c (get >>= f1) (get >>= f2) := by
  refine tr_bind tr_get ?_
  rintro _ _ ⟨p, pe, g, rfl, rfl⟩
  exact k p pe g
theorem tr_setG {g : Nat} : Tr c (setMinGallop' g) (setMinGallop' g) := by
  rw [setMinGallop'_eq]
  refine tr_modify ?_
  rintro a b ⟨p, pe, g', rfl, rfl⟩
  exact ⟨p, pe, g, rfl, rfl⟩
theorem tr_forA {γ : Type} [Rl γ] [RlEq γ] {f1 f2 : Nat → (Option (Array Keyed) × Array Keyed × γ) → StateT SortSt Sem (ForInStep (Option (Array Keyed) × Array Keyed × γ))} {k1 k2 : (Option (Array Keyed) × Array Keyed × γ) → StateT SortSt Sem β} {i j : Nat}
    {o1 o2 : Array Keyed} {g : γ} (ho : Rl.r c o1 o2) (h : ∀ x r1 r2 (o : Array c.ι) (g : γ), Tr c (f1 x (r1, o.map c.it1, g)) (f2 x (r2, o.map c.it2, g)))
    (kn : ∀ (o : Array c.ι) (g : γ), Tr c (k1 (none, o.map c.it1, g)) (k2 (none, o.map c.it2, g))) (ks : ∀ (q o : Array c.ι) (g : γ), Tr c (k1 (some (q.map c.it1), o.map c.it1, g)) (k2 (some (q.map c.it2), o.map c.it2, g))) :
    Tr c (forIn [i:j] (none, o1, g) f1 >>= k1) (forIn [i:j] (none, o2, g) f2 >>= k2) := by
  refine tr_bind (tr_for (rl_prod rl_none (rl_prod ho (RlEq.rf c g))) fun x b1 b2 hb => ?_) fun b1 b2 hb => ?_
  · obtain ⟨r1, o1, g1⟩ := b1
    obtain ⟨r2, o2, g2⟩ := b2
    obtain ⟨_, ⟨o, e1, e2⟩, hg⟩ := hb
    obtain rfl : g1 = g2 := RlEq.eq c g1 g2 hg
    dsimp only at e1 e2
    subst e1 e2
    exact h x r1 r2 o g1
  · obtain ⟨r1, o1, g1⟩ := b1
    obtain ⟨r2, o2, g2⟩ := b2
    obtain ⟨hr, ⟨o, e1, e2⟩, hg⟩ := hb
    obtain rfl : g1 = g2 := RlEq.eq c g1 g2 hg
    dsimp only at e1 e2 hr
    subst e1 e2
    match r1, r2, hr with
    | none, none, _ => exact kn o g1
    | some a, some b, hr =>
      obtain ⟨q, rfl, rfl⟩ := hr
      exact ks q o g1
theorem tr_forB {γ : Type} [Rl γ] [RlEq γ] {f1 f2 : Nat → (Option (Array Keyed) × Nat × Nat × Array Keyed × γ) → StateT SortSt Sem (ForInStep (Option (Array Keyed) × Nat × Nat × Array Keyed × γ))} {k1 k2 : (Option (Array Keyed) × Nat × Nat × Array Keyed × γ) → StateT SortSt Sem β} {i j m n : Nat}
    {o1 o2 : Array Keyed} {g : γ} (ho : Rl.r c o1 o2) (h : ∀ x r1 r2 (m n : Nat) (o : Array c.ι) (g : γ), Tr c (f1 x (r1, m, n, o.map c.it1, g)) (f2 x (r2, m, n, o.map c.it2, g)))
    (kn : ∀ (m n : Nat) (o : Array c.ι) (g : γ), Tr c (k1 (none, m, n, o.map c.it1, g)) (k2 (none, m, n, o.map c.it2, g))) (ks : ∀ (q : Array c.ι) (m n : Nat) (o : Array c.ι) (g : γ), Tr c (k1 (some (q.map c.it1), m, n, o.map c.it1, g)) (k2 (some (q.map c.it2), m, n, o.map c.it2, g))) :
    Tr c (forIn [i:j] (none, m, n, o1, g) f1 >>= k1) (forIn [i:j] (none, m, n, o2, g) f2 >>= k2) := by
  refine tr_bind (tr_for (rl_prod rl_none (rl_prod (RlEq.rf c m) (rl_prod (RlEq.rf c n) (rl_prod ho (RlEq.rf c g))))) fun x b1 b2 hb => ?_) fun b1 b2 hb => ?_
  · obtain ⟨r1, m1, n1, o1, g1⟩ := b1
    obtain ⟨r2, m2, n2, o2, g2⟩ := b2
    obtain ⟨_, hm, hn, ⟨o, e1, e2⟩, hg⟩ := hb
    obtain rfl : m1 = m2 := hm
    obtain rfl : n1 = n2 := hn
    obtain rfl : g1 = g2 := RlEq.eq c g1 g2 hg
    dsimp only at e1 e2
    subst e1 e2
    exact h x r1 r2 m1 n1 o g1
  · obtain ⟨r1, m1, n1, o1, g1⟩ := b1
    obtain ⟨r2, m2, n2, o2, g2⟩ := b2
    obtain ⟨hr, hm, hn, ⟨o, e1, e2⟩, hg⟩ := hb
    obtain rfl : m1 = m2 := hm
    obtain rfl : n1 = n2 := hn
    obtain rfl : g1 = g2 := RlEq.eq c g1 g2 hg
    dsimp only at e1 e2 hr
    subst e1 e2
    match r1, r2, hr with
    | none, none, _ => exact kn m1 n1 o g1
    | some a, some b, hr =>
      obtain ⟨q, rfl, rfl⟩ := hr
      exact ks q m1 n1 o g1
end
local macro_rules | `(tactic| walk_at "rl") => `(tactic| repeat' (first
  | exact RlEq.rf _ _
  | with_reducible exact ra_map
  | with_reducible exact ra_one
  | with_reducible exact rl_none
  | with_reducible refine rl_prod ?_ ?_
  | with_reducible refine rl_done ?_
  | with_reducible refine rl_yield ?_
  | with_reducible refine rl_some ?_
  | with_reducible refine ra_push ?_
  | with_reducible refine ra_app ?_ ?_
  | with_reducible refine ra_ext ?_
  | with_reducible refine ra_rev ?_))
local macro_rules | `(tactic| walk_at "trgo") => `(tactic| repeat' (first
  | with_reducible exact tr_unsup
  | (with_reducible refine tr_pure ?_; walk_at "rl"; done)
  | with_reducible refine tr_ite (fun _ => ?_) (fun _ => ?_)
  | with_reducible refine tr_rule ?_
  | with_reducible refine tr_elemB fun x => ?_
  | with_reducible refine tr_bindE (tr_gallop (by assumption)) fun b => ?_
  | with_reducible refine tr_bindE (tr_lt (by assumption)) fun b => ?_
  | with_reducible refine tr_bindE tr_setG fun b => ?_
  | with_reducible refine tr_gallopOf fun p pe g => ?_
  | refine tr_forA (by walk_at "rl") (fun x r1 r2 o g => ?_) (fun o g => ?_) (fun q o g => ?_)
  | refine tr_forB (by walk_at "rl") (fun x r1 r2 m n o g => ?_) (fun m n o g => ?_) (fun q m n o g => ?_)
  | split
  | dsimp only))
section
variable {c : Ct} {lt : c.ι → c.ι → Bool} (O : CtOk c lt)
include O
theorem tr_mergeLo {p q : Array c.ι} : Tr c (mergeLo' (p.map c.it1) (q.map c.it1)) (mergeLo' (p.map c.it2) (q.map c.it2)) := by
  rw [mergeLo'_eq, mergeLo'_eq]
  simp only [Array.size_map]
  walk_at "trgo"
theorem tr_mergeHi {p q : Array c.ι} : Tr c (mergeHi' (p.map c.it1) (q.map c.it1)) (mergeHi' (p.map c.it2) (q.map c.it2)) := by
  rw [mergeHi'_eq, mergeHi'_eq]
  simp only [Array.size_map]
  walk_at "trgo"
end
end Lw
namespace Lw
open PySem PySem.W PyProof.Rows
theorem set_map {ι : Type} (f : ι → Keyed) (sa : Nat) : ∀ (l : List ι) (k : Nat) (a : Array ι), ((l.map f).zipIdx k).foldl (fun a (x : Keyed × Nat) => a.setIfInBounds (sa + x.2) x.1) (a.map f) = ((l.zipIdx k).foldl (fun a (x : ι × Nat) => a.setIfInBounds (sa + x.2) x.1) a).map f
  | [], k, a => rfl
  | x :: l, k, a => by
    rw [List.map_cons, List.zipIdx_cons, List.zipIdx_cons, List.foldl_cons, List.foldl_cons]
    rw [← Array.map_setIfInBounds]
    exact set_map f sa l (k + 1) _
theorem arr_mk {k : SortKind} {a : Array Keyed} {pe : Array (Nat × Nat × Nat)} {g : Nat} {f : Option Value} : arrOf (SortSt.mk' k a pe g f) = a := rfl
theorem pend_mk {k : SortKind} {a : Array Keyed} {pe : Array (Nat × Nat × Nat)} {g : Nat} {f : Option Value} : pendingOf (SortSt.mk' k a pe g f) = pe := rfl
section
variable {c : Ct} {β : Type} [Rl β]
theorem tr_modB {h1 h2 : SortSt → SortSt} {f1 f2 : PUnit → StateT SortSt Sem β} (hh : ∀ (p : Array c.ι) pe g, Rl.r c (h1 (SortSt.mk' c.κ1 (p.map c.it1) pe g none)) (h2 (SortSt.mk' c.κ2 (p.map c.it2) pe g none))) (k : Tr c (f1 ⟨⟩) (f2 ⟨⟩)) :
    Tr c ((modify h1 : StateT SortSt Sem PUnit) >>= f1) ((modify h2 : StateT SortSt Sem PUnit) >>= f2) :=
  tr_bindE (tr_modify (by rintro _ _ ⟨p, pe, g, rfl, rfl⟩; exact hh p pe g)) fun ⟨⟩ => k
theorem tr_setB {t1 t2 : SortSt} {f1 f2 : PUnit → StateT SortSt Sem β} (hh : Rl.r c t1 t2) (k : Tr c (f1 ⟨⟩) (f2 ⟨⟩)) : Tr c ((set t1 : StateT SortSt Sem PUnit) >>= f1) ((set t2 : StateT SortSt Sem PUnit) >>= f2) :=
  tr_bindE (tr_set hh) fun ⟨⟩ => k
end
section
variable {c : Ct} {lt : c.ι → c.ι → Bool} (O : CtOk c lt)
include O
theorem tr_mergeAt {i : Nat} : Tr c (mergeAt' i) (mergeAt' i) := by
  rw [mergeAt'_eq]
  refine tr_gallopOf fun p pe g => ?_
  simp only [pend_mk, arr_mk]
  split
  · rename_i sa na pw sb nb pw2 hh
    have fin : ∀ (m : Array c.ι) (u : Nat), Tr c (do
        modify fun s => setArr s (List.foldl (fun a (x : Keyed × Nat) => a.setIfInBounds (u + x.snd) x.fst) (arrOf s) (m.map c.it1).toList.zipIdx)
        let t ← get
        pure (failedOf t).isNone : StateT SortSt Sem Bool) (do
        modify fun s => setArr s (List.foldl (fun a (x : Keyed × Nat) => a.setIfInBounds (u + x.snd) x.fst) (arrOf s) (m.map c.it2).toList.zipIdx)
        let t ← get
        pure (failedOf t).isNone) := fun m u => by
      refine tr_modB (fun p pe g => ⟨(m.toList.zipIdx).foldl (fun a (x : c.ι × Nat) => a.setIfInBounds (u + x.2) x.1) p, pe, g, ?_, ?_⟩) ?_
      · rw [Array.toList_map]
        exact congrArg (fun z => SortSt.mk' c.κ1 z pe g none) (set_map c.it1 u m.toList 0 p)
      · rw [Array.toList_map]
        exact congrArg (fun z => SortSt.mk' c.κ2 z pe g none) (set_map c.it2 u m.toList 0 p)
      · exact tr_gallopOf fun p pe g => tr_pure rfl
    refine tr_setB ⟨p, _, g, rfl, rfl⟩ ?_
    refine tr_elemB (p := p) fun x => ?_
    refine tr_bindE (tr_gallop O) fun k => ?_
    cases k with
    | none => exact tr_pure (RlEq.rf _ _)
    | some k =>
    dsimp only
    refine tr_ite (fun _ => tr_pure (RlEq.rf _ _)) fun _ => ?_
    refine tr_elemB (p := p) fun y => ?_
    refine tr_bindE (tr_gallop O) fun k2 => ?_
    cases k2 with
    | none => exact tr_pure (RlEq.rf _ _)
    | some k2 =>
    dsimp only
    refine tr_ite (fun _ => tr_pure (RlEq.rf _ _)) fun _ => ?_
    simp only [← Array.map_extract]
    refine tr_ite (fun _ => ?_) fun _ => ?_
    · refine tr_bind (tr_mergeLo O) ?_
      rintro _ _ ⟨m, rfl, rfl⟩
      exact fin m _
    · refine tr_bind (tr_mergeHi O) ?_
      rintro _ _ ⟨m, rfl, rfl⟩
      exact fin m _
  · exact tr_unsup
local macro_rules | `(tactic| walk_at "trgo") => `(tactic| repeat' (first
  | exact tr_unsup
  | exact tr_pure (RlEq.rf _ _)
  | with_reducible refine tr_ite (fun _ => ?_) (fun _ => ?_)
  | with_reducible refine tr_rule ?_
  | with_reducible refine tr_bindE (tr_count (by assumption)) fun b => ?_
  | with_reducible refine tr_bindE (tr_bin (by assumption)) fun b => ?_
  | with_reducible refine tr_bindE (tr_mergeAt (by assumption)) fun b => ?_
  | (with_reducible refine tr_gallopOf fun p pe g => ?_; simp only [pend_mk])
  | refine tr_modB (fun p pe g => ⟨p, _, g, rfl, rfl⟩) ?_
  | with_reducible refine tr_bindE (tr_forE fun x b => ?_) fun r => ?_
  | split
  | dsimp only))
theorem tr_runs : Tr c sortRuns' sortRuns' := by
  rw [sortRuns'_eq]
  refine tr_gallopOf fun p pe g => ?_
  dsimp only
  have e1 : (arrOf (SortSt.mk' c.κ1 (p.map c.it1) pe g none)).size = p.size := by show (p.map c.it1).size = _; rw [Array.size_map]
  have e2 : (arrOf (SortSt.mk' c.κ2 (p.map c.it2) pe g none)).size = p.size := by show (p.map c.it2).size = _; rw [Array.size_map]
  rw [e1, e2]
  walk_at "trgo"
end
end Lw
/-! a sort of any length by a comparison with state -/
namespace Lw
open PySem PySem.W PyProof.Rows SrtO
def intK : KeyKind where
  α := Int
  blt a b := decide (a < b)
  irrefl a := decide_eq_false (by omega)
  trans a b c h1 h2 := by
    have h1 := of_decide_eq_true h1
    have h2 := of_decide_eq_true h2
    exact decide_eq_true (by omega)
  negTrans a b c h := by
    have h := of_decide_eq_true h
    rcases Int.lt_or_le a b with z | z
    · exact .inl (decide_eq_true z)
    · exact .inr (decide_eq_true (by omega))
  total a b h1 h2 := by
    have h1 := of_decide_eq_false h1
    have h2 := of_decide_eq_false h2
    omega
  keyOf | .int i _ => some i | _ => none
  dflt := 0
theorem cnt_lt {α : Type} {p q : α → Bool} : ∀ {l : List α}, (∀ x ∈ l, p x = true → q x = true) → (∃ y ∈ l, q y = true ∧ p y = false) → l.countP p < l.countP q
  | [], _, h => by obtain ⟨y, hy, _⟩ := h; cases hy
  | x :: l, h, ⟨y, hy, hq, hp⟩ => by
    have h1 : l.countP p ≤ l.countP q := List.countP_mono_left fun z hz => h z (List.mem_cons_of_mem _ hz)
    rw [List.countP_cons, List.countP_cons]
    rcases List.mem_cons.mp hy with rfl | hy
    · rw [hq, hp]; simp; omega
    · have h2 := cnt_lt (l := l) (fun z hz => h z (List.mem_cons_of_mem _ hz)) ⟨y, hy, hq, hp⟩
      have h3 := h x (List.mem_cons_self ..)
      cases e : p x with
      | false => simp; omega
      | true => rw [h3 e]; simp; omega
def rankOf (lt : Nat → Nat → Bool) (n i : Nat) : Int := (((List.range n).countP fun k => lt k i : Nat) : Int)
theorem rank_lt {lt : Nat → Nat → Bool} (O : Swo lt) {n i j : Nat} (hi : i < n) : decide (rankOf lt n i < rankOf lt n j) = lt i j := by
  unfold rankOf
  cases e : lt i j with
  | true =>
    refine decide_eq_true ?_
    have := cnt_lt (l := List.range n) (p := fun k => lt k i) (q := fun k => lt k j) (fun k _ hk => ?_) ⟨i, List.mem_range.mpr hi, e, O.refl i⟩
    · omega
    · exact O.ltle hk (O.asym _ _ e)
  | false =>
    refine decide_eq_false ?_
    have : (List.range n).countP (fun k => lt k j) ≤ (List.range n).countP (fun k => lt k i) := List.countP_mono_left fun k _ hk => O.ltle hk e
    omega
theorem int_at {prog : Program} {w : World} {A : Around} {s : Shared} : H.LtAt prog w A s intK oneType' := by
  intro E x y a b Q hx hy hq
  match x, y, hx, hy with
  | .int i _, .int j _, hx, hy =>
    cases hx
    cases hy
    rw [keyLt'_oneType]
    exact oneLt_int hq
theorem runs_any {prog : Program} {w : World} {n : Nat} (h2 : 2 ≤ n) : RunsBy prog w n (fun cmp G s => ∃ (I : Shared → Prop) (lt : Nat → Nat → Bool), Swo lt ∧ I s ∧
    (∀ i j s C, i < n → j < n → I s → (∀ s', I s' → C (lt i j) s') → cmp i j C s) ∧ ∀ p s, p.toList.Perm (List.range n) → Srtd lt p.toList → I s → G p s) := by
  refine ⟨fun A E κ it Q G s hG h => ?_, fun A κ it Q Q' s hq h => ?_⟩
  · obtain ⟨I, lt, O, hi, hc, hg⟩ := h
    intro Γ p hΓ
    let c : Ct := { ι := {i // i ∈ List.range n}, M := model prog w, Γ := Γ, s0 := s, I := I, E := E, κ1 := κ, κ2 := oneType', it1 := fun i => kas_item it i.1, it2 := fun i => (.int (rankOf lt n i.1) 0, .int ((i.1 : Nat) : Int) 0) }
    have hin : ∀ i : c.ι, i.1 < n := fun i => List.mem_range.mp i.2
    have ok : CtOk c (fun i j => lt i.1 j.1) := ⟨fun i j s p hs => hc i.1 j.1 s (fun b s' => b = lt i.1 j.1 ∧ I s') (hin i) (hin j) hs (fun s' hs' => ⟨rfl, hs'⟩) Γ p hΓ, fun i j p => by
      have := oneLt_int (prog := prog) (w := w) (A := A) (E := fun _ _ => False) (s := s) (a := rankOf lt n i.1) (b := rankOf lt n j.1) (t := 0) (u := 0) (Q := fun b s' => b = lt i.1 j.1 ∧ s' = s) ⟨rank_lt O (hin i), rfl⟩
      exact this Γ p hΓ⟩
    let P : Array c.ι := (List.range n).attach.toArray
    have hP1 : P.map c.it1 = (List.toArray (List.range n)).map (kas_item it) := by
      apply Array.toList_inj.mp
      rw [Array.toList_map, Array.toList_map]
      show (List.range n).attach.map (fun i => kas_item it i.1) = (List.range n).map (kas_item it)
      rw [List.attach_map_val]
    have hsz : (P.map c.it2).size = n := by
      rw [Array.size_map]
      show ((List.range n).attach.toArray).size = n
      rw [List.size_toArray, List.length_attach, List.length_range]
    have hk : KeysOf intK (P.map c.it2) := fun x hx => by
      rw [Array.toList_map] at hx
      obtain ⟨i, _, rfl⟩ := List.mem_map.mp hx
      exact ⟨_, rfl⟩
    have pure2 := H.wpS_sortRunsSt (prog := prog) (w := w) (A := A) (E := fun _ _ => False) (s := s) (kd := oneType') (st := SortSt.mk' oneType' (P.map c.it2) #[] 7 none) (Q := fun _ st' => (arrOf st').Perm (P.map c.it2) ∧ SortedToK intK (arrOf st') (P.map c.it2).size)
      int_at hk ⟨.refl _, rfl, rfl⟩ rfl (Stable.refl _) (by rw [hsz]; exact h2) (fun st' a b c d => ⟨a, c⟩)
    have run := tr_runs ok (SortSt.mk' κ (P.map c.it1) #[] 7 none) (SortSt.mk' oneType' (P.map c.it2) #[] 7 none) ⟨P, #[], 7, rfl, rfl⟩
      (fun _ st' _ s' => s' = s ∧ (arrOf st').Perm (P.map c.it2) ∧ SortedToK intK (arrOf st') (P.map c.it2).size) p (pure2 Γ p hΓ) p s hi
    rw [hP1] at run
    refine Sem.wp_mono _ _ _ (fun r p' s' hq => ?_) (fun _ _ _ e => e) _ _ run
    obtain ⟨hi', a2, st2, p2, _, ⟨q, pe, g, e1, e2⟩, _, hp, hs⟩ := hq
    obtain ⟨⟨⟩, st1⟩ := r
    dsimp only at e1
    subst e1 e2
    have hp : (q.map c.it2).Perm (P.map c.it2) := hp
    have hs : SortedToK intK (q.map c.it2) (P.map c.it2).size := hs
    rw [hsz] at hs
    have hpl : (q.toList.map Subtype.val).Perm (List.range n) := by
      have h := (Array.perm_iff_toList_perm.mp hp).map fun k : Keyed => match k.2 with | .int i _ => i.toNat | _ => 0
      rw [Array.toList_map, Array.toList_map, List.map_map, List.map_map] at h
      have e3 : (List.range n).attach.map Subtype.val = List.range n := List.attach_map_subtype_val _
      have h' : (q.toList.map Subtype.val).Perm ((List.range n).attach.map Subtype.val) := h
      exact h'.trans (.of_eq e3)
    have hqs : q.size = n := by
      have := hp.size_eq
      rw [hsz, Array.size_map] at this
      exact this
    refine hG (q.map Subtype.val) _ _ (by rw [Array.size_map]; exact hqs) ?_ rfl (hg _ _ (by rw [Array.toList_map]; exact hpl) ?_ hi')
    · show q.map c.it1 = _
      rw [Array.map_map]; rfl
    · rw [Array.toList_map]
      refine List.pairwise_map.mpr (List.pairwise_iff_getElem.mpr fun i j h1 h3 hij => ?_)
      rw [Array.length_toList, hqs] at h1 h3
      have := hs i j (by omega) h3
      have kk : ∀ i (h : i < n), KK intK (q.map c.it2) i = rankOf lt n (q[i]'(by omega)).1 := fun i h => by
        unfold KK
        rw [Array.getElem?_map, Array.getElem?_eq_getElem (by omega)]
        rfl
      rw [kk i h1, kk j h3] at this
      rw [Array.getElem_toList, Array.getElem_toList, ← rank_lt O (n := n) (hin _)]
      exact this
  · obtain ⟨I, lt, O, hi, hc, hg⟩ := h
    exact ⟨I, lt, O, hi, hc, fun p s a b i => hq _ _ (hg p s a b i)⟩
end Lw
/-! own instances: sorted(list of them) by __lt__ -/
namespace Lw
open PySem PySem.Spec PyProof.Rows L2
theorem same_off {H X : Hp} {p : Addr} {o : HO} (h : H p = none) (s : Same H X) : Same H (upd X p o) := fun b x e => by
  have : b ≠ p := fun z => by rw [z, h] at e; cases e
  rw [upd_ne this]; exact s b x e
end Lw
namespace L2
open PySem PySem.Spec PyProof.Rows SrtO
section
variable {X : Cx} {pins : List (Addr × Obj)} {σ : St} {H : Hp} {s : Shared} {D : Addr} {o : HO} {h' : Heap}
/-- an untracked object of ours becomes tracked, changed -/
theorem Inv.adopt (I : Inv X pins σ H s) (fp : FpOk X pins H D) (k : ∀ b u, b ≠ D → s.heap.get? b = some u → h'.get? b = some u) (hd : ∃ u, h'.get? D = some u) (new : ObjOk X.prog X.w (upd H D o) h' D o) :
    Inv X pins σ (upd H D o) { s with heap := h' } := by
  obtain ⟨hn, hL, hf, h1, h2, h3⟩ := fp
  have nD : ∀ b u, H b = some u → b ≠ D := fun b u e z => by rw [z, hn] at e; cases e
  have up : ∀ b u, H b = some u → upd H D o b = some u := fun b u e => by rw [upd_ne (nD b u e)]; exact e
  refine I.step (g' := s.gens) (d' := s.drawn) (t' := s.toks) (ch := [D]) (fun b hb => ?_) (fun b u _ _ hc e _ => k b u (fun z => hc (by simp [z])) e) (fun b u _ _ hc e _ => ⟨u.slots, k b u (fun z => hc (by simp [z])) e⟩)
    (fun b u hc _ n => by rw [upd_ne (fun z => hc (by simp [z]))]; exact n) (fun b u hc e => ⟨u, k b u (fun z => hc (by simp [z])) e⟩) (fun b xs e => up b _ e) (fun b u w e => up b _ e) (fun b ps e => ⟨#[], by rw [up b _ e]; simp⟩) (fun m hm => ?_) (fun b u e => ?_) I.bare
  · have e : b = D := by simpa using hb
    subst e
    exact ⟨h1, hL, h2, h3⟩
  · obtain ⟨u, es, ep, ho, r⟩ := hm
    exact ⟨u, es, ep, k _ u (Ne.symm hL) ho, r⟩
  · by_cases hb : b = D
    · subst hb
      rw [upd_same] at e
      cases e
      exact new
    · rw [upd_ne hb] at e
      refine (I.hok b u e).stay (fun c v hc q => k c v ?_ q) (fun c q => up c _ q) fun c xs q => up c _ q
      rcases hc with z | z
      · rw [z]; exact hb
      · exact nD c _ z
end
/-- sorted(a list of instances of C), their order lt told by __lt__ -/
def rSortOwn (C : Addr) (sp : Sp) (E : XK) (K : PySem.W.Frag) : List V → Hp → VK → Prop := fun vs H Q => ∃ (a : Addr) (xs : List Addr), vs = [.ref a] ∧ SqL K H a (xs.map V.ref) ∧ (∀ x ∈ xs, ∃ dx fs, H x = some (.ins C dx fs)) ∧
  ∃ lt : Addr → Addr → Bool, Swo lt ∧ xs.length ≤ 1000 ∧ (∀ x ∈ xs, ∀ y ∈ xs, ∀ H', Same H H' → ∀ Q' : VK, (∀ H2, Same H' H2 → Q' (.bl (lt x y)) H2) → sp [.ref x, .ref y] H' Q' E) ∧
  ∀ (ys : List Addr) (H' : Hp) (p : Addr), ys.Perm xs → Srtd lt ys → Same H H' → H p = none → H' p = some (.lst (ys.map V.ref)) → Q (.ref p) H'
theorem swo_none {α : Type} : Swo (fun (_ _ : α) => false) := ⟨fun _ _ h => (by cases h), fun _ _ _ _ _ => rfl⟩
theorem range_get (xs : List Addr) : (List.range xs.length).map (fun i => xs.getD i 0) = xs := by
  apply List.ext_getElem?
  intro i
  rw [List.getElem?_map]
  by_cases h : i < xs.length
  · rw [List.getElem?_range h, List.getElem?_eq_getElem h]
    simp [h]
  · rw [List.getElem?_eq_none (by rw [List.length_range]; omega), List.getElem?_eq_none (by omega)]; rfl
theorem getD_mem {xs : List Addr} {i : Nat} (h : i < xs.length) : xs.getD i 0 ∈ xs := by
  have : xs.getD i 0 = xs[i] := by simp [h]
  rw [this]; exact List.getElem_mem h
theorem short_perm {α : Type} {xs out : List α} (h : ¬ 2 ≤ xs.length) (p : out.Perm xs) : out = xs := by
  cases xs with
  | nil => exact p.eq_nil
  | cons x r =>
    cases r with
    | nil => exact List.perm_singleton.mp p
    | cons y r => exact absurd (by simp) h
theorem short_srtd {α : Type} {lt : α → α → Bool} {xs : List α} (h : ¬ 2 ≤ xs.length) : Srtd lt xs := by
  cases xs with
  | nil => exact List.Pairwise.nil
  | cons x r =>
    cases r with
    | nil => exact srtd_one x
    | cons y r => exact absurd (by simp) h
theorem call_sortedOwn {X : Cx} {k : Nat} {f C : Addr} {fd : FuncData} {ps : List Str} {sp : Sp} {E : XK} (hlt : PySem.W.findIn X.K (.ref C) "__lt__" = some (some (.ref f))) (hf : PySem.W.isFn X.K (.ref f) = true)
    (F : FnOk X.prog X.w X.K X.mg X.base CX0 k f fd ps sp) (hr : Room (k + 2) X.A) (hb : Binds X.K fd ps []) : CallR X (.builtin "sorted") (rSortOwn C sp E X.K) := by
  intro pins s σ H vs us Q I r h
  obtain ⟨a, xs, rfl, hs, hins, lt, O, h64, hcmp, q⟩ := h
  have hlen : xs.length ≤ 1000 := h64
  obtain ⟨its, rv, hl, hz⟩ := I.list hs
  rw [Vals.ref1 r]
  have ei := Lw.vals_refs rv
  subst ei
  rw [List.length_map] at hz
  by_cases h2 : 2 ≤ xs.length
  · obtain ⟨W, hW, hask⟩ : ∃ W, Lw.RunsBy X.prog X.w (xs.map Value.ref).length W ∧ ∀ (I : Shared → Prop) (cmp : Nat → Nat → (Bool → Shared → Prop) → Shared → Prop) (Q : Array Nat → Shared → Prop) (s : Shared),
        (∀ i j s C, i < xs.length → j < xs.length → I s → (∀ s', I s' → C (lt (xs.getD i 0) (xs.getD j 0)) s') → cmp i j C s) → (∀ p s, (p.toList.Perm (List.range xs.length) ∧ Srtd (fun i j => lt (xs.getD i 0) (xs.getD j 0)) p.toList) → I s → Q p s) → I s → W cmp Q s := by
      rw [List.length_map]
      exact ⟨_, Lw.runs_any h2, fun I cmp Q s hc hq hi => ⟨I, fun i j => lt (xs.getD i 0) (xs.getD j 0), ⟨fun x y => O.asym (xs.getD x 0) (xs.getD y 0), fun x y z => O.tr (xs.getD x 0) (xs.getD y 0) (xs.getD z 0)⟩, hi, hc, fun p s a b c => hq p s ⟨a, b⟩ c⟩⟩
    refine Lw.srt_sorted (T := .ref C) hl.isList (by rw [List.length_map]; exact h2) (by rw [List.length_map]; exact hlen) hW (fun h' kp v hv => ?_) (by rfl) (beq_self_eq_true _) fun D e1 h' hD kp hDo => ?_
    · obtain ⟨x, hx, rfl⟩ := List.mem_map.mp hv
      obtain ⟨dx, fs, ex⟩ := hins x hx
      obtain ⟨mA, M, _⟩ := ins_get I.hok ex
      exact fun A Q E s k q => wpAny_typeOf_ref (k _ _ (kp _ _ M.obj)) q
    · have fpD : FpOk X pins H D := I.fpOk hD (I.hok.fresh hD)
      have I1 : Inv X ((D, seqObj "list" #[] e1) :: pins) σ H { s with heap := h' } := ClX.pin_new (t' := s.toks) I kp hD hDo (fun v z => nomatch z)
      have hn : ((xs.map Value.ref).length) = xs.length := List.length_map _
      rw [hn]
      have gt : ∀ i, i < xs.length → (xs.map Value.ref).getD i Value.none = Value.ref (xs.getD i 0) := fun i hi => by simp [hi]
      refine hask (fun s' => ∃ H', Inv X ((D, seqObj "list" #[] e1) :: pins) σ H' s' ∧ Same H H') _ _ _ ?_ ?_ ⟨H, I1, Same.refl H⟩
      · rintro i j s' Cn hi hj ⟨H', I', sH⟩ hC
        show wpAny (model X.prog X.w) X.A.in1.in1 (keyLt' oneType' _ _) Cn (fun _ _ => False) s'
        rw [gt i hi, gt j hj]
        obtain ⟨dx, fs, ex⟩ := hins _ (getD_mem hi)
        obtain ⟨mA, M, _⟩ := ins_get I'.hok (sH _ _ ex)
        obtain ⟨od, J, _⟩ := M.look
        rw [keyLt'_oneType, oneLt'_eq]
        simp only [if_true]
        refine wpAny_bind (wpAny_cRoomFor (Room.units0 (hr.in1).in1) ?_)
        refine wpAny_bind (PySem.W.ifBound_K I'.kIn J hlt hf ?_)
        have hsp := hcmp _ (getD_mem hi) _ (getD_mem hj) H' sH (fun v H2 => v = .bl (lt (xs.getD i 0) (xs.getD j 0)) ∧ Same H' H2) (fun H2 s2 => ⟨rfl, s2⟩)
        have r2 : Vals [V.ref (xs.getD i 0), V.ref (xs.getD j 0)] [Value.ref (xs.getD i 0), Value.ref (xs.getD j 0)] := .cons rfl (.cons rfl .nil)
        have hlen : [Value.ref (xs.getD i 0), Value.ref (xs.getD j 0)].length = ps.length := by rw [← r2.length]; exact F.len _ _ _ _ hsp
        refine wpAny_call (codeAny_mono (F.run X.A.in1.in1 X.stack s' H' ⟨[.ref (xs.getD i 0), .ref (xs.getD j 0)], []⟩ [.ref (xs.getD i 0), .ref (xs.getD j 0)] _ _ E hr.in1.in1 I'.env0.in1.in1 (hb _ [.ref (xs.getD i 0), .ref (xs.getD j 0)] I'.kIn (by rw [List.append_nil]; exact hlen)) r2 hsp) fun res s2 hq => ?_)
        match res, hq with
        | .error e, hq => exact hq.elim
        | .ok (.ret u), hq =>
          obtain ⟨v, H2, I2, rv2, ev, s3⟩ := I'.after hq
          subst ev
          have eu : u = Value.bool (lt (xs.getD i 0) (xs.getD j 0)) := rv2
          subst eu
          exact wpAny_truthy_bool (hC _ ⟨H2, I2, sH.trans s3⟩)
        | .ok .next, hq => exact hq.elim
        | .ok .brk, hq => exact hq.elim
        | .ok .cont, hq => exact hq.elim
      · rintro p s' ⟨hp, hsrt⟩ ⟨H', I', sH⟩
        refine ⟨ClX.pin_at I', fun hpl => ?_⟩
        have hnD : H' D = none := ClX.pin_un I'
        have ys : ∀ l : List Nat, (∀ i ∈ l, i < xs.length) → (l.map fun i => (xs.map Value.ref).getD i Value.none) = (l.map fun i => xs.getD i 0).map Value.ref := fun l hl => by
          rw [List.map_map]
          exact List.map_congr_left fun i hi => gt i (hl i hi)
        have hin : ∀ i ∈ p.toList, i < xs.length := fun i hi => List.mem_range.mp (hp.mem_iff.mp hi)
        rw [ys _ hin]
        have hperm : (p.toList.map fun i => xs.getD i 0).Perm xs := by
          have := hp.map fun i => xs.getD i 0
          rw [range_get] at this
          exact this
        have hsorted : Srtd lt (p.toList.map fun i => xs.getD i 0) := List.pairwise_map.mpr hsrt
        generalize (p.toList.map fun i => xs.getD i 0) = zs at hperm hsorted ⊢
        obtain ⟨ep, hup⟩ : ∃ ep, (s'.heap.update D (Obj.mapSeq fun _ => List.toArray (zs.map Value.ref))).get? D = some (seqObj "list" (List.toArray (zs.map Value.ref)) ep) := ⟨_, get?_update_seq (ClX.pin_at I') fun _ => List.toArray (zs.map Value.ref)⟩
        have hzl : (zs.map V.ref).length ≤ sizeLine := by rw [List.length_map, hperm.length_eq]; exact hz
        have fpD' : FpOk X pins H' D := ⟨hnD, fpD.2⟩
        refine ⟨.ref D, upd H' D (.lst (zs.map V.ref)), (ClX.unpin I').adopt fpD' (fun b u hb e => (Heap.get?_update_other s'.heap (Obj.mapSeq fun _ => List.toArray (zs.map Value.ref)) (Ne.symm hb)).trans e) ⟨_, hup⟩ ⟨hzl, zs.map Value.ref, ep, LiI.vals_refs zs, hup⟩, rfl, ?_⟩
        exact q zs _ D hperm hsorted (Lw.same_off fpD.1 sH) fpD.1 upd_same
  · refine SrtO.sorted_ord (ltv := fun _ _ => false) swo_none hl.isList (by rw [List.length_map]; exact hz) (fun h => absurd h (by rw [List.length_map]; exact h2)) fun out _ hst => ?_
    have eo : out = xs.map Value.ref := short_perm (by rw [List.length_map]; exact h2) hst.perm
    subst eo
    obtain ⟨ep, he'⟩ := PyProof.Rows.sortedAll_at s.heap (xs.map Value.ref) (xs.map Value.ref).toArray
    have hsrt : Srtd lt xs := short_srtd h2
    have hfr := I.hok.fresh (Nat.le_succ s.heap.objs.size)
    exact ⟨.ref _, upd H (s.heap.objs.size + 1) (.lst (xs.map V.ref)), I.laid (t' := s.toks) (fun _ _ => PyProof.Rows.sortedAll_old) (Nat.le_succ _) ⟨by rw [List.length_map]; exact hz, _, ep, LiI.vals_refs xs, he'⟩, rfl, q xs _ _ (List.Perm.refl _) hsrt (Lw.same_new hfr) hfr upd_same⟩
end L2
/-! own instances: ==, !=, in, not in, len, for by the text's own methods -/
namespace L2
open PySem PySem.Spec PyProof.Rows ItX
section
variable {X : Cx} {n : Nat} {f C : Addr} {fd : FuncData} {ps : List Str} {sp : Sp} {E : XK}
/-- a def called somewhere below -/
theorem own_call (F : FnOk X.prog X.w X.K X.mg X.base CX0 n f fd ps sp) (hb : Binds X.K fd ps []) {A : Around} (sb : Sub X n A) {pins : List (Addr × Obj)} {σ : St} {H : Hp} {s : Shared} {us : List Value} {vs : List V} {Q : VK} {E' : Value → Shared → Prop}
    (I : Inv X pins σ H s) (r : Vals vs us) (h : sp vs H Q E) : wpAny (model X.prog X.w) A (call (.ref f) us) (EP X pins σ Q) E' s := by
  have e0 : Env0 X.prog X.w X.K X.mg X.base A X.stack s H := by
    have e := I.env0
    exact ⟨by rw [sb.fr]; exact e.frames, e.mod, e.bs, e.bsz, e.funs, e.frf, e.hok, e.bare⟩
  have hl : us.length = ps.length := by rw [← r.length]; exact F.len _ _ _ _ h
  refine wpAny_call (codeAny_mono (F.run A X.stack s H ⟨us, []⟩ us vs Q E sb.room e0 (by
    have := hb s us I.kIn (by rw [List.append_nil]; exact hl)
    rw [List.append_nil] at this
    exact this) r h) fun res s' hq => ?_)
  match res, hq with
  | .error e, hq => exact hq.elim
  | .ok (.ret u), hq => exact I.after hq
  | .ok .next, hq => exact hq.elim
  | .ok .brk, hq => exact hq.elim
  | .ok .cont, hq => exact hq.elim
theorem ins_at {pins : List (Addr × Obj)} {σ : St} {H : Hp} {s : Shared} {a dx : Addr} {fs : List (Str × V)} (I : Inv X pins σ H s) (e : H a = some (.ins C dx fs)) : ∃ od, PySem.W.InstAt s.heap a (PySem.W.instObj C dx) C (some od) := by
  obtain ⟨mA, M, _⟩ := ins_get I.hok e
  obtain ⟨od, J, _⟩ := M.look
  exact ⟨od, J⟩
/-- x == y, x != y by the own __eq__ -/
def rEqO (K : PySem.W.Frag) (C : Addr) (neg : Bool) (sp : Sp) (E : XK) : R2 := fun x y H Q => ∃ (a dx : Addr) (fs : List (Str × V)) (t : Value), x = .ref a ∧ H a = some (.ins C dx fs) ∧ TyX K H y t ∧ PySem.W.notFirst K C t = true ∧
  sp [x, y] H (fun v H' => ∃ b, v = .bl b ∧ Q (.bl (if neg then !b else b)) H') E
theorem op_eqO (hs : PySem.W.findIn X.K (.ref C) "__eq__" = some (some (.ref f))) (hf : PySem.W.isFn X.K (.ref f) = true) (G : FnOk X.prog X.w X.K X.mg X.base CX0 n f fd ps sp) (hb : Binds X.K fd ps []) (hr : Room n X.A) :
    OpR X (compareOp .Eq) (rEqO X.K C false sp E) := by
  intro pins s σ H x y u v Q I rx ry h
  obtain ⟨a, dx, fs, t, rfl, ha, ty, hn, hsp⟩ := h
  cases rx
  obtain ⟨od, J⟩ := ins_at I ha
  obtain ⟨P, Z, hp, _⟩ := kit_of I ry ty
  obtain ⟨m, hF⟩ := I.fr
  show wpAny (model X.prog X.w) X.A (richCompare .Eq (.ref a) v) (EP X pins σ Q) X.xe s
  refine PySem.W.cmp_K (op := .Eq) (tb := t) hr.units0 hF I.ok.mod.kin J (Z.ty _ _ I.kIn hp) hn hs hf ?_
  refine wpAny_mono (own_call G hb ⟨hr, rfl⟩ I (show Vals [V.ref a, y] [Value.ref a, v] from .cons rfl (.cons ry .nil)) hsp) (fun r s' z => ?_) fun _ _ z => z
  obtain ⟨w, H', I', rw', b, rfl, q⟩ := z
  cases (show r = Value.bool b from rw')
  exact ⟨.bl b, H', I', rfl, q⟩
theorem op_neO (hs : PySem.W.findIn X.K (.ref C) "__eq__" = some (some (.ref f))) (hf : PySem.W.isFn X.K (.ref f) = true) (hne : PySem.W.findIn X.K (.ref C) "__ne__" = some (some (.builtin "object.__ne__"))) (hm : PySem.W.mroIn X.K C (.type "object") = some true)
    (G : FnOk X.prog X.w X.K X.mg X.base CX0 n f fd ps sp) (hb : Binds X.K fd ps []) (hr : Room (n + 1) X.A) : OpR X (compareOp .NotEq) (rEqO X.K C true sp E) := by
  intro pins s σ H x y u v Q I rx ry h
  obtain ⟨a, dx, fs, t, rfl, ha, ty, hn, hsp⟩ := h
  cases rx
  obtain ⟨od, J⟩ := ins_at I ha
  obtain ⟨P, Z, hp, _⟩ := kit_of I ry ty
  have KI := I.kIn
  have lookb := Z.ty (model X.prog X.w) _ KI hp
  show wpAny (model X.prog X.w) X.A (richCompare .NotEq (.ref a) v) (EP X pins σ Q) X.xe s
  -- object.__ne__ of the two
  have body : wpAny (model X.prog X.w) X.A (call (.builtin "object.__ne__") [.ref a, v]) (fun r s' => ∃ b, r = Value.bool b ∧ EP X pins σ Q (.bool b) s') X.xe s := by
    refine wpAny_call (codeAny_call_builtin PySem.F.cmp_object.ne.plain PySem.F.cmpEntry_ne (@PySem.W.check_slot (model X.prog X.w) _ _ s "object.__ne__" "object" "__ne__" (.ref a) [v] [] _ (by decide +kernel) (by decide +kernel) (J.type.andThen (PySem.W.looks_mroIn KI hm)) (PySem.F.cmpArgs_ne _ _) ?_))
    unfold Builtin.«object.__ne__»
    refine wpAny_bind (m := slotArgs "__ne__" 1 _) (wpAny_pure ?_)
    refine wpAny_bind (wpAny_cRoomFor (Room.units0 hr.in1) ?_)
    refine wpAny_bind (PySem.W.ifBound_K KI J hs hf ?_)
    refine wpAny_mono (own_call G hb (Sub.in1 ⟨hr, rfl⟩) I (show Vals [V.ref a, y] [Value.ref a, v] from .cons rfl (.cons ry .nil)) hsp) (fun r s' z => ?_) fun _ _ z => z
    obtain ⟨w, H', I', rw', b, rfl, q⟩ := z
    cases (show r = Value.bool b from rw')
    refine wpAny_bind (wpAny_truthy_bool ?_)
    exact wpAny_pure ⟨_, rfl, .bl (!b), H', I', rfl, q⟩
  have spec : wpAny (model X.prog X.w) X.A (callSpecialIfBound? (.ref a) "__ne__" [v]) (fun r s' => ∃ b, r = some (Value.bool b) ∧ EP X pins σ Q (.bool b) s') X.xe s := by
    have fin : wpAny (model X.prog X.w) X.A (call (.builtin "object.__ne__") ([.ref a] ++ [v]) >>= fun v => pure (some v)) (fun r s' => ∃ b, r = some (Value.bool b) ∧ EP X pins σ Q (.bool b) s') X.xe s :=
      wpAny_bind (wpAny_mono body (fun r s' ⟨b, e, z⟩ => wpAny_pure ⟨b, by rw [e], z⟩) fun _ _ z => z)
    simp only [callSpecialIfBound?, bindSpecialIfBound?]
    have hbd := PySem.F.cmp_object.ne.bind (.ref a)
    refine wpAny_holding (wpAny_bind (wpAny_bind (wpAny_bind (J.type.here ((PySem.W.looks_findIn KI hne).here ?_)))))
    refine wpAny_bind (wpAny_askSetting (wpAny_ite ?_))
    split
    · exact wpAny_bind ((PySem.W.Looks.of_pure hbd).here (wpAny_pure (by exact fin)))
    · exact wpAny_tryCatch (wpAny_bind ((PySem.W.Looks.of_pure hbd).here (wpAny_pure (by exact fin))))
  have one : wpAny (model X.prog X.w) X.A (tryCompare (.ref a) "__ne__" v) (fun r s' => ∃ b, r = some (Value.bool b) ∧ EP X pins σ Q (.bool b) s') X.xe s := by
    unfold tryCompare
    refine wpAny_bind (wpAny_mono spec (fun r s' z => ?_) fun _ _ z => z)
    obtain ⟨b, rfl, z⟩ := z
    exact wpAny_pure ⟨b, rfl, z⟩
  unfold richCompare
  simp only [oneThing_ref]
  refine wpAny_holding (wpAny_bind (wpAny_cRoomFor (Room.units0 hr) ?_))
  refine wpAny_bind (J.type.here (wpAny_bind (lookb.here ?_)))
  split
  · rename_i q
    have e : PySem.W.subIn X.K t (.ref C) = some false := by
      rcases Bool.or_eq_true_iff.mp hn with e | e
      · rw [beq_iff_eq.mp e] at q; simp at q
      · exact beq_iff_eq.mp e
    refine wpAny_bind ((PySem.W.looks_subIn KI e).here ?_)
    simp only [Bool.false_eq_true, if_false]
    refine wpAny_bind (wpAny_mono one (fun r s' z => ?_) fun _ _ e => e)
    obtain ⟨b, rfl, hq⟩ := z
    exact wpAny_pure hq
  · refine wpAny_bind (wpAny_pure ?_)
    simp only [Bool.false_eq_true, if_false]
    refine wpAny_bind (wpAny_mono one (fun r s' z => ?_) fun _ _ e => e)
    obtain ⟨b, rfl, hq⟩ := z
    exact wpAny_pure hq
/-- x in y, x not in y by the own __contains__ -/
def rInO (C : Addr) (neg : Bool) (sp : Sp) (E : XK) : R2 := fun x y H Q => ∃ (a dx : Addr) (fs : List (Str × V)), y = .ref a ∧ H a = some (.ins C dx fs) ∧ sp [y, x] H (fun v H' => ∃ b, v = .bl b ∧ Q (.bl (if neg then !b else b)) H') E
theorem op_inO (hs : PySem.W.findIn X.K (.ref C) "__contains__" = some (some (.ref f))) (hf : PySem.W.isFn X.K (.ref f) = true) (G : FnOk X.prog X.w X.K X.mg X.base CX0 n f fd ps sp) (hb : Binds X.K fd ps []) (hr : Room n X.A) :
    OpR X (compareOp .In) (rInO C false sp E) := by
  intro pins s σ H x y u v Q I rx ry h
  obtain ⟨a, dx, fs, rfl, ha, hsp⟩ := h
  cases ry
  obtain ⟨od, J⟩ := ins_at I ha
  obtain ⟨m, hF⟩ := I.fr
  refine PySem.W.in_K hF I.ok.mod.kin J hs hf ?_
  refine wpAny_mono (own_call G hb ⟨hr, rfl⟩ I (show Vals [V.ref a, x] [Value.ref a, u] from .cons rfl (.cons rx .nil)) hsp) (fun r s' z => ?_) fun _ _ z => z
  obtain ⟨w, H', I', rw', b, rfl, q⟩ := z
  cases (show r = Value.bool b from rw')
  exact wpAny_truthy_bool ⟨.bl b, H', I', rfl, q⟩
theorem op_notInO (hs : PySem.W.findIn X.K (.ref C) "__contains__" = some (some (.ref f))) (hf : PySem.W.isFn X.K (.ref f) = true) (G : FnOk X.prog X.w X.K X.mg X.base CX0 n f fd ps sp) (hb : Binds X.K fd ps []) (hr : Room n X.A) :
    OpR X (compareOp .NotIn) (rInO C true sp E) := by
  intro pins s σ H x y u v Q I rx ry h
  obtain ⟨a, dx, fs, rfl, ha, hsp⟩ := h
  cases ry
  obtain ⟨od, J⟩ := ins_at I ha
  obtain ⟨m, hF⟩ := I.fr
  refine PySem.W.notIn_K hF I.ok.mod.kin J hs hf ?_
  refine wpAny_mono (own_call G hb ⟨hr, rfl⟩ I (show Vals [V.ref a, x] [Value.ref a, u] from .cons rfl (.cons rx .nil)) hsp) (fun r s' z => ?_) fun _ _ z => z
  obtain ⟨w, H', I', rw', b, rfl, q⟩ := z
  cases (show r = Value.bool b from rw')
  exact wpAny_truthy_bool ⟨.bl (!b), H', I', rfl, q⟩
/-- len(x) by the own __len__ -/
def rLenO (C : Addr) (sp : Sp) (E : XK) : List V → Hp → VK → Prop := fun vs H Q => ∃ (a dx : Addr) (fs : List (Str × V)), vs = [.ref a] ∧ H a = some (.ins C dx fs) ∧ sp [.ref a] H (fun v H' => ∃ i : Int, v = .int i ∧ 0 ≤ i ∧ i < 9223372036854775808 ∧ Q (.int i) H') E
theorem call_lenO (hs : PySem.W.findIn X.K (.ref C) "__len__" = some (some (.ref f))) (hf : PySem.W.isFn X.K (.ref f) = true) (G : FnOk X.prog X.w X.K X.mg X.base CX0 n f fd ps sp) (hb : Binds X.K fd ps []) (hr : Room (n + 1) X.A) :
    CallR X (.builtin "len") (rLenO C sp E) := by
  intro pins s σ H vs us Q I r h
  obtain ⟨a, dx, fs, rfl, ha, hsp⟩ := h
  rw [Vals.ref1 r]
  obtain ⟨od, J⟩ := ins_at I ha
  obtain ⟨m, hF⟩ := I.fr
  refine PySem.W.len_K hF I.ok.mod.kin J hs hf ?_
  refine wpAny_mono (own_call G hb (Sub.in1 ⟨hr, rfl⟩) I (show Vals [V.ref a] [Value.ref a] from .cons rfl .nil) hsp) (fun r s' z => ?_) fun _ _ z => z
  obtain ⟨w, H', I', rw', i, rfl, h0, h1, q⟩ := z
  obtain ⟨t, rfl⟩ := (show ∃ t, r = Value.int i t from rw')
  exact ⟨⟨h0, h1⟩, .int i, H', I'.tok _, ⟨_, rfl⟩, q⟩
end
/-- a def's promise that knows how many objects there are -/
structure FnS (P : Program) (w : World) (K : PySem.W.Frag) (mg : Str → Option Value) (base : Heap) (k : Nat) (f : Addr) (fd : FuncData) (ps : List Str) (sp : Nat → Sp) : Prop where
  len : ∀ n vs H Q E, sp n vs H Q E → vs.length = ps.length
  run : ∀ (A : Around) (outer : List Env) (s : Shared) (H : Hp) (us : List Value) (vs : List V) (Q : VK) (E : XK), Room k A → Env0 P w K mg base A outer s H → BindsTo s fd ⟨us, []⟩ (ps.zip us) → Vals vs us → sp s.heap.objs.size vs H Q E →
    codeAny (model P w) A (.call (.ref f) ⟨us, []⟩) (CR CX0 outer P w H s Q E) s
theorem Fun.okS {P : Program} {w : World} {K : PySem.W.Frag} {mg : Str → Option Value} {base : Heap} {x qual : Str} {st : Stmt} {f : Addr} {fd : FuncData} {N ps : List Str} {k : Nat} {sp : Nat → Sp} (F : Fun K x qual st f fd) (S : FnScope N ps (defScope st)) (len : ∀ n vs H Q E, sp n vs H Q E → vs.length = ps.length)
    (hbody : ∀ (cdv : Value) (A : Around) (outer : List Env) (s : Shared) (H : Hp) (vs : List V) (Q : VK) (E : XK), Room k (A.deeper (envOfC qual (defScope st) s.heap.objs.size f cdv)) → sp s.heap.objs.size vs H Q E →
      ∃ t, PSs (cxOf CX0 P w K mg base N qual (defScope st) f cdv A outer s H E).nox (defBody st) t ∧ t { nx := fun _ H' => Q .non H', rt := Q } (start N vs) H) : FnS P w K mg base (k + 1) f fd ps sp := by
  obtain ⟨oc, od, kV, doc, pm, an, cdv, ct, osl, rfl, lk, hcd⟩ := F.ex
  refine ⟨len, fun A outer s H us vs Q E hr e0 hb r hsp => ?_⟩
  have hl := len _ _ _ _ _ hsp
  have KX : K.In s.heap := e0.mod.kin.keeps fun b o e => (e0.bs b o e).1
  have lim : s.heap.NoLimit := e0.mod.nolimit.keeps fun b o e => (e0.bs b o e).1
  have hkind : ∀ y ∈ ps.zip us, (defScope st).names.lookup y.1 = some .local ∨ ((defScope st).names.lookup y.1 = some .cell ∧ ((cellsFrom (s.heap.objs.size + 1) (defScope st).names []).lookup y.1).isSome = true) := fun ⟨n, v⟩ hy =>
    (S.par n (List.of_mem_zip hy).1).elim .inl fun q => .inr ⟨q, PySem.W.cellsFrom_some _ _ _ (.inl q)⟩
  refine codeAny_call_function hr.depth (KX _ _ lk) rfl S.co S.gen rfl (PySem.W.codeRec_of KX hcd) (hb _ _ _ _ ?_)
  refine wpAny_newFunctionEnv_cells S.kind hkind fun env he s1 x => ?_
  subst he
  refine ⟨lim.keeps x.toInCall.keep, codeAny_func ?_⟩
  obtain ⟨t, ht, hq⟩ := hbody cdv A outer s H vs Q E (hr.deeper _) hsp
  have I : Inv (cxOf CX0 P w K mg base N qual (defScope st) f cdv A outer s H E) [] (start N vs) H s1 := inv_start S hr.hd e0 hl r x
  refine wpAny_mono (ht.nox.run [] s1 (start N vs) H _ I hq) (fun fl s' hs => ?_) fun e s' hs => hs
  match fl, hs with
  | .ret u, ⟨v, σ', H', J, rv, q⟩ => exact ⟨v, H', J.os, J.bare, J.base, J.hok, rv, q⟩
  | .next, ⟨σ', H', J, q⟩ => exact ⟨V.non, H', J.os, J.bare, J.base, J.hok, rfl, q⟩
  | .brk, ⟨_, _, _, q⟩ => exact q.elim
  | .cont, ⟨_, _, _, q⟩ => exact q.elim
section
variable {X : Cx} {n : Nat} {f C : Addr} {fd : FuncData} {ps : List Str} {E : XK} {sp : Nat → Sp}
/-- for .. in e, e an instance whose __iter__ gives iter(a list) -/
def iOwn (K : PySem.W.Frag) (C : Addr) (sp : Nat → Sp) (E : XK) (te : TE) : TI := fun σ H R => te σ H fun x H1 => ∃ (a dx : Addr) (fs : List (Str × V)), x = .ref a ∧ H1 a = some (.ins C dx fs) ∧
  ∀ n, sp n [x] H1 (fun v H2 => ∃ (it l : Addr) (i0 : Nat), v = .ref it ∧ H2 it = some (ItO l it i0) ∧ n ≤ it ∧ R (ItlF K l i0) (dropH H2 it)) E
theorem pi_own {tg e : Expr} {te : TE} (he : PE X e te) (hs : PySem.W.findIn X.K (.ref C) "__iter__" = some (some (.ref f))) (hf : PySem.W.isFn X.K (.ref f) = true) (G : FnS X.prog X.w X.K X.mg X.base n f fd ps sp) (hb : Binds X.K fd ps []) (hr : Room n X.A) :
    PI X tg e (iOwn X.K C sp E te) := by
  refine ⟨fun pins s σ H R I h => ?_⟩
  refine thn (he.run pins s σ H _ I h) fun u s1 ⟨x, H1, I1, rx, a, dx, fs, ex, ea, hall⟩ => ?_
  subst ex
  obtain rfl : u = Value.ref a := rx
  obtain ⟨od, J⟩ := ins_at I1 ea
  obtain ⟨m, hF⟩ := I1.fr
  have hsp := hall s1.heap.objs.size
  have hl : [Value.ref a].length = ps.length := by
    have := G.len _ _ _ _ _ hsp
    exact this
  refine PySem.W.owit_iter hF I1.ok.mod.kin J hs hf ?_
  refine wpAny_call (codeAny_mono (G.run X.A X.stack s1 H1 [.ref a] [.ref a] _ E hr I1.env0 (by
    have := hb s1 [.ref a] I1.kIn (by rw [List.append_nil]; exact hl)
    rw [List.append_nil] at this
    exact this) (.cons rfl .nil) hsp) fun res s2 hq => ?_)
  match res, hq with
  | .error e, hq => exact hq.elim
  | .ok (.ret r), hq =>
    obtain ⟨w, H2, I2, rw', it, l, i0, rfl, hi, hn, q⟩ := I1.after hq
    cases (show r = Value.ref it from rw')
    have eo := itO_get I2 hi
    have hT : s2.TypeIs (.ref it) "list_iterator" := ⟨_, eo, rfl⟩
    have st : s2.heap.IsListIter it l (i0 + 0) := ⟨_, eo, rfl, rfl⟩
    show PySem.W.OwitIt _ _ _ _ (.ref it) s2
    unfold PySem.W.OwitIt
    refine wpAny_specialOf (name := Str.ofString "__next__") hT slot_listiter_next.lookup ?_
    have hi' := hi
    unfold ItO at hi'
    refine ⟨it, [it], _, _, dropH H2 it, rfl, inv_drop I2 hi', turn_listF l it i0, st, fun b hb => ?_, q⟩
    have e : b = it := by simpa using hb
    rw [e]
    exact inv_fp I2 hi (Nat.le_trans I1.sz hn)
  | .ok .next, hq => exact hq.elim
  | .ok .brk, hq => exact hq.elim
  | .ok .cont, hq => exact hq.elim
end
end L2
/-! < of nested tuples, an item of a nested tuple, max(.., default=..) -/
namespace L2
open PySem PySem.Spec PyProof.Rows
def rLtD (K : PySem.W.Frag) : R2 := fun x y H Q => ∃ d e, Dp K H x d ∧ Dp K H y e ∧ PySem.W.alike d e = true ∧ d ≠ .none ∧ PyData.depth d ≤ 64 ∧ Q (.bl (PySem.W.dataLt d e)) H
/-- item in a tuple -/
def rInTD (K : PySem.W.Frag) : R2 := fun x y H Q => ∃ d ds, Dp K H x d ∧ Dp K H y (.tuple ds) ∧ SeqAt.shaped d = true ∧ SeqAt.shaped (.tuple ds) = true ∧ Q (.bl (ds.any fun z => PyData.eqv z d)) H
/-- max(a list of ints, default=i) -/
def rMaxDf (K : PySem.W.Frag) : List V → List V → Hp → VK → Prop := fun vs zs H Q => ∃ (a : Addr) (ns : List Int) (i : Int), vs = [.ref a] ∧ zs = [.int i] ∧ SqL K H a (ns.map V.int) ∧ (ns = [] → Q (.int i) H) ∧ (∀ n r, ns = n :: r → Q (.int (r.foldl max n)) H)
section
variable {X : Cx}
theorem op_ltD (hu : X.A.units + 64 < cLine) : OpR X (compareOp .Lt) (rLtD X.K) := by
  intro pins s σ H x y v u Q I rx ry h
  obtain ⟨d, e, hd, he, ha, hn, hdp, q⟩ := h
  obtain ⟨as, r1⟩ := Dp.reads I d x v hd rx
  obtain ⟨bs, r2⟩ := Dp.reads I e y u he ry
  have hm : min d.depth e.depth ≤ 64 := Nat.le_trans (Nat.min_le_left _ _) hdp
  exact PySem.W.rcLt_alike d e X.A s v u as bs r1 r2 ha hn (by omega) X.prog X.w X.xe _ ⟨.bl _, H, I, rfl, q⟩
theorem op_inTD (hu : X.A.units + 65 < cLine) : OpR X (compareOp .In) (rInTD X.K) := by
  intro pins s σ H x y v u Q I rx ry h
  obtain ⟨d, ds, hd, he, sd, se, q⟩ := h
  obtain ⟨as, r1⟩ := Dp.reads I d x v hd rx
  obtain ⟨bs, r2⟩ := Dp.reads I (.tuple ds) y u he ry
  have hm : min (PyData.depthAll ds) d.depth ≤ 64 := Nat.le_trans (Nat.min_le_right _ _) (SeqAt.depth_of_shaped sd)
  exact SeqAt.in_tuple_reads r2 r1 (SeqAt.canLay_of_shaped se) (SeqAt.canLay_of_shaped sd) (by omega) ⟨.bl _, H, I, rfl, q⟩
theorem alike_ints (ns : List Int) : PySem.W.AlikeAll (ns.map PyData.int) := by
  refine ⟨fun d hd e he => ?_, fun d hd => ?_⟩
  · obtain ⟨i, _, rfl⟩ := List.mem_map.mp hd
    obtain ⟨j, _, rfl⟩ := List.mem_map.mp he
    rfl
  · obtain ⟨i, _, rfl⟩ := List.mem_map.mp hd
    intro h; cases h
theorem depth_ints : ∀ ns : List Int, PyData.depthAll (ns.map PyData.int) = 0
  | [] => rfl
  | n :: r => by
    show max (PyData.depth (.int n)) (PyData.depthAll (r.map PyData.int)) = 0
    rw [depth_ints r]; rfl
theorem dp_ints {K : PySem.W.Frag} {H : Hp} : ∀ ns : List Int, DpAll K H (ns.map V.int) (ns.map PyData.int)
  | [] => .nil
  | n :: r => .cons (.int n) (dp_ints r)
theorem cr_maxDf (hc : X.calm = true) (hu : X.A.units + 64 < cLine) : CallRK X (.builtin "max") ["default"] (rMaxDf X.K) := by
  intro pins s σ H xs zs us ws Q I r rz h
  obtain ⟨a, ns, i, rfl, rfl, hs, q0, q1⟩ := h
  obtain ⟨its, rv, hl, hz⟩ := I.list hs
  obtain ⟨u, rfl, ru⟩ := vals1 r
  cases ru
  obtain ⟨d, rfl, rd⟩ := vals1 rz
  obtain ⟨t, rfl⟩ := (show ∃ t, d = Value.int i t from rd)
  obtain ⟨as, ra⟩ := Dp.readsAll I (ns.map PyData.int) (ns.map V.int) its (dp_ints ns) rv
  show wpAny (model X.prog X.w) X.A (call (.builtin "max") [.ref a] [(Str.ofString "default", .int i t)]) (EP X pins σ Q) X.xe s
  refine PySem.W.max_list_default (vs := its.toArray) (as := as) (I.ok.hd hc) hl.isList (by rw [List.toList_toArray]; exact ra) (alike_ints ns) (by rw [depth_ints]; omega) (fun e h' tk hk => ?_) fun y ys j v h' tk bs e hv hr hk => ?_
  · exact ⟨.int i, H, I.kept hk, ⟨_, rfl⟩, q0 (by
      cases ns with
      | nil => rfl
      | cons _ _ => cases e)⟩
  · cases ns with
    | nil => cases e
    | cons n r =>
      have e1 := List.cons.inj e
      rw [← e1.1, ← e1.2, PySem.W.maxD_ints] at hr
      cases hr
      exact ⟨.int _, H, I.kept hk, ⟨_, rfl⟩, q1 n r rfl⟩
end
end L2
/-! plain law: a finite set of finite sets is a number, its members the places of its bits -/
namespace Ak
open PySem
def mem (n : Nat) : List Nat := (List.range n).filter (n.testBit ·)
theorem lt_of_bit {n m : Nat} (h : n.testBit m = true) : m < n := Nat.lt_of_lt_of_le Nat.lt_two_pow_self (Nat.ge_two_pow_of_testBit h)
theorem mem_iff {n m : Nat} : m ∈ mem n ↔ n.testBit m = true := by
  unfold mem
  rw [List.mem_filter, List.mem_range]
  exact ⟨fun h => h.2, fun h => ⟨lt_of_bit h, h⟩⟩
theorem mem_lt {n m : Nat} (h : m ∈ mem n) : m < n := lt_of_bit (mem_iff.mp h)
theorem mem_asc (n : Nat) : (mem n).Pairwise (· < ·) := List.Pairwise.filter _ List.pairwise_lt_range
theorem ext {a b : Nat} (h : ∀ m, m ∈ mem a ↔ m ∈ mem b) : a = b := by
  refine Nat.eq_of_testBit_eq fun m => ?_
  have := h m
  rw [mem_iff, mem_iff] at this
  cases e : a.testBit m with
  | true => exact (this.mp e).symm
  | false =>
    cases e2 : b.testBit m with
    | true => rw [this.mpr e2] at e; cases e
    | false => rfl
/-- the number of a list of members -/
def num : List Nat → Nat
  | [] => 0
  | m :: r => 2 ^ m ||| num r
theorem bit_num : ∀ (l : List Nat) (i : Nat), (num l).testBit i = true ↔ i ∈ l
  | [], i => by simp [num]
  | m :: r, i => by
    show (2 ^ m ||| num r).testBit i = true ↔ _
    rw [Nat.testBit_or, Nat.testBit_two_pow, Bool.or_eq_true, bit_num r i, decide_eq_true_eq, List.mem_cons]
    exact or_congr (by omega) Iff.rfl
theorem mem_num {l : List Nat} {i : Nat} : i ∈ mem (num l) ↔ i ∈ l := by rw [mem_iff, bit_num]
theorem num_eq {l k : List Nat} : num l = num k ↔ ∀ i, i ∈ l ↔ i ∈ k := by
  constructor
  · intro h i
    rw [← mem_num (l := l), h, mem_num]
  · intro h
    exact ext fun i => by rw [mem_num, mem_num]; exact h i
/-- ascending lists of the same members -/
theorem asc_eq : ∀ {xs ys : List Nat}, xs.Pairwise (· < ·) → ys.Pairwise (· < ·) → (∀ i, i ∈ xs ↔ i ∈ ys) → xs = ys
  | [], [], _, _, _ => rfl
  | [], y :: _, _, _, h => absurd ((h y).mpr List.mem_cons_self) List.not_mem_nil
  | x :: _, [], _, _, h => absurd ((h x).mp List.mem_cons_self) List.not_mem_nil
  | x :: xs, y :: ys, h1, h2, h => by
    rw [List.pairwise_cons] at h1 h2
    have e : x = y := by
      rcases List.mem_cons.mp ((h x).mp List.mem_cons_self) with a | a
      · exact a
      · rcases List.mem_cons.mp ((h y).mpr List.mem_cons_self) with b | b
        · exact b.symm
        · have := h2.1 x a; have := h1.1 y b; omega
    subst e
    refine congrArg _ (asc_eq h1.2 h2.2 fun i => ?_)
    have := h i
    rw [List.mem_cons, List.mem_cons] at this
    constructor
    · intro hi
      rcases this.mp (.inr hi) with a | a
      · rw [a] at hi; have := h1.1 _ hi; omega
      · exact a
    · intro hi
      rcases this.mpr (.inr hi) with a | a
      · rw [a] at hi; have := h2.1 _ hi; omega
      · exact a
theorem num_mem (n : Nat) : num (mem n) = n := ext fun i => mem_num
theorem mem_of {xs : List Nat} {n : Nat} (h : xs.Pairwise (· < ·)) (e : ∀ i, i ∈ xs ↔ n.testBit i = true) : mem n = xs := asc_eq (mem_asc n) h fun i => by rw [mem_iff, e]
theorem len_num (l : List Nat) : (mem (num l)).length ≤ l.length := by
  have h : (mem (num l)).Nodup := List.Pairwise.imp (fun h => Nat.ne_of_lt h) (mem_asc _)
  exact h.length_le_of_subset fun x hx => mem_num.mp hx
theorem num_lt {k : Nat} : ∀ {l : List Nat}, (∀ x ∈ l, x < k) → num l < 2 ^ k
  | [], _ => Nat.two_pow_pos k
  | m :: r, h => Nat.or_lt_two_pow (Nat.pow_lt_pow_right (by decide) (h m List.mem_cons_self)) (num_lt fun x hx => h x (List.mem_cons_of_mem _ hx))
theorem num_add {m : Nat} {r : List Nat} (h : ∀ x ∈ r, x < m) : num (m :: r) = 2 ^ m + num r := by
  have := Nat.two_pow_add_eq_or_of_lt (num_lt h) 1
  rw [Nat.mul_one] at this
  exact this.symm
theorem num_ge (m : Nat) (r : List Nat) : 2 ^ m ≤ num (m :: r) := Nat.left_le_or
/-! the data of a nest -/
def nkey (n : Nat) : PyData := .tuple ((mem n).reverse.attach.map fun m => nkey m.1)
termination_by n
decreasing_by exact mem_lt (List.mem_reverse.mp m.2)
theorem nkey_eq (n : Nat) : nkey n = .tuple ((mem n).reverse.map nkey) := by
  rw [nkey, List.attach_map_val (f := nkey)]
/-- the depth -/
def dep (n : Nat) : Nat := ((mem n).attach.map fun m => dep m.1 + 1).foldl max 0
termination_by n
decreasing_by exact mem_lt m.2
theorem dep_eq (n : Nat) : dep n = ((mem n).map fun m => dep m + 1).foldl max 0 := by
  rw [dep, List.attach_map_val (f := fun m => dep m + 1)]
/-- the pairs of braces -/
def br (n : Nat) : Nat := 1 + ((mem n).attach.map fun m => br m.1).sum
termination_by n
decreasing_by exact mem_lt m.2
theorem br_eq (n : Nat) : br n = 1 + ((mem n).map br).sum := by
  rw [br, List.attach_map_val (f := br)]
theorem foldmax_le : ∀ (l : List Nat) (a k : Nat), a ≤ k → (∀ x ∈ l, x ≤ k) → l.foldl max a ≤ k
  | [], _, _, h, _ => h
  | x :: r, a, k, h, hx => foldmax_le r (max a x) k (Nat.max_le.mpr ⟨h, hx x List.mem_cons_self⟩) fun y hy => hx y (List.mem_cons_of_mem _ hy)
theorem foldmax_ge0 : ∀ (l : List Nat) (a : Nat), a ≤ l.foldl max a
  | [], _ => Nat.le_refl _
  | x :: r, a => Nat.le_trans (Nat.le_max_left _ _) (foldmax_ge0 r (max a x))
theorem foldmax_ge : ∀ (l : List Nat) (a x : Nat), x ∈ l → x ≤ l.foldl max a
  | y :: r, a, x, h => by
    rcases List.mem_cons.mp h with e | e
    · rw [e]; exact Nat.le_trans (Nat.le_max_right _ _) (foldmax_ge0 r (max a y))
    · exact foldmax_ge r (max a y) x e
theorem dep_mem {n m : Nat} (h : m ∈ mem n) : dep m + 1 ≤ dep n := by
  rw [dep_eq n]
  exact foldmax_ge _ _ _ (List.mem_map.mpr ⟨m, h, rfl⟩)
theorem dep_le {n k : Nat} (h : ∀ m ∈ mem n, dep m + 1 ≤ k) : dep n ≤ k := by
  rw [dep_eq n]
  refine foldmax_le _ _ _ (Nat.zero_le _) fun x hx => ?_
  obtain ⟨m, hm, rfl⟩ := List.mem_map.mp hx
  exact h m hm
theorem depthAll_le {k : Nat} : ∀ {ds : List PyData}, (∀ d ∈ ds, PyData.depth d ≤ k) → PyData.depthAll ds ≤ k
  | [], _ => Nat.zero_le _
  | d :: r, h => Nat.max_le.mpr ⟨h d List.mem_cons_self, depthAll_le fun e he => h e (List.mem_cons_of_mem _ he)⟩
theorem key_depth (n : Nat) : PyData.depth (nkey n) ≤ dep n + 1 := by
  induction n using Nat.strongRecOn with
  | _ n ih =>
    rw [nkey_eq]
    show PyData.depthAll _ + 1 ≤ _
    refine Nat.succ_le_succ (depthAll_le fun d hd => ?_)
    obtain ⟨m, hm, rfl⟩ := List.mem_map.mp hd
    have hm := List.mem_reverse.mp hm
    exact Nat.le_trans (ih m (mem_lt hm)) (dep_mem hm)
theorem key_lay (n : Nat) : PyData.canLay0 (nkey n) = true := by
  induction n using Nat.strongRecOn with
  | _ n ih =>
    rw [nkey_eq]
    have all : ∀ l : List Nat, (∀ m ∈ l, m < n) → PyData.canLayAll0 (l.map nkey) = true := by
      intro l
      induction l with
      | nil => intro _; rfl
      | cons x r ihr =>
        intro h
        show (PyData.canLay0 (nkey x) && PyData.canLayAll0 (r.map nkey)) = true
        rw [ih x (h x List.mem_cons_self), ihr fun m hm => h m (List.mem_cons_of_mem _ hm)]; rfl
    exact all _ fun m hm => mem_lt (List.mem_reverse.mp hm)
theorem key_pl (n : Nat) : Lw.pl (nkey n) = true := by
  induction n using Nat.strongRecOn with
  | _ n ih =>
    rw [nkey_eq]
    have all : ∀ l : List Nat, (∀ m ∈ l, m < n) → Lw.plAll (l.map nkey) = true := by
      intro l
      induction l with
      | nil => intro _; rfl
      | cons x r ihr =>
        intro h
        show (Lw.pl (nkey x) && Lw.plAll (r.map nkey)) = true
        rw [ih x (h x List.mem_cons_self), ihr fun m hm => h m (List.mem_cons_of_mem _ hm)]; rfl
    exact all _ fun m hm => mem_lt (List.mem_reverse.mp hm)
theorem map_inj {f : Nat → PyData} : ∀ {xs ys : List Nat}, (∀ x ∈ xs, ∀ y, f x = f y → x = y) → xs.map f = ys.map f → xs = ys
  | [], [], _, _ => rfl
  | [], _ :: _, _, h => by cases h
  | _ :: _, [], _, h => by cases h
  | x :: xs, y :: ys, hi, h => by
    have h' := List.cons.inj h
    rw [hi x List.mem_cons_self y h'.1, map_inj (fun a ha => hi a (List.mem_cons_of_mem _ ha)) h'.2]
theorem key_inj {a b : Nat} (h : nkey a = nkey b) : a = b := by
  induction a using Nat.strongRecOn generalizing b with
  | _ a ih =>
    rw [nkey_eq a, nkey_eq b] at h
    have h := PyData.tuple.inj h
    have := map_inj (fun x hx y e => ih x (mem_lt (List.mem_reverse.mp hx)) e) h
    have := List.reverse_inj.mp this
    exact ext fun m => by rw [this]
theorem key_eqv (a b : Nat) : PyData.eqv (nkey a) (nkey b) = decide (a = b) := by
  have h := Lw.eqv_iff (nkey a) (nkey b) (key_pl a) (key_pl b)
  rw [Bool.eq_iff_iff, h, decide_eq_true_eq]
  exact ⟨key_inj, fun e => by rw [e]⟩
theorem key_alike (a b : Nat) : PySem.W.alike (nkey a) (nkey b) = true := by
  induction a using Nat.strongRecOn generalizing b with
  | _ a ih =>
    have all : ∀ l k : List Nat, (∀ m ∈ l, m < a) → PySem.W.alikeAll (l.map nkey) (k.map nkey) = true := by
      intro l
      induction l with
      | nil => intro k _; cases k <;> rfl
      | cons x r ihr =>
        intro k h
        cases k with
        | nil => rfl
        | cons y s =>
          show PySem.W.alikeAll (nkey x :: r.map nkey) (nkey y :: s.map nkey) = true
          rw [PySem.W.alikeAll, ih x (h x List.mem_cons_self) y, ihr s fun m hm => h m (List.mem_cons_of_mem _ hm)]; rfl
    rw [nkey_eq a, nkey_eq b]
    show PySem.W.alikeAll _ _ = true
    exact all _ _ fun m hm => mem_lt (List.mem_reverse.mp hm)
theorem desc_lt : ∀ (xs ys : List Nat), (∀ x ∈ xs, ∀ y, PySem.W.dataLt (nkey x) (nkey y) = decide (x < y)) → xs.Pairwise (· > ·) → ys.Pairwise (· > ·) →
    PyProof.Rows.lexLt PyProof.Rows.itemOrd (PySem.W.keyToksAll (xs.map nkey)) (PySem.W.keyToksAll (ys.map nkey)) = decide (num xs < num ys)
  | [], [], _, _, _ => by decide
  | [], y :: ys, _, _, _ => by
    rw [decide_eq_true (show num [] < num (y :: ys) from Nat.lt_of_lt_of_le (Nat.two_pow_pos y) (num_ge y ys))]
    show PyProof.Rows.lexLt PyProof.Rows.itemOrd (PySem.W.keyToksAll []) (PySem.W.keyToksAll (nkey y :: ys.map nkey)) = true
    rw [PySem.W.toks_all_cons, PySem.W.keyToksAll]
    exact (PySem.W.lex_atom (by simp) [] _).trans (by rw [PySem.W.lex_one]; rfl)
  | x :: xs, [], _, _, _ => by
    rw [decide_eq_false (show ¬ num (x :: xs) < num [] from Nat.not_lt_zero _)]
    show PyProof.Rows.lexLt PyProof.Rows.itemOrd (PySem.W.keyToksAll (nkey x :: xs.map nkey)) (PySem.W.keyToksAll []) = false
    rw [PySem.W.toks_all_cons, PySem.W.keyToksAll]
    exact (PySem.W.lex_atom (by simp) _ []).trans (by rw [PySem.W.lex_one]; rfl)
  | x :: xs, y :: ys, hi, h1, h2 => by
    rw [List.pairwise_cons] at h1 h2
    show PyProof.Rows.lexLt PyProof.Rows.itemOrd (PySem.W.keyToksAll (nkey x :: xs.map nkey)) (PySem.W.keyToksAll (nkey y :: ys.map nkey)) = _
    by_cases e : x = y
    · subst e
      rw [PySem.W.dataLt_all_yes (key_alike x x) (by rw [key_eqv]; exact decide_eq_true rfl), desc_lt xs ys (fun a ha => hi a (List.mem_cons_of_mem _ ha)) h1.2 h2.2, num_add (fun a ha => h1.1 a ha), num_add (fun a ha => h2.1 a ha)]
      rw [Bool.eq_iff_iff, decide_eq_true_eq, decide_eq_true_eq]
      omega
    · rw [PySem.W.dataLt_all_no (key_alike x y) (by rw [key_eqv]; exact decide_eq_false e), hi x List.mem_cons_self y]
      have big : ∀ (p q : Nat) (ps qs : List Nat), p < q → (∀ a ∈ ps, a < p) → num (p :: ps) < num (q :: qs) := fun p q ps qs hpq hp =>
        Nat.lt_of_lt_of_le (num_lt (k := q) fun a ha => by
          rcases List.mem_cons.mp ha with z | z
          · omega
          · have := hp a z; omega) (num_ge q qs)
      rcases Nat.lt_or_ge x y with h | h
      · rw [decide_eq_true h, decide_eq_true (big x y xs ys h fun a ha => h1.1 a ha)]
      · have h' : y < x := by omega
        have := big y x ys xs h' fun a ha => h2.1 a ha
        rw [decide_eq_false (by omega), decide_eq_false (by omega)]
theorem num_rev (n : Nat) : num (mem n).reverse = n := ext fun i => by rw [mem_num, List.mem_reverse]
theorem desc_rev (n : Nat) : (mem n).reverse.Pairwise (· > ·) := List.pairwise_reverse.mpr (mem_asc n)
theorem key_lt (a b : Nat) : PySem.W.dataLt (nkey a) (nkey b) = decide (a < b) := by
  induction a using Nat.strongRecOn generalizing b with
  | _ a ih =>
    rw [nkey_eq a, nkey_eq b, PySem.W.dataLt_tuple, desc_lt _ _ (fun x hx y => ih x (mem_lt (List.mem_reverse.mp hx)) y) (desc_rev a) (desc_rev b), num_rev, num_rev]
end Ak
/-! a Nest on the heap: the number whose bits are its members -/
namespace L2
open PySem PySem.Spec PyProof.Rows
section
variable {X : Cx} {k : Nat}
theorem Room.deep {k : Nat} {A : Around} (r : Room k A) : A.units + 150 < cLine := by have := r.un; omega
/-- ==, <, in of data down to a depth of 150 -/
def rEqD2 (K : PySem.W.Frag) : R2 := fun x y H Q => ∃ d e, Dp K H x d ∧ Dp K H y e ∧ PyData.canLay0 d = true ∧ PyData.canLay0 e = true ∧ min d.depth e.depth ≤ 149 ∧ Q (.bl (PyData.eqv d e)) H
def rLtD2 (K : PySem.W.Frag) : R2 := fun x y H Q => ∃ d e, Dp K H x d ∧ Dp K H y e ∧ PySem.W.alike d e = true ∧ d ≠ .none ∧ min d.depth e.depth ≤ 149 ∧ Q (.bl (PySem.W.dataLt d e)) H
def rInTD2 (K : PySem.W.Frag) : R2 := fun x y H Q => ∃ d ds, Dp K H x d ∧ Dp K H y (.tuple ds) ∧ PyData.canLay0 d = true ∧ PyData.canLay0 (.tuple ds) = true ∧ min (PyData.depthAll ds) d.depth ≤ 149 ∧ Q (.bl (ds.any fun z => PyData.eqv z d)) H
theorem op_eqD2 (hr : Room k X.A) : OpR X (compareOp .Eq) (rEqD2 X.K) := by
  intro pins s σ H x y v u Q I rx ry h
  obtain ⟨d, e, hd, he, sd, se, dp, q⟩ := h
  obtain ⟨as, r1⟩ := Dp.reads I d x v hd rx
  obtain ⟨bs, r2⟩ := Dp.reads I e y u he ry
  have hu := hr.deep
  exact SeqAt.compareEq_reads r1 r2 sd se (by omega) ⟨.bl _, H, I, rfl, q⟩
theorem op_ltD2 (hr : Room k X.A) : OpR X (compareOp .Lt) (rLtD2 X.K) := by
  intro pins s σ H x y v u Q I rx ry h
  obtain ⟨d, e, hd, he, ha, hn, dp, q⟩ := h
  obtain ⟨as, r1⟩ := Dp.reads I d x v hd rx
  obtain ⟨bs, r2⟩ := Dp.reads I e y u he ry
  have hu := hr.deep
  exact PySem.W.rcLt_alike d e X.A s v u as bs r1 r2 ha hn (by omega) X.prog X.w X.xe _ ⟨.bl _, H, I, rfl, q⟩
theorem op_inTD2 (hr : Room k X.A) : OpR X (compareOp .In) (rInTD2 X.K) := by
  intro pins s σ H x y v u Q I rx ry h
  obtain ⟨d, ds, hd, he, sd, se, dp, q⟩ := h
  obtain ⟨as, r1⟩ := Dp.reads I d x v hd rx
  obtain ⟨bs, r2⟩ := Dp.reads I (.tuple ds) y u he ry
  have hu := hr.deep
  exact SeqAt.in_tuple_reads r2 r1 se sd (by omega) ⟨.bl _, H, I, rfl, q⟩
/-- iter(a list), the iterator above what there was when the def began -/
def rIterN (K : PySem.W.Frag) (n : Nat) : List V → Hp → VK → Prop := fun xs H Q => ∃ (l : Addr) (zs : List V), xs = [.ref l] ∧ SqL K H l zs ∧ ∀ it, H it = none → n ≤ it → Q (.ref it) (upd H it (ItO l it 0))
theorem call_iterN : CallR X (.builtin "iter") (rIterN X.K X.s_0.heap.objs.size) := by
  intro pins s σ H xs us Q I r h
  obtain ⟨l, zs, rfl, hq, q⟩ := h
  obtain rfl := Vals.ref1 r
  obtain ⟨its, rv, pl, hz⟩ := I.list hq
  refine GNX.call_iter pl.isList ?_
  exact ⟨.ref s.heap.objs.size, _, I.laid (t' := s.toks) (fun b u e => Heap.get?_push_of_some _ e) (Nat.le_refl _) (itO_ok (Heap.get?_push_size _ rfl)), rfl, q _ (I.hok.fresh (Nat.le_refl _)) I.sz⟩
theorem pe_fldK {K : PySem.W.Frag} {e : Expr} {ta : TE} {f : Str} {pos : Pos} (h : X.K = K) (he : PE X e ta) (hb : attributeBase e f X.env (eval e X.env) = eval e X.env) : PE X (.Attribute e f pos) (tFld K ta f) := by subst h; exact pe_fld he hb
/-- x(e, ..), x a def told by its positional promise -/
def tCallR (sp : Sp) (E : XK) (t : TA) : TE := fun σ H Q => t σ H fun vs H1 => sp vs H1 Q E
theorem pe_callR {CX : CXT} {k : Nat} {f : Addr} {sp : Sp} {E : XK} {x : Str} {e : Expr} {es : List Expr} {t : TA} {p pos : Pos} (F : FnR X.prog X.w X.K X.mg X.base CX k f sp) (hr : Room k X.A) (hg : Gl X x) (hm : X.mg x = some (.ref f)) (hk : PySem.W.keepIn X.K (.ref f) = true) (hx : Passes CX X E)
    (ha : PA X (e :: es) t) (hdb : (x == ("__debug__" : Str)) = false := by decide) (he : starEach (e :: es) X.env = (false, eval e X.env) :: starEach es X.env := by rfl) (hpl : (backTo pos (starEach es X.env)).any (·.1) = false := by rfl) :
    PE X (.Call (.Name x p) (e :: es) [] pos) (tCallR sp E t) := by
  refine ⟨fun pins s σ H Q I h => ?_⟩
  refine wpAny_Call_Name_kw (ld_glob I hg hm ?_ hdb)
  refine PySem.W.callWith_K (h₀ := X.base) I.ok.mod.kin hk (thn (ha.run pos pins s σ H _ I h) fun us s1 ⟨vs, H1, I1, r, q⟩ => ⟨I1.kIn, ?_⟩) he hpl
  exact wpAny_call (run_fnR F hr hx I1 r q)
theorem pe_callR0 {CX : CXT} {k : Nat} {f : Addr} {sp : Sp} {E : XK} {x : Str} {p pos : Pos} (F : FnR X.prog X.w X.K X.mg X.base CX k f sp) (hr : Room k X.A) (hg : Gl X x) (hm : X.mg x = some (.ref f)) (hk : PySem.W.keepIn X.K (.ref f) = true) (hx : Passes CX X E)
    (hdb : (x == ("__debug__" : Str)) = false := by decide) : PE X (.Call (.Name x p) [] [] pos) (tCallR sp E tNil) := by
  refine ⟨fun pins s σ H Q I h => ?_⟩
  refine wpAny_Call_Name_kw (ld_glob I hg hm ?_ hdb)
  exact PySem.W.callWith_K0 I.kIn hk (wpAny_call (run_fnR F hr hx I .nil h))
/-- what is never reached -/
theorem pe_never {e : Expr} : PE X e (fun _ _ _ => False) := ⟨fun _ _ _ _ _ _ h => h.elim⟩
end
end L2
namespace Lw
open PySem PySem.Spec PyProof.Rows L2
/-- the fields of a nest, in the order of __init__ -/
def nf (l kt : Addr) (n : Nat) : List (Str × V) := [("members", .ref l), ("key", .ref kt), ("depth", .int ((Ak.dep n : Nat) : Int)), ("braces", .int ((Ak.br n : Nat) : Int))]
theorem nf_m {l kt : Addr} {n : Nat} : (nf l kt n).lookup ("members" : Str) = some (.ref l) := rfl
theorem nf_k {l kt : Addr} {n : Nat} : (nf l kt n).lookup ("key" : Str) = some (.ref kt) := rfl
theorem nf_d {l kt : Addr} {n : Nat} : (nf l kt n).lookup ("depth" : Str) = some (.int ((Ak.dep n : Nat) : Int)) := rfl
theorem nf_b {l kt : Addr} {n : Nat} : (nf l kt n).lookup ("braces" : Str) = some (.int ((Ak.br n : Nat) : Int)) := rfl
theorem nf_put {l kt : Addr} {n : Nat} : putF "braces" (.int ((Ak.br n : Nat) : Int)) (putF "depth" (.int ((Ak.dep n : Nat) : Int)) (putF "key" (.ref kt) (putF "members" (.ref l) []))) = nf l kt n := rfl
/-- what the class is -/
structure ZN (K : PySem.W.Frag) (mg : Str → Option Value) (C : Addr) : Prop where
  gN : mg "Nest" = some (.ref C)
  cl : Cls K C
  nM : NoAttr K C "members"
  nK : NoAttr K C "key"
  nD : NoAttr K C "depth"
  nB : NoAttr K C "braces"
  kt : PySem.W.kitOne K (.ref C) (.ref C) = some true
  c4 : PySem.W.findIn K (.ref C) "__class__" = some (some (.builtin "object.__class__"))
  c5 : PySem.W.specialIn K (.builtin "object.__class__") "__get__" = some (some (.builtin "getset_descriptor.__get__"))
  c6 : PySem.W.takesIn K (.builtin "object.__class__") = some true
  c7 : PySem.W.mroIn K C (.type "object") = some true
  ne : PySem.W.findIn K (.ref C) "__ne__" = some (some (.builtin "object.__ne__"))
theorem ZN.ty {K : PySem.W.Frag} {mg : Str → Option Value} {C : Addr} (Z : ZN K mg C) {H : Hp} {a dx : Addr} {fs : List (Str × V)} (e : H a = some (.ins C dx fs)) : TyX K H (.ref a) (.ref C) := .base (.ins e Z.cl Z.c4 Z.c5 Z.c6 Z.c7)
theorem ZN.nf (K : PySem.W.Frag) (C : Addr) : PySem.W.notFirst K C (.ref C) = true := by unfold PySem.W.notFirst; rw [beq_self_eq_true]; rfl
/-- the nest n stands at a -/
inductive NAt (K : PySem.W.Frag) (C : Addr) (U : Addr → Prop) (H : Hp) : Addr → Nat → Prop where
  | mk {a dx l kt : Addr} {n : Nat} {as : List Addr} (h0 : U l) (h1 : H a = some (.ins C dx (nf l kt n))) (h2 : H l = some (.lst (as.map V.ref))) (h3 : as.length = (Ak.mem n).length)
      (h4 : ∀ (i : Nat) (b : Addr) (m : Nat), as[i]? = some b → (Ak.mem n)[i]? = some m → NAt K C U H b m) (h5 : Dp K H (.ref kt) (Ak.nkey n)) : NAt K C U H a n
/-- nests by their numbers -/
structure NL (K : PySem.W.Frag) (C : Addr) (U : Addr → Prop) (H : Hp) (as : List Addr) (ns : List Nat) : Prop where
  len : as.length = ns.length
  at_ : ∀ (i : Nat) (b : Addr) (m : Nat), as[i]? = some b → ns[i]? = some m → NAt K C U H b m
section
variable {K : PySem.W.Frag} {C : Addr} {U : Addr → Prop} {H H' : Hp}
theorem NAt.get {a : Addr} {n : Nat} (h : NAt K C U H a n) : ∃ dx l kt as, H a = some (.ins C dx (nf l kt n)) ∧ H l = some (.lst (as.map V.ref)) ∧ NL K C U H as (Ak.mem n) ∧ Dp K H (.ref kt) (Ak.nkey n) := by
  cases h with
  | mk h0 h1 h2 h3 h4 h5 => exact ⟨_, _, _, _, h1, h2, ⟨h3, h4⟩, h5⟩
theorem NAt.of {a dx l kt : Addr} {n : Nat} {as : List Addr} (h0 : U l) (h1 : H a = some (.ins C dx (nf l kt n))) (h2 : H l = some (.lst (as.map V.ref))) (h3 : NL K C U H as (Ak.mem n)) (h5 : Dp K H (.ref kt) (Ak.nkey n)) : NAt K C U H a n := .mk h0 h1 h2 h3.len h3.at_ h5
theorem NAt.mono (s : Same H H') {a : Addr} {n : Nat} (h : NAt K C U H a n) : NAt K C U H' a n := by
  induction h with
  | mk h0 h1 h2 h3 _ h5 ih => exact .mk h0 (s _ _ h1) (s _ _ h2) h3 ih (dp_mono s h5)
theorem NL.mono (s : Same H H') {as : List Addr} {ns : List Nat} (h : NL K C U H as ns) : NL K C U H' as ns := ⟨h.len, fun i b m e1 e2 => (h.at_ i b m e1 e2).mono s⟩
theorem NL.nil : NL K C U H [] [] := ⟨rfl, fun i b m e => by simp at e⟩
theorem NL.push {as : List Addr} {ns : List Nat} {a : Addr} {n : Nat} (h : NL K C U H as ns) (e : NAt K C U H a n) : NL K C U H (as ++ [a]) (ns ++ [n]) := by
  refine ⟨by rw [List.length_append, List.length_append, h.len]; rfl, fun i b m h1 h2 => ?_⟩
  by_cases hi : i < as.length
  · rw [List.getElem?_append_left hi] at h1
    rw [List.getElem?_append_left (by rw [← h.len]; exact hi)] at h2
    exact h.at_ i b m h1 h2
  · rw [List.getElem?_append_right (by omega)] at h1
    rw [List.getElem?_append_right (by rw [← h.len]; omega)] at h2
    rw [← h.len] at h2
    cases hj : i - as.length with
    | zero => rw [hj] at h1 h2; cases h1; cases h2; exact e
    | succ j => rw [hj] at h1; simp at h1
theorem NL.num {as : List Addr} {ns : List Nat} {i : Nat} {b : Addr} (h : NL K C U H as ns) (e : as[i]? = some b) : ∃ m, ns[i]? = some m ∧ NAt K C U H b m := by
  have hi : i < ns.length := by rw [← h.len]; exact (List.getElem?_eq_some_iff.mp e).1
  exact ⟨ns[i], by simp [hi], h.at_ i b _ e (by simp [hi])⟩
theorem NL.adr {as : List Addr} {ns : List Nat} {i : Nat} {m : Nat} (h : NL K C U H as ns) (e : ns[i]? = some m) : ∃ b, as[i]? = some b ∧ NAt K C U H b m := by
  have hi : i < as.length := by rw [h.len]; exact (List.getElem?_eq_some_iff.mp e).1
  exact ⟨as[i], by simp [hi], h.at_ i _ _ (by simp [hi]) e⟩
theorem NL.mem {as : List Addr} {ns : List Nat} {b : Addr} (h : NL K C U H as ns) (e : b ∈ as) : ∃ m, m ∈ ns ∧ NAt K C U H b m := by
  obtain ⟨i, hi⟩ := List.mem_iff_getElem?.mp e
  obtain ⟨m, h1, h2⟩ := h.num hi
  exact ⟨m, List.mem_of_getElem? h1, h2⟩
theorem NL.map {as : List Addr} {f : Addr → Nat} (h : ∀ a ∈ as, NAt K C U H a (f a)) : NL K C U H as (as.map f) :=
  ⟨(List.length_map _).symm, fun i b m e1 e2 => by
    rw [List.getElem?_map, e1] at e2
    cases e2
    exact h b (List.mem_of_getElem? e1)⟩
theorem NL.append {as bs : List Addr} {ns ms : List Nat} (h : NL K C U H as ns) (h2 : NL K C U H bs ms) : NL K C U H (as ++ bs) (ns ++ ms) := by
  refine ⟨by rw [List.length_append, List.length_append, h.len, h2.len], fun i b m e1 e2 => ?_⟩
  by_cases hi : i < as.length
  · rw [List.getElem?_append_left hi] at e1
    rw [List.getElem?_append_left (by rw [← h.len]; exact hi)] at e2
    exact h.at_ i b m e1 e2
  · rw [List.getElem?_append_right (by omega)] at e1
    rw [List.getElem?_append_right (by rw [← h.len]; omega), ← h.len] at e2
    exact h2.at_ _ b m e1 e2
/-- one heap, one number -/
theorem dp_key {v : V} {n m : Nat} (h : NAt K C U H a n) (g : NAt K C U H a m) : n = m := by
  induction h generalizing m with
  | @mk a dx l kt n as h0 h1 h2 h3 h4 h5 ih =>
    obtain ⟨dx', l', kt', as', e1, e2, e3, e5⟩ := g.get
    rw [h1] at e1
    have e1 := Option.some.inj e1
    simp only [HO.ins.injEq, nf, List.cons.injEq, Prod.mk.injEq, V.ref.injEq, V.int.injEq, true_and, and_true] at e1
    obtain ⟨_, rfl, rfl, _⟩ := e1
    rw [h2] at e2
    have e2 := Option.some.inj e2
    simp only [HO.lst.injEq] at e2
    have e2 : as = as' := (List.map_inj_right (fun a b h => by cases h; rfl)).mp e2
    subst e2
    have : Ak.mem n = Ak.mem m := by
      apply List.ext_getElem?
      intro i
      cases ea : as[i]? with
      | none =>
        have hl := List.getElem?_eq_none_iff.mp ea
        rw [List.getElem?_eq_none (by rw [← h3]; exact hl), List.getElem?_eq_none (by rw [← e3.len]; exact hl)]
      | some b =>
        obtain ⟨p, hp, hq⟩ := e3.num ea
        obtain ⟨q, hq1, hq2⟩ := (NL.mk h3 h4).num ea
        rw [hp, hq1, ih i b q ea hq1 hq]
    exact Ak.ext fun i => by rw [this]
theorem NAt.uniq {a : Addr} {n m : Nat} (h : NAt K C U H a n) (g : NAt K C U H a m) : n = m := dp_key (v := .non) h g
/-- what nests need to be kept -/
def KU (U : Addr → Prop) (H H' : Hp) : Prop := ∀ c o, H c = some o → (∀ xs, o = .lst xs → U c) → (∀ C dx fs, o = .ins C dx fs → fs.length = 4) → H' c = some o
theorem KU.of (s : Same H H') : KU U H H' := fun c o e _ _ => s c o e
theorem KU.trans {H'' : Hp} (k : KU U H H') (k2 : KU U H' H'') : KU U H H'' := fun c o e h1 h2 => k2 c o (k c o e h1 h2) h1 h2
theorem KU.ins {a C dx : Addr} {fs : List (Str × V)} {o : HO} (h : H a = some (.ins C dx fs)) (hl : fs.length ≠ 4) : KU U H (upd H a o) := fun c x e _ h2 => by
  have : c ≠ a := fun z => by
    subst z
    rw [h] at e
    exact hl (h2 _ _ _ (Option.some.inj e).symm)
  rw [upd_ne this]; exact e
theorem KU.lst {D : Addr} {xs : List V} {o : HO} (h : H D = some (.lst xs)) (hU : ¬ U D) : KU U H (upd H D o) := fun c x e h1 _ => by
  have : c ≠ D := fun z => by
    subst z
    rw [h] at e
    exact hU (h1 _ (Option.some.inj e).symm)
  rw [upd_ne this]; exact e
theorem KU.kp {N : Addr → Prop} (k : Kp N H H') (h : ∀ c, N c → ∀ o, H c = some o → (∃ xs, o = .lst xs ∧ ¬ U c) ∨ ∃ C dx fs, o = .ins C dx fs ∧ fs.length ≠ 4) : KU U H H' := fun c o e h1 h2 => by
  by_cases hn : N c
  · rcases h c hn o e with ⟨xs, rfl, q⟩ | ⟨C, dx, fs, rfl, q⟩
    · exact absurd (h1 _ rfl) q
    · exact absurd (h2 _ _ _ rfl) q
  · exact k c o e hn
theorem dp_keep (k : KU U H H') (n : Nat) : ∀ v, Dp K H v (Ak.nkey n) → Dp K H' v (Ak.nkey n) := by
  induction n using Nat.strongRecOn with
  | _ n ih =>
    intro v h
    rw [Ak.nkey_eq] at h ⊢
    have all : ∀ (l : List Nat), (∀ m ∈ l, m < n) → ∀ vs, DpAll K H vs (l.map Ak.nkey) → DpAll K H' vs (l.map Ak.nkey) := by
      intro l
      induction l with
      | nil => intro _ vs h; cases h; exact .nil
      | cons x r ihr =>
        intro hm vs h
        cases h with
        | cons h1 h2 => exact .cons (ih x (hm x List.mem_cons_self) _ h1) (ihr (fun m hr => hm m (List.mem_cons_of_mem _ hr)) _ h2)
    cases h with
    | tup hs ha =>
      refine .tup ?_ (all _ (fun m hm => Ak.mem_lt (List.mem_reverse.mp hm)) _ ha)
      rcases hs with (e | ⟨o, e⟩) | e
      · exact .inl (.inl (k _ _ e (fun _ z => nomatch z) (fun _ _ _ z => nomatch z)))
      · exact .inl (.inr ⟨o, k _ _ e (fun _ z => nomatch z) (fun _ _ _ z => nomatch z)⟩)
      · exact .inr e
theorem NAt.keep (k : KU U H H') {a : Addr} {n : Nat} (h : NAt K C U H a n) : NAt K C U H' a n := by
  induction h with
  | mk h0 h1 h2 h3 _ h5 ih => exact .mk h0 (k _ _ h1 (fun _ z => nomatch z) (fun _ _ _ z => by cases z; rfl)) (k _ _ h2 (fun _ _ => h0) (fun _ _ _ z => nomatch z)) h3 ih (dp_keep k _ _ h5)
theorem NL.keep (k : KU U H H') {as : List Addr} {ns : List Nat} (h : NL K C U H as ns) : NL K C U H' as ns := ⟨h.len, fun i b m e1 e2 => (h.at_ i b m e1 e2).keep k⟩
theorem NAt.free {D : Addr} (hD : H D = none) {a : Addr} {n : Nat} (h : NAt K C U H a n) : NAt K C (fun c => U c ∧ c ≠ D) H a n := by
  induction h with
  | mk h0 h1 h2 h3 _ h5 ih => exact .mk ⟨h0, fun z => by rw [z, hD] at h2; cases h2⟩ h1 h2 h3 ih h5
theorem NL.free {D : Addr} (hD : H D = none) {as : List Addr} {ns : List Nat} (h : NL K C U H as ns) : NL K C (fun c => U c ∧ c ≠ D) H as ns := ⟨h.len, fun i b m e1 e2 => (h.at_ i b m e1 e2).free hD⟩
theorem NAt.weak {U' : Addr → Prop} (hu : ∀ c, U c → U' c) {a : Addr} {n : Nat} (h : NAt K C U H a n) : NAt K C U' H a n := by
  induction h with
  | mk h0 h1 h2 h3 _ h5 ih => exact .mk (hu _ h0) h1 h2 h3 ih h5
theorem NL.weak {U' : Addr → Prop} (hu : ∀ c, U c → U' c) {as : List Addr} {ns : List Nat} (h : NL K C U H as ns) : NL K C U' H as ns := ⟨h.len, fun i b m e1 e2 => (h.at_ i b m e1 e2).weak hu⟩
/-- the numbers as a function of the addresses -/
theorem NL.fn {as : List Addr} {ns : List Nat} (h : NL K C U H as ns) : ∃ f : Addr → Nat, (∀ a ∈ as, NAt K C U H a (f a)) ∧ ns = as.map f := by
  classical
  refine ⟨fun a => if z : ∃ n, NAt K C U H a n then z.choose else 0, fun a ha => ?_, ?_⟩
  · obtain ⟨m, _, hm⟩ := h.mem ha
    have z : ∃ n, NAt K C U H a n := ⟨m, hm⟩
    show NAt K C U H a (if z : ∃ n, NAt K C U H a n then z.choose else 0)
    rw [dif_pos z]
    exact z.choose_spec
  · apply List.ext_getElem?
    intro i
    rw [List.getElem?_map]
    cases e : as[i]? with
    | none =>
      rw [List.getElem?_eq_none]; rfl
      rw [← h.len]; exact List.getElem?_eq_none_iff.mp e
    | some b =>
      obtain ⟨m, h1, h2⟩ := h.num e
      have z : ∃ n, NAt K C U H b n := ⟨m, h2⟩
      show _ = some (if z : ∃ n, NAt K C U H b n then z.choose else 0)
      rw [dif_pos z, h1, z.choose_spec.uniq h2]
/-- the fields as functions of the addresses -/
theorem NL.fns {as : List Addr} {ns : List Nat} (h : NL K C U H as ns) : ∃ (f : Addr → Nat) (g : Addr → Addr × Addr × Addr), (∀ a ∈ as, NAt K C U H a (f a) ∧ H a = some (.ins C (g a).1 (nf (g a).2.1 (g a).2.2 (f a))) ∧ Dp K H (.ref (g a).2.2) (Ak.nkey (f a))) ∧ ns = as.map f := by
  obtain ⟨f, h1, h2⟩ := h.fn
  have : ∀ a, ∃ g : Addr × Addr × Addr, a ∈ as → (NAt K C U H a (f a) ∧ H a = some (.ins C g.1 (nf g.2.1 g.2.2 (f a))) ∧ Dp K H (.ref g.2.2) (Ak.nkey (f a))) := fun a => by
    by_cases ha : a ∈ as
    · obtain ⟨dx, l, kt, bs, e1, e2, e3, e4⟩ := (h1 a ha).get
      exact ⟨(dx, l, kt), fun _ => ⟨h1 a ha, e1, e4⟩⟩
    · exact ⟨(0, 0, 0), fun z => absurd z ha⟩
  obtain ⟨g, hg⟩ := Classical.axiomOfChoice this
  exact ⟨f, g, fun a ha => hg a ha, h2⟩
theorem dpAll_map {g : Addr → Addr} {f : Addr → Nat} : ∀ {l : List Addr}, (∀ a ∈ l, Dp K H (.ref (g a)) (Ak.nkey (f a))) → DpAll K H (l.map fun a => V.ref (g a)) ((l.map f).map Ak.nkey)
  | [], _ => .nil
  | a :: r, h => .cons (h a List.mem_cons_self) (dpAll_map fun b hb => h b (List.mem_cons_of_mem _ hb))
theorem foldmax_int {f : Addr → Nat} : ∀ (l : List Addr) (n : Nat), (l.map fun a => ((f a : Nat) : Int)).foldl max (n : Int) = (((l.map f).foldl max n : Nat) : Int)
  | [], n => rfl
  | a :: r, n => by
    have : max ((n : Nat) : Int) ((f a : Nat) : Int) = ((max n (f a) : Nat) : Int) := by omega
    show (r.map fun a => ((f a : Nat) : Int)).foldl max (max (n : Int) ((f a : Nat) : Int)) = _
    rw [this, foldmax_int r (max n (f a))]; rfl
theorem sum_int {f : Addr → Nat} : ∀ (l : List Addr), (l.map fun a => ((f a : Nat) : Int)).sum = (((l.map f).sum : Nat) : Int)
  | [] => rfl
  | a :: r => by
    rw [List.map_cons, List.sum_cons, sum_int r, List.map_cons, List.sum_cons]; omega
theorem last_at {xs : List V} {x : V} : atI (xs ++ [x]) (-1) = some x := by
  unfold atI ixN
  rw [if_neg (by decide)]
  simp
  rw [if_pos (by omega)]
  have e : ((-1 : Int) + ((xs.length : Int) + 1)).toNat = xs.length := by omega
  rw [e]
  simp
/-! the keys -/
theorem NAt.dpK {l kt : Addr} {n : Nat} (h : Dp K H (.ref kt) (Ak.nkey n)) : Dp K H (.ref kt) (.tuple ((Ak.mem n).reverse.map Ak.nkey)) := by rw [← Ak.nkey_eq]; exact h
variable {Q : VK}
theorem r_eqK {x y : V} {n m : Nat} (h1 : Dp K H x (Ak.nkey n)) (h2 : Dp K H y (Ak.nkey m)) (hd : Ak.dep n ≤ 120 ∨ Ak.dep m ≤ 120) (q : Q (.bl (decide (n = m))) H) : rEqD2 K x y H Q := by
  refine ⟨_, _, h1, h2, Ak.key_lay n, Ak.key_lay m, ?_, ?_⟩
  · have := Ak.key_depth n
    have := Ak.key_depth m
    omega
  · rw [Ak.key_eqv]; exact q
theorem r_ltK {x y : V} {n m : Nat} (h1 : Dp K H x (Ak.nkey n)) (h2 : Dp K H y (Ak.nkey m)) (hd : Ak.dep n ≤ 120 ∨ Ak.dep m ≤ 120) (q : Q (.bl (decide (n < m))) H) : rLtD2 K x y H Q := by
  refine ⟨_, _, h1, h2, Ak.key_alike n m, fun z => (by rw [Ak.nkey_eq] at z; cases z), ?_, ?_⟩
  · have := Ak.key_depth n
    have := Ak.key_depth m
    omega
  · rw [Ak.key_lt]; exact q
theorem r_inK {x y : V} {n m : Nat} (h1 : Dp K H x (Ak.nkey m)) (h2 : Dp K H y (Ak.nkey n)) (hd : Ak.dep n ≤ 120 ∨ Ak.dep m ≤ 120) (q : Q (.bl (n.testBit m)) H) : rInTD2 K x y H Q := by
  rw [Ak.nkey_eq n] at h2
  have hl := Ak.key_lay n
  have hk := Ak.key_depth n
  rw [Ak.nkey_eq n] at hl hk
  refine ⟨_, _, h1, h2, Ak.key_lay m, hl, ?_, ?_⟩
  · have hk : PyData.depthAll _ + 1 ≤ _ := hk
    have := Ak.key_depth m
    omega
  · have e : (((Ak.mem n).reverse.map Ak.nkey).any fun z => PyData.eqv z (Ak.nkey m)) = n.testBit m := by
      rw [Bool.eq_iff_iff, List.any_eq_true, ← Ak.mem_iff]
      constructor
      · rintro ⟨z, hz, e⟩
        obtain ⟨j, hj, rfl⟩ := List.mem_map.mp hz
        rw [Ak.key_eqv, decide_eq_true_eq] at e
        rw [← e]; exact List.mem_reverse.mp hj
      · intro h
        exact ⟨_, List.mem_map.mpr ⟨m, List.mem_reverse.mpr h, rfl⟩, by rw [Ak.key_eqv, decide_eq_true_eq]⟩
    rw [e]; exact q
end
/-! what the methods promise -/
def spNEq (K : PySem.W.Frag) (C : Addr) : Sp := fun vs H Q _ => ∃ (U : Addr → Prop) (a : Addr) (n : Nat) (y : V), vs = [.ref a, y] ∧ NAt K C U H a n ∧
  ((∃ b m, y = .ref b ∧ NAt K C U H b m ∧ (Ak.dep n ≤ 120 ∨ Ak.dep m ≤ 120) ∧ Q (.bl (decide (n = m))) H) ∨ (∃ t, TyX K H y t ∧ PySem.W.kitOne K t (.ref C) = some false ∧ Q (.bl false) H))
def spNLt (K : PySem.W.Frag) (C : Addr) : Sp := fun vs H Q _ => ∃ (U : Addr → Prop) (a b : Addr) (n m : Nat), vs = [.ref a, .ref b] ∧ NAt K C U H a n ∧ NAt K C U H b m ∧ (Ak.dep n ≤ 120 ∨ Ak.dep m ≤ 120) ∧ Q (.bl (decide (n < m))) H
def spNIn (K : PySem.W.Frag) (C : Addr) : Sp := fun vs H Q _ => ∃ (U : Addr → Prop) (a b : Addr) (n m : Nat), vs = [.ref a, .ref b] ∧ NAt K C U H a n ∧ NAt K C U H b m ∧ (Ak.dep n ≤ 120 ∨ Ak.dep m ≤ 120) ∧ Q (.bl (n.testBit m)) H
def spNLen (K : PySem.W.Frag) (C : Addr) : Sp := fun vs H Q _ => ∃ (U : Addr → Prop) (a : Addr) (n : Nat), vs = [.ref a] ∧ NAt K C U H a n ∧ Q (.int (((Ak.mem n).length : Nat) : Int)) H
def spNIter (K : PySem.W.Frag) (C : Addr) (n0 : Nat) : Sp := fun vs H Q _ => ∃ (a dx l kt : Addr) (n : Nat) (as : List Addr), vs = [.ref a] ∧ H a = some (.ins C dx (nf l kt n)) ∧ H l = some (.lst (as.map V.ref)) ∧
  ∀ it, H it = none → n0 ≤ it → Q (.ref it) (upd H it (ItO l it 0))
def spDist (K : PySem.W.Frag) (C : Addr) : Sp := fun vs H Q _ => ∃ (U : Addr → Prop) (l : Addr) (as : List Addr) (ns : List Nat), vs = [.ref l] ∧ (∀ c, H c = none → U c) ∧ H l = some (.lst (as.map V.ref)) ∧ NL K C U H as ns ∧ as.length ≤ 1000 ∧ (∀ n ∈ ns, Ak.dep n ≤ 120) ∧
  ∀ (H' : Hp) (p : Addr) (bs : List Addr), Same H H' → H p = none → H' p = some (.lst (bs.map V.ref)) → NL K C U H' bs (Ak.mem (Ak.num ns)) → Q (.ref p) H'
def spNInit (K : PySem.W.Frag) (C : Addr) : Sp := fun vs H Q _ => ∃ (U : Addr → Prop) (a dx l : Addr) (as : List Addr) (ns : List Nat), vs = [.ref a, .ref l] ∧ (∀ c, H c = none → U c) ∧ H a = some (.ins C dx []) ∧ H l = some (.lst (as.map V.ref)) ∧ NL K C U H as ns ∧ as.length ≤ 1000 ∧ (∀ n ∈ ns, Ak.dep n ≤ 120) ∧
  ∀ (H' : Hp), NAt K C U H' a (Ak.num ns) → Kp (· = a) H H' → Q .non H'
theorem r_iRev {K : PySem.W.Frag} {σ : L2.St} {H : Hp} {ta : TA} {R : It → Hp → Prop} (h : ta σ H fun vs H1 => ∃ (a : Addr) (xs : List V), vs = [.ref a] ∧ SqL K H1 a xs ∧ R (Itv K a xs.length) H1) : iRev K ta σ H R := h
theorem r_ckw {σ : L2.St} {H : Hp} {Q : VK} {r : List V → List V → Hp → VK → Prop} {t tk : TA} (h : t σ H fun vs H1 => tk σ H1 fun zs H2 => r vs zs H2 Q) : tCKw r t tk σ H Q := h
theorem r_callR {σ : L2.St} {H : Hp} {Q : VK} {sp : Sp} {E : XK} {t : TA} (h : t σ H fun vs H1 => sp vs H1 Q E) : tCallR sp E t σ H Q := h
theorem r_make {σ : L2.St} {H : Hp} {Q : VK} {C : Addr} {sp : Sp} {E : XK} {t : TA} (h : t σ H fun vs H1 => ∀ x dx, H1 x = none → H1 dx = none → dx ≠ x → sp (.ref x :: (vs ++ [])) (upd (upd H1 dx (.own x)) x (.ins C dx [])) (fun v H2 => v = .non ∧ Q (.ref x) H2) E) : tMake C sp [] E t σ H Q := h
/-- a new nest of a list -/
theorem r_nestA {K : PySem.W.Frag} {C : Addr} {U : Addr → Prop} {H : Hp} {Z : Addr → Hp → Prop} {E : XK} {l : Addr} {as : List Addr} {ns : List Nat} (hl : H l = some (.lst (as.map V.ref))) (hN : NL K C U H as ns) (hU : ∀ c, H c = none → U c) (h64 : as.length ≤ 1000) (hd : ∀ n ∈ ns, Ak.dep n ≤ 120)
    (q : ∀ H2 x, Same H H2 → H x = none → NAt K C U H2 x (Ak.num ns) → Z x H2) :
    ∀ x dx, H x = none → H dx = none → dx ≠ x → spNInit K C (.ref x :: ([.ref l] ++ [])) (upd (upd H dx (.own x)) x (.ins C dx [])) (fun v H2 => v = .non ∧ Z x H2) E := fun x dx hx hdx hne => by
  have hx2 : upd H dx (.own x) x = none := by rw [upd_ne (Ne.symm hne)]; exact hx
  have hS : Same H (upd (upd H dx (.own x)) x (.ins C dx [])) := (same_new hdx).trans (same_new hx2)
  refine ⟨U, x, dx, l, as, ns, rfl, fun c hc => hU c (hS.free hc), upd_same, hS _ _ hl, hN.mono hS, h64, hd, fun H2 hA hk => ⟨rfl, q H2 x (fun c o e => hk c o (hS c o e) fun z => ?_) hx hA⟩⟩
  rw [z, hx] at e; cases e
theorem r_nest {K : PySem.W.Frag} {C : Addr} {U : Addr → Prop} {H : Hp} {Z : Addr → Hp → Prop} {E : XK} {l : Addr} {as : List Addr} {ns : List Nat} (hl : H l = some (.lst (as.map V.ref))) (hN : NL K C U H as ns) (hU : ∀ c, H c = none → U c) (h64 : as.length < 64) (hd : ∀ n ∈ ns, Ak.dep n ≤ 120)
    (q : ∀ H2 x, Same H H2 → H x = none → NAt K C U H2 x (Ak.num ns) → Z x H2) :
    ∀ x dx, H x = none → H dx = none → dx ≠ x → spNInit K C (.ref x :: ([.ref l] ++ [])) (upd (upd H dx (.own x)) x (.ins C dx [])) (fun v H2 => v = .non ∧ Z x H2) E := r_nestA hl hN hU (by omega) hd q
/-- a method of the class -/
structure NMeth (K : PySem.W.Frag) (C : Addr) (m : Str) (f : Addr) (fd : FuncData) (ps : List Str) : Prop where
  s : PySem.W.findIn K (.ref C) m = some (some (.ref f))
  fn : PySem.W.isFn K (.ref f) = true
  b : Binds K fd ps []
section
variable {K : PySem.W.Frag} {σ : L2.St} {g : TG} {tt : TT} {te : TE} {vs : List Nat} {Q : Addr → Hp → Prop} {H : Hp}
/-- [e for b in a list of addresses], nothing else changed -/
theorem lcF_list {a : Addr} {bs : List Addr} (ha : H a = some (.lst (bs.map V.ref))) (fn : Addr → V) (hz : bs.length ≤ 1000)
    (hs : ∀ (b : Addr) (C : Hp) (N : V → Hp → Prop) (M : Hp → Prop), b ∈ bs → Same H C → N (fn b) C → g (.ref b) (wipe σ vs) C fun σ2 H2 => wipe σ2 vs = wipe σ vs ∧ tt σ2 H2 fun k H3 => if k = true then te σ2 H3 N else M H3)
    (hd : ∀ D, H D = none → Q D (upd H D (.lst (bs.map fn)))) :
    ∃ b, V.ref a = .ref b ∧ (∃ xs, SqL K H b xs) ∧ ∀ D, H D = none → ∃ W : Nat → Nat → Hp → Prop, (∃ m, W 0 m (upd H D (.lst []))) ∧ ∀ i m H, W i m H →
      ((Itl K b).stop i H ∧ Q D H) ∨ ((Itl K b).go i H ∧ ∃ Nx : Hp → Prop, (∀ H', Nx H' → ∃ m', m' < m ∧ W (i + 1) m' H') ∧ ∀ x H', (Itl K b).yld i H x H' → g x (wipe σ vs) H' fun σ2 H2 => wipe σ2 vs = wipe σ vs ∧ tt σ2 H2 fun b H3 =>
        if b = true then te σ2 H3 fun y H4 => ∃ acc, H4 D = some (.lst acc) ∧ acc.length < sizeLine ∧ Nx (upd H4 D (.lst (acc ++ [y]))) else Nx H3) := by
  refine ⟨a, rfl, ⟨_, SqL.of ha⟩, fun D hD => lc_it (walk_list (xs := bs.map V.ref)) (fun i H' => H' = upd H D (.lst ((bs.take i).map fn))) (by rw [List.take_zero]; rfl) (fun i H' _ e => ?_) (fun i x H1 H2 hi e y => ?_) (fun H' e => ?_)⟩
  · subst e; exact SqL.of (upd_old hD ha)
  · obtain ⟨rfl, y⟩ := y
    subst e
    rw [List.getElem?_map] at y
    cases eb : bs[i]? with
    | none => rw [eb] at y; cases y
    | some b =>
      rw [eb] at y
      cases y
      refine hs b _ _ _ (List.mem_of_getElem? eb) (same_new hD) ⟨_, upd_same, small (by rw [List.length_map, List.length_take]; omega), ?_⟩
      rw [upd_upd, List.take_add_one, eb, List.map_append]; rfl
  · subst e
    rw [List.length_map, List.take_length]
    exact hd D hD
/-- .. in reversed(a list of addresses) -/
theorem lcF_rev {a : Addr} {bs : List Addr} (ha : H a = some (.lst (bs.map V.ref))) (fn : Addr → V) (hz : bs.length ≤ 1000)
    (hs : ∀ (b : Addr) (C : Hp) (N : V → Hp → Prop) (M : Hp → Prop), b ∈ bs → Same H C → N (fn b) C → g (.ref b) (wipe σ vs) C fun σ2 H2 => wipe σ2 vs = wipe σ vs ∧ tt σ2 H2 fun k H3 => if k = true then te σ2 H3 N else M H3)
    (hd : ∀ D, H D = none → Q D (upd H D (.lst (bs.reverse.map fn)))) :
    ∃ (b : Addr) (xs : List V), [V.ref a] = [.ref b] ∧ SqL K H b xs ∧ ∀ D, H D = none → ∃ W : Nat → Nat → Hp → Prop, (∃ m, W 0 m (upd H D (.lst []))) ∧ ∀ i m H, W i m H →
      ((Itv K b xs.length).stop i H ∧ Q D H) ∨ ((Itv K b xs.length).go i H ∧ ∃ Nx : Hp → Prop, (∀ H', Nx H' → ∃ m', m' < m ∧ W (i + 1) m' H') ∧ ∀ x H', (Itv K b xs.length).yld i H x H' → g x (wipe σ vs) H' fun σ2 H2 => wipe σ2 vs = wipe σ vs ∧ tt σ2 H2 fun b H3 =>
        if b = true then te σ2 H3 fun y H4 => ∃ acc, H4 D = some (.lst acc) ∧ acc.length < sizeLine ∧ Nx (upd H4 D (.lst (acc ++ [y]))) else Nx H3) := by
  refine ⟨a, bs.map V.ref, rfl, SqL.of ha, fun D hD => lc_it (walk_rev (xs := bs.map V.ref)) (fun i H' => H' = upd H D (.lst ((bs.reverse.take i).map fn))) (by rw [List.take_zero]; rfl) (fun i H' _ e => ?_) (fun i x H1 H2 hi e y => ?_) (fun H' e => ?_)⟩
  · subst e; exact SqL.of (upd_old hD ha)
  · obtain ⟨rfl, y⟩ := y
    subst e
    rw [List.length_map] at hi y
    have er : bs[bs.length - 1 - i]? = bs.reverse[i]? := by rw [List.getElem?_reverse hi]
    rw [List.getElem?_map, er] at y
    cases eb : bs.reverse[i]? with
    | none => rw [eb] at y; cases y
    | some b =>
      rw [eb] at y
      cases y
      refine hs b _ _ _ (List.mem_reverse.mp (List.mem_of_getElem? eb)) (same_new hD) ⟨_, upd_same, small (by rw [List.length_map, List.length_take, List.length_reverse]; omega), ?_⟩
      rw [upd_upd, List.take_add_one, eb, List.map_append]; rfl
  · subst e
    rw [List.length_map, ← List.length_reverse, List.take_length]
    exact hd D hD
end
end Lw
/-! comprehensions that leave the rest as it was; rows of whole numbers; walks over a nest -/
namespace L2
open PySem PySem.Spec PyProof.Rows
theorem pi_ownK {X : Cx} {n : Nat} {f C : Addr} {fd : FuncData} {ps : List Str} {E : XK} {sp : Nat → Sp} {tg e : Expr} {te : TE} {K : PySem.W.Frag} (h : X.K = K) (he : PE X e te) (hs : PySem.W.findIn K (.ref C) "__iter__" = some (some (.ref f))) (hf : PySem.W.isFn K (.ref f) = true) (G : FnS X.prog X.w K X.mg X.base n f fd ps sp) (hb : Binds K fd ps []) (hr : Room n X.A) :
    PI X tg e (iOwn K C sp E te) := by subst h; exact pi_own he hs hf G hb hr
end L2
namespace Lw
open PySem PySem.Spec PyProof.Rows L2
section
variable {K : PySem.W.Frag} {σ : L2.St} {g : TG} {tt : TT} {te : TE} {vs : List Nat} {Q : Addr → Hp → Prop} {H : Hp}
/-- [y for x in a list], nothing else changed; ys what comes out -/
theorem lcW {J : It} {xs ys : List V} (w : ∀ H', Same H H' → Walk J xs.length (fun H'' => H'' = H') (YAt xs)) (hy : ys.length = xs.length) (hz : xs.length ≤ 1000)
    (hs : ∀ (i : Nat) (x y : V) (C : Hp) (N : V → Hp → Prop) (M : Hp → Prop), xs[i]? = some x → ys[i]? = some y → Same H C → N y C → g x (wipe σ vs) C fun σ2 H2 => wipe σ2 vs = wipe σ vs ∧ tt σ2 H2 fun k H3 => if k = true then te σ2 H3 N else M H3)
    (hd : ∀ D, H D = none → Q D (upd H D (.lst ys))) :
    ∀ D, H D = none → ∃ W : Nat → Nat → Hp → Prop, (∃ m, W 0 m (upd H D (.lst []))) ∧ ∀ i m H, W i m H →
      (J.stop i H ∧ Q D H) ∨ (J.go i H ∧ ∃ Nx : Hp → Prop, (∀ H', Nx H' → ∃ m', m' < m ∧ W (i + 1) m' H') ∧ ∀ x H', J.yld i H x H' → g x (wipe σ vs) H' fun σ2 H2 => wipe σ2 vs = wipe σ vs ∧ tt σ2 H2 fun b H3 =>
        if b = true then te σ2 H3 fun y H4 => ∃ acc, H4 D = some (.lst acc) ∧ acc.length < sizeLine ∧ Nx (upd H4 D (.lst (acc ++ [y]))) else Nx H3) := by
  intro D hD
  have wk : Walk J xs.length (fun H'' => ∃ i, H'' = upd H D (.lst (ys.take i))) (YAt xs) :=
    ⟨fun i H' hi ⟨j, e⟩ => (w _ (same_new hD)).goes i H' hi e, fun H' ⟨j, e⟩ => (w _ (same_new hD)).stops H' e, fun i H' x H'' hi ⟨j, e⟩ y => (w _ (same_new hD)).yields i H' x H'' hi e y⟩
  refine lc_it wk (fun i H' => H' = upd H D (.lst (ys.take i))) (by rw [List.take_zero]) (fun i H' _ e => ⟨i, e⟩) (fun i x H1 H2 hi e y => ?_) (fun H' e => ?_)
  · obtain ⟨rfl, y⟩ := y
    subst e
    have ey : ys[i]? = some (ys[i]'(by omega)) := List.getElem?_eq_getElem (by omega)
    refine hs i x _ _ _ _ y ey (same_new hD) ⟨_, upd_same, small (by rw [List.length_take]; omega), ?_⟩
    rw [upd_upd, List.take_add_one, ey]; rfl
  · subst e
    rw [← hy, List.take_length]
    exact hd D hD
theorem lcF_vals {a : Addr} {xs ys : List V} (ha : H a = some (.lst xs)) (hy : ys.length = xs.length) (hz : xs.length ≤ 1000)
    (hs : ∀ (i : Nat) (x y : V) (C : Hp) (N : V → Hp → Prop) (M : Hp → Prop), xs[i]? = some x → ys[i]? = some y → Same H C → N y C → g x (wipe σ vs) C fun σ2 H2 => wipe σ2 vs = wipe σ vs ∧ tt σ2 H2 fun k H3 => if k = true then te σ2 H3 N else M H3)
    (hd : ∀ D, H D = none → Q D (upd H D (.lst ys))) :
    ∃ b, V.ref a = .ref b ∧ (∃ xs, SqL K H b xs) ∧ ∀ D, H D = none → ∃ W : Nat → Nat → Hp → Prop, (∃ m, W 0 m (upd H D (.lst []))) ∧ ∀ i m H, W i m H →
      ((Itl K b).stop i H ∧ Q D H) ∨ ((Itl K b).go i H ∧ ∃ Nx : Hp → Prop, (∀ H', Nx H' → ∃ m', m' < m ∧ W (i + 1) m' H') ∧ ∀ x H', (Itl K b).yld i H x H' → g x (wipe σ vs) H' fun σ2 H2 => wipe σ2 vs = wipe σ vs ∧ tt σ2 H2 fun b H3 =>
        if b = true then te σ2 H3 fun y H4 => ∃ acc, H4 D = some (.lst acc) ∧ acc.length < sizeLine ∧ Nx (upd H4 D (.lst (acc ++ [y]))) else Nx H3) :=
  ⟨a, rfl, ⟨xs, SqL.of ha⟩, lcW (fun H' s => walk_list.mono (fun H'' e => by rw [e]; exact SqL.of (s _ _ ha)) fun _ _ _ _ _ _ y => y) hy hz hs hd⟩
theorem lcL_vals {a : Addr} {xs ys : List V} (ha : H a = some (.lst xs)) (hy : ys.length = xs.length) (hz : xs.length ≤ 1000)
    (hs : ∀ (i : Nat) (x y : V) (C : Hp) (N : V → Hp → Prop) (M : Hp → Prop), xs[i]? = some x → ys[i]? = some y → Same H C → N y C → g x (wipe σ vs) C fun σ2 H2 => wipe σ2 vs = wipe σ vs ∧ tt σ2 H2 fun k H3 => if k = true then te σ2 H3 N else M H3)
    (hd : ∀ D, H D = none → Q D (upd H D (.lst ys))) :
    ∀ D, H D = none → ∃ W : Nat → Nat → Hp → Prop, (∃ m, W 0 m (upd H D (.lst []))) ∧ ∀ i m H, W i m H →
      ((Itl K a).stop i H ∧ Q D H) ∨ ((Itl K a).go i H ∧ ∃ Nx : Hp → Prop, (∀ H', Nx H' → ∃ m', m' < m ∧ W (i + 1) m' H') ∧ ∀ x H', (Itl K a).yld i H x H' → g x (wipe σ vs) H' fun σ2 H2 => wipe σ2 vs = wipe σ vs ∧ tt σ2 H2 fun b H3 =>
        if b = true then te σ2 H3 fun y H4 => ∃ acc, H4 D = some (.lst acc) ∧ acc.length < sizeLine ∧ Nx (upd H4 D (.lst (acc ++ [y]))) else Nx H3) :=
  lcW (fun H' s => walk_list.mono (fun H'' e => by rw [e]; exact SqL.of (s _ _ ha)) fun _ _ _ _ _ _ y => y) hy hz hs hd
/-- [e for k in range(n) if ..], nothing else changed -/
theorem lcF_range {n : Int} (h1 : -4611686018427387904 ≤ n) (h2 : n ≤ 1000) (fn : Nat → V) (pr : Nat → Bool)
    (hs : ∀ (i : Nat) (C : Hp) (N : V → Hp → Prop) (M : Hp → Prop), i < n.toNat → Same H C → (pr i = true → N (fn i) C) → (pr i = false → M C) → g (.int i) (wipe σ vs) C fun σ2 H2 => wipe σ2 vs = wipe σ vs ∧ tt σ2 H2 fun k H3 => if k = true then te σ2 H3 N else M H3)
    (hd : ∀ D, H D = none → Q D (upd H D (.lst (((List.range n.toNat).filter pr).map fn)))) :
    ∃ j : Int, [V.int n] = [.int j] ∧ -(2 ^ 62) ≤ j ∧ j < 2 ^ 62 ∧ ∀ D, H D = none → ∃ W : Nat → Nat → Hp → Prop, (∃ m, W 0 m (upd H D (.lst []))) ∧ ∀ i m H, W i m H →
      ((Itr 0 j.toNat).stop i H ∧ Q D H) ∨ ((Itr 0 j.toNat).go i H ∧ ∃ Nx : Hp → Prop, (∀ H', Nx H' → ∃ m', m' < m ∧ W (i + 1) m' H') ∧ ∀ x H', (Itr 0 j.toNat).yld i H x H' → g x (wipe σ vs) H' fun σ2 H2 => wipe σ2 vs = wipe σ vs ∧ tt σ2 H2 fun b H3 =>
        if b = true then te σ2 H3 fun y H4 => ∃ acc, H4 D = some (.lst acc) ∧ acc.length < sizeLine ∧ Nx (upd H4 D (.lst (acc ++ [y]))) else Nx H3) := by
  refine ⟨n, rfl, h1, by omega, fun D hD => lc_range (fun i H' => H' = upd H D (.lst (((List.range i).filter pr).map fn))) rfl ?_ ?_⟩
  · rintro i H' hi rfl
    rw [Int.zero_add]
    have hl : (((List.range i).filter pr).map fn).length ≤ i := by
      rw [List.length_map]
      have := List.length_filter_le pr (List.range i)
      rw [List.length_range] at this
      exact this
    refine hs i _ _ _ hi (same_new hD) (fun hp => ⟨_, upd_same, small (by omega), ?_⟩) (fun hp => ?_)
    · rw [upd_upd, List.range_succ, List.filter_append, List.map_append]
      simp [hp]
    · rw [List.range_succ, List.filter_append, List.map_append]
      simp [hp]
  · rintro H' rfl
    exact hd D hD
end
theorem r_maxDf {K : PySem.W.Frag} {H : Hp} {Q : VK} {a : Addr} {ns : List Int} {i v : Int} (h : H a = some (.lst (ns.map V.int))) (h0 : ns = [] → i = v) (h1 : ∀ m r, ns = m :: r → r.foldl max m = v) (q : Q (.int v) H) : rMaxDf K [.ref a] [.int i] H Q :=
  ⟨a, ns, i, rfl, rfl, SqL.of h, fun e => by rw [h0 e]; exact q, fun m r e => by rw [h1 m r e]; exact q⟩
/-- whole numbers as a row -/
def nV (ns : List Nat) : List V := ns.map fun n => V.int ((n : Nat) : Int)
theorem nV_len (ns : List Nat) : (nV ns).length = ns.length := List.length_map _
theorem nV_ints (ns : List Nat) : nV ns = (ns.map fun n => ((n : Nat) : Int)).map V.int := by unfold nV; rw [List.map_map]; rfl
theorem nV_rev (ns : List Nat) : (nV ns).reverse = nV ns.reverse := by unfold nV; rw [List.map_reverse]
theorem nV_push (ns : List Nat) (n : Nat) : nV ns ++ [.int ((n : Nat) : Int)] = nV (ns ++ [n]) := by unfold nV; rw [List.map_append]; rfl
theorem nV_at {ns : List Nat} {i : Nat} {x : V} (h : (nV ns)[i]? = some x) : ∃ n, ns[i]? = some n ∧ x = .int ((n : Nat) : Int) := by
  unfold nV at h
  rw [List.getElem?_map] at h
  cases e : ns[i]? with
  | none => rw [e] at h; cases h
  | some n => rw [e] at h; exact ⟨n, rfl, (Option.some.inj h).symm⟩
theorem nV_get {ns : List Nat} {i n : Nat} (h : ns[i]? = some n) : (nV ns)[i]? = some (.int ((n : Nat) : Int)) := by
  unfold nV; rw [List.getElem?_map, h]; rfl
/-- what sorted(set(..)) gives -/
theorem due_eq {rs : List Nat} {ns : List Int} (h : ns.Pairwise (· < ·)) (e : ∀ k : Int, k ∈ ns ↔ decide (k ∈ rs.map fun n => ((n : Nat) : Int)) = true) : ns.map V.int = nV (Ak.mem (Ak.num rs)) := by
  have e : ∀ k : Int, k ∈ ns ↔ k ∈ rs.map fun n => ((n : Nat) : Int) := fun k => by rw [e k, decide_eq_true_eq]
  have hp : ∀ k ∈ ns, 0 ≤ k := fun k hk => by
    obtain ⟨n, _, rfl⟩ := List.mem_map.mp ((e k).mp hk); omega
  have e1 : (ns.map Int.toNat) = Ak.mem (Ak.num rs) := by
    refine (Ak.mem_of (List.pairwise_map.mpr (List.Pairwise.imp_of_mem (fun {a b} ha hb hab => ?_) h)) fun i => ?_).symm
    · have := hp a ha; have := hp b hb; omega
    · rw [Ak.bit_num, List.mem_map]
      constructor
      · rintro ⟨k, hk, rfl⟩
        obtain ⟨n, hn, hk⟩ := List.mem_map.mp ((e k).mp hk)
        rw [← hk]; exact hn
      · intro hi
        exact ⟨(i : Int), (e _).mpr (List.mem_map.mpr ⟨i, hi, rfl⟩), rfl⟩
  rw [← e1]
  unfold nV
  rw [List.map_map]
  refine List.map_congr_left fun k hk => ?_
  have := hp k hk
  show V.int k = V.int ((k.toNat : Nat) : Int)
  rw [Int.toNat_of_nonneg this]
section
variable {K : PySem.W.Frag} {σ : L2.St} {H : Hp} {D : Ends} {g : TG} {tb : TS}
theorem ItlF0 {a : Addr} : ItX.ItlF K a 0 = Itl K a := by
  unfold ItX.ItlF
  simp only [Nat.zero_add]
/-- for m in a nest -/
theorem r_iOwn {C : Addr} {sp : Nat → Sp} {E : XK} {te : TE} {R : It → Hp → Prop} (h : te σ H fun x H1 => ∃ (a dx : Addr) (fs : List (Str × V)), x = .ref a ∧ H1 a = some (.ins C dx fs) ∧
  ∀ n, sp n [x] H1 (fun v H2 => ∃ (it l : Addr) (i0 : Nat), v = .ref it ∧ H2 it = some (ItO l it i0) ∧ n ≤ it ∧ R (ItX.ItlF K l i0) (ItX.dropH H2 it)) E) : iOwn K C sp E te σ H R := h
theorem r_iOwnV {C a dx l kt : Addr} {i n : Nat} {as : List Addr} {R : It → Hp → Prop} {E : XK} (hσ : σ[i]? = some (some (.ref a))) (h1 : H a = some (.ins C dx (nf l kt n))) (h2 : H l = some (.lst (as.map V.ref))) (q : R (Itl K l) H) : iOwn K C (spNIter K C) E (tVar i) σ H R :=
  ⟨_, hσ, a, dx, _, rfl, h1, fun n0 => ⟨a, dx, l, kt, n, as, rfl, h1, h2, fun it hi hn => ⟨it, l, 0, rfl, upd_same, hn, by rw [ItlF0, ItX.dropH_upd hi]; exact q⟩⟩⟩
end
end Lw
/-! what a law needs of the class; plain facts about numbers -/
namespace Lw
open PySem PySem.Spec PyProof.Rows L2
structure NX (P : Program) (w : World) (K : PySem.W.Frag) (mg : Str → Option Value) (base : Heap) (C : Addr) : Prop where
  Z : ZN K mg C
  eq : ∃ f fd, NMeth K C "__eq__" f fd ["self", "other"] ∧ FnOk P w K mg base CX0 2 f fd ["self", "other"] (spNEq K C)
  inn : ∃ f fd, NMeth K C "__contains__" f fd ["self", "nest"] ∧ FnOk P w K mg base CX0 2 f fd ["self", "nest"] (spNIn K C)
  len : ∃ f fd, NMeth K C "__len__" f fd ["self"] ∧ FnOk P w K mg base CX0 2 f fd ["self"] (spNLen K C)
  iter : ∃ f fd, NMeth K C "__iter__" f fd ["self"] ∧ FnS P w K mg base 2 f fd ["self"] (spNIter K C)
  init : ∃ f fd, Mk K C f ∧ Binds K fd ["self", "members"] [] ∧ FnOk P w K mg base CX0 6 f fd ["self", "members"] (spNInit K C)
  lt : ∃ f fd, NMeth K C "__lt__" f fd ["self", "other"] ∧ FnOk P w K mg base CX0 2 f fd ["self", "other"] (spNLt K C)
theorem bit_test (m k : Nat) : (V.int (Builtin.bitAnd ((m : Int) / 2 ^ (k : Int).toNat) 1) = V.int 1) ↔ m.testBit k = true := by
  rw [int_eq, PyProof.Rows.bitAnd_m1, Int.toNat_natCast, Nat.testBit_eq_decide_div_mod_eq, decide_eq_true_eq]
  have : (m : Int) / 2 ^ k % 2 = ((m / 2 ^ k % 2 : Nat) : Int) := by
    rw [Int.natCast_emod, Int.natCast_ediv, Int.natCast_pow]; rfl
  rw [this]
  omega
theorem NL.by {K : PySem.W.Frag} {C : Addr} {U : Addr → Prop} {H : Hp} {ks : List Nat} {f : Nat → Addr} {g : Nat → Nat} (h : ∀ k ∈ ks, NAt K C U H (f k) (g k)) : NL K C U H (ks.map f) (ks.map g) :=
  ⟨by rw [List.length_map, List.length_map], fun i b m e1 e2 => by
    rw [List.getElem?_map] at e1 e2
    cases e : ks[i]? with
    | none => rw [e] at e1; cases e1
    | some k =>
      rw [e] at e1 e2
      cases e1; cases e2
      exact h k (List.mem_of_getElem? e)⟩
/-- a nest of what is handed in -/
def spNWith (K : PySem.W.Frag) (C : Addr) : Sp := fun vs H Q _ => ∃ (U : Addr → Prop) (as : List Addr) (ns : List Nat), vs = as.map V.ref ∧ (∀ c, H c = none → U c) ∧ NL K C U H as ns ∧ as.length < 64 ∧ (∀ n ∈ ns, Ak.dep n ≤ 120) ∧
  ∀ H2 x, Same H H2 → H x = none → NAt K C U H2 x (Ak.num ns) → Q (.ref x) H2
def spNWith1 (K : PySem.W.Frag) (C : Addr) : Sp := fun vs H Q _ => ∃ (U : Addr → Prop) (p : Addr) (as : List Addr) (ns : List Nat), vs = [.ref p] ∧ H p = some (.tup (as.map V.ref)) ∧ (∀ c, H c = none → U c) ∧ NL K C U H as ns ∧ as.length < 64 ∧ (∀ n ∈ ns, Ak.dep n ≤ 120) ∧
  ∀ H2 x, Same H H2 → H x = none → NAt K C U H2 x (Ak.num ns) → Q (.ref x) H2
/-- the number that a reading of it gives -/
def spNRead (K : PySem.W.Frag) (C : Addr) (d : Nat) : Sp := fun vs H Q _ => ∃ (U : Addr → Prop) (a : Addr) (n : Nat), vs = [.ref a] ∧ NAt K C U H a n ∧ n ≤ 63 ∧ Ak.dep n < d ∧ Q (.int ((n : Nat) : Int)) H
/-- the nests with the numbers below many -/
def spNTable (K : PySem.W.Frag) (C : Addr) : Sp := fun vs H Q _ => ∃ (U : Addr → Prop) (many : Nat), vs = [.int ((many : Nat) : Int)] ∧ many ≤ 64 ∧ (∀ c, H c = none → U c) ∧
  ∀ H2 p as, Same H H2 → H p = none → H2 p = some (.lst (as.map V.ref)) → NL K C U H2 as (List.range many) → Q (.ref p) H2
section
variable {K : PySem.W.Frag} {C : Addr} {U : Addr → Prop} {H : Hp} {Q : VK} {E : XK}
theorem r_inO {x b : Addr} {n m : Nat} (hx : NAt K C U H x n) (hb : NAt K C U H b m) (hd : Ak.dep n ≤ 120 ∨ Ak.dep m ≤ 120) (q : Q (.bl (n.testBit m)) H) : rInO C false (spNIn K C) E (.ref b) (.ref x) H Q := by
  obtain ⟨dx, l, kt, as, e1, _⟩ := hx.get
  exact ⟨x, _, _, rfl, e1, U, x, b, n, m, rfl, hx, hb, hd, _, rfl, q⟩
theorem r_notInO {x b : Addr} {n m : Nat} (hx : NAt K C U H x n) (hb : NAt K C U H b m) (hd : Ak.dep n ≤ 120 ∨ Ak.dep m ≤ 120) (q : Q (.bl (!(n.testBit m))) H) : rInO C true (spNIn K C) E (.ref b) (.ref x) H Q := by
  obtain ⟨dx, l, kt, as, e1, _⟩ := hx.get
  exact ⟨x, _, _, rfl, e1, U, x, b, n, m, rfl, hx, hb, hd, _, rfl, q⟩
theorem r_lenO {x : Addr} {n : Nat} (hx : NAt K C U H x n) (hl : (Ak.mem n).length ≤ 1000000) (q : Q (.int (((Ak.mem n).length : Nat) : Int)) H) : rLenO C (spNLen K C) E [.ref x] H Q := by
  obtain ⟨dx, l, kt, as, e1, _⟩ := hx.get
  exact ⟨x, _, _, rfl, e1, U, x, n, rfl, hx, _, rfl, by omega, by omega, q⟩
theorem r_eqO {mg : Str → Option Value} (Z : ZN K mg C) {x b : Addr} {n m : Nat} {neg : Bool} (hx : NAt K C U H x n) (hb : NAt K C U H b m) (hd : Ak.dep n ≤ 120 ∨ Ak.dep m ≤ 120) (q : Q (.bl (if neg then !(decide (n = m)) else decide (n = m))) H) : rEqO K C neg (spNEq K C) E (.ref x) (.ref b) H Q := by
  obtain ⟨dx, l, kt, as, e1, _⟩ := hx.get
  obtain ⟨dx', l', kt', as', g1, _⟩ := hb.get
  exact ⟨x, _, _, .ref C, rfl, e1, Z.ty g1, ZN.nf K C, U, x, n, .ref b, rfl, hx, .inl ⟨b, m, rfl, hb, hd, _, rfl, q⟩⟩
theorem r_eqX {x : Addr} {n : Nat} {y : V} {t : Value} {neg : Bool} (hx : NAt K C U H x n) (ty : TyX K H y t) (hk : PySem.W.kitOne K t (.ref C) = some false) (hn : PySem.W.notFirst K C t = true) (q : Q (.bl neg) H) : rEqO K C neg (spNEq K C) E (.ref x) y H Q := by
  obtain ⟨dx, l, kt, as, e1, _⟩ := hx.get
  refine ⟨x, _, _, t, rfl, e1, ty, hn, U, x, n, y, rfl, hx, .inr ⟨t, ty, hk, _, rfl, ?_⟩⟩
  cases neg <;> exact q
end
/-- a value that is no nest, or a nest -/
def spNEqual (K : PySem.W.Frag) (C : Addr) : Sp := fun vs H Q _ => ∃ (U : Addr → Prop) (a : Addr) (n : Nat) (y : V) (al : Bool), vs = [.ref a, y, .bl al] ∧ NAt K C U H a n ∧
  ((∃ b m, y = .ref b ∧ NAt K C U H b m ∧ (Ak.dep n ≤ 120 ∨ Ak.dep m ≤ 120) ∧ al = decide (n = m)) ∨ (∃ t, TyX K H y t ∧ PySem.W.kitOne K t (.ref C) = some false ∧ PySem.W.notFirst K C t = true ∧ al = false)) ∧ Q (.bl true) H
def spNMembers (K : PySem.W.Frag) (C : Addr) : Sp := fun vs H Q _ => ∃ (U : Addr → Prop) (x r t ag : Addr) (rs : List Nat) (many : Nat) (as bs : List Addr), vs = [.ref x, .ref r, .ref t, .ref ag] ∧ NAt K C U H x (Ak.num rs) ∧ H r = some (.lst (nV rs)) ∧ (∀ n ∈ rs, n < 64) ∧ rs.length < 64 ∧
  H t = some (.lst (as.map V.ref)) ∧ H ag = some (.lst (bs.map V.ref)) ∧ NL K C U H as (List.range many) ∧ NL K C U H bs (List.range many) ∧ many ≤ 64 ∧ ∀ H', Same H H' → Q (.bl true) H'
def spNLWith (K : PySem.W.Frag) (C : Addr) : Sp := fun vs H Q _ => ∃ (U : Addr → Prop) (l : Addr) (as : List Addr) (ns : List Nat), vs = [.ref l] ∧ H l = some (.lst (as.map V.ref)) ∧ (∀ c, H c = none → U c) ∧ NL K C U H as ns ∧ as.length ≤ 4 ∧ (∀ n ∈ ns, Ak.dep n ≤ 120) ∧
  ∀ H2 x, Same H H2 → H x = none → NAt K C U H2 x (Ak.num ns) → Q (.ref x) H2
end Lw
namespace Ak
theorem dep_up {n k : Nat} (h : ∀ m ∈ mem n, dep m ≤ k) : dep n ≤ k + 1 := dep_le fun m hm => Nat.succ_le_succ (h m hm)
theorem mem_pow {n m k : Nat} (h : n < 2 ^ k) (hm : m ∈ mem n) : m < k := by
  rcases Nat.lt_or_ge m k with z | z
  · exact z
  · have h1 := Nat.ge_two_pow_of_testBit (mem_iff.mp hm)
    have h2 : 2 ^ k ≤ 2 ^ m := Nat.pow_le_pow_right (by decide) z
    omega
theorem dep0 {n : Nat} (h : n < 1) : dep n ≤ 0 := dep_le fun m hm => absurd (mem_lt hm) (by omega)
theorem dep1 {n : Nat} (h : n < 2) : dep n ≤ 1 := dep_up fun m hm => dep0 (mem_pow (k := 1) h hm)
theorem dep2 {n : Nat} (h : n < 4) : dep n ≤ 2 := dep_up fun m hm => dep1 (mem_pow (k := 2) h hm)
theorem dep3 {n : Nat} (h : n < 16) : dep n ≤ 3 := dep_up fun m hm => dep2 (mem_pow (k := 4) h hm)
theorem dep4 {n : Nat} (h : n < 65536) : dep n ≤ 4 := dep_up fun m hm => dep3 (mem_pow (k := 16) h hm)
theorem num_snoc {l : List Nat} {m : Nat} (h : ∀ x ∈ l, x < m) : num (l ++ [m]) = num l + 2 ^ m := by
  have : num (l ++ [m]) = num (m :: l) := num_eq.mpr fun i => by simp [or_comm]
  rw [this, num_add h, Nat.add_comm]
/-- the members by their places -/
theorem bits_eq {n k : Nat} (h : n < 2 ^ k) : num ((List.range k).filter fun i => n.testBit i) = n := ext fun i => by
  rw [mem_num, List.mem_filter, List.mem_range, mem_iff]
  exact ⟨fun z => z.2, fun z => ⟨mem_pow h (mem_iff.mpr z), z⟩⟩
end Ak
/-! the text of a nest; sorted texts; `<` by the own __lt__; comprehensions whose items make objects -/
namespace Ak
open PySem PySem.Spec PyProof.Rows
def leS (a b : Str) : Bool := !(ltCps b.cps.toList a.cps.toList)
theorem leS_iff (a b : Str) : leS a b = true ↔ a.cps.toList ≤ b.cps.toList := by
  unfold leS
  rw [ltCps_eq, Bool.not_eq_true', decide_eq_false_iff_not]
  exact List.not_lt
theorem leS_trans (a b c : Str) (h1 : leS a b = true) (h2 : leS b c = true) : leS a c = true := by
  rw [leS_iff] at h1 h2 ⊢
  exact List.le_trans h1 h2
theorem leS_total (a b : Str) : (leS a b || leS b a) = true := by
  rw [Bool.or_eq_true, leS_iff, leS_iff]
  exact List.le_total _ _
theorem leS_anti (a b : Str) (h1 : leS a b = true) (h2 : leS b a = true) : a = b := by
  rw [leS_iff] at h1 h2
  have := List.le_antisymm h1 h2
  cases a; cases b
  simp only [Str.mk.injEq]
  exact Array.toList_inj.mp this
/-- a list of texts, sorted -/
def sortT (l : List Str) : List Str := l.mergeSort leS
theorem sortT_perm (l : List Str) : (sortT l).Perm l := List.mergeSort_perm l leS
theorem rising_pw : ∀ (p : Str) (l : List Str), risingS p l = true → (p :: l).Pairwise (fun a b => leS a b = true)
  | p, [], _ => by simp
  | p, x :: r, h => by
    have h : (!ltCps x.cps.toList p.cps.toList && risingS x r) = true := h
    rw [Bool.and_eq_true] at h
    have ih := rising_pw x r h.2
    rw [List.pairwise_cons] at ih ⊢
    refine ⟨fun y hy => ?_, by rw [List.pairwise_cons]; exact ih⟩
    rcases List.mem_cons.mp hy with e | e
    · rw [e]; exact h.1
    · exact leS_trans _ _ _ h.1 (ih.1 y e)
theorem sorted_pw (l : List Str) (h : sortedS l = true) : l.Pairwise (fun a b => leS a b = true) := by
  cases l with
  | nil => exact List.Pairwise.nil
  | cons x r => exact rising_pw x r h
theorem sort_eq : ∀ {l k : List Str}, l.Pairwise (fun a b => leS a b = true) → k.Pairwise (fun a b => leS a b = true) → l.Perm k → l = k
  | [], k, _, _, p => p.symm.eq_nil.symm
  | x :: r, [], _, _, p => absurd p.eq_nil (by simp)
  | x :: r, y :: s, h1, h2, p => by
    rw [List.pairwise_cons] at h1 h2
    have e : x = y := by
      have hx : x ∈ y :: s := p.mem_iff.mp List.mem_cons_self
      have hy : y ∈ x :: r := p.mem_iff.mpr List.mem_cons_self
      rcases List.mem_cons.mp hx with a | a
      · exact a
      rcases List.mem_cons.mp hy with b | b
      · exact b.symm
      exact leS_anti _ _ (h1.1 y b) (h2.1 x a)
    subst e
    rw [sort_eq h1.2 h2.2 (List.Perm.cons_inv p)]
theorem sortT_eq {l k : List Str} (p : k.Perm l) (h : sortedS k = true) : k = sortT l :=
  sort_eq (sorted_pw k h) (List.pairwise_mergeSort leS_trans leS_total l) (p.trans (sortT_perm l).symm)
theorem sortT_of {l k : List Str} (p : k.Perm l) : sortT k = sortT l :=
  sort_eq (List.pairwise_mergeSort leS_trans leS_total k) (List.pairwise_mergeSort leS_trans leS_total l) (((sortT_perm k).trans p).trans (sortT_perm l).symm)
/-- the text of a row of texts -/
def brace (l : List Str) : Str := ("{" : Str) ++ Txt.join "," (sortT l) ++ ("}" : Str)
/-- the text of a nest -/
def txt (n : Nat) : Str := brace ((mem n).attach.map fun m => txt m.1)
termination_by n
decreasing_by exact mem_lt m.2
theorem txt_eq (n : Nat) : txt n = brace ((mem n).map txt) := by
  rw [txt, List.attach_map_val (f := txt)]
theorem brace_of {l k : List Str} (p : k.Perm l) : brace k = brace l := by unfold brace; rw [sortT_of p]
theorem join_len (l : List Str) : (Txt.join "," l).length ≤ (l.map (·.length)).sum + l.length * 1 := by
  have : Txt.join "," l = Str.join "," l := StrLaws.glued_eq_join _ _
  rw [this]
  exact StrLaws.join_length_le _ _
theorem join_len' (l : List Str) : (Txt.join "," l).length ≤ (l.map (·.length)).sum + l.length := by have := join_len l; omega
theorem sum_perm {l k : List Nat} (p : l.Perm k) : l.sum = k.sum := p.sum_nat
theorem le_sum : ∀ {l : List Nat} {x : Nat}, x ∈ l → x ≤ l.sum
  | y :: r, x, h => by
    rw [List.sum_cons]
    rcases List.mem_cons.mp h with e | e
    · omega
    · have := le_sum e; omega
theorem brace_len (l : List Str) : (brace l).length ≤ 2 + (l.map (·.length)).sum + l.length := by
  unfold brace
  rw [Str.length_append, Str.length_append]
  have h := join_len (sortT l)
  have h1 : ((sortT l).map (·.length)).sum = (l.map (·.length)).sum := sum_perm ((sortT_perm l).map _)
  have h2 : (sortT l).length = l.length := (sortT_perm l).length_eq
  rw [h1, h2] at h
  have e1 : (("{" : Str)).length = 1 := by decide +kernel
  have e2 : (("}" : Str)).length = 1 := by decide +kernel
  omega
theorem txt_len (n : Nat) : (txt n).length + 1 ≤ 3 * br n := by
  induction n using Nat.strongRecOn with
  | _ n ih =>
    have h := brace_len ((mem n).map txt)
    rw [← txt_eq] at h
    have hs : ∀ l : List Nat, (∀ m ∈ l, m < n) → ((l.map txt).map (·.length)).sum + (l.map txt).length ≤ 3 * (l.map br).sum := by
      intro l
      induction l with
      | nil => intro _; decide
      | cons x r ihr =>
        intro hl
        have h1 := ih x (hl x List.mem_cons_self)
        have h2 := ihr fun m hm => hl m (List.mem_cons_of_mem _ hm)
        simp only [List.map_cons, List.sum_cons, List.length_cons] at h2 ⊢
        omega
    have h3 := hs (mem n) fun m hm => mem_lt hm
    rw [br_eq n]
    omega
theorem txts_len : ∀ (l : List Nat), ((l.map txt).map (·.length)).sum + (l.map txt).length ≤ 3 * (l.map br).sum
  | [] => by decide
  | x :: r => by
    have h1 := txt_len x
    have h2 := txts_len r
    simp only [List.map_cons, List.sum_cons, List.length_cons] at h2 ⊢
    omega
theorem join_ok : ∀ {l : List Str}, (∀ x ∈ l, PyData.strOk x = true) → PyData.strOk (Str.join "," l) = true
  | [], _ => by decide +kernel
  | [x], h => h x List.mem_cons_self
  | x :: y :: r, h => by
    show PyData.strOk (x ++ "," ++ Str.join "," (y :: r)) = true
    exact Lw.strOk_app (Lw.strOk_app (h x List.mem_cons_self) (by decide +kernel)) (join_ok fun z hz => h z (List.mem_cons_of_mem _ hz))
theorem brace_ok {l : List Str} (h : ∀ x ∈ l, PyData.strOk x = true) : PyData.strOk (brace l) = true := by
  unfold brace
  refine Lw.strOk_app (Lw.strOk_app (by decide +kernel) ?_) (by decide +kernel)
  have : Txt.join "," (sortT l) = Str.join "," (sortT l) := StrLaws.glued_eq_join _ _
  rw [this]
  exact join_ok fun x hx => h x ((sortT_perm l).mem_iff.mp hx)
theorem txt_ok (n : Nat) : PyData.strOk (txt n) = true := by
  induction n using Nat.strongRecOn with
  | _ n ih =>
    rw [txt_eq]
    exact brace_ok fun x hx => by
      obtain ⟨m, hm, rfl⟩ := List.mem_map.mp hx
      exact ih m (mem_lt hm)
/-- at most k members at every depth -/
inductive Few (k : Nat) : Nat → Prop where
  | mk {n : Nat} (h : (mem n).length ≤ k) (hm : ∀ m ∈ mem n, Few k m) : Few k n
theorem br_mem {n m : Nat} (h : m ∈ mem n) : br m + 1 ≤ br n := by
  rw [br_eq n]
  have : br m ≤ ((mem n).map br).sum := le_sum (List.mem_map.mpr ⟨m, h, rfl⟩)
  omega
theorem br_le (n : Nat) : br n ≤ n + 1 := by
  induction n using Nat.strongRecOn with
  | _ n ih =>
    have key : ∀ l : List Nat, (∀ m ∈ l, m < n) → l.Pairwise (· > ·) → (l.map br).sum ≤ num l := by
      intro l
      induction l with
      | nil => intro _ _; decide
      | cons x r ihr =>
        intro hl hp
        rw [List.pairwise_cons] at hp
        have h1 := ih x (hl x List.mem_cons_self)
        have h2 := ihr (fun m hm => hl m (List.mem_cons_of_mem _ hm)) hp.2
        have h3 : num (x :: r) = 2 ^ x + num r := num_add fun y hy => hp.1 y hy
        have h4 : x + 1 ≤ 2 ^ x := Nat.lt_two_pow_self
        rw [List.map_cons, List.sum_cons, h3]
        omega
    have h5 := key (mem n).reverse (fun m hm => mem_lt (List.mem_reverse.mp hm)) (List.pairwise_reverse.mpr (mem_asc n))
    rw [show num (mem n).reverse = n from (num_eq.mpr fun i => List.mem_reverse).trans (num_mem n), List.map_reverse, sum_perm (List.reverse_perm _)] at h5
    rw [br_eq n]
    omega
end Ak
namespace L2
open PySem PySem.Spec PyProof.Rows
/-- x < y by the own __lt__ -/
def rLtO (C : Addr) (sp : Sp) (E : XK) : R2 := fun x y H Q => ∃ (a b dx dy : Addr) (fs gs : List (Str × V)), x = .ref a ∧ y = .ref b ∧ H a = some (.ins C dx fs) ∧ H b = some (.ins C dy gs) ∧ sp [x, y] H (fun v H' => ∃ b, v = .bl b ∧ Q (.bl b) H') E
theorem op_ltO {X : Cx} {n : Nat} {f C : Addr} {fd : FuncData} {ps : List Str} {sp : Sp} {E : XK} {K : PySem.W.Frag} {mg : Str → Option Value} (Z : Lw.ZN K mg C) (hK : X.K = K) (hs : PySem.W.findIn K (.ref C) "__lt__" = some (some (.ref f))) (hf : PySem.W.isFn K (.ref f) = true) (G : FnOk X.prog X.w K X.mg X.base CX0 n f fd ps sp) (hb : Binds K fd ps []) (hr : Room n X.A) :
    OpR X (compareOp .Lt) (rLtO C sp E) := by
  subst hK
  intro pins s σ H x y u v Q I rx ry h
  obtain ⟨a, b, dx, dy, fs, gs, rfl, rfl, ha, hb2, hsp⟩ := h
  cases rx
  obtain ⟨od, J⟩ := ins_at I ha
  obtain ⟨P, Zt, hp, _⟩ := kit_of I ry (Z.ty hb2)
  obtain ⟨m, hF⟩ := I.fr
  show wpAny (model X.prog X.w) X.A (richCompare .Lt (.ref a) v) (EP X pins σ Q) X.xe s
  refine PySem.W.cmp_K (op := .Lt) (tb := .ref C) hr.units0 hF I.ok.mod.kin J (Zt.ty _ _ I.kIn hp) (Lw.ZN.nf X.K C) hs hf ?_
  refine wpAny_mono (own_call G hb ⟨hr, rfl⟩ I (show Vals [V.ref a, V.ref b] [Value.ref a, v] from .cons rfl (.cons ry .nil)) hsp) (fun r s' z => ?_) fun _ _ z => z
  obtain ⟨w, H', I', rw', b, rfl, q⟩ := z
  cases (show r = Value.bool b from rw')
  exact ⟨.bl b, H', I', rfl, q⟩
theorem cr_sortedSK {X : Cx} {K : PySem.W.Frag} (h : X.K = K) : CallR X (.builtin "sorted") (rSortedS K) := by subst h; exact cr_sortedS
def rJoin (K : PySem.W.Frag) : V → List V → Hp → VK → Prop := fun x xs H Q => ∃ (a : Str) (p : Addr) (ys : List Str), x = .str a ∧ xs = [.ref p] ∧ (SqL K H p (ys.map V.str) ∨ SqT K H p (ys.map V.str)) ∧ (ys.map (·.length)).sum + ys.length * a.length ≤ 16777216 ∧ Q (.str (Txt.join a ys)) H
theorem mt_joinK {X : Cx} {K : PySem.W.Frag} (h : X.K = K) : MtR X "str.join" (rJoin K) := by subst h; exact mt_join
def rStrS : List V → Hp → VK → Prop := fun xs H Q => ∃ a : Str, xs = [.str a] ∧ Q (.str a) H
theorem call_strS {X : Cx} : CallR X (.type "str") rStrS := SkE.call_str_str
end L2
namespace Lw
open PySem PySem.Spec PyProof.Rows L2
section
variable {K : PySem.W.Frag} {C : Addr} {U : Addr → Prop} {H : Hp} {Q : VK} {E : XK}
theorem r_ltO {x b : Addr} {n m : Nat} (hx : NAt K C U H x n) (hb : NAt K C U H b m) (hd : Ak.dep n ≤ 120 ∨ Ak.dep m ≤ 120) (q : Q (.bl (decide (n < m))) H) : rLtO C (spNLt K C) E (.ref x) (.ref b) H Q := by
  obtain ⟨dx, l, kt, as, e1, _⟩ := hx.get
  obtain ⟨dx', l', kt', as', g1, _⟩ := hb.get
  exact ⟨x, b, _, _, _, _, rfl, rfl, e1, g1, U, x, b, n, m, rfl, hx, hb, hd, _, rfl, q⟩
theorem r_strS {x : Str} (q : Q (.str x) H) : rStrS [.str x] H Q := ⟨x, rfl, q⟩
theorem strs_lay : ∀ {xs : List Str}, (∀ x ∈ xs, PyData.strOk x = true) → PyData.canLayAll0 (xs.map PyData.str) = true
  | [], _ => rfl
  | x :: r, h => by
    show (PyData.canLay0 (.str x) && PyData.canLayAll0 (r.map PyData.str)) = true
    rw [strs_lay fun z hz => h z (List.mem_cons_of_mem _ hz), Bool.and_true]
    exact h x List.mem_cons_self
theorem strs_dep : ∀ (xs : List Str), PyData.depthAll (xs.map PyData.str) = 0
  | [] => rfl
  | x :: r => by
    show max (PyData.depth (.str x)) (PyData.depthAll (r.map PyData.str)) = 0
    rw [strs_dep r]; rfl
theorem strs_pl : ∀ (xs : List Str), Lw.plAll (xs.map PyData.str) = true
  | [] => rfl
  | x :: r => by
    show (Lw.pl (.str x) && Lw.plAll (r.map PyData.str)) = true
    rw [strs_pl r]; rfl
theorem strs_dp : ∀ (xs : List Str), DpAll K H (xs.map V.str) (xs.map PyData.str)
  | [] => .nil
  | x :: r => .cons (.str x) (strs_dp r)
theorem r_eqTx {a b : Addr} {xs : List Str} (h1 : H a = some (.lst (xs.map V.str))) (h2 : H b = some (.lst (xs.map V.str))) (ok : ∀ x ∈ xs, PyData.strOk x = true) (q : Q (.bl true) H) : rEqD K (.ref a) (.ref b) H Q := by
  have sh : SeqAt.shaped (.list (xs.map PyData.str)) = true := by
    unfold SeqAt.shaped
    rw [PyData.canLay0, strs_lay ok, PyData.depth, strs_dep]; rfl
  refine r_eqDd (.lst (SqL.of h1) (strs_dp xs)) (.lst (SqL.of h2) (strs_dp xs)) sh sh (strs_pl xs) (strs_pl xs) fun z hz => ?_
  cases z with
  | true => exact q
  | false => exact absurd (hz.mpr rfl) (by decide)
/-- sorted(a list of texts) -/
theorem r_sortedT {a : Addr} {xs : List Str} (h : H a = some (.lst (xs.map V.str))) (hl : xs.length < 64) (q : ∀ p, H p = none → Q (.ref p) (upd H p (.lst ((Ak.sortT xs).map V.str)))) : rSortedS K [.ref a] H Q :=
  ⟨a, xs, rfl, SqL.of h, hl, fun ys p hp hs np => by rw [Ak.sortT_eq hp hs]; exact q p np⟩
theorem r_join {a : Str} {p : Addr} {ys : List Str} (h : H p = some (.lst (ys.map V.str))) (hl : (ys.map (·.length)).sum + ys.length * a.length ≤ 16777216) (q : Q (.str (Txt.join a ys)) H) : rJoin K (.str a) [.ref p] H Q := ⟨a, p, ys, rfl, rfl, .inl (SqL.of h), hl, q⟩
end
section
variable {K : PySem.W.Frag} {σ : L2.St} {g : TG} {tt : TT} {te : TE} {vs : List Nat} {Q : Addr → Hp → Prop} {H : Hp}
/-- [y for x in a list], where the items may make objects -/
theorem lcG_vals {a : Addr} {xs ys : List V} (ha : H a = some (.lst xs)) (hy : ys.length = xs.length) (hz : xs.length ≤ 1000)
    (hs : ∀ (i : Nat) (x y : V) (C : Hp) (N : V → Hp → Prop) (M : Hp → Prop), xs[i]? = some x → ys[i]? = some y → Same H C → (∀ C', Same C C' → N y C') → g x (wipe σ vs) C fun σ2 H2 => wipe σ2 vs = wipe σ vs ∧ tt σ2 H2 fun k H3 => if k = true then te σ2 H3 N else M H3)
    (hd : ∀ D H', H D = none → Same H H' → H' D = some (.lst ys) → Q D H') :
    ∀ D, H D = none → ∃ W : Nat → Nat → Hp → Prop, (∃ m, W 0 m (upd H D (.lst []))) ∧ ∀ i m H, W i m H →
      ((Itl K a).stop i H ∧ Q D H) ∨ ((Itl K a).go i H ∧ ∃ Nx : Hp → Prop, (∀ H', Nx H' → ∃ m', m' < m ∧ W (i + 1) m' H') ∧ ∀ x H', (Itl K a).yld i H x H' → g x (wipe σ vs) H' fun σ2 H2 => wipe σ2 vs = wipe σ vs ∧ tt σ2 H2 fun b H3 =>
        if b = true then te σ2 H3 fun y H4 => ∃ acc, H4 D = some (.lst acc) ∧ acc.length < sizeLine ∧ Nx (upd H4 D (.lst (acc ++ [y]))) else Nx H3) := by
  intro D hD
  refine lc_it (walk_list (xs := xs)) (fun i H' => Same H H' ∧ H' D = some (.lst (ys.take i))) ⟨same_new hD, by rw [List.take_zero]; exact upd_same⟩ (fun i H' _ e => SqL.of (e.1 _ _ ha)) (fun i x H1 H2 hi e y => ?_) (fun H' e => ?_)
  · obtain ⟨rfl, y⟩ := y
    obtain ⟨hS, hDl⟩ := e
    have ey : ys[i]? = some (ys[i]'(by omega)) := List.getElem?_eq_getElem (by omega)
    refine hs i x _ _ _ _ y ey hS fun C' s => ⟨_, s _ _ hDl, small (by rw [List.length_take]; omega), same_off hD (hS.trans s), ?_⟩
    rw [List.take_add_one, ey]; exact upd_same
  · obtain ⟨hS, hDl⟩ := e
    rw [← hy, List.take_length] at hDl
    exact hd D H' hD hS hDl
theorem lcG_filter {a : Addr} {os : List Nat} (ha : H a = some (.lst (nV os))) (hz : os.length ≤ 1000) (pr : Nat → Bool) (fn : Nat → V)
    (hs : ∀ (k : Nat) (C : Hp) (N : V → Hp → Prop) (M : Hp → Prop), k ∈ os → Same H C → (pr k = true → ∀ C', Same C C' → N (fn k) C') → (pr k = false → ∀ C', Same C C' → M C') → g (.int ((k : Nat) : Int)) (wipe σ vs) C fun σ2 H2 => wipe σ2 vs = wipe σ vs ∧ tt σ2 H2 fun b H3 => if b = true then te σ2 H3 N else M H3)
    (hd : ∀ D H', H D = none → Same H H' → H' D = some (.lst ((os.filter pr).map fn)) → Q D H') :
    ∃ b, V.ref a = .ref b ∧ (∃ xs, SqL K H b xs) ∧ ∀ D, H D = none → ∃ W : Nat → Nat → Hp → Prop, (∃ m, W 0 m (upd H D (.lst []))) ∧ ∀ i m H, W i m H →
      ((Itl K b).stop i H ∧ Q D H) ∨ ((Itl K b).go i H ∧ ∃ Nx : Hp → Prop, (∀ H', Nx H' → ∃ m', m' < m ∧ W (i + 1) m' H') ∧ ∀ x H', (Itl K b).yld i H x H' → g x (wipe σ vs) H' fun σ2 H2 => wipe σ2 vs = wipe σ vs ∧ tt σ2 H2 fun b H3 =>
        if b = true then te σ2 H3 fun y H4 => ∃ acc, H4 D = some (.lst acc) ∧ acc.length < sizeLine ∧ Nx (upd H4 D (.lst (acc ++ [y]))) else Nx H3) := by
  refine ⟨a, rfl, ⟨_, SqL.of ha⟩, fun D hD => ?_⟩
  refine lc_it (walk_list (xs := nV os)) (fun i H' => Same H H' ∧ H' D = some (.lst (((os.take i).filter pr).map fn))) ⟨same_new hD, by rw [List.take_zero]; exact upd_same⟩ (fun i H' _ e => SqL.of (e.1 _ _ ha)) (fun i x H1 H2 hi e y => ?_) (fun H' e => ?_)
  · obtain ⟨rfl, y⟩ := y
    obtain ⟨hS, hDl⟩ := e
    obtain ⟨k, hk, rfl⟩ := nV_at y
    have hl : (((os.take i).filter pr).map fn).length ≤ 1000 := by
      rw [List.length_map]
      have h1 := List.length_filter_le pr (os.take i)
      have h2 : (os.take i).length ≤ os.length := by rw [List.length_take]; omega
      omega
    have ht : os.take (i + 1) = os.take i ++ [k] := by rw [List.take_add_one, hk]; rfl
    refine hs k _ _ _ (List.mem_of_getElem? hk) hS (fun hp C' s => ⟨_, s _ _ hDl, small (by omega), same_off hD (hS.trans s), ?_⟩) (fun hp C' s => ⟨hS.trans s, ?_⟩)
    · rw [upd_same, ht, List.filter_append, List.map_append]
      simp [hp]
    · rw [s _ _ hDl, ht, List.filter_append, List.map_append]
      simp [hp]
  · obtain ⟨hS, hDl⟩ := e
    rw [nV_len, List.take_length] at hDl
    exact hd D H' hD hS hDl
end
end Lw
namespace K06
open PySem PySem.Spec PyProof.Rows L2 Lw

def topS (i : Nat) : Stmt := PySem.Challenge.pw_setnests_k06_bad_texts_of_nests.main.body.getD i (.Pass ⟨0, 0, 0, 0⟩)
abbrev s__wall : Stmt := topS 0
theorem sc__wall : FnScope ["k"] ["k"] (defScope s__wall) := ⟨rfl, rfl, rfl, by decide +kernel, rfl, by decide +kernel, by decide +kernel⟩

abbrev s_distinct : Stmt := topS 16
theorem sc_distinct : FnScope ["nests", "found", "nest"] ["nests"] (defScope s_distinct) := ⟨rfl, rfl, rfl, by decide +kernel, rfl, by decide +kernel, by decide +kernel⟩

abbrev s_read_nest : Stmt := topS 20
theorem sc_read_nest : FnScope ["text", "unclosed", "previous", "at", "character", "members"] ["text"] (defScope s_read_nest) := ⟨rfl, rfl, rfl, by decide +kernel, rfl, by decide +kernel, by decide +kernel⟩

abbrev s_characters_after : Stmt := topS 21
theorem sc_characters_after : FnScope ["previous", "depth"] ["previous", "depth"] (defScope s_characters_after) := ⟨rfl, rfl, rfl, by decide +kernel, rfl, by decide +kernel, by decide +kernel⟩

abbrev s_braces_deep : Stmt := topS 22
theorem sc_braces_deep : FnScope ["text", "depth", "greatest", "character"] ["text"] (defScope s_braces_deep) := ⟨rfl, rfl, rfl, by decide +kernel, rfl, by decide +kernel, by decide +kernel⟩

abbrev s__law_start : Stmt := topS 24
theorem sc__law_start : FnScope ["script", "great", "mixed", "cell"] ["script"] (defScope s__law_start) := ⟨rfl, rfl, rfl, by decide +kernel, rfl, by decide +kernel, by decide +kernel⟩

abbrev s__law_draw : Stmt := topS 25
theorem sc__law_draw : FnScope ["state", "many", "rest", "one", "two", "three"] ["state", "many"] (defScope s__law_draw) := ⟨rfl, rfl, rfl, by decide +kernel, rfl, by decide +kernel, by decide +kernel⟩

abbrev s__law_tree : Stmt := topS 26
theorem sc__law_tree : FnScope ["state", "levels", "members", "k"] ["state", "levels"] (defScope s__law_tree) := ⟨rfl, rfl, rfl, by decide +kernel, rfl, by decide +kernel, by decide +kernel⟩

abbrev s__law_long : Stmt := topS 27
theorem sc__law_long : FnScope ["size", "deeper", "count"] ["size"] (defScope s__law_long) := ⟨rfl, rfl, rfl, by decide +kernel, rfl, by decide +kernel, by decide +kernel⟩

abbrev s__law_first : Stmt := topS 28
theorem sc__law_first : FnScope ["state", "way", "count", "k"] ["state"] (defScope s__law_first) := ⟨rfl, rfl, rfl, by decide +kernel, rfl, by decide +kernel, by decide +kernel⟩

abbrev s__law_sign : Stmt := topS 29
theorem sc__law_sign : FnScope ["state", "signs"] ["state"] (defScope s__law_sign) := ⟨rfl, rfl, rfl, by decide +kernel, rfl, by decide +kernel, by decide +kernel⟩

abbrev s__law_changed : Stmt := topS 30
theorem sc__law_changed : FnScope ["state", "text", "k", "way", "at"] ["state", "text"] (defScope s__law_changed) := ⟨rfl, rfl, rfl, by decide +kernel, rfl, by decide +kernel, by decide +kernel⟩

abbrev s__law_deep : Stmt := topS 31
theorem sc__law_deep : FnScope ["text", "now", "most", "sign"] ["text"] (defScope s__law_deep) := ⟨rfl, rfl, rfl, by decide +kernel, rfl, by decide +kernel, by decide +kernel⟩

abbrev s__law_scan : Stmt := topS 32
theorem sc__law_scan : FnScope ["text", "lists", "last", "at", "sign", "inside", "good", "spelled", "member"] ["text"] (defScope s__law_scan) := ⟨rfl, rfl, rfl, by decide +kernel, rfl, by decide +kernel, by decide +kernel⟩

abbrev s__law_spelled : Stmt := topS 33
theorem sc__law_spelled : FnScope ["nest", "member"] ["nest"] (defScope s__law_spelled) := ⟨rfl, rfl, rfl, by decide +kernel, rfl, by decide +kernel, by decide +kernel⟩

abbrev s__law_told : Stmt := topS 34
theorem sc__law_told : FnScope ["text", "told", "bad", "wrong", "great"] ["text"] (defScope s__law_told) := ⟨rfl, rfl, rfl, by decide +kernel, rfl, by decide +kernel, by decide +kernel⟩

abbrev s__law_right : Stmt := topS 35
theorem sc__law_right : FnScope ["text", "told", "scan"] ["text"] (defScope s__law_right) := ⟨rfl, rfl, rfl, by decide +kernel, rfl, by decide +kernel, by decide +kernel⟩

abbrev s__law_made : Stmt := topS 36
theorem sc__law_made : FnScope ["number", "word", "kept", "one", "two", "three"] ["number", "word"] (defScope s__law_made) := ⟨rfl, rfl, rfl, by decide +kernel, rfl, by decide +kernel, by decide +kernel⟩

abbrev s_law : Stmt := topS 37
theorem sc_law : FnScope ["script", "state", "first", "second", "number", "word", "text"] ["script"] (defScope s_law) := ⟨rfl, rfl, rfl, by decide +kernel, rfl, by decide +kernel, by decide +kernel⟩

structure Blt (mg : Str → Option Value) : Prop where
  m_ValueError : mg "ValueError" = none
  m_abs : mg "abs" = none
  m_all : mg "all" = none
  m_bool : mg "bool" = none
  m_enumerate : mg "enumerate" = none
  m_int : mg "int" = none
  m_isinstance : mg "isinstance" = none
  m_iter : mg "iter" = none
  m_len : mg "len" = none
  m_list : mg "list" = none
  m_max : mg "max" = none
  m_range : mg "range" = none
  m_reversed : mg "reversed" = none
  m_set : mg "set" = none
  m_sorted : mg "sorted" = none
  m_str : mg "str" = none
  m_sum : mg "sum" = none
  m_super : mg "super" = none
  m_tuple : mg "tuple" = none
/-- a def stands at f -/
structure Dn (K : PySem.W.Frag) (mg : Str → Option Value) (x : Str) (st : Stmt) (ps : List Str) (f : Addr) (fd : FuncData) : Prop where
  F : Fun K x x st f fd
  b : Binds K fd ps []
  g : mg x = some (.ref f)
end K06
namespace K06
open PySem PySem.Spec PyProof.Rows L2 Lw


local macro_rules | `(tactic| walk_at "look") => `(tactic| first
  | assumption
  | with_reducible exact upd_same
  | with_reducible exact rg_st
  | with_reducible exact rg_g (by assumption)
  | (with_reducible refine upd_old (by assumption) ?_; walk_at "look")
  | (with_reducible refine rg_get (by assumption) ?_; walk_at "look")
  | (with_reducible refine Same.get (by assumption) ?_; walk_at "look"))
local macro_rules | `(tactic| walk_at "cond") => `(tactic| first
  | (show _ ≠ _; omega) | exact cdivN (by omega) (by omega) | exact cmul_mod (by decide) (by decide) | exact cmulR (by omega) (by omega) | exact cmulL (by omega) (by omega) | exact cpow (by omega) (by omega) (by omega) (by omega) | (show (0:Int) ≤ _; omega))
local macro_rules | `(tactic| walk_at "at") => `(tactic| first | assumption | with_unfolding_all rfl)
local macro_rules | `(tactic| walk_at "sz") => `(tactic| first | assumption | (refine small ?_; omega) | (refine small ?_; simp only [List.length_map, List.length_append, List.length_cons, List.length_nil]; omega))
local macro_rules | `(tactic| walk_at "len") => `(tactic| first | exact size_nil | exact Nat.le_of_lt (small (by simp only [List.length_cons, List.length_nil, List.length_map]; omega)))
local macro_rules | `(tactic| walk_at "newD") => `(tactic| (refine ⟨by walk_at "len", fun p np => ?_⟩; obtain ⟨e, o', hD', n', ne'⟩ := newTD_eq (topRg _ _) (by assumption) (by assumption) np (.lst _); rw [e]; clear e))
local macro_rules | `(tactic| walk_at "new") => `(tactic| (refine ⟨by walk_at "len", fun p np => ?_⟩; obtain ⟨e, o', n'⟩ := newT_eq (topRg _ _) (by assumption) np (.lst _); rw [e]; clear e))
local macro_rules | `(tactic| walk_at "st") => `(tactic| first
  | with_reducible refine r_seq ?_
  | with_reducible refine r_var rfl ?_
  | with_reducible refine r_c ?_
  | with_reducible refine r_asg ?_
  | (with_reducible refine r_name ?_; dsimp only [List.set_cons_zero, List.set_cons_succ])
  | with_reducible refine r_sub ?_
  | with_reducible refine r_op ?_
  | with_reducible refine r_i0 ?_
  | (with_reducible refine' r_i ?k1 ?_; (case k1 => walk_at "cond"))
  | with_reducible refine r_cons ?_
  | with_reducible refine r_nil ?_
  | with_reducible refine r_cb ?_
  | with_reducible refine r_call ?_
  | with_reducible refine r_ifs ?_
  | with_reducible refine r_test ?_
  | with_reducible refine r_tB ?_
  | with_reducible refine r_bl ?_
  | with_reducible refine r_ret ?_
  | with_reducible refine r_drop ?_
  | with_reducible refine r_next ?_
  | (with_reducible refine' r_ixL ?k1 ?k2 ?_; (case k1 => walk_at "look"); (case k2 => walk_at "at"))
  | (with_reducible refine' r_setL ?k1 ?k2 ?_; (case k1 => walk_at "look"); (case k2 => walk_at "at"))
  | (with_reducible refine' r_tup (SqT.of ?k1) ?k2 ?_; (case k1 => walk_at "look"); (case k2 => rfl))
  | with_reducible refine r_gcons ?_
  | with_reducible refine r_gnil ?_
  | with_reducible refine r_aug rfl ?_
  | with_reducible refine r_augS ?_
  | with_reducible refine r_ipI ?_
  | with_reducible refine r_un ?_
  | with_reducible refine r_u ?_
  | with_reducible refine r_eq rfl ?_
  | with_reducible refine r_ne rfl ?_
  | with_reducible refine r_chain ?_
  | with_reducible refine iteF ?_
  | with_reducible refine r_not ?_
  | with_reducible refine r_and ?_
  | with_reducible refine r_or ?_
  | with_reducible refine r_andV ?_
  | with_reducible refine r_orV ?_
  | with_reducible refine r_notV ?_
  | with_reducible refine r_lst ?_
  | with_reducible refine r_bm ?_
  | with_reducible refine r_bm0 ?_
  | (with_reducible refine' And.intro (r_ty ?k1) ?_; (case k1 => walk_at "look"))
  | (with_reducible refine' r_append ?k1 ?k2 ?_; (case k1 => walk_at "look"); (case k2 => walk_at "sz"))
  | (with_reducible refine' r_lenK ?k1 ?_; (case k1 => walk_at "look"))
  | (with_reducible refine' r_listOf ?k1 ?_; (case k1 => walk_at "look"))
  | (with_reducible refine' r_sortedI ?k1 ?_; (case k1 => walk_at "look"))
  | (with_reducible refine' r_sum ?k1 ?_; (case k1 => walk_at "look"))
  | with_reducible refine r_int ?_
  | (with_reducible refine' r_draw (by assumption) ?k1 ?k2 ?_; (case k1 => omega); (case k2 => omega); intro R' n' o' h' h'')
  | with_reducible refine iteT ?_
  | with_reducible refine r_revL ?_
  | with_reducible refine r_lc ?_
  | with_reducible refine r_yes ?_
  | with_reducible refine r_sl ?_
  | with_reducible refine iteNTr ?_
  | with_reducible refine iteNFa ?_
  | with_reducible refine r_fld ?_
  | with_reducible refine r_sFld ?_
  | with_reducible refine r_meth ?_
  | with_reducible refine r_methT ?_
  | with_reducible refine r_prop ?_
  | with_reducible refine r_dget ?_
  | with_reducible refine r_dput ?_
  | with_reducible refine r_noPart ?_
  | with_reducible refine r_part ?_
  | with_reducible refine r_lc2 ?_
  | with_reducible refine r_callN ?_
  | with_reducible refine r_callD ?_
  | with_reducible refine r_tupE ?_
  | with_reducible refine r_rng2 ?_
  | with_reducible refine r_i1 ?_
  | (with_reducible refine' r_slL ?k1 ?_; (case k1 => walk_at "look"))
  | with_reducible refine r_for ?_
  | with_reducible refine r_iList ?_
  | with_reducible refine r_rng1 ?_
  | with_reducible refine r_enum ?_
  | (with_reducible show Ends.nx _ _ _; dsimp only)
  | (with_reducible show Ends.rt _ _ _; dsimp only)
  | (with_reducible show Ends.ct _ _ _; dsimp only)
  | (with_reducible show Ends.bk _ _ _; dsimp only))
local macro_rules | `(tactic| walk_at "go") => `(tactic| repeat (walk_at "st"))
local macro_rules | `(tactic| walk_at "begin") => `(tactic| dsimp only [cxOf, wipe, L2.start, List.map, List.length_cons, List.length_nil, Nat.reduceAdd, Nat.reduceSub, List.replicate, List.cons_append, List.nil_append])

abbrev s_Nest___eq__ : Stmt := inClass (topS 15) 1
theorem sc_Nest___eq__ : FnScope ["self", "other"] ["self", "other"] (defScope s_Nest___eq__) := ⟨rfl, rfl, rfl, by decide +kernel, rfl, by decide +kernel, by decide +kernel⟩

abbrev s_Nest___lt__ : Stmt := inClass (topS 15) 2
theorem sc_Nest___lt__ : FnScope ["self", "other"] ["self", "other"] (defScope s_Nest___lt__) := ⟨rfl, rfl, rfl, by decide +kernel, rfl, by decide +kernel, by decide +kernel⟩

abbrev s_Nest___contains__ : Stmt := inClass (topS 15) 3
theorem sc_Nest___contains__ : FnScope ["self", "nest"] ["self", "nest"] (defScope s_Nest___contains__) := ⟨rfl, rfl, rfl, by decide +kernel, rfl, by decide +kernel, by decide +kernel⟩

abbrev s_Nest___len__ : Stmt := inClass (topS 15) 4
theorem sc_Nest___len__ : FnScope ["self"] ["self"] (defScope s_Nest___len__) := ⟨rfl, rfl, rfl, by decide +kernel, rfl, by decide +kernel, by decide +kernel⟩

abbrev s_Nest___iter__ : Stmt := inClass (topS 15) 5
theorem sc_Nest___iter__ : FnScope ["self"] ["self"] (defScope s_Nest___iter__) := ⟨rfl, rfl, rfl, by decide +kernel, rfl, by decide +kernel, by decide +kernel⟩

abbrev s_Nest___init__ : Stmt := inClass (topS 15) 0
theorem sc_Nest___init__ : FnScope ["self", "members", "member"] ["self", "members"] (defScope s_Nest___init__) := ⟨rfl, rfl, rfl, by decide +kernel, rfl, by decide +kernel, by decide +kernel⟩

section
variable {P : Program} {w : World} {K : PySem.W.Frag} {mg : Str → Option Value} {base : Heap} {C : Addr}
theorem ok_neq {f : Addr} {fd : FuncData} (B : Blt mg) (Z : ZN K mg C) (F : Fun K "__eq__" "Nest.__eq__" s_Nest___eq__ f fd) : FnOk P w K mg base CX0 2 f fd ["self", "other"] (spNEq K C) := by
  refine F.ok sc_Nest___eq__ (fun vs H Q E h => ?_) (fun cdv A outer s H vs Q E hr h => ?_)
  · obtain ⟨U, a, n, y, rfl, _⟩ := h
    rfl
  · obtain ⟨U, a, n, y, rfl, ha, h⟩ := h
    refine ⟨_, (pss_one (ps_ret (pe_and (pe_callB (call_isiK' (K := K) rfl) (by rfl) B.m_isinstance (by decide +kernel) (pa_cons (pv 1) (pa_cons (pe_glob (v := .ref C) rfl Z.gN rfl) pa_nil))) (pe_one (pe_cmpR (op_eqD2 hr) (pe_fld (pv 0) rfl) (pe_fld (pv 1) rfl) (nomark _)))))), ?_⟩
    obtain ⟨dx, l, kt, as, e1, e2, e3, e4⟩ := ha.get
    walk_at "begin"
    walk_at "go"
    rcases h with ⟨b, m, rfl, hb, hd, q⟩ | ⟨t, ty, hk, q⟩
    · obtain ⟨dx', l', kt', as', g1, g2, g3, g4⟩ := hb.get
      refine ⟨_, _, _, _, true, rfl, .own C, Z.ty g1, Z.kt, ?_⟩
      walk_at "go"
      refine r_fldI e1 Z.cl Z.nK nf_k ?_
      walk_at "go"
      refine r_fldI g1 Z.cl Z.nK nf_k ?_
      exact r_eqK e4 g4 hd q
    · refine ⟨_, _, _, _, false, rfl, .own C, ty, hk, ?_⟩
      walk_at "go"
      exact q
theorem ok_nlt {f : Addr} {fd : FuncData} (B : Blt mg) (Z : ZN K mg C) (F : Fun K "__lt__" "Nest.__lt__" s_Nest___lt__ f fd) : FnOk P w K mg base CX0 2 f fd ["self", "other"] (spNLt K C) := by
  refine F.ok sc_Nest___lt__ (fun vs H Q E h => ?_) (fun cdv A outer s H vs Q E hr h => ?_)
  · obtain ⟨U, a, b, n, m, rfl, _⟩ := h
    rfl
  · obtain ⟨U, a, b, n, m, rfl, ha, hb, hd, q⟩ := h
    refine ⟨_, (pss_cons (ps_if (pt_not (pt_val (pe_callB (call_isiK' (K := K) rfl) (by rfl) B.m_isinstance (by decide +kernel) (pa_cons (pv 1) (pa_cons (pe_glob (v := .ref C) rfl Z.gN rfl) pa_nil))))) (pss_one (ps_ret pe_never)) pss_nil)
      (pss_one (ps_ret (pe_cmpR (op_ltD2 hr) (pe_fld (pv 0) rfl) (pe_fld (pv 1) rfl) (nomark _))))), ?_⟩
    obtain ⟨dx, l, kt, as, e1, e2, e3, e4⟩ := ha.get
    obtain ⟨dx', l', kt', as', g1, g2, g3, g4⟩ := hb.get
    walk_at "begin"
    walk_at "go"
    refine ⟨_, _, _, _, true, rfl, .own C, Z.ty g1, Z.kt, ?_⟩
    walk_at "go"
    refine r_fldI e1 Z.cl Z.nK nf_k ?_
    walk_at "go"
    refine r_fldI g1 Z.cl Z.nK nf_k ?_
    exact r_ltK e4 g4 hd q
theorem ok_nin {f : Addr} {fd : FuncData} (B : Blt mg) (Z : ZN K mg C) (F : Fun K "__contains__" "Nest.__contains__" s_Nest___contains__ f fd) : FnOk P w K mg base CX0 2 f fd ["self", "nest"] (spNIn K C) := by
  refine F.ok sc_Nest___contains__ (fun vs H Q E h => ?_) (fun cdv A outer s H vs Q E hr h => ?_)
  · obtain ⟨U, a, b, n, m, rfl, _⟩ := h
    rfl
  · obtain ⟨U, a, b, n, m, rfl, ha, hb, hd, q⟩ := h
    refine ⟨_, (pss_one (ps_ret (pe_and (pe_callB (call_isiK' (K := K) rfl) (by rfl) B.m_isinstance (by decide +kernel) (pa_cons (pv 1) (pa_cons (pe_glob (v := .ref C) rfl Z.gN rfl) pa_nil))) (pe_one (pe_cmpR (op_inTD2 hr) (pe_fld (pv 1) rfl) (pe_fld (pv 0) rfl) (by rfl)))))), ?_⟩
    obtain ⟨dx, l, kt, as, e1, e2, e3, e4⟩ := ha.get
    obtain ⟨dx', l', kt', as', g1, g2, g3, g4⟩ := hb.get
    walk_at "begin"
    walk_at "go"
    refine ⟨_, _, _, _, true, rfl, .own C, Z.ty g1, Z.kt, ?_⟩
    walk_at "go"
    refine r_fldI g1 Z.cl Z.nK nf_k ?_
    walk_at "go"
    refine r_fldI e1 Z.cl Z.nK nf_k ?_
    exact r_inK g4 e4 hd q
theorem ok_nlen {f : Addr} {fd : FuncData} (B : Blt mg) (Z : ZN K mg C) (F : Fun K "__len__" "Nest.__len__" s_Nest___len__ f fd) : FnOk P w K mg base CX0 2 f fd ["self"] (spNLen K C) := by
  refine F.ok sc_Nest___len__ (fun vs H Q E h => ?_) (fun cdv A outer s H vs Q E hr h => ?_)
  · obtain ⟨U, a, n, rfl, _⟩ := h
    rfl
  · obtain ⟨U, a, n, rfl, ha, q⟩ := h
    refine ⟨_, (pss_one (ps_ret (pe_callB (call_len_seqK (K := K) rfl) (by rfl) B.m_len PySem.boot_len (pa_cons (pe_fld (pv 0) rfl) pa_nil)))), ?_⟩
    obtain ⟨dx, l, kt, as, e1, e2, e3, e4⟩ := ha.get
    walk_at "begin"
    walk_at "go"
    refine r_fldI e1 Z.cl Z.nM nf_m ?_
    refine r_lenK e2 ?_
    rw [List.length_map, e3.len]
    exact q
theorem ok_niter {f : Addr} {fd : FuncData} (B : Blt mg) (Z : ZN K mg C) (F : Fun K "__iter__" "Nest.__iter__" s_Nest___iter__ f fd) : FnS P w K mg base 2 f fd ["self"] (spNIter K C) := by
  refine F.okS sc_Nest___iter__ (fun n0 vs H Q E h => ?_) (fun cdv A outer s H vs Q E hr h => ?_)
  · obtain ⟨a, dx, l, kt, n, as, rfl, _⟩ := h
    rfl
  · obtain ⟨a, dx, l, kt, n, as, rfl, e1, e2, q⟩ := h
    refine ⟨_, (pss_one (ps_ret (pe_callB call_iterN (by rfl) B.m_iter (by decide +kernel) (pa_cons (pe_fld (pv 0) rfl) pa_nil)))), ?_⟩
    walk_at "begin"
    walk_at "go"
    refine r_fldI e1 Z.cl Z.nM nf_m ?_
    exact ⟨l, _, rfl, SqL.of e2, q⟩
end

end K06
namespace K06
open PySem PySem.Spec PyProof.Rows L2 Lw


local macro_rules | `(tactic| walk_at "look") => `(tactic| first
  | assumption
  | with_reducible exact upd_same
  | with_reducible exact rg_st
  | with_reducible exact rg_g (by assumption)
  | (with_reducible refine upd_old (by assumption) ?_; walk_at "look")
  | (with_reducible refine rg_get (by assumption) ?_; walk_at "look")
  | (with_reducible refine Same.get (by assumption) ?_; walk_at "look"))
local macro_rules | `(tactic| walk_at "cond") => `(tactic| first
  | (show _ ≠ _; omega) | exact cdivN (by omega) (by omega) | exact cmul_mod (by decide) (by decide) | exact cmulR (by omega) (by omega) | exact cmulL (by omega) (by omega) | exact cpow (by omega) (by omega) (by omega) (by omega) | (show (0:Int) ≤ _; omega))
local macro_rules | `(tactic| walk_at "at") => `(tactic| first | assumption | with_unfolding_all rfl)
local macro_rules | `(tactic| walk_at "sz") => `(tactic| first | assumption | (refine small ?_; omega) | (refine small ?_; simp only [List.length_map, List.length_append, List.length_cons, List.length_nil]; omega))
local macro_rules | `(tactic| walk_at "len") => `(tactic| first | exact size_nil | exact Nat.le_of_lt (small (by simp only [List.length_cons, List.length_nil, List.length_map]; omega)))
local macro_rules | `(tactic| walk_at "newD") => `(tactic| (refine ⟨by walk_at "len", fun p np => ?_⟩; obtain ⟨e, o', hD', n', ne'⟩ := newTD_eq (topRg _ _) (by assumption) (by assumption) np (.lst _); rw [e]; clear e))
local macro_rules | `(tactic| walk_at "new") => `(tactic| (refine ⟨by walk_at "len", fun p np => ?_⟩; obtain ⟨e, o', n'⟩ := newT_eq (topRg _ _) (by assumption) np (.lst _); rw [e]; clear e))
local macro_rules | `(tactic| walk_at "st") => `(tactic| first
  | with_reducible refine r_seq ?_
  | with_reducible refine r_var rfl ?_
  | with_reducible refine r_c ?_
  | with_reducible refine r_asg ?_
  | (with_reducible refine r_name ?_; dsimp only [List.set_cons_zero, List.set_cons_succ])
  | with_reducible refine r_sub ?_
  | with_reducible refine r_op ?_
  | with_reducible refine r_i0 ?_
  | (with_reducible refine' r_i ?k1 ?_; (case k1 => walk_at "cond"))
  | with_reducible refine r_cons ?_
  | with_reducible refine r_nil ?_
  | with_reducible refine r_cb ?_
  | with_reducible refine r_call ?_
  | with_reducible refine r_ifs ?_
  | with_reducible refine r_test ?_
  | with_reducible refine r_tB ?_
  | with_reducible refine r_bl ?_
  | with_reducible refine r_ret ?_
  | with_reducible refine r_drop ?_
  | with_reducible refine r_next ?_
  | (with_reducible refine' r_ixL ?k1 ?k2 ?_; (case k1 => walk_at "look"); (case k2 => walk_at "at"))
  | (with_reducible refine' r_setL ?k1 ?k2 ?_; (case k1 => walk_at "look"); (case k2 => walk_at "at"))
  | (with_reducible refine' r_tup (SqT.of ?k1) ?k2 ?_; (case k1 => walk_at "look"); (case k2 => rfl))
  | with_reducible refine r_gcons ?_
  | with_reducible refine r_gnil ?_
  | with_reducible refine r_aug rfl ?_
  | with_reducible refine r_augS ?_
  | with_reducible refine r_ipI ?_
  | with_reducible refine r_un ?_
  | with_reducible refine r_u ?_
  | with_reducible refine r_eq rfl ?_
  | with_reducible refine r_ne rfl ?_
  | with_reducible refine r_chain ?_
  | with_reducible refine iteF ?_
  | with_reducible refine r_not ?_
  | with_reducible refine r_and ?_
  | with_reducible refine r_or ?_
  | with_reducible refine r_andV ?_
  | with_reducible refine r_orV ?_
  | with_reducible refine r_notV ?_
  | with_reducible refine r_lst ?_
  | with_reducible refine r_bm ?_
  | with_reducible refine r_bm0 ?_
  | (with_reducible refine' And.intro (r_ty ?k1) ?_; (case k1 => walk_at "look"))
  | (with_reducible refine' r_append ?k1 ?k2 ?_; (case k1 => walk_at "look"); (case k2 => walk_at "sz"))
  | (with_reducible refine' r_lenK ?k1 ?_; (case k1 => walk_at "look"))
  | (with_reducible refine' r_listOf ?k1 ?_; (case k1 => walk_at "look"))
  | (with_reducible refine' r_sortedI ?k1 ?_; (case k1 => walk_at "look"))
  | (with_reducible refine' r_sum ?k1 ?_; (case k1 => walk_at "look"))
  | with_reducible refine r_int ?_
  | (with_reducible refine' r_draw (by assumption) ?k1 ?k2 ?_; (case k1 => omega); (case k2 => omega); intro R' n' o' h' h'')
  | with_reducible refine iteT ?_
  | with_reducible refine r_revL ?_
  | with_reducible refine r_lc ?_
  | with_reducible refine r_yes ?_
  | with_reducible refine r_sl ?_
  | with_reducible refine iteNTr ?_
  | with_reducible refine iteNFa ?_
  | with_reducible refine r_fld ?_
  | with_reducible refine r_sFld ?_
  | with_reducible refine r_meth ?_
  | with_reducible refine r_methT ?_
  | with_reducible refine r_prop ?_
  | with_reducible refine r_dget ?_
  | with_reducible refine r_dput ?_
  | with_reducible refine r_noPart ?_
  | with_reducible refine r_part ?_
  | with_reducible refine r_lc2 ?_
  | with_reducible refine r_callN ?_
  | with_reducible refine r_callD ?_
  | with_reducible refine r_tupE ?_
  | with_reducible refine r_rng2 ?_
  | with_reducible refine r_i1 ?_
  | (with_reducible refine' r_slL ?k1 ?_; (case k1 => walk_at "look"))
  | with_reducible refine r_for ?_
  | with_reducible refine r_iList ?_
  | with_reducible refine r_rng1 ?_
  | with_reducible refine r_enum ?_
  | (with_reducible show Ends.nx _ _ _; dsimp only)
  | (with_reducible show Ends.rt _ _ _; dsimp only)
  | (with_reducible show Ends.ct _ _ _; dsimp only)
  | (with_reducible show Ends.bk _ _ _; dsimp only))
local macro_rules | `(tactic| walk_at "go") => `(tactic| repeat (walk_at "st"))
local macro_rules | `(tactic| walk_at "begin") => `(tactic| dsimp only [cxOf, wipe, L2.start, List.map, List.length_cons, List.length_nil, Nat.reduceAdd, Nat.reduceSub, List.replicate, List.cons_append, List.nil_append])


section
variable {P : Program} {w : World} {K : PySem.W.Frag} {mg : Str → Option Value} {base : Heap} {C : Addr}
theorem ok_ndist {f fL fE : Addr} {fd fdL fdE : FuncData} (B : Blt mg) (Z : ZN K mg C) (ML : NMeth K C "__lt__" fL fdL ["self", "other"]) (GL : FnOk P w K mg base CX0 2 fL fdL ["self", "other"] (spNLt K C))
    (ME : NMeth K C "__eq__" fE fdE ["self", "other"]) (GE : FnOk P w K mg base CX0 2 fE fdE ["self", "other"] (spNEq K C)) (D : Dn K mg "distinct" s_distinct ["nests"] f fd) : FnOk P w K mg base CX0 5 f fd ["nests"] (spDist K C) := by
  refine D.F.ok sc_distinct (fun vs H Q E h => ?_) (fun cdv A outer s H vs Q E hr h => ?_)
  · obtain ⟨U, l, as, ns, rfl, _⟩ := h
    rfl
  · obtain ⟨U, l, as, ns, rfl, hU, hl, hN, h64, hdp, q⟩ := h
    obtain ⟨f, hf, rfl⟩ := hN.fn
    have hd1 : ∀ a ∈ as, Ak.dep (f a) ≤ 120 := fun a ha => hdp _ (List.mem_map.mpr ⟨a, ha, rfl⟩)
    refine ⟨_, (pss_cons (ps_set (i := 1) sc_distinct.nd rfl (.inl rfl) (pe_lst pa_nil))
      (pss_cons (ps_for PassesOwn.never rfl (pi_listK (K := K) rfl (pe_callB (call_sortedOwn (E := E) ML.s ML.fn GL hr ML.b) (by rfl) B.m_sorted (by decide +kernel) (pa_cons (pv 0) pa_nil))) (pg_name (i := 2) sc_distinct.nd rfl (.inl rfl)) (pss_one (ps_if (PW.pt (pw_or (pt_not (pt_truthK (K := K) rfl (pv 1) (by intro _; rfl))) (pw_or1 (pt_cmpR (op_neO (E := E) ME.s ME.fn Z.ne Z.c7 GE ME.b (hr.mono (by decide))) (pe_ix (ix_listK (K := K) rfl) (pv 1) (pe_un un_neg pe_int) (fun _ _ => rfl)) (pv 2) (nomark _))))) (pss_one (ps_expr (pe_bmK (K := K) rfl PySem.F.plainAttrs_list PySem.F.slot_list_append PySem.F.type_list_append mt_append (pv 1) (pa_cons (pv 2) pa_nil)))) pss_nil)))
      (pss_one (ps_ret (pv 1))))), ?_⟩
    walk_at "begin"
    walk_at "go"
    refine ⟨by walk_at "len", fun D0 nD => ?_⟩
    have hS0 := same_new (o := .lst []) nD
    have hD0 : upd H D0 (.lst []) D0 = some (.lst []) := upd_same
    generalize hH0 : upd H D0 (.lst []) = H0 at hS0 hD0 ⊢
    have hw : SrtO.Swo (fun x y => decide (f x < f y)) := ⟨fun x y h => by simp only [decide_eq_true_eq, decide_eq_false_iff_not] at h ⊢; omega, fun x y z h1 h2 => by simp only [decide_eq_false_iff_not] at h1 h2 ⊢; omega⟩
    walk_at "go"
    have hal : as.length ≤ 1000 := h64
    refine ⟨l, as, rfl, SqL.of (hS0 _ _ hl), fun x hx => ?_, _, hw, hal, fun x hx y hy H1 hS1 Q1 hq => ?_, fun ys H1 p hperm hsrt hS1 hp0 hp => ?_⟩
    · obtain ⟨dx, l', kt, as', e1, _⟩ := ((hf x hx).mono hS0).get
      exact ⟨_, _, e1⟩
    · exact ⟨U, x, y, f x, f y, rfl, (hf x hx).mono (hS0.trans hS1), (hf y hy).mono (hS0.trans hS1), .inl (hd1 x hx), hq _ (Same.refl _)⟩
    have hS : Same H H1 := hS0.trans hS1
    have hD1 := hS1 _ _ hD0
    have hpD : p ≠ D0 := fun z => by rw [z, hD0] at hp0; cases hp0
    have hup : ∀ o, Same H (upd H1 D0 o) := fun o => same_off nD hS
    have hmem : ∀ a, a ∈ ys ↔ a ∈ as := fun a => hperm.mem_iff
    clear hS1 hS0 hH0
    refine r_forL hp (fun i σ H' => ∃ (bs : List Addr) (x : Option V), σ = [some (.ref l), some (.ref D0), x] ∧ H' = upd H1 D0 (.lst (bs.map V.ref)) ∧ (∀ b ∈ bs, b ∈ as) ∧ bs.length ≤ i ∧
      (bs.map f).Pairwise (· < ·) ∧ ∀ j, j ∈ bs.map f ↔ j ∈ (ys.take i).map f) ?_ ?_ ?_ ?_
    · refine ⟨[], _, rfl, ?_, (fun b hb => nomatch hb), Nat.le_refl _, List.Pairwise.nil, fun j => by rw [List.take_zero]⟩
      funext b
      by_cases hb : b = D0
      · subst hb; rw [upd_same]; exact hD1
      · rw [upd_ne hb]
    · rintro i σ H' _ ⟨bs, x, rfl, rfl, _⟩
      rw [upd_ne hpD]; exact hp
    · rintro i x σ H' hx ⟨bs, x0, rfl, rfl, hbs, hbl, hasc, hall⟩
      rw [List.getElem?_map] at hx
      cases eb : ys[i]? with
      | none => rw [eb] at hx; cases hx
      | some b =>
      rw [eb] at hx
      cases hx
      have hb : b ∈ as := (hmem b).mp (List.mem_of_getElem? eb)
      have hle : ∀ j ∈ bs.map f, j ≤ f b := by
        intro j hj
        obtain ⟨c, hc, rfl⟩ := List.mem_map.mp ((hall j).mp hj)
        obtain ⟨k, hk⟩ := List.mem_iff_getElem?.mp hc
        rw [List.getElem?_take] at hk
        split at hk
        · rename_i hki
          have hi := (List.getElem?_eq_some_iff.mp eb).1
          have := List.pairwise_iff_getElem.mp hsrt k i (by omega) hi hki
          rw [List.getElem?_eq_some_iff] at hk eb
          obtain ⟨_, hk⟩ := hk
          obtain ⟨_, eb⟩ := eb
          rw [hk, eb, decide_eq_false_iff_not] at this
          omega
        · cases hk
      have hbi : bs.length ≤ 1000 := by
        have := (List.getElem?_eq_some_iff.mp eb).1
        have := hperm.length_eq
        omega
      have hHD : upd H1 D0 (.lst (bs.map V.ref)) D0 = some (.lst (bs.map V.ref)) := upd_same
      have hfb := (hf b hb).mono (hup (.lst (bs.map V.ref)))
      have put : ∀ (hlt : ∀ j ∈ bs.map f, j < f b), ∃ (bs' : List Addr) (x' : Option V), [some (V.ref l), some (.ref D0), some (.ref b)] = [some (.ref l), some (.ref D0), x'] ∧ upd (upd H1 D0 (.lst (bs.map V.ref))) D0 (.lst (bs.map V.ref ++ [V.ref b])) = upd H1 D0 (.lst (bs'.map V.ref)) ∧ (∀ b ∈ bs', b ∈ as) ∧ bs'.length ≤ i + 1 ∧
          (bs'.map f).Pairwise (· < ·) ∧ ∀ j, j ∈ bs'.map f ↔ j ∈ (ys.take (i + 1)).map f := fun hlt => by
        refine ⟨bs ++ [b], _, rfl, by rw [upd_upd, refs_push], fun c hc => ?_, by rw [List.length_append]; simpa using hbl, ?_, fun j => ?_⟩
        · rcases List.mem_append.mp hc with z | z
          · exact hbs c z
          · rw [List.mem_singleton.mp z]; exact hb
        · rw [List.map_append, List.pairwise_append]
          refine ⟨hasc, by simp, fun j hj k hk => ?_⟩
          simp at hk
          rw [hk]; exact hlt j hj
        · rw [List.take_add_one, eb, List.map_append, List.map_append, List.mem_append, List.mem_append, hall j]
          rfl
      dsimp only [List.set_cons_zero, List.set_cons_succ]
      walk_at "go"
      cases bs with
      | nil =>
        refine ⟨false, .inl ⟨_, SqL.of hHD, rfl⟩, ?_⟩
        walk_at "go"
        exact put (fun j hj => nomatch hj)
      | cons b0 r0 =>
        refine ⟨true, .inl ⟨_, SqL.of hHD, rfl⟩, ?_⟩
        obtain ⟨cs, c, hcs⟩ : ∃ cs c, b0 :: r0 = cs ++ [c] := ⟨_, _, (List.dropLast_concat_getLast (by simp)).symm⟩
        rw [hcs] at hHD put hall hasc hle hbs hbl hbi hfb ⊢
        have hc : c ∈ as := hbs c (by simp)
        have hfc := (hf c hc).mono (hup (.lst ((cs ++ [c]).map V.ref)))
        have hat : atI ((cs ++ [c]).map V.ref) (-1) = some (.ref c) := by
          rw [List.map_append]; exact last_at
        obtain ⟨dxc, lc, ktc, asc, g1, _⟩ := hfc.get
        obtain ⟨dxb, lb, ktb, asb, g2, _⟩ := hfb.get
        walk_at "go"
        refine ⟨c, _, _, .ref C, rfl, g1, Z.ty g2, ZN.nf K C, U, c, f c, .ref b, rfl, hfc, .inl ⟨b, f b, rfl, hfb, .inl (hd1 c hc), _, rfl, ?_⟩⟩
        rw [if_pos rfl]
        refine ⟨_, rfl, ?_⟩
        have hcle := hle (f c) (List.mem_map.mpr ⟨c, by simp, rfl⟩)
        by_cases hcb : f c = f b
        · rw [decide_eq_true hcb, if_neg (by decide)]
          walk_at "go"
          refine ⟨cs ++ [c], _, rfl, rfl, hbs, by omega, hasc, fun j => ?_⟩
          rw [List.take_add_one, eb, List.map_append (l₁ := ys.take i), List.mem_append, hall j]
          refine ⟨.inl, fun z => z.elim id fun z => ?_⟩
          simp at z
          rw [z, ← hcb]
          exact (hall (f c)).mp (List.mem_map.mpr ⟨c, by simp, rfl⟩)
        · rw [decide_eq_false hcb, if_pos (by decide)]
          walk_at "go"
          refine r_append hHD (small (by rw [List.length_map]; omega)) ?_
          walk_at "go"
          refine put fun j hj => ?_
          rw [List.map_append, List.mem_append] at hj
          rw [List.map_append, List.pairwise_append] at hasc
          rcases hj with hj | hj
          · have := hasc.2.2 j hj (f c) (by simp)
            omega
          · simp at hj
            rw [hj]; omega
    · rintro σ H' ⟨bs, x, rfl, rfl, hbs, hbl, hasc, hall⟩
      rw [List.length_map, List.take_length] at hall
      walk_at "go"
      refine q _ D0 bs (hup _) nD upd_same ?_
      have e : Ak.mem (Ak.num (as.map f)) = bs.map f := Ak.asc_eq (Ak.mem_asc _) hasc fun j => by
        rw [Ak.mem_num, hall j, List.mem_map, List.mem_map]
        constructor
        · rintro ⟨a, ha, rfl⟩; exact ⟨a, (hmem a).mpr ha, rfl⟩
        · rintro ⟨a, ha, rfl⟩; exact ⟨a, (hmem a).mp ha, rfl⟩
      rw [e]
      exact NL.map fun b hb => (hf b (hbs b hb)).mono (hup _)
end


section
variable {P : Program} {w : World} {K : PySem.W.Frag} {mg : Str → Option Value} {base : Heap} {C : Addr}
theorem ok_ninit {f fD : Addr} {fd fdD : FuncData} (B : Blt mg) (Z : ZN K mg C) (Ddistinct : Dn K mg "distinct" s_distinct ["nests"] fD fdD) (Gdistinct : FnOk P w K mg base CX0 5 fD fdD ["nests"] (spDist K C)) (F : Fun K "__init__" "Nest.__init__" s_Nest___init__ f fd) :
    FnOk P w K mg base CX0 6 f fd ["self", "members"] (spNInit K C) := by
  refine F.ok sc_Nest___init__ (fun vs H Q E h => ?_) (fun cdv A outer s H vs Q E hr h => ?_)
  · obtain ⟨U, a, dx, l, as, ns, rfl, _⟩ := h
    rfl
  · obtain ⟨U, a, dx, l, as, ns, rfl, hU, ha, hl, hN, h64, hdp, q⟩ := h
    refine ⟨_, (pss_cons (ps_fld (pv 0) (pe_call Gdistinct (hr.mono (by decide)) (by rfl) Ddistinct.g Ddistinct.F.kp Ddistinct.b .nil pass0 (pa_cons (pv 1) pa_nil)) rfl)
      (pss_cons (ps_fld (pv 0) (pe_callTy (call_tuple_ofK (K := K) rfl) (by rfl) B.m_tuple (by decide +kernel) (pa_cons (pe_lc (own := [("member", 2)]) rfl sc_Nest___init__.nd (pi_reversedK (K := K) rfl (by rfl) B.m_reversed (pa_cons (pe_fld (pv 0) rfl) pa_nil)) (blkOk_by (own := [("member", 2)]) (by kernel_rfl))
        (fun _ _ _ _ _ => (pg_name (i := 2) sc_Nest___init__.nd rfl (.inl rfl))) (fun _ _ _ _ _ => pts_nil)
        (fun _ _ _ _ _ => (pe_fldK (K := K) rfl (pv 2) rfl))) pa_nil)) rfl)
      (pss_cons (ps_fld (pv 0) (pe_callBK (cr_maxDf rfl hr.units) (by rfl) B.m_max (by decide +kernel) (pa_cons (pe_lc (own := [("member", 2)]) rfl sc_Nest___init__.nd (pi_listK (K := K) rfl (pe_fld (pv 0) rfl)) (blkOk_by (own := [("member", 2)]) (by kernel_rfl))
        (fun _ _ _ _ _ => (pg_name (i := 2) sc_Nest___init__.nd rfl (.inl rfl))) (fun _ _ _ _ _ => pts_nil)
        (fun _ _ _ _ _ => (pe_op op_add (pe_fldK (K := K) rfl (pv 2) rfl) pe_int))) pa_nil) (pk_cons pe_int pk_nil)) rfl)
      (pss_one (ps_fld (pv 0) (pe_op op_add pe_int (pe_callB (cr_sumK (K := K) rfl rfl) (by rfl) B.m_sum (by decide +kernel) (pa_cons (pe_lc (own := [("member", 2)]) rfl sc_Nest___init__.nd (pi_listK (K := K) rfl (pe_fld (pv 0) rfl)) (blkOk_by (own := [("member", 2)]) (by kernel_rfl))
        (fun _ _ _ _ _ => (pg_name (i := 2) sc_Nest___init__.nd rfl (.inl rfl))) (fun _ _ _ _ _ => pts_nil)
        (fun _ _ _ _ _ => (pe_fldK (K := K) rfl (pv 2) rfl))) pa_nil))) rfl))))), ?_⟩
    walk_at "begin"
    walk_at "go"
    refine ⟨U, l, as, ns, rfl, hU, hl, hN, h64, hdp, fun H1 p bs hS hp0 hp hB => ?_⟩
    have hUp := hU p hp0
    have hUf : ∀ c, H1 c = none → U c := fun c hc => hU c (hS.free hc)
    have ha1 := hS _ _ ha
    have hpa : p ≠ a := fun z => by rw [z, ha] at hp0; cases hp0
    have hK1 : Kp (· = a) H H1 := Kp.of hS
    have hbl : bs.length ≤ 1000 := by
      have h1 := hB.len
      have h2 : (Ak.mem (Ak.num ns)).length ≤ ns.length := Ak.len_num ns
      have h3 := hN.len
      have h4 : as.length ≤ 1000 := h64
      omega
    clear hN hdp hl hS hU
    generalize hm : Ak.num ns = n at hB hbl q ⊢
    obtain ⟨f, g, hfg, hmem⟩ := hB.fns
    have hlen := hB.len
    clear hB
    walk_at "go"
    refine r_sFldI ha1 Z.cl Z.nM (by decide) ?_
    have k1 : KU U H1 (upd H1 a (.ins C dx (putF "members" (.ref p) []))) := KU.ins ha1 (by decide)
    have hfg2 : ∀ b ∈ bs, NAt K C U (upd H1 a (.ins C dx (putF "members" (.ref p) []))) b (f b) ∧ (upd H1 a (.ins C dx (putF "members" (.ref p) []))) b = some (.ins C (g b).1 (nf (g b).2.1 (g b).2.2 (f b))) ∧ Dp K (upd H1 a (.ins C dx (putF "members" (.ref p) []))) (.ref (g b).2.2) (Ak.nkey (f b)) := fun b hb =>
      ⟨(hfg b hb).1.keep k1, k1 _ _ (hfg b hb).2.1 (fun _ z => nomatch z) (fun _ _ _ z => by cases z; rfl), dp_keep k1 _ _ (hfg b hb).2.2⟩
    have hp2 : (upd H1 a (.ins C dx (putF "members" (.ref p) []))) p = some (.lst (bs.map V.ref)) := by rw [upd_ne hpa]; exact hp
    have ha2 : (upd H1 a (.ins C dx (putF "members" (.ref p) []))) a = some (.ins C dx (putF "members" (.ref p) [])) := upd_same
    have hK2 : Kp (· = a) H (upd H1 a (.ins C dx (putF "members" (.ref p) []))) := hK1.trans (Kp.put rfl)
    generalize upd H1 a (.ins C dx (putF "members" (.ref p) [])) = H2 at k1 hfg2 hp2 ha2 hK2 ⊢
    clear hfg hp ha1 hK1
    walk_at "go"
    refine r_iRev ?_
    walk_at "go"
    refine r_fldI ha2 Z.cl Z.nM rfl ?_
    walk_at "go"
    refine lcF_rev hp2 (fun b => V.ref (g b).2.2) hbl ?_ ?_
    · intro b C' N M hb hS' hq
      walk_at "begin"
      walk_at "go"
      refine ⟨rfl, ?_⟩
      walk_at "go"
      refine r_fldI (hS' _ _ (hfg2 b hb).2.1) Z.cl Z.nK nf_k ?_
      exact hq
    intro D1 nD1
    walk_at "go"
    refine r_tupleOf upd_same ?_
    intro tp np
    have hS3 := (same_new (o := .lst (bs.reverse.map fun b => V.ref (g b).2.2)) nD1).trans (same_new (o := .tup (bs.reverse.map fun b => V.ref (g b).2.2)) np)
    have htp : (upd (upd H2 D1 (.lst (bs.reverse.map fun b => V.ref (g b).2.2))) tp (.tup (bs.reverse.map fun b => V.ref (g b).2.2))) tp = some (.tup (bs.reverse.map fun b => V.ref (g b).2.2)) := upd_same
    generalize upd (upd H2 D1 (.lst (bs.reverse.map fun b => V.ref (g b).2.2))) tp (.tup (bs.reverse.map fun b => V.ref (g b).2.2)) = H3 at hS3 htp ⊢
    clear np
    have ha3 := hS3 _ _ ha2
    have hkey : Dp K H3 (.ref tp) (Ak.nkey n) := by
      rw [Ak.nkey_eq, hmem, ← List.map_reverse]
      exact .tup (SqT.of htp) (dpAll_map fun b hb => dp_mono hS3 (hfg2 b (List.mem_reverse.mp hb)).2.2)
    walk_at "go"
    refine r_sFldI ha3 Z.cl Z.nK (by show (1 : Nat) < 1000; decide) ?_
    have k4 : KU U H3 (upd H3 a (.ins C dx (putF "key" (.ref tp) (putF "members" (.ref p) [])))) := KU.ins ha3 (by show (1 : Nat) ≠ 4; decide)
    have ha4 : (upd H3 a (.ins C dx (putF "key" (.ref tp) (putF "members" (.ref p) [])))) a = some (.ins C dx (putF "key" (.ref tp) (putF "members" (.ref p) []))) := upd_same
    have hK4 : Kp (· = a) H (upd H3 a (.ins C dx (putF "key" (.ref tp) (putF "members" (.ref p) [])))) := (hK2.trans (Kp.of hS3)).trans (Kp.put rfl)
    have hp4 : (upd H3 a (.ins C dx (putF "key" (.ref tp) (putF "members" (.ref p) [])))) p = some (.lst (bs.map V.ref)) := by rw [upd_ne hpa]; exact hS3 _ _ hp2
    have hkey4 := dp_keep k4 _ _ hkey
    have hfg4 : ∀ b ∈ bs, NAt K C U (upd H3 a (.ins C dx (putF "key" (.ref tp) (putF "members" (.ref p) [])))) b (f b) ∧ (upd H3 a (.ins C dx (putF "key" (.ref tp) (putF "members" (.ref p) [])))) b = some (.ins C (g b).1 (nf (g b).2.1 (g b).2.2 (f b))) := fun b hb =>
      ⟨((hfg2 b hb).1.mono hS3).keep k4, k4 _ _ (hS3 _ _ (hfg2 b hb).2.1) (fun _ z => nomatch z) (fun _ _ _ z => by cases z; rfl)⟩
    generalize upd H3 a (.ins C dx (putF "key" (.ref tp) (putF "members" (.ref p) []))) = H4 at k4 ha4 hK4 hp4 hkey4 hfg4 ⊢
    clear hkey ha3 htp hS3 hfg2 hp2 ha2 hK2 nD1 k4 k1
    walk_at "go"
    refine r_ckw ?_
    walk_at "go"
    refine r_fldI ha4 Z.cl Z.nM rfl ?_
    walk_at "go"
    refine lcF_list hp4 (fun b => V.int (((Ak.dep (f b) + 1 : Nat)) : Int)) hbl ?_ ?_
    · intro b C' N M hb hS' hq
      walk_at "begin"
      walk_at "go"
      refine ⟨rfl, ?_⟩
      walk_at "go"
      refine r_fldI (hS' _ _ (hfg4 b hb).2) Z.cl Z.nD nf_d ?_
      walk_at "go"
      exact hq
    intro D2 nD2
    walk_at "go"
    have hd0 : (bs.map fun b => ((Ak.dep (f b) + 1 : Nat) : Int)) = [] → (0 : Int) = ((Ak.dep n : Nat) : Int) := by
      intro e
      rw [Ak.dep_eq, hmem]
      cases bs with
      | nil => rfl
      | cons _ _ => cases e
    have hd1 : ∀ m r, (bs.map fun b => ((Ak.dep (f b) + 1 : Nat) : Int)) = m :: r → r.foldl max m = ((Ak.dep n : Nat) : Int) := by
      intro m r e
      rw [Ak.dep_eq, hmem]
      cases bs with
      | nil => cases e
      | cons b r' =>
        cases e
        rw [foldmax_int (f := fun b => Ak.dep (f b) + 1)]
        have : max 0 (Ak.dep (f b) + 1) = Ak.dep (f b) + 1 := by omega
        rw [List.map_map, List.map_cons, List.foldl_cons, Function.comp_apply, this]
        rfl
    refine r_maxDf (ns := bs.map fun b => ((Ak.dep (f b) + 1 : Nat) : Int)) (by rw [List.map_map]; exact upd_same) hd0 hd1 ?_
    walk_at "go"
    have hS5 := same_new (o := .lst (bs.map fun b => V.int (((Ak.dep (f b) + 1 : Nat)) : Int))) nD2
    generalize upd H4 D2 (.lst (bs.map fun b => V.int (((Ak.dep (f b) + 1 : Nat)) : Int))) = H5 at hS5 ⊢
    have ha5 := hS5 _ _ ha4
    refine r_sFldI ha5 Z.cl Z.nD (by show (2 : Nat) < 1000; decide) ?_
    generalize hfs : putF "depth" (.int ((Ak.dep n : Nat) : Int)) (putF "key" (.ref tp) (putF "members" (.ref p) [])) = fs
    have hfm : fs.lookup ("members" : Str) = some (.ref p) := by rw [← hfs]; rfl
    have hfl : fs.length = 3 := by rw [← hfs]; rfl
    have k6 : KU U H5 (upd H5 a (.ins C dx fs)) := KU.ins ha5 (by show (2 : Nat) ≠ 4; decide)
    have ha6 : (upd H5 a (.ins C dx fs)) a = some (.ins C dx fs) := upd_same
    have hK6 : Kp (· = a) H (upd H5 a (.ins C dx fs)) := (hK4.trans (Kp.of hS5)).trans (Kp.put rfl)
    have hp6 : (upd H5 a (.ins C dx fs)) p = some (.lst (bs.map V.ref)) := by rw [upd_ne hpa]; exact hS5 _ _ hp4
    have hkey6 := dp_keep k6 _ _ (dp_mono hS5 hkey4)
    have hfg6 : ∀ b ∈ bs, NAt K C U (upd H5 a (.ins C dx fs)) b (f b) ∧ (upd H5 a (.ins C dx fs)) b = some (.ins C (g b).1 (nf (g b).2.1 (g b).2.2 (f b))) := fun b hb =>
      ⟨((hfg4 b hb).1.mono hS5).keep k6, k6 _ _ (hS5 _ _ (hfg4 b hb).2) (fun _ z => nomatch z) (fun _ _ _ z => by cases z; rfl)⟩
    generalize upd H5 a (.ins C dx fs) = H6 at k6 ha6 hK6 hp6 hkey6 hfg6 ⊢
    clear k6 ha5 hS5 hfg4 hp4 hkey4 hK4 ha4 nD2
    walk_at "go"
    refine r_fldI ha6 Z.cl Z.nM hfm ?_
    walk_at "go"
    refine lcF_list hp6 (fun b => V.int ((Ak.br (f b) : Nat) : Int)) hbl ?_ ?_
    · intro b C' N M hb hS' hq
      walk_at "begin"
      walk_at "go"
      refine ⟨rfl, ?_⟩
      walk_at "go"
      refine r_fldI (hS' _ _ (hfg6 b hb).2) Z.cl Z.nB nf_b ?_
      exact hq
    intro D3 nD3
    walk_at "go"
    refine r_sum (ns := bs.map fun b => ((Ak.br (f b) : Nat) : Int)) (by rw [List.map_map]; exact upd_same) ?_
    rw [sum_int (f := fun b => Ak.br (f b))]
    have hbr : (1 : Int) + (((bs.map fun b => Ak.br (f b)).sum : Nat) : Int) = ((Ak.br n : Nat) : Int) := by
      rw [Ak.br_eq n, hmem, List.map_map]
      have : (bs.map (Ak.br ∘ f)) = bs.map fun b => Ak.br (f b) := rfl
      rw [this]; omega
    walk_at "go"
    try dsimp only
    rw [hbr]
    have hS7 := same_new (o := .lst (bs.map fun b => V.int ((Ak.br (f b) : Nat) : Int))) nD3
    generalize upd H6 D3 (.lst (bs.map fun b => V.int ((Ak.br (f b) : Nat) : Int))) = H7 at hS7 ⊢
    have ha7 := hS7 _ _ ha6
    refine r_sFldI ha7 Z.cl Z.nB (by rw [hfl]; decide) ?_
    have k8 : KU U H7 (upd H7 a (.ins C dx (putF "braces" (.int ((Ak.br n : Nat) : Int)) fs))) := KU.ins ha7 (by rw [hfl]; decide)
    refine q _ (NAt.of (l := p) (kt := tp) (as := bs) (dx := dx) hUp ?_ ?_ ?_ (dp_keep k8 _ _ (dp_mono hS7 hkey6))) ((hK6.trans (Kp.of hS7)).trans (Kp.put rfl))
    · rw [← hfs]; exact upd_same
    · rw [upd_ne hpa]; exact hS7 _ _ hp6
    · rw [hmem]
      exact NL.map fun b hb => ((hfg6 b hb).1.mono hS7).keep k8
end

end K06
/-! the text of a nest tells the nest; the count of a sign -/
namespace Ak
open PySem PySem.Spec PyProof.Rows PySem.StrLaws PySem.Builtin PySem.Builtin.Str
theorem occ_count (x : Str) (c limit : Nat) : ∀ (n i : Nat) (st : Array Nat × Nat), i + n = x.length + 1 → st.fst.size + n ≤ limit → st.snd ≤ i →
    (forIn (List.range' i n) st (occBody x ⟨#[c]⟩ x.length limit)).run.fst.size = st.fst.size + (x.cps.toList.drop i).count c
  | 0, i, st, h, _, _ => by
    have : x.cps.toList.drop i = [] := List.drop_eq_nil_of_le (by show x.cps.toList.length ≤ i; have : x.cps.toList.length = x.length := Array.length_toList; omega)
    rw [this]; rfl
  | n + 1, i, st, h, hl, hf => by
    rw [List.range'_succ, List.forIn_cons]
    have hx : x.cps.toList.length = x.length := Array.length_toList
    unfold occBody
    by_cases hc : x.cps.toList[i]? = some c
    · have h1 := (subAt_one x c i).mpr hc
      rw [if_pos ⟨⟨⟨by omega, hf⟩, h1.1⟩, h1.2⟩]
      refine (occ_count x c limit n (i + 1) (st.fst.push i, i + 1) (by omega) (by simp only [Array.size_push]; omega) (Nat.le_refl _)).trans ?_
      have hd : x.cps.toList.drop i = c :: x.cps.toList.drop (i + 1) := by
        obtain ⟨hi, e⟩ := List.getElem?_eq_some_iff.mp hc
        rw [List.drop_eq_getElem_cons hi, e]
      rw [hd, List.count_cons_self, Array.size_push]
      omega
    · have h1 : ¬ (((st.fst.size < limit ∧ st.snd ≤ i) ∧ i + (⟨#[c]⟩ : Str).length ≤ x.length) ∧ subAt x ⟨#[c]⟩ i = true) := fun z => hc ((subAt_one x c i).mp ⟨z.1.2, z.2⟩)
      rw [if_neg h1]
      refine (occ_count x c limit n (i + 1) (st.fst, st.snd) (by omega) (by show st.fst.size + n ≤ limit; omega) (by show st.snd ≤ i + 1; omega)).trans ?_
      rcases Nat.lt_or_ge i x.cps.toList.length with hi | hi
      · have hd : x.cps.toList.drop i = x.cps.toList[i] :: x.cps.toList.drop (i + 1) := List.drop_eq_getElem_cons hi
        have hne : x.cps.toList[i] ≠ c := fun z => hc (by rw [List.getElem?_eq_getElem hi, z])
        rw [hd, List.count_cons_of_ne hne]
      · rw [List.drop_eq_nil_of_le hi, List.drop_eq_nil_of_le (Nat.le_succ_of_le hi)]
theorem count_one (x : Str) (c : Nat) : Txt.count x ⟨#[c]⟩ = ((x.cps.toList.count c : Nat) : Int) := by
  unfold Txt.count
  rw [occ_eq]
  have h := occ_count x c (x.length + 1) (x.length + 1) 0 (#[], 0) (by omega) (by show 0 + (x.length + 1) ≤ _; omega) (Nat.le_refl _)
  rw [Nat.sub_zero, Array.length_toList, h]
  simp
/-- the signs of a text -/
def L (x : Str) : List Nat := x.cps.toList
theorem L_inj {x y : Str} (h : L x = L y) : x = y := by
  cases x; cases y
  simp only [Str.mk.injEq]
  exact Array.toList_inj.mp h
theorem L_app (x y : Str) : L (x ++ y) = L x ++ L y := Array.toList_append
/-- the signs of texts with commas -/
def J : List Str → List Nat
  | [] => []
  | [x] => L x
  | x :: y :: r => L x ++ 44 :: J (y :: r)
theorem L_join : ∀ l : List Str, L (Str.join "," l) = J l
  | [] => rfl
  | [x] => rfl
  | x :: y :: r => by
    show L (x ++ "," ++ Str.join "," (y :: r)) = _
    rw [L_app, L_app, L_join (y :: r), List.append_assoc]; rfl
theorem L_brace (l : List Str) : L (brace l) = 123 :: (J (sortT l) ++ [125]) := by
  unfold brace
  rw [L_app, L_app, show Txt.join "," (sortT l) = Str.join "," (sortT l) from StrLaws.glued_eq_join _ _, L_join]
  show [123] ++ J (sortT l) ++ [125] = _
  simp
theorem J_tail (x : Str) (r : List Str) : J (x :: r) = L x ++ (if r = [] then [] else 44 :: J r) := by
  cases r with
  | nil => rw [if_pos rfl, List.append_nil]; rfl
  | cons y r => rw [if_neg (by simp)]; rfl
theorem txt_read (n : Nat) : ∀ (m : Nat) (r r' : List Nat), L (txt n) ++ r = L (txt m) ++ r' → n = m ∧ r = r' := by
  induction n using Nat.strongRecOn with
  | _ n ih =>
    intro m r r' h
    rw [txt_eq n, txt_eq m, L_brace, L_brace, List.cons_append, List.cons_append, List.append_assoc, List.append_assoc] at h
    have h := (List.cons.inj h).2
    have key : ∀ (l l' : List Str), (∀ x ∈ l, ∃ k ∈ mem n, x = txt k) → (∀ x ∈ l', ∃ k, x = txt k) → J l ++ ([125] ++ r) = J l' ++ ([125] ++ r') → l = l' ∧ r = r' := by
      intro l
      induction l with
      | nil =>
        intro l' _ h2 e
        cases l' with
        | nil => exact ⟨rfl, (List.cons.inj e).2⟩
        | cons y s =>
          obtain ⟨k, hk⟩ := h2 y List.mem_cons_self
          rw [J_tail, hk, txt_eq k, L_brace] at e
          exact absurd (List.cons.inj e).1 (by decide)
      | cons x l ihl =>
        intro l' h1 h2 e
        obtain ⟨k, hk, hx⟩ := h1 x List.mem_cons_self
        cases l' with
        | nil =>
          rw [J_tail, hx, txt_eq k, L_brace] at e
          exact absurd (List.cons.inj e).1 (by decide)
        | cons y s =>
          obtain ⟨k', hy⟩ := h2 y List.mem_cons_self
          rw [J_tail, J_tail, List.append_assoc, List.append_assoc, hx, hy] at e
          obtain ⟨ek, e2⟩ := ih k (mem_lt hk) k' _ _ e
          have exy : x = y := by rw [hx, hy, ek]
          by_cases hl : l = []
          · by_cases hs : s = []
            · rw [if_pos hl, if_pos hs] at e2
              exact ⟨by rw [exy, hl, hs], (List.cons.inj e2).2⟩
            · rw [if_pos hl, if_neg hs] at e2
              exact absurd (List.cons.inj e2).1 (by decide)
          · by_cases hs : s = []
            · rw [if_neg hl, if_pos hs] at e2
              exact absurd (List.cons.inj e2).1 (by decide)
            · rw [if_neg hl, if_neg hs] at e2
              obtain ⟨a, b⟩ := ihl s (fun z hz => h1 z (List.mem_cons_of_mem _ hz)) (fun z hz => h2 z (List.mem_cons_of_mem _ hz)) (List.cons.inj e2).2
              exact ⟨by rw [exy, a], b⟩
    have mm : ∀ (j : Nat) (x : Str), x ∈ sortT ((mem j).map txt) ↔ ∃ k ∈ mem j, x = txt k := fun j x => by
      rw [(sortT_perm _).mem_iff, List.mem_map]
      exact ⟨fun ⟨k, a, b⟩ => ⟨k, a, b.symm⟩, fun ⟨k, a, b⟩ => ⟨k, a, b.symm⟩⟩
    obtain ⟨el, er⟩ := key _ _ (fun x hx => (mm n x).mp hx) (fun x hx => let ⟨k, _, e⟩ := (mm m x).mp hx; ⟨k, e⟩) h
    refine ⟨?_, er⟩
    rw [← num_mem n, ← num_mem m]
    refine num_eq.mpr fun i => ⟨fun hi => ?_, fun hi => ?_⟩
    · obtain ⟨k, hk, e⟩ := (mm m (txt i)).mp (by rw [← el]; exact (mm n _).mpr ⟨i, hi, rfl⟩)
      have := (ih i (mem_lt hi) k [] [] (by rw [e])).1
      rw [this]; exact hk
    · obtain ⟨k, hk, e⟩ := (mm n (txt i)).mp (by rw [el]; exact (mm m _).mpr ⟨i, hi, rfl⟩)
      have := (ih k (mem_lt hk) i [] [] (by rw [e])).1
      rw [← this]; exact hk
theorem txt_inj {n m : Nat} (h : txt n = txt m) : n = m := (txt_read n m [] [] (by rw [h])).1
theorem J_count (c : Nat) (hc : c ≠ 44) : ∀ l : List Str, (J l).count c = (l.map fun x => (L x).count c).sum
  | [] => rfl
  | [x] => by
    show (L x).count c = _
    simp
  | x :: y :: r => by
    show (L x ++ 44 :: J (y :: r)).count c = _
    rw [List.count_append, List.count_cons_of_ne (Ne.symm hc), J_count c hc (y :: r)]
    simp
theorem txt_count (n : Nat) : (L (txt n)).count 123 = br n := by
  induction n using Nat.strongRecOn with
  | _ n ih =>
    rw [txt_eq n, L_brace, List.count_cons_self, List.count_append, J_count 123 (by decide), br_eq n]
    have e1 : ((sortT ((mem n).map txt)).map fun x => (L x).count 123).sum = (((mem n).map txt).map fun x => (L x).count 123).sum := sum_perm ((sortT_perm _).map _)
    have e2 : ((mem n).map txt).map (fun x => (L x).count 123) = (mem n).map br := by
      rw [List.map_map]
      exact List.map_congr_left fun m hm => ih m (mem_lt hm)
    rw [e1, e2]
    show _ + 0 + 1 = _
    omega
theorem count_txt (n : Nat) : Txt.count (txt n) "{" = ((br n : Nat) : Int) := by
  have e : ("{" : Str) = ⟨#[123]⟩ := by decide +kernel
  rw [e, count_one]
  exact congrArg _ (txt_count n)
/-- a row of numbers' texts, sorted, each once -/
theorem brace_num {l : List Str} {ns : List Nat} (h : ∀ x, x ∈ l ↔ x ∈ ns.map txt) (nd : l.Nodup) : brace l = txt (num ns) := by
  rw [txt_eq]
  refine brace_of ?_
  refine (List.perm_ext_iff_of_nodup nd ?_).mpr fun x => ?_
  · exact List.pairwise_map.mpr ((mem_asc (num ns)).imp fun {a b} hab e => by have := txt_inj e; omega)
  · rw [h x, List.mem_map, List.mem_map]
    exact ⟨fun ⟨k, a, b⟩ => ⟨k, mem_num.mpr a, b⟩, fun ⟨k, a, b⟩ => ⟨k, mem_num.mp a, b⟩⟩
end Ak
/-! plain law: a world of different nests, each told by a row of earlier ones, and their order -/
namespace Wd
open PySem
def val (vs : List Nat) (k : Nat) : Nat := vs.getD k 0
theorem val_at {vs : List Nat} {k v : Nat} (h : vs[k]? = some v) : val vs k = v := by unfold val; rw [List.getD_eq_getElem?_getD, h]; rfl
theorem val_push {vs : List Nat} {x k : Nat} (h : k < vs.length) : val (vs ++ [x]) k = val vs k := by
  unfold val; rw [List.getD_eq_getElem?_getD, List.getD_eq_getElem?_getD, List.getElem?_append_left h]
theorem val_new {vs : List Nat} {x : Nat} : val (vs ++ [x]) vs.length = x := by unfold val; simp
theorem val_get {vs : List Nat} {k : Nat} (h : k < vs.length) : vs[k]? = some (val vs k) := by
  unfold val; rw [List.getD_eq_getElem?_getD, List.getElem?_eq_getElem h]; rfl
structure Ok (rows : List (List Nat)) (ord vs : List Nat) : Prop where
  len : rows.length = vs.length
  perm : ord.Perm (List.range vs.length)
  asc : (ord.map (val vs)).Pairwise (· < ·)
  row : ∀ (i : Nat) (r : List Nat), rows[i]? = some r → (∀ k ∈ r, k < i) ∧ vs[i]? = some (Ak.num (r.map (val vs))) ∧ r.length ≤ 6 ∧ r.Pairwise (· < ·)
  lim : ∀ v ∈ vs, Ak.br v ≤ 150 ∧ Ak.dep v ≤ 90
theorem Ok.nil : Ok [] [] [] := ⟨rfl, List.Perm.refl _, List.Pairwise.nil, fun i r h => by simp at h, fun v h => nomatch h⟩
section
variable {rows : List (List Nat)} {ord vs : List Nat}
theorem Ok.lt (h : Ok rows ord vs) {k : Nat} (hk : k ∈ ord) : k < vs.length := List.mem_range.mp (h.perm.mem_iff.mp hk)
theorem Ok.mem (h : Ok rows ord vs) {k : Nat} (hk : k < vs.length) : k ∈ ord := h.perm.mem_iff.mpr (List.mem_range.mpr hk)
theorem Ok.olen (h : Ok rows ord vs) : ord.length = vs.length := by rw [h.perm.length_eq, List.length_range]
theorem Ok.inj (h : Ok rows ord vs) {j k : Nat} (hj : j < vs.length) (hk : k < vs.length) (e : val vs j = val vs k) : j = k := by
  obtain ⟨a, ha, rfl⟩ := List.mem_iff_getElem.mp (h.mem hj)
  obtain ⟨b, hb, rfl⟩ := List.mem_iff_getElem.mp (h.mem hk)
  have hp := List.pairwise_iff_getElem.mp h.asc
  rcases Nat.lt_trichotomy a b with z | z | z
  · have := hp a b (by simpa using ha) (by simpa using hb) z
    simp only [List.getElem_map] at this; omega
  · subst z; rfl
  · have := hp b a (by simpa using hb) (by simpa using ha) z
    simp only [List.getElem_map] at this; omega
theorem Ok.vmem (h : Ok rows ord vs) {k : Nat} (hk : k < vs.length) : val vs k ∈ vs := List.mem_of_getElem? (val_get hk)
theorem Ok.rowAt (h : Ok rows ord vs) {k : Nat} (hk : k < vs.length) : ∃ r, rows[k]? = some r ∧ (∀ j ∈ r, j < k) ∧ val vs k = Ak.num (r.map (val vs)) ∧ r.length ≤ 6 ∧ r.Pairwise (· < ·) := by
  have hk2 : k < rows.length := by rw [h.len]; exact hk
  obtain ⟨h1, h2, h3⟩ := h.row k rows[k] (List.getElem?_eq_getElem hk2)
  exact ⟨_, List.getElem?_eq_getElem hk2, h1, val_at h2, h3⟩
/-- a row of different places has different numbers -/
theorem Ok.nodup (h : Ok rows ord vs) : ∀ {r : List Nat}, (∀ k ∈ r, k < vs.length) → r.Pairwise (· < ·) → (r.map (val vs)).Nodup
  | [], _, _ => List.nodup_nil
  | x :: r, hr, hp => by
    rw [List.pairwise_cons] at hp
    rw [List.map_cons, List.nodup_cons]
    refine ⟨fun z => ?_, h.nodup (fun k hk => hr k (List.mem_cons_of_mem _ hk)) hp.2⟩
    obtain ⟨y, hy, e⟩ := List.mem_map.mp z
    have := h.inj (hr y (List.mem_cons_of_mem _ hy)) (hr x List.mem_cons_self) e
    have := hp.1 y hy
    omega
theorem Ok.memP (h : Ok rows ord vs) {r : List Nat} (hr : ∀ k ∈ r, k < vs.length) (hp : r.Pairwise (· < ·)) : (r.map (val vs)).Perm (Ak.mem (Ak.num (r.map (val vs)))) :=
  (List.perm_ext_iff_of_nodup (h.nodup hr hp) (List.Pairwise.imp (fun h => Nat.ne_of_lt h) (Ak.mem_asc _))).mpr fun a => Ak.mem_num.symm
theorem Ok.add (h : Ok rows ord vs) {own : List Nat} {p x : Nat} (hx : x = Ak.num (own.map (val vs))) (ho : ∀ k ∈ own, k < vs.length) (hl : own.length ≤ 6) (ha : own.Pairwise (· < ·))
    (h1 : ∀ j k, ord[j]? = some k → j < p → val vs k < x) (h2 : ∀ j k, ord[j]? = some k → p ≤ j → x < val vs k) (hb : Ak.br x ≤ 150) (hd : Ak.dep x ≤ 90) :
    Ok (rows ++ [own]) (ord.take p ++ [vs.length] ++ ord.drop p) (vs ++ [x]) := by
  have cong : ∀ {r : List Nat}, (∀ k ∈ r, k < vs.length) → r.map (val (vs ++ [x])) = r.map (val vs) := fun hr => List.map_congr_left fun k hk => val_push (hr k hk)
  have hord : ∀ k ∈ ord, k < vs.length := fun k hk => h.lt hk
  refine ⟨by rw [List.length_append, List.length_append, h.len]; rfl, ?_, ?_, fun i r hr => ?_, fun v hv => ?_⟩
  · rw [List.length_append, List.length_singleton, List.range_succ]
    have e1 : (ord.take p ++ [vs.length] ++ ord.drop p).Perm (ord ++ [vs.length]) := by
      rw [List.append_assoc]
      have : (ord.take p ++ ([vs.length] ++ ord.drop p)).Perm (ord.take p ++ (ord.drop p ++ [vs.length])) := List.Perm.append_left _ List.perm_append_comm
      rw [← List.append_assoc (ord.take p) (ord.drop p), List.take_append_drop] at this
      exact this
    exact e1.trans (h.perm.append_right _)
  · have ht : ∀ k ∈ ord.take p, k < vs.length := fun k hk => hord k (List.mem_of_mem_take hk)
    have hdr : ∀ k ∈ ord.drop p, k < vs.length := fun k hk => hord k (List.mem_of_mem_drop hk)
    rw [List.map_append, List.map_append, cong ht, cong hdr, List.map_singleton, val_new]
    have ha := h.asc
    rw [← List.take_append_drop p ord, List.map_append, List.pairwise_append] at ha
    have hlo : ∀ v ∈ (ord.take p).map (val vs), v < x := by
      intro v hv
      obtain ⟨k, hk, rfl⟩ := List.mem_map.mp hv
      obtain ⟨j, hj⟩ := List.mem_iff_getElem?.mp hk
      rw [List.getElem?_take] at hj
      split at hj
      · exact h1 j k hj (by assumption)
      · cases hj
    have hhi : ∀ v ∈ (ord.drop p).map (val vs), x < v := by
      intro v hv
      obtain ⟨k, hk, rfl⟩ := List.mem_map.mp hv
      obtain ⟨j, hj⟩ := List.mem_iff_getElem?.mp hk
      rw [List.getElem?_drop] at hj
      exact h2 (p + j) k hj (by omega)
    rw [List.pairwise_append, List.pairwise_append]
    refine ⟨⟨ha.1, by simp, fun a hA b hB => ?_⟩, ha.2.1, fun a hA b hB => ?_⟩
    · rw [List.mem_singleton.mp hB]; exact hlo a hA
    · rcases List.mem_append.mp hA with z | z
      · exact ha.2.2 a z b hB
      · rw [List.mem_singleton.mp z]; exact hhi b hB
  · by_cases hi : i < rows.length
    · rw [List.getElem?_append_left hi] at hr
      obtain ⟨g1, g2, g3⟩ := h.row i r hr
      rw [h.len] at hi
      refine ⟨g1, ?_, g3⟩
      rw [cong fun k hk => by have := g1 k hk; omega, List.getElem?_append_left hi]
      exact g2
    · have hi2 := (List.getElem?_eq_some_iff.mp hr).1
      rw [List.length_append, List.length_singleton] at hi2
      have e : i = rows.length := by omega
      rw [e, List.getElem?_append_right (Nat.le_refl _), Nat.sub_self] at hr
      have hr : own = r := Option.some.inj hr
      subst hr
      rw [e, h.len]
      refine ⟨ho, ?_, hl, ha⟩
      rw [cong ho, ← hx, List.getElem?_append_right (Nat.le_refl _), Nat.sub_self]; rfl
  · rcases List.mem_append.mp hv with z | z
    · exact h.lim v z
    · rw [List.mem_singleton.mp z]; exact ⟨hb, hd⟩
end
theorem lt_bits {a b i : Nat} (ha : a.testBit i = false) (hb : b.testBit i = true) (h : ∀ j, i < j → a.testBit j = b.testBit j) : a < b := by
  have e : a / 2 ^ (i + 1) = b / 2 ^ (i + 1) := Nat.eq_of_testBit_eq fun k => by
    rw [Nat.testBit_div_two_pow, Nat.testBit_div_two_pow]; exact h _ (by omega)
  rw [Nat.testBit_eq_decide_div_mod_eq] at ha hb
  have ha := of_decide_eq_false ha
  have hb := of_decide_eq_true hb
  have ha : a / 2 ^ i % 2 = 0 := by omega
  have ma : a % 2 ^ (i + 1) = a % 2 ^ i + 2 ^ i * (a / 2 ^ i % 2) := Nat.mod_pow_succ
  have mb : b % 2 ^ (i + 1) = b % 2 ^ i + 2 ^ i * (b / 2 ^ i % 2) := Nat.mod_pow_succ
  rw [ha, Nat.mul_zero] at ma
  rw [hb, Nat.mul_one] at mb
  have l := Nat.mod_lt a (Nat.two_pow_pos i)
  have da := Nat.div_add_mod a (2 ^ (i + 1))
  have db := Nat.div_add_mod b (2 ^ (i + 1))
  rw [e] at da
  omega
/-- which of two rows is the greater nest -/
def way (ord xs ys : List Nat) : Int := match ord.reverse.find? (fun k => decide (k ∈ xs) != decide (k ∈ ys)) with
  | none => 0
  | some k => if k ∈ ys then -1 else 1
theorem way_cmp {v : Nat → Nat} {ord xs ys : List Nat} (asc : (ord.map v).Pairwise (· < ·)) (hx : ∀ k ∈ xs, k ∈ ord) (hy : ∀ k ∈ ys, k ∈ ord) :
    (way ord xs ys = 0 ∧ Ak.num (xs.map v) = Ak.num (ys.map v)) ∨ (way ord xs ys = 1 ∧ Ak.num (ys.map v) < Ak.num (xs.map v)) ∨ (way ord xs ys = -1 ∧ Ak.num (xs.map v) < Ak.num (ys.map v)) := by
  unfold way
  cases e : ord.reverse.find? (fun k => decide (k ∈ xs) != decide (k ∈ ys)) with
  | none =>
    refine .inl ⟨rfl, ?_⟩
    have h : ∀ k ∈ ord, (k ∈ xs ↔ k ∈ ys) := fun k hk => by
      have := List.find?_eq_none.mp e k (List.mem_reverse.mpr hk)
      by_cases h1 : k ∈ xs <;> by_cases h2 : k ∈ ys <;> simp [h1, h2] at this ⊢
    refine Ak.num_eq.mpr fun i => ?_
    rw [List.mem_map, List.mem_map]
    constructor
    · rintro ⟨k, hk, rfl⟩; exact ⟨k, (h k (hx k hk)).mp hk, rfl⟩
    · rintro ⟨k, hk, rfl⟩; exact ⟨k, (h k (hy k hk)).mpr hk, rfl⟩
  | some k =>
    obtain ⟨hp, as, bs, hab, has⟩ := List.find?_eq_some_iff_append.mp e
    have ho : ord = bs.reverse ++ (k :: as.reverse) := by
      have := congrArg List.reverse hab
      rw [List.reverse_reverse, List.reverse_append, List.reverse_cons, List.append_assoc] at this
      simpa using this
    have asc2 := asc
    rw [ho, List.map_append, List.pairwise_append, List.map_cons, List.pairwise_cons] at asc2
    obtain ⟨_, ⟨hk1, _⟩, hk2⟩ := asc2
    have low : ∀ j ∈ bs.reverse, v j < v k := fun j hj => hk2 _ (List.mem_map.mpr ⟨j, hj, rfl⟩) _ List.mem_cons_self
    have high : ∀ j ∈ as.reverse, v k < v j := fun j hj => hk1 _ (List.mem_map.mpr ⟨j, hj, rfl⟩)
    have eqv : ∀ j ∈ ord, v j = v k → j = k := fun j hj hv => by
      rw [ho] at hj
      rcases List.mem_append.mp hj with z | z
      · have := low j z; omega
      · rcases List.mem_cons.mp z with z | z
        · exact z
        · have := high j z; omega
    have agree : ∀ j ∈ ord, v k < v j → (j ∈ xs ↔ j ∈ ys) := fun j hj hv => by
      rw [ho] at hj
      rcases List.mem_append.mp hj with z | z
      · have := low j z; omega
      · rcases List.mem_cons.mp z with z | z
        · rw [z] at hv; omega
        · have := has j (List.mem_reverse.mp z)
          by_cases h1 : j ∈ xs <;> by_cases h2 : j ∈ ys <;> simp [h1, h2] at this ⊢
    have bits : ∀ i, v k < i → (Ak.num (xs.map v)).testBit i = (Ak.num (ys.map v)).testBit i := fun i hi => by
      rw [Bool.eq_iff_iff, Ak.bit_num, Ak.bit_num, List.mem_map, List.mem_map]
      constructor
      · rintro ⟨j, hj, rfl⟩; exact ⟨j, (agree j (hx j hj) hi).mp hj, rfl⟩
      · rintro ⟨j, hj, rfl⟩; exact ⟨j, (agree j (hy j hj) hi).mpr hj, rfl⟩
    have own : ∀ zs : List Nat, (∀ j ∈ zs, j ∈ ord) → (Ak.num (zs.map v)).testBit (v k) = decide (k ∈ zs) := fun zs hz => by
      rw [Bool.eq_iff_iff, Ak.bit_num, List.mem_map, decide_eq_true_eq]
      constructor
      · rintro ⟨j, hj, e⟩; rw [← eqv j (hz j hj) e]; exact hj
      · intro h; exact ⟨k, h, rfl⟩
    have ox := own xs hx
    have oy := own ys hy
    by_cases hky : k ∈ ys
    · have hkx : k ∉ xs := fun z => by simp [z, hky] at hp
      refine .inr (.inr ⟨by simp [hky], ?_⟩)
      exact lt_bits (i := v k) (by rw [ox]; simp [hkx]) (by rw [oy]; simp [hky]) bits
    · have hkx : k ∈ xs := by
        cases h : decide (k ∈ xs) with
        | true => exact of_decide_eq_true h
        | false => rw [h] at hp; simp [hky] at hp
      refine .inr (.inl ⟨by simp [hky], ?_⟩)
      exact lt_bits (i := v k) (by rw [oy]; simp [hky]) (by rw [ox]; simp [hkx]) fun i hi => (bits i hi).symm
end Wd
/-! plain law: texts of nests in any order, and how they are read -/
namespace Ak
open PySem
def br0 (l : List Str) : Str := ("{" : Str) ++ Txt.join "," l ++ ("}" : Str)
theorem L_br0 (l : List Str) : L (br0 l) = 123 :: (J l ++ [125]) := by
  unfold br0
  rw [L_app, L_app, show Txt.join "," l = Str.join "," l from StrLaws.glued_eq_join _ _, L_join]
  show [123] ++ J l ++ [125] = _
  simp
/-- the text with the members in ascending order -/
def wtx (n : Nat) : Str := br0 ((mem n).attach.map fun m => wtx m.1)
termination_by n
decreasing_by exact mem_lt m.2
theorem wtx_eq (n : Nat) : wtx n = br0 ((mem n).map wtx) := by
  rw [wtx, List.attach_map_val (f := wtx)]
/-- a text tells a nest -/
inductive Tells : Str → Nat → Prop where
  | mk (l : List (Str × Nat)) (h : ∀ p ∈ l, Tells p.1 p.2) : Tells (br0 (l.map (·.1))) (num (l.map (·.2)))
theorem tells_wtx (n : Nat) : Tells (wtx n) n := by
  induction n using Nat.strongRecOn with
  | _ n ih =>
    have h := Tells.mk ((mem n).map fun m => (wtx m, m)) fun p hp => by
      obtain ⟨m, hm, rfl⟩ := List.mem_map.mp hp
      exact ih m (mem_lt hm)
    rw [List.map_map, List.map_map] at h
    rw [show (mem n).map ((fun p : Str × Nat => p.2) ∘ fun m => (wtx m, m)) = mem n from by rw [show ((fun p : Str × Nat => p.2) ∘ fun m => (wtx m, m)) = id from rfl, List.map_id], num_mem] at h
    rw [wtx_eq]
    exact h
end Ak
namespace Rd
open PySem Ak
/-- what may stand behind a sign -/
def okc (p d c : Nat) : Bool := if p = 123 then c == 123 || c == 125 else if p = 125 then decide (0 < d) && (c == 44 || c == 125) else c == 123
def stepq (st : List (List Nat)) (p c : Nat) : Option (List (List Nat)) :=
  if okc p (st.length - 1) c then
    (if c = 123 then some ([] :: st) else if c = 125 then (match st with | a :: b :: r => some ((b ++ [num a]) :: r) | _ => none) else some st)
  else none
def run : List Nat → List (List Nat) → Nat → Option (List (List Nat) × Nat)
  | [], st, p => some (st, p)
  | c :: r, st, p => match stepq st p c with
    | none => none
    | some st' => run r st' c
theorem run_app : ∀ (a b : List Nat) (st : List (List Nat)) (p : Nat), run (a ++ b) st p = (run a st p).bind fun q => run b q.1 q.2
  | [], b, st, p => rfl
  | c :: a, b, st, p => by
    show (match stepq st p c with | none => none | some st' => run (a ++ b) st' c) = (match stepq st p c with | none => none | some st' => run a st' c).bind _
    cases stepq st p c with
    | none => rfl
    | some st' => exact run_app a b st' c
theorem run_take {l : List Nat} {st : List (List Nat)} {p : Nat} {r : List (List Nat) × Nat} (h : run l st p = some r) (i : Nat) : ∃ st' p', run (l.take i) st p = some (st', p') := by
  rw [← List.take_append_drop i l, run_app] at h
  cases e : run (l.take i) st p with
  | none => rw [e] at h; cases h
  | some q => exact ⟨q.1, q.2, rfl⟩
theorem run_next {l : List Nat} {st st' : List (List Nat)} {p p' c i : Nat} {r : List (List Nat) × Nat} (h : run l st p = some r) (hi : run (l.take i) st p = some (st', p')) (hc : l[i]? = some c) : ∃ st2, stepq st' p' c = some st2 ∧ run (l.take (i + 1)) st p = some (st2, c) := by
  have e : l.take (i + 1) = l.take i ++ [c] := by rw [List.take_add_one, hc]; rfl
  obtain ⟨q1, q2, hq⟩ := run_take h (i + 1)
  rw [e, run_app, hi] at hq
  have hq : (match stepq st' p' c with | none => none | some s2 => run [] s2 c) = some (q1, q2) := hq
  cases es : stepq st' p' c with
  | none => rw [es] at hq; cases hq
  | some st2 =>
    refine ⟨st2, rfl, ?_⟩
    rw [e, run_app, hi]
    show (match stepq st' p' c with | none => none | some s2 => run [] s2 c) = _
    rw [es]; rfl
theorem J_tail (x : Str) (r : List Str) : J (x :: r) = L x ++ (if r = [] then [] else 44 :: J r) := Ak.J_tail x r
theorem run_tells {t : Str} {n : Nat} (h : Tells t n) : ∀ (r : List Nat) (top : List Nat) (rest : List (List Nat)) (p : Nat), (p ≠ 125) →
    run (L t ++ r) (top :: rest) p = run r ((top ++ [n]) :: rest) 125 := by
  induction h with
  | mk l hl ih =>
    intro r top rest p hp
    rw [L_br0, List.cons_append, List.append_assoc]
    have e1 : stepq (top :: rest) p 123 = some ([] :: top :: rest) := by
      unfold stepq okc
      by_cases h1 : p = 123 <;> simp [h1, hp]
    have key : ∀ (k : List (Str × Nat)), (∀ q ∈ k, q ∈ l) → ∀ (acc : List Nat) (p : Nat), p ≠ 125 → k ≠ [] → run (J (k.map Prod.fst) ++ ([125] ++ r)) (acc :: top :: rest) p = run ([125] ++ r) ((acc ++ k.map Prod.snd) :: top :: rest) 125 := by
      intro k
      induction k with
      | nil => intro _ acc p _ h; exact absurd rfl h
      | cons q k ihk =>
        intro hk acc p hp2 _
        rw [List.map_cons, J_tail, List.append_assoc, ih q (hk q List.mem_cons_self) _ acc (top :: rest) p hp2]
        by_cases e : k = []
        · subst e
          simp
        · have e2 : k.map Prod.fst ≠ [] := fun z => e (List.map_eq_nil_iff.mp z)
          rw [if_neg e2, List.cons_append]
          show (match stepq ((acc ++ [q.2]) :: top :: rest) 125 44 with | none => none | some st' => run (J (k.map Prod.fst) ++ ([125] ++ r)) st' 44) = _
          have e3 : stepq ((acc ++ [q.2]) :: top :: rest) 125 44 = some ((acc ++ [q.2]) :: top :: rest) := by
            unfold stepq okc
            simp
          rw [e3]
          show run (J (k.map Prod.fst) ++ ([125] ++ r)) ((acc ++ [q.2]) :: top :: rest) 44 = _
          rw [ihk (fun x hx => hk x (List.mem_cons_of_mem _ hx)) (acc ++ [q.2]) 44 (by decide) e, List.map_cons, List.append_assoc]
          rfl
    show (match stepq (top :: rest) p 123 with | none => none | some st' => run (J (l.map Prod.fst) ++ ([125] ++ r)) st' 123) = _
    rw [e1]
    show run (J (l.map Prod.fst) ++ ([125] ++ r)) ([] :: top :: rest) 123 = _
    have last : ∀ (acc : List Nat) (p : Nat), (p = 123 ∨ p = 125) → run ([125] ++ r) (acc :: top :: rest) p = run r ((top ++ [num acc]) :: rest) 125 := fun acc p hp => by
      show (match stepq (acc :: top :: rest) p 125 with | none => none | some st' => run r st' 125) = _
      have e4 : stepq (acc :: top :: rest) p 125 = some ((top ++ [num acc]) :: rest) := by
        unfold stepq okc
        rcases hp with rfl | rfl <;> simp
      rw [e4]
    by_cases e : l = []
    · subst e
      exact last [] 123 (.inl rfl)
    · rw [key l (fun q hq => hq) [] 123 (by decide) e, List.nil_append]
      exact last _ 125 (.inr rfl)
theorem run_good {t : Str} {n : Nat} (h : Tells t n) : run (L t) [[]] 0 = some ([[n]], 125) := by
  have := run_tells h [] [] [] 0 (by decide)
  rw [List.append_nil] at this
  exact this
/-- how many braces are open -/
def now : List Nat → Int
  | [] => 0
  | c :: r => (if c = 123 then 1 else if c = 125 then -1 else 0) + now r
theorem now_app : ∀ a b : List Nat, now (a ++ b) = now a + now b
  | [], b => by show now b = 0 + now b; omega
  | c :: a, b => by show _ + now (a ++ b) = _ + now a + now b; rw [now_app a b]; omega
/-- the most that are open -/
def most : List Nat → Nat → Int
  | _, 0 => 0
  | l, i + 1 => if now (l.take (i + 1)) > most l i then now (l.take (i + 1)) else most l i
def deep (l : List Nat) : Int := most l l.length
theorem now_take {l : List Nat} {i c : Nat} (h : l[i]? = some c) : now (l.take (i + 1)) = now (l.take i) + (if c = 123 then 1 else if c = 125 then -1 else 0) := by
  have e : l.take (i + 1) = l.take i ++ [c] := by rw [List.take_add_one, h]; rfl
  rw [e, now_app]
  show now (l.take i) + ((if c = 123 then 1 else if c = 125 then -1 else 0) + 0) = _
  omega
theorem most_ge (l : List Nat) : ∀ {i j : Nat}, j ≤ i → now (l.take j) ≤ most l i
  | 0, j, h => by
    have : j = 0 := by omega
    subst this
    exact Int.le_refl _
  | i + 1, j, h => by
    show _ ≤ if now (l.take (i + 1)) > most l i then now (l.take (i + 1)) else most l i
    by_cases e : j = i + 1
    · subst e
      split <;> omega
    · have := most_ge l (i := i) (j := j) (by omega)
      split <;> omega
theorem most_0 (l : List Nat) : ∀ i, 0 ≤ most l i
  | 0 => Int.le_refl _
  | i + 1 => by
    show 0 ≤ if now (l.take (i + 1)) > most l i then now (l.take (i + 1)) else most l i
    have := most_0 l i
    split <;> omega
theorem deep_ge (l : List Nat) (j : Nat) : now (l.take j) ≤ deep l := by
  by_cases h : j ≤ l.length
  · exact most_ge l h
  · rw [List.take_of_length_le (by omega)]
    have := most_ge l (i := l.length) (j := l.length) (Nat.le_refl _)
    rw [List.take_length] at this
    exact this
/-- what holds while a text is read, behind i signs -/
structure Good (l : List Nat) (i : Nat) (st : List (List Nat)) (p : Nat) : Prop where
  run : run (l.take i) [[]] 0 = some (st, p)
  len : (st.length : Int) = now (l.take i) + 1
  dep : ∀ (j : Nat) (a : List Nat), st[j]? = some a → ∀ m ∈ a, Ak.dep m + (st.length - 1 - j) ≤ 60
  top : ∀ a, st[0]? = some a → 3 * a.length ≤ i + (if p = 125 then 1 else 0)
  rest : ∀ (j : Nat) (a : List Nat), st[j + 1]? = some a → 3 * a.length + 1 ≤ i
theorem stepq_ne {st st' : List (List Nat)} {p c : Nat} (h : stepq st p c = some st') (hs : st ≠ []) : st' ≠ [] := by
  unfold stepq at h
  split at h
  · split at h
    · cases h; simp
    · split at h
      · split at h
        · cases h; simp
        · cases h
      · cases h; exact hs
  · cases h
theorem run_ne : ∀ (l : List Nat) {st : List (List Nat)} {p : Nat} {r : List (List Nat) × Nat}, run l st p = some r → st ≠ [] → r.1 ≠ []
  | [], st, p, r, h, hs => by cases h; exact hs
  | c :: l, st, p, r, h, hs => by
    have h : (match stepq st p c with | none => none | some st' => run l st' c) = some r := h
    cases e : stepq st p c with
    | none => rw [e] at h; cases h
    | some st' => rw [e] at h; exact run_ne l h (stepq_ne e hs)
theorem Good.nonempty {l : List Nat} {i p : Nat} {st : List (List Nat)} (h : Good l i st p) : st ≠ [] := run_ne _ h.run (by simp)
theorem Good.start (l : List Nat) : Good l 0 [[]] 0 := by
  refine ⟨by rw [List.take_zero]; rfl, by rw [List.take_zero]; rfl, fun j a h m hm => ?_, fun a h => ?_, fun j a h => ?_⟩
  · cases j with
    | zero => cases h; cases hm
    | succ j => simp at h
  · cases h; simp
  · simp at h
theorem Good.next {l : List Nat} {i p c : Nat} {st : List (List Nat)} {r : List (List Nat) × Nat} (h : Good l i st p) (hr : Rd.run l [[]] 0 = some r) (hd : deep l ≤ 60) (hc : l[i]? = some c) :
    okc p (st.length - 1) c = true ∧ ((c = 123 ∧ Good l (i + 1) ([] :: st) 123) ∨ (c = 125 ∧ ∃ a b s, st = a :: b :: s ∧ Good l (i + 1) ((b ++ [num a]) :: s) 125) ∨ (c ≠ 123 ∧ c ≠ 125 ∧ Good l (i + 1) st c)) := by
  obtain ⟨st2, h1, h2⟩ := run_next hr h.run hc
  have hn := now_take hc
  have hg := deep_ge l (i + 1)
  have hlen := h.len
  unfold stepq at h1
  by_cases ho : okc p (st.length - 1) c = true
  · rw [if_pos ho] at h1
    refine ⟨ho, ?_⟩
    by_cases e1 : c = 123
    · subst e1
      rw [if_pos rfl] at h1
      cases h1
      rw [if_pos rfl] at hn
      have hp : p ≠ 125 := fun z => by
        rw [z] at ho
        unfold okc at ho
        simp at ho
      refine .inl ⟨rfl, h2, by rw [List.length_cons]; omega, fun j a ha m hm => ?_, fun a ha => ?_, fun j a ha => ?_⟩
      · cases j with
        | zero => cases ha; cases hm
        | succ j =>
          have := h.dep j a ha m hm
          rw [List.length_cons]
          omega
      · cases ha; simp
      · cases j with
        | zero =>
          have := h.top a ha
          rw [if_neg hp] at this
          omega
        | succ j => have := h.rest j a ha; omega
    · rw [if_neg e1] at h1
      by_cases e2 : c = 125
      · subst e2
        rw [if_pos rfl] at h1
        rw [if_neg (by decide), if_pos rfl] at hn
        match st, h1, h, hlen with
        | a :: b :: s, h1, h, hlen =>
          cases h1
          refine .inr (.inl ⟨rfl, a, b, s, rfl, h2, ?_, fun j x hx m hm => ?_, fun x hx => ?_, fun j x hx => ?_⟩)
          · rw [List.length_cons] at hlen ⊢
            rw [List.length_cons] at hlen
            omega
          · rw [List.length_cons] at hlen ⊢
            rw [List.length_cons] at hlen
            cases j with
            | zero =>
              cases hx
              rcases List.mem_append.mp hm with z | z
              · have := h.dep 1 b rfl m z
                rw [List.length_cons, List.length_cons] at this
                omega
              · rw [List.mem_singleton.mp z]
                have hh : Ak.dep (num a) ≤ 60 - (s.length + 1) + 1 := Ak.dep_le fun k hk => by
                  have := h.dep 0 a rfl k (Ak.mem_num.mp hk)
                  rw [List.length_cons, List.length_cons] at this
                  omega
                have h60 : (s.length + 1 : Int) ≤ 60 := by
                  have := deep_ge l i
                  omega
                omega
            | succ j =>
              have := h.dep (j + 2) x hx m hm
              rw [List.length_cons, List.length_cons] at this
              omega
          · cases hx
            have := h.rest 0 b rfl
            rw [List.length_append, List.length_singleton]
            simp
            omega
          · have := h.rest (j + 1) x hx
            omega
        | [a], h1, _, _ => cases h1
        | [], h1, _, _ => cases h1
      · rw [if_neg e2] at h1
        cases h1
        rw [if_neg e1, if_neg e2] at hn
        have hp : p = 125 ∧ c = 44 := by
          unfold okc at ho
          by_cases z : p = 123
          · rw [if_pos z] at ho; simp [e1, e2] at ho
          · rw [if_neg z] at ho
            by_cases z2 : p = 125
            · rw [if_pos z2] at ho
              refine ⟨z2, ?_⟩
              simp [e2] at ho
              exact ho.2
            · rw [if_neg z2] at ho; simp [e1] at ho
        refine .inr (.inr ⟨e1, e2, h2, by omega, h.dep, fun a ha => ?_, fun j a ha => ?_⟩)
        · have := h.top a ha
          rw [if_pos hp.1] at this
          rw [if_neg e2]
          omega
        · have := h.rest j a ha; omega
  · rw [if_neg ho] at h1; cases h1
end Rd
/-! for at, sign in enumerate(a text) -/
namespace L2
open PySem PySem.Spec PyProof.Rows
def Ites (z : Str) : It :=
  ⟨fun i _ => i < z.cps.size, fun i H v H' => ∃ (T : Addr) (c : Nat), z.cps[i]? = some c ∧ v = .ref T ∧ H T = none ∧ H' = upd H T (.tup [.int (i : Nat), .str ⟨#[c]⟩]), fun i _ => z.cps.size ≤ i⟩
theorem turn_enumS {P : Program} {w : World} {K : PySem.W.Frag} {elts : List Expr} {kk : Nat} {tpos : Pos} (z : Str) (t : Tok) (ty : String) (hty : ty = "str_ascii_iterator" ∨ ty = "str_iterator") (e it : Addr) (hne : e ≠ it) :
    Turn P w K (.Tuple elts kk tpos) (Ites z) [e, it] e (fun i h => (∃ old, IsEnum h e it ((i : Nat) : Int) old) ∧ h.IsStrIter it ty z t i) where
  mem := by simp
  obj := fun i h st b hb => by
    obtain ⟨⟨old, he⟩, ⟨o, ho, hc, hd⟩⟩ := st
    have e' : b = e ∨ b = it := by simpa using hb
    rcases e' with q | q
    · rw [q]; exact ⟨_, he, fun v q => nomatch q⟩
    · rw [q]; exact ⟨o, ho, fun v q => by rw [hd] at q; cases q⟩
  keep := fun i h h' st k => let ⟨⟨old, he⟩, ⟨o, ho, r⟩⟩ := st; ⟨⟨old, k e (by simp) _ he⟩, ⟨o, k it (by simp) o ho, r⟩⟩
  item := by
    intro X hP hw hK hc i pins s σ H E I hf st hg
    subst hP hw hK
    obtain ⟨⟨old, he⟩, hit⟩ := st
    have hel : e < s.heap.objs.size := Heap.lt_size he
    have hil : it < s.heap.objs.size := by obtain ⟨_, q, _⟩ := hit; exact Heap.lt_size q
    have D : Draws X.prog X.w X.A.in1 it [it] z.cps.size (fun i v => ∃ c u, z.cps[i]? = some c ∧ v = .str ⟨#[c]⟩ u) (fun i h => h.IsStrIter it ty z t i) := by
      rcases hty with q | q
      · rw [q]; exact Draws.strAscii (A := X.A.in1) (I.ok.hd hc) it z t
      · rw [q]; exact Draws.strWide (A := X.A.in1) (I.ok.hd hc) it z t
    refine wpAny_pyNext_enum_itemD D he hit hg hne (by simpa using hne) fun x h' tk hx ho hit' hT hsz hk => ?_
    obtain ⟨c, u, hcx, rfl⟩ := hx
    refine ⟨_, rfl, wpAny_letOwnedTupleGo_enum (s := { s with heap := h', toks := tk + 1 }) ho fun h'' he' sb => ?_⟩
    have hT2 : h''.get? s.heap.objs.size = some { cls := .type "tuple", data := .seq #[.int i tk, .str ⟨#[c]⟩ u] } := (sb.2 _ (Nat.ne_of_gt hel)).trans hT
    have new : ObjOk X.prog X.w (upd H s.heap.objs.size (.tup [.int (i : Nat), .str ⟨#[c]⟩])) h'' s.heap.objs.size (.tup [.int (i : Nat), .str ⟨#[c]⟩]) :=
      ⟨by show 2 ≤ sizeLine; decide, [.int i tk, .str ⟨#[c]⟩ u], .cons ⟨_, rfl⟩ (.cons ⟨u, rfl⟩ .nil), ⟨_, hT2, rfl, _, rfl⟩⟩
    have I1 : Inv X pins σ (upd H s.heap.objs.size (.tup [.int (i : Nat), .str ⟨#[c]⟩])) { s with heap := h'', toks := tk + 1 } :=
      I.turnedNew (ch := [e, it]) (fun b ob hb q => (sb.2 b (fun z => hb (by simp [z]))).trans (hk b ob (fun z => hb (by simp [z])) (fun z => hb (by simp [z])) q)) hf (Nat.le_refl _) new
    refine ⟨.ref s.heap.objs.size, _, I1, rfl, ⟨_, c, hcx, rfl, I.hok.fresh (Nat.le_refl _), rfl⟩, ⟨⟨.str ⟨#[c]⟩ u, ?_⟩, ?_⟩, fun b hb => ?_⟩
    · have e1 : ((i + 1 : Nat) : Int) = (i : Int) + 1 := by omega
      rw [e1]; exact he'
    · obtain ⟨o, ho2, r⟩ := hit'
      exact ⟨o, (sb.2 it (Ne.symm hne)).trans ho2, r⟩
    · have hb' : b < s.heap.objs.size := by
        have e' : b = e ∨ b = it := by simpa using hb
        rcases e' with q | q
        · rw [q]; exact hel
        · rw [q]; exact hil
      rw [upd_ne (Nat.ne_of_lt hb')]
      exact (hf b hb).1
  done := by
    intro X hP hw hK hc i pins s σ H E I hf st hg
    subst hP hw hK
    obtain ⟨⟨old, he⟩, hit⟩ := st
    have D : Draws X.prog X.w X.A.in1 it [it] i (fun _ _ => True) (fun j h => h.IsStrIter it ty z t j ∧ z.cps.size ≤ j ∧ j = i) := by
      have hx : z.cps[i]? = none := Array.getElem?_eq_none hg
      refine ⟨fun _ _ st => let ⟨⟨o, ho, _⟩, _⟩ := st; ⟨o, ho⟩, fun _ _ _ st hk => let ⟨⟨o, ho, r⟩, q⟩ := st; ⟨⟨o, hk it (by simp) o ho, r⟩, q⟩, fun j s Q E hi st hQ => ?_, fun s Q E st hE => ?_⟩
      · exact absurd st.2.2 (Nat.ne_of_lt hi)
      · rcases hty with q | q
        · have st1 := st.1
          rw [q] at st1
          exact wpAny_nextOf_ascii_end (A := X.A.in1) (I.ok.hd hc) st1 hx hE
        · have st1 := st.1
          rw [q] at st1
          exact wpAny_nextOf_wide_end (A := X.A.in1) (I.ok.hd hc) st1 hx hE
    obtain ⟨f0, f1, f2, f3, f4, f5⟩ := hf it (by simp)
    exact wpAny_pyNext_enum_endD D he ⟨hit, hg, rfl⟩ fun h' eb => ⟨rfl, I.turned (t' := s.toks) (fun b o hb q => eb b o hb q) f0 f1 f3 f4 f5⟩
  self := fun A i s Q E st h => let ⟨⟨_, he⟩, _⟩ := st; wpAny_pyIter_enum he h
def iEnumS (ta : TA) : TI := fun σ H R => ta σ H fun vs H1 => ∃ z : Str, vs = [.str z] ∧ R (Ites z) H1
theorem pi_enumS {X : Cx} {e : Expr} {ta : TA} {p pos tpos : Pos} {elts : List Expr} {kk : Nat} (hg : Gl X "enumerate") (hm : X.mg "enumerate" = none) (ha : PA X [e] ta) (hs : starEach [e] X.env = [(false, eval e X.env)] := by rfl) :
    PI X (.Tuple elts kk tpos) (.Call (.Name "enumerate" p) [e] [] pos) (iEnumS ta) := by
  refine ⟨fun pins s σ H R I h => ?_⟩
  refine Call_ (ld_blt I hg hm boot_enumerate (PyProof.Rows.callWith_type1 (thn (ha.run pos pins s σ H _ I h) fun us s1 ⟨vs, H1, I1, r1, q1⟩ => ?_) hs rfl))
  obtain ⟨z, ex, q⟩ := q1
  subst ex
  cases r1 with
  | cons r rr =>
    cases rr
    obtain ⟨t, rfl⟩ := r
    refine call_enumerate_str fun h' he hit hsz hk => wpAny_pyIter_enum he ?_
    have I2 : Inv X pins σ H1 { s1 with heap := h' } := I1.kept (t' := s1.toks) hk
    have hty : strIterType z = "str_ascii_iterator" ∨ strIterType z = "str_iterator" := by
      unfold strIterType
      split
      · exact .inl rfl
      · exact .inr rfl
    refine ⟨s1.heap.objs.size + 1, [s1.heap.objs.size + 1, s1.heap.objs.size], _, _, H1, rfl, I2, turn_enumS z t _ hty (s1.heap.objs.size + 1) s1.heap.objs.size (Nat.succ_ne_self _), ⟨⟨.none, he⟩, hit⟩, fun b hb => ?_, q⟩
    have e' : b = s1.heap.objs.size + 1 ∨ b = s1.heap.objs.size := by simpa using hb
    have hle : s1.heap.objs.size ≤ b := by
      rcases e' with q | q
      · rw [q]; exact Nat.le_add_right _ _
      · rw [q]; exact Nat.le_refl _
    exact I1.fpOk hle (I1.hok.fresh hle)
theorem walk_enumS {z : Str} : Walk (Ites z) z.cps.size (fun _ => True) (YPair (fun i => some (.int (i : Nat))) (fun i => z.cps[i]?.map fun c => V.str ⟨#[c]⟩)) := by
  refine ⟨fun _ _ hi _ => hi, fun _ _ => Nat.le_refl _, fun i H v H' _ _ y => ?_⟩
  obtain ⟨T, c, h1, h2, h3, h4⟩ := y
  exact ⟨T, .int (i : Nat), .str ⟨#[c]⟩, h2, h3, h4, rfl, by show z.cps[i]?.map _ = _; rw [h1]; rfl⟩
end L2
namespace Lw
open PySem PySem.Spec PyProof.Rows L2
section
variable {K : PySem.W.Frag} {σ : L2.St} {H : Hp} {D : Ends} {g : TG} {tb : TS}
theorem r_enumS {ta : TA} {R : It → Hp → Prop} (h : ta σ H fun vs H1 => ∃ z : Str, vs = [.str z] ∧ R (Ites z) H1) : iEnumS ta σ H R := h
/-- for at, sign in enumerate(text) -/
theorem r_forES {z : Str} (Pv : Nat → L2.St → Hp → Prop) (h0 : Pv 0 σ H)
    (hs : ∀ i c σ H, z.cps.toList[i]? = some c → Pv i σ H → ∀ T, H T = none → g (.ref T) σ (upd H T (.tup [.int (i : Nat), .str ⟨#[c]⟩])) fun σ2 H2 => tb { D with nx := Pv (i + 1), ct := Pv (i + 1), bk := D.nx } σ2 H2) (hd : ∀ σ H, Pv z.cps.size σ H → D.nx σ H) :
    ∃ W : Nat → Nat → L2.St → Hp → Prop, (∃ m, W 0 m σ H) ∧ ∀ i m σ H, W i m σ H →
      ((Ites z).stop i H ∧ D.nx σ H) ∨ ((Ites z).go i H ∧ ∃ N : L2.St → Hp → Prop, (∀ σ' H', N σ' H' → ∃ m', m' < m ∧ W (i + 1) m' σ' H') ∧ ∀ x H', (Ites z).yld i H x H' → g x σ H' fun σ2 H2 => tb { D with nx := N, ct := N, bk := D.nx } σ2 H2) :=
  for_it walk_enumS Pv h0 (fun _ _ _ _ _ => trivial) (fun i x σ H H' _ p y => by
    obtain ⟨T, a, b, rfl, hT, rfl, ha, hb⟩ := y
    cases ha
    have hb : z.cps[i]?.map (fun c => V.str ⟨#[c]⟩) = some b := hb
    cases ec : z.cps[i]? with
    | none => rw [ec] at hb; cases hb
    | some c =>
      rw [ec] at hb
      cases hb
      exact hs i c σ H (by rw [Array.getElem?_toList]; exact ec) p T hT) hd
/-- for sign in text -/
theorem r_forStr {z : Str} (Pv : Nat → L2.St → Hp → Prop) (h0 : Pv 0 σ H)
    (hs : ∀ i c σ H, z.cps.toList[i]? = some c → Pv i σ H → g (.str ⟨#[c]⟩) σ H fun σ2 H2 => tb { D with nx := Pv (i + 1), ct := Pv (i + 1), bk := D.nx } σ2 H2) (hd : ∀ σ H, Pv z.cps.size σ H → D.nx σ H) :
    ∃ x, V.str z = .str x ∧ ∃ W : Nat → Nat → L2.St → Hp → Prop, (∃ m, W 0 m σ H) ∧ ∀ i m σ H, W i m σ H →
      ((Its x).stop i H ∧ D.nx σ H) ∨ ((Its x).go i H ∧ ∃ N : L2.St → Hp → Prop, (∀ σ' H', N σ' H' → ∃ m', m' < m ∧ W (i + 1) m' σ' H') ∧ ∀ y H', (Its x).yld i H y H' → g y σ H' fun σ2 H2 => tb { D with nx := N, ct := N, bk := D.nx } σ2 H2) :=
  ⟨z, rfl, for_it walk_str Pv h0 (fun _ _ _ _ _ => trivial) (fun i x σ H H' _ p y => by
    obtain ⟨rfl, c, hc, rfl⟩ := y
    exact hs i c σ _ (by rw [Array.getElem?_toList]; exact hc) p) hd⟩
theorem r_iStr {te : TE} {R : It → Hp → Prop} (h : te σ H fun v H1 => ∃ x, v = .str x ∧ R (Its x) H1) : iStr te σ H R := h
end
end Lw
/-! a world in the heap -/
namespace Lw
open PySem PySem.Spec PyProof.Rows L2
theorem r_popAt {H : Hp} {Q : VK} {l : Addr} {xs : List V} {i : Nat} {y : V} (h : H l = some (.lst xs)) (hy : xs[i]? = some y) (hs : xs.length < 1000000) (q : Q y (upd H l (.lst (xs.eraseIdx i)))) : rPopAt (.ref l) [.int (i : Int)] H Q := by
  have hi := (List.getElem?_eq_some_iff.mp hy).1
  refine ⟨l, xs, (i : Int), i, y, rfl, rfl, h, by omega, by omega, ?_, hy, q⟩
  unfold seqIndex?
  have e : ¬ ((i : Int) < 0) := by omega
  simp [hi, e]
theorem map_erase {α β : Type} (f : α → β) : ∀ (l : List α) (i : Nat), (l.map f).eraseIdx i = (l.eraseIdx i).map f
  | [], _ => rfl
  | _ :: _, 0 => rfl
  | a :: r, i + 1 => congrArg (f a :: ·) (map_erase f r i)
theorem nV_erase (ls : List Nat) (i : Nat) : (nV ls).eraseIdx i = nV (ls.eraseIdx i) := map_erase _ ls i
theorem mem_erase {ls : List Nat} {i x : Nat} (h : x ∈ ls.eraseIdx i) : x ∈ ls := (List.eraseIdx_sublist ls i).subset h
theorem sum_intN : ∀ l : List Nat, (l.map fun n => ((n : Nat) : Int)).sum = ((l.sum : Nat) : Int)
  | [] => rfl
  | a :: r => by rw [List.map_cons, List.sum_cons, sum_intN r, List.sum_cons]; omega
/-- the lists of a world -/
def InW (R O Br Dp : Addr) : Addr → Prop := fun c => c = R ∨ c = O ∨ c = Br ∨ c = Dp
structure WAt (H : Hp) (W R O Br Dp : Addr) (ras : List Addr) (rows : List (List Nat)) (ord vs : List Nat) : Prop where
  hW : H W = some (.lst [.ref R, .ref O, .ref Br, .ref Dp])
  hR : H R = some (.lst (ras.map V.ref))
  hO : H O = some (.lst (nV ord))
  hB : H Br = some (.lst (nV (vs.map Ak.br)))
  hD : H Dp = some (.lst (nV (vs.map Ak.dep)))
  rl : ras.length = rows.length
  rw_ : ∀ (i : Nat) (a : Addr), ras[i]? = some a → ∃ r, rows[i]? = some r ∧ H a = some (.lst (nV r)) ∧ ¬ InW R O Br Dp a
  nw : ¬ InW R O Br Dp W
  n1 : R ≠ O
  n2 : R ≠ Br
  n3 : R ≠ Dp
  n4 : O ≠ Br
  n5 : O ≠ Dp
  n6 : Br ≠ Dp
section
variable {H H' : Hp} {W R O Br Dp : Addr} {ras : List Addr} {rows : List (List Nat)} {ord vs : List Nat}
theorem WAt.same (h : WAt H W R O Br Dp ras rows ord vs) (s : Same H H') : WAt H' W R O Br Dp ras rows ord vs :=
  ⟨s _ _ h.hW, s _ _ h.hR, s _ _ h.hO, s _ _ h.hB, s _ _ h.hD, h.rl, fun i a e => by obtain ⟨r, h1, h2, h3⟩ := h.rw_ i a e; exact ⟨r, h1, s _ _ h2, h3⟩, h.nw, h.n1, h.n2, h.n3, h.n4, h.n5, h.n6⟩
theorem WAt.row (h : WAt H W R O Br Dp ras rows ord vs) {i : Nat} {r : List Nat} (e : rows[i]? = some r) : ∃ a, ras[i]? = some a ∧ H a = some (.lst (nV r)) := by
  have hi : i < ras.length := by rw [h.rl]; exact (List.getElem?_eq_some_iff.mp e).1
  obtain ⟨r', h1, h2, _⟩ := h.rw_ i ras[i] (List.getElem?_eq_getElem hi)
  rw [e] at h1
  cases h1
  exact ⟨_, List.getElem?_eq_getElem hi, h2⟩
end
/-- which of two rows is the greater one -/
def spWWay : Sp := fun vs H Q _ => ∃ (o a b : Addr) (ord xs ys : List Nat), vs = [.ref o, .ref a, .ref b] ∧ H o = some (.lst (nV ord)) ∧ H a = some (.lst (nV xs)) ∧ H b = some (.lst (nV ys)) ∧ ord.length ≤ 100000 ∧ Q (.int (Wd.way ord xs ys)) H
/-- a row put into the world -/
def spWEnter : Sp := fun args H Q _ => ∃ (st g : Addr) (R0 : RS) (B : Hp) (W R O Br Dp : Addr) (ras : List Addr) (rows : List (List Nat)) (ord vs : List Nat) (r : Addr) (rs : List Nat),
  args = [.ref W, .ref r] ∧ H = rg st g R0 B ∧ Ok st g R0 B ∧ WAt B W R O Br Dp ras rows ord vs ∧ Wd.Ok rows ord vs ∧ B r = some (.lst (nV rs)) ∧ (∀ k ∈ rs, k < vs.length) ∧ rs.length ≤ 6 ∧ vs.length ≤ 10000 ∧
  (∀ B' i, Same B B' → Ok st g R0 B' → i < vs.length → (Wd.val vs i = Ak.num (rs.map (Wd.val vs)) ∨ 150 < Ak.br (Ak.num (rs.map (Wd.val vs))) ∨ 90 < Ak.dep (Ak.num (rs.map (Wd.val vs)))) → Q (.int ((i : Nat) : Int)) (rg st g R0 B')) ∧
  (∀ B' ras' rows' ord', Kp (InW R O Br Dp) B B' → Ok st g R0 B' → WAt B' W R O Br Dp ras' rows' ord' (vs ++ [Ak.num (rs.map (Wd.val vs))]) → Wd.Ok rows' ord' (vs ++ [Ak.num (rs.map (Wd.val vs))]) → (∀ a ∈ ras', a ∈ ras ∨ B a = none) → Q (.int ((vs.length : Nat) : Int)) (rg st g R0 B'))
/-- a row of places below m, at D in the growing heap -/
def RowN (st g : Addr) (R : RS) (B C : Hp) (D : Addr) (m n : Nat) (ls : List Nat) : Prop := Ok st g R C ∧ Same B C ∧ B D = none ∧ C D = some (.lst (nV ls)) ∧ (∀ x ∈ ls, x < m) ∧ ls.length ≤ n
theorem RowN.set {st g : Addr} {R : RS} {B C : Hp} {D : Addr} {m n n' : Nat} {ls ls' : List Nat} (h : RowN st g R B C D m n ls) (h1 : ∀ x ∈ ls', x < m) (h2 : ls'.length ≤ n') :
    upd (rg st g R C) D (.lst (nV ls')) = rg st g R (upd C D (.lst (nV ls'))) ∧ RowN st g R B (upd C D (.lst (nV ls'))) D m n' ls' := by
  obtain ⟨o, s, b, e, _, _⟩ := h
  obtain ⟨e1, o1⟩ := rg_write (o := .lst (nV ls')) o e
  exact ⟨e1, o1, same_off b s, b, upd_same, h1, h2⟩
/-- a world under way -/
structure WSt (st g : Addr) (B0 : Hp) (R : RS) (C : Hp) (W Ra O Br Dp : Addr) (ras : List Addr) (rows : List (List Nat)) (ord vs : List Nat) (n : Nat) : Prop where
  o : Ok st g R C
  s : Same B0 C
  b1 : B0 Ra = none
  b2 : B0 O = none
  b3 : B0 Br = none
  b4 : B0 Dp = none
  at_ : WAt C W Ra O Br Dp ras rows ord vs
  ok : Wd.Ok rows ord vs
  lo : 1 ≤ vs.length
  hi : vs.length ≤ n
section
variable {st g : Addr} {B0 : Hp} {R R' : RS} {C C' : Hp} {W Ra O Br Dp : Addr} {ras : List Addr} {rows : List (List Nat)} {ord vs : List Nat} {n m : Nat} {Q : VK} {E : XK}
theorem kp_off {B C C' : Hp} {W Ra O Br Dp : Addr} (s : Same B C) (k : Kp (InW Ra O Br Dp) C C') (b1 : B Ra = none) (b2 : B O = none) (b3 : B Br = none) (b4 : B Dp = none) : Same B C' := fun c o e => k c o (s c o e) fun z => by
  rcases z with rfl | rfl | rfl | rfl
  · rw [b1] at e; cases e
  · rw [b2] at e; cases e
  · rw [b3] at e; cases e
  · rw [b4] at e; cases e
theorem WSt.re (h : WSt st g B0 R C W Ra O Br Dp ras rows ord vs n) (o' : Ok st g R' C) : WSt st g B0 R' C W Ra O Br Dp ras rows ord vs n := ⟨o', h.s, h.b1, h.b2, h.b3, h.b4, h.at_, h.ok, h.lo, h.hi⟩
theorem WSt.mono (h : WSt st g B0 R C W Ra O Br Dp ras rows ord vs n) (hm : n ≤ m) : WSt st g B0 R C W Ra O Br Dp ras rows ord vs m := ⟨h.o, h.s, h.b1, h.b2, h.b3, h.b4, h.at_, h.ok, h.lo, Nat.le_trans h.hi hm⟩
theorem WSt.same (h : WSt st g B0 R C W Ra O Br Dp ras rows ord vs n) (s : Same C C') (o' : Ok st g R' C') : WSt st g B0 R' C' W Ra O Br Dp ras rows ord vs n := ⟨o', h.s.trans s, h.b1, h.b2, h.b3, h.b4, h.at_.same s, h.ok, h.lo, h.hi⟩
theorem WSt.put (h : WSt st g B0 R C W Ra O Br Dp ras rows ord vs n) {P : Addr} {x y : HO} (hP : C P = some x) (hB : B0 P = none) (h1 : ¬ InW Ra O Br Dp P) (h2 : P ≠ W) (h3 : ∀ a ∈ ras, a ≠ P) : upd (rg st g R C) P y = rg st g R (upd C P y) ∧ WSt st g B0 R (upd C P y) W Ra O Br Dp ras rows ord vs n := by
  obtain ⟨e1, o1⟩ := rg_write (o := y) h.o hP
  have hne : ∀ c, InW Ra O Br Dp c → c ≠ P := fun c hc z => h1 (by rw [← z]; exact hc)
  refine ⟨e1, o1, same_off hB h.s, h.b1, h.b2, h.b3, h.b4, ⟨(upd_ne h2.symm).trans h.at_.hW, (upd_ne (hne _ (.inl rfl))).trans h.at_.hR, (upd_ne (hne _ (.inr (.inl rfl)))).trans h.at_.hO, (upd_ne (hne _ (.inr (.inr (.inl rfl))))).trans h.at_.hB, (upd_ne (hne _ (.inr (.inr (.inr rfl))))).trans h.at_.hD, h.at_.rl, fun i a ha => ?_, h.at_.nw, h.at_.n1, h.at_.n2, h.at_.n3, h.at_.n4, h.at_.n5, h.at_.n6⟩, h.ok, h.lo, h.hi⟩
  obtain ⟨r, g1, g2, g3⟩ := h.at_.rw_ i a ha
  exact ⟨r, g1, (upd_ne (h3 a (List.mem_of_getElem? ha))).trans g2, g3⟩
theorem r_enter (h : WSt st g B0 R C W Ra O Br Dp ras rows ord vs n) {r : Addr} {rs : List Nat} (hr : C r = some (.lst (nV rs))) (hrs : ∀ k ∈ rs, k < vs.length) (hl : rs.length ≤ 6) (hn : n ≤ 9999)
    (q : ∀ C' ras' rows' ord' vs' i, WSt st g B0 R C' W Ra O Br Dp ras' rows' ord' vs' (n + 1) → i < vs'.length → vs.length ≤ vs'.length → Kp (InW Ra O Br Dp) C C' → (∀ a ∈ ras', a ∈ ras ∨ C a = none) → Q (.int ((i : Nat) : Int)) (rg st g R C')) :
    spWEnter ([.ref W, .ref r] ++ []) (rg st g R C) Q E :=
  ⟨st, g, R, C, W, Ra, O, Br, Dp, ras, rows, ord, vs, r, rs, rfl, rfl, h.o, h.at_, h.ok, hr, hrs, hl, by have := h.hi; omega,
    fun C' i s o hi _ => q C' ras rows ord vs i ((h.same s o).mono (Nat.le_succ _)) hi (Nat.le_refl _) (Kp.of s) (fun a ha => .inl ha),
    fun C' ras' rows' ord' k o ha hk hz => q C' ras' rows' ord' _ vs.length ⟨o, kp_off (W := W) h.s k h.b1 h.b2 h.b3 h.b4, h.b1, h.b2, h.b3, h.b4, ha, hk, by rw [List.length_append]; simp, by rw [List.length_append, List.length_singleton]; have := h.hi; omega⟩ (by rw [List.length_append]; simp) (by rw [List.length_append]; simp) k hz⟩
end
def spWWorld : Sp := fun args H Q _ => ∃ (st g : Addr) (R0 : RS) (B : Hp), args = [.ref st] ∧ H = rg st g R0 B ∧ Ok st g R0 B ∧
  ∀ R C W Ra O Br Dp ras rows ord vs, WSt st g B R C W Ra O Br Dp ras rows ord vs 600 → Q (.ref W) (rg st g R C)
def spWNear : Sp := fun args H Q _ => ∃ (st g : Addr) (R0 : RS) (B0 B : Hp) (W Ra O Br Dp : Addr) (ras : List Addr) (rows : List (List Nat)) (ord vs : List Nat) (r : Addr) (rs : List Nat),
  args = [.ref st, .ref W, .ref r] ∧ H = rg st g R0 B ∧ WSt st g B0 R0 B W Ra O Br Dp ras rows ord vs 1000 ∧ B r = some (.lst (nV rs)) ∧ (∀ k ∈ rs, k < vs.length) ∧ rs.length ≤ 5 ∧
  ∀ R C D ns, RowN st g R B C D vs.length 6 ns → Q (.ref D) (rg st g R C)
theorem same_rg {st g : Addr} {R : RS} {B : Hp} (k : Ok st g R B) : Same B (rg st g R B) := fun b o e => rg_get k e
section
variable {K : PySem.W.Frag} {C : Addr} {U : Addr → Prop} {H : Hp}
theorem pickV_at {as : List Addr} {ns : List Nat} {k : Nat} (h : NL K C U H as ns) (hk : k < ns.length) : atI (as.map V.ref) (k : Int) = some (.ref (as.getD k 0)) := by
  have hl := h.len
  refine atI_nat ?_
  rw [List.getElem?_map, List.getElem?_eq_getElem (by omega)]
  simp [show k < as.length by omega]
theorem NL.pickV {as : List Addr} {ns rs : List Nat} (h : NL K C U H as ns) (hk : ∀ k ∈ rs, k < ns.length) : NL K C U H (rs.map fun k => as.getD k 0) (rs.map (Wd.val ns)) :=
  NL.by fun k hr => by
    have h1 := hk k hr
    refine h.at_ k _ _ ?_ (Wd.val_get h1)
    rw [List.getElem?_eq_getElem (by rw [h.len]; exact h1)]
    simp [show k < as.length by rw [h.len]; exact h1]
end
/-- the nests of a world -/
def spWNests (K : PySem.W.Frag) (C : Addr) : Sp := fun args H Q _ => ∃ (U : Addr → Prop) (W Ra O Br Dp : Addr) (ras : List Addr) (rows : List (List Nat)) (ord vs : List Nat) (b : Bool),
  args = [.ref W, .bl b] ∧ WAt H W Ra O Br Dp ras rows ord vs ∧ Wd.Ok rows ord vs ∧ (∀ c, H c = none → U c) ∧ vs.length ≤ 1000 ∧
  ∀ H' p as, Same H H' → H p = none → H' p = some (.lst (as.map V.ref)) → NL K C U H' as vs → Q (.ref p) H'
/-- the text of a nest of the world -/
def spWText (d : Nat) : Sp := fun args H Q _ => ∃ (W Ra O Br Dp : Addr) (ras : List Addr) (rows : List (List Nat)) (ord vs : List Nat) (i : Nat),
  args = [.ref W, .int ((i : Nat) : Int)] ∧ WAt H W Ra O Br Dp ras rows ord vs ∧ Wd.Ok rows ord vs ∧ i < vs.length ∧ Ak.dep (Wd.val vs i) < d ∧
  ∀ H', Same H H' → Q (.str (Ak.txt (Wd.val vs i))) H'
def spNSpelled (K : PySem.W.Frag) (C : Addr) (d : Nat) : Sp := fun args H Q _ => ∃ (U : Addr → Prop) (a : Addr) (n : Nat), args = [.ref a] ∧ NAt K C U H a n ∧ Ak.Few 63 n ∧ Ak.br n ≤ 10000 ∧ Ak.dep n < d ∧
  ∀ H', Same H H' → Q (.str (Ak.txt n)) H'
end Lw
namespace Wd
theorem Ok.few {rows : List (List Nat)} {ord vs : List Nat} (h : Ok rows ord vs) (i : Nat) : i < vs.length → Ak.Few 63 (val vs i) := by
  induction i using Nat.strongRecOn with
  | _ i ih =>
    intro hi
    obtain ⟨r, h1, h2, h3, h4, h5⟩ := h.rowAt hi
    have hp := h.memP (fun k hk => by have := h2 k hk; omega) h5
    rw [← h3] at hp
    refine .mk (by rw [← hp.length_eq, List.length_map]; omega) fun m hm => ?_
    obtain ⟨k, hk, rfl⟩ := List.mem_map.mp (hp.mem_iff.mpr hm)
    exact ih k (h2 k hk) (by have := h2 k hk; omega)
end Wd
/-! a world of nests and their texts, by its bounds -/
namespace Wx
open PySem Wd
structure Ok (bb dd : Nat) (rows : List (List Nat)) (ord vs : List Nat) : Prop where
  len : rows.length = vs.length
  perm : ord.Perm (List.range vs.length)
  asc : (ord.map (val vs)).Pairwise (· < ·)
  row : ∀ (i : Nat) (r : List Nat), rows[i]? = some r → (∀ k ∈ r, k < i) ∧ vs[i]? = some (Ak.num (r.map (val vs))) ∧ r.length ≤ 6 ∧ r.Pairwise (· < ·)
  lim : ∀ v ∈ vs, Ak.br v ≤ bb ∧ Ak.dep v ≤ dd
theorem Ok.nil {bb dd : Nat} : Ok bb dd [] [] [] := ⟨rfl, List.Perm.refl _, List.Pairwise.nil, fun i r h => by simp at h, fun v h => nomatch h⟩
section
variable {bb dd : Nat} {rows : List (List Nat)} {ord vs : List Nat}
theorem Ok.lt (h : Ok bb dd rows ord vs) {k : Nat} (hk : k ∈ ord) : k < vs.length := List.mem_range.mp (h.perm.mem_iff.mp hk)
theorem Ok.mem (h : Ok bb dd rows ord vs) {k : Nat} (hk : k < vs.length) : k ∈ ord := h.perm.mem_iff.mpr (List.mem_range.mpr hk)
theorem Ok.olen (h : Ok bb dd rows ord vs) : ord.length = vs.length := by rw [h.perm.length_eq, List.length_range]
theorem Ok.inj (h : Ok bb dd rows ord vs) {j k : Nat} (hj : j < vs.length) (hk : k < vs.length) (e : val vs j = val vs k) : j = k := by
  obtain ⟨a, ha, rfl⟩ := List.mem_iff_getElem.mp (h.mem hj)
  obtain ⟨b, hb, rfl⟩ := List.mem_iff_getElem.mp (h.mem hk)
  have hp := List.pairwise_iff_getElem.mp h.asc
  rcases Nat.lt_trichotomy a b with z | z | z
  · have := hp a b (by simpa using ha) (by simpa using hb) z
    simp only [List.getElem_map] at this; omega
  · subst z; rfl
  · have := hp b a (by simpa using hb) (by simpa using ha) z
    simp only [List.getElem_map] at this; omega
theorem Ok.vmem (h : Ok bb dd rows ord vs) {k : Nat} (hk : k < vs.length) : val vs k ∈ vs := List.mem_of_getElem? (val_get hk)
theorem Ok.rowAt (h : Ok bb dd rows ord vs) {k : Nat} (hk : k < vs.length) : ∃ r, rows[k]? = some r ∧ (∀ j ∈ r, j < k) ∧ val vs k = Ak.num (r.map (val vs)) ∧ r.length ≤ 6 ∧ r.Pairwise (· < ·) := by
  have hk2 : k < rows.length := by rw [h.len]; exact hk
  obtain ⟨h1, h2, h3⟩ := h.row k rows[k] (List.getElem?_eq_getElem hk2)
  exact ⟨_, List.getElem?_eq_getElem hk2, h1, val_at h2, h3⟩
/-- a row of different places has different numbers -/
theorem Ok.nodup (h : Ok bb dd rows ord vs) : ∀ {r : List Nat}, (∀ k ∈ r, k < vs.length) → r.Pairwise (· < ·) → (r.map (val vs)).Nodup
  | [], _, _ => List.nodup_nil
  | x :: r, hr, hp => by
    rw [List.pairwise_cons] at hp
    rw [List.map_cons, List.nodup_cons]
    refine ⟨fun z => ?_, h.nodup (fun k hk => hr k (List.mem_cons_of_mem _ hk)) hp.2⟩
    obtain ⟨y, hy, e⟩ := List.mem_map.mp z
    have := h.inj (hr y (List.mem_cons_of_mem _ hy)) (hr x List.mem_cons_self) e
    have := hp.1 y hy
    omega
theorem Ok.memP (h : Ok bb dd rows ord vs) {r : List Nat} (hr : ∀ k ∈ r, k < vs.length) (hp : r.Pairwise (· < ·)) : (r.map (val vs)).Perm (Ak.mem (Ak.num (r.map (val vs)))) :=
  (List.perm_ext_iff_of_nodup (h.nodup hr hp) (List.Pairwise.imp (fun h => Nat.ne_of_lt h) (Ak.mem_asc _))).mpr fun a => Ak.mem_num.symm
theorem Ok.add (h : Ok bb dd rows ord vs) {own : List Nat} {p x : Nat} (hx : x = Ak.num (own.map (val vs))) (ho : ∀ k ∈ own, k < vs.length) (hl : own.length ≤ 6) (ha : own.Pairwise (· < ·))
    (h1 : ∀ j k, ord[j]? = some k → j < p → val vs k < x) (h2 : ∀ j k, ord[j]? = some k → p ≤ j → x < val vs k) (hb : Ak.br x ≤ bb) (hd : Ak.dep x ≤ dd) :
    Ok bb dd (rows ++ [own]) (ord.take p ++ [vs.length] ++ ord.drop p) (vs ++ [x]) := by
  have cong : ∀ {r : List Nat}, (∀ k ∈ r, k < vs.length) → r.map (val (vs ++ [x])) = r.map (val vs) := fun hr => List.map_congr_left fun k hk => val_push (hr k hk)
  have hord : ∀ k ∈ ord, k < vs.length := fun k hk => h.lt hk
  refine ⟨by rw [List.length_append, List.length_append, h.len]; rfl, ?_, ?_, fun i r hr => ?_, fun v hv => ?_⟩
  · rw [List.length_append, List.length_singleton, List.range_succ]
    have e1 : (ord.take p ++ [vs.length] ++ ord.drop p).Perm (ord ++ [vs.length]) := by
      rw [List.append_assoc]
      have : (ord.take p ++ ([vs.length] ++ ord.drop p)).Perm (ord.take p ++ (ord.drop p ++ [vs.length])) := List.Perm.append_left _ List.perm_append_comm
      rw [← List.append_assoc (ord.take p) (ord.drop p), List.take_append_drop] at this
      exact this
    exact e1.trans (h.perm.append_right _)
  · have ht : ∀ k ∈ ord.take p, k < vs.length := fun k hk => hord k (List.mem_of_mem_take hk)
    have hdr : ∀ k ∈ ord.drop p, k < vs.length := fun k hk => hord k (List.mem_of_mem_drop hk)
    rw [List.map_append, List.map_append, cong ht, cong hdr, List.map_singleton, val_new]
    have ha := h.asc
    rw [← List.take_append_drop p ord, List.map_append, List.pairwise_append] at ha
    have hlo : ∀ v ∈ (ord.take p).map (val vs), v < x := by
      intro v hv
      obtain ⟨k, hk, rfl⟩ := List.mem_map.mp hv
      obtain ⟨j, hj⟩ := List.mem_iff_getElem?.mp hk
      rw [List.getElem?_take] at hj
      split at hj
      · exact h1 j k hj (by assumption)
      · cases hj
    have hhi : ∀ v ∈ (ord.drop p).map (val vs), x < v := by
      intro v hv
      obtain ⟨k, hk, rfl⟩ := List.mem_map.mp hv
      obtain ⟨j, hj⟩ := List.mem_iff_getElem?.mp hk
      rw [List.getElem?_drop] at hj
      exact h2 (p + j) k hj (by omega)
    rw [List.pairwise_append, List.pairwise_append]
    refine ⟨⟨ha.1, by simp, fun a hA b hB => ?_⟩, ha.2.1, fun a hA b hB => ?_⟩
    · rw [List.mem_singleton.mp hB]; exact hlo a hA
    · rcases List.mem_append.mp hA with z | z
      · exact ha.2.2 a z b hB
      · rw [List.mem_singleton.mp z]; exact hhi b hB
  · by_cases hi : i < rows.length
    · rw [List.getElem?_append_left hi] at hr
      obtain ⟨g1, g2, g3⟩ := h.row i r hr
      rw [h.len] at hi
      refine ⟨g1, ?_, g3⟩
      rw [cong fun k hk => by have := g1 k hk; omega, List.getElem?_append_left hi]
      exact g2
    · have hi2 := (List.getElem?_eq_some_iff.mp hr).1
      rw [List.length_append, List.length_singleton] at hi2
      have e : i = rows.length := by omega
      rw [e, List.getElem?_append_right (Nat.le_refl _), Nat.sub_self] at hr
      have hr : own = r := Option.some.inj hr
      subst hr
      rw [e, h.len]
      refine ⟨ho, ?_, hl, ha⟩
      rw [cong ho, ← hx, List.getElem?_append_right (Nat.le_refl _), Nat.sub_self]; rfl
  · rcases List.mem_append.mp hv with z | z
    · exact h.lim v z
    · rw [List.mem_singleton.mp z]; exact ⟨hb, hd⟩
end
theorem Ok.few {bb dd : Nat} {rows : List (List Nat)} {ord vs : List Nat} (h : Ok bb dd rows ord vs) (i : Nat) : i < vs.length → Ak.Few 63 (val vs i) := by
  induction i using Nat.strongRecOn with
  | _ i ih =>
    intro hi
    obtain ⟨r, h1, h2, h3, h4, h5⟩ := h.rowAt hi
    have hp := h.memP (fun k hk => by have := h2 k hk; omega) h5
    rw [← h3] at hp
    refine .mk (by rw [← hp.length_eq, List.length_map]; omega) fun m hm => ?_
    obtain ⟨k, hk, rfl⟩ := List.mem_map.mp (hp.mem_iff.mpr hm)
    exact ih k (h2 k hk) (by have := h2 k hk; omega)
end Wx
namespace Lw
open PySem PySem.Spec PyProof.Rows L2
/-- the lists of a world of texts -/
def InX (R O T : Addr) : Addr → Prop := fun c => c = R ∨ c = O ∨ c = T
structure XAt (tx : Nat → Str) (H : Hp) (W R O T : Addr) (ras : List Addr) (rows : List (List Nat)) (ord vs : List Nat) : Prop where
  hW : H W = some (.lst [.ref R, .ref O, .ref T])
  hR : H R = some (.lst (ras.map V.ref))
  hO : H O = some (.lst (nV ord))
  hT : H T = some (.lst ((vs.map tx).map V.str))
  rl : ras.length = rows.length
  rw_ : ∀ (i : Nat) (a : Addr), ras[i]? = some a → ∃ r, rows[i]? = some r ∧ H a = some (.lst (nV r)) ∧ ¬ InX R O T a
  nw : ¬ InX R O T W
  n1 : R ≠ O
  n2 : R ≠ T
  n3 : O ≠ T
section
variable {H H' : Hp} {tx : Nat → Str} {W R O T : Addr} {ras : List Addr} {rows : List (List Nat)} {ord vs : List Nat}
theorem XAt.same (h : XAt tx H W R O T ras rows ord vs) (s : Same H H') : XAt tx H' W R O T ras rows ord vs :=
  ⟨s _ _ h.hW, s _ _ h.hR, s _ _ h.hO, s _ _ h.hT, h.rl, fun i a e => by obtain ⟨r, h1, h2, h3⟩ := h.rw_ i a e; exact ⟨r, h1, s _ _ h2, h3⟩, h.nw, h.n1, h.n2, h.n3⟩
theorem XAt.row (h : XAt tx H W R O T ras rows ord vs) {i : Nat} {r : List Nat} (e : rows[i]? = some r) : ∃ a, ras[i]? = some a ∧ H a = some (.lst (nV r)) := by
  have hi : i < ras.length := by rw [h.rl]; exact (List.getElem?_eq_some_iff.mp e).1
  obtain ⟨r', h1, h2, _⟩ := h.rw_ i ras[i] (List.getElem?_eq_getElem hi)
  rw [e] at h1
  cases h1
  exact ⟨_, List.getElem?_eq_getElem hi, h2⟩
end
/-- a row put into the world -/
def spXEnter (tx : Nat → Str) (bb dd : Nat) : Sp := fun args H Q _ => ∃ (st g : Addr) (R0 : RS) (B : Hp) (W R O T : Addr) (ras : List Addr) (rows : List (List Nat)) (ord vs : List Nat) (r : Addr) (rs : List Nat),
  args = [.ref W, .ref r] ∧ H = rg st g R0 B ∧ Ok st g R0 B ∧ XAt tx B W R O T ras rows ord vs ∧ Wx.Ok bb dd rows ord vs ∧ B r = some (.lst (nV rs)) ∧ (∀ k ∈ rs, k < vs.length) ∧ rs.length ≤ 6 ∧ vs.length ≤ 1000 ∧
  (∀ B' i, Same B B' → Ok st g R0 B' → i < vs.length → (Wd.val vs i = Ak.num (rs.map (Wd.val vs)) ∨ bb < Ak.br (Ak.num (rs.map (Wd.val vs))) ∨ dd < Ak.dep (Ak.num (rs.map (Wd.val vs)))) → Q (.int ((i : Nat) : Int)) (rg st g R0 B')) ∧
  (∀ B' ras' rows' ord', Kp (InX R O T) B B' → Ok st g R0 B' → XAt tx B' W R O T ras' rows' ord' (vs ++ [Ak.num (rs.map (Wd.val vs))]) → Wx.Ok bb dd rows' ord' (vs ++ [Ak.num (rs.map (Wd.val vs))]) → (∀ a ∈ ras', a ∈ ras ∨ B a = none) → Q (.int ((vs.length : Nat) : Int)) (rg st g R0 B'))
/-- a world under way -/
structure XSt (tx : Nat → Str) (bb dd : Nat) (st g : Addr) (B0 : Hp) (R : RS) (C : Hp) (W Ra O T : Addr) (ras : List Addr) (rows : List (List Nat)) (ord vs : List Nat) (n : Nat) : Prop where
  o : Ok st g R C
  s : Same B0 C
  b1 : B0 Ra = none
  b2 : B0 O = none
  b3 : B0 T = none
  at_ : XAt tx C W Ra O T ras rows ord vs
  ok : Wx.Ok bb dd rows ord vs
  lo : 1 ≤ vs.length
  hi : vs.length ≤ n
section
variable {st g : Addr} {B0 : Hp} {R R' : RS} {C C' : Hp} {tx : Nat → Str} {bb dd : Nat} {W Ra O T : Addr} {ras : List Addr} {rows : List (List Nat)} {ord vs : List Nat} {n m : Nat} {Q : VK} {E : XK}
theorem kp_offX {B C C' : Hp} {W Ra O T : Addr} (s : Same B C) (k : Kp (InX Ra O T) C C') (b1 : B Ra = none) (b2 : B O = none) (b3 : B T = none) : Same B C' := fun c o e => k c o (s c o e) fun z => by
  rcases z with rfl | rfl | rfl
  · rw [b1] at e; cases e
  · rw [b2] at e; cases e
  · rw [b3] at e; cases e
theorem XSt.re (h : XSt tx bb dd st g B0 R C W Ra O T ras rows ord vs n) (o' : Ok st g R' C) : XSt tx bb dd st g B0 R' C W Ra O T ras rows ord vs n := ⟨o', h.s, h.b1, h.b2, h.b3, h.at_, h.ok, h.lo, h.hi⟩
theorem XSt.mono (h : XSt tx bb dd st g B0 R C W Ra O T ras rows ord vs n) (hm : n ≤ m) : XSt tx bb dd st g B0 R C W Ra O T ras rows ord vs m := ⟨h.o, h.s, h.b1, h.b2, h.b3, h.at_, h.ok, h.lo, Nat.le_trans h.hi hm⟩
theorem XSt.same (h : XSt tx bb dd st g B0 R C W Ra O T ras rows ord vs n) (s : Same C C') (o' : Ok st g R' C') : XSt tx bb dd st g B0 R' C' W Ra O T ras rows ord vs n := ⟨o', h.s.trans s, h.b1, h.b2, h.b3, h.at_.same s, h.ok, h.lo, h.hi⟩
theorem XSt.put (h : XSt tx bb dd st g B0 R C W Ra O T ras rows ord vs n) {P : Addr} {x y : HO} (hP : C P = some x) (hB : B0 P = none) (h1 : ¬ InX Ra O T P) (h2 : P ≠ W) (h3 : ∀ a ∈ ras, a ≠ P) : upd (rg st g R C) P y = rg st g R (upd C P y) ∧ XSt tx bb dd st g B0 R (upd C P y) W Ra O T ras rows ord vs n := by
  obtain ⟨e1, o1⟩ := rg_write (o := y) h.o hP
  have hne : ∀ c, InX Ra O T c → c ≠ P := fun c hc z => h1 (by rw [← z]; exact hc)
  refine ⟨e1, o1, same_off hB h.s, h.b1, h.b2, h.b3, ⟨(upd_ne h2.symm).trans h.at_.hW, (upd_ne (hne _ (.inl rfl))).trans h.at_.hR, (upd_ne (hne _ (.inr (.inl rfl)))).trans h.at_.hO, (upd_ne (hne _ (.inr (.inr rfl)))).trans h.at_.hT, h.at_.rl, fun i a ha => ?_, h.at_.nw, h.at_.n1, h.at_.n2, h.at_.n3⟩, h.ok, h.lo, h.hi⟩
  obtain ⟨r, g1, g2, g3⟩ := h.at_.rw_ i a ha
  exact ⟨r, g1, (upd_ne (h3 a (List.mem_of_getElem? ha))).trans g2, g3⟩
theorem r_enterX (h : XSt tx bb dd st g B0 R C W Ra O T ras rows ord vs n) {r : Addr} {rs : List Nat} (hr : C r = some (.lst (nV rs))) (hrs : ∀ k ∈ rs, k < vs.length) (hl : rs.length ≤ 6) (hn : n ≤ 999)
    (q : ∀ C' ras' rows' ord' vs' i, XSt tx bb dd st g B0 R C' W Ra O T ras' rows' ord' vs' (n + 1) → i < vs'.length → vs.length ≤ vs'.length → Kp (InX Ra O T) C C' → (∀ a ∈ ras', a ∈ ras ∨ C a = none) → Q (.int ((i : Nat) : Int)) (rg st g R C')) :
    spXEnter tx bb dd ([.ref W, .ref r] ++ []) (rg st g R C) Q E :=
  ⟨st, g, R, C, W, Ra, O, T, ras, rows, ord, vs, r, rs, rfl, rfl, h.o, h.at_, h.ok, hr, hrs, hl, by have := h.hi; omega,
    fun C' i s o hi _ => q C' ras rows ord vs i ((h.same s o).mono (Nat.le_succ _)) hi (Nat.le_refl _) (Kp.of s) (fun a ha => .inl ha),
    fun C' ras' rows' ord' k o ha hk hz => q C' ras' rows' ord' _ vs.length ⟨o, kp_offX (W := W) h.s k h.b1 h.b2 h.b3, h.b1, h.b2, h.b3, ha, hk, by rw [List.length_append]; simp, by rw [List.length_append, List.length_singleton]; have := h.hi; omega⟩ (by rw [List.length_append]; simp) (by rw [List.length_append]; simp) k hz⟩
end
def spXWorld (tx : Nat → Str) (bb dd : Nat) : Sp := fun args H Q _ => ∃ (st g : Addr) (R0 : RS) (B : Hp), args = [.ref st] ∧ H = rg st g R0 B ∧ Ok st g R0 B ∧
  ∀ R C W Ra O T ras rows ord vs, XSt tx bb dd st g B R C W Ra O T ras rows ord vs 600 → Q (.ref W) (rg st g R C)
end Lw
namespace K06
open PySem PySem.Spec PyProof.Rows L2 Lw


local macro_rules | `(tactic| walk_at "look") => `(tactic| first
  | assumption
  | with_reducible exact upd_same
  | with_reducible exact rg_st
  | with_reducible exact rg_g (by assumption)
  | (with_reducible refine upd_old (by assumption) ?_; walk_at "look")
  | (with_reducible refine rg_get (by assumption) ?_; walk_at "look")
  | (with_reducible refine Same.get (by assumption) ?_; walk_at "look"))
local macro_rules | `(tactic| walk_at "cond") => `(tactic| first
  | (show _ ≠ _; omega) | exact cdivN (by omega) (by omega) | exact cmul_mod (by decide) (by decide) | exact cmulR (by omega) (by omega) | exact cmulL (by omega) (by omega) | exact cpow (by omega) (by omega) (by omega) (by omega) | (show (0:Int) ≤ _; omega))
local macro_rules | `(tactic| walk_at "at") => `(tactic| first | assumption | with_unfolding_all rfl)
local macro_rules | `(tactic| walk_at "sz") => `(tactic| first | assumption | (refine small ?_; omega) | (refine small ?_; simp only [List.length_map, List.length_append, List.length_cons, List.length_nil]; omega))
local macro_rules | `(tactic| walk_at "len") => `(tactic| first | exact size_nil | exact Nat.le_of_lt (small (by simp only [List.length_cons, List.length_nil, List.length_map]; omega)))
local macro_rules | `(tactic| walk_at "newD") => `(tactic| (refine ⟨by walk_at "len", fun p np => ?_⟩; obtain ⟨e, o', hD', n', ne'⟩ := newTD_eq (topRg _ _) (by assumption) (by assumption) np (.lst _); rw [e]; clear e))
local macro_rules | `(tactic| walk_at "new") => `(tactic| (refine ⟨by walk_at "len", fun p np => ?_⟩; obtain ⟨e, o', n'⟩ := newT_eq (topRg _ _) (by assumption) np (.lst _); rw [e]; clear e))
local macro_rules | `(tactic| walk_at "st") => `(tactic| first
  | with_reducible refine r_seq ?_
  | with_reducible refine r_var rfl ?_
  | with_reducible refine r_c ?_
  | with_reducible refine r_asg ?_
  | (with_reducible refine r_name ?_; dsimp only [List.set_cons_zero, List.set_cons_succ])
  | with_reducible refine r_sub ?_
  | with_reducible refine r_op ?_
  | with_reducible refine r_i0 ?_
  | (with_reducible refine' r_i ?k1 ?_; (case k1 => walk_at "cond"))
  | with_reducible refine r_cons ?_
  | with_reducible refine r_nil ?_
  | with_reducible refine r_cb ?_
  | with_reducible refine r_call ?_
  | with_reducible refine r_ifs ?_
  | with_reducible refine r_test ?_
  | with_reducible refine r_tB ?_
  | with_reducible refine r_bl ?_
  | with_reducible refine r_ret ?_
  | with_reducible refine r_drop ?_
  | with_reducible refine r_next ?_
  | (with_reducible refine' r_ixL ?k1 ?k2 ?_; (case k1 => walk_at "look"); (case k2 => walk_at "at"))
  | (with_reducible refine' r_setL ?k1 ?k2 ?_; (case k1 => walk_at "look"); (case k2 => walk_at "at"))
  | (with_reducible refine' r_tup (SqT.of ?k1) ?k2 ?_; (case k1 => walk_at "look"); (case k2 => rfl))
  | with_reducible refine r_gcons ?_
  | with_reducible refine r_gnil ?_
  | with_reducible refine r_aug rfl ?_
  | with_reducible refine r_augS ?_
  | with_reducible refine r_ipI ?_
  | with_reducible refine r_un ?_
  | with_reducible refine r_u ?_
  | with_reducible refine r_eq rfl ?_
  | with_reducible refine r_ne rfl ?_
  | with_reducible refine r_chain ?_
  | with_reducible refine iteF ?_
  | with_reducible refine r_not ?_
  | with_reducible refine r_and ?_
  | with_reducible refine r_or ?_
  | with_reducible refine r_andV ?_
  | with_reducible refine r_orV ?_
  | with_reducible refine r_notV ?_
  | with_reducible refine r_lst ?_
  | with_reducible refine r_bm ?_
  | with_reducible refine r_bm0 ?_
  | (with_reducible refine' And.intro (r_ty ?k1) ?_; (case k1 => walk_at "look"))
  | (with_reducible refine' r_append ?k1 ?k2 ?_; (case k1 => walk_at "look"); (case k2 => walk_at "sz"))
  | (with_reducible refine' r_lenK ?k1 ?_; (case k1 => walk_at "look"))
  | (with_reducible refine' r_listOf ?k1 ?_; (case k1 => walk_at "look"))
  | (with_reducible refine' r_sortedI ?k1 ?_; (case k1 => walk_at "look"))
  | (with_reducible refine' r_sum ?k1 ?_; (case k1 => walk_at "look"))
  | with_reducible refine r_int ?_
  | (with_reducible refine' r_draw (by assumption) ?k1 ?k2 ?_; (case k1 => omega); (case k2 => omega); intro R' n' o' h' h'')
  | with_reducible refine iteT ?_
  | with_reducible refine r_revL ?_
  | with_reducible refine r_lc ?_
  | with_reducible refine r_yes ?_
  | with_reducible refine r_sl ?_
  | with_reducible refine iteNTr ?_
  | with_reducible refine iteNFa ?_
  | with_reducible refine r_fld ?_
  | with_reducible refine r_sFld ?_
  | with_reducible refine r_meth ?_
  | with_reducible refine r_methT ?_
  | with_reducible refine r_prop ?_
  | with_reducible refine r_dget ?_
  | with_reducible refine r_dput ?_
  | with_reducible refine r_noPart ?_
  | with_reducible refine r_part ?_
  | with_reducible refine r_lc2 ?_
  | with_reducible refine r_callN ?_
  | with_reducible refine r_callD ?_
  | with_reducible refine r_tupE ?_
  | with_reducible refine r_rng2 ?_
  | with_reducible refine r_i1 ?_
  | (with_reducible refine' r_slL ?k1 ?_; (case k1 => walk_at "look"))
  | with_reducible refine r_for ?_
  | with_reducible refine r_iList ?_
  | with_reducible refine r_rng1 ?_
  | with_reducible refine r_enum ?_
  | (with_reducible show Ends.nx _ _ _; dsimp only)
  | (with_reducible show Ends.rt _ _ _; dsimp only)
  | (with_reducible show Ends.ct _ _ _; dsimp only)
  | (with_reducible show Ends.bk _ _ _; dsimp only))
local macro_rules | `(tactic| walk_at "go") => `(tactic| repeat (walk_at "st"))
local macro_rules | `(tactic| walk_at "begin") => `(tactic| dsimp only [cxOf, wipe, L2.start, List.map, List.length_cons, List.length_nil, Nat.reduceAdd, Nat.reduceSub, List.replicate, List.cons_append, List.nil_append])


theorem q_brace (c : Nat) : (V.str ⟨#[c]⟩ = V.str "{") ↔ c = 123 := by
  rw [show ("{" : Str) = ⟨#[123]⟩ from by decide +kernel]
  simp
theorem q_close (c : Nat) : (V.str ⟨#[c]⟩ = V.str "}") ↔ c = 125 := by
  rw [show ("}" : Str) = ⟨#[125]⟩ from by decide +kernel]
  simp
def spDeep : Sp := fun args H Q _ => ∃ t : Str, args = [.str t] ∧ Q (.int (Rd.deep (Ak.L t))) H
def spDeepL : Sp := fun args H Q _ => ∃ t : Str, args = [.str t] ∧ Q (.int (Rd.deep (Ak.L t))) H
/-- a sign, or none as yet -/
def Sgn (ps : Str) (p : Nat) : Prop := (ps = "" ∧ p = 0) ∨ ps = ⟨#[p]⟩
def spAfter : Sp := fun args H Q _ => ∃ (ps : Str) (p d : Nat), args = [.str ps, .int ((d : Nat) : Int)] ∧ Sgn ps p ∧ ∀ z : Str, (∀ c, decide (c ∈ z.cps.toList) = Rd.okc p d c) → Q (.str z) H
theorem q_sgn {ps : Str} {p : Nat} (h : Sgn ps p) : (V.str ps = V.str "{" ↔ p = 123) ∧ (V.str ps = V.str "}" ↔ p = 125) := by
  rcases h with ⟨rfl, rfl⟩ | rfl
  · exact ⟨by constructor <;> intro z <;> revert z <;> decide +kernel, by constructor <;> intro z <;> revert z <;> decide +kernel⟩
  · exact ⟨q_brace p, q_close p⟩
section
variable {P : Program} {w : World} {K : PySem.W.Frag} {mg : Str → Option Value} {base : Heap} {C : Addr}
theorem ok_deep {f : Addr} {fd : FuncData} (B : Blt mg) (D : Dn K mg "braces_deep" s_braces_deep ["text"] f fd) : FnOk P w K mg base CX0 1 f fd ["text"] spDeep := by
  refine D.F.ok sc_braces_deep (fun vs H Q E h => ?_) (fun cdv A outer s H vs Q E hr h => ?_)
  · obtain ⟨t, rfl, _⟩ := h
    rfl
  · obtain ⟨t, rfl, q⟩ := h
    refine ⟨_, (pss_cons (ps_set (i := 1) sc_braces_deep.nd rfl (.inl rfl) pe_int)
      (pss_cons (ps_set (i := 2) sc_braces_deep.nd rfl (.inl rfl) pe_int)
      (pss_cons (ps_for PassesOwn.never rfl (pi_str (pv 0)) (pg_name (i := 3) sc_braces_deep.nd rfl (.inl rfl)) (pss_cons (ps_if (pt_cmpR op_eq (pv 3) pe_str (nomark _)) (pss_one (ps_aug (i := 1) sc_braces_deep.nd rfl (.inl rfl) pe_int ip_add)) (pss_one (ps_if (pt_cmpR op_eq (pv 3) pe_str (nomark _)) (pss_one (ps_aug (i := 1) sc_braces_deep.nd rfl (.inl rfl) pe_int ip_sub)) pss_nil)))
      (pss_one (ps_set (i := 2) sc_braces_deep.nd rfl (.inl rfl) (pe_callB (call_max2 rfl) (by rfl) B.m_max (by decide +kernel) (pa_cons (pv 2) (pa_cons (pv 1) pa_nil)))))))
      (pss_one (ps_ret (pv 2)))))), ?_⟩
    walk_at "begin"
    walk_at "go"
    refine r_iStr ?_
    walk_at "go"
    refine r_forStr (fun i σ H' => ∃ (y3 : Option V), σ = [some (.str t), some (.int (Rd.now ((Ak.L t).take i))), some (.int (Rd.most (Ak.L t) i)), y3] ∧ H' = H) ?_ ?_ ?_
    · exact ⟨_, rfl, rfl⟩
    · rintro i c σ H' hc ⟨y3, rfl, rfl⟩
      have hn := Rd.now_take (l := Ak.L t) hc
      have hm : Rd.most (Ak.L t) (i + 1) = if Rd.now ((Ak.L t).take (i + 1)) > Rd.most (Ak.L t) i then Rd.now ((Ak.L t).take (i + 1)) else Rd.most (Ak.L t) i := rfl
      have fin : ∀ d, d = Rd.now ((Ak.L t).take (i + 1)) → ∃ y3, [some (V.str t), some (V.int d), some (V.int (if d > Rd.most (Ak.L t) i then d else Rd.most (Ak.L t) i)), some (V.str ⟨#[c]⟩)] = [some (V.str t), some (V.int (Rd.now ((Ak.L t).take (i + 1)))), some (V.int (Rd.most (Ak.L t) (i + 1))), y3] ∧ H' = H' := fun d e => by
        subst e; rw [hm]; exact ⟨_, rfl, rfl⟩
      walk_at "go"
      refine r_ite (fun z => ?_) (fun z => ?_)
      · rw [if_pos ((q_brace c).mp z)] at hn
        walk_at "go"
        exact ⟨_, _, rfl, fin _ hn.symm⟩
      · rw [if_neg fun e => z ((q_brace c).mpr e)] at hn
        walk_at "go"
        refine r_ite (fun z => ?_) (fun z => ?_)
        · rw [if_pos ((q_close c).mp z)] at hn
          walk_at "go"
          exact ⟨_, _, rfl, fin _ (by rw [hn]; rfl)⟩
        · rw [if_neg fun e => z ((q_close c).mpr e)] at hn
          walk_at "go"
          exact ⟨_, _, rfl, fin _ (by rw [hn, Int.add_zero])⟩
    · rintro σ H' ⟨y3, rfl, rfl⟩
      walk_at "go"
      exact q
theorem ok_ldeep {f : Addr} {fd : FuncData} (B : Blt mg) (D : Dn K mg "_law_deep" s__law_deep ["text"] f fd) : FnOk P w K mg base CX0 1 f fd ["text"] spDeepL := by
  refine D.F.ok sc__law_deep (fun vs H Q E h => ?_) (fun cdv A outer s H vs Q E hr h => ?_)
  · obtain ⟨t, rfl, _⟩ := h
    rfl
  · obtain ⟨t, rfl, q⟩ := h
    refine ⟨_, (pss_cons (ps_set (i := 1) sc__law_deep.nd rfl (.inl rfl) pe_int)
      (pss_cons (ps_set (i := 2) sc__law_deep.nd rfl (.inl rfl) pe_int)
      (pss_cons (ps_for PassesOwn.never rfl (pi_str (pv 0)) (pg_name (i := 3) sc__law_deep.nd rfl (.inl rfl)) (pss_cons (ps_if (pt_cmpR op_eq (pv 3) pe_str (nomark _)) (pss_one (ps_set (i := 1) sc__law_deep.nd rfl (.inl rfl) (pe_op op_add (pv 1) pe_int))) (pss_one (ps_if (pt_cmpR op_eq (pv 3) pe_str (nomark _)) (pss_one (ps_set (i := 1) sc__law_deep.nd rfl (.inl rfl) (pe_op op_sub (pv 1) pe_int))) pss_nil)))
      (pss_one (ps_if (pt_cmpR op_gt (pv 1) (pv 2) (nomark _)) (pss_one (ps_set (i := 2) sc__law_deep.nd rfl (.inl rfl) (pv 1))) pss_nil))))
      (pss_one (ps_ret (pv 2)))))), ?_⟩
    walk_at "begin"
    walk_at "go"
    refine r_iStr ?_
    walk_at "go"
    refine r_forStr (fun i σ H' => ∃ (y3 : Option V), σ = [some (.str t), some (.int (Rd.now ((Ak.L t).take i))), some (.int (Rd.most (Ak.L t) i)), y3] ∧ H' = H) ?_ ?_ ?_
    · exact ⟨_, rfl, rfl⟩
    · rintro i c σ H' hc ⟨y3, rfl, rfl⟩
      have hn := Rd.now_take (l := Ak.L t) hc
      have hm : Rd.most (Ak.L t) (i + 1) = if Rd.now ((Ak.L t).take (i + 1)) > Rd.most (Ak.L t) i then Rd.now ((Ak.L t).take (i + 1)) else Rd.most (Ak.L t) i := rfl
      have fin1 : ∀ d, d = Rd.now ((Ak.L t).take (i + 1)) → d > Rd.most (Ak.L t) i → ∃ y3, [some (V.str t), some (V.int d), some (V.int d), some (V.str ⟨#[c]⟩)] = [some (V.str t), some (V.int (Rd.now ((Ak.L t).take (i + 1)))), some (V.int (Rd.most (Ak.L t) (i + 1))), y3] ∧ H' = H' := fun d e hgt => by
        subst e; rw [hm, if_pos hgt]; exact ⟨_, rfl, rfl⟩
      have fin2 : ∀ d, d = Rd.now ((Ak.L t).take (i + 1)) → ¬ d > Rd.most (Ak.L t) i → ∃ y3, [some (V.str t), some (V.int d), some (V.int (Rd.most (Ak.L t) i)), some (V.str ⟨#[c]⟩)] = [some (V.str t), some (V.int (Rd.now ((Ak.L t).take (i + 1)))), some (V.int (Rd.most (Ak.L t) (i + 1))), y3] ∧ H' = H' := fun d e hgt => by
        subst e; rw [hm, if_neg hgt]; exact ⟨_, rfl, rfl⟩
      walk_at "go"
      refine r_ite (fun z => ?_) (fun z => ?_)
      · rw [if_pos ((q_brace c).mp z)] at hn
        walk_at "go"
        refine r_ite (fun z => ?_) (fun z => ?_)
        · walk_at "go"
          exact fin1 _ hn.symm z
        · walk_at "go"
          exact fin2 _ hn.symm z
      · rw [if_neg fun e => z ((q_brace c).mpr e)] at hn
        walk_at "go"
        refine r_ite (fun z => ?_) (fun z => ?_)
        · rw [if_pos ((q_close c).mp z)] at hn
          walk_at "go"
          refine r_ite (fun z => ?_) (fun z => ?_)
          · walk_at "go"
            exact fin1 _ (by rw [hn]; rfl) z
          · walk_at "go"
            exact fin2 _ (by rw [hn]; rfl) z
        · rw [if_neg fun e => z ((q_close c).mpr e)] at hn
          walk_at "go"
          refine r_ite (fun z => ?_) (fun z => ?_)
          · walk_at "go"
            exact fin1 _ (by rw [hn, Int.add_zero]) z
          · walk_at "go"
            exact fin2 _ (by rw [hn, Int.add_zero]) z
    · rintro σ H' ⟨y3, rfl, rfl⟩
      walk_at "go"
      exact q
theorem ok_after {f : Addr} {fd : FuncData} (B : Blt mg) (D : Dn K mg "characters_after" s_characters_after ["previous", "depth"] f fd) : FnOk P w K mg base CX0 1 f fd ["previous", "depth"] spAfter := by
  refine D.F.ok sc_characters_after (fun vs H Q E h => ?_) (fun cdv A outer s H vs Q E hr h => ?_)
  · obtain ⟨ps, p, d, rfl, _⟩ := h
    rfl
  · obtain ⟨ps, p, d, rfl, hp, q⟩ := h
    refine ⟨_, (pss_cons (ps_if (pt_cmpR op_eq (pv 0) pe_str (nomark _)) (pss_one (ps_ret pe_str)) pss_nil)
      (pss_cons (ps_if (PW.pt (pw_and (pt_cmpR op_eq (pv 0) pe_str (nomark _)) (pw_and1 (pt_cmpR op_gt (pv 1) pe_int (nomark _))))) (pss_one (ps_ret pe_str)) pss_nil)
      (pss_cons (ps_if (pt_cmpR op_eq (pv 0) pe_str (nomark _)) (pss_one (ps_ret pe_str)) pss_nil)
      (pss_one (ps_ret pe_str))))), ?_⟩
    obtain ⟨h1, h2⟩ := q_sgn hp
    walk_at "begin"
    walk_at "go"
    refine r_ite (fun z => ?_) (fun z => ?_)
    · have e := h1.mp z
      walk_at "go"
      refine q _ fun c => ?_
      rw [show ("{}" : Str) = ⟨#[123, 125]⟩ from by decide +kernel]
      unfold Rd.okc
      rw [if_pos e]
      by_cases c1 : c = 123 <;> by_cases c2 : c = 125 <;> simp [c1, c2]
    have n1 : p ≠ 123 := fun e => z (h1.mpr e)
    walk_at "go"
    refine r_ite (fun z2 => ?_) (fun z2 => ?_)
    · have e2 := h2.mp z2
      walk_at "go"
      refine r_ite (fun z3 => ?_) (fun z3 => ?_)
      · walk_at "go"
        refine q _ fun c => ?_
        rw [show (",}" : Str) = ⟨#[44, 125]⟩ from by decide +kernel]
        unfold Rd.okc
        rw [if_neg n1, if_pos e2]
        have hd : 0 < d := by omega
        by_cases c1 : c = 44 <;> by_cases c2 : c = 125 <;> simp [c1, c2, hd]
      · walk_at "go"
        refine r_ite (fun _ => ?_) (fun z4 => absurd z2 z4)
        walk_at "go"
        refine q _ fun c => ?_
        rw [show ("" : Str) = ⟨#[]⟩ from by decide +kernel]
        unfold Rd.okc
        rw [if_neg n1, if_pos e2]
        have hd : ¬ 0 < d := by omega
        simp [hd]
    · have n2 : p ≠ 125 := fun e => z2 (h2.mpr e)
      walk_at "go"
      refine r_ite (fun z4 => absurd z4 z2) (fun _ => ?_)
      walk_at "go"
      refine q _ fun c => ?_
      rw [show ("{" : Str) = ⟨#[123]⟩ from by decide +kernel]
      unfold Rd.okc
      rw [if_neg n1, if_neg n2]
      by_cases c1 : c = 123 <;> simp [c1]
end

end K06
/-! a list of lists of nests that grow, the last one on top -/
namespace Lw
open PySem PySem.Spec PyProof.Rows L2
def US (U : Addr → Prop) (u : Addr) (ds : List Addr) : Addr → Prop := fun c => U c ∧ c ≠ u ∧ c ∉ ds
structure StkAt (K : PySem.W.Frag) (C : Addr) (U : Addr → Prop) (H : Hp) (u : Addr) (ds : List Addr) (st : List (List Nat)) : Prop where
  hu : H u = some (.lst (ds.reverse.map V.ref))
  len : ds.length = st.length
  nd : ds.Nodup
  nu : u ∉ ds
  at_ : ∀ (j : Nat) (d : Addr) (a : List Nat), ds[j]? = some d → st[j]? = some a → ∃ as : List Addr, H d = some (.lst (as.map V.ref)) ∧ NL K C (US U u ds) H as a
section
variable {K : PySem.W.Frag} {C : Addr} {U : Addr → Prop} {H H' : Hp} {u : Addr} {ds : List Addr} {st : List (List Nat)}
theorem StkAt.mono (h : StkAt K C U H u ds st) (s : Same H H') : StkAt K C U H' u ds st :=
  ⟨s _ _ h.hu, h.len, h.nd, h.nu, fun j d a e1 e2 => by obtain ⟨as, x, y⟩ := h.at_ j d a e1 e2; exact ⟨as, s _ _ x, y.mono s⟩⟩
theorem StkAt.there (h : StkAt K C U H u ds st) {d : Addr} (hd : d ∈ ds) : ∃ o, H d = some o := by
  obtain ⟨j, hj⟩ := List.mem_iff_getElem?.mp hd
  have hj2 := (List.getElem?_eq_some_iff.mp hj).1
  have hj3 : j < st.length := by rw [← h.len]; exact hj2
  obtain ⟨as, x, _⟩ := h.at_ j d st[j] hj (List.getElem?_eq_getElem hj3)
  exact ⟨_, x⟩
theorem us_push {c D : Addr} (h : US U u ds c ∧ c ≠ D) : US U u (D :: ds) c := ⟨h.1.1, h.1.2.1, fun z => (List.mem_cons.mp z).elim h.2 h.1.2.2⟩
theorem us_pop {c D : Addr} (h : US U u (D :: ds) c) : US U u ds c := ⟨h.1, h.2.1, fun z => h.2.2 (List.mem_cons_of_mem _ z)⟩
theorem StkAt.start {u D : Addr} (hD : H D = none) (hu : upd H D (.lst []) u = none) : StkAt K C U (upd (upd H D (.lst [])) u (.lst [.ref D])) u [D] [[]] := by
  obtain ⟨n1, n2⟩ := upd_none hu
  refine ⟨upd_same, rfl, by simp, fun z => n1 (List.mem_singleton.mp z), fun j d a e1 e2 => ?_⟩
  cases j with
  | zero =>
    cases e1; cases e2
    exact ⟨[], by rw [upd_ne n1.symm]; exact upd_same, NL.nil⟩
  | succ j => simp at e1
theorem StkAt.push (h : StkAt K C U H u ds st) {D : Addr} (hD : H D = none) : (upd H D (.lst [])) u = some (.lst (ds.reverse.map V.ref)) ∧ StkAt K C U (upd (upd H D (.lst [])) u (.lst (ds.reverse.map V.ref ++ [.ref D]))) u (D :: ds) ([] :: st) := by
  have nuD : u ≠ D := fun z => by rw [z] at h; rw [h.hu] at hD; cases hD
  have nDs : D ∉ ds := fun z => by obtain ⟨o, e⟩ := h.there z; rw [e] at hD; cases hD
  have h1 : (upd H D (.lst [])) u = some (.lst (ds.reverse.map V.ref)) := upd_old hD h.hu
  refine ⟨h1, by rw [upd_same, List.reverse_cons, List.map_append]; rfl, by rw [List.length_cons, List.length_cons, h.len], List.nodup_cons.mpr ⟨nDs, h.nd⟩, fun z => (List.mem_cons.mp z).elim nuD h.nu, fun j d a e1 e2 => ?_⟩
  cases j with
  | zero =>
    cases e1; cases e2
    exact ⟨[], by rw [upd_ne nuD.symm]; exact upd_same, NL.nil⟩
  | succ j =>
    obtain ⟨as, x, y⟩ := h.at_ j d a e1 e2
    have hd : d ∈ ds := List.mem_of_getElem? e1
    refine ⟨as, ?_, ?_⟩
    · rw [upd_ne (fun z => h.nu (by rw [← z]; exact hd))]
      exact upd_old hD x
    · refine NL.keep (KU.lst h1 fun z => z.2.1 rfl) ?_
      exact ((y.free hD).weak fun c => us_push).mono (same_new hD)
theorem StkAt.pop {d0 : Addr} {a0 : List Nat} (h : StkAt K C U H u (d0 :: ds) (a0 :: st)) :
    ∃ as : List Addr, (upd H u (.lst (ds.reverse.map V.ref))) d0 = some (.lst (as.map V.ref)) ∧ NL K C (US U u ds) (upd H u (.lst (ds.reverse.map V.ref))) as a0 ∧ StkAt K C U (upd H u (.lst (ds.reverse.map V.ref))) u ds st := by
  have hk : KU (US U u (d0 :: ds)) H (upd H u (.lst (ds.reverse.map V.ref))) := KU.lst h.hu fun z => z.2.1 rfl
  obtain ⟨as, x, y⟩ := h.at_ 0 d0 a0 rfl rfl
  refine ⟨as, ?_, (y.keep hk).weak fun c => us_pop, upd_same, by have := h.len; rw [List.length_cons, List.length_cons] at this; omega, (List.nodup_cons.mp h.nd).2, fun z => h.nu (List.mem_cons_of_mem _ z), fun j d a e1 e2 => ?_⟩
  · rw [upd_ne fun z => h.nu (by rw [← z]; exact List.mem_cons_self)]; exact x
  · obtain ⟨as, x, y⟩ := h.at_ (j + 1) d a e1 e2
    refine ⟨as, ?_, (y.keep hk).weak fun c => us_pop⟩
    rw [upd_ne fun z => h.nu (by rw [← z]; exact List.mem_cons_of_mem _ (List.mem_of_getElem? e1))]; exact x
theorem StkAt.put {d1 x : Addr} {a1 : List Nat} {n : Nat} (h : StkAt K C U H u (d1 :: ds) (a1 :: st)) (hx : NAt K C (US U u (d1 :: ds)) H x n) :
    ∃ as : List Addr, H d1 = some (.lst (as.map V.ref)) ∧ as.length = a1.length ∧ StkAt K C U (upd H d1 (.lst ((as ++ [x]).map V.ref))) u (d1 :: ds) ((a1 ++ [n]) :: st) := by
  obtain ⟨as, e, y⟩ := h.at_ 0 d1 a1 rfl rfl
  have hk : KU (US U u (d1 :: ds)) H (upd H d1 (.lst ((as ++ [x]).map V.ref))) := KU.lst e fun z => z.2.2 List.mem_cons_self
  refine ⟨as, e, y.len, ?_, by have := h.len; rw [List.length_cons, List.length_cons] at this ⊢; exact this, h.nd, h.nu, fun j d a e1 e2 => ?_⟩
  · rw [upd_ne fun z => h.nu (by rw [z]; exact List.mem_cons_self)]; exact h.hu
  · cases j with
    | zero =>
      cases e1; cases e2
      exact ⟨as ++ [x], upd_same, (y.push hx).keep hk⟩
    | succ j =>
      obtain ⟨bs, e3, y3⟩ := h.at_ (j + 1) d a e1 e2
      refine ⟨bs, ?_, y3.keep hk⟩
      rw [upd_ne fun z => (List.nodup_cons.mp h.nd).1 (by rw [← z]; exact List.mem_of_getElem? e1)]; exact e3
end
theorem last_ref {d : Addr} {ds : List Addr} : atI ((d :: ds).reverse.map V.ref) (-1) = some (.ref d) := by
  rw [List.reverse_cons, List.map_append]
  exact last_at
theorem pop_ref {d : Addr} {ds : List Addr} : ((d :: ds).reverse.map V.ref)[((d :: ds).reverse.map V.ref).length - 1]? = some (.ref d) ∧ ((d :: ds).reverse.map V.ref).dropLast = ds.reverse.map V.ref := by
  rw [List.reverse_cons, List.map_append]
  constructor
  · simp
  · show (ds.reverse.map V.ref ++ [V.ref d]).dropLast = _
    rw [List.dropLast_concat]
end Lw
namespace Lw
open PySem PySem.Spec PyProof.Rows L2
theorem big {n : Nat} (h : n ≤ 10000000) : n ≤ sizeLine := Nat.le_trans h (by decide)
theorem sum_cap {l : List Nat} {c : Nat} (h : ∀ x ∈ l, x ≤ c) : l.sum ≤ l.length * c := by
  induction l with
  | nil => simp
  | cons a r ih =>
    have h1 := h a List.mem_cons_self
    have h2 := ih fun x hx => h x (List.mem_cons_of_mem _ hx)
    rw [List.sum_cons, List.length_cons, Nat.add_mul]
    omega
end Lw
namespace Ak
open PySem
theorem br0_len (l : List Str) : (br0 l).length ≤ 2 + (l.map (·.length)).sum + l.length := by
  unfold br0
  rw [Str.length_append, Str.length_append]
  have h := join_len l
  have e1 : (("{" : Str)).length = 1 := by decide +kernel
  have e2 : (("}" : Str)).length = 1 := by decide +kernel
  omega
theorem wtx_len (n : Nat) : (wtx n).length + 1 ≤ 3 * br n := by
  induction n using Nat.strongRecOn with
  | _ n ih =>
    have h := br0_len ((mem n).map wtx)
    rw [← wtx_eq] at h
    have hs : ∀ l : List Nat, (∀ m ∈ l, m < n) → ((l.map wtx).map (·.length)).sum + (l.map wtx).length ≤ 3 * (l.map br).sum := by
      intro l
      induction l with
      | nil => intro _; decide
      | cons x r ihr =>
        intro hl
        have h1 := ih x (hl x List.mem_cons_self)
        have h2 := ihr fun m hm => hl m (List.mem_cons_of_mem _ hm)
        simp only [List.map_cons, List.sum_cons, List.length_cons] at h2 ⊢
        omega
    have h3 := hs (mem n) fun m hm => mem_lt hm
    rw [br_eq n]
    omega
theorem wtxs_len : ∀ (l : List Nat), ((l.map wtx).map (·.length)).sum + (l.map wtx).length ≤ 3 * (l.map br).sum
  | [] => by decide
  | x :: r => by
    have h1 := wtx_len x
    have h2 := wtxs_len r
    simp only [List.map_cons, List.sum_cons, List.length_cons] at h2 ⊢
    omega
theorem wtx_count (n : Nat) : (L (wtx n)).count 123 = br n := by
  induction n using Nat.strongRecOn with
  | _ n ih =>
    rw [wtx_eq n, L_br0, List.count_cons_self, List.count_append, J_count 123 (by decide), br_eq n]
    have e2 : ((mem n).map wtx).map (fun x => (L x).count 123) = (mem n).map br := by
      rw [List.map_map]
      exact List.map_congr_left fun m hm => ih m (mem_lt hm)
    rw [e2]
    have : List.count 123 [125] = 0 := by decide
    omega
theorem count_wtx (n : Nat) : Txt.count (wtx n) "{" = ((br n : Nat) : Int) := by
  have e : ("{" : Str) = ⟨#[123]⟩ := by decide +kernel
  rw [e, count_one]
  exact congrArg _ (wtx_count n)
end Ak
namespace Rd
open PySem Ak
def wt (c : Nat) : Int := if c = 123 then 1 else if c = 125 then -1 else 0
theorem now_cons (c : Nat) (r : List Nat) : now (c :: r) = wt c + now r := rfl
/-- the greatest of the sums of beginnings -/
def M : List Nat → Int
  | [] => 0
  | c :: r => max 0 (wt c + M r)
theorem M_0 : ∀ l, 0 ≤ M l
  | [] => Int.le_refl _
  | _ :: _ => Int.le_max_left _ _
theorem M_app : ∀ a b : List Nat, M (a ++ b) = max (M a) (now a + M b)
  | [], b => by
    show M b = max 0 (0 + M b)
    have := M_0 b
    omega
  | c :: a, b => by
    show max 0 (wt c + M (a ++ b)) = max (max 0 (wt c + M a)) (now (c :: a) + M b)
    rw [M_app a b, now_cons]
    omega
theorem now_M : ∀ l, now l ≤ M l
  | [] => Int.le_refl _
  | c :: r => by
    have := now_M r
    show wt c + now r ≤ max 0 (wt c + M r)
    omega
theorem most_M (l : List Nat) : ∀ i, i ≤ l.length → most l i = M (l.take i)
  | 0, _ => rfl
  | i + 1, h => by
    obtain ⟨c, hc⟩ : ∃ c, l[i]? = some c := ⟨_, List.getElem?_eq_getElem (by omega)⟩
    have e : l.take (i + 1) = l.take i ++ [c] := by rw [List.take_add_one, hc]; rfl
    have ih := most_M l i (by omega)
    have hn := now_M (l.take i)
    have e2 : now (l.take i ++ [c]) = now (l.take i) + wt c := by rw [now_app, now_cons]; show _ + (wt c + 0) = _; omega
    show (if now (l.take (i + 1)) > most l i then now (l.take (i + 1)) else most l i) = _
    rw [ih, e, M_app, e2, show M [c] = max 0 (wt c + 0) from rfl]
    split <;> omega
theorem deep_M (l : List Nat) : deep l = M l := by
  unfold deep
  rw [most_M l _ (Nat.le_refl _), List.take_length]
theorem M_J : ∀ l : List Str, (∀ x ∈ l, now (L x) = 0) → now (J l) = 0 ∧ (∀ x ∈ l, M (L x) ≤ M (J l)) ∧ (∀ k : Int, 0 ≤ k → (∀ x ∈ l, M (L x) ≤ k) → M (J l) ≤ k)
  | [], _ => ⟨rfl, fun x hx => absurd hx List.not_mem_nil, fun k hk _ => hk⟩
  | x :: r, h => by
    have hx := h x List.mem_cons_self
    obtain ⟨h1, h2, h3⟩ := M_J r fun y hy => h y (List.mem_cons_of_mem _ hy)
    rw [J_tail]
    by_cases e : r = []
    · subst e
      rw [if_pos rfl, List.append_nil]
      exact ⟨hx, fun y hy => by rw [List.mem_singleton.mp hy]; exact Int.le_refl _, fun k _ hk => hk x List.mem_cons_self⟩
    · rw [if_neg e]
      have e4 : M (44 :: J r) = M (J r) := by
        show max 0 (wt 44 + M (J r)) = _
        have := M_0 (J r)
        have : wt 44 = 0 := rfl
        omega
      have e5 : now (44 :: J r) = 0 := by rw [now_cons, h1]; rfl
      rw [M_app, e4, now_app, hx, e5]
      refine ⟨rfl, fun y hy => ?_, fun k hk0 hk => ?_⟩
      · rcases List.mem_cons.mp hy with z | z
        · rw [z]; omega
        · have := h2 y z; omega
      · have a := hk x List.mem_cons_self
        have b := h3 k hk0 fun y hy => hk y (List.mem_cons_of_mem _ hy)
        omega
theorem M_br0 {l : List Str} (h : ∀ x ∈ l, now (L x) = 0) : now (L (br0 l)) = 0 ∧ M (L (br0 l)) = 1 + M (J l) := by
  obtain ⟨h1, _, _⟩ := M_J l h
  have h0 := M_0 (J l)
  rw [L_br0]
  constructor
  · rw [now_cons, now_app, h1]; rfl
  · show max 0 (wt 123 + M (J l ++ [125])) = _
    rw [M_app, h1, show M [125] = 0 from rfl, show wt 123 = 1 from rfl]
    omega
theorem wtx_deep (n : Nat) : now (L (wtx n)) = 0 ∧ M (L (wtx n)) = ((dep n + 1 : Nat) : Int) := by
  induction n using Nat.strongRecOn with
  | _ n ih =>
    have hz : ∀ x ∈ (mem n).map wtx, now (L x) = 0 := fun x hx => by
      obtain ⟨m, hm, rfl⟩ := List.mem_map.mp hx
      exact (ih m (mem_lt hm)).1
    rw [wtx_eq]
    obtain ⟨h1, h2⟩ := M_br0 hz
    obtain ⟨_, h3, h4⟩ := M_J _ hz
    refine ⟨h1, ?_⟩
    rw [h2]
    have a : M (J ((mem n).map wtx)) ≤ ((dep n : Nat) : Int) := h4 _ (by omega) fun x hx => by
      obtain ⟨m, hm, rfl⟩ := List.mem_map.mp hx
      rw [(ih m (mem_lt hm)).2]
      have := dep_mem hm
      omega
    have b : dep n ≤ (M (J ((mem n).map wtx))).toNat := dep_le fun m hm => by
      have := h3 (wtx m) (List.mem_map.mpr ⟨m, hm, rfl⟩)
      rw [(ih m (mem_lt hm)).2] at this
      omega
    have := M_0 (J ((mem n).map wtx))
    omega
theorem deep_wtx (n : Nat) : deep (L (wtx n)) = ((dep n + 1 : Nat) : Int) := by rw [deep_M]; exact (wtx_deep n).2
end Rd
namespace Ak
open PySem L2
theorem J_append : ∀ {a b : List Str}, a ≠ [] → b ≠ [] → J (a ++ b) = J a ++ 44 :: J b
  | [], _, h, _ => absurd rfl h
  | [x], b, _, hb => by
    rw [List.singleton_append, J_tail, if_neg hb]
    rfl
  | x :: y :: r, b, _, hb => by
    rw [List.cons_append, J_tail, if_neg (by simp), J_append (a := y :: r) (by simp) hb, J_tail x (y :: r), if_neg (by simp), List.append_assoc]
    rfl
theorem J_rep {l : List Str} {i : Str} (hl : l ≠ []) (hi : L i = J l) : ∀ c : Nat, J (List.replicate (c + 1) i) = J (List.replicate (c + 1) l).flatten
  | 0 => by
    show L i = J (l ++ [])
    rw [List.append_nil]; exact hi
  | c + 1 => by
    rw [List.replicate_succ, List.replicate_succ (a := l), List.flatten_cons, J_tail, if_neg (by simp [List.replicate_succ]), J_rep hl hi c]
    have hne : (List.replicate (c + 1) l).flatten ≠ [] := by
      rw [List.replicate_succ, List.flatten_cons]
      intro z
      exact hl (List.append_eq_nil_iff.mp z).1
    rw [J_append hl hne, hi]
theorem br0_rep {l : List Str} {i : Str} (hl : l ≠ []) (hi : L i = J l) (c : Nat) : br0 (List.replicate (c + 1) i) = br0 (List.replicate (c + 1) l).flatten := L_inj (by rw [L_br0, L_br0, J_rep hl hi])
theorem map_flat {α β : Type} (f : α → β) (l : List α) : ∀ c : Nat, (List.replicate c l).flatten.map f = (List.replicate c (l.map f)).flatten
  | 0 => rfl
  | c + 1 => by rw [List.replicate_succ, List.replicate_succ, List.flatten_cons, List.flatten_cons, List.map_append, map_flat f l c]
theorem mem_flat {α : Type} {l : List α} {x : α} {c : Nat} : x ∈ (List.replicate (c + 1) l).flatten ↔ x ∈ l := by
  rw [List.mem_flatten]
  constructor
  · rintro ⟨k, hk, hx⟩; rw [List.eq_of_mem_replicate hk] at hx; exact hx
  · intro hx; exact ⟨l, by simp [List.replicate_succ], hx⟩
theorem cut_in (t : Str) : L (cutS t (some 1) (some (-1))) = ((L t).drop (min 1 t.length)).take (t.length - 1 - min 1 t.length) := by
  unfold cutS
  have h1 : HT.sIx t.length 0 (some 1) = min 1 t.length := HT.sIx_nat _ _ 1
  have h2 : HT.sIx t.length t.length (some (-1)) = t.length - 1 := by
    unfold HT.sIx
    simp
    try omega
  rw [h1, h2]
  show (List.take _ _).toArray.toList = _
  rw [List.toList_toArray]
  rfl
theorem cut_br0 (l : List Str) : L (cutS (br0 l) (some 1) (some (-1))) = J l := by
  rw [cut_in]
  have hl : (br0 l).length = (J l).length + 2 := by
    have := congrArg List.length (L_br0 l)
    rw [List.length_cons, List.length_append, List.length_singleton] at this
    rw [show (L (br0 l)).length = (br0 l).length from Array.length_toList] at this
    omega
  rw [hl, Nat.min_eq_left (by omega), L_br0, show List.drop 1 (123 :: (J l ++ [125])) = J l ++ [125] from rfl]
  rw [show (J l).length + 2 - 1 - 1 = (J l).length from by omega, List.take_left']
  rfl
theorem J_ne {l : List Str} (h : J l ≠ []) : l ≠ [] := fun z => by rw [z] at h; exact h rfl
/-- the members again and again -/
theorem tells_rep {t : Str} {n : Nat} (h : Tells t n) (hne : L (cutS t (some 1) (some (-1))) ≠ []) (c : Nat) : Tells (br0 (List.replicate (c + 1) (cutS t (some 1) (some (-1))))) n := by
  cases h with
  | mk l hl =>
    have hc := cut_br0 (l.map (·.1))
    rw [hc] at hne
    rw [br0_rep (J_ne hne) hc c]
    have h2 := Tells.mk (List.replicate (c + 1) l).flatten fun p hp => hl p (mem_flat.mp hp)
    rw [map_flat, map_flat] at h2
    have e : num (List.replicate (c + 1) (l.map (·.2))).flatten = num (l.map (·.2)) := num_eq.mpr fun i => mem_flat
    rw [e] at h2
    exact h2
theorem cut_len (t : Str) : (cutS t (some 1) (some (-1))).length ≤ t.length := by
  have := congrArg List.length (cut_in t)
  rw [show (L (cutS t (some 1) (some (-1)))).length = (cutS t (some 1) (some (-1))).length from Array.length_toList, List.length_take, List.length_drop] at this
  rw [show (L t).length = t.length from Array.length_toList] at this
  omega
theorem tells_of {l : List (Str × Nat)} {n : Nat} (h : ∀ p ∈ l, Tells p.1 p.2) (hn : ∀ v, v ∈ l.map (·.2) ↔ v ∈ mem n) : Tells (br0 (l.map (·.1))) n := by
  have h2 := Tells.mk l h
  have e : num (l.map (·.2)) = n := ext fun i => by rw [mem_num]; exact hn i
  rw [e] at h2
  exact h2
theorem map_ins {α β : Type} (f : α → β) (l : List α) (c : Nat) (y : α) : (l.map f).take c ++ [f y] ++ (l.map f).drop c = (l.take c ++ [y] ++ l.drop c).map f := by
  rw [List.map_append, List.map_append, List.map_take, List.map_drop]; rfl
theorem perm_ins {α : Type} (l : List α) (c : Nat) (y : α) : (l.take c ++ [y] ++ l.drop c).Perm (y :: l) := by
  have h1 : (l.take c ++ [y] ++ l.drop c).Perm ([y] ++ l.take c ++ l.drop c) := List.Perm.append_right _ List.perm_append_comm
  refine h1.trans ?_
  rw [List.append_assoc, List.take_append_drop]
  exact List.Perm.refl _
theorem sum_len (l : List (Str × Nat)) : ((l.map (·.1)).map (·.length)).sum + l.length = (l.map fun p => p.1.length + 1).sum := by
  induction l with
  | nil => rfl
  | cons p r ih =>
    simp only [List.map_cons, List.sum_cons, List.length_cons] at ih ⊢
    omega
theorem sum_erase : ∀ (l : List Nat) (f : Nat → Nat) (i : Nat) (a : Nat), l[i]? = some a → (l.map f).sum = ((l.eraseIdx i).map f).sum + f a
  | [], _, _, _, h => by simp at h
  | x :: r, f, 0, a, h => by
    cases h
    simp only [List.map_cons, List.sum_cons, List.eraseIdx_cons_zero]
    omega
  | x :: r, f, i + 1, a, h => by
    have := sum_erase r f i a h
    simp only [List.map_cons, List.sum_cons, List.eraseIdx_cons_succ]
    omega
theorem mem_eraseN {l : List Nat} {i a : Nat} (nd : l.Nodup) (h : l[i]? = some a) (x : Nat) : x ∈ l ↔ x ∈ l.eraseIdx i ∨ x = a := by
  constructor
  · intro hx
    by_cases e : x = a
    · exact .inr e
    · obtain ⟨j, hj⟩ := List.mem_iff_getElem?.mp hx
      refine .inl (List.mem_iff_getElem?.mpr ?_)
      by_cases hji : j < i
      · exact ⟨j, by rw [List.getElem?_eraseIdx_of_lt hji]; exact hj⟩
      · have hne : j ≠ i := fun z => by rw [z, h] at hj; exact e (Option.some.inj hj).symm
        refine ⟨j - 1, ?_⟩
        rw [List.getElem?_eraseIdx_of_ge (by omega), show j - 1 + 1 = j from by omega]
        exact hj
  · rintro (hx | rfl)
    · exact (List.eraseIdx_sublist l i).subset hx
    · exact List.mem_of_getElem? h
end Ak
/-! plain law: any text read sign by sign: where it goes wrong, or which nest it is -/
namespace Ak
theorem sum_sub (f : Nat → Nat) : ∀ {l a : List Nat}, l.Nodup → (∀ x ∈ l, x ∈ a) → (l.map f).sum ≤ (a.map f).sum
  | [], _, _, _ => Nat.zero_le _
  | x :: l, a, nd, h => by
    obtain ⟨h1, h2⟩ := List.nodup_cons.mp nd
    have hx := h x List.mem_cons_self
    have e := (List.perm_cons_erase hx).map f
    rw [e.sum_nat, List.map_cons, List.map_cons, List.sum_cons, List.sum_cons]
    have := sum_sub f (a := a.erase x) h2 fun y hy => (List.mem_erase_of_ne fun z => h1 (by rw [← z]; exact hy)).mpr (h y (List.mem_cons_of_mem _ hy))
    omega
theorem mem_nd (n : Nat) : (mem n).Nodup := (mem_asc n).imp fun {a b} q => Nat.ne_of_lt q
theorem br_num (a : List Nat) : br (num a) ≤ 1 + (a.map br).sum := by
  rw [br_eq]
  have := sum_sub br (mem_nd (num a)) fun x hx => mem_num.mp hx
  omega
end Ak
namespace Rd
open PySem Ak
def outA : List Nat → List (List Nat) → Nat → Nat → Nat ⊕ Nat
  | [], st, _, i => match st with
    | [[n]] => .inr n
    | _ => .inl i
  | c :: r, st, p, i => match stepq st p c with
    | none => .inl i
    | some st' => outA r st' c (i + 1)
/-- a text: the index at which it goes wrong, or its nest -/
def out (l : List Nat) : Nat ⊕ Nat := outA l [[]] 0 0
def Fit (st : List (List Nat)) (p : Nat) : Prop := (p = 0 ∧ st = [[]]) ∨ (2 ≤ st.length ∧ st.getLast? = some [] ∧ (p = 123 ∨ p = 125 ∨ p = 44)) ∨ (p = 125 ∧ ∃ n, st = [[n]])
theorem fit_step {st : List (List Nat)} {p c : Nat} (h : Fit st p) (ho : okc p (st.length - 1) c = true) : ∃ st', stepq st p c = some st' ∧ Fit st' c ∧
    ((c = 123 ∧ st' = [] :: st) ∨ (c = 125 ∧ ∃ a b s, st = a :: b :: s ∧ st' = (b ++ [num a]) :: s) ∨ (c = 44 ∧ st' = st)) := by
  have hs : st ≠ [] := by
    rcases h with ⟨_, rfl⟩ | ⟨h, _⟩ | ⟨_, n, rfl⟩
    · simp
    · intro z; rw [z] at h; simp at h
    · simp
  unfold stepq
  rw [if_pos ho]
  by_cases e1 : c = 123
  · subst e1
    rw [if_pos rfl]
    refine ⟨_, rfl, .inr (.inl ⟨?_, ?_, .inl rfl⟩), .inl ⟨rfl, rfl⟩⟩
    · have := List.length_pos_iff.mpr hs
      rw [List.length_cons]; omega
    · rcases h with ⟨_, rfl⟩ | ⟨h, h2, _⟩ | ⟨rfl, n, rfl⟩
      · rfl
      · rw [List.getLast?_cons, h2]; rfl
      · simp [okc] at ho
  · rw [if_neg e1]
    by_cases e2 : c = 125
    · subst e2
      rw [if_pos rfl]
      have h2 : 2 ≤ st.length ∧ st.getLast? = some [] := by
        rcases h with ⟨rfl, rfl⟩ | ⟨h, h2, _⟩ | ⟨rfl, n, rfl⟩
        · simp [okc] at ho
        · exact ⟨h, h2⟩
        · simp [okc] at ho
      match st, h2 with
      | a :: b :: s, ⟨_, h2⟩ =>
        refine ⟨_, rfl, ?_, .inr (.inl ⟨rfl, a, b, s, rfl, rfl⟩)⟩
        cases s with
        | nil =>
          rw [List.getLast?_cons] at h2
          have hb : b = [] := by simpa using h2
          exact .inr (.inr ⟨rfl, num a, by rw [hb]; rfl⟩)
        | cons s0 s =>
          refine .inr (.inl ⟨by rw [List.length_cons, List.length_cons]; omega, ?_, .inr (.inl rfl)⟩)
          rw [List.getLast?_cons_cons, List.getLast?_cons_cons] at h2
          rw [List.getLast?_cons_cons]
          exact h2
      | [a], ⟨h, _⟩ => simp at h
      | [], ⟨h, _⟩ => simp at h
    · rw [if_neg e2]
      have hp : p = 125 ∧ 0 < st.length - 1 ∧ c = 44 := by
        unfold okc at ho
        by_cases z : p = 123
        · rw [if_pos z] at ho; simp [e1, e2] at ho
        · rw [if_neg z] at ho
          by_cases z2 : p = 125
          · rw [if_pos z2] at ho
            simp [e2] at ho
            exact ⟨z2, ho.1, ho.2⟩
          · rw [if_neg z2] at ho; simp [e1] at ho
      refine ⟨_, rfl, ?_, .inr (.inr ⟨hp.2.2, rfl⟩)⟩
      rcases h with ⟨z, _⟩ | ⟨h, h2, _⟩ | ⟨_, n, rfl⟩
      · omega
      · exact .inr (.inl ⟨h, h2, .inr (.inr hp.2.2)⟩)
      · have := hp.2.1
        simp at this
theorem deep_take (l : List Nat) (j : Nat) : deep (l.take j) ≤ deep l := by
  rw [deep_M, deep_M]
  conv => rhs; rw [← List.take_append_drop j l, M_app]
  exact Int.le_max_left _ _
theorem Good.cut {l : List Nat} {i j p : Nat} {st : List (List Nat)} (hj : i ≤ j) (h : Good l i st p) : Good (l.take j) i st p :=
  ⟨by rw [List.take_take, Nat.min_eq_left hj]; exact h.run, by rw [List.take_take, Nat.min_eq_left hj]; exact h.len, h.dep, h.top, h.rest⟩
theorem Good.uncut {l : List Nat} {i j p : Nat} {st : List (List Nat)} (hj : i ≤ j) (h : Good (l.take j) i st p) : Good l i st p :=
  ⟨by have := h.run; rw [List.take_take, Nat.min_eq_left hj] at this; exact this, by have := h.len; rw [List.take_take, Nat.min_eq_left hj] at this; exact this, h.dep, h.top, h.rest⟩
def wsum (st : List (List Nat)) : Nat := (st.map fun a => (a.map br).sum).sum
/-- what holds of any text while it is read -/
structure Nice (l : List Nat) (i : Nat) (st : List (List Nat)) (p : Nat) : Prop where
  G : Good l i st p
  F : Fit st p
  z : p = 0 → i = 0
  W : wsum st + st.length ≤ i + 1
  N : ∀ a ∈ st, ∀ m ∈ a, Few 700 m
  O : outA (l.drop i) st p i = out l
theorem Nice.start (l : List Nat) : Nice l 0 [[]] 0 := ⟨Good.start l, .inl ⟨rfl, rfl⟩, fun _ => rfl, by decide, (fun a ha m hm => by rw [List.mem_singleton.mp ha] at hm; cases hm), rfl⟩
theorem drop_at {l : List Nat} {i c : Nat} (h : l[i]? = some c) : l.drop i = c :: l.drop (i + 1) := by
  obtain ⟨hi, e⟩ := List.getElem?_eq_some_iff.mp h
  rw [← e]
  exact List.drop_eq_getElem_cons hi
theorem Nice.bad {l : List Nat} {i p c : Nat} {st : List (List Nat)} (h : Nice l i st p) (hc : l[i]? = some c) (ho : okc p (st.length - 1) c = false) : out l = .inl i := by
  have e := h.O
  rw [drop_at hc] at e
  have hs : stepq st p c = none := by unfold stepq; rw [ho]; rfl
  have e : (match stepq st p c with | none => Sum.inl i | some st' => outA (l.drop (i + 1)) st' c (i + 1)) = out l := e
  rw [hs] at e
  exact e.symm
theorem Nice.next {l : List Nat} {i p c : Nat} {st : List (List Nat)} (h : Nice l i st p) (hd : deep l ≤ 60) (hl : l.length ≤ 2000) (hc : l[i]? = some c) (ho : okc p (st.length - 1) c = true) :
    (c = 123 ∧ Nice l (i + 1) ([] :: st) 123) ∨ (c = 125 ∧ ∃ a b s, st = a :: b :: s ∧ Nice l (i + 1) ((b ++ [num a]) :: s) 125) ∨ (c = 44 ∧ Nice l (i + 1) st 44) := by
  obtain ⟨st', hs, hF, hcase⟩ := fit_step h.F ho
  have hi : i < l.length := (List.getElem?_eq_some_iff.mp hc).1
  have hrun : run (l.take (i + 1)) [[]] 0 = some (st', c) := by
    rw [show l.take (i + 1) = l.take i ++ [c] from by rw [List.take_add_one, hc]; rfl, run_app, h.G.run]
    show (match stepq st p c with | none => none | some st' => run [] st' c) = _
    rw [hs]; rfl
  have hc' : (l.take (i + 1))[i]? = some c := by rw [List.getElem?_take_of_lt (Nat.lt_succ_self i)]; exact hc
  obtain ⟨_, hg⟩ := (h.G.cut (Nat.le_succ i)).next hrun (Int.le_trans (deep_take l (i + 1)) hd) hc'
  have hO : outA (l.drop (i + 1)) st' c (i + 1) = out l := by
    have e := h.O
    rw [drop_at hc] at e
    have e : (match stepq st p c with | none => Sum.inl i | some st' => outA (l.drop (i + 1)) st' c (i + 1)) = out l := e
    rw [hs] at e
    exact e
  have hW := h.W
  rcases hcase with ⟨rfl, rfl⟩ | ⟨rfl, a, b, s, rfl, rfl⟩ | ⟨rfl, rfl⟩
  · rcases hg with ⟨_, g⟩ | ⟨z, _⟩ | ⟨z, _⟩
    · refine .inl ⟨rfl, g.uncut (Nat.le_refl _), hF, (fun z => by cases z), ?_, fun a ha m hm => ?_, hO⟩
      · show 0 + wsum st + (st.length + 1) ≤ _
        omega
      · rcases List.mem_cons.mp ha with rfl | ha
        · cases hm
        · exact h.N a ha m hm
    · cases z
    · exact absurd rfl z
  · rcases hg with ⟨z, _⟩ | ⟨_, a', b', s', e, g⟩ | ⟨_, z, _⟩
    · cases z
    · cases e
      refine .inr (.inl ⟨rfl, a, b, s, rfl, g.uncut (Nat.le_refl _), hF, (fun z => by cases z), ?_, fun x hx m hm => ?_, hO⟩)
      · have := br_num a
        have e1 : wsum (a :: b :: s) = (a.map br).sum + ((b.map br).sum + wsum s) := rfl
        have e2 : wsum ((b ++ [num a]) :: s) = ((b ++ [num a]).map br).sum + wsum s := rfl
        rw [e1, List.length_cons, List.length_cons] at hW
        rw [e2, List.length_cons, List.map_append, List.sum_append]
        simp only [List.map_cons, List.map_nil, List.sum_cons, List.sum_nil]
        omega
      · rcases List.mem_cons.mp hx with rfl | hx
        · rcases List.mem_append.mp hm with hm | hm
          · exact h.N b (by simp) m hm
          · rw [List.mem_singleton.mp hm]
            refine .mk ?_ fun k hk => h.N a (by simp) k (mem_num.mp hk)
            have h1 := len_num a
            have h2 := h.G.top a rfl
            have : (if p = 125 then 1 else 0) ≤ 1 := by split <;> omega
            omega
        · exact h.N x (by simp [hx]) m hm
    · exact absurd rfl z
  · rcases hg with ⟨z, _⟩ | ⟨z, _⟩ | ⟨_, _, g⟩
    · cases z
    · cases z
    · exact .inr (.inr ⟨rfl, g.uncut (Nat.le_refl _), hF, (fun z => by cases z), by omega, h.N, hO⟩)
theorem Nice.last {l : List Nat} {p : Nat} {st : List (List Nat)} (h : Nice l l.length st p) : (st = [[]] ∧ l = [] ∧ out l = .inl l.length) ∨ (∃ n, st = [[n]] ∧ l ≠ [] ∧ out l = .inr n ∧ br n ≤ l.length ∧ Few 700 n ∧ dep n ≤ 60) ∨ (2 ≤ st.length ∧ out l = .inl l.length) := by
  have e := h.O
  rw [List.drop_length] at e
  rcases h.F with ⟨hp, rfl⟩ | ⟨h2, _⟩ | ⟨hp, n, rfl⟩
  · exact .inl ⟨rfl, List.length_eq_zero_iff.mp (h.z hp), e.symm⟩
  · refine .inr (.inr ⟨h2, ?_⟩)
    rw [← e]
    match st, h2 with
    | a :: b :: s, _ => rcases a with _ | ⟨x, _ | ⟨y, a⟩⟩ <;> rfl
    | [a], h2 => simp at h2
    | [], h2 => simp at h2
  · refine .inr (.inl ⟨n, rfl, fun z => ?_, e.symm, ?_, h.N [n] (by simp) n (by simp), ?_⟩)
    · have := h.G.run
      rw [z] at this
      cases this
    · have := h.W
      have e2 : wsum [[n]] = br n + 0 + 0 := rfl
      rw [e2] at this
      simp at this
      omega
    · have := h.G.dep 0 [n] rfl n (by simp)
      simp at this
      omega
theorem Nice.pz {l : List Nat} {i p : Nat} {st : List (List Nat)} (h : Nice l i st p) : p = 0 ∨ p = 123 ∨ p = 125 ∨ p = 44 := by
  rcases h.F with ⟨z, _⟩ | ⟨_, _, z⟩ | ⟨z, _⟩
  · exact .inl z
  · exact .inr z
  · exact .inr (.inr (.inl z))
theorem Nice.in2 {l : List Nat} {i p : Nat} {st : List (List Nat)} (h : Nice l i st p) (z : p = 123) : 2 ≤ st.length := by
  rcases h.F with ⟨e, _⟩ | ⟨e, _⟩ | ⟨e, _⟩
  · omega
  · exact e
  · omega
end Rd
/-! try: .. except C as n: suite / further clauses, where what is raised is a C: the further clauses are never looked at -/
namespace L2
open PySem PySem.Spec PyProof.Rows
def wAs1 (K : PySem.W.Frag) (c : Value) (i : Nat) (ts : Addr → Value → Option Addr → TS) (D : Ends) : WX := fun cls d σ H => PySem.W.exmOne K cls c = some true ∧
  ∀ a, H a = none → ts a cls d { nx := fun σ' H' => D.nx (σ'.set i none) H', rt := D.rt, bk := fun σ' H' => D.bk (σ'.set i none) H', ct := fun σ' H' => D.ct (σ'.set i none) H' } (σ.set i (some (.ref a))) H
section
variable {X : Cx} {x n : Str} {c : Value} {i : Nat} {body suite : List Stmt} {b₀ : Stmt} {np pos pos' : Pos} {tb : WX → TS} {ts : Addr → Value → Option Addr → TS} {hds : List ExceptHandler}
theorem ps_try_as1 (hs : X.stack = X.env :: X.outer) (hf : X.env.frame = some X.env.locals) (hN : X.N.Nodup) (hi : X.N[i]? = some n) (hln : X.env.kindOf n = some .local) (hc : Names X x c)
    (hb : ∀ (W : WX) (pn : List (Addr × Obj)) (xe : Value → Shared → Prop), Takes (X.tr pn xe) W → PassesOwn (model X.prog X.w) X.A X.env xe → PSs (X.tr pn xe) body (tb W))
    (hsu : ∀ (a : Addr) (oe : Obj) (cls : Value) (d : Option Addr) (pn : List (Addr × Obj)), Zc cls d oe → (∃ vs, oe.data = .fields vs) → PSs (X.suite a ((a, oe) :: pn)) (b₀ :: suite) (ts a cls d)) :
    PS X (.Try body (.ExceptHandler (some (.Name x np)) (some n) (b₀ :: suite) pos' :: hds) [] [] pos) (fun D σ H => tb (wAs1 X.K c i ts D) D σ H) := by
  refine ⟨fun pins s σ H D I h => ?_⟩
  have ok := I.ok
  have frm : X.A.frames = some (X.env :: X.outer) := by rw [ok.frames, hs]
  have away : ∀ {a : Addr} {h : Heap} {o : Obj} {vs : Array Value} {B : Heap}, h.FunFrames B (X.env :: X.outer) → h.get? a = some o → o.data = .fields vs → a ≠ X.env.locals ∧ a ∉ X.fs := fun {a h o vs B} ff e dd => by
    have out : a ∉ frs (X.env :: X.outer) := fun hm => by
      obtain ⟨_, o', e', no⟩ := ff.mem hm
      rw [e] at e'; cases e'
      exact no _ dd
    refine ⟨fun z => out (List.mem_filterMap.mpr ⟨X.env, List.mem_cons_self, by rw [hf, z]⟩), fun hm => ?_⟩
    obtain ⟨v, hv, q⟩ := List.mem_filterMap.mp hm
    exact out (List.mem_filterMap.mpr ⟨v, List.mem_cons_of_mem _ hv, q⟩)
  refine wpAny_Try_except (wpAny_mono ((hb (wAs1 X.K c i ts D) (X.pn ++ pins) (fun e s₁ => wpAny (model X.prog X.w) X.A (noteFrame e X.env) (fun _ s₂ => wpAny (model X.prog X.w) X.A (setFlight e none) (fun _ s₃ =>
    wpAny (model X.prog X.w) X.A (handleBy e X.env (.ExceptHandler (some (.Name x np)) (some n) (b₀ :: suite) pos' :: hds)) (SP X pins D) X.xe s₃) X.xe s₂) X.xe s₁) (fun u s' caught => ?_) PassesOwn.looking).run [] s σ H D (I.toTry _) h) (fun f s1 out => ?_) fun _ _ z => z)
  · obtain ⟨a, B, sI, pins', σ', H', cls, d, rfl, J', nb, up, sky, na, os, ag, hcls, hts⟩ := caught
    have J : Inv X pins σ' H' sI := J'.ofTry ok
    refine Sky.land Zc.steady frm hf (show Sky B (X.env :: X.outer) a (Zc cls d) X.env.locals s'.heap by rw [← hs]; exact sky) fun h3 fl3 up3 => ?_
    have J3 : Inv X pins σ' H' { s' with heap := h3 } := J.landed nb fl3.1 (up.trans up3) os ag
    obtain ⟨oe, vs, he, hz, hd⟩ := fl3.there
    obtain ⟨nL, nF⟩ := away fl3.2.2.1 he hd
    have looks : PySem.W.Looks (model X.prog X.w) h3 (typeOf (.ref a)) cls := fun A Q E s k q => wpAny_typeOf_ref (k _ _ he) (by rw [hz.1]; exact q)
    refine wpAny_handleBy_cons (codeAny_handlers_test ?_) (by intro q; cases q)
    have S3 := J3.suite he hd na nL nF
    have name : ∀ {Q : Value → Shared → Prop} {E : Value → Shared → Prop}, Q c { s' with heap := h3 } → wpAny (model X.prog X.w) (X.A.mark (some (.ref a))) (eval (.Name x np) X.env) Q E { s' with heap := h3 } := fun {Q E} q => by
      obtain ⟨hg, hdbg, hm | ⟨hm, hv, hnn⟩⟩ := hc
      · exact ld_glob (X := X.suite a ((a, oe) :: (X.pn ++ pins))) S3 hg hm q hdbg
      · exact ld_blt (X := X.suite a ((a, oe) :: (X.pn ++ pins))) S3 hg hm hv q hnn hdbg
    refine name ((PySem.W.exm_one (M := model X.prog X.w) J3.kIn looks hcls).here (codeAny_handlers_suite_as ?_))
    refine HandSPX.lands_againZ fl3 fun h4 fl4 up4 => ?_
    obtain ⟨oe4, vs4, he4, hz4, hd4⟩ := fl4.there
    have J4 : Inv X pins σ' H' { s' with heap := h4 } := J.landed nb fl4.1 ((up.trans up3).trans up4) os ag
    refine store_ok (X := X.suite a ((a, oe4) :: (X.pn ++ pins))) (v := .ref a) (J4.suite he4 hd4 na nL nF) hN hi (.inl hln) rfl (fun s5 S5 => ?_) (.inr hln)
    refine wpAny_mono ((hsu a oe4 cls d (X.pn ++ pins) hz4 ⟨_, hd4⟩).run [] s5 _ H' _ S5 (hts a na)) (fun f s6 sp => ?_) fun _ _ z => z.elim
    cases f with
    | next => obtain ⟨σ6, H6, S6, q6⟩ := sp; exact gone_ok (S6.unsuite ok) hN hi hln fun s7 J7 => ⟨_, _, J7, q6⟩
    | brk => obtain ⟨σ6, H6, S6, q6⟩ := sp; exact gone_ok (S6.unsuite ok) hN hi hln fun s7 J7 => ⟨_, _, J7, q6⟩
    | cont => obtain ⟨σ6, H6, S6, q6⟩ := sp; exact gone_ok (S6.unsuite ok) hN hi hln fun s7 J7 => ⟨_, _, J7, q6⟩
    | ret u => obtain ⟨v6, σ6, H6, S6, r6, q6⟩ := sp; exact gone_ok (S6.unsuite ok) hN hi hln fun s7 J7 => ⟨_, _, _, J7, r6, q6⟩
  · cases f with
    | next => obtain ⟨σ', H', J', q⟩ := out; exact wpAny_execs_nil ⟨σ', H', J'.ofTry ok, q⟩
    | brk => obtain ⟨σ', H', J', q⟩ := out; exact ⟨σ', H', J'.ofTry ok, q⟩
    | cont => obtain ⟨σ', H', J', q⟩ := out; exact ⟨σ', H', J'.ofTry ok, q⟩
    | ret u => obtain ⟨v, σ', H', J', r, q⟩ := out; exact ⟨v, σ', H', J'.ofTry ok, r, q⟩
end
end L2
/-! try: .. except C as n: suite, several of them; isinstance of a caught exception that has fields -/
namespace L2
open PySem PySem.Spec PyProof.Rows
def endsX (D : Ends) (i : Nat) : Ends := { nx := fun σ' H' => D.nx (σ'.set i none) H', rt := D.rt, bk := fun σ' H' => D.bk (σ'.set i none) H', ct := fun σ' H' => D.ct (σ'.set i none) H' }
def wManyA (K : PySem.W.Frag) (D : Ends) : List (Value × Nat × (Addr → Value → Option Addr → TS)) → WX
  | [] => fun _ _ _ _ => False
  | (c, i, ts) :: r => fun cls d σ H => ∃ b, PySem.W.exmOne K cls c = some b ∧ (b = true → ∀ a, H a = none → ts a cls d (endsX D i) (σ.set i (some (.ref a))) H) ∧ (b = false → wManyA K D r cls d σ H)
inductive HdsA (X : Cx) : List ExceptHandler → List (Value × Nat × (Addr → Value → Option Addr → TS)) → Prop
  | nil {hds : List ExceptHandler} : HdsA X hds []
  | cons {x n : Str} {c : Value} {i : Nat} {ts : Addr → Value → Option Addr → TS} {b₀ : Stmt} {suite : List Stmt} {np pos' : Pos} {hds : List ExceptHandler} {l : List (Value × Nat × (Addr → Value → Option Addr → TS))} (hc : Names X x c) (hi : X.N[i]? = some n) (hln : X.env.kindOf n = some .local)
      (hsu : ∀ (a : Addr) (oe : Obj) (cls : Value) (d : Option Addr) (pn : List (Addr × Obj)), Zc cls d oe → (∃ vs, oe.data = .fields vs) → PSs (X.suite a ((a, oe) :: pn)) (b₀ :: suite) (ts a cls d)) (r : HdsA X hds l) :
      HdsA X (.ExceptHandler (some (.Name x np)) (some n) (b₀ :: suite) pos' :: hds) ((c, i, ts) :: l)
section
variable {X : Cx} {body : List Stmt} {h₀ : ExceptHandler} {hds : List ExceptHandler} {l : List (Value × Nat × (Addr → Value → Option Addr → TS))} {pos : Pos} {tb : WX → TS}
theorem ps_try_asM (hs : X.stack = X.env :: X.outer) (hf : X.env.frame = some X.env.locals) (hN : X.N.Nodup)
    (hb : ∀ (W : WX) (pn : List (Addr × Obj)) (xe : Value → Shared → Prop), Takes (X.tr pn xe) W → PassesOwn (model X.prog X.w) X.A X.env xe → PSs (X.tr pn xe) body (tb W))
    (hh : HdsA X (h₀ :: hds) l) : PS X (.Try body (h₀ :: hds) [] [] pos) (fun D σ H => tb (wManyA X.K D l) D σ H) := by
  refine ⟨fun pins s σ H D I h => ?_⟩
  have ok := I.ok
  have frm : X.A.frames = some (X.env :: X.outer) := by rw [ok.frames, hs]
  have away : ∀ {a : Addr} {h : Heap} {o : Obj} {vs : Array Value} {B : Heap}, h.FunFrames B (X.env :: X.outer) → h.get? a = some o → o.data = .fields vs → a ≠ X.env.locals ∧ a ∉ X.fs := fun {a h o vs B} ff e dd => by
    have out : a ∉ frs (X.env :: X.outer) := fun hm => by
      obtain ⟨_, o', e', no⟩ := ff.mem hm
      rw [e] at e'; cases e'
      exact no _ dd
    refine ⟨fun z => out (List.mem_filterMap.mpr ⟨X.env, List.mem_cons_self, by rw [hf, z]⟩), fun hm => ?_⟩
    obtain ⟨v, hv, q⟩ := List.mem_filterMap.mp hm
    exact out (List.mem_filterMap.mpr ⟨v, List.mem_cons_of_mem _ hv, q⟩)
  refine wpAny_Try_except (wpAny_mono ((hb (wManyA X.K D l) (X.pn ++ pins) (fun e s₁ => wpAny (model X.prog X.w) X.A (noteFrame e X.env) (fun _ s₂ => wpAny (model X.prog X.w) X.A (setFlight e none) (fun _ s₃ =>
    wpAny (model X.prog X.w) X.A (handleBy e X.env (h₀ :: hds)) (SP X pins D) X.xe s₃) X.xe s₂) X.xe s₁) (fun u s' caught => ?_) PassesOwn.looking).run [] s σ H D (I.toTry _) h) (fun f s1 out => ?_) fun _ _ z => z)
  · obtain ⟨a, B, sI, pins', σ', H', cls, d, rfl, J', nb, up, sky, na, os, ag, w⟩ := caught
    have J : Inv X pins σ' H' sI := J'.ofTry ok
    refine Sky.land Zc.steady frm hf (show Sky B (X.env :: X.outer) a (Zc cls d) X.env.locals s'.heap by rw [← hs]; exact sky) fun h3 fl3 up3 => ?_
    have J3 : Inv X pins σ' H' { s' with heap := h3 } := J.landed nb fl3.1 (up.trans up3) os ag
    obtain ⟨oe, vs, he, hz, hd⟩ := fl3.there
    obtain ⟨nL, nF⟩ := away fl3.2.2.1 he hd
    have looks : PySem.W.Looks (model X.prog X.w) h3 (typeOf (.ref a)) cls := fun A Q E s k q => wpAny_typeOf_ref (k _ _ he) (by rw [hz.1]; exact q)
    have S3 := J3.suite he hd na nL nF
    have go : ∀ {hds' : List ExceptHandler} {l' : List (Value × Nat × (Addr → Value → Option Addr → TS))}, HdsA X hds' l' → wManyA X.K D l' cls d σ' H' →
        wpAny (model X.prog X.w) X.A (handleBy (.ref a) X.env hds') (SP X pins D) X.xe { s' with heap := h3 } := by
      intro hds' l' hk
      induction hk with
      | nil => intro w; exact w.elim
      | @cons x n c i ts b₀ suite np pos' hds2 l2 hc hi hln hsu r ih =>
        intro w
        obtain ⟨b, hb1, hyes, hno⟩ := w
        refine wpAny_handleBy_cons (codeAny_handlers_test ?_) (by intro q; cases q)
        have name : ∀ {Q : Value → Shared → Prop} {E : Value → Shared → Prop}, Q c { s' with heap := h3 } → wpAny (model X.prog X.w) (X.A.mark (some (.ref a))) (eval (.Name x np) X.env) Q E { s' with heap := h3 } := fun {Q E} q => by
          obtain ⟨hg, hdbg, hm | ⟨hm, hv, hnn⟩⟩ := hc
          · exact ld_glob (X := X.suite a ((a, oe) :: (X.pn ++ pins))) S3 hg hm q hdbg
          · exact ld_blt (X := X.suite a ((a, oe) :: (X.pn ++ pins))) S3 hg hm hv q hnn hdbg
        refine name ((PySem.W.exm_one (M := model X.prog X.w) J3.kIn looks hb1).here ?_)
        cases b with
        | true =>
          refine codeAny_handlers_suite_as ?_
          refine HandSPX.lands_againZ fl3 fun h4 fl4 up4 => ?_
          obtain ⟨oe4, vs4, he4, hz4, hd4⟩ := fl4.there
          have J4 : Inv X pins σ' H' { s' with heap := h4 } := J.landed nb fl4.1 ((up.trans up3).trans up4) os ag
          refine store_ok (X := X.suite a ((a, oe4) :: (X.pn ++ pins))) (v := .ref a) (J4.suite he4 hd4 na nL nF) hN hi (.inl hln) rfl (fun s5 S5 => ?_) (.inr hln)
          refine wpAny_mono ((hsu a oe4 cls d (X.pn ++ pins) hz4 ⟨_, hd4⟩).run [] s5 _ H' _ S5 (hyes rfl a na)) (fun f s6 sp => ?_) fun _ _ z => z.elim
          cases f with
          | next => obtain ⟨σ6, H6, S6, q6⟩ := sp; exact gone_ok (S6.unsuite ok) hN hi hln fun s7 J7 => ⟨_, _, J7, q6⟩
          | brk => obtain ⟨σ6, H6, S6, q6⟩ := sp; exact gone_ok (S6.unsuite ok) hN hi hln fun s7 J7 => ⟨_, _, J7, q6⟩
          | cont => obtain ⟨σ6, H6, S6, q6⟩ := sp; exact gone_ok (S6.unsuite ok) hN hi hln fun s7 J7 => ⟨_, _, J7, q6⟩
          | ret u => obtain ⟨v6, σ6, H6, S6, r6, q6⟩ := sp; exact gone_ok (S6.unsuite ok) hN hi hln fun s7 J7 => ⟨_, _, _, J7, r6, q6⟩
        | false =>
          show wpAny _ X.A (handleBy (.ref a) X.env hds2) _ _ _
          exact ih (hno rfl)
    exact go hh w
  · cases f with
    | next => obtain ⟨σ', H', J', q⟩ := out; exact wpAny_execs_nil ⟨σ', H', J'.ofTry ok, q⟩
    | brk => obtain ⟨σ', H', J', q⟩ := out; exact ⟨σ', H', J'.ofTry ok, q⟩
    | cont => obtain ⟨σ', H', J', q⟩ := out; exact ⟨σ', H', J'.ofTry ok, q⟩
    | ret u => obtain ⟨v, σ', H', J', r, q⟩ := out; exact ⟨v, σ', H', J'.ofTry ok, r, q⟩
end
/-- isinstance(e, c), e the caught exception, its fields in a dict -/
def rIsED (K : PySem.W.Frag) (D a : Addr) (d : Option Addr) : List V → Hp → VK → Prop := fun xs H Q => ∃ (c : V) (cv : Value) (b : Bool) (dd : Addr) (fs : List (Str × V)), xs = [.ref a, c] ∧ d = some dd ∧ H dd = some (.xd fs) ∧ (∀ u, RelV c u → u = cv) ∧ PySem.W.kitOne K (.ref D) cv = some b ∧ Q (.bl b) H
def rIsETD (K : PySem.W.Frag) (D a : Addr) (d : Option Addr) : List V → Hp → VK → Prop := fun xs H Q => ∃ (tp : Addr) (cs : List Addr) (b : Bool) (dd : Addr) (fs : List (Str × V)), xs = [.ref a, .ref tp] ∧ d = some dd ∧ H dd = some (.xd fs) ∧ H tp = some (.tup (cs.map V.ref)) ∧ PySem.W.kitAny K (.ref D) (cs.map Value.ref) = some b ∧ Q (.bl b) H
section
variable {X : Cx} {a D : Addr} {oe : Obj} {pn : List (Addr × Obj)} {d : Option Addr}
theorem inst_of {pins : List (Addr × Obj)} {σ : St} {H : Hp} {s : Shared} {dd : Addr} {fs : List (Str × V)} (I : Inv (X.suite a ((a, oe) :: pn)) pins σ H s) (hz : Zc (.ref D) d oe) (hf : ∃ vs, oe.data = .fields vs) (ed : d = some dd) (hd : H dd = some (.xd fs)) : ∃ od, PySem.W.InstAt s.heap a oe D (some od) := by
  obtain ⟨hget, _⟩ := I.pin (a, oe) (List.mem_append.mpr (.inl List.mem_cons_self))
  obtain ⟨vs, hv⟩ := hf
  have hx : ObjOk X.prog X.w H s.heap dd (.xd fs) := I.hok dd _ hd
  obtain ⟨mA, ⟨o, es, ep, ho, hr⟩, _⟩ := hx
  subst ed
  exact ⟨o, hget, hz.1, by unfold PySem.W.notCls; rw [hv] <;> rfl, by rw [hz.2]; exact ho⟩
theorem call_isED (C : ExcC X.K D) (hz : Zc (.ref D) d oe) (hf : ∃ vs, oe.data = .fields vs) : CallR (X.suite a ((a, oe) :: pn)) (.builtin "isinstance") (rIsED X.K D a d) := by
  intro pins s σ H xs us Q I r h
  obtain ⟨c, cv, b, dd, fs, rfl, ed, hd, hcv, e, q⟩ := h
  cases r with
  | cons rx rr =>
    cases rr with
    | cons rt rr =>
      cases rr
      cases rx
      have ec := hcv _ rt
      subst ec
      obtain ⟨od, J⟩ := inst_of I hz hf ed hd
      obtain ⟨cd, hcd, _⟩ := PySem.W.any_some C.hd
      exact PySem.W.kia_one (PySem.W.kitx_exc (by rw [hcd] <;> rfl) C.hg C.hk C.hs C.ha C.hn C.ht C.hm) I.kIn J e (fun z => nomatch z) fun tk => ⟨.bl b, H, I.kept (t' := tk) fun _ _ z => z, rfl, q⟩
theorem call_isETD (C : ExcC X.K D) (hz : Zc (.ref D) d oe) (hf : ∃ vs, oe.data = .fields vs) : CallR (X.suite a ((a, oe) :: pn)) (.builtin "isinstance") (rIsETD X.K D a d) := by
  intro pins s σ H xs us Q I r h
  obtain ⟨tp, cs, b, dd, fs, rfl, ed, hd, ht, e, q⟩ := h
  cases r with
  | cons rx rr =>
    cases rr with
    | cons rt rr =>
      cases rr
      cases rx
      cases rt
      obtain ⟨od, J⟩ := inst_of I hz hf ed hd
      obtain ⟨cd, hcd, _⟩ := PySem.W.any_some C.hd
      obtain ⟨its, rv, pl, hz2⟩ := I.tuple (SqT.of ht)
      obtain ⟨o, ho, hc, n, hdd⟩ := pl
      obtain ⟨oc, od2, oda, osl⟩ := o
      simp only at hc hdd
      subst hc hdd
      have ei := Lw.vals_refs rv
      subst ei
      exact PySem.W.kia_tup (PySem.W.kitx_exc (by rw [hcd] <;> rfl) C.hg C.hk C.hs C.ha C.hn C.ht C.hm) I.kIn J ho e (fun z => nomatch z) fun tk => ⟨.bl b, H, I.kept (t' := tk) fun _ _ z => z, rfl, q⟩
end
end L2
/-! an own error class whose __init__ says super().__init__(f'..') and self.f = v -/
namespace Lsup
open PySem PySem.Spec PySem.W PySem.Calls PyProof.Rows L2 NdefX
/-- ValueError.__init__ bound to the instance, called -/
theorem call_bwV {prog : Program} {w : World} {A : Around} {E : Value → Shared → Prop} {h : Heap} {g : Array GenState} {d : Drawn} {t : Nat} {os : OsState} {nm q : Str} {C N : Addr} {bs bm : List Value} {hdct : Bool} {sn : List Str} {sub : List Value} {ab : Bool} {col : Option Bool} {dd : Option Addr} {k0 k1 k2 k3 k5 : Option Value}
    {u e t0 : Addr} {rest : List Value} {Q : Value → Shared → Prop}
    (hC : h.get? C = some (excClassObj nm q C N bs bm hdct sn sub ab col dd k0 k1 k2 k3 k5 "ValueError.__new__")) (he : h.get? e = some (HandSPX.excO C t0)) (hu : h.get? u = some (PySem.W.kxs_mw "ValueError.__init__" e)) (hrest : rest.length ≤ sizeLine)
    (hq : ∀ h' t1, (∀ b o, b ≠ e → h.get? b = some o → h'.get? b = some o) → h'.get? e = some (HandSPX.excO C t1) → Q .none ⟨h', g, d, t, os⟩) :
    wpAny (model prog w) A (call (.ref u) rest) Q E ⟨h, g, d, t, os⟩ := by
  refine wpAny_call (codeAny_of_tree ?_)
  show wpAny _ A.in1 (callAny (.ref u) ⟨rest, []⟩) _ _ _
  simp only [callAny]
  refine wpAny_bind (wpAny_load hu ?_)
  simp only [PySem.W.kxs_mw, show (Value.type "method-wrapper" == Value.type "method" || Value.type "method-wrapper" == Value.type "builtin_function_or_method" || Value.type "method-wrapper" == Value.type "method-wrapper") = true by decide, if_true]
  refine W.KFB.if_so (by decide) ?_
  refine wpAny_bind (PySem.ESX.check_bound F.excBase_ValueError hC he rfl ?_)
  refine wpAny_bind (wpAny_pure (wpAny_pure ?_))
  refine ⟨Code.quiet_builtin _ (by decide +kernel), codeAny_builtin F.excBase_ValueError.initEntry ?_⟩
  rw [Around.under_plainId F.excBase_ValueError.init.plain _]
  wp_walk
  refine hq _ h.objs.size (fun b o hb ho => ?_) ?_
  · rw [Heap.get?_update_other _ _ (Ne.symm hb)]
    exact Heap.get?_push_of_some _ ho
  · rw [Heap.get?_update_self _ (Heap.get?_push_of_some _ he) rfl]
    rfl
abbrev NN (par : Str) : List Str := ["self", par, "__class__"]
abbrev PP (par : Str) : List Str := ["self", par]
/-- what the written part says of such a class -/
structure SupF (P : Program) (K : PySem.W.Frag) (C f : Addr) (st : Stmt) (qual : Str) (fd : FuncData) : Prop where
  ex : ∃ (oc : Value) (od : Option Addr) (osl : Array (Option Value)) (dV kV doc pm : Value) (an : Option Addr) (cda : Addr) (ct : Value) (cc : Addr) (ccl : Value) (cdd : Option Addr) (ccs : Array (Option Value)) (vs : Array Value) (file : Str) (tf : Tok) (cl : Value) (cld : Option Addr) (csl : Array (Option Value)),
    fd = PySem.W.ksFn "__init__" qual (defArgs st) (defBody st) (defScope st) dV kV doc pm an (.ref cda) ct cc ∧ K.lookup f = some ⟨oc, od, .func fd, osl⟩ ∧ PySem.W.codeIn K (.ref cda) qual = true ∧ K.lookup cda = some ⟨ccl, cdd, .fields vs, ccs⟩ ∧ vs[2]? = some (.str file tf) ∧ ((P.main.file : Str) == file) = true ∧
    K.lookup cc = some ⟨cl, cld, .cell (some (.ref C)), csl⟩
  cls : OexC K C
  up : PySem.W.ks_superIn K C C "__init__" = some (some (.builtin "ValueError.__init__"))
  op : PySem.W.nsIn K cStatics "thirdparty.any" = some none
  isV : PySem.W.subIn K (.ref C) (.type "ValueError") = some true
  top : (P.main.scope.names.lookup ("super" : Str)).isSome = false
/-- __init__(self, v): v becomes self.fld -/
def spSup (C : Addr) (fld : Str) (okv : V → Prop) : Sp := fun vs H Q _ => ∃ a v, vs = [.ref a, v] ∧ okv v ∧ H a = some (exo a C none) ∧ ∀ dx, H dx = none → dx ≠ a → Q .non (upd (upd H dx (exd dx [(fld, v)])) a (exo a C (some dx)))
theorem sup_ok {P : Program} {w : World} {K : PySem.W.Frag} {mg : Str → Option Value} {base : Heap} {CX : CXT} {C f : Addr} {st : Stmt} {qual fld par : Str} {p0 p1 p2 p3 p4 p5 p6 p7 p8 : Pos} {e : Expr} {te : TE} {fd : FuncData} {okv : V → Prop}
    (Z : SupF P K C f st qual fd) (S : NScope (NN par) (PP par) ["__class__"] (defScope st))
    (hb : defBody st = [.Expr (.Call (.Attribute (.Call (.Name "super" p0) [] [] p1) "__init__" p2) [e] [] p3) p4, .Assign [.Attribute (.Name "self" p5) fld p6] (.Name par p7) p8])
    (hks : (defScope st).names.lookup ("super" : Str) = some .globalImplicit) (mS : mg "super" = none) (hp : ∃ ar, ((defArgs st).posonlyargs ++ (defArgs st).args).head? = some ar ∧ ar.arg = "self")
    (hf : PySem.W.findIn K (.ref C) fld = some none) (he : ∀ X : Cx, X.env.scope = defScope st → X.N = (NN par) → X.K = K → X.mg = mg → PE X e te) (hst : ∀ env, starEach [e] env = (false, eval e env) :: starEach [] env)
    (hsw : ∀ env, env.scope = defScope st → swapsWith (.Call (.Attribute (.Call (.Name "super" p0) [] [] p1) "__init__" p2) [e] [] p3) none p4.line env = pure false)
    (hsw2 : ∀ env, env.scope = defScope st → swapsWith (.Name par p7) (some (.Attribute (.Name "self" p5) fld p6)) p8.line env = pure false)
    (hev : ∀ env : Env, ∃ pl : Sem Bool, eval (.Call (.Attribute (.Call (.Name "super" p0) [] [] p1) "__init__" p2) [e] [] p3) env = (do
      let ov ← attributeBase (.Call (.Name "super" p0) [] [] p1) "__init__" env (eval (.Call (.Name "super" p0) [] [] p1) env)
      standAt p2.atName
      let (f, first) ← holding [ov] (getMethod ov "__init__" pl)
      callWith p3 f first (backTo p3 (starEach [e] env)) []))
    (hdb : (par == ("__debug__" : Str)) = false) (hcd2 : (par == ("__classdict__" : Str)) = false)
    (ht : ∀ a v c H (Q : VK), okv v → (∀ y : Str, Q (.str y) H) → te [some (.ref a), some v, some c] H Q) : FnOk P w K mg base CX 1 f fd (PP par) (spSup C fld okv) := by
  obtain ⟨oc, od, osl, dV, kV, doc, pm, an, cda, ct, cc, ccl, cdd, ccs, vs2, file, tf, cl, cld, csl, rfl, lk, hcd, lcd, hvs, hfile, lcc⟩ := Z.ex
  refine ⟨fun vs H Q E ⟨a, v, e1, _⟩ => by rw [e1]; rfl, fun A outer s H args us vs Q E hr e0 hbd r hsp => ?_⟩
  obtain ⟨a, v, rfl, hok, hea, hq⟩ := hsp
  have KX : K.In s.heap := e0.mod.kin.keeps fun b o e => (e0.bs b o e).1
  have lim : s.heap.NoLimit := e0.mod.nolimit.keeps fun b o e => (e0.bs b o e).1
  have hloc : ∀ y ∈ List.zip (PP par) us, (defScope st).names.lookup y.1 = some .local := fun ⟨n, _⟩ hy => S.par n (List.of_mem_zip hy).1
  refine ks_codeAny_call_defAt (fd := PySem.W.ksFn "__init__" qual (defArgs st) (defBody st) (defScope st) dV kV doc pm an (.ref cda) ct cc) (body := defBody st) (binds := List.zip (PP par) us) hr.depth (KX _ _ lk) rfl lim (PySem.W.codeRec_of KX hcd) rfl hbd S.nocell hloc (fun h₀ hns kp => ?_) S.co S.gen S.kind
  obtain ⟨nm, qn, N, bs, bm, sn, sub, ab, col, dd, k0, k1, k2, k3, k5, hC, hbm⟩ := Z.cls.cls
  have hclC : PySem.W.clsIn K C = some { name := nm, bases := bs, mro := .ref C :: bm, ns := N, qualname := qn, hasDict := true, slotNames := sn, subclasses := sub, abstract := ab, collection := col, hasDel := false } := by unfold PySem.W.clsIn; rw [hC] <;> rfl
  let F : NF := ⟨"__init__", qual, defArgs st, defBody st, defScope st, [("__class__", cc)], cda⟩
  have cin : CellsAt F.cl ["__class__"] [some (.ref C)] s.heap H := by
    have bcc := e0.mod.kin _ _ lcc
    obtain ⟨g1, g2⟩ := e0.bs _ _ bcc
    refine ⟨rfl, fun y c ey => ?_, fun x y c e1 e2 => ?_, fun i y ey => ?_⟩
    · have : c = cc := by
        have z : List.lookup y [(("__class__" : Str), cc)] = some c := ey
        simp only [List.lookup] at z
        split at z
        · exact (Option.some.inj z).symm
        · cases z
      subst this
      exact ⟨g2, _, _, g1, rfl⟩
    · have z1 : List.lookup x [(("__class__" : Str), cc)] = some c := e1
      have z2 : List.lookup y [(("__class__" : Str), cc)] = some c := e2
      simp only [List.lookup] at z1 z2
      split at z1
      · rename_i q1
        split at z2
        · rename_i q2
          exact (eq_of_beq q1).trans (eq_of_beq q2).symm
        · cases z2
      · cases z1
    · cases i with
      | zero =>
        cases ey
        refine ⟨cc, rfl, fun v ev => ?_⟩
        cases ev
        exact ⟨.ref C, rfl, _, g1, rfl⟩
      | succ i => cases ey
  have I : Inv (ncx CX P w K mg base (NN par) F f A outer s H E) [] (startF (NN par) [.ref a, v] [some (.ref C)]) H { s with heap := h₀, toks := s.toks + (List.zip (PP par) us).length } := inv_startN S hr.hd e0 rfl r cin hns kp
  have eσ : startF (NN par) [.ref a, v] [some (.ref C)] = [some (.ref a), some v, some (.ref C)] := rfl
  rw [eσ] at I
  generalize hX : ncx CX P w K mg base (NN par) F f A outer s H E = X at I
  have fin : ∀ {σ' : L2.St} {H' : Hp} {v' : V} {u : Value} {s' : Shared}, Inv X [] σ' H' s' → L2.RelV v' u → Q v' H' → CE outer P w H s Q u s' := by
    subst hX
    exact fun {σ' H' v' u s'} J rv q => ⟨v', H', J.os, J.bare, J.base, J.hok, rv, q⟩
  have hxe : X.xe = fun e s' => wpAny (model P w) (A.deeper (envF F f s.heap.objs.size)) (leaving (envF F f s.heap.objs.size) e) (fun _ s'' => CX outer H s E e s'') (fun e' s'' => CX outer H s E e' s'') s' := by subst hX; rfl
  have hA : X.A = A.deeper (envF F f s.heap.objs.size) := by subst hX; rfl
  have hE : X.env = envF F f s.heap.objs.size := by subst hX; rfl
  have hP : X.prog = P := by subst hX; rfl
  have hW : X.w = w := by subst hX; rfl
  have hXN : X.N = (NN par) := by subst hX; rfl
  have hXK : X.K = K := by subst hX; rfl
  have hXmg : X.mg = mg := by subst hX; rfl
  have hsc : X.env.scope = defScope st := by rw [hE] <;> rfl
  have xA : X.A = A.deeper (callEnv (PySem.W.ksFn "__init__" qual (defArgs st) (defBody st) (defScope st) dV kV doc pm an (.ref cda) ct cc) s.heap.objs.size f) := hA
  have hps : PSs X [.Assign [.Attribute (.Name "self" p5) fld p6] (.Name par p7) p8] _ :=
    pss_one (ps_ost (pe_var (i := 0) (by rw [hXN] <;> rfl) (by rw [hsc]; exact .inl (S.par _ List.mem_cons_self))) (pe_var (i := 1) (by rw [hXN] <;> rfl) (by rw [hsc]; exact .inl (S.par _ (List.mem_cons_of_mem _ List.mem_cons_self))) hdb hcd2) (hsw2 _ hsc))
  show PySem.wpAt (model P w) (A.deeper (envF F f s.heap.objs.size)) (.func (defBody st) (envF F f s.heap.objs.size)) (execs (defBody st) (envF F f s.heap.objs.size)) _ _ _
  rw [hb]
  have fin2 : ∀ {fl : Flow} {s' : Shared}, SP X [] { nx := fun _ H' => Q .non H', rt := Q } fl s' → CE outer P w H s Q (match fl with | .ret v => v | _ => .none) s' := fun {fl s'} hs => by
    cases fl with
    | ret u =>
      obtain ⟨v, σ', H', J, rv, q⟩ := hs
      exact fin J rv q
    | next =>
      obtain ⟨σ', H', J, q⟩ := hs
      exact fin (v' := V.non) (u := Value.none) J rfl q
    | brk =>
      obtain ⟨_, _, _, q⟩ := hs
      exact False.elim q
    | cont =>
      obtain ⟨_, _, _, q⟩ := hs
      exact False.elim q
  have body : PySem.wpAt (model X.prog X.w) X.A (.func [.Expr (.Call (.Attribute (.Call (.Name "super" p0) [] [] p1) "__init__" p2) [e] [] p3) p4, .Assign [.Attribute (.Name "self" p5) fld p6] (.Name par p7) p8] X.env)
      (execs [.Expr (.Call (.Attribute (.Call (.Name "super" p0) [] [] p1) "__init__" p2) [e] [] p3) p4, .Assign [.Attribute (.Name "self" p5) fld p6] (.Name par p7) p8] X.env) (SP X [] { nx := fun _ H' => Q .non H', rt := Q }) X.xe { s with heap := h₀, toks := s.toks + (List.zip (PP par) us).length } := by
    obtain ⟨u0, u1, rfl, r0, r1⟩ : ∃ u0 u1, us = [u0, u1] ∧ u0 = Value.ref a ∧ L2.RelV v u1 := by
      cases r with
      | cons q1 r => cases r with
        | cons q2 r => cases r; exact ⟨_, _, rfl, q1, q2⟩
    subst r0
    obtain ⟨ar, har, harn⟩ := hp
    obtain ⟨t1, ho⟩ := exo_at I.hok hea
    have KX0 : K.In h₀ := fun b o e => kp b o (KX b o e)
    have hkc : (defScope st).names.lookup ("__class__" : Str) = some .free := S.frk _ List.mem_cons_self
    have hself : (defScope st).names.lookup ("self" : Str) = some .local := S.par _ List.mem_cons_self
    have eC : X.env.kindOf "__class__" = some .free := by show X.env.scope.names.lookup ("__class__" : Str) = _; rw [hsc]; exact hkc
    have eS : X.env.kindOf "super" = some .globalImplicit := by show X.env.scope.names.lookup ("super" : Str) = _; rw [hsc]; exact hks
    have eL : X.env.kindOf "self" = some .local := by show X.env.scope.names.lookup ("self" : Str) = _; rw [hsc]; exact hself
    have hD1 := KX0 _ _ hC
    have hxC : a ≠ C := fun z => by
      rw [z] at ho
      rw [hD1] at ho
      cases ho
    have hsub : PySem.W.mroIn K C (.ref C) = some true := by
      unfold PySem.W.mroIn
      rw [hclC, Option.bind_some]
      simp
    have ndP : (PP par).Nodup := S.nd.sublist (List.sublist_append_left (PP par) ["__class__"])
    obtain ⟨pl, hev⟩ := hev X.env
    refine ks_wpAt_execs_cons (ks_wpAt_Expr_any (ks_wpAt_MethodCall ?_ hev) (by unfold interactive; rw [show X.env.scope.kind = _ from I.ok.kind]; rfl) (hsw _ hsc))
    refine ks_wpAt_super_base (env := X.env) (f := f) (cc := cda) (ar := ar) (vs := vs2) (file := file) (tf := tf) eS eC (by decide) (by rw [hE] <;> rfl) (KX0 _ _ lk) rfl har (by rw [hE] <;> rfl) (KX0 _ _ lcd) rfl hvs (by rw [hP]; exact hfile) (by rw [hP]; exact Z.top) ?_
    refine ks_loadName_global I.ok.kind eS (Calls.loadGlobal_builtin (by rw [I.ok.glob]; exact I.mod.glob.keeps I.bk) (by rw [hXmg]; exact mS) (by rw [I.ok.blt]; exact I.mod.blt.choose_spec.1.keeps I.bk) ((I.mod.blt.choose_spec.2 _ (by decide)).trans (by first | boot_by_name | rfl | kernel_rfl)) ⟨rfl, ?_⟩)
    refine wpAny_loadName_free I.ok.kind eC (by rw [hE] <;> rfl) ⟨_, KX0 _ _ lcc, rfl⟩ ?_
    rw [harn]
    refine wpAny_loadName_local (v := .ref a) I.ok.kind eL (by rw [hE]; exact hns) (zip_look (i := 0) ndP rfl rfl) ?_
    refine ks_wpAny_isType_cls hD1 rfl ⟨rfl, ?_⟩
    refine ks_wpAny_call_super hD1 rfl ho rfl (fun c z => by cases z) (PySem.W.looks_mroIn KX0 hsub) (fun h' eso k => ?_)
    have I1 : Inv X [] [some (.ref a), some v, some (.ref C)] H { s with heap := h', toks := s.toks + (List.zip (PP par) [Value.ref a, u1]).length } := I.kept k
    have hup : PySem.W.alongIn K "__init__" bm = some (some (.builtin "ValueError.__init__")) := by
      have z := Z.up
      unfold PySem.W.ks_superIn at z
      rw [hclC] at z
      simpa [List.dropWhile_cons] using z
    have KX1 : K.In h' := fun b o e => k b o (KX0 b o e)
    have hty : PySem.W.Looks (model P w) h' (isInstance (.ref a) (.type "ValueError")) true :=
      (show PySem.W.InstAt h' a { cls := .ref C, dict := none, data := .fields #[.ref t1, .none, .none, .none, .bool false, .none] } C none from ⟨k _ _ ho, rfl, rfl, trivial⟩).type.andThen (PySem.W.looks_subIn KX1 Z.isV)
    have hmro : PySem.W.Looks (model P w) h' (mroOf (.ref C)) (.ref C :: bm) := fun A Q E s k q => wpAny_bind ((PySem.W.looks_clsIn KX1 hclC) A _ E s k (wpAny_pure q))
    rw [hP, hW]
    refine PySem.W.kxs_getMethod PySem.W.kxs_ValueError eso (PySem.W.looks_opaque KX1 Z.op) hmro (l := bm) (by simp [List.dropWhile_cons]) KX1 hup hty hxC (by decide) ?_
    have nU : H h'.objs.size = none := I1.hok.fresh (Nat.le_refl _)
    have I2 : Inv X [(h'.objs.size, PySem.W.kxs_mw "ValueError.__init__" a)] [some (.ref a), some v, some (.ref C)] H { s with heap := h'.push (PySem.W.kxs_mw "ValueError.__init__" a), toks := s.toks + (List.zip (PP par) [Value.ref a, u1]).length + 1 } := by
      refine Inv.pins_of (I1.kept fun b o e => Heap.get?_push_of_some _ e) fun p hp => ?_
      rw [List.mem_singleton.mp hp]
      exact ⟨Heap.get?_push_size _ rfl, nU, fun z => absurd I1.lt (by rw [← z]; exact Nat.lt_irrefl _), I1.nofs (Nat.le_refl _), fun v z => by cases z⟩
    rw [hst]
    refine PySem.W.kxs_callWith (i := "ValueError.__init__") (x := a) rfl (evalArgs_plain ?_)
    show wpAny _ _ (spliced ((false, eval e X.env) :: [])) _ _ _
    rw [← hP, ← hW]
    refine Calls.spliced_cons (thn ((he X hsc hXN hXK hXmg).run _ _ _ H (fun x H1 => (∃ y : Str, x = .str y) ∧ H1 = H) I2 (ht a v _ H _ hok fun y => ⟨⟨y, rfl⟩, rfl⟩)) fun ut s1 ⟨xt, H1, I3, rt, ⟨y, ext⟩, eH⟩ => ?_)
    subst ext
    subst eH
    have hu := (I3.pin (h'.objs.size, PySem.W.kxs_mw "ValueError.__init__" a) (List.mem_append_right _ List.mem_cons_self)).1
    refine Calls.spliced_nil ⟨hu, ?_⟩
    show wpAny _ _ (call (.ref h'.objs.size) [ut]) _ _ _
    obtain ⟨t3, ho3⟩ := exo_at I3.hok hea
    obtain ⟨hp3, g3, d3, tk3, os3⟩ := s1
    refine call_bwV (I3.kIn C _ (by rw [hXK]; exact hC)) ho3 hu (by show 1 ≤ sizeLine; rw [sizeLine_eq]; omega) fun h4 t4 k4 hx4 => ?_
    have J := (I3.pins_of (pins' := []) fun p hp => nomatch hp).write (t' := tk3) (x := a) (e := a) (o := exo a C none) (by rw [hea]; exact True.intro) (.inl rfl) k4 ⟨_, hx4⟩ (exo_ok hx4)
    have eu : upd H1 a (exo a C none) = H1 := by
      funext b
      by_cases hb : b = a
      · rw [hb, upd_same, hea]
      · rw [upd_ne hb]
    rw [eu] at J
    refine PySem.wpAt_of_wpAny (hps.run [] _ _ H1 _ J ?_)
    exact ⟨v, rfl, .ref a, rfl, a, C, rfl, hXK ▸ Z.cls, hXK ▸ hf, .inl ⟨hea, fun dx n ne => hq dx n ne⟩⟩
  rw [hP, hW, hA, hE, hxe] at body
  exact ks_wpAt_mono body (fun fl s' h => fin2 h) fun e s' h => h
end Lsup
/-! raising an own error that keeps a field -/
namespace Lw
open PySem PySem.Spec PyProof.Rows L2
/-- the error class x, at C, keeps its argument as fld -/
structure ExB (P : Program) (w : World) (K : PySem.W.Frag) (mg : Str → Option Value) (base : Heap) (x : Str) (C : Addr) (fld par : Str) (okv : V → Prop) : Prop where
  T : OexC K C
  fn : ∃ (fI : Addr) (fd : FuncData), PySem.W.findIn K (.ref C) "__init__" = some (some (.ref fI)) ∧ PySem.W.typeIn K (.ref fI) = some (.type "function") ∧ FnOk P w K mg base CX0 1 fI fd ["self", par] (Lsup.spSup C fld okv) ∧ Binds K fd ["self", par] []
  g : mg x = some (.ref C)
theorem r_mkT {C : Addr} {sp : Sp} {dvs : List V} {ta : TA} {σ : L2.St} {H : Hp} {Q : XK} (h : ta σ H fun vs H1 => vs.length ≤ 1000 ∧ ∀ a, H1 a = none → sp (.ref a :: (vs ++ dvs)) (upd H1 a (exo a C none))
      (fun v H2 => v = .non ∧ ∃ (d : Addr) (fs : List (Str × V)), H2 a = some (exo a C (some d)) ∧ H2 d = some (exd d fs) ∧ H1 d = none ∧ Q (.ref C) (some d) (upd (del H2 a) d (.xd fs))) (fun _ _ _ => False)) : tMkO C sp dvs ta σ H Q := h
theorem mkO_end {C : Addr} {fld : Str} {okv : V → Prop} {H1 : Hp} {Q : XK} {v : V} (hv : okv v) (q : ∀ H' d, Same H1 H' → H' d = some (.xd [(fld, v)]) → Q (.ref C) (some d) H') :
    [v].length ≤ 1000 ∧ ∀ a, H1 a = none → Lsup.spSup C fld okv (.ref a :: ([v] ++ [])) (upd H1 a (exo a C none))
      (fun x H2 => x = .non ∧ ∃ (d : Addr) (fs : List (Str × V)), H2 a = some (exo a C (some d)) ∧ H2 d = some (exd d fs) ∧ H1 d = none ∧ Q (.ref C) (some d) (upd (del H2 a) d (.xd fs))) (fun _ _ _ => False) := by
  refine ⟨by simp, fun a na => ⟨a, v, rfl, hv, upd_same, fun dx ndx hne => ⟨rfl, dx, [(fld, v)], upd_same, by rw [upd_ne hne]; exact upd_same, ?_, q _ dx (fun b o hb => ?_) upd_same⟩⟩⟩
  · rw [upd_ne hne] at ndx
    exact ndx
  · have hba : b ≠ a := fun z => by rw [z, na] at hb; cases hb
    rw [upd_ne hne] at ndx
    have hbd : b ≠ dx := fun z => by rw [z, ndx] at hb; cases hb
    rw [upd_ne hbd, del_ne hba, upd_ne hba, upd_ne hbd, upd_ne hba]
    exact hb
end Lw
namespace K06
open PySem PySem.Spec PyProof.Rows L2 Lw


local macro_rules | `(tactic| walk_at "look") => `(tactic| first
  | assumption
  | with_reducible exact upd_same
  | with_reducible exact rg_st
  | with_reducible exact rg_g (by assumption)
  | (with_reducible refine upd_old (by assumption) ?_; walk_at "look")
  | (with_reducible refine rg_get (by assumption) ?_; walk_at "look")
  | (with_reducible refine Same.get (by assumption) ?_; walk_at "look"))
local macro_rules | `(tactic| walk_at "cond") => `(tactic| first
  | (show _ ≠ _; omega) | exact cdivN (by omega) (by omega) | exact cmul_mod (by decide) (by decide) | exact cmulR (by omega) (by omega) | exact cmulL (by omega) (by omega) | exact cpow (by omega) (by omega) (by omega) (by omega) | (show (0:Int) ≤ _; omega))
local macro_rules | `(tactic| walk_at "at") => `(tactic| first | assumption | with_unfolding_all rfl)
local macro_rules | `(tactic| walk_at "sz") => `(tactic| first | assumption | (refine small ?_; omega) | (refine small ?_; simp only [List.length_map, List.length_append, List.length_cons, List.length_nil]; omega))
local macro_rules | `(tactic| walk_at "len") => `(tactic| first | exact size_nil | exact Nat.le_of_lt (small (by simp only [List.length_cons, List.length_nil, List.length_map]; omega)))
local macro_rules | `(tactic| walk_at "newD") => `(tactic| (refine ⟨by walk_at "len", fun p np => ?_⟩; obtain ⟨e, o', hD', n', ne'⟩ := newTD_eq (topRg _ _) (by assumption) (by assumption) np (.lst _); rw [e]; clear e))
local macro_rules | `(tactic| walk_at "new") => `(tactic| (refine ⟨by walk_at "len", fun p np => ?_⟩; obtain ⟨e, o', n'⟩ := newT_eq (topRg _ _) (by assumption) np (.lst _); rw [e]; clear e))
local macro_rules | `(tactic| walk_at "st") => `(tactic| first
  | with_reducible refine r_seq ?_
  | with_reducible refine r_var rfl ?_
  | with_reducible refine r_c ?_
  | with_reducible refine r_asg ?_
  | (with_reducible refine r_name ?_; dsimp only [List.set_cons_zero, List.set_cons_succ])
  | with_reducible refine r_sub ?_
  | with_reducible refine r_op ?_
  | with_reducible refine r_i0 ?_
  | (with_reducible refine' r_i ?k1 ?_; (case k1 => walk_at "cond"))
  | with_reducible refine r_cons ?_
  | with_reducible refine r_nil ?_
  | with_reducible refine r_cb ?_
  | with_reducible refine r_call ?_
  | with_reducible refine r_ifs ?_
  | with_reducible refine r_test ?_
  | with_reducible refine r_tB ?_
  | with_reducible refine r_bl ?_
  | with_reducible refine r_ret ?_
  | with_reducible refine r_drop ?_
  | with_reducible refine r_next ?_
  | (with_reducible refine' r_ixL ?k1 ?k2 ?_; (case k1 => walk_at "look"); (case k2 => walk_at "at"))
  | (with_reducible refine' r_setL ?k1 ?k2 ?_; (case k1 => walk_at "look"); (case k2 => walk_at "at"))
  | (with_reducible refine' r_tup (SqT.of ?k1) ?k2 ?_; (case k1 => walk_at "look"); (case k2 => rfl))
  | with_reducible refine r_gcons ?_
  | with_reducible refine r_gnil ?_
  | with_reducible refine r_aug rfl ?_
  | with_reducible refine r_augS ?_
  | with_reducible refine r_ipI ?_
  | with_reducible refine r_un ?_
  | with_reducible refine r_u ?_
  | with_reducible refine r_eq rfl ?_
  | with_reducible refine r_ne rfl ?_
  | with_reducible refine r_chain ?_
  | with_reducible refine iteF ?_
  | with_reducible refine r_not ?_
  | with_reducible refine r_and ?_
  | with_reducible refine r_or ?_
  | with_reducible refine r_andV ?_
  | with_reducible refine r_orV ?_
  | with_reducible refine r_notV ?_
  | with_reducible refine r_lst ?_
  | with_reducible refine r_bm ?_
  | with_reducible refine r_bm0 ?_
  | (with_reducible refine' And.intro (r_ty ?k1) ?_; (case k1 => walk_at "look"))
  | (with_reducible refine' r_append ?k1 ?k2 ?_; (case k1 => walk_at "look"); (case k2 => walk_at "sz"))
  | (with_reducible refine' r_lenK ?k1 ?_; (case k1 => walk_at "look"))
  | (with_reducible refine' r_listOf ?k1 ?_; (case k1 => walk_at "look"))
  | (with_reducible refine' r_sortedI ?k1 ?_; (case k1 => walk_at "look"))
  | (with_reducible refine' r_sum ?k1 ?_; (case k1 => walk_at "look"))
  | with_reducible refine r_int ?_
  | (with_reducible refine' r_draw (by assumption) ?k1 ?k2 ?_; (case k1 => omega); (case k2 => omega); intro R' n' o' h' h'')
  | with_reducible refine iteT ?_
  | with_reducible refine r_revL ?_
  | with_reducible refine r_lc ?_
  | with_reducible refine r_yes ?_
  | with_reducible refine r_sl ?_
  | with_reducible refine iteNTr ?_
  | with_reducible refine iteNFa ?_
  | with_reducible refine r_fld ?_
  | with_reducible refine r_sFld ?_
  | with_reducible refine r_meth ?_
  | with_reducible refine r_methT ?_
  | with_reducible refine r_prop ?_
  | with_reducible refine r_dget ?_
  | with_reducible refine r_dput ?_
  | with_reducible refine r_noPart ?_
  | with_reducible refine r_part ?_
  | with_reducible refine r_lc2 ?_
  | with_reducible refine r_callN ?_
  | with_reducible refine r_callD ?_
  | with_reducible refine r_tupE ?_
  | with_reducible refine r_rng2 ?_
  | with_reducible refine r_i1 ?_
  | (with_reducible refine' r_slL ?k1 ?_; (case k1 => walk_at "look"))
  | with_reducible refine r_for ?_
  | with_reducible refine r_iList ?_
  | with_reducible refine r_rng1 ?_
  | with_reducible refine r_enum ?_
  | (with_reducible show Ends.nx _ _ _; dsimp only)
  | (with_reducible show Ends.rt _ _ _; dsimp only)
  | (with_reducible show Ends.ct _ _ _; dsimp only)
  | (with_reducible show Ends.bk _ _ _; dsimp only))
local macro_rules | `(tactic| walk_at "go") => `(tactic| repeat (walk_at "st"))
local macro_rules | `(tactic| walk_at "begin") => `(tactic| dsimp only [cxOf, wipe, L2.start, List.map, List.length_cons, List.length_nil, Nat.reduceAdd, Nat.reduceSub, List.replicate, List.cons_append, List.nil_append])


/-- an error class of ours -/
structure ExN (K : PySem.W.Frag) (mg : Str → Option Value) (x : Str) (C : Addr) : Prop where
  g : mg x = some (.ref C)
  x : PySem.W.excIn K C [.type "ValueError", .type "Exception", .type "BaseException", .type "object"] "ValueError.__new__" = true
  k : PySem.W.keepIn K (.ref C) = true
  b : PySem.W.subIn K (.ref C) (.type "BaseException") = some true
  t : PySem.W.typeIn K (.ref C) = some (.type "type")
structure ZCo (mg : Str → Option Value) (tk tk2 : Tok) : Prop where
  g1 : mg "MOST_CHARACTERS" = some (.int 2000 tk)
  g2 : mg "MOST_BRACES_DEEP" = some (.int 60 tk2)
/-- a number that an error may keep -/
def okI : V → Prop := fun v => ∃ i : Nat, v = .int ((i : Nat) : Int) ∧ i ≤ 5000
def spRead (K : PySem.W.Frag) (C CT CB : Addr) : Sp := fun vs H Q E => ∃ (U : Addr → Prop) (t : Str), vs = [.str t] ∧ (∀ c, H c = none → U c) ∧ t.length ≤ 5000000 ∧
  ((2000 < t.length ∨ 60 < Rd.deep (Ak.L t)) → E (.ref CT) none H) ∧ (t.length ≤ 2000 → Rd.deep (Ak.L t) ≤ 60 →
    (∀ (i : Nat), Rd.out (Ak.L t) = .inl i → ∀ H2 d, Same H H2 → H2 d = some (.xd [("at", .int ((i : Nat) : Int))]) → E (.ref CB) (some d) H2) ∧
    (∀ (n : Nat) (H2 : Hp) (x : Addr), Rd.out (Ak.L t) = .inr n → Ak.br n ≤ 2000 → Ak.Few 700 n → Ak.dep n ≤ 60 → Same H H2 → NAt K C U H2 x n → Q (.ref x) H2))
section
variable {P : Program} {w : World} {K : PySem.W.Frag} {mg : Str → Option Value} {base : Heap} {C CT CB : Addr}
theorem ok_read {f f1 f2 : Addr} {fd fd1 fd2 : FuncData} {tk tk2 : Tok} (B : Blt mg) (NX0 : NX P w K mg base C) (ETooGreat : ExN K mg "TooGreat" CT) (SB : ExB P w K mg base "BadText" CB "at" "at" okI) (ZC : ZCo mg tk tk2) (D : Dn K mg "read_nest" s_read_nest ["text"] f fd)
    (Dbraces_deep : Dn K mg "braces_deep" s_braces_deep ["text"] f1 fd1) (Gbraces_deep : FnOk P w K mg base CX0 1 f1 fd1 ["text"] spDeep)
    (Dcharacters_after : Dn K mg "characters_after" s_characters_after ["previous", "depth"] f2 fd2) (Gcharacters_after : FnOk P w K mg base CX0 1 f2 fd2 ["previous", "depth"] spAfter) :
    FnOk P w K mg base (L2.CX P w) 9 f fd ["text"] (spRead K C CT CB) := by
  have Z := NX0.Z
  obtain ⟨fi, fdi, MCNest, bNest, GNest⟩ := NX0.init
  obtain ⟨fIB, fdB, iB, tB, GB, bB⟩ := SB.fn
  refine D.F.okX sc_read_nest (fun vs H Q E h => ?_) (fun cdv A outer s H vs Q E hr h => ?_)
  · obtain ⟨U, t, rfl, _⟩ := h
    rfl
  · obtain ⟨U, t, rfl, hU, htl, qe, q⟩ := h
    refine ⟨_, (pss_cons (ps_if (pt_cmpR op_gt (pe_callB call_len_str (by rfl) B.m_len PySem.boot_len (pa_cons (pv 0) pa_nil)) (pe_glob (v := .int 2000) rfl ZC.g1 ⟨_, rfl⟩) (nomark _)) (pss_one (ps_raise rfl (takes_of rfl rfl rfl rfl) (pmk_own PySem.F.excBase_ValueError ETooGreat.x ETooGreat.g ETooGreat.k (raises_own ETooGreat.b ETooGreat.t) (by rfl)))) pss_nil)
      (pss_cons (ps_if (pt_cmpR op_gt (pe_call Gbraces_deep (hr.mono (by decide)) (by rfl) Dbraces_deep.g Dbraces_deep.F.kp Dbraces_deep.b .nil pass0 (pa_cons (pv 0) pa_nil)) (pe_glob (v := .int 60) rfl ZC.g2 ⟨_, rfl⟩) (nomark _)) (pss_one (ps_raise rfl (takes_of rfl rfl rfl rfl) (pmk_own PySem.F.excBase_ValueError ETooGreat.x ETooGreat.g ETooGreat.k (raises_own ETooGreat.b ETooGreat.t) (by rfl)))) pss_nil)
      (pss_cons (ps_set (i := 1) sc_read_nest.nd rfl (.inl rfl) (pe_lst (pa_cons (pe_lst pa_nil) pa_nil)))
      (pss_cons (ps_set (i := 2) sc_read_nest.nd rfl (.inl rfl) pe_str)
      (pss_cons (ps_for (passes_of rfl) rfl (pi_enumS (by rfl) B.m_enumerate (pa_cons (pv 0) pa_nil)) (pg_tupK (K := K) (n := 2) rfl rfl (pgs_cons (pg_name (i := 3) sc_read_nest.nd rfl (.inl rfl)) (pgs_cons (pg_name (i := 4) sc_read_nest.nd rfl (.inl rfl)) pgs_nil))) (pss_cons (ps_if (pt_cmpR op_notInS (pv 4) (pe_call Gcharacters_after (hr.mono (by decide)) (by rfl) Dcharacters_after.g Dcharacters_after.F.kp Dcharacters_after.b .nil pass0 (pa_cons (pv 2) (pa_cons (pe_op op_sub (pe_callB (call_len_seqK (K := K) rfl) (by rfl) B.m_len PySem.boot_len (pa_cons (pv 1) pa_nil)) pe_int) pa_nil))) (by rfl)) (pss_one (ps_raise rfl (takes_of rfl rfl rfl rfl) (pmk_oex SB.T iB tB GB (hr.mono (by decide)) bB .nil pass0 (by rfl) SB.g (pa_cons (pv 3) pa_nil)))) pss_nil)
      (pss_cons (ps_if (pt_cmpR op_eq (pv 4) pe_str (nomark _)) (pss_one (ps_expr (pe_bmK (K := K) rfl PySem.F.plainAttrs_list PySem.F.slot_list_append PySem.F.type_list_append mt_append (pv 1) (pa_cons (pe_lst pa_nil) pa_nil)))) (pss_one (ps_if (pt_cmpR op_eq (pv 4) pe_str (nomark _)) (pss_cons (ps_set (i := 5) sc_read_nest.nd rfl (.inl rfl) (pe_bm0K (K := K) rfl PySem.F.plainAttrs_list PySem.F.slot_list_pop PySem.F.type_list_pop mt_pop (pv 1)))
      (pss_one (ps_expr (pe_bmK (K := K) rfl PySem.F.plainAttrs_list PySem.F.slot_list_append PySem.F.type_list_append mt_append (pe_ix (ix_listK (K := K) rfl) (pv 1) (pe_un un_neg pe_int) (fun _ _ => rfl)) (pa_cons (pe_make MCNest GNest (hr.mono (by decide)) (by rfl) Z.gN bNest .nil pass0 (pa_cons (pv 5) pa_nil)) pa_nil))))) pss_nil)))
      (pss_one (ps_set (i := 2) sc_read_nest.nd rfl (.inl rfl) (pv 4))))))
      (pss_cons (ps_if (PW.pt (pw_or (pt_cmpR op_eq (pv 0) pe_str (nomark _)) (pw_or1 (pt_cmpR op_gt (pe_callB (call_len_seqK (K := K) rfl) (by rfl) B.m_len PySem.boot_len (pa_cons (pv 1) pa_nil)) pe_int (nomark _))))) (pss_one (ps_raise rfl (takes_of rfl rfl rfl rfl) (pmk_oex SB.T iB tB GB (hr.mono (by decide)) bB .nil pass0 (by rfl) SB.g (pa_cons (pe_callB call_len_str (by rfl) B.m_len PySem.boot_len (pa_cons (pv 0) pa_nil)) pa_nil)))) pss_nil)
      (pss_one (ps_ret (pe_ix (ix_listK (K := K) rfl) (pe_ix (ix_listK (K := K) rfl) (pv 1) pe_int (fun _ _ => rfl)) pe_int (fun _ _ => rfl)))))))))), ?_⟩
    walk_at "begin"
    walk_at "go"
    refine ⟨t, rfl, big (by omega), ?_⟩
    walk_at "go"
    refine r_ite (fun z => ?_) (fun z1 => ?_)
    · exact qe (.inl (by omega))
    walk_at "go"
    refine ⟨t, rfl, ?_⟩
    walk_at "go"
    refine r_ite (fun z => ?_) (fun z2 => ?_)
    · exact qe (.inr (by omega))
    have hl2 : t.length ≤ 2000 := by omega
    have hd60 : Rd.deep (Ak.L t) ≤ 60 := by omega
    have hsz : (Ak.L t).length = t.length := Array.length_toList
    obtain ⟨qb, qn⟩ := q hl2 hd60
    have hlL : (Ak.L t).length ≤ 2000 := by omega
    clear qe q
    walk_at "go"
    refine ⟨by walk_at "len", fun D0 nD0 => ?_⟩
    walk_at "go"
    refine ⟨by walk_at "len", fun u nu => ?_⟩
    have hK0 : StkAt K C U (upd (upd H D0 (.lst [])) u (.lst [.ref D0])) u [D0] [[]] := StkAt.start nD0 nu
    have sS : Same H (upd (upd H D0 (.lst [])) u (.lst [.ref D0])) := (same_new nD0).trans (same_new nu)
    have hu0 : H u = none := (upd_none nu).2
    have hf0 : ∀ d ∈ [D0], H d = none := fun d hd => by rw [List.mem_singleton.mp hd]; exact nD0
    generalize upd (upd H D0 (.lst [])) u (.lst [.ref D0]) = H1 at hK0 sS ⊢
    clear nu nD0
    walk_at "go"
    refine r_enumS ?_
    walk_at "go"
    refine ⟨t, rfl, ?_⟩
    refine r_forES (fun i σ H' => ∃ (ds : List Addr) (st : List (List Nat)) (ps : Str) (p : Nat) (y3 y4 y5 : Option V), σ = [some (.str t), some (.ref u), some (.str ps), y3, y4, y5] ∧ Same H H' ∧ StkAt K C U H' u ds st ∧ (∀ d ∈ ds, H d = none) ∧ Sgn ps p ∧ Rd.Nice (Ak.L t) i st p) ?_ ?_ ?_
    · exact ⟨[D0], [[]], "", 0, _, _, _, rfl, sS, hK0, hf0, .inl ⟨rfl, rfl⟩, Rd.Nice.start _⟩
    · clear sS hK0 hf0 H1 D0
      rintro i c σ H' hc ⟨ds, st, ps, p, y3, y4, y5, rfl, sS, hK, hf, hp, hN⟩ T nT
      have hi : i < t.length := by rw [← hsz]; exact (List.getElem?_eq_some_iff.mp hc).1
      have s1 := same_new (o := .tup [.int (i : Nat), .str ⟨#[c]⟩]) nT
      have hT : (upd H' T (.tup [.int (i : Nat), .str ⟨#[c]⟩])) T = some (.tup [.int (i : Nat), .str ⟨#[c]⟩]) := upd_same
      generalize upd H' T (.tup [.int (i : Nat), .str ⟨#[c]⟩]) = H2 at s1 hT ⊢
      replace sS := sS.trans s1
      replace hK := hK.mono s1
      clear s1 nT H'
      have hG := hN.G
      have hlen1 : 1 ≤ st.length := Nat.pos_of_ne_zero fun z => hG.nonempty (List.length_eq_zero_iff.mp z)
      have hu := hK.hu
      have hdl := hK.len
      walk_at "go"
      refine r_tup (SqT.of hT) rfl ?_
      walk_at "go"
      rw [List.length_map, List.length_reverse, hdl]
      refine ⟨ps, p, st.length - 1, by rw [show ((st.length : Nat) : Int) - 1 = ((st.length - 1 : Nat) : Int) from by omega]; rfl, hp, fun z hz => ?_⟩
      refine ⟨c, z, rfl, rfl, ?_⟩
      rw [hz c]
      by_cases hok : Rd.okc p (st.length - 1) c = true
      rotate_left
      · have hok2 : Rd.okc p (st.length - 1) c = false := by simpa using hok
        rw [hok2]
        walk_at "go"
        have ho := hN.bad hc hok2
        refine r_mkT ?_
        walk_at "go"
        exact mkO_end ⟨i, rfl, by omega⟩ fun H3 d s3 hd => qb i ho H3 d (sS.trans s3) hd
      rw [hok]
      have hcase := hN.next hd60 hlL hc hok
      walk_at "go"
      refine r_ite (fun zb => ?_) (fun zb => ?_)
      · rcases hcase with ⟨rfl, hG2⟩ | ⟨rfl, _⟩ | ⟨rfl, _⟩
        · walk_at "go"
          refine ⟨by walk_at "len", fun D nD => ?_⟩
          obtain ⟨e1, hK2⟩ := hK.push nD
          have hz9 : (ds.reverse.map V.ref).length < sizeLine := small (by rw [List.length_map, List.length_reverse, hdl]; have := hG.len; have := Rd.deep_ge (Ak.L t) i; omega)
          walk_at "go"
          exact ⟨D :: ds, [] :: st, ⟨#[123]⟩, 123, _, _, _, rfl, same_off hu0 (sS.trans (same_new nD)), hK2, fun d hd => (List.mem_cons.mp hd).elim (fun e => by rw [e]; exact sS.free nD) (hf d), .inr rfl, hG2⟩
        · exact absurd ((q_brace 125).mp zb) (by decide)
        · exact absurd ((q_brace 44).mp zb) (by decide)
      · have hne : c ≠ 123 := fun e => zb ((q_brace c).mpr e)
        walk_at "go"
        refine r_ite (fun zc => ?_) (fun zc => ?_)
        · rcases hcase with ⟨rfl, _⟩ | ⟨rfl, a, b, s, rfl, hG2⟩ | ⟨rfl, _⟩
          · exact absurd rfl hne
          · match ds, hK, hf, hdl with
            | d0 :: d1 :: ds, hK, hf, hdl =>
              obtain ⟨pa, pb⟩ := pop_ref (d := d0) (ds := d1 :: ds)
              obtain ⟨as, hd0, hN0, hK2⟩ := hK.pop
              walk_at "go"
              refine r_pop hK.hu pa ?_
              rw [pb]
              replace sS := same_off (o := .lst ((d1 :: ds).reverse.map V.ref)) hu0 sS
              generalize upd H2 u (.lst ((d1 :: ds).reverse.map V.ref)) = H3 at hd0 hN0 hK2 sS ⊢
              have hal := hN0.len
              have htop := hG.top a rfl
              have hi5 : (if p = 125 then 1 else 0) ≤ 1 := by split <;> omega
              have hu3 := hK2.hu
              walk_at "go"
              refine r_ixL hu3 last_ref ?_
              obtain ⟨o1, ho1⟩ := hK2.there (d := d1) List.mem_cons_self
              refine ⟨?_, ?_⟩
              · obtain ⟨bs, hb, _⟩ := hK2.at_ 0 d1 b rfl rfl
                exact r_ty hb
              walk_at "go"
              refine r_make ?_
              walk_at "go"
              refine r_nestA hd0 hN0 (fun c hc => ⟨hU c (sS.free hc), (fun z => by rw [z, hu3] at hc; cases hc), (fun z => by obtain ⟨o, e⟩ := hK2.there z; rw [e] at hc; cases hc)⟩) (by omega) (fun m hm => by have := hG.dep 0 a rfl m hm; omega) ?_
              intro H4 x s4 nx hX
              have hK4 := hK2.mono s4
              obtain ⟨bs, hb, hbl, hK5⟩ := hK4.put hX
              have hz9 : (bs.map V.ref).length < sizeLine := small (by rw [List.length_map, hbl]; have := hG.rest 0 b rfl; omega)
              walk_at "go"
              rw [refs_push]
              exact ⟨d1 :: ds, (b ++ [Ak.num a]) :: s, ⟨#[125]⟩, 125, _, _, _, rfl, same_off (hf d1 (by simp)) (sS.trans s4), hK5, fun d hd => hf d (List.mem_cons_of_mem _ hd), .inr rfl, hG2⟩
            | [d0], hK, hf, hdl => simp at hdl
            | [], hK, hf, hdl => simp at hdl
          · exact absurd ((q_close 44).mp zc) (by decide)
        · rcases hcase with ⟨rfl, _⟩ | ⟨rfl, _⟩ | ⟨rfl, hG2⟩
          · exact absurd rfl hne
          · exact absurd ((q_close 125).mpr rfl) zc
          · walk_at "go"
            exact ⟨ds, st, ⟨#[44]⟩, 44, _, _, _, rfl, sS, hK, hf, .inr rfl, hG2⟩
    · rintro σ H2 ⟨ds, st, ps, p, y3, y4, y5, rfl, sS, hK, hf, hp, hN⟩
      have hsz2 : t.cps.size = (Ak.L t).length := Array.length_toList.symm
      rw [hsz2] at hN
      have hu := hK.hu
      have hdl := hK.len
      rcases hN.last with ⟨rfl, hl0, ho⟩ | ⟨n, rfl, hl0, ho, hn1, hn2, hn3⟩ | ⟨h2, ho⟩
      · have ht0 : t = "" := Ak.L_inj (by rw [hl0]; decide +kernel)
        walk_at "go"
        refine r_ite (fun _ => ?_) (fun z => absurd (congrArg V.str ht0) z)
        walk_at "go"
        refine r_mkT ?_
        walk_at "go"
        refine ⟨t, rfl, big (by omega), ?_⟩
        walk_at "go"
        exact mkO_end ⟨t.length, rfl, by omega⟩ fun H3 d s3 hd => qb _ ho H3 d (sS.trans s3) (by rw [hsz]; exact hd)
      · have hne : t ≠ "" := fun z => hl0 (by rw [z]; decide +kernel)
        match ds, hK, hf, hu, hdl with
        | [d0], hK, hf, hu, hdl =>
          obtain ⟨as, hd0, hN0⟩ := hK.at_ 0 d0 [n] rfl rfl
          have hal := hN0.len
          walk_at "go"
          refine r_ite (fun z => absurd (V.str.inj z) hne) (fun _ => ?_)
          walk_at "go"
          refine r_ite (fun z => by simp at z) (fun _ => ?_)
          walk_at "go"
          match as, hal, hd0, hN0 with
          | [x], _, hd0, hN0 =>
            walk_at "go"
            obtain hx := hN0.at_ 0 x n rfl rfl
            exact qn n H2 x ho (by omega) hn2 hn3 sS (hx.weak fun c hc => hc.1)
        | [], hK, hf, hu, hdl => simp at hdl
        | d0 :: d1 :: ds, hK, hf, hu, hdl => simp at hdl
      · have rz : [V.int ((t.length : Nat) : Int)].length ≤ 1000 ∧ _ := mkO_end (C := CB) (fld := "at") (okv := okI) (Q := E) (H1 := H2) ⟨t.length, rfl, by omega⟩ fun H3 d s3 hd => qb _ ho H3 d (sS.trans s3) (by rw [hsz]; exact hd)
        walk_at "go"
        refine r_ite (fun _ => ?_) (fun z => ?_)
        · walk_at "go"
          refine r_mkT ?_
          walk_at "go"
          refine ⟨t, rfl, big (by omega), ?_⟩
          walk_at "go"
          exact rz
        walk_at "go"
        refine r_ite (fun _ => ?_) (fun z2 => absurd z2 ?_)
        · walk_at "go"
          refine r_mkT ?_
          walk_at "go"
          refine ⟨t, rfl, big (by omega), ?_⟩
          walk_at "go"
          exact rz
        · simp
          omega
end

end K06
/-! text * int, slices of texts -/
namespace Lw
open PySem PySem.Spec PyProof.Rows L2
def rMulS : R2 := fun x y H Q => ∃ (z : Str) (n : Nat), x = .str z ∧ y = .int ((n : Nat) : Int) ∧ n ≤ 1000 ∧ z.length ≤ 1000 ∧ ∀ t : Str, t.length ≤ z.length * n → Q (.str t) H
theorem op_mulS {X : Cx} : OpR X (binaryOp .Mult) rMulS := by
  intro pins s σ H x y v u Q I rx ry h
  obtain ⟨z, n, rfl, rfl, hn, hz, q⟩ := h
  obtain ⟨t, rfl⟩ := rx
  obtain ⟨t2, rfl⟩ := ry
  have hzn : z.length * n ≤ 1000 * 1000 := Nat.mul_le_mul hz hn
  refine SB.mul ⟨?_, fun h1 h2 h3 => ?_, fun h1 h2 => ?_⟩ fun t' k => ⟨.str (Txt.mul z n), H, I.tok _, ⟨_, rfl⟩, q _ (len_mul_leN (Nat.le_refl _) (by omega))⟩
  · have e1 : decide (((n : Nat) : Int) < -(2 ^ 63 : Int)) = false := decide_eq_false (by omega)
    have e2 : decide (((n : Nat) : Int) ≥ 2 ^ 63) = false := decide_eq_false (by omega)
    rw [e1, e2]; rfl
  · have hpos : (0 : Int) < (n : Int) := by omega
    have : (1000 : Int) ≤ (2 ^ 63 - 1) / (n : Int) := by
      rw [Int.le_ediv_iff_mul_le hpos]
      omega
    omega
  · have : z.length * (n : Int).toNat ≤ 1000 * 1000 := by rw [Int.toNat_natCast]; exact hzn
    unfold Builtin.Str.tooLong
    rw [decide_eq_false_iff_not, sizeLine_eq]
    omega
section
variable {H : Hp} {Q : VK}
theorem r_mulS {z : Str} {n : Nat} (h1 : n ≤ 1000) (h2 : z.length ≤ 1000) (q : ∀ t : Str, t.length ≤ z.length * n → Q (.str t) H) : rMulS (.str z) (.int ((n : Nat) : Int)) H Q := ⟨z, n, rfl, rfl, h1, h2, q⟩
theorem r_slS {z : Str} {lo hi : Option Int} (h : z.length ≤ sizeLine) (q : ∀ t : Str, t.length ≤ z.length → Q (.str t) H) : rSlS (.str z) lo hi H Q := ⟨z, rfl, h, q _ (cutS_length z lo hi)⟩
theorem r_repS {a : Addr} {x : Str} {k : Nat} (h : H a = some (.lst [.str x])) (hk : k ≤ 1000) (q : ∀ p, H p = none → Q (.ref p) (upd H p (.lst ((List.replicate k x).map V.str)))) : rRep (.ref a) (.int ((k : Nat) : Int)) H Q :=
  ⟨a, k, [.str x], rfl, rfl, h, by omega, by omega, by rw [Int.toNat_natCast, sizeLine_eq, List.length_singleton]; omega, fun p hp => by
    rw [Int.toNat_natCast, List.flatten_replicate_singleton, ← List.map_replicate]
    exact q p hp⟩
end
end Lw
namespace Ak
open PySem
theorem join0_len (l : List Str) : (Txt.join "" l).length ≤ (l.map (·.length)).sum := by
  have e : Txt.join "" l = Str.join "" l := StrLaws.glued_eq_join _ _
  rw [e]
  have := StrLaws.join_length_le "" l
  rw [show (("" : Str)).length = 0 from by decide +kernel] at this
  omega
end Ak
/-! set(a list of texts), sorted(a set of texts) -/
namespace Lw
open PySem PySem.Spec PySem.Froz PyProof.Rows L2
/-- the texts l, each once, are the set at a -/
def SetS (P : Program) (w : World) (h : Heap) (a : Addr) (l : List Str) : Prop := ∃ D : SD, h.get? a = some (sObj "set" D) ∧ TxOk P w D l ∧ Ris D.2.2.place.toList ∧ (w.params.followText "set-order" = true ∨ D.2.2.led = true) ∧ l.Nodup
theorem SetS.at {P : Program} {w : World} {h h' : Heap} {a : Addr} {l : List Str} (R : SetS P w h a l) (k : ∀ o, h.get? a = some o → h'.get? a = some o) : SetS P w h' a l := by
  obtain ⟨D, h1, r⟩ := R
  exact ⟨D, k _ h1, r⟩
theorem tailTx_ris {ep : Nat} {es : Array (Int × Value)} {t : SetTable} {b : Bool} (r : Ris t.place.toList) : Ris (tailTx ep es t b).2.2.place.toList := by
  unfold tailTx
  split
  · exact relayAll_ris _ _ _
  · exact r
theorem tailTx_led {ep : Nat} {es : Array (Int × Value)} {t : SetTable} {b : Bool} : (tailTx ep es t b).2.2.led = t.led := by
  unfold tailTx
  split
  · exact relayAll_led _ _ _
  · rfl
theorem addTx_ris {h : Int} {v : Value} {D : SD} (r : Ris D.2.2.place.toList) : Ris (addTx h v D).2.2.place.toList := by
  have := layNew_ris D.2.2 D.1 h v r
  unfold addTx
  refine tailTx_ris ?_
  split
  · exact this
  · exact this
theorem addTx_led {h : Int} {v : Value} {D : SD} : (addTx h v D).2.2.led = D.2.2.led := by
  have := layNew_led D.2.2 D.1 h v
  unfold addTx
  rw [tailTx_led]
  split
  · exact this
  · exact this
section
variable {P : Program} {w : World} {A : Around} {E : Value → Shared → Prop} {s : Shared}
theorem setS_add {a : Addr} {l : List Str} {k : Str} {tk : Tok} {Q : Bool → Shared → Prop} (R : SetS P w s.heap a l) (room : l.length + 1 < scanBound)
    (hQ : ∀ h' b, Heap.SameBut a s.heap h' → SetS P w h' a (if k ∈ l then l else k :: l) → Q b { s with heap := h' }) : wpAny (model P w) A (setAddHashed a (.str k tk) ((PySem.strKind P w).hash k)) Q E s := by
  obtain ⟨D, ho, T, r, ld, nd⟩ := R
  by_cases hk : k ∈ l
  · rw [if_pos hk] at hQ
    have sc : (Value.str k tk).scannable = true := rfl
    have hz : D.1.size < scanBound := by rw [T.sz]; omega
    unfold setAddHashed setAddHashedIn
    refine wpAny_holding (wpAny_bind (wpAny_setState_of ho rfl T.fit ?_))
    dsimp only
    rw [byScan_of sc hz T.el]
    simp only [↓reduceIte]
    unfold setAddByScan
    refine wpAny_bind (wpAny_bind (wpAny_rule ?_))
    refine wpAny_bind (wpAny_setScan_of (is_str (P := P) (w := w) k tk) ho rfl T.fit T.el ?_)
    obtain ⟨e, he, q⟩ := (T.mem k).mp hk
    cases hf : List.findIdx? (fun e => (PySem.strKind P w).is k e.2) D.1.toList with
    | none =>
      have := List.findIdx?_eq_none_iff.mp hf e he
      rw [q] at this
      cases this
    | some j =>
      dsimp only
      exact wpAny_pure (wpAny_pure (hQ s.heap _ (Heap.SameBut.refl a s.heap) ⟨D, ho, T, r, ld, nd⟩))
  · rw [if_neg hk] at hQ
    refine add_x ho T hk room (hQ _ _ (Heap.SameBut.update _ _ _) ⟨_, get_upd _ ho rfl, add_ok tk T, addTx_ris r, by rw [addTx_led]; exact ld, List.nodup_cons.mpr ⟨hk, nd⟩⟩)
theorem setS_update {I : Addr} {fp wr : List Addr} {G : Array GenState → Array GenState → Prop} {n : Nat} {Pv : Nat → Value → Prop} {St : Nat → Shared → Prop} {R : Result → Shared → Prop}
    (W : WalksS P w A.in1 I fp wr G n Pv St) (S : Addr) (hSf : S ∉ fp) (xs : List Str) (hn : n = xs.length) (hb : xs.length + 1 < scanBound) (hval : ∀ i v, Pv i v → ∃ k t, xs[i]? = some k ∧ v = .str k t) :
    ∀ (m i : Nat) (s : Shared), n - i = m → i ≤ n → St i s → (∃ l : List Str, l.length ≤ i ∧ (∀ x, x ∈ l ↔ x ∈ xs.take i) ∧ SetS P w s.heap S l) →
      (∀ s' l, Moved (S :: wr) G s s' → l.length ≤ n → (∀ x, x ∈ l ↔ x ∈ xs) → SetS P w s'.heap S l → R (.ok (.ret .none)) s') →
      codeAny (model P w) A (.builtin "set.update.loop" ⟨[.ref S, .ref I], []⟩) R s := by
  have hSw : S ∉ wr := fun h => hSf (W.sub _ h)
  have hsub : ∀ b ∈ wr, b ∈ S :: wr := fun b hb => List.mem_cons_of_mem _ hb
  intro m
  induction m with
  | zero =>
    intro i s hk hi hst ⟨l, hl, hm, hS⟩ hR
    obtain rfl : i = n := by omega
    refine codeAny_builtin F.entry_set_update_loop ?_
    rw [Around.under_plainId F.plain_set_update_loop _]
    show wpAny _ A.in1 (pyNext (.ref I) >>= _) _ _ s
    refine wpAny_bind (W.done s _ _ hst fun s' mv => ?_)
    show wpAny _ A.in1 (ret Value.none) _ _ s'
    rw [List.take_of_length_le (by omega)] at hm
    exact wpAny_pure (hR s' l (mv.mono hsub) hl hm (hS.at fun o e => mv.heap S o hSw e))
  | succ m ih =>
    intro i s hk hi hst ⟨l, hl, hm, hS⟩ hR
    have hlt : i < n := by omega
    refine codeAny_builtin F.entry_set_update_loop ?_
    rw [Around.under_plainId F.plain_set_update_loop _]
    show wpAny _ A.in1 (pyNext (.ref I) >>= _) _ _ s
    refine wpAny_bind (W.item i s _ _ hlt hst fun v s' hP hst' mv => ?_)
    obtain ⟨z, t, hz, rfl⟩ := hval i v hP
    show wpAny _ A.in1 (holding [Value.str z t] (setAdd S (.str z t)) >>= _) _ _ s'
    refine wpAny_bind (wpAny_holding ?_)
    unfold setAdd
    refine wpAny_holding ?_
    refine wpAny_bind ((PySem.strKind P w).pyHash (k := z) (is_str z t) ?_)
    refine setS_add (s := { s' with toks := s'.toks + 1 }) (hS.at fun o e => mv.heap S o hSw e) (by omega) fun h' b sb hS2 => ?_
    have hm2 : ∀ x, x ∈ (if z ∈ l then l else z :: l) ↔ x ∈ xs.take (i + 1) := fun x => by
      rw [List.take_add_one, hz]
      by_cases hzl : z ∈ l
      · rw [if_pos hzl, List.mem_append, ← hm x]
        exact ⟨.inl, fun q => q.elim id fun q => by rw [List.mem_singleton.mp q]; exact hzl⟩
      · rw [if_neg hzl, List.mem_append, ← hm x, List.mem_cons]
        exact ⟨fun q => q.elim (fun q => .inr (List.mem_singleton.mpr q)) .inl, fun q => q.elim .inr fun q => .inl (List.mem_singleton.mp q)⟩
    have hl2 : (if z ∈ l then l else z :: l).length ≤ i + 1 := by
      split
      · omega
      · rw [List.length_cons]; omega
    refine wpAny_pure ⟨plainId_quiet F.plain_set_update_loop _, ih (i + 1) _ (by omega) hlt (W.frame _ s' _ _ hst' (Nat.le_succ _) fun b hb o e => ?_) ⟨_, hl2, hm2, hS2⟩ fun s'' l2 mv2 h1 h2 h3 => ?_⟩
    · rw [sb.2 b (fun z : b = S => hSf (by rw [← z]; exact hb))]; exact e
    · refine hR s'' l2 (Moved.trans W.gtrans ((mv.mono hsub).then_heap (Nat.le_succ _) fun b o hb e => ?_) mv2) h1 h2 h3
      rw [sb.2 b (fun z : b = S => hb (by rw [z]; exact List.mem_cons_self))]; exact e
set_option maxHeartbeats 3200000 in
theorem mk_setT {l : Addr} {its : Array Value} (ns : List Str) {Q : Value → Shared → Prop} (hA : A.handled = none) (hL : s.heap.IsList l its) (hI : StrsAre its.toList ns) (room : ns.length + 1 < scanBound)
    (fin : ∀ (h2 : Heap) (tk : Nat) (l : List Str), SetS P w h2 s.heap.objs.size l → (∀ x, x ∈ l ↔ x ∈ ns) → l.length ≤ ns.length → (∀ b o, s.heap.get? b = some o → h2.get? b = some o) → Q (.ref s.heap.objs.size) { s with heap := h2, toks := tk }) :
    wpAny (model P w) A (call (.type "set") [.ref l]) Q E s := by
  have len : its.size = ns.length := by rw [← Array.length_toList]; exact StrsAre.length hI
  obtain ⟨c0, t0, mro⟩ := PySem.F.called_set.mro
  have u1 := PySem.F.called_set.made
  have u2 := PySem.F.called_set.sub
  have u3 := PySem.F.called_set.notType
  have u4 := PySem.F.called_set.canCreate
  have u5 := PySem.F.typeCall_set_1 (.ref l)
  refine wpAny_call (codeAny_of_tree ?_)
  show wpAny _ _ (callAny (.type "set") _) _ _ _
  refine wpAny_pure ⟨Code.quiet_builtin _ (by decide +kernel), codeAny_builtin PySem.F.entry_type_call ?_⟩
  rw [Around.under_plain (weight_type_call_type "set" [.ref l] []) rfl]
  repeat (any_goals (first | assumption | wp_step))
  -- the empty set is laid
  generalize hN : ({ cls := .type "set", dict := none, data := .set #[] 0 (.fresh 0 0 (!w.params.followText "set-order")) } : Obj) = N
  refine codeAny_mono (code_set_led1 (.ref l) (E := E) (Q₁ := fun x z => x = .ref s.heap.objs.size ∧ z = { s with heap := s.heap.push N }) ⟨rfl, by rw [hN]⟩) fun r z hr => ?_
  match r, hr with
  | .error e, hr => exact hr
  | .ok .next, hr => exact hr.elim
  | .ok .brk, hr => exact hr.elim
  | .ok .cont, hr => exact hr.elim
  | .ok (.ret x), hr =>
    obtain ⟨rfl, rfl⟩ := hr
    have at0 : (s.heap.push N).get? s.heap.objs.size = some N := Heap.get?_push_size _ (by rw [← hN]; rfl)
    have isSet : Shared.TypeIs { s with heap := s.heap.push N } (.ref s.heap.objs.size) "set" := ⟨_, at0, by rw [← hN]⟩
    have v1 := PySem.F.called_set.init.lookup
    have v2 := PySem.F.called_set.init.bind (.ref s.heap.objs.size)
    repeat (any_goals (first | assumption | wp_step))
    refine codeAny_mono (codeAny_call_builtin (R := wants (fun r z => r = .none ∧ ∃ h2 tk l, z = { s with heap := h2, toks := tk } ∧ SetS P w h2 s.heap.objs.size l ∧ (∀ x, x ∈ l ↔ x ∈ ns) ∧ l.length ≤ ns.length ∧ ∀ b o, s.heap.get? b = some o → h2.get? b = some o) E)
      PySem.F.called_set.init.plain PySem.F.entry_set_init (check_set_init_1 isSet ?_)) fun r z hr => ?_
    · -- the items are laid in, one by one
      subst hN
      obtain ⟨⟨ocl, odi, oda, osl⟩, at1, e1, n1, e2⟩ := id hL
      simp only at e1 e2
      subst e1; subst e2
      have at2 : (s.heap.push { cls := .type "set", dict := none, data := .set #[] 0 (.fresh 0 0 (!w.params.followText "set-order")) }).get? l = some { cls := .type "list", dict := odi, data := .seq its n1, slots := osl } := Heap.get?_push_of_some _ at1
      have x1 := PySem.F.sub_list_set
      have x2 := PySem.F.sub_list_frozenset
      have x3 : (Value.type "list" == Value.type "dict") = false := by decide
      have lst1 : (s.heap.push { cls := .type "set", dict := none, data := .set #[] 0 (.fresh 0 0 (!w.params.followText "set-order")) }).IsList l its := ⟨_, at2, rfl, n1, rfl⟩
      unfold Builtin.«set.__init__» noKeywords Builtin.Frozenset.updateFrom
      generalize hp : pyIter = pit
      wp_walk
      subst hp
      refine wpAny_pyIter_list lst1 ?_
      refine wpAny_bind (wpAny_runValue ?_)
      have below : l < s.heap.objs.size := Heap.lt_size at1
      have size1 : ∀ o, (s.heap.push o).objs.size = s.heap.objs.size + 1 := fun o => Heap.size_push ..
      have nl : ∀ o, l ≠ (s.heap.push o).objs.size := fun o => by rw [size1]; exact Nat.ne_of_lt (Nat.lt_succ_of_lt below)
      have nS : ∀ o, s.heap.objs.size ∉ [(s.heap.push o).objs.size, l] := fun o z => by
        rcases List.mem_cons.mp z with z | z
        · rw [size1] at z; exact absurd z (Nat.ne_of_lt (Nat.lt_succ_self _))
        · exact absurd (List.mem_singleton.mp z) (Nat.ne_of_gt below)
      have vals : ∀ (i : Nat) (v : Value), its[i]? = some v → ∃ k t, ns[i]? = some k ∧ v = .str k t := fun i v hv => by
        have hi : i < ns.length := by rw [← len]; exact (Array.getElem?_eq_some_iff.mp hv).1
        obtain ⟨t, e⟩ := SS.strs_at hI i v (by rw [Array.getElem?_toList]; exact hv)
        exact ⟨ns[i], t, List.getElem?_eq_getElem hi, by rw [e, List.getD_eq_getElem?_getD, List.getElem?_eq_getElem hi]; rfl⟩
      refine setS_update ((Walks.list (by simp [hA]) _ l (nl _) its).toS) s.heap.objs.size (nS _) ns len room vals (its.size - 0) 0 _ (by omega) (Nat.zero_le _) ⟨⟨_, Heap.get?_push_size _ rfl, rfl, rfl⟩, lst1.push _⟩ ?_ ?_
      · refine ⟨[], Nat.le_refl 0, fun x => by simp, (#[], 0, .fresh 0 0 (!w.params.followText "set-order")), Heap.get?_push_of_some _ at0, TxOk.nil rfl, List.Pairwise.nil, ?_, List.nodup_nil⟩
        show _ ∨ (!w.params.followText "set-order") = true
        cases w.params.followText "set-order"
        · exact .inr rfl
        · exact .inl rfl
      · rintro ⟨h3, g3, d3, t3, o3⟩ l mv hc hm hS
        have q1 : g3 = s.gens := mv.gens
        have q2 : d3 = s.drawn := mv.drawn
        have q3 : o3 = s.os := mv.os
        subst q1 q2 q3
        show wpAny _ _ _ _ _ _
        refine wpAny_pure ?_
        show wpAny _ _ (ret Value.none) _ _ _
        refine wpAny_pure ⟨rfl, h3, t3, l, rfl, hS, hm, by rw [← len]; exact hc, fun b o e => ?_⟩
        have hb := Heap.lt_size e
        refine mv.heap b o (fun z => ?_) (Heap.get?_push_of_some _ (Heap.get?_push_of_some _ e))
        rcases List.mem_cons.mp z with z | z
        · exact absurd z (Nat.ne_of_lt hb)
        · rw [List.mem_singleton.mp z, size1] at hb
          exact absurd hb (Nat.not_lt_of_le (Nat.le_succ _))
    · match r, hr with
      | .error e, hr => exact hr
      | .ok .next, hr => exact hr.elim
      | .ok .brk, hr => exact hr.elim
      | .ok .cont, hr => exact hr.elim
      | .ok (.ret x), hr =>
        obtain ⟨rfl, h3, t3, l, rfl, hS, hm, hc, hk⟩ := hr
        repeat (any_goals (first | assumption | wp_step))
        exact fin _ _ _ hS hm hc hk
end
end Lw
namespace Lw
open PySem PySem.Spec PySem.Froz PyProof.Rows L2
theorem perm_full : ∀ {l k : List Str}, l.Nodup → (∀ x ∈ l, x ∈ k) → k.length ≤ l.length → k.Perm l
  | [], k, _, _, h => by
    have : k = [] := List.length_eq_zero_iff.mp (by simpa using h)
    rw [this]
  | x :: r, k, nd, h, hl => by
    rw [List.nodup_cons] at nd
    have hx := h x List.mem_cons_self
    have p := List.perm_cons_erase hx
    have ih := perm_full (l := r) (k := k.erase x) nd.2 (fun y hy => (List.mem_erase_of_ne (fun z => nd.1 (by rw [← z]; exact hy))).mpr (h y (List.mem_cons_of_mem _ hy))) (by
      have := p.length_eq
      simp only [List.length_cons] at this hl
      omega)
    exact p.trans (ih.cons x)
/-- the set of texts at a -/
def SetTO (P : Program) (w : World) (a : Addr) (l : List Str) : HO := .ext fun h => SetS P w h a l
theorem setTO_new {w : World} {P : Program} {H : Hp} {h : Heap} {a : Addr} {l : List Str} (R : SetS P w h a l) : ObjOk P w H h a (SetTO P w a l) := by
  have ⟨_, ho, _⟩ := R
  exact ⟨R, ⟨_, ho⟩, fun h1 h2 p k => SetS.at p k⟩
/-- set(xs), texts -/
def rSetT (P : Program) (w : World) (K : PySem.W.Frag) : List V → Hp → VK → Prop := fun vs H Q => ∃ (a : Addr) (ns : List Str), vs = [V.ref a] ∧ SqL K H a (ns.map V.str) ∧ ns.length ≤ 1000 ∧
  ∀ (l : List Str) (p : Addr), (∀ x, x ∈ l ↔ x ∈ ns) → l.Nodup → l.length ≤ ns.length → H p = none → Q (.ref p) (upd H p (SetTO P w p l))
/-- sorted(a set of texts) -/
def rSortedST (P : Program) (w : World) : List V → Hp → VK → Prop := fun vs H Q => ∃ (a : Addr) (l : List Str), vs = [V.ref a] ∧ H a = some (SetTO P w a l) ∧ l.length ≤ 1000 ∧ ∀ p, H p = none → Q (.ref p) (upd H p (.lst ((Ak.sortT l).map V.str)))
section
variable {X : Cx} {K : PySem.W.Frag}
theorem cr_setT (h : X.K = K) (hc : X.calm = true) : CallR X (.type "set") (rSetT X.prog X.w K) := by
  subst h
  intro pins s σ H xs us Q I r hq
  obtain ⟨a, ns, rfl, hS, hl, q⟩ := hq
  rw [Vals.ref1 r]
  obtain ⟨its, rv, pl, hz⟩ := I.list hS
  refine mk_setT ns (I.ok.hd hc) pl.isList (by simpa using rv.strs) (by unfold scanBound; omega) fun h2 tk l R hm hn keep => ?_
  have nd : l.Nodup := by
    obtain ⟨_, _, _, _, _, nd⟩ := R
    exact nd
  exact ⟨.ref _, upd H s.heap.objs.size (SetTO X.prog X.w s.heap.objs.size l), I.laid (t' := tk) keep (Nat.le_refl _) (setTO_new R), rfl, q l _ hm nd hn (I.hok.fresh (Nat.le_refl _))⟩
theorem strs_of : ∀ (l : List Value), (∀ v ∈ l, ∃ k tk, v = Value.str k tk) → StrsAre l (l.map fun v => match v with | .str k _ => k | _ => Str.empty)
  | [], _ => .nil
  | v :: l, h => by
    obtain ⟨k, tk, rfl⟩ := h v List.mem_cons_self
    exact .cons k tk (strs_of l fun u hu => h u (List.mem_cons_of_mem _ hu))
theorem cr_sortedST (hc : X.calm = true) : CallR X (.builtin "sorted") (rSortedST X.prog X.w) := by
  intro pins s σ H vs us Q I r h
  obtain ⟨a, l, rfl, ha, hll, q⟩ := h
  rw [Vals.ref1 r]
  obtain ⟨D, ho, T, hr, hld, hnd⟩ := (I.hok a _ ha).1
  have hz : D.1.size < scanBound := by rw [T.sz]; unfold scanBound; omega
  refine Calls.call_function_entry kind_sorted plain_sorted entry_sorted (args_sorted1 _) ?_
  unfold Builtin.«sorted»
  refine wpAny_bind (m := checkCount "sorted" 1 1 _) (wpAny_pure ?_)
  refine wpAny_bind (collect_set (A := X.A.in1) (I.ok.hd hc) ⟨_, ho, rfl, rfl⟩ T.fit hz hr hld fun s1 vs k1 hsz g1 o1 pm => ?_)
  have hvl : vs.length = l.length := by rw [pm.length_eq, List.length_map, Array.length_toList]; exact T.sz
  have str : ∀ v ∈ vs, ∃ k tk, v = Value.str k tk ∧ k ∈ l := fun v hv => by
    obtain ⟨e, he, rfl⟩ := List.mem_map.mp (pm.mem_iff.mp hv)
    obtain ⟨⟨k, h1, h2⟩, _⟩ := T.el e he
    obtain ⟨tk, e2⟩ := Value.isStrOf_shape h1
    exact ⟨k, tk, e2, (T.mem k).mpr ⟨e, he, h1⟩⟩
  have hI : StrsAre vs (vs.map fun v => match v with | .str k _ => k | _ => Str.empty) := strs_of vs fun v hv => by
    obtain ⟨k, tk, e, _⟩ := str v hv
    exact ⟨k, tk, e⟩
  have sub : ∀ x ∈ l, x ∈ vs.map fun v => match v with | .str k _ => k | _ => Str.empty := fun x hx => by
    obtain ⟨e, he, h1⟩ := (T.mem x).mp hx
    obtain ⟨tk, e2⟩ := Value.isStrOf_shape h1
    exact List.mem_map.mpr ⟨e.2, pm.mem_iff.mpr (List.mem_map.mpr ⟨e, he, rfl⟩), by rw [e2]⟩
  have pl := perm_full hnd sub (by rw [List.length_map, hvl]; exact Nat.le_refl _)
  generalize (vs.map fun v => match v with | .str k _ => k | _ => Str.empty) = ys at hI pl
  refine wpAny_bind (wpAny_newList ?_ (by rw [hvl, sizeLine_eq]; omega))
  have hoL : (s1.heap.push (seqObj "list" vs.toArray 0)).get? s1.heap.objs.size = some (seqObj "list" vs.toArray 0) := Heap.get?_push_size _ rfl
  refine wpAny_bind (wpAny_holding (wpAny_call_entry slot_list_sort ⟨_, hoL, rfl⟩ entry_list_sort (list_sort_treeKAny strKind_oneLt hoL hI.keysOf (fun v₁ v₂ rest e => keyKind_strs (by rw [← e]; exact hI)) (by rw [hvl, sizeLine_eq]; omega) fun st' hp hs => ⟨_, rfl, ?_⟩) (args_list_sort _)))
  obtain ⟨ss, a1, a2, a3⟩ := sorted_out_str hI hp hs
  obtain ⟨c, hcc⟩ := sortedHeap_at (vs := vs) (out := (arrOf st').map (·.2)) hoL
  have es : ss = Ak.sortT l := Ak.sortT_eq (a2.trans pl) a3
  have hlen : ((Ak.sortT l).map V.str).length ≤ sizeLine := by rw [List.length_map, (Ak.sortT_perm l).length_eq, sizeLine_eq]; omega
  have hn : H s1.heap.objs.size = none := I.hok.fresh hsz
  have kp : ∀ b u, s.heap.get? b = some u → (sortedHeap (s1.heap.push (seqObj "list" vs.toArray 0)) s1.heap.objs.size vs ((arrOf st').map (·.2))).get? b = some u := fun b u e => by
    have q := k1 b u e
    have hlt := Heap.lt_size q
    rw [sortedHeap_old (Nat.ne_of_lt hlt) (by rw [size_push']; exact Nat.lt_succ_of_lt hlt)]
    exact Heap.get?_push_of_some _ q
  rw [es] at a1
  have J : Inv X pins σ (upd H s1.heap.objs.size (.lst ((Ak.sortT l).map V.str))) { s with heap := sortedHeap (s1.heap.push (seqObj "list" vs.toArray 0)) s1.heap.objs.size vs ((arrOf st').map (·.2)), gens := s1.gens, drawn := s1.drawn, toks := s1.toks } :=
    I.call (ch := []) (Un.laid kp hsz hn) (I.hok.laid kp hsz ⟨hlen, ((arrOf st').map (·.2)).toList, c, vals_of_strs a1, hcc⟩) (by rw [g1]; exact I.bare) (fun _ z => nomatch z)
  have e : ({ s1 with heap := sortedHeap (s1.heap.push (seqObj "list" vs.toArray 0)) s1.heap.objs.size vs ((arrOf st').map (·.2)) } : Shared) = { s with heap := sortedHeap (s1.heap.push (seqObj "list" vs.toArray 0)) s1.heap.objs.size vs ((arrOf st').map (·.2)), gens := s1.gens, drawn := s1.drawn, toks := s1.toks } := by
    cases s1
    cases s
    cases o1
    rfl
  refine wpAny_pure ⟨_, rfl, ?_⟩
  rw [e]
  exact ⟨.ref s1.heap.objs.size, _, J, rfl, q _ hn⟩
end
end Lw
/-! sorted(texts), any number of them; a list of lists of texts that grow, the last one on top -/
namespace Lw
open PySem PySem.Spec PyProof.Rows L2
def rSortedSA (K : PySem.W.Frag) : List V → Hp → VK → Prop := fun vs H Q => ∃ (a : Addr) (xs : List Str), vs = [V.ref a] ∧ SqL K H a (xs.map V.str) ∧ xs.length ≤ 1000 ∧ ∀ p, H p = none → Q (.ref p) (upd H p (.lst ((Ak.sortT xs).map V.str)))
theorem cr_sortedSA {X : Cx} {K : PySem.W.Frag} (h : X.K = K) : CallR X (.builtin "sorted") (rSortedSA K) := by
  subst h
  intro pins s σ H vs us Q I r h
  obtain ⟨a, xs, rfl, hs, hxl, q⟩ := h
  obtain ⟨its, rv, hl, _⟩ := I.list hs
  rw [Vals.ref1 r]
  have hlen0 := rv.length
  rw [List.length_map] at hlen0
  have hI := rv.strs
  refine PyProof.Rows.sortedKAny strKind_oneLt hl.isList hI.keysOf (fun v₁ v₂ rest e => keyKind_strs (by rw [← e]; exact hI)) (by rw [← hlen0, sizeLine_eq]; omega) fun st' hp hst => ?_
  obtain ⟨ss, a1, a2, a3⟩ := sorted_out_str hI hp hst
  have es : ss = Ak.sortT xs := Ak.sortT_eq a2 a3
  rw [es] at a1
  obtain ⟨ep, he'⟩ := PyProof.Rows.sortedAll_at s.heap its ((arrOf st').map (·.2))
  have hlen : ((Ak.sortT xs).map V.str).length ≤ sizeLine := by rw [List.length_map, (Ak.sortT_perm xs).length_eq, sizeLine_eq]; omega
  exact ⟨.ref _, upd H (s.heap.objs.size + 1) (.lst ((Ak.sortT xs).map V.str)), I.laid (t' := s.toks) (fun _ _ => PyProof.Rows.sortedAll_old) (Nat.le_succ _) ⟨hlen, ((arrOf st').map (·.2)).toList, ep, vals_of_strs a1, he'⟩, rfl, q _ (I.hok.fresh (Nat.le_succ _))⟩
theorem r_sortedTA {K : PySem.W.Frag} {H : Hp} {Q : VK} {a : Addr} {xs : List Str} (h : H a = some (.lst (xs.map V.str))) (hl : xs.length ≤ 1000) (q : ∀ p, H p = none → Q (.ref p) (upd H p (.lst ((Ak.sortT xs).map V.str)))) : rSortedSA K [.ref a] H Q := ⟨a, xs, rfl, SqL.of h, hl, q⟩
/-- lists of texts, the last one on top -/
structure TStk (H : Hp) (u : Addr) (ds : List Addr) (st : List (List Str)) : Prop where
  hu : H u = some (.lst (ds.reverse.map V.ref))
  len : ds.length = st.length
  nd : ds.Nodup
  nu : u ∉ ds
  at_ : ∀ (j : Nat) (d : Addr) (a : List Str), ds[j]? = some d → st[j]? = some a → H d = some (.lst (a.map V.str))
section
variable {H H' : Hp} {u : Addr} {ds : List Addr} {st : List (List Str)}
theorem TStk.mono (h : TStk H u ds st) (s : Same H H') : TStk H' u ds st := ⟨s _ _ h.hu, h.len, h.nd, h.nu, fun j d a e1 e2 => s _ _ (h.at_ j d a e1 e2)⟩
theorem TStk.there (h : TStk H u ds st) {d : Addr} (hd : d ∈ ds) : ∃ o, H d = some o := by
  obtain ⟨j, hj⟩ := List.mem_iff_getElem?.mp hd
  have hj2 := (List.getElem?_eq_some_iff.mp hj).1
  have hj3 : j < st.length := by rw [← h.len]; exact hj2
  exact ⟨_, h.at_ j d st[j] hj (List.getElem?_eq_getElem hj3)⟩
theorem TStk.start {u D : Addr} (hD : H D = none) (hu : upd H D (.lst []) u = none) : TStk (upd (upd H D (.lst [])) u (.lst [.ref D])) u [D] [[]] := by
  obtain ⟨n1, n2⟩ := upd_none hu
  refine ⟨upd_same, rfl, by simp, fun z => n1 (List.mem_singleton.mp z), fun j d a e1 e2 => ?_⟩
  cases j with
  | zero =>
    cases e1; cases e2
    rw [upd_ne n1.symm]; exact upd_same
  | succ j => simp at e1
theorem TStk.push (h : TStk H u ds st) {D : Addr} (hD : H D = none) : (upd H D (.lst [])) u = some (.lst (ds.reverse.map V.ref)) ∧ TStk (upd (upd H D (.lst [])) u (.lst (ds.reverse.map V.ref ++ [.ref D]))) u (D :: ds) ([] :: st) := by
  have nuD : u ≠ D := fun z => by rw [z] at h; rw [h.hu] at hD; cases hD
  have nDs : D ∉ ds := fun z => by obtain ⟨o, e⟩ := h.there z; rw [e] at hD; cases hD
  have h1 : (upd H D (.lst [])) u = some (.lst (ds.reverse.map V.ref)) := upd_old hD h.hu
  refine ⟨h1, by rw [upd_same, List.reverse_cons, List.map_append]; rfl, by rw [List.length_cons, List.length_cons, h.len], List.nodup_cons.mpr ⟨nDs, h.nd⟩, fun z => (List.mem_cons.mp z).elim nuD h.nu, fun j d a e1 e2 => ?_⟩
  cases j with
  | zero =>
    cases e1; cases e2
    rw [upd_ne nuD.symm]; exact upd_same
  | succ j =>
    have hd : d ∈ ds := List.mem_of_getElem? e1
    rw [upd_ne (fun z => h.nu (by rw [← z]; exact hd))]
    exact upd_old hD (h.at_ j d a e1 e2)
theorem TStk.pop {d0 : Addr} {a0 : List Str} (h : TStk H u (d0 :: ds) (a0 :: st)) :
    (upd H u (.lst (ds.reverse.map V.ref))) d0 = some (.lst (a0.map V.str)) ∧ TStk (upd H u (.lst (ds.reverse.map V.ref))) u ds st := by
  refine ⟨?_, upd_same, by have := h.len; rw [List.length_cons, List.length_cons] at this; omega, (List.nodup_cons.mp h.nd).2, fun z => h.nu (List.mem_cons_of_mem _ z), fun j d a e1 e2 => ?_⟩
  · rw [upd_ne fun z => h.nu (by rw [← z]; exact List.mem_cons_self)]; exact h.at_ 0 d0 a0 rfl rfl
  · rw [upd_ne fun z => h.nu (by rw [← z]; exact List.mem_cons_of_mem _ (List.mem_of_getElem? e1))]; exact h.at_ (j + 1) d a e1 e2
theorem TStk.put {d1 : Addr} {a1 : List Str} (x : Str) (h : TStk H u (d1 :: ds) (a1 :: st)) :
    H d1 = some (.lst (a1.map V.str)) ∧ TStk (upd H d1 (.lst (a1.map V.str ++ [.str x]))) u (d1 :: ds) ((a1 ++ [x]) :: st) := by
  refine ⟨h.at_ 0 d1 a1 rfl rfl, ?_, by have := h.len; rw [List.length_cons, List.length_cons] at this ⊢; exact this, h.nd, h.nu, fun j d a e1 e2 => ?_⟩
  · rw [upd_ne fun z => h.nu (by rw [z]; exact List.mem_cons_self)]; exact h.hu
  · cases j with
    | zero =>
      cases e1; cases e2
      rw [upd_same, List.map_append]; rfl
    | succ j =>
      rw [upd_ne fun z => (List.nodup_cons.mp h.nd).1 (by rw [← z]; exact List.mem_of_getElem? e1)]; exact h.at_ (j + 1) d a e1 e2
end
end Lw
namespace K06
open PySem PySem.Spec PyProof.Rows L2 Lw


local macro_rules | `(tactic| walk_at "look") => `(tactic| first
  | assumption
  | with_reducible exact upd_same
  | with_reducible exact rg_st
  | with_reducible exact rg_g (by assumption)
  | (with_reducible refine upd_old (by assumption) ?_; walk_at "look")
  | (with_reducible refine rg_get (by assumption) ?_; walk_at "look")
  | (with_reducible refine Same.get (by assumption) ?_; walk_at "look"))
local macro_rules | `(tactic| walk_at "cond") => `(tactic| first
  | (show _ ≠ _; omega) | exact cdivN (by omega) (by omega) | exact cmul_mod (by decide) (by decide) | exact cmulR (by omega) (by omega) | exact cmulL (by omega) (by omega) | exact cpow (by omega) (by omega) (by omega) (by omega) | (show (0:Int) ≤ _; omega))
local macro_rules | `(tactic| walk_at "at") => `(tactic| first | assumption | with_unfolding_all rfl)
local macro_rules | `(tactic| walk_at "sz") => `(tactic| first | assumption | (refine small ?_; omega) | (refine small ?_; simp only [List.length_map, List.length_append, List.length_cons, List.length_nil]; omega))
local macro_rules | `(tactic| walk_at "len") => `(tactic| first | exact size_nil | exact Nat.le_of_lt (small (by simp only [List.length_cons, List.length_nil, List.length_map]; omega)))
local macro_rules | `(tactic| walk_at "newD") => `(tactic| (refine ⟨by walk_at "len", fun p np => ?_⟩; obtain ⟨e, o', hD', n', ne'⟩ := newTD_eq (topRg _ _) (by assumption) (by assumption) np (.lst _); rw [e]; clear e))
local macro_rules | `(tactic| walk_at "new") => `(tactic| (refine ⟨by walk_at "len", fun p np => ?_⟩; obtain ⟨e, o', n'⟩ := newT_eq (topRg _ _) (by assumption) np (.lst _); rw [e]; clear e))
local macro_rules | `(tactic| walk_at "st") => `(tactic| first
  | with_reducible refine r_seq ?_
  | with_reducible refine r_var rfl ?_
  | with_reducible refine r_c ?_
  | with_reducible refine r_asg ?_
  | (with_reducible refine r_name ?_; dsimp only [List.set_cons_zero, List.set_cons_succ])
  | with_reducible refine r_sub ?_
  | with_reducible refine r_op ?_
  | with_reducible refine r_i0 ?_
  | (with_reducible refine' r_i ?k1 ?_; (case k1 => walk_at "cond"))
  | with_reducible refine r_cons ?_
  | with_reducible refine r_nil ?_
  | with_reducible refine r_cb ?_
  | with_reducible refine r_call ?_
  | with_reducible refine r_ifs ?_
  | with_reducible refine r_test ?_
  | with_reducible refine r_tB ?_
  | with_reducible refine r_bl ?_
  | with_reducible refine r_ret ?_
  | with_reducible refine r_drop ?_
  | with_reducible refine r_next ?_
  | (with_reducible refine' r_ixL ?k1 ?k2 ?_; (case k1 => walk_at "look"); (case k2 => walk_at "at"))
  | (with_reducible refine' r_setL ?k1 ?k2 ?_; (case k1 => walk_at "look"); (case k2 => walk_at "at"))
  | (with_reducible refine' r_tup (SqT.of ?k1) ?k2 ?_; (case k1 => walk_at "look"); (case k2 => rfl))
  | with_reducible refine r_gcons ?_
  | with_reducible refine r_gnil ?_
  | with_reducible refine r_aug rfl ?_
  | with_reducible refine r_augS ?_
  | with_reducible refine r_ipI ?_
  | with_reducible refine r_un ?_
  | with_reducible refine r_u ?_
  | with_reducible refine r_eq rfl ?_
  | with_reducible refine r_ne rfl ?_
  | with_reducible refine r_chain ?_
  | with_reducible refine iteF ?_
  | with_reducible refine r_not ?_
  | with_reducible refine r_and ?_
  | with_reducible refine r_or ?_
  | with_reducible refine r_andV ?_
  | with_reducible refine r_orV ?_
  | with_reducible refine r_notV ?_
  | with_reducible refine r_lst ?_
  | with_reducible refine r_bm ?_
  | with_reducible refine r_bm0 ?_
  | (with_reducible refine' And.intro (r_ty ?k1) ?_; (case k1 => walk_at "look"))
  | (with_reducible refine' r_append ?k1 ?k2 ?_; (case k1 => walk_at "look"); (case k2 => walk_at "sz"))
  | (with_reducible refine' r_lenK ?k1 ?_; (case k1 => walk_at "look"))
  | (with_reducible refine' r_listOf ?k1 ?_; (case k1 => walk_at "look"))
  | (with_reducible refine' r_sortedI ?k1 ?_; (case k1 => walk_at "look"))
  | (with_reducible refine' r_sum ?k1 ?_; (case k1 => walk_at "look"))
  | with_reducible refine r_int ?_
  | (with_reducible refine' r_draw (by assumption) ?k1 ?k2 ?_; (case k1 => omega); (case k2 => omega); intro R' n' o' h' h'')
  | with_reducible refine iteT ?_
  | with_reducible refine r_revL ?_
  | with_reducible refine r_lc ?_
  | with_reducible refine r_yes ?_
  | with_reducible refine r_sl ?_
  | with_reducible refine iteNTr ?_
  | with_reducible refine iteNFa ?_
  | with_reducible refine r_fld ?_
  | with_reducible refine r_sFld ?_
  | with_reducible refine r_meth ?_
  | with_reducible refine r_methT ?_
  | with_reducible refine r_prop ?_
  | with_reducible refine r_dget ?_
  | with_reducible refine r_dput ?_
  | with_reducible refine r_noPart ?_
  | with_reducible refine r_part ?_
  | with_reducible refine r_lc2 ?_
  | with_reducible refine r_callN ?_
  | with_reducible refine r_callD ?_
  | with_reducible refine r_tupE ?_
  | with_reducible refine r_rng2 ?_
  | with_reducible refine r_i1 ?_
  | (with_reducible refine' r_slL ?k1 ?_; (case k1 => walk_at "look"))
  | with_reducible refine r_for ?_
  | with_reducible refine r_iList ?_
  | with_reducible refine r_rng1 ?_
  | with_reducible refine r_enum ?_
  | (with_reducible show Ends.nx _ _ _; dsimp only)
  | (with_reducible show Ends.rt _ _ _; dsimp only)
  | (with_reducible show Ends.ct _ _ _; dsimp only)
  | (with_reducible show Ends.bk _ _ _; dsimp only))
local macro_rules | `(tactic| walk_at "go") => `(tactic| repeat (walk_at "st"))
local macro_rules | `(tactic| walk_at "begin") => `(tactic| dsimp only [cxOf, wipe, L2.start, List.map, List.length_cons, List.length_nil, Nat.reduceAdd, Nat.reduceSub, List.replicate, List.cons_append, List.nil_append])


def spScan : Sp := fun args H Q _ => ∃ t : Str, args = [.str t] ∧ t.length ≤ 2000 ∧ Rd.deep (Ak.L t) ≤ 60 ∧
  (∀ (i : Nat) (H' : Hp) (p : Addr), Rd.out (Ak.L t) = .inl i → Same H H' → H' p = some (.lst [.int ((i : Nat) : Int), .str ""]) → Q (.ref p) H') ∧
  (∀ (n : Nat) (H' : Hp) (p : Addr), Rd.out (Ak.L t) = .inr n → Same H H' → H' p = some (.lst [.int (-1), .str (Ak.txt n)]) → Q (.ref p) H')
theorem last_ref2 {d : Addr} {ds : List Addr} : atI ((d :: ds).reverse.map V.ref) ((((d :: ds).length : Nat) : Int) - 1) = some (.ref d) := by
  rw [show (((d :: ds).length : Nat) : Int) - 1 = ((ds.length : Nat) : Int) from by rw [List.length_cons]; omega]
  refine atI_nat ?_
  rw [List.reverse_cons, List.map_append]
  simp
def Sgn2 (ps : Str) (p : Nat) : Prop := (ps = "" ∧ p = 0) ∨ (ps = ⟨#[p]⟩ ∧ p ≠ 0)
theorem q_comma (c : Nat) : (V.str ⟨#[c]⟩ = V.str ",") ↔ c = 44 := by
  rw [show ("," : Str) = ⟨#[44]⟩ from by decide +kernel]
  simp
theorem q_none (c : Nat) : (V.str ⟨#[c]⟩ = V.str "") ↔ c = 0 ∧ False := by
  rw [show ("" : Str) = ⟨#[]⟩ from by decide +kernel]
  simp
theorem q4 {ps : Str} {p : Nat} (h : Sgn2 ps p) : (V.str ps = V.str "" ↔ p = 0) ∧ (V.str ps = V.str "{" ↔ p = 123) ∧ (V.str ps = V.str "}" ↔ p = 125) ∧ (V.str ps = V.str "," ↔ p = 44) := by
  rcases h with ⟨rfl, rfl⟩ | ⟨rfl, hp⟩
  · exact ⟨by simp, by constructor <;> intro z <;> revert z <;> decide +kernel, by constructor <;> intro z <;> revert z <;> decide +kernel, by constructor <;> intro z <;> revert z <;> decide +kernel⟩
  · exact ⟨⟨fun z => ((q_none p).mp z).2.elim, fun z => absurd z hp⟩, q_brace p, q_close p, q_comma p⟩
section
variable {P : Program} {w : World} {K : PySem.W.Frag} {mg : Str → Option Value} {base : Heap} {C : Addr}
theorem ok_scan {f : Addr} {fd : FuncData} (B : Blt mg) (D : Dn K mg "_law_scan" s__law_scan ["text"] f fd) : FnOk P w K mg base CX0 1 f fd ["text"] spScan := by
  refine D.F.ok sc__law_scan (fun vs H Q E h => ?_) (fun cdv A outer s H vs Q E hr h => ?_)
  · obtain ⟨t, rfl, _⟩ := h
    rfl
  · obtain ⟨t, rfl, hl2, hd60, qb, qn⟩ := h
    refine ⟨_, (pss_cons (ps_set (i := 1) sc__law_scan.nd rfl (.inl rfl) (pe_lst (pa_cons (pe_lst pa_nil) pa_nil)))
      (pss_cons (ps_set (i := 2) sc__law_scan.nd rfl (.inl rfl) pe_str)
      (pss_cons (ps_for PassesOwn.never rfl (pi_range1 (by rfl) B.m_range (pa_cons (pe_callB call_len_str (by rfl) B.m_len PySem.boot_len (pa_cons (pv 0) pa_nil)) pa_nil)) (pg_name (i := 3) sc__law_scan.nd rfl (.inl rfl)) (pss_cons (ps_set (i := 4) sc__law_scan.nd rfl (.inl rfl) (pe_ix ix_str (pv 0) (pv 3) (fun _ _ => rfl)))
      (pss_cons (ps_set (i := 5) sc__law_scan.nd rfl (.inl rfl) (pe_cmpR op_gt (pe_callB (call_len_seqK (K := K) rfl) (by rfl) B.m_len PySem.boot_len (pa_cons (pv 1) pa_nil)) pe_int (nomark _)))
      (C8.pss_cut (ps_set (i := 6) sc__law_scan.nd rfl (.inl rfl) (pe_and (pe_cmpR op_eq (pv 4) pe_str (nomark _)) (pe_one (pe_or (pe_cmpR op_eq (pv 2) pe_str (nomark _)) (pe_or (pe_cmpR op_eq (pv 2) pe_str (nomark _)) (pe_one (pe_cmpR op_eq (pv 2) pe_str (nomark _))))))))
      (C8.pss_cut (ps_if (pt_cmpR op_eq (pv 4) pe_str (nomark _)) (pss_one (ps_set (i := 6) sc__law_scan.nd rfl (.inl rfl) (pe_and (pv 5) (pe_one (pe_or (pe_cmpR op_eq (pv 2) pe_str (nomark _)) (pe_one (pe_cmpR op_eq (pv 2) pe_str (nomark _)))))))) (pss_one (ps_if (pt_cmpR op_eq (pv 4) pe_str (nomark _)) (pss_one (ps_set (i := 6) sc__law_scan.nd rfl (.inl rfl) (pe_and (pv 5) (pe_one (pe_cmpR op_eq (pv 2) pe_str (nomark _)))))) pss_nil)))
      (pss_cons (ps_if (pt_not (pt_val (pv 6))) (pss_one (ps_ret (pe_lst (pa_cons (pv 3) (pa_cons pe_str pa_nil))))) pss_nil)
      (pss_cons (ps_if (pt_cmpR op_eq (pv 4) pe_str (nomark _)) (pss_one (ps_expr (pe_bmK (K := K) rfl PySem.F.plainAttrs_list PySem.F.slot_list_append PySem.F.type_list_append mt_append (pv 1) (pa_cons (pe_lst pa_nil) pa_nil)))) (pss_one (ps_if (pt_cmpR op_eq (pv 4) pe_str (nomark _)) (pss_cons (ps_set (i := 7) sc__law_scan.nd rfl (.inl rfl) (pe_op op_catS (pe_op op_catS pe_str (pe_bmK (K := K) rfl PySem.F.plainAttrs_str PySem.F.slot_str_join PySem.F.type_str_join (mt_joinK (K := K) rfl) pe_str (pa_cons (pe_callB (cr_sortedST rfl) (by rfl) B.m_sorted (by decide +kernel) (pa_cons (pe_callTy (cr_setT (K := K) rfl rfl) (by rfl) B.m_set (by decide +kernel) (pa_cons (pe_lc (own := [("member", 8)]) rfl sc__law_scan.nd (pi_listK (K := K) rfl (pe_bm0K (K := K) rfl PySem.F.plainAttrs_list PySem.F.slot_list_pop PySem.F.type_list_pop mt_pop (pv 1))) (blkOk_by (own := [("member", 8)]) (by kernel_rfl))
        (fun _ _ _ _ _ => (pg_name (i := 8) sc__law_scan.nd rfl (.inl rfl))) (fun _ _ _ _ _ => pts_nil)
        (fun _ _ _ _ _ => (pe_callTy call_strS (by rfl) B.m_str (by decide +kernel) (pa_cons (pv 8) pa_nil)))) pa_nil)) pa_nil)) pa_nil))) pe_str))
      (pss_one (ps_expr (pe_bmK (K := K) rfl PySem.F.plainAttrs_list PySem.F.slot_list_append PySem.F.type_list_append mt_append (pe_ix (ix_listK (K := K) rfl) (pv 1) (pe_op op_sub (pe_callB (call_len_seqK (K := K) rfl) (by rfl) B.m_len PySem.boot_len (pa_cons (pv 1) pa_nil)) pe_int) (fun _ _ => rfl)) (pa_cons (pv 7) pa_nil))))) pss_nil)))
      (pss_one (ps_set (i := 2) sc__law_scan.nd rfl (.inl rfl) (pv 4))))))))))
      (pss_cons (ps_if (PW.pt (pw_or (pt_cmpR op_eq (pv 0) pe_str (nomark _)) (pw_or1 (pt_cmpR op_gt (pe_callB (call_len_seqK (K := K) rfl) (by rfl) B.m_len PySem.boot_len (pa_cons (pv 1) pa_nil)) pe_int (nomark _))))) (pss_one (ps_ret (pe_lst (pa_cons (pe_callB call_len_str (by rfl) B.m_len PySem.boot_len (pa_cons (pv 0) pa_nil)) (pa_cons pe_str pa_nil))))) pss_nil)
      (pss_one (ps_ret (pe_lst (pa_cons (pe_un un_neg pe_int) (pa_cons (pe_ix (ix_listK (K := K) rfl) (pe_ix (ix_listK (K := K) rfl) (pv 1) pe_int (fun _ _ => rfl)) pe_int (fun _ _ => rfl)) pa_nil))))))))), ?_⟩
    have hsz : (Ak.L t).length = t.length := Array.length_toList
    have hlL : (Ak.L t).length ≤ 2000 := by omega
    walk_at "begin"
    walk_at "go"
    refine ⟨by walk_at "len", fun D0 nD0 => ?_⟩
    walk_at "go"
    refine ⟨by walk_at "len", fun u nu => ?_⟩
    have hK0 : TStk (upd (upd H D0 (.lst [])) u (.lst [.ref D0])) u [D0] [[]] := TStk.start nD0 nu
    have sS : Same H (upd (upd H D0 (.lst [])) u (.lst [.ref D0])) := (same_new nD0).trans (same_new nu)
    have hu0 : H u = none := (upd_none nu).2
    have hf0 : ∀ d ∈ [D0], H d = none := fun d hd => by rw [List.mem_singleton.mp hd]; exact nD0
    generalize upd (upd H D0 (.lst [])) u (.lst [.ref D0]) = H1 at hK0 sS ⊢
    clear nu nD0
    walk_at "go"
    refine ⟨t, rfl, big (by omega), ?_⟩
    refine r_forR (by omega) (by omega) (fun i σ H' => ∃ (ds : List Addr) (st : List (List Nat)) (ps : Str) (p : Nat) (y3 y4 y5 y6 y7 y8 : Option V), σ = [some (.str t), some (.ref u), some (.str ps), y3, y4, y5, y6, y7, y8] ∧ Same H H' ∧ TStk H' u ds (st.map fun a => a.map Ak.txt) ∧ (∀ d ∈ ds, H d = none) ∧ Sgn2 ps p ∧ Rd.Nice (Ak.L t) i st p) ?_ ?_ ?_
    · exact ⟨[D0], [[]], "", 0, _, _, _, _, _, _, rfl, sS, hK0, hf0, .inl ⟨rfl, rfl⟩, Rd.Nice.start _⟩
    · clear sS hK0 hf0 H1 D0
      rintro i σ H2 hi ⟨ds, st, ps, p, y3, y4, y5, y6, y7, y8, rfl, sS, hK, hf, hp, hN⟩
      rw [Int.toNat_natCast] at hi
      obtain ⟨c, hc⟩ : ∃ c, (Ak.L t)[i]? = some c := ⟨_, List.getElem?_eq_getElem (by rw [hsz]; exact hi)⟩
      have hu := hK.hu
      have hdl := hK.len
      rw [List.length_map] at hdl
      have hG := hN.G
      have hdn := Rd.deep_ge (Ak.L t) i
      have hgl := hG.len
      walk_at "go"
      refine r_ixS (big (by omega)) (atI_nat hc) ?_
      walk_at "go"
      rw [List.length_map, List.length_reverse, hdl]
      walk_at "go"
      have h4 := q4 hp
      refine ⟨fun σ H1 => ∃ g0 : Bool, σ = [some (V.str t), some (V.ref u), some (V.str ps), some (V.int ↑i), some (V.str { cps := #[c] }), some (V.bl (decide (1 < ((st.length : Nat) : Int)))), some (.bl g0), y7, y8] ∧ H1 = H2 ∧ (c = 123 → g0 = Rd.okc p (st.length - 1) c) ∧ (c ≠ 123 → g0 = false), ?_, ?_⟩
      · walk_at "go"
        refine r_ite (fun z => ?_) (fun z => ?_)
        · have hc123 := (q_brace c).mp z
          walk_at "go"
          refine r_ite (fun z => ?_) (fun z => ?_)
          · have e := h4.1.mp z
            walk_at "go"
            exact ⟨true, rfl, rfl, fun _ => by rw [e, hc123]; rfl, fun z => absurd hc123 z⟩
          walk_at "go"
          have e0 : p ≠ 0 := fun e => z (h4.1.mpr e)
          refine r_ite (fun z => ?_) (fun z => ?_)
          · have e := h4.2.1.mp z
            walk_at "go"
            exact ⟨true, rfl, rfl, fun _ => by rw [e, hc123]; rfl, fun z => absurd hc123 z⟩
          walk_at "go"
          have e1 : p ≠ 123 := fun e => z (h4.2.1.mpr e)
          by_cases e4 : p = 44
          · rw [decide_eq_true (h4.2.2.2.mpr e4)]
            exact ⟨true, rfl, rfl, fun _ => by rw [e4, hc123]; rfl, fun z => absurd hc123 z⟩
          · rw [decide_eq_false (fun z => e4 (h4.2.2.2.mp z))]
            have e5 : p = 125 := by have := hN.pz; omega
            exact ⟨false, rfl, rfl, fun _ => by rw [e5, hc123]; simp [Rd.okc], fun z => absurd hc123 z⟩
        · have hne : c ≠ 123 := fun e => z ((q_brace c).mpr e)
          walk_at "go"
          exact ⟨false, rfl, rfl, fun z => absurd z hne, fun _ => rfl⟩
      rintro σ H3 ⟨g0, rfl, rfl, hg1, hg2⟩
      have hin : decide (1 < ((st.length : Nat) : Int)) = decide (0 < st.length - 1) := by
        congr 1
        apply propext
        omega
      have hin2 := hN.in2
      refine ⟨fun σ H1 => σ = [some (V.str t), some (V.ref u), some (V.str ps), some (V.int ↑i), some (V.str { cps := #[c] }), some (V.bl (decide (1 < ((st.length : Nat) : Int)))), some (.bl (Rd.okc p (st.length - 1) c)), y7, y8] ∧ H1 = H3, ?_, ?_⟩
      · rw [hin]
        walk_at "go"
        refine r_ite (fun z => ?_) (fun z => ?_)
        · have hc125 := (q_close c).mp z
          subst hc125
          walk_at "go"
          refine r_ite (fun z => ?_) (fun z => ?_)
          · walk_at "go"
            refine r_ite (fun z => ?_) (fun z => ?_)
            · have e := h4.2.1.mp z
              walk_at "go"
              exact ⟨by rw [e]; rfl, rfl⟩
            · walk_at "go"
              have e1 : p ≠ 123 := fun e => z (h4.2.1.mpr e)
              by_cases e5 : p = 125
              · rw [decide_eq_true (h4.2.2.1.mpr e5)]
                exact ⟨by rw [e5, show Rd.okc 125 (st.length - 1) 125 = true from by simp [Rd.okc]; omega], rfl⟩
              · rw [decide_eq_false (fun z => e5 (h4.2.2.1.mp z))]
                exact ⟨by rw [show Rd.okc p (st.length - 1) 125 = false from by simp [Rd.okc, e1, e5]], rfl⟩
          · walk_at "go"
            exact ⟨by rw [show Rd.okc p (st.length - 1) 125 = false from by
              have e1 : p ≠ 123 := fun e => by have := hin2 e; omega
              by_cases e5 : p = 125
              · simp [Rd.okc, e5]; omega
              · simp [Rd.okc, e1, e5]], rfl⟩
        have hne5 : c ≠ 125 := fun e => z ((q_close c).mpr e)
        walk_at "go"
        refine r_ite (fun z => ?_) (fun z => ?_)
        · have hc44 := (q_comma c).mp z
          subst hc44
          walk_at "go"
          refine r_ite (fun z => ?_) (fun z => ?_)
          · walk_at "go"
            by_cases e5 : p = 125
            · rw [decide_eq_true (h4.2.2.1.mpr e5)]
              exact ⟨by rw [e5, show Rd.okc 125 (st.length - 1) 44 = true from by simp [Rd.okc]; omega], rfl⟩
            · rw [decide_eq_false (fun z => e5 (h4.2.2.1.mp z))]
              exact ⟨by rw [show Rd.okc p (st.length - 1) 44 = false from by by_cases e1 : p = 123 <;> simp [Rd.okc, e1, e5]], rfl⟩
          · walk_at "go"
            exact ⟨by rw [show Rd.okc p (st.length - 1) 44 = false from by
              by_cases e1 : p = 123
              · simp [Rd.okc, e1]
              · by_cases e5 : p = 125
                · simp [Rd.okc, e5]; omega
                · simp [Rd.okc, e1, e5]], rfl⟩
        have hne4 : c ≠ 44 := fun e => z ((q_comma c).mpr e)
        walk_at "go"
        refine ⟨?_, rfl⟩
        by_cases e3 : c = 123
        · rw [hg1 e3]
        · rw [hg2 e3, show Rd.okc p (st.length - 1) c = false from by
            by_cases e1 : p = 123
            · simp [Rd.okc, e1, e3, hne5]
            · by_cases e5 : p = 125
              · simp [Rd.okc, e5, hne4, hne5]
              · simp [Rd.okc, e1, e5, e3]]
      clear hg1 hg2 hin hin2
      rintro σ H4 ⟨rfl, rfl⟩
      by_cases hok : Rd.okc p (st.length - 1) c = true
      rotate_left
      · have hok2 : Rd.okc p (st.length - 1) c = false := by simpa using hok
        have ho := hN.bad hc hok2
        rw [hok2]
        walk_at "go"
        refine ⟨by walk_at "len", fun p9 np9 => ?_⟩
        exact qb i _ _ ho (sS.trans (same_new np9)) upd_same
      rw [hok]
      have hcase := hN.next hd60 hlL hc hok
      walk_at "go"
      refine r_ite (fun zb => ?_) (fun zb => ?_)
      · rcases hcase with ⟨rfl, hN2⟩ | ⟨rfl, _⟩ | ⟨rfl, _⟩
        · walk_at "go"
          refine ⟨by walk_at "len", fun D nD => ?_⟩
          obtain ⟨e1, hK2⟩ := hK.push nD
          have hz9 : (ds.reverse.map V.ref).length < sizeLine := small (by rw [List.length_map, List.length_reverse, hdl]; omega)
          walk_at "go"
          exact ⟨D :: ds, [] :: st, ⟨#[123]⟩, 123, _, _, _, _, _, _, rfl, same_off hu0 (sS.trans (same_new nD)), hK2, fun d hd => (List.mem_cons.mp hd).elim (fun e => by rw [e]; exact sS.free nD) (hf d), .inr ⟨rfl, by decide⟩, hN2⟩
        · exact absurd ((q_brace 125).mp zb) (by decide)
        · exact absurd ((q_brace 44).mp zb) (by decide)
      have hne : c ≠ 123 := fun e => zb ((q_brace c).mpr e)
      walk_at "go"
      refine r_ite (fun zc => ?_) (fun zc => ?_)
      · rcases hcase with ⟨rfl, _⟩ | ⟨rfl, a, b, s, rfl, hN2⟩ | ⟨rfl, _⟩
        · exact absurd rfl hne
        · match ds, hK, hf, hdl, hu with
          | d0 :: d1 :: ds, hK, hf, hdl, hu =>
            obtain ⟨pa, pb⟩ := pop_ref (d := d0) (ds := d1 :: ds)
            obtain ⟨hd0, hK2⟩ := hK.pop
            walk_at "go"
            refine ⟨rfl, ?_⟩
            walk_at "go"
            refine r_pop hu pa ?_
            rw [pb]
            replace sS := same_off (o := .lst ((d1 :: ds).reverse.map V.ref)) hu0 sS
            generalize upd H4 u (.lst ((d1 :: ds).reverse.map V.ref)) = H5 at hd0 hK2 sS ⊢
            have htop := hG.top a rfl
            have hi5 : (if p = 125 then 1 else 0) ≤ 1 := by split <;> omega
            have hal : a.length ≤ 1000 := by omega
            have hW := hN.W
            have hbr : (a.map Ak.br).sum ≤ 2001 := by
              have e1 : Rd.wsum (a :: b :: s) = (a.map Ak.br).sum + ((b.map Ak.br).sum + Rd.wsum s) := rfl
              omega
            refine lcF_vals hd0 (ys := (a.map Ak.txt).map V.str) rfl (by rw [List.length_map, List.length_map]; exact hal) ?_ ?_
            · intro j y z C' N M hy hz hS' hN1
              rw [hy] at hz
              cases hz
              rw [List.getElem?_map] at hy
              cases ex : (a.map Ak.txt)[j]? with
              | none => rw [ex] at hy; cases hy
              | some x =>
              rw [ex] at hy
              cases hy
              walk_at "begin"
              walk_at "go"
              refine ⟨rfl, ?_⟩
              walk_at "go"
              refine r_strS ?_
              exact hN1
            intro D1 nD1
            have s1 := same_new (o := .lst ((a.map Ak.txt).map V.str)) nD1
            have hD1 : (upd H5 D1 (.lst ((a.map Ak.txt).map V.str))) D1 = some (.lst ((a.map Ak.txt).map V.str)) := upd_same
            generalize upd H5 D1 (.lst ((a.map Ak.txt).map V.str)) = H6 at s1 hD1 ⊢
            walk_at "go"
            refine ⟨D1, a.map Ak.txt, rfl, SqL.of hD1, by rw [List.length_map]; exact hal, fun l p9 hm nd hl np => ?_⟩
            rw [List.length_map] at hl
            have s2 := s1.trans (same_new (o := SetTO P w p9 l) np)
            have hp9 : (upd H6 p9 (SetTO P w p9 l)) p9 = some (SetTO P w p9 l) := upd_same
            generalize upd H6 p9 (SetTO P w p9 l) = H7 at s2 hp9 ⊢
            walk_at "go"
            refine ⟨p9, l, rfl, hp9, by omega, fun D2 nD2 => ?_⟩
            have s3 := s2.trans (same_new (o := .lst ((Ak.sortT l).map V.str)) nD2)
            have hD2 : (upd H7 D2 (.lst ((Ak.sortT l).map V.str))) D2 = some (.lst ((Ak.sortT l).map V.str)) := upd_same
            generalize upd H7 D2 (.lst ((Ak.sortT l).map V.str)) = H8 at s3 hD2 ⊢
            have hbn := Ak.brace_num hm nd
            have hc1 : (("," : Str)).length = 1 := by decide +kernel
            have hc2 : (("{" : Str)).length = 1 := by decide +kernel
            have hc3 : (("}" : Str)).length = 1 := by decide +kernel
            have hjl := Ak.join_len' (Ak.sortT l)
            have hsl := (Ak.sortT_perm l).length_eq
            have hss : ((Ak.sortT l).map (·.length)).sum ≤ ((Ak.sortT l).map (·.length)).length * 6100 := sum_cap fun v hv => by
              obtain ⟨y, hy, rfl⟩ := List.mem_map.mp hv
              obtain ⟨m, hm1, rfl⟩ := List.mem_map.mp ((hm y).mp ((Ak.sortT_perm l).mem_iff.mp hy))
              have := Ak.txt_len m
              have : Ak.br m ≤ (a.map Ak.br).sum := Ak.le_sum (List.mem_map.mpr ⟨m, hm1, rfl⟩)
              omega
            rw [List.length_map] at hss
            walk_at "go"
            refine r_join hD2 (by rw [hc1]; omega) ?_
            walk_at "go"
            refine r_catS (big (by rw [hc2]; omega)) ?_
            walk_at "go"
            refine r_catS (big (by rw [Str.length_append, hc2, hc3]; omega)) ?_
            rw [show ("{" : Str) ++ Txt.join "," (Ak.sortT l) ++ ("}" : Str) = Ak.txt (Ak.num a) from hbn]
            have hK3 := hK2.mono s3
            have sS3 := sS.trans s3
            clear hjl hsl hss hbn hm nd hl hD2 s3 s2 hp9 hD1 s1 nD1 np nD2
            have hu3 := hK3.hu
            obtain ⟨hd1, hK5⟩ := hK3.put (Ak.txt (Ak.num a))
            have hbl := hG.rest 0 b rfl
            have hz9 : ((b.map Ak.txt).map V.str).length < sizeLine := small (by rw [List.length_map, List.length_map]; omega)
            walk_at "go"
            rw [List.length_map, List.length_reverse]
            refine r_ixL hu3 last_ref2 ?_
            refine ⟨r_ty hd1, ?_⟩
            walk_at "go"
            refine ⟨d1 :: ds, (b ++ [Ak.num a]) :: s, ⟨#[125]⟩, 125, _, _, _, _, _, _, rfl, same_off (hf d1 (by simp)) sS3, ?_, fun d hd => hf d (List.mem_cons_of_mem _ hd), .inr ⟨rfl, by decide⟩, hN2⟩
            rw [List.map_cons, List.map_append]
            exact hK5
          | [d0], hK, hf, hdl, hu => simp at hdl
          | [], hK, hf, hdl, hu => simp at hdl
        · exact absurd ((q_close 44).mp zc) (by decide)
      · rcases hcase with ⟨rfl, _⟩ | ⟨rfl, _⟩ | ⟨rfl, hN2⟩
        · exact absurd rfl hne
        · exact absurd ((q_close 125).mpr rfl) zc
        · walk_at "go"
          exact ⟨ds, st, ⟨#[44]⟩, 44, _, _, _, _, _, _, rfl, sS, hK, hf, .inr ⟨rfl, by decide⟩, hN2⟩
    · rintro σ H2 ⟨ds, st, ps, p, y3, y4, y5, y6, y7, y8, rfl, sS, hK, hf, hp, hN⟩
      rw [Int.toNat_natCast, ← hsz] at hN
      have hu := hK.hu
      have hdl := hK.len
      rw [List.length_map] at hdl
      rcases hN.last with ⟨rfl, hl0, ho⟩ | ⟨n, rfl, hl0, ho, hn1, hn2, hn3⟩ | ⟨h2, ho⟩
      · have ht0 : t = "" := Ak.L_inj (by rw [hl0]; decide +kernel)
        walk_at "go"
        refine r_ite (fun _ => ?_) (fun z => absurd (congrArg V.str ht0) z)
        walk_at "go"
        refine ⟨t, rfl, big (by omega), ?_⟩
        walk_at "go"
        refine ⟨by walk_at "len", fun p9 np9 => ?_⟩
        exact qb t.length _ _ (by rw [ho, hsz]) (sS.trans (same_new np9)) upd_same
      · have hne : t ≠ "" := fun z => hl0 (by rw [z]; decide +kernel)
        match ds, hK, hf, hu, hdl with
        | [d0], hK, hf, hu, hdl =>
          have hd0 := hK.at_ 0 d0 [Ak.txt n] rfl rfl
          walk_at "go"
          refine r_ite (fun z => absurd (V.str.inj z) hne) (fun _ => ?_)
          walk_at "go"
          refine r_ite (fun z => by simp at z) (fun _ => ?_)
          walk_at "go"
          refine ⟨by walk_at "len", fun p9 np9 => ?_⟩
          exact qn n _ _ ho (sS.trans (same_new np9)) upd_same
        | [], hK, hf, hu, hdl => simp at hdl
        | d0 :: d1 :: ds, hK, hf, hu, hdl => simp at hdl
      · have fin : ∀ p9, H2 p9 = none → Q (.ref p9) (upd H2 p9 (.lst [.int ((t.length : Nat) : Int), .str ""])) := fun p9 np9 => qb t.length _ _ (by rw [ho, hsz]) (sS.trans (same_new np9)) upd_same
        walk_at "go"
        refine r_ite (fun _ => ?_) (fun z => ?_)
        · walk_at "go"
          refine ⟨t, rfl, big (by omega), ?_⟩
          walk_at "go"
          refine ⟨by walk_at "len", fun p9 np9 => ?_⟩
          exact fin p9 np9
        walk_at "go"
        refine r_ite (fun _ => ?_) (fun z2 => absurd z2 ?_)
        · walk_at "go"
          refine ⟨t, rfl, big (by omega), ?_⟩
          walk_at "go"
          refine ⟨by walk_at "len", fun p9 np9 => ?_⟩
          exact fin p9 np9
        · simp
          omega
end

end K06
namespace K06
open PySem PySem.Spec PyProof.Rows L2 Lw


local macro_rules | `(tactic| walk_at "look") => `(tactic| first
  | assumption
  | with_reducible exact upd_same
  | with_reducible exact rg_st
  | with_reducible exact rg_g (by assumption)
  | (with_reducible refine upd_old (by assumption) ?_; walk_at "look")
  | (with_reducible refine rg_get (by assumption) ?_; walk_at "look")
  | (with_reducible refine Same.get (by assumption) ?_; walk_at "look"))
local macro_rules | `(tactic| walk_at "cond") => `(tactic| first
  | (show _ ≠ _; omega) | exact cdivN (by omega) (by omega) | exact cmul_mod (by decide) (by decide) | exact cmulR (by omega) (by omega) | exact cmulL (by omega) (by omega) | exact cpow (by omega) (by omega) (by omega) (by omega) | (show (0:Int) ≤ _; omega))
local macro_rules | `(tactic| walk_at "at") => `(tactic| first | assumption | with_unfolding_all rfl)
local macro_rules | `(tactic| walk_at "sz") => `(tactic| first | assumption | (refine small ?_; omega) | (refine small ?_; simp only [List.length_map, List.length_append, List.length_cons, List.length_nil]; omega))
local macro_rules | `(tactic| walk_at "len") => `(tactic| first | exact size_nil | exact Nat.le_of_lt (small (by simp only [List.length_cons, List.length_nil, List.length_map]; omega)))
local macro_rules | `(tactic| walk_at "newD") => `(tactic| (refine ⟨by walk_at "len", fun p np => ?_⟩; obtain ⟨e, o', hD', n', ne'⟩ := newTD_eq (topRg _ _) (by assumption) (by assumption) np (.lst _); rw [e]; clear e))
local macro_rules | `(tactic| walk_at "new") => `(tactic| (refine ⟨by walk_at "len", fun p np => ?_⟩; obtain ⟨e, o', n'⟩ := newT_eq (topRg _ _) (by assumption) np (.lst _); rw [e]; clear e))
local macro_rules | `(tactic| walk_at "st") => `(tactic| first
  | with_reducible refine r_seq ?_
  | with_reducible refine r_var rfl ?_
  | with_reducible refine r_c ?_
  | with_reducible refine r_asg ?_
  | (with_reducible refine r_name ?_; dsimp only [List.set_cons_zero, List.set_cons_succ])
  | with_reducible refine r_sub ?_
  | with_reducible refine r_op ?_
  | with_reducible refine r_i0 ?_
  | (with_reducible refine' r_i ?k1 ?_; (case k1 => walk_at "cond"))
  | with_reducible refine r_cons ?_
  | with_reducible refine r_nil ?_
  | with_reducible refine r_cb ?_
  | with_reducible refine r_call ?_
  | with_reducible refine r_ifs ?_
  | with_reducible refine r_test ?_
  | with_reducible refine r_tB ?_
  | with_reducible refine r_bl ?_
  | with_reducible refine r_ret ?_
  | with_reducible refine r_drop ?_
  | with_reducible refine r_next ?_
  | (with_reducible refine' r_ixL ?k1 ?k2 ?_; (case k1 => walk_at "look"); (case k2 => walk_at "at"))
  | (with_reducible refine' r_setL ?k1 ?k2 ?_; (case k1 => walk_at "look"); (case k2 => walk_at "at"))
  | (with_reducible refine' r_tup (SqT.of ?k1) ?k2 ?_; (case k1 => walk_at "look"); (case k2 => rfl))
  | with_reducible refine r_gcons ?_
  | with_reducible refine r_gnil ?_
  | with_reducible refine r_aug rfl ?_
  | with_reducible refine r_augS ?_
  | with_reducible refine r_ipI ?_
  | with_reducible refine r_un ?_
  | with_reducible refine r_u ?_
  | with_reducible refine r_eq rfl ?_
  | with_reducible refine r_ne rfl ?_
  | with_reducible refine r_chain ?_
  | with_reducible refine iteF ?_
  | with_reducible refine r_not ?_
  | with_reducible refine r_and ?_
  | with_reducible refine r_or ?_
  | with_reducible refine r_andV ?_
  | with_reducible refine r_orV ?_
  | with_reducible refine r_notV ?_
  | with_reducible refine r_lst ?_
  | with_reducible refine r_bm ?_
  | with_reducible refine r_bm0 ?_
  | (with_reducible refine' And.intro (r_ty ?k1) ?_; (case k1 => walk_at "look"))
  | (with_reducible refine' r_append ?k1 ?k2 ?_; (case k1 => walk_at "look"); (case k2 => walk_at "sz"))
  | (with_reducible refine' r_lenK ?k1 ?_; (case k1 => walk_at "look"))
  | (with_reducible refine' r_listOf ?k1 ?_; (case k1 => walk_at "look"))
  | (with_reducible refine' r_sortedI ?k1 ?_; (case k1 => walk_at "look"))
  | (with_reducible refine' r_sum ?k1 ?_; (case k1 => walk_at "look"))
  | with_reducible refine r_int ?_
  | (with_reducible refine' r_draw (by assumption) ?k1 ?k2 ?_; (case k1 => omega); (case k2 => omega); intro R' n' o' h' h'')
  | with_reducible refine iteT ?_
  | with_reducible refine r_revL ?_
  | with_reducible refine r_lc ?_
  | with_reducible refine r_yes ?_
  | with_reducible refine r_sl ?_
  | with_reducible refine iteNTr ?_
  | with_reducible refine iteNFa ?_
  | with_reducible refine r_fld ?_
  | with_reducible refine r_sFld ?_
  | with_reducible refine r_meth ?_
  | with_reducible refine r_methT ?_
  | with_reducible refine r_prop ?_
  | with_reducible refine r_dget ?_
  | with_reducible refine r_dput ?_
  | with_reducible refine r_noPart ?_
  | with_reducible refine r_part ?_
  | with_reducible refine r_lc2 ?_
  | with_reducible refine r_callN ?_
  | with_reducible refine r_callD ?_
  | with_reducible refine r_tupE ?_
  | with_reducible refine r_rng2 ?_
  | with_reducible refine r_i1 ?_
  | (with_reducible refine' r_slL ?k1 ?_; (case k1 => walk_at "look"))
  | with_reducible refine r_for ?_
  | with_reducible refine r_iList ?_
  | with_reducible refine r_rng1 ?_
  | with_reducible refine r_enum ?_
  | (with_reducible show Ends.nx _ _ _; dsimp only)
  | (with_reducible show Ends.rt _ _ _; dsimp only)
  | (with_reducible show Ends.ct _ _ _; dsimp only)
  | (with_reducible show Ends.bk _ _ _; dsimp only))
local macro_rules | `(tactic| walk_at "go") => `(tactic| repeat (walk_at "st"))
local macro_rules | `(tactic| walk_at "begin") => `(tactic| dsimp only [cxOf, wipe, L2.start, List.map, List.length_cons, List.length_nil, Nat.reduceAdd, Nat.reduceSub, List.replicate, List.cons_append, List.nil_append])


def spNSpell6 (K : PySem.W.Frag) (C : Addr) (d : Nat) : Sp := fun args H Q _ => ∃ (U : Addr → Prop) (a : Addr) (n : Nat), args = [.ref a] ∧ NAt K C U H a n ∧ Ak.Few 700 n ∧ Ak.br n ≤ 9000 ∧ Ak.dep n < d ∧
  ∀ H', Same H H' → Q (.str (Ak.txt n)) H'
theorem pss_when {X : Cx} {b : List Stmt} {t : TS} {P : Prop} (h : P → PSs X b t) : PSs X b (fun D σ H => P ∧ t D σ H) := ⟨fun pins s σ H D I hh => (h hh.1).run pins s σ H D I hh.2⟩
theorem zc_at {cls : Value} {d : Option Addr} {CN : Addr} {oe : Obj} (e : cls = .ref CN ∧ d = none) (h : Zc cls d oe) : Zc (.ref CN) none oe := by rw [← e.1, ← e.2]; exact h
theorem zc_cls {cls : Value} {d : Option Addr} {CN : Addr} {oe : Obj} (e : cls = .ref CN) (h : Zc cls d oe) : Zc (.ref CN) d oe := by rw [← e]; exact h
theorem r_callS {sp : Sp} {E : L2.St → XK} {t : TA} {σ : L2.St} {H : Hp} {Q : VK} (h : t σ H fun vs H1 => sp vs H1 Q (E σ)) : tCallS sp E t σ H Q := h
/-- the error classes' names -/
structure ExG (mg : Str → Option Value) (CB CT c1 c2 c3 c4 c5 c6 c7 c8 c9 cE : Addr) : Prop where
  g_BadText : mg "BadText" = some (.ref CB)
  g_TooGreat : mg "TooGreat" = some (.ref CT)
  g_NotOpen : mg "NotOpen" = some (.ref c1)
  g_NotStanding : mg "NotStanding" = some (.ref c2)
  g_HasRing : mg "HasRing" = some (.ref c3)
  g_NoFact : mg "NoFact" = some (.ref c4)
  g_BookFull : mg "BookFull" = some (.ref c5)
  g_FailedCheck : mg "FailedCheck" = some (.ref c6)
  g_NoSet : mg "NoSet" = some (.ref c7)
  g_NothingToUndo : mg "NothingToUndo" = some (.ref c8)
  g_BadLine : mg "BadLine" = some (.ref c9)
  g_SetnestsError : mg "SetnestsError" = some (.ref cE)
/-- what the written part says of the error class D -/
structure ExK (K : PySem.W.Frag) (D : Addr) (l8 l2 : List Value) (cE : Addr) : Prop where
  c : ExcC K D
  k8 : PySem.W.kitAny K (.ref D) l8 = some false
  k2 : PySem.W.kitAny K (.ref D) l2 = some false
  kE : PySem.W.kitOne K (.ref D) (.ref cE) = some true
  kV : PySem.W.kitOne K (.ref D) (.type "ValueError") = some true
structure ExM (K : PySem.W.Frag) (CB CT : Addr) : Prop where
  bb : PySem.W.exmOne K (.ref CB) (.ref CB) = some true
  tb : PySem.W.exmOne K (.ref CT) (.ref CB) = some false
  tt : PySem.W.exmOne K (.ref CT) (.ref CT) = some true
def spTold (K : PySem.W.Frag) (C : Addr) : Sp := fun vs H Q _ => ∃ (U : Addr → Prop) (t : Str), vs = [.str t] ∧ (∀ c, H c = none → U c) ∧ t.length ≤ 5000000 ∧
  (∀ H' p, (2000 < t.length ∨ 60 < Rd.deep (Ak.L t)) → Same H H' → H' p = some (.lst [.str "great", .int 0, .bl true]) → Q (.ref p) H') ∧
  (t.length ≤ 2000 → Rd.deep (Ak.L t) ≤ 60 → (∀ (i : Nat) H' p, Rd.out (Ak.L t) = .inl i → Same H H' → H' p = some (.lst [.str "bad", .int ((i : Nat) : Int), .bl true]) → Q (.ref p) H') ∧
    (∀ (n : Nat) H' p x, Rd.out (Ak.L t) = .inr n → Ak.br n ≤ 2000 → Ak.Few 700 n → Ak.dep n ≤ 60 → Same H H' → H' p = some (.lst [.str "nest", .ref x, .bl true]) → NAt K C U H' x n → Q (.ref p) H'))
section
variable {P : Program} {w : World} {K : PySem.W.Frag} {mg : Str → Option Value} {base : Heap} {C CB CT c1 c2 c3 c4 c5 c6 c7 c8 c9 cE : Addr}
theorem rd_spelled {f : Addr} {fd : FuncData} (B : Blt mg) (NX0 : NX P w K mg base C) (D : Dn K mg "_law_spelled" s__law_spelled ["nest"] f fd) : ∀ d, FnOk P w K mg base CX0 (3 + d) f fd ["nest"] (spNSpell6 K C d)
  | 0 => ⟨fun vs H Q E h => (by obtain ⟨U, a, n, rfl, _⟩ := h; rfl), fun A outer s H args us vs Q E hr e0 hb r h => (by obtain ⟨U, a, n, _, _, _, _, hd, _⟩ := h; exact absurd hd (Nat.not_lt_zero _))⟩
  | d + 1 => by
    have ih := rd_spelled B NX0 D d
    have Z := NX0.Z
    obtain ⟨fI, fdI, MI, GI⟩ := NX0.iter
    refine D.F.ok (k := 3 + d) sc__law_spelled (fun vs H Q E h => ?_) (fun cdv A outer s H vs Q E hr h => ?_)
    · obtain ⟨U, a, n, rfl, _⟩ := h
      rfl
    · obtain ⟨U, a, n, rfl, ha, hf, hb, hd, q⟩ := h
      refine ⟨_, (pss_one (ps_ret (pe_op op_catS (pe_op op_catS pe_str (pe_bmK (K := K) rfl PySem.F.plainAttrs_str PySem.F.slot_str_join PySem.F.type_str_join (mt_joinK (K := K) rfl) pe_str (pa_cons (pe_callB (cr_sortedSA (K := K) rfl) (by rfl) B.m_sorted (by decide +kernel) (pa_cons (pe_lc (own := [("member", 1)]) rfl sc__law_spelled.nd (pi_ownK (E := E) (K := K) rfl (pv 0) MI.s MI.fn GI MI.b (hr.mono (by omega))) (blkOk_by (own := [("member", 1)]) (by kernel_rfl))
        (fun _ _ _ _ _ => (pg_name (i := 1) sc__law_spelled.nd rfl (.inl rfl))) (fun _ _ _ _ _ => pts_nil)
        (fun _ _ _ _ _ => (pe_callTy call_strS (by rfl) B.m_str (by decide +kernel) (pa_cons (pe_call ih (hr.mono (Nat.le_refl _)) (by rfl) D.g D.F.kp D.b .nil pass0 (pa_cons (pv 1) pa_nil)) pa_nil)))) pa_nil)) pa_nil))) pe_str))), ?_⟩
      obtain ⟨dx, l, kt, as, e1, e2, e3, e4⟩ := ha.get
      have hlen := e3.len
      cases hf with
      | mk hf1 hf2 =>
      walk_at "begin"
      walk_at "go"
      refine ⟨rfl, ?_⟩
      walk_at "go"
      refine r_iOwnV rfl e1 e2 ?_
      refine lcG_vals e2 (ys := ((Ak.mem n).map Ak.txt).map V.str) (by rw [List.length_map, List.length_map, List.length_map, hlen]) (by rw [List.length_map]; omega) ?_ ?_
      · intro j y z C' N M hy hz hS' hN1
        rw [List.getElem?_map] at hy
        cases eb : as[j]? with
        | none => rw [eb] at hy; cases hy
        | some b =>
        rw [eb] at hy
        cases hy
        obtain ⟨m, hm, hbm⟩ := e3.num eb
        rw [List.getElem?_map, List.getElem?_map, hm] at hz
        cases hz
        have hmem := List.mem_of_getElem? hm
        have hdm := Ak.dep_mem hmem
        have hbm2 := Ak.br_mem hmem
        walk_at "begin"
        walk_at "go"
        refine ⟨rfl, ?_⟩
        walk_at "go"
        refine ⟨U, b, m, rfl, hbm.mono hS', hf2 m hmem, by omega, by omega, fun H5 s5 => ?_⟩
        walk_at "go"
        refine r_strS ?_
        exact hN1 _ s5
      intro D5 H5 n5 s5 h5
      walk_at "go"
      refine r_sortedTA h5 (by rw [List.length_map]; omega) fun p6 np6 => ?_
      have s6 := s5.trans (same_new (o := .lst ((Ak.sortT ((Ak.mem n).map Ak.txt)).map V.str)) np6)
      have hsum : (((Ak.sortT ((Ak.mem n).map Ak.txt)).map (·.length)).sum) + (Ak.sortT ((Ak.mem n).map Ak.txt)).length ≤ 90000 := by
        have e1 := Ak.sum_perm ((Ak.sortT_perm ((Ak.mem n).map Ak.txt)).map (·.length))
        have e2 := (Ak.sortT_perm ((Ak.mem n).map Ak.txt)).length_eq
        have e3 := Ak.txts_len (Ak.mem n)
        have e5 := Ak.br_eq n
        rw [e1, e2]
        omega
      have hT : ("{" : Str) ++ Txt.join "," (Ak.sortT ((Ak.mem n).map Ak.txt)) ++ ("}" : Str) = Ak.txt n := (Ak.txt_eq n).symm
      walk_at "go"
      have hc1 : (("," : Str)).length = 1 := by decide +kernel
      have hc2 : (("{" : Str)).length = 1 := by decide +kernel
      have hc3 : (("}" : Str)).length = 1 := by decide +kernel
      have hjl := Ak.join_len' (Ak.sortT ((Ak.mem n).map Ak.txt))
      refine r_join upd_same (by rw [hc1]; omega) ?_
      walk_at "go"
      refine r_catS (Nat.le_of_lt (small (by rw [hc2]; omega))) ?_
      walk_at "go"
      refine r_catS (Nat.le_of_lt (small (by rw [Str.length_append, hc2, hc3]; omega))) ?_
      rw [hT]
      exact q _ s6
theorem ok_spelled {f : Addr} {fd : FuncData} (B : Blt mg) (NX0 : NX P w K mg base C) (D : Dn K mg "_law_spelled" s__law_spelled ["nest"] f fd) : FnOk P w K mg base CX0 73 f fd ["nest"] (spNSpell6 K C 70) := by
  exact rd_spelled B NX0 D 70

theorem ok_told {f f1 : Addr} {fd fd1 : FuncData} (B : Blt mg) (ZG : ExG mg CB CT c1 c2 c3 c4 c5 c6 c7 c8 c9 cE) (ZB : ExK K CB [.ref CT, .ref c1, .ref c2, .ref c3, .ref c4, .ref c5, .ref c6, .ref c7] [.ref c8, .ref c9] cE) (ZT : ExK K CT [.ref CB, .ref c1, .ref c2, .ref c3, .ref c4, .ref c5, .ref c6, .ref c7] [.ref c8, .ref c9] cE) (ZM : ExM K CB CT) (ZX : XfC K CB ∧ PySem.W.findIn K (.ref CB) "at" = some none)
    (D : Dn K mg "_law_told" s__law_told ["text"] f fd) (Dread_nest : Dn K mg "read_nest" s_read_nest ["text"] f1 fd1)
    (Gread_nest : FnOk P w K mg base (L2.CX P w) 9 f1 fd1 ["text"] (spRead K C CT CB)) : FnOk P w K mg base CX0 10 f fd ["text"] (spTold K C) := by
  refine D.F.ok sc__law_told (fun vs H Q E h => ?_) (fun cdv A outer s H vs Q E hr h => ?_)
  · obtain ⟨U, t, rfl, _⟩ := h
    rfl
  · obtain ⟨U, t, rfl, hU, htl, q1, q2⟩ := h
    refine ⟨_, (pss_cons (ps_set (i := 1) sc__law_told.nd rfl (.inl rfl) (pe_lst (pa_cons pe_str (pa_cons pe_int (pa_cons pe_bl pa_nil))))) (pss_cons (ps_try_asM rfl rfl sc__law_told.nd (fun W pn xe tk _ => pss_one (by exact (ps_set (i := 1) sc__law_told.nd rfl (.inl rfl) (by exact (pe_lst (pa_cons pe_str (pa_cons (pe_callS Gread_nest (hr.mono (by decide)) (by rfl) Dread_nest.g Dread_nest.F.kp Dread_nest.b (fun σ => passAt tk σ) (by exact (pa_cons (pv 0) pa_nil))) (pa_cons pe_bl pa_nil))))))))
      (HdsA.cons (i := 2) ⟨rfl, by decide, .inl ZG.g_BadText⟩ rfl rfl (fun a oe cls d pn hz hf => pss_when (P := cls = .ref CB) fun e => by exact (pss_cons (ps_set (i := 3) sc__law_told.nd rfl (.inl rfl) (pe_callB (call_isETD ZB.c (zc_cls e hz) hf) (by rfl) B.m_isinstance (by decide +kernel) (pa_cons (pv 2) (pa_cons (pe_tup (pa_cons (pe_glob (v := .ref CT) rfl ZG.g_TooGreat rfl) (pa_cons (pe_glob (v := .ref c1) rfl ZG.g_NotOpen rfl) (pa_cons (pe_glob (v := .ref c2) rfl ZG.g_NotStanding rfl) (pa_cons (pe_glob (v := .ref c3) rfl ZG.g_HasRing rfl) (pa_cons (pe_glob (v := .ref c4) rfl ZG.g_NoFact rfl) (pa_cons (pe_glob (v := .ref c5) rfl ZG.g_BookFull rfl) (pa_cons (pe_glob (v := .ref c6) rfl ZG.g_FailedCheck rfl) (pa_cons (pe_glob (v := .ref c7) rfl ZG.g_NoSet rfl) pa_nil))))))))) pa_nil)))) (pss_cons (ps_set (i := 3) sc__law_told.nd rfl (.inl rfl) (pe_or (pv 3) (pe_or (pe_callB (call_isETD ZB.c (zc_cls e hz) hf) (by rfl) B.m_isinstance (by decide +kernel) (pa_cons (pv 2) (pa_cons (pe_tup (pa_cons (pe_glob (v := .ref c8) rfl ZG.g_NothingToUndo rfl) (pa_cons (pe_glob (v := .ref c9) rfl ZG.g_BadLine rfl) pa_nil))) pa_nil))) (pe_one (pe_not (pe_callB (call_isED ZB.c (zc_cls e hz) hf) (by rfl) B.m_isinstance (by decide +kernel) (pa_cons (pv 2) (pa_cons (pe_glob (v := .ref cE) rfl ZG.g_SetnestsError rfl) pa_nil)))))))) (pss_one (ps_set (i := 1) sc__law_told.nd rfl (.inl rfl) (pe_lst (pa_cons pe_str (pa_cons (pe_xf ZX.1 ZX.2 hz hf (pv 2)) (pa_cons (pe_and (pe_not (pv 3)) (pe_one (pe_callB (call_isED ZB.c (zc_cls e hz) hf) (by rfl) B.m_isinstance (by decide +kernel) (pa_cons (pv 2) (pa_cons (pe_bltn (v := .ty "ValueError") (by rfl) B.m_ValueError (by decide +kernel) rfl) pa_nil))))) pa_nil)))))))))
      (HdsA.cons (i := 4) ⟨rfl, by decide, .inl ZG.g_TooGreat⟩ rfl rfl (fun a oe cls d pn hz hf => pss_when (P := cls = .ref CT ∧ d = none) fun e => by exact (pss_cons (ps_set (i := 3) sc__law_told.nd rfl (.inl rfl) (pe_callB (call_isET ZT.c (zc_at e hz) hf) (by rfl) B.m_isinstance (by decide +kernel) (pa_cons (pv 4) (pa_cons (pe_tup (pa_cons (pe_glob (v := .ref CB) rfl ZG.g_BadText rfl) (pa_cons (pe_glob (v := .ref c1) rfl ZG.g_NotOpen rfl) (pa_cons (pe_glob (v := .ref c2) rfl ZG.g_NotStanding rfl) (pa_cons (pe_glob (v := .ref c3) rfl ZG.g_HasRing rfl) (pa_cons (pe_glob (v := .ref c4) rfl ZG.g_NoFact rfl) (pa_cons (pe_glob (v := .ref c5) rfl ZG.g_BookFull rfl) (pa_cons (pe_glob (v := .ref c6) rfl ZG.g_FailedCheck rfl) (pa_cons (pe_glob (v := .ref c7) rfl ZG.g_NoSet rfl) pa_nil))))))))) pa_nil)))) (pss_cons (ps_set (i := 3) sc__law_told.nd rfl (.inl rfl) (pe_or (pv 3) (pe_or (pe_callB (call_isET ZT.c (zc_at e hz) hf) (by rfl) B.m_isinstance (by decide +kernel) (pa_cons (pv 4) (pa_cons (pe_tup (pa_cons (pe_glob (v := .ref c8) rfl ZG.g_NothingToUndo rfl) (pa_cons (pe_glob (v := .ref c9) rfl ZG.g_BadLine rfl) pa_nil))) pa_nil))) (pe_one (pe_not (pe_callB (call_isE ZT.c (zc_at e hz) hf) (by rfl) B.m_isinstance (by decide +kernel) (pa_cons (pv 4) (pa_cons (pe_glob (v := .ref cE) rfl ZG.g_SetnestsError rfl) pa_nil)))))))) (pss_one (ps_set (i := 1) sc__law_told.nd rfl (.inl rfl) (pe_lst (pa_cons pe_str (pa_cons pe_int (pa_cons (pe_and (pe_not (pv 3)) (pe_one (pe_callB (call_isE ZT.c (zc_at e hz) hf) (by rfl) B.m_isinstance (by decide +kernel) (pa_cons (pv 4) (pa_cons (pe_bltn (v := .ty "ValueError") (by rfl) B.m_ValueError (by decide +kernel) rfl) pa_nil))))) pa_nil))))))))) HdsA.nil)))
      (pss_one (ps_ret (pv 1))))), ?_⟩
    walk_at "begin"
    walk_at "go"
    refine ⟨by walk_at "len", fun p0 np0 => ?_⟩
    have s0 := same_new (o := .lst [.str "other", .int 0, .bl false]) np0
    generalize upd H p0 (.lst [.str "other", .int 0, .bl false]) = H0 at s0 ⊢
    walk_at "go"
    refine r_callS ?_
    walk_at "go"
    refine ⟨U, t, rfl, fun c hc => hU c (s0.free hc), htl, fun hgt => ?_, fun h1 h2 => ⟨fun i ho H2 dd s2 hd0 => ?_, fun n H2 x ho hn1 hn2 hn3 s2 hA => ?_⟩⟩
    · refine ⟨false, ZM.tb, (fun z => nomatch z), fun _ => ⟨true, ZM.tt, fun _ a na => ⟨⟨rfl, rfl⟩, ?_⟩, (fun z => nomatch z)⟩⟩
      dsimp only [List.set_cons_zero, List.set_cons_succ, endsX]
      walk_at "go"
      refine ⟨by walk_at "len", fun t8 nt8 => ?_⟩
      have s8 := s0.trans (same_new (o := .tup [.ref CB, .ref c1, .ref c2, .ref c3, .ref c4, .ref c5, .ref c6, .ref c7]) nt8)

      walk_at "go"
      refine ⟨t8, [CB, c1, c2, c3, c4, c5, c6, c7], false, rfl, upd_same, ZT.k8, ?_⟩
      generalize upd H0 t8 (.tup [.ref CB, .ref c1, .ref c2, .ref c3, .ref c4, .ref c5, .ref c6, .ref c7]) = H8 at s8 ⊢
      walk_at "go"
      refine ⟨by walk_at "len", fun t2 nt2 => ?_⟩
      have s9 := s8.trans (same_new (o := .tup [.ref c8, .ref c9]) nt2)

      walk_at "go"
      refine ⟨t2, [c8, c9], false, rfl, upd_same, ZT.k2, ?_⟩
      generalize upd H8 t2 (.tup [.ref c8, .ref c9]) = H9 at s9 ⊢
      walk_at "go"
      refine ⟨_, .ref cE, true, rfl, fun u hu => hu, ZT.kE, ?_⟩
      refine ⟨true, rfl, ?_⟩
      rw [show (!true) = false from rfl]
      walk_at "go"
      refine ⟨_, .type "ValueError", true, rfl, fun u hu => hu, ZT.kV, ?_⟩
      walk_at "go"
      refine ⟨by walk_at "len", fun p9 np9 => ?_⟩
      walk_at "go"
      exact q1 _ p9 hgt (s9.trans (same_new np9)) upd_same
    · replace s0 := s0.trans s2
      clear s2
      refine ⟨true, ZM.bb, fun _ a na => ⟨rfl, ?_⟩, (fun z => nomatch z)⟩
      dsimp only [List.set_cons_zero, List.set_cons_succ, endsX]
      walk_at "go"
      refine ⟨by walk_at "len", fun t8 nt8 => ?_⟩
      have s8 := s0.trans (same_new (o := .tup [.ref CT, .ref c1, .ref c2, .ref c3, .ref c4, .ref c5, .ref c6, .ref c7]) nt8)
      have hd8 := same_new (o := .tup [.ref CT, .ref c1, .ref c2, .ref c3, .ref c4, .ref c5, .ref c6, .ref c7]) nt8 _ _ hd0
      walk_at "go"
      refine ⟨t8, [CT, c1, c2, c3, c4, c5, c6, c7], false, dd, _, rfl, rfl, hd8, upd_same, ZB.k8, ?_⟩
      generalize upd H2 t8 (.tup [.ref CT, .ref c1, .ref c2, .ref c3, .ref c4, .ref c5, .ref c6, .ref c7]) = H8 at s8 hd8 ⊢
      walk_at "go"
      refine ⟨by walk_at "len", fun t2 nt2 => ?_⟩
      have s9 := s8.trans (same_new (o := .tup [.ref c8, .ref c9]) nt2)
      have hd9 := same_new (o := .tup [.ref c8, .ref c9]) nt2 _ _ hd8
      walk_at "go"
      refine ⟨t2, [c8, c9], false, dd, _, rfl, rfl, hd9, upd_same, ZB.k2, ?_⟩
      generalize upd H8 t2 (.tup [.ref c8, .ref c9]) = H9 at s9 hd9 ⊢
      walk_at "go"
      refine ⟨_, .ref cE, true, dd, _, rfl, rfl, hd9, fun u hu => hu, ZB.kE, ?_⟩
      refine ⟨true, rfl, ?_⟩
      rw [show (!true) = false from rfl]
      walk_at "go"
      refine ⟨_, rfl, rfl, rfl, dd, _, _, rfl, hd9, rfl, ?_⟩
      walk_at "go"
      refine ⟨_, .type "ValueError", true, dd, _, rfl, rfl, hd9, fun u hu => hu, ZB.kV, ?_⟩
      walk_at "go"
      refine ⟨by walk_at "len", fun p9 np9 => ?_⟩
      walk_at "go"
      exact (q2 h1 h2).1 i _ p9 ho (s9.trans (same_new np9)) upd_same
    · walk_at "go"
      refine ⟨by walk_at "len", fun p1 np1 => ?_⟩
      walk_at "go"
      exact (q2 h1 h2).2 n _ p1 x ho hn1 hn2 hn3 ((s0.trans s2).trans (same_new np1)) upd_same (hA.mono (same_new np1))
end

end K06
namespace K06
open PySem PySem.Spec PyProof.Rows L2 Lw


local macro_rules | `(tactic| walk_at "look") => `(tactic| first
  | assumption
  | with_reducible exact upd_same
  | with_reducible exact rg_st
  | with_reducible exact rg_g (by assumption)
  | (with_reducible refine upd_old (by assumption) ?_; walk_at "look")
  | (with_reducible refine rg_get (by assumption) ?_; walk_at "look")
  | (with_reducible refine Same.get (by assumption) ?_; walk_at "look"))
local macro_rules | `(tactic| walk_at "cond") => `(tactic| first
  | (show _ ≠ _; omega) | exact cdivN (by omega) (by omega) | exact cmul_mod (by decide) (by decide) | exact cmulR (by omega) (by omega) | exact cmulL (by omega) (by omega) | exact cpow (by omega) (by omega) (by omega) (by omega) | (show (0:Int) ≤ _; omega))
local macro_rules | `(tactic| walk_at "at") => `(tactic| first | assumption | with_unfolding_all rfl)
local macro_rules | `(tactic| walk_at "sz") => `(tactic| first | assumption | (refine small ?_; omega) | (refine small ?_; simp only [List.length_map, List.length_append, List.length_cons, List.length_nil]; omega))
local macro_rules | `(tactic| walk_at "len") => `(tactic| first | exact size_nil | exact Nat.le_of_lt (small (by simp only [List.length_cons, List.length_nil, List.length_map]; omega)))
local macro_rules | `(tactic| walk_at "newD") => `(tactic| (refine ⟨by walk_at "len", fun p np => ?_⟩; obtain ⟨e, o', hD', n', ne'⟩ := newTD_eq (topRg _ _) (by assumption) (by assumption) np (.lst _); rw [e]; clear e))
local macro_rules | `(tactic| walk_at "new") => `(tactic| (refine ⟨by walk_at "len", fun p np => ?_⟩; obtain ⟨e, o', n'⟩ := newT_eq (topRg _ _) (by assumption) np (.lst _); rw [e]; clear e))
local macro_rules | `(tactic| walk_at "st") => `(tactic| first
  | with_reducible refine r_seq ?_
  | with_reducible refine r_var rfl ?_
  | with_reducible refine r_c ?_
  | with_reducible refine r_asg ?_
  | (with_reducible refine r_name ?_; dsimp only [List.set_cons_zero, List.set_cons_succ])
  | with_reducible refine r_sub ?_
  | with_reducible refine r_op ?_
  | with_reducible refine r_i0 ?_
  | (with_reducible refine' r_i ?k1 ?_; (case k1 => walk_at "cond"))
  | with_reducible refine r_cons ?_
  | with_reducible refine r_nil ?_
  | with_reducible refine r_cb ?_
  | with_reducible refine r_call ?_
  | with_reducible refine r_ifs ?_
  | with_reducible refine r_test ?_
  | with_reducible refine r_tB ?_
  | with_reducible refine r_bl ?_
  | with_reducible refine r_ret ?_
  | with_reducible refine r_drop ?_
  | with_reducible refine r_next ?_
  | (with_reducible refine' r_ixL ?k1 ?k2 ?_; (case k1 => walk_at "look"); (case k2 => walk_at "at"))
  | (with_reducible refine' r_setL ?k1 ?k2 ?_; (case k1 => walk_at "look"); (case k2 => walk_at "at"))
  | (with_reducible refine' r_tup (SqT.of ?k1) ?k2 ?_; (case k1 => walk_at "look"); (case k2 => rfl))
  | with_reducible refine r_gcons ?_
  | with_reducible refine r_gnil ?_
  | with_reducible refine r_aug rfl ?_
  | with_reducible refine r_augS ?_
  | with_reducible refine r_ipI ?_
  | with_reducible refine r_un ?_
  | with_reducible refine r_u ?_
  | with_reducible refine r_eq rfl ?_
  | with_reducible refine r_ne rfl ?_
  | with_reducible refine r_chain ?_
  | with_reducible refine iteF ?_
  | with_reducible refine r_not ?_
  | with_reducible refine r_and ?_
  | with_reducible refine r_or ?_
  | with_reducible refine r_andV ?_
  | with_reducible refine r_orV ?_
  | with_reducible refine r_notV ?_
  | with_reducible refine r_lst ?_
  | with_reducible refine r_bm ?_
  | with_reducible refine r_bm0 ?_
  | (with_reducible refine' And.intro (r_ty ?k1) ?_; (case k1 => walk_at "look"))
  | (with_reducible refine' r_append ?k1 ?k2 ?_; (case k1 => walk_at "look"); (case k2 => walk_at "sz"))
  | (with_reducible refine' r_lenK ?k1 ?_; (case k1 => walk_at "look"))
  | (with_reducible refine' r_listOf ?k1 ?_; (case k1 => walk_at "look"))
  | (with_reducible refine' r_sortedI ?k1 ?_; (case k1 => walk_at "look"))
  | (with_reducible refine' r_sum ?k1 ?_; (case k1 => walk_at "look"))
  | with_reducible refine r_int ?_
  | (with_reducible refine' r_draw (by assumption) ?k1 ?k2 ?_; (case k1 => omega); (case k2 => omega); intro R' n' o' h' h'')
  | with_reducible refine iteT ?_
  | with_reducible refine r_revL ?_
  | with_reducible refine r_lc ?_
  | with_reducible refine r_yes ?_
  | with_reducible refine r_sl ?_
  | with_reducible refine iteNTr ?_
  | with_reducible refine iteNFa ?_
  | with_reducible refine r_fld ?_
  | with_reducible refine r_sFld ?_
  | with_reducible refine r_meth ?_
  | with_reducible refine r_methT ?_
  | with_reducible refine r_prop ?_
  | with_reducible refine r_dget ?_
  | with_reducible refine r_dput ?_
  | with_reducible refine r_noPart ?_
  | with_reducible refine r_part ?_
  | with_reducible refine r_lc2 ?_
  | with_reducible refine r_callN ?_
  | with_reducible refine r_callD ?_
  | with_reducible refine r_tupE ?_
  | with_reducible refine r_rng2 ?_
  | with_reducible refine r_i1 ?_
  | (with_reducible refine' r_slL ?k1 ?_; (case k1 => walk_at "look"))
  | with_reducible refine r_for ?_
  | with_reducible refine r_iList ?_
  | with_reducible refine r_rng1 ?_
  | with_reducible refine r_enum ?_
  | (with_reducible show Ends.nx _ _ _; dsimp only)
  | (with_reducible show Ends.rt _ _ _; dsimp only)
  | (with_reducible show Ends.ct _ _ _; dsimp only)
  | (with_reducible show Ends.bk _ _ _; dsimp only))
local macro_rules | `(tactic| walk_at "go") => `(tactic| repeat (walk_at "st"))
local macro_rules | `(tactic| walk_at "begin") => `(tactic| dsimp only [cxOf, wipe, L2.start, List.map, List.length_cons, List.length_nil, Nat.reduceAdd, Nat.reduceSub, List.replicate, List.cons_append, List.nil_append])


def spRight (K : PySem.W.Frag) (C : Addr) : Sp := fun vs H Q _ => ∃ (U : Addr → Prop) (t : Str), vs = [.str t] ∧ (∀ c, H c = none → U c) ∧ t.length ≤ 5000000 ∧ ∀ H', Same H H' → Q (.bl true) H'
section
variable {P : Program} {w : World} {K : PySem.W.Frag} {mg : Str → Option Value} {base : Heap} {C : Addr}
theorem ok_right {f f1 f2 f3 f4 : Addr} {fd fd1 fd2 fd3 fd4 : FuncData} (B : Blt mg) (NX0 : NX P w K mg base C) (D : Dn K mg "_law_right" s__law_right ["text"] f fd)
    (D_law_told : Dn K mg "_law_told" s__law_told ["text"] f1 fd1) (G_law_told : FnOk P w K mg base CX0 10 f1 fd1 ["text"] (spTold K C))
    (D_law_deep : Dn K mg "_law_deep" s__law_deep ["text"] f2 fd2) (G_law_deep : FnOk P w K mg base CX0 1 f2 fd2 ["text"] spDeepL)
    (D_law_scan : Dn K mg "_law_scan" s__law_scan ["text"] f3 fd3) (G_law_scan : FnOk P w K mg base CX0 1 f3 fd3 ["text"] spScan)
    (D_law_spelled : Dn K mg "_law_spelled" s__law_spelled ["nest"] f4 fd4) (G_law_spelled : FnOk P w K mg base CX0 73 f4 fd4 ["nest"] (spNSpell6 K C 70)) :
    FnOk P w K mg base CX0 74 f fd ["text"] (spRight K C) := by
  have Z := NX0.Z
  refine D.F.ok sc__law_right (fun vs H Q E h => ?_) (fun cdv A outer s H vs Q E hr h => ?_)
  · obtain ⟨U, t, rfl, _⟩ := h
    rfl
  · obtain ⟨U, t, rfl, hU, htl, q⟩ := h
    refine ⟨_, (pss_cons (ps_set (i := 1) sc__law_right.nd rfl (.inl rfl) (pe_call G_law_told (hr.mono (by decide)) (by rfl) D_law_told.g D_law_told.F.kp D_law_told.b .nil pass0 (pa_cons (pv 0) pa_nil)))
      (pss_cons (ps_if (PW.pt (pw_or (pt_cmpR op_gt (pe_callB call_len_str (by rfl) B.m_len PySem.boot_len (pa_cons (pv 0) pa_nil)) pe_int (nomark _)) (pw_or1 (pt_cmpR op_gt (pe_call G_law_deep (hr.mono (by decide)) (by rfl) D_law_deep.g D_law_deep.F.kp D_law_deep.b .nil pass0 (pa_cons (pv 0) pa_nil)) pe_int (nomark _))))) (pss_one (ps_ret (pe_and (pe_cmpR op_eq (pe_ix (ix_listK (K := K) rfl) (pv 1) pe_int (fun _ _ => rfl)) pe_str (nomark _)) (pe_one (pe_ix (ix_listK (K := K) rfl) (pv 1) pe_int (fun _ _ => rfl)))))) pss_nil)
      (pss_cons (ps_set (i := 2) sc__law_right.nd rfl (.inl rfl) (pe_call G_law_scan (hr.mono (by decide)) (by rfl) D_law_scan.g D_law_scan.F.kp D_law_scan.b .nil pass0 (pa_cons (pv 0) pa_nil)))
      (pss_cons (ps_if (pt_cmpR op_lt (pe_ix (ix_listK (K := K) rfl) (pv 2) pe_int (fun _ _ => rfl)) pe_int (nomark _)) (pss_one (ps_ret (pe_and (pe_cmpR op_eq (pe_ix (ix_listK (K := K) rfl) (pv 1) pe_int (fun _ _ => rfl)) pe_str (nomark _)) (pe_and (pe_callB (call_isiK' (K := K) rfl) (by rfl) B.m_isinstance (by decide +kernel) (pa_cons (pe_ix (ix_listK (K := K) rfl) (pv 1) pe_int (fun _ _ => rfl)) (pa_cons (pe_glob (v := .ref C) rfl Z.gN rfl) pa_nil))) (pe_one (pe_cmpR op_eq (pe_call G_law_spelled (hr.mono (by decide)) (by rfl) D_law_spelled.g D_law_spelled.F.kp D_law_spelled.b .nil pass0 (pa_cons (pe_ix (ix_listK (K := K) rfl) (pv 1) pe_int (fun _ _ => rfl)) pa_nil)) (pe_ix (ix_listK (K := K) rfl) (pv 2) pe_int (fun _ _ => rfl)) (nomark _))))))) pss_nil)
      (pss_cons (ps_if (PW.pt (pw_or (pt_cmpR op_ne (pe_ix (ix_listK (K := K) rfl) (pv 1) pe_int (fun _ _ => rfl)) pe_str (nomark _)) (pw_or (pt_not (pt_val (pe_ix (ix_listK (K := K) rfl) (pv 1) pe_int (fun _ _ => rfl)))) (pw_or (pt_not (pt_val (pe_callB (call_isiK' (K := K) rfl) (by rfl) B.m_isinstance (by decide +kernel) (pa_cons (pe_ix (ix_listK (K := K) rfl) (pv 1) pe_int (fun _ _ => rfl)) (pa_cons (pe_bltn (v := .ty "int") (by rfl) B.m_int (by decide +kernel) rfl) pa_nil))))) (pw_or1 (pt_val (pe_callB (call_isiK' (K := K) rfl) (by rfl) B.m_isinstance (by decide +kernel) (pa_cons (pe_ix (ix_listK (K := K) rfl) (pv 1) pe_int (fun _ _ => rfl)) (pa_cons (pe_bltn (v := .ty "bool") (by rfl) B.m_bool (by decide +kernel) rfl) pa_nil))))))))) (pss_one (ps_ret pe_bl)) pss_nil)
      (pss_one (ps_ret (pe_cmpR op_eq (pe_ix (ix_listK (K := K) rfl) (pv 1) pe_int (fun _ _ => rfl)) (pe_ix (ix_listK (K := K) rfl) (pv 2) pe_int (fun _ _ => rfl)) (nomark _))))))))), ?_⟩
    walk_at "begin"
    walk_at "go"
    refine ⟨U, t, rfl, hU, htl, fun H1 p hgt s1 hp => ?_, fun h1 h2 => ⟨fun i H1 p ho s1 hp => ?_, fun n H1 p x ho hn1 hn2 hn3 s1 hp hA => ?_⟩⟩
    · walk_at "go"
      refine ⟨t, rfl, big (by omega), ?_⟩
      walk_at "go"
      refine r_ite (fun z => ?_) (fun z => ?_)
      · walk_at "go"
        rw [decide_eq_true rfl]
        walk_at "go"
        exact q _ s1
      walk_at "go"
      refine ⟨t, rfl, ?_⟩
      walk_at "go"
      refine r_ite (fun z => ?_) (fun z => ?_)
      · walk_at "go"
        rw [decide_eq_true rfl]
        walk_at "go"
        exact q _ s1
      · omega
    · walk_at "go"
      refine ⟨t, rfl, big (by omega), ?_⟩
      walk_at "go"
      refine r_ite (fun z => absurd z (by omega)) (fun _ => ?_)
      walk_at "go"
      refine ⟨t, rfl, ?_⟩
      walk_at "go"
      refine r_ite (fun z => absurd z (by omega)) (fun _ => ?_)
      walk_at "go"
      refine ⟨t, rfl, h1, h2, fun j H2 p2 ho2 s2 hp2 => ?_, fun n H2 p2 ho2 s2 hp2 => ?_⟩
      rotate_left
      · rw [ho] at ho2; cases ho2
      rw [ho] at ho2
      cases ho2
      have hp1 := s2 _ _ hp
      walk_at "go"
      refine r_ite (fun z => absurd z (by omega)) (fun _ => ?_)
      walk_at "go"
      refine r_iten (fun z => absurd rfl z) (fun _ => ?_)
      walk_at "go"
      refine r_isi (.base (.int _)) rfl ?_
      refine ⟨true, rfl, ?_⟩
      rw [show (!true) = false from rfl]
      walk_at "go"
      refine r_isi (.base (.int _)) rfl ?_
      refine ⟨false, rfl, ?_⟩
      walk_at "go"
      rw [decide_eq_true rfl]
      exact q _ (s1.trans s2)
    · walk_at "go"
      refine ⟨t, rfl, big (by omega), ?_⟩
      walk_at "go"
      refine r_ite (fun z => absurd z (by omega)) (fun _ => ?_)
      walk_at "go"
      refine ⟨t, rfl, ?_⟩
      walk_at "go"
      refine r_ite (fun z => absurd z (by omega)) (fun _ => ?_)
      walk_at "go"
      refine ⟨t, rfl, h1, h2, fun j H2 p2 ho2 s2 hp2 => ?_, fun n2 H2 p2 ho2 s2 hp2 => ?_⟩
      · rw [ho] at ho2; cases ho2
      rw [ho] at ho2
      cases ho2
      have hp1 := s2 _ _ hp
      walk_at "go"
      refine r_ite (fun _ => ?_) (fun z => absurd (by decide) z)
      obtain ⟨dx, l, kt, as, e1, _⟩ := (hA.mono s2).get
      walk_at "go"
      rw [decide_eq_true rfl]
      walk_at "go"
      refine ⟨_, _, _, _, true, rfl, .own C, Z.ty e1, Z.kt, ?_⟩
      walk_at "go"
      refine ⟨U, x, n, rfl, hA.mono s2, hn2, by omega, by omega, fun H3 s3 => ?_⟩
      have hp3 := s3 _ _ hp2
      walk_at "go"
      rw [decide_eq_true rfl]
      exact q _ ((s1.trans s2).trans s3)
end

end K06
namespace K06
open PySem PySem.Spec PyProof.Rows L2 Lw


local macro_rules | `(tactic| walk_at "look") => `(tactic| first
  | assumption
  | with_reducible exact upd_same
  | with_reducible exact rg_st
  | with_reducible exact rg_g (by assumption)
  | (with_reducible refine upd_old (by assumption) ?_; walk_at "look")
  | (with_reducible refine rg_get (by assumption) ?_; walk_at "look")
  | (with_reducible refine Same.get (by assumption) ?_; walk_at "look"))
local macro_rules | `(tactic| walk_at "cond") => `(tactic| first
  | (show _ ≠ _; omega) | exact cdivN (by omega) (by omega) | exact cmul_mod (by decide) (by decide) | exact cmulR (by omega) (by omega) | exact cmulL (by omega) (by omega) | exact cpow (by omega) (by omega) (by omega) (by omega) | (show (0:Int) ≤ _; omega))
local macro_rules | `(tactic| walk_at "at") => `(tactic| first | assumption | with_unfolding_all rfl)
local macro_rules | `(tactic| walk_at "sz") => `(tactic| first | assumption | (refine small ?_; omega) | (refine small ?_; simp only [List.length_map, List.length_append, List.length_cons, List.length_nil]; omega))
local macro_rules | `(tactic| walk_at "len") => `(tactic| first | exact size_nil | exact Nat.le_of_lt (small (by simp only [List.length_cons, List.length_nil, List.length_map]; omega)))
local macro_rules | `(tactic| walk_at "newD") => `(tactic| (refine ⟨by walk_at "len", fun p np => ?_⟩; obtain ⟨e, o', hD', n', ne'⟩ := newTD_eq (topRg _ _) (by assumption) (by assumption) np (.lst _); rw [e]; clear e))
local macro_rules | `(tactic| walk_at "new") => `(tactic| (refine ⟨by walk_at "len", fun p np => ?_⟩; obtain ⟨e, o', n'⟩ := newT_eq (topRg _ _) (by assumption) np (.lst _); rw [e]; clear e))
local macro_rules | `(tactic| walk_at "st") => `(tactic| first
  | with_reducible refine r_seq ?_
  | with_reducible refine r_var rfl ?_
  | with_reducible refine r_c ?_
  | with_reducible refine r_asg ?_
  | (with_reducible refine r_name ?_; dsimp only [List.set_cons_zero, List.set_cons_succ])
  | with_reducible refine r_sub ?_
  | with_reducible refine r_op ?_
  | with_reducible refine r_i0 ?_
  | (with_reducible refine' r_i ?k1 ?_; (case k1 => walk_at "cond"))
  | with_reducible refine r_cons ?_
  | with_reducible refine r_nil ?_
  | with_reducible refine r_cb ?_
  | with_reducible refine r_call ?_
  | with_reducible refine r_ifs ?_
  | with_reducible refine r_test ?_
  | with_reducible refine r_tB ?_
  | with_reducible refine r_bl ?_
  | with_reducible refine r_ret ?_
  | with_reducible refine r_drop ?_
  | with_reducible refine r_next ?_
  | (with_reducible refine' r_ixL ?k1 ?k2 ?_; (case k1 => walk_at "look"); (case k2 => walk_at "at"))
  | (with_reducible refine' r_setL ?k1 ?k2 ?_; (case k1 => walk_at "look"); (case k2 => walk_at "at"))
  | with_reducible refine r_aug rfl ?_
  | with_reducible refine r_augS ?_
  | with_reducible refine r_ipI ?_
  | with_reducible refine r_un ?_
  | with_reducible refine r_u ?_
  | with_reducible refine r_eq rfl ?_
  | with_reducible refine r_ne rfl ?_
  | with_reducible refine r_chain ?_
  | with_reducible refine iteF ?_
  | with_reducible refine r_not ?_
  | with_reducible refine r_and ?_
  | with_reducible refine r_or ?_
  | with_reducible refine r_andV ?_
  | with_reducible refine r_orV ?_
  | with_reducible refine r_notV ?_
  | with_reducible refine r_lst ?_
  | with_reducible refine r_bm ?_
  | with_reducible refine r_bm0 ?_
  | (with_reducible refine' And.intro (r_ty ?k1) ?_; (case k1 => walk_at "look"))
  | (with_reducible refine' r_append ?k1 ?k2 ?_; (case k1 => walk_at "look"); (case k2 => walk_at "sz"))
  | (with_reducible refine' r_lenK ?k1 ?_; (case k1 => walk_at "look"))
  | (with_reducible refine' r_listOf ?k1 ?_; (case k1 => walk_at "look"))
  | (with_reducible refine' r_sortedI ?k1 ?_; (case k1 => walk_at "look"))
  | (with_reducible refine' r_sum ?k1 ?_; (case k1 => walk_at "look"))
  | with_reducible refine r_int ?_
  | (with_reducible refine' r_draw (by assumption) ?k1 ?k2 ?_; (case k1 => omega); (case k2 => omega); intro R' n' o' h' h'')
  | with_reducible refine iteT ?_
  | with_reducible refine r_revL ?_
  | with_reducible refine r_lc ?_
  | with_reducible refine r_yes ?_
  | with_reducible refine r_for ?_
  | with_reducible refine r_iList ?_
  | with_reducible refine r_rng1 ?_
  | with_reducible refine r_enum ?_
  | (with_reducible show Ends.nx _ _ _; dsimp only)
  | (with_reducible show Ends.rt _ _ _; dsimp only)
  | (with_reducible show Ends.ct _ _ _; dsimp only)
  | (with_reducible show Ends.bk _ _ _; dsimp only))
local macro_rules | `(tactic| walk_at "go") => `(tactic| repeat (walk_at "st"))
local macro_rules | `(tactic| walk_at "begin") => `(tactic| dsimp only [cxOf, wipe, L2.start, List.map, List.length_cons, List.length_nil, Nat.reduceAdd, Nat.reduceSub, List.replicate, List.cons_append, List.nil_append])

section
variable {P : Program} {w : World} {K : PySem.W.Frag} {mg : Str → Option Value} {base : Heap}
theorem ok_draw {f : Addr} {fd : FuncData} {k : Nat} (B : Blt mg) (D : Dn K mg "_law_draw" s__law_draw ["state", "many"] f fd) : FnOk P w K mg base CX0 (k + 1) f fd ["state", "many"] spDraw := by
  refine D.F.ok sc__law_draw (fun vs H Q E h => ?_) (fun cdv A outer s H vs Q E hr h => ?_)
  · obtain ⟨st, g, R, B, many, rfl, _⟩ := h
    rfl
  · obtain ⟨st, g, R, C, many, rfl, rfl, o, h1, h2, q⟩ := h
    refine ⟨_, (pss_cons (ps_if (pt_cmpR op_lt (pe_ix (ix_listK (K := K) rfl) (pv 0) pe_int (fun _ _ => rfl)) (pe_callB (call_len_seqK (K := K) rfl) (by rfl) B.m_len PySem.boot_len (pa_cons (pe_ix (ix_listK (K := K) rfl) (pv 0) pe_int (fun _ _ => rfl)) pa_nil)) (nomark _)) (pss_cons (ps_set (i := 2) sc__law_draw.nd rfl (.inl rfl) (pe_ix (ix_listK (K := K) rfl) (pe_ix (ix_listK (K := K) rfl) (pv 0) pe_int (fun _ _ => rfl)) (pe_ix (ix_listK (K := K) rfl) (pv 0) pe_int (fun _ _ => rfl)) (fun _ _ => rfl)))
      (pss_cons (ps_asg (pe_op op_fdivN (pv 2) (pv 1)) (pg_sub (pe_ix (ix_listK (K := K) rfl) (pv 0) pe_int (fun _ _ => rfl)) (pe_ix (ix_listK (K := K) rfl) (pv 0) pe_int (fun _ _ => rfl)) set_list))
      (pss_cons (ps_if (pt_cmpR op_eq (pe_op op_fdivN (pv 2) (pv 1)) pe_int (nomark _)) (pss_one (ps_asg (pe_op op_add (pe_ix (ix_listK (K := K) rfl) (pv 0) pe_int (fun _ _ => rfl)) pe_int) (pg_sub (pv 0) pe_int set_list))) pss_nil)
      (pss_one (ps_ret (pe_op op_modN (pe_callTy call_int1 (by rfl) B.m_int (by decide +kernel) (pa_cons (pv 2) pa_nil)) (pv 1))))))) pss_nil)
      (pss_cons (ps_asg (pe_op op_add (pe_ix (ix_listK (K := K) rfl) (pv 0) pe_int (fun _ _ => rfl)) pe_int) (pg_sub (pv 0) pe_int set_list))
      (pss_cons (ps_set (i := 3) sc__law_draw.nd rfl (.inl rfl) (pe_op op_modN (pe_callTy call_int1 (by rfl) B.m_int (by decide +kernel) (pa_cons (pe_op op_add (pe_ix (ix_listK (K := K) rfl) (pv 0) pe_int (fun _ _ => rfl)) (pe_op op_mul (pe_ix (ix_listK (K := K) rfl) (pv 0) pe_int (fun _ _ => rfl)) pe_int)) pa_nil)) pe_int))
      (pss_cons (ps_set (i := 4) sc__law_draw.nd rfl (.inl rfl) (pe_op op_modN (pe_callTy call_int1 (by rfl) B.m_int (by decide +kernel) (pa_cons (pe_op op_add (pe_op op_mul (pv 3) (pv 3)) (pe_op op_mul (pe_ix (ix_listK (K := K) rfl) (pv 0) pe_int (fun _ _ => rfl)) pe_int)) pa_nil)) pe_int))
      (pss_cons (ps_set (i := 5) sc__law_draw.nd rfl (.inl rfl) (pe_op op_modN (pe_callTy call_int1 (by rfl) B.m_int (by decide +kernel) (pa_cons (pe_op op_add (pe_op op_mul (pv 4) (pv 4)) (pv 3)) pa_nil)) pe_int))
      (pss_one (ps_ret (pe_op op_modN (pe_callTy call_int1 (by rfl) B.m_int (by decide +kernel) (pa_cons (pe_op op_fdivN (pv 5) pe_int) pa_nil)) (pv 1))))))))), ?_⟩
    walk_at "begin"
    walk_at "go"
    have fin : ∀ n : Int, 0 ≤ n → 0 ≤ n.fmod many ∧ n.fmod many < many := fun n _ => ⟨Int.fmod_nonneg_of_pos n (by omega), Int.fmod_lt_of_pos n (by omega)⟩
    refine r_ite (fun hlt => ?_) (fun _ => ?_)
    · have hl2 := hlt
      rw [List.length_map] at hl2
      have i0 := o.ok.i0
      have hi : R.i.toNat < R.ns.length := by omega
      obtain ⟨z, hz⟩ : ∃ z, R.ns[R.i.toNat]? = some z := ⟨_, List.getElem?_eq_getElem hi⟩
      have hz0 : 0 ≤ z := o.ok.pos z (List.mem_of_getElem? hz)
      have ha : atI (R.ns.map V.int) R.i = some (.int z) := at_i i0 (by rw [List.getElem?_map, hz]; rfl)
      have hx : ixN (R.ns.map V.int).length R.i = some R.i.toNat := ix_i i0 hlt
      have hd0 : 0 ≤ z.fdiv many := Int.fdiv_nonneg hz0 (by omega)
      walk_at "go"
      rw [setMap, rg_set_g o]
      have ok1 : RS.Ok ⟨R.ns.set R.i.toNat (z.fdiv many), R.i, R.m, R.c⟩ := by
        refine ⟨i0, ?_, fun n hn => ?_, ?_⟩
        · show R.i ≤ ((R.ns.set _ _).length : Int); rw [List.length_set]; exact o.ok.i1
        · rcases List.mem_or_eq_of_mem_set hn with e | e
          · exact o.ok.pos n e
          · rw [e]; exact hd0
        · show (R.ns.set _ _).length ≤ 63; rw [List.length_set]; exact o.ok.len
      have o1 := o.re ok1
      walk_at "go"
      refine r_ite (fun _ => ?_) (fun _ => ?_)
      · walk_at "go"
        rw [show [V.ref g, V.int R.i, V.int R.m, V.int R.c].set (Int.toNat 1) (V.int (R.i + 1)) = [V.ref g, V.int (R.i + 1), V.int R.m, V.int R.c] from rfl, rg_set_st]
        have ok2 : RS.Ok ⟨R.ns.set R.i.toNat (z.fdiv many), R.i + 1, R.m, R.c⟩ := ⟨by show (0:Int) ≤ R.i + 1; omega, by show R.i + 1 ≤ ((R.ns.set _ _).length : Int); rw [List.length_set]; omega, ok1.pos, ok1.len⟩
        walk_at "go"
        exact q _ _ ok2 (fin z hz0).1 (fin z hz0).2
      · walk_at "go"
        exact q _ _ ok1 (fin z hz0).1 (fin z hz0).2
    · walk_at "go"
      rw [show [V.ref g, V.int R.i, V.int R.m, V.int R.c].set (Int.toNat 3) (V.int (R.c + 1)) = [V.ref g, V.int R.i, V.int R.m, V.int (R.c + 1)] from rfl, rg_set_st]
      have ok1 : RS.Ok ⟨R.ns, R.i, R.m, R.c + 1⟩ := ⟨o.ok.i0, o.ok.i1, o.ok.pos, o.ok.len⟩
      have o1 := o.re ok1
      walk_at "go"
      refine q _ _ ok1 (fin _ ?_).1 (fin _ ?_).2
      all_goals exact Int.fdiv_nonneg (Int.fmod_nonneg_of_pos _ (by decide)) (by decide)
end
end K06
namespace K06
open PySem PySem.Spec PyProof.Rows L2 Lw


local macro_rules | `(tactic| walk_at "look") => `(tactic| first
  | assumption
  | with_reducible exact upd_same
  | with_reducible exact rg_st
  | with_reducible exact rg_g (by assumption)
  | (with_reducible refine upd_old (by assumption) ?_; walk_at "look")
  | (with_reducible refine rg_get (by assumption) ?_; walk_at "look")
  | (with_reducible refine Same.get (by assumption) ?_; walk_at "look"))
local macro_rules | `(tactic| walk_at "cond") => `(tactic| first
  | (show _ ≠ _; omega) | exact cdivN (by omega) (by omega) | exact cmul_mod (by decide) (by decide) | exact cmulR (by omega) (by omega) | exact cmulL (by omega) (by omega) | exact cpow (by omega) (by omega) (by omega) (by omega) | (show (0:Int) ≤ _; omega))
local macro_rules | `(tactic| walk_at "at") => `(tactic| first | assumption | with_unfolding_all rfl)
local macro_rules | `(tactic| walk_at "sz") => `(tactic| first | assumption | (refine small ?_; omega) | (refine small ?_; simp only [List.length_map, List.length_append, List.length_cons, List.length_nil]; omega))
local macro_rules | `(tactic| walk_at "len") => `(tactic| first | exact size_nil | exact Nat.le_of_lt (small (by simp only [List.length_cons, List.length_nil, List.length_map]; omega)))
local macro_rules | `(tactic| walk_at "newD") => `(tactic| (refine ⟨by walk_at "len", fun p np => ?_⟩; obtain ⟨e, o', hD', n', ne'⟩ := newTD_eq (topRg _ _) (by assumption) (by assumption) np (.lst _); rw [e]; clear e))
local macro_rules | `(tactic| walk_at "new") => `(tactic| (refine ⟨by walk_at "len", fun p np => ?_⟩; obtain ⟨e, o', n'⟩ := newT_eq (topRg _ _) (by assumption) np (.lst _); rw [e]; clear e))
local macro_rules | `(tactic| walk_at "st") => `(tactic| first
  | with_reducible refine r_seq ?_
  | with_reducible refine r_var rfl ?_
  | with_reducible refine r_c ?_
  | with_reducible refine r_asg ?_
  | (with_reducible refine r_name ?_; dsimp only [List.set_cons_zero, List.set_cons_succ])
  | with_reducible refine r_sub ?_
  | with_reducible refine r_op ?_
  | with_reducible refine r_i0 ?_
  | (with_reducible refine' r_i ?k1 ?_; (case k1 => walk_at "cond"))
  | with_reducible refine r_cons ?_
  | with_reducible refine r_nil ?_
  | with_reducible refine r_cb ?_
  | with_reducible refine r_call ?_
  | with_reducible refine r_ifs ?_
  | with_reducible refine r_test ?_
  | with_reducible refine r_tB ?_
  | with_reducible refine r_bl ?_
  | with_reducible refine r_ret ?_
  | with_reducible refine r_drop ?_
  | with_reducible refine r_next ?_
  | (with_reducible refine' r_ixL ?k1 ?k2 ?_; (case k1 => walk_at "look"); (case k2 => walk_at "at"))
  | (with_reducible refine' r_setL ?k1 ?k2 ?_; (case k1 => walk_at "look"); (case k2 => walk_at "at"))
  | (with_reducible refine' r_tup (SqT.of ?k1) ?k2 ?_; (case k1 => walk_at "look"); (case k2 => rfl))
  | with_reducible refine r_gcons ?_
  | with_reducible refine r_gnil ?_
  | with_reducible refine r_aug rfl ?_
  | with_reducible refine r_augS ?_
  | with_reducible refine r_ipI ?_
  | with_reducible refine r_un ?_
  | with_reducible refine r_u ?_
  | with_reducible refine r_eq rfl ?_
  | with_reducible refine r_ne rfl ?_
  | with_reducible refine r_chain ?_
  | with_reducible refine iteF ?_
  | with_reducible refine r_not ?_
  | with_reducible refine r_and ?_
  | with_reducible refine r_or ?_
  | with_reducible refine r_andV ?_
  | with_reducible refine r_orV ?_
  | with_reducible refine r_notV ?_
  | with_reducible refine r_lst ?_
  | with_reducible refine r_bm ?_
  | with_reducible refine r_bm0 ?_
  | (with_reducible refine' And.intro (r_ty ?k1) ?_; (case k1 => walk_at "look"))
  | (with_reducible refine' r_append ?k1 ?k2 ?_; (case k1 => walk_at "look"); (case k2 => walk_at "sz"))
  | (with_reducible refine' r_lenK ?k1 ?_; (case k1 => walk_at "look"))
  | (with_reducible refine' r_listOf ?k1 ?_; (case k1 => walk_at "look"))
  | (with_reducible refine' r_sortedI ?k1 ?_; (case k1 => walk_at "look"))
  | (with_reducible refine' r_sum ?k1 ?_; (case k1 => walk_at "look"))
  | with_reducible refine r_int ?_
  | (with_reducible refine' r_draw (by assumption) ?k1 ?k2 ?_; (case k1 => omega); (case k2 => omega); intro R' n' o' h' h'')
  | with_reducible refine iteT ?_
  | with_reducible refine r_revL ?_
  | with_reducible refine r_lc ?_
  | with_reducible refine r_yes ?_
  | with_reducible refine r_sl ?_
  | with_reducible refine iteNTr ?_
  | with_reducible refine iteNFa ?_
  | with_reducible refine r_fld ?_
  | with_reducible refine r_sFld ?_
  | with_reducible refine r_meth ?_
  | with_reducible refine r_methT ?_
  | with_reducible refine r_prop ?_
  | with_reducible refine r_dget ?_
  | with_reducible refine r_dput ?_
  | with_reducible refine r_noPart ?_
  | with_reducible refine r_part ?_
  | with_reducible refine r_lc2 ?_
  | with_reducible refine r_callN ?_
  | with_reducible refine r_callD ?_
  | with_reducible refine r_tupE ?_
  | with_reducible refine r_rng2 ?_
  | with_reducible refine r_i1 ?_
  | (with_reducible refine' r_slL ?k1 ?_; (case k1 => walk_at "look"))
  | with_reducible refine r_for ?_
  | with_reducible refine r_iList ?_
  | with_reducible refine r_rng1 ?_
  | with_reducible refine r_enum ?_
  | (with_reducible show Ends.nx _ _ _; dsimp only)
  | (with_reducible show Ends.rt _ _ _; dsimp only)
  | (with_reducible show Ends.ct _ _ _; dsimp only)
  | (with_reducible show Ends.bk _ _ _; dsimp only))
local macro_rules | `(tactic| walk_at "go") => `(tactic| repeat (walk_at "st"))
local macro_rules | `(tactic| walk_at "begin") => `(tactic| dsimp only [cxOf, wipe, L2.start, List.map, List.length_cons, List.length_nil, Nat.reduceAdd, Nat.reduceSub, List.replicate, List.cons_append, List.nil_append])


def spTextD (b : Nat) : Sp := fun args H Q _ => ∃ (st g : Addr) (R : RS) (C : Hp), args = [.ref st] ∧ H = rg st g R C ∧ Ok st g R C ∧ ∀ R' C' t, Ok st g R' C' → Same C C' → t.length ≤ b → Q (.str t) (rg st g R' C')
/-- how long a text of so many levels may be -/
def tb : Nat → Nat
  | 0 => 2
  | d + 1 => 5 + 3 * tb d
def spTree (d : Nat) : Sp := fun args H Q _ => ∃ (st g : Addr) (R : RS) (C : Hp) (l : Nat), args = [.ref st, .int ((l : Nat) : Int)] ∧ l < d ∧ l ≤ 3 ∧ H = rg st g R C ∧ Ok st g R C ∧ ∀ R' C' t, Ok st g R' C' → Same C C' → t.length ≤ tb l → Q (.str t) (rg st g R' C')
def spLong : Sp := fun args H Q _ => ∃ n : Nat, args = [.int ((n : Nat) : Int)] ∧ 1000 ≤ n ∧ n ≤ 2100 ∧ ∀ H' t, Same H H' → t.length ≤ 4000 → Q (.str t) H'
def spChanged : Sp := fun args H Q _ => ∃ (st g : Addr) (R : RS) (C : Hp) (t : Str), args = [.ref st, .str t] ∧ H = rg st g R C ∧ Ok st g R C ∧ t.length ≤ 4000 ∧ ∀ R' C' t', Ok st g R' C' → Same C C' → t'.length ≤ 20000 → Q (.str t') (rg st g R' C')
theorem sum_le : ∀ {l : List Nat} {c : Nat}, (∀ x ∈ l, x ≤ c) → l.sum ≤ l.length * c := fun {l c} h => sum_cap h
theorem tb3 {l : Nat} (h : l ≤ 3) : tb l ≤ 200 := by
  have : tb 3 = 119 := rfl
  have : tb 2 = 38 := rfl
  have : tb 1 = 11 := rfl
  have : tb 0 = 2 := rfl
  match l, h with
  | 0, _ => omega
  | 1, _ => omega
  | 2, _ => omega
  | 3, _ => omega
section
variable {P : Program} {w : World} {K : PySem.W.Frag} {mg : Str → Option Value} {base : Heap}
theorem rd_tree {f f1 : Addr} {fd fd1 : FuncData} (B : Blt mg) (D : Dn K mg "_law_tree" s__law_tree ["state", "levels"] f fd) (D_law_draw : Dn K mg "_law_draw" s__law_draw ["state", "many"] f1 fd1)
    (G_law_draw : FnOk P w K mg base CX0 1 f1 fd1 ["state", "many"] spDraw) : ∀ d, FnOk P w K mg base CX0 (1 + d) f fd ["state", "levels"] (spTree d)
  | 0 => ⟨fun vs H Q E h => (by obtain ⟨st, g, R, C, l, rfl, _⟩ := h; rfl), fun A outer s H args us vs Q E hr e0 hb r h => (by obtain ⟨st, g, R, C, l, _, hd, _⟩ := h; exact absurd hd (Nat.not_lt_zero _))⟩
  | d + 1 => by
    have ih := rd_tree B D D_law_draw G_law_draw d
    refine D.F.ok (k := 1 + d) sc__law_tree (fun vs H Q E h => ?_) (fun cdv A outer s H vs Q E hr h => ?_)
    · obtain ⟨st, g, R, C, l, rfl, _⟩ := h
      rfl
    · obtain ⟨st, g, R0, B0, l, rfl, hd, hl3, rfl, o1, q⟩ := h
      refine ⟨_, (pss_cons (ps_set (i := 2) sc__law_tree.nd rfl (.inl rfl) (pe_lst pa_nil))
      (C8.pss_cut (ps_if (pt_cmpR op_gt (pv 1) pe_int (nomark _)) (pss_one (ps_for PassesOwn.never rfl (pi_range1 (by rfl) B.m_range (pa_cons (pe_call G_law_draw (hr.mono (by omega)) (by rfl) D_law_draw.g D_law_draw.F.kp D_law_draw.b .nil pass0 (pa_cons (pv 0) (pa_cons pe_int pa_nil))) pa_nil)) (pg_name (i := 3) sc__law_tree.nd rfl (.inl rfl)) (pss_one (ps_expr (pe_bmK (K := K) rfl PySem.F.plainAttrs_list PySem.F.slot_list_append PySem.F.type_list_append mt_append (pv 2) (pa_cons (pe_call ih (hr.mono (Nat.le_refl _)) (by rfl) D.g D.F.kp D.b .nil pass0 (pa_cons (pv 0) (pa_cons (pe_op op_sub (pv 1) pe_int) pa_nil))) pa_nil)))))) pss_nil)
      (pss_one (ps_ret (pe_op op_catS (pe_op op_catS pe_str (pe_bmK (K := K) rfl PySem.F.plainAttrs_str PySem.F.slot_str_join PySem.F.type_str_join (mt_joinK (K := K) rfl) pe_str (pa_cons (pv 2) pa_nil))) pe_str))))), ?_⟩
      have hc1 : (("," : Str)).length = 1 := by decide +kernel
      have hc2 : (("{" : Str)).length = 1 := by decide +kernel
      have hc3 : (("}" : Str)).length = 1 := by decide +kernel
      walk_at "begin"
      walk_at "go"
      refine ⟨size_nil, fun D2 nD2 => ?_⟩
      obtain ⟨e1, o2, n1⟩ := newT_eq (topRg st g) o1 nD2 (.lst [])
      rw [e1]
      have s1 := same_new (o := .lst []) n1
      have h1 : (upd B0 D2 (.lst [])) D2 = some (.lst (([] : List Str).map V.str)) := upd_same
      generalize upd B0 D2 (.lst []) = C1 at o2 s1 h1 ⊢
      clear e1 nD2 o1
      have n2a : B0 D2 = none := n1
      refine ⟨fun σ H1 => ∃ (R : RS) (C : Hp) (ts : List Str) (y3 : Option V), σ = [some (.ref st), some (.int ((l : Nat) : Int)), some (.ref D2), y3] ∧ H1 = rg st g R C ∧ Ok st g R C ∧ Same B0 C ∧ C D2 = some (.lst (ts.map V.str)) ∧ (ts.map (·.length)).sum + ts.length + 2 ≤ tb l, ?_, ?_⟩
      · walk_at "go"
        refine r_ite (fun z => ?_) (fun z => ?_)
        · obtain ⟨k, rfl⟩ : ∃ k, l = k + 1 := ⟨l - 1, by omega⟩
          have htb : tb (k + 1) = 5 + 3 * tb k := rfl
          walk_at "go"
          rename_i R3 z3 o3 h30 h31
          obtain ⟨n, rfl⟩ : ∃ n : Nat, z3 = (n : Int) := ⟨z3.toNat, by omega⟩
          refine r_forR (by omega) (by omega) (fun i σ H1 => ∃ (R : RS) (C : Hp) (ts : List Str) (y3 : Option V), σ = [some (.ref st), some (.int (((k + 1 : Nat) : Nat) : Int)), some (.ref D2), y3] ∧ H1 = rg st g R C ∧ Ok st g R C ∧ Same B0 C ∧ C D2 = some (.lst (ts.map V.str)) ∧ ts.length = i ∧ (ts.map (·.length)).sum ≤ i * tb k) ?_ ?_ ?_
          · exact ⟨R3, C1, [], _, rfl, rfl, o3, s1, h1, rfl, by simp⟩
          · rintro i σ H1 hi ⟨R, C, ts, y3, rfl, rfl, o4, s4, h4, hl4, hz4⟩
            rw [Int.toNat_natCast] at hi
            walk_at "go"
            refine ⟨st, g, R, C, k, by rw [show (((k + 1 : Nat) : Nat) : Int) - 1 = ((k : Nat) : Int) from by omega]; rfl, by omega, by omega, rfl, o4, fun R5 C5 t o5 s5 ht => ?_⟩
            have h5 := s5 _ _ h4
            have hzz : (ts.map V.str).length < sizeLine := small (by rw [List.length_map]; omega)
            walk_at "go"
            rw [show ts.map V.str ++ [V.str t] = (ts ++ [t]).map V.str from by rw [List.map_append]; rfl]
            obtain ⟨e9, o9⟩ := rg_write (o := .lst ((ts ++ [t]).map V.str)) o5 h5
            rw [e9]
            refine ⟨R5, _, ts ++ [t], _, rfl, rfl, o9, same_off n2a (s4.trans s5), upd_same, by rw [List.length_append, hl4]; rfl, ?_⟩
            rw [List.map_append, List.sum_append, Nat.succ_mul]
            simp only [List.map_cons, List.map_nil, List.sum_cons, List.sum_nil]
            omega
          · rintro σ H1 ⟨R, C, ts, y3, rfl, rfl, o4, s4, h4, hl4, hz4⟩
            rw [Int.toNat_natCast] at hl4 hz4
            have : n * tb k ≤ 3 * tb k := Nat.mul_le_mul_right _ (by omega)
            exact ⟨R, C, ts, _, rfl, rfl, o4, s4, h4, by omega⟩
        · walk_at "go"
          have : 2 ≤ tb l := by cases l with
            | zero => exact Nat.le_refl _
            | succ k => show 2 ≤ 5 + 3 * tb k; omega
          exact ⟨R0, C1, [], _, rfl, rfl, o2, s1, h1, by simpa using this⟩
      clear s1 h1 o2 C1
      rintro σ H1 ⟨R, C, ts, y3, rfl, rfl, o4, s4, h4, hz⟩
      have hjl := Ak.join_len' ts
      have := tb3 hl3
      walk_at "go"
      refine ⟨rfl, ?_⟩
      walk_at "go"
      refine r_join (rg_get o4 h4) (by rw [hc1]; omega) ?_
      walk_at "go"
      refine r_catS (big (by rw [hc2]; omega)) ?_
      walk_at "go"
      refine r_catS (big (by rw [Str.length_append, hc2, hc3]; omega)) ?_
      refine q R C _ o4 s4 ?_
      rw [Str.length_append, Str.length_append, hc2, hc3]
      omega
theorem ok_tree {f f1 : Addr} {fd fd1 : FuncData} (B : Blt mg) (D : Dn K mg "_law_tree" s__law_tree ["state", "levels"] f fd) (D_law_draw : Dn K mg "_law_draw" s__law_draw ["state", "many"] f1 fd1)
    (G_law_draw : FnOk P w K mg base CX0 1 f1 fd1 ["state", "many"] spDraw) : FnOk P w K mg base CX0 5 f fd ["state", "levels"] (spTree 4) := by
  exact rd_tree B D D_law_draw G_law_draw 4
theorem ok_long {f : Addr} {fd : FuncData} (B : Blt mg) (D : Dn K mg "_law_long" s__law_long ["size"] f fd) : FnOk P w K mg base CX0 1 f fd ["size"] spLong := by
  refine D.F.ok sc__law_long (fun vs H Q E h => ?_) (fun cdv A outer s H vs Q E hr h => ?_)
  · obtain ⟨n, rfl, _⟩ := h
    rfl
  · obtain ⟨n, rfl, hn1, hn2, q⟩ := h
    refine ⟨_, (pss_cons (ps_for PassesOwn.never rfl (pi_range1 (by rfl) B.m_range (pa_cons pe_int pa_nil)) (pg_name (i := 1) sc__law_long.nd rfl (.inl rfl)) (pss_one (ps_if (pt_cmpR op_eq (pe_op op_modN (pe_callTy call_int1 (by rfl) B.m_int (by decide +kernel) (pa_cons (pe_op op_sub (pe_op op_sub (pv 0) pe_int) (pe_op op_mul pe_int (pv 1))) pa_nil)) pe_int) pe_int (nomark _)) (pss_cons (ps_set (i := 2) sc__law_long.nd rfl (.inl rfl) (pe_op op_fdivN (pe_op op_sub (pe_op op_sub (pv 0) pe_int) (pe_op op_mul pe_int (pv 1))) pe_int))
      (pss_one (ps_ret (pe_op op_catS (pe_op op_catS pe_str (pe_bmK (K := K) rfl PySem.F.plainAttrs_str PySem.F.slot_str_join PySem.F.type_str_join (mt_joinK (K := K) rfl) pe_str (pa_cons (pe_op op_cat (pe_op op_rep (pe_lst (pa_cons pe_str pa_nil)) (pv 1)) (pe_op op_rep (pe_lst (pa_cons pe_str pa_nil)) (pe_op op_sub (pv 2) (pv 1)))) pa_nil))) pe_str)))) pss_nil)))
      (pss_one (ps_ret pe_str))), ?_⟩
    have hc1 : (("," : Str)).length = 1 := by decide +kernel
    have hc2 : (("{" : Str)).length = 1 := by decide +kernel
    have hc3 : (("}" : Str)).length = 1 := by decide +kernel
    have hc4 : (("{}" : Str)).length = 2 := by decide +kernel
    have hc5 : (("{{}}" : Str)).length = 4 := by decide +kernel
    walk_at "begin"
    walk_at "go"
    refine r_forR (by omega) (by omega) (fun i σ H1 => ∃ (y1 y2 : Option V), σ = [some (.int ((n : Nat) : Int)), y1, y2] ∧ H1 = H) ?_ ?_ ?_
    · exact ⟨_, _, rfl, rfl⟩
    · rintro i σ H1 hi ⟨y1, y2, rfl, rfl⟩
      have hi3 : i < 3 := by simpa using hi
      walk_at "go"
      have e1 : ((n : Nat) : Int) - 1 - 2 * (i : Int) = ((n - 1 - 2 * i : Nat) : Int) := by omega
      rw [e1]
      refine r_ite (fun z => ?_) (fun z => ?_)
      · walk_at "go"
        rw [e1]
        have e2 : Int.fdiv ((n - 1 - 2 * i : Nat) : Int) 3 = (((n - 1 - 2 * i) / 3 : Nat) : Int) := by rw [Int.fdiv_eq_ediv_of_nonneg _ (by decide)]; rfl
        rw [e2]
        generalize hc : (n - 1 - 2 * i) / 3 = c
        have hcl : c ≤ 700 := by omega
        have hci : i ≤ c := by omega
        refine ⟨rfl, ?_⟩
        walk_at "go"
        refine ⟨by walk_at "len", fun D1 n1 => ?_⟩
        walk_at "go"
        have q1 := same_new (o := .lst [.str "{{}}"]) n1
        have h1 : (upd H1 D1 (.lst [.str "{{}}"])) D1 = some (.lst [.str "{{}}"]) := upd_same
        generalize upd H1 D1 (.lst [.str "{{}}"]) = H2 at q1 h1 ⊢
        refine r_repS h1 (by omega) fun D2 n2 => ?_
        have s2 := q1.trans (same_new (o := .lst ((List.replicate i ("{{}}" : Str)).map V.str)) n2)
        have h2 : (upd H2 D2 (.lst ((List.replicate i ("{{}}" : Str)).map V.str))) D2 = some (.lst ((List.replicate i ("{{}}" : Str)).map V.str)) := upd_same
        generalize upd H2 D2 (.lst ((List.replicate i ("{{}}" : Str)).map V.str)) = H3 at s2 h2 ⊢
        walk_at "go"
        refine ⟨by walk_at "len", fun D3 n3 => ?_⟩
        have s3 := s2.trans (same_new (o := .lst [.str "{}"]) n3)
        have h23 := same_new (o := .lst [.str "{}"]) n3 _ _ h2
        have h3 : (upd H3 D3 (.lst [.str "{}"])) D3 = some (.lst [.str "{}"]) := upd_same
        generalize upd H3 D3 (.lst [.str "{}"]) = H4 at s3 h23 h3 ⊢
        walk_at "go"
        rw [show ((c : Nat) : Int) - (i : Int) = ((c - i : Nat) : Int) from by omega]
        refine r_repS h3 (by omega) fun D4 n4 => ?_
        have s4 := s3.trans (same_new (o := .lst ((List.replicate (c - i) ("{}" : Str)).map V.str)) n4)
        have h24 := same_new (o := .lst ((List.replicate (c - i) ("{}" : Str)).map V.str)) n4 _ _ h23
        have h4 : (upd H4 D4 (.lst ((List.replicate (c - i) ("{}" : Str)).map V.str))) D4 = some (.lst ((List.replicate (c - i) ("{}" : Str)).map V.str)) := upd_same
        generalize upd H4 D4 (.lst ((List.replicate (c - i) ("{}" : Str)).map V.str)) = H5 at s4 h24 h4 ⊢
        refine r_cat h24 h4 (by simp; omega) fun D5 n5 => ?_
        have s5 := s4.trans (same_new (o := .lst ((List.replicate i ("{{}}" : Str)).map V.str ++ (List.replicate (c - i) ("{}" : Str)).map V.str)) n5)
        have h5 : (upd H5 D5 (.lst ((List.replicate i ("{{}}" : Str)).map V.str ++ (List.replicate (c - i) ("{}" : Str)).map V.str))) D5 = some (.lst ((List.replicate i ("{{}}" : Str) ++ List.replicate (c - i) ("{}" : Str)).map V.str)) := by rw [upd_same, List.map_append]
        generalize upd H5 D5 (.lst ((List.replicate i ("{{}}" : Str)).map V.str ++ (List.replicate (c - i) ("{}" : Str)).map V.str)) = H6 at s5 h5 ⊢
        have hsum : ((List.replicate i ("{{}}" : Str) ++ List.replicate (c - i) ("{}" : Str)).map (·.length)).sum = i * 4 + (c - i) * 2 := by
          rw [List.map_append, List.map_replicate, List.map_replicate, List.sum_append, hc4, hc5]
          simp
        have hlen : (List.replicate i ("{{}}" : Str) ++ List.replicate (c - i) ("{}" : Str)).length = c := by simp; omega
        have hjl := Ak.join_len' (List.replicate i ("{{}}" : Str) ++ List.replicate (c - i) ("{}" : Str))
        rw [hsum, hlen] at hjl
        walk_at "go"
        refine r_join h5 (by rw [hc1, hsum, hlen]; omega) ?_
        walk_at "go"
        refine r_catS (big (by rw [hc2]; omega)) ?_
        walk_at "go"
        refine r_catS (big (by rw [Str.length_append, hc2, hc3]; omega)) ?_
        refine q _ _ s5 ?_
        rw [Str.length_append, Str.length_append, hc2, hc3]
        omega
      · walk_at "go"
        exact ⟨_, _, rfl, rfl⟩
    · rintro σ H1 ⟨y1, y2, rfl, rfl⟩
      walk_at "go"
      exact q _ _ (fun b o e => e) (by rw [hc4]; omega)
theorem ok_first {f f1 f2 f3 : Addr} {fd fd1 fd2 fd3 : FuncData} (B : Blt mg) (D : Dn K mg "_law_first" s__law_first ["state"] f fd) (D_law_draw : Dn K mg "_law_draw" s__law_draw ["state", "many"] f1 fd1)
    (G_law_draw : FnOk P w K mg base CX0 1 f1 fd1 ["state", "many"] spDraw) (D_law_tree : Dn K mg "_law_tree" s__law_tree ["state", "levels"] f2 fd2) (G_law_tree : FnOk P w K mg base CX0 5 f2 fd2 ["state", "levels"] (spTree 4))
    (D_law_long : Dn K mg "_law_long" s__law_long ["size"] f3 fd3) (G_law_long : FnOk P w K mg base CX0 1 f3 fd3 ["size"] spLong) : FnOk P w K mg base CX0 6 f fd ["state"] (spTextD 4000) := by
  refine D.F.ok sc__law_first (fun vs H Q E h => ?_) (fun cdv A outer s H vs Q E hr h => ?_)
  · obtain ⟨st, g, R, C, rfl, _⟩ := h
    rfl
  · obtain ⟨st, g, R0, B0, rfl, rfl, o0, q⟩ := h
    refine ⟨_, (pss_cons (ps_set (i := 1) sc__law_first.nd rfl (.inl rfl) (pe_call G_law_draw (hr.mono (by decide)) (by rfl) D_law_draw.g D_law_draw.F.kp D_law_draw.b .nil pass0 (pa_cons (pv 0) (pa_cons pe_int pa_nil))))
      (pss_cons (ps_if (pt_cmpR op_lt (pv 1) pe_int (nomark _)) (pss_one (ps_ret (pe_call G_law_tree (hr.mono (by decide)) (by rfl) D_law_tree.g D_law_tree.F.kp D_law_tree.b .nil pass0 (pa_cons (pv 0) (pa_cons pe_int pa_nil))))) pss_nil)
      (pss_cons (ps_if (pt_cmpR op_lt (pv 1) pe_int (nomark _)) (pss_one (ps_ret (pe_bmK (K := K) rfl PySem.F.plainAttrs_str PySem.F.slot_str_join PySem.F.type_str_join (mt_joinK (K := K) rfl) pe_str (pa_cons (pe_lc (own := [("k", 3)]) rfl sc__law_first.nd (pi_range1 (by rfl) B.m_range (pa_cons (pe_call G_law_draw (hr.mono (by decide)) (by rfl) D_law_draw.g D_law_draw.F.kp D_law_draw.b .nil pass0 (pa_cons (pv 0) (pa_cons pe_int pa_nil))) pa_nil)) (blkOk_by (own := [("k", 3)]) (by kernel_rfl))
        (fun _ _ _ _ _ => (pg_name (i := 3) sc__law_first.nd rfl (.inl rfl))) (fun _ _ _ _ _ => pts_nil)
        (fun _ _ _ _ _ => (pe_ix ix_str pe_str (pe_call G_law_draw (hr.mono (by decide)) (by rfl) D_law_draw.g D_law_draw.F.kp D_law_draw.b .nil pass0 (pa_cons (pv 0) (pa_cons pe_int pa_nil))) (fun _ _ => rfl)))) pa_nil)))) pss_nil)
      (pss_cons (ps_if (pt_cmpR op_eq (pv 1) pe_int (nomark _)) (pss_cons (ps_set (i := 2) sc__law_first.nd rfl (.inl rfl) (pe_op op_add pe_int (pe_call G_law_draw (hr.mono (by decide)) (by rfl) D_law_draw.g D_law_draw.F.kp D_law_draw.b .nil pass0 (pa_cons (pv 0) (pa_cons pe_int pa_nil)))))
      (pss_one (ps_ret (pe_op op_catS (pe_op op_catS (pe_op op_mulS pe_str (pv 2)) (pe_call G_law_tree (hr.mono (by decide)) (by rfl) D_law_tree.g D_law_tree.F.kp D_law_tree.b .nil pass0 (pa_cons (pv 0) (pa_cons pe_int pa_nil)))) (pe_op op_mulS pe_str (pv 2)))))) pss_nil)
      (pss_one (ps_ret (pe_call G_law_long (hr.mono (by decide)) (by rfl) D_law_long.g D_law_long.F.kp D_law_long.b .nil pass0 (pa_cons (pe_ix (ix_listK (K := K) rfl) (pe_lst (pa_cons pe_int (pa_cons pe_int (pa_cons pe_int (pa_cons pe_int pa_nil))))) (pe_call G_law_draw (hr.mono (by decide)) (by rfl) D_law_draw.g D_law_draw.F.kp D_law_draw.b .nil pass0 (pa_cons (pv 0) (pa_cons pe_int pa_nil))) (fun _ _ => rfl)) pa_nil)))))))), ?_⟩
    have hc2 : (("{" : Str)).length = 1 := by decide +kernel
    have hc3 : (("}" : Str)).length = 1 := by decide +kernel
    have hc4 : (("" : Str)).length = 0 := by decide +kernel
    walk_at "begin"
    walk_at "go"
    rename_i R1 z1 o1 h10 h11
    refine r_ite (fun z => ?_) (fun z => ?_)
    · walk_at "go"
      refine ⟨st, g, R1, B0, 3, rfl, by omega, by omega, rfl, o1, fun R2 C2 t o2 s2 ht => ?_⟩
      have := tb3 (Nat.le_refl 3)
      exact q R2 C2 t o2 s2 (by omega)
    walk_at "go"
    refine r_ite (fun z => ?_) (fun z => ?_)
    · walk_at "go"
      refine ⟨rfl, ?_⟩
      walk_at "go"
      rename_i R2 z2 o2 h20 h21
      obtain ⟨n, rfl⟩ : ∃ n : Nat, z2 = (n : Int) := ⟨z2.toNat, by omega⟩
      refine lcT_range (topRg st g) o2 (by omega) (by omega) (fun i C acc => ∃ l : List Str, acc = l.map V.str ∧ l.length = i ∧ ∀ x ∈ l, x.length ≤ 1) ⟨[], rfl, rfl, fun x hx => nomatch hx⟩ ?_ ?_
      · rintro D5 i R6 C6 acc o6 hD6 hS6 hi ⟨l, rfl, hll, hlm⟩
        walk_at "begin"
        walk_at "go"
        refine ⟨rfl, ?_⟩
        walk_at "go"
        rename_i R7 z7 o7 h70 h71
        obtain ⟨k, rfl⟩ : ∃ k : Nat, z7 = (k : Int) := ⟨z7.toNat, by omega⟩
        obtain ⟨c, hc⟩ : ∃ c, atI (("{}," : Str)).cps.toList (k : Int) = some c := ⟨_, atI_nat (List.getElem?_eq_getElem (by rw [show (("{}," : Str)).cps.toList.length = 3 from by decide +kernel]; omega))⟩
        refine r_ixS (by rw [show (("{}," : Str)).length = 3 from by decide +kernel, sizeLine_eq]; omega) hc ?_
        refine lcN_put (topRg st g) o7 hD6 hS6 (by rw [List.length_map]; omega) ⟨l ++ [⟨#[c]⟩], by rw [List.map_append]; rfl, by rw [List.length_append, hll]; rfl, fun x hx => ?_⟩
        rcases List.mem_append.mp hx with z | z
        · exact hlm x z
        · rw [List.mem_singleton.mp z]; exact Nat.le_refl _
      rintro D5 R6 C6 acc o6 hB5 hD6 hS6 ⟨l, rfl, hll, hlm⟩
      try dsimp only
      rw [Int.toNat_natCast] at hll
      have s6 := hS6.trans (same_new (o := .lst (l.map V.str)) hD6)
      have h6 : (upd C6 D5 (.lst (l.map V.str))) D5 = some (.lst (l.map V.str)) := upd_same
      generalize upd C6 D5 (.lst (l.map V.str)) = C7 at o6 s6 h6 ⊢
      have hsum : (l.map (·.length)).sum ≤ (l.map (·.length)).length * 1 := sum_cap fun v hv => by
        obtain ⟨x, hx, rfl⟩ := List.mem_map.mp hv
        exact hlm x hx
      rw [List.length_map] at hsum
      walk_at "go"
      refine r_join (rg_get o6 h6) (by rw [hc4]; omega) ?_
      refine q _ C7 _ o6 s6 ?_
      have := Ak.join0_len l
      omega
    walk_at "go"
    refine r_ite (fun z => ?_) (fun z => ?_)
    · walk_at "go"
      rename_i R2 z2 o2 h20 h21
      obtain ⟨n, rfl⟩ : ∃ n : Nat, z2 = (n : Int) := ⟨z2.toNat, by omega⟩
      rw [show (57 : Int) + (n : Int) = ((57 + n : Nat) : Int) from by omega]
      refine r_mulS (by omega) (by rw [hc2]; omega) fun t1 ht1 => ?_
      rw [hc2] at ht1
      walk_at "go"
      refine ⟨st, g, R2, B0, 1, rfl, by omega, by omega, rfl, o2, fun R3 C3 t o3 s3 ht => ?_⟩
      have ht9 : t.length ≤ 11 := ht
      walk_at "go"
      refine r_catS (big (by omega)) ?_
      walk_at "go"
      refine r_mulS (by omega) (by rw [hc3]; omega) fun t2 ht2 => ?_
      rw [hc3] at ht2
      refine r_catS (big (by rw [Str.length_append]; omega)) ?_
      refine q R3 C3 _ o3 s3 ?_
      rw [Str.length_append, Str.length_append]
      omega
    walk_at "go"
    refine ⟨by walk_at "len", fun D1 n1 => ?_⟩
    obtain ⟨e1, o2, m1⟩ := newT_eq (topRg st g) o1 n1 (.lst [.int 1999, .int 2000, .int 2000, .int 2001])
    rw [e1]
    have s1 := same_new (o := .lst [.int 1999, .int 2000, .int 2000, .int 2001]) m1
    have h1 : (upd B0 D1 (.lst [.int 1999, .int 2000, .int 2000, .int 2001])) D1 = some (.lst [.int 1999, .int 2000, .int 2000, .int 2001]) := upd_same
    generalize upd B0 D1 (.lst [.int 1999, .int 2000, .int 2000, .int 2001]) = C1 at o2 s1 h1 ⊢
    walk_at "go"
    rename_i R3 z3 o3 h30 h31
    obtain ⟨sz, hsz, hat⟩ : ∃ sz : Nat, (1999 ≤ sz ∧ sz ≤ 2001) ∧ atI [V.int 1999, .int 2000, .int 2000, .int 2001] z3 = some (.int ((sz : Nat) : Int)) := by
      rcases (by omega : z3 = 0 ∨ z3 = 1 ∨ z3 = 2 ∨ z3 = 3) with rfl | rfl | rfl | rfl
      · exact ⟨1999, by omega, rfl⟩
      · exact ⟨2000, by omega, rfl⟩
      · exact ⟨2000, by omega, rfl⟩
      · exact ⟨2001, by omega, rfl⟩
    refine r_ixL (rg_get o3 h1) hat ?_
    walk_at "go"
    refine ⟨sz, rfl, by omega, by omega, fun H' t s' ht => ?_⟩
    obtain ⟨C4, rfl, o4, s4⟩ := rg_same o3 s'
    exact q R3 C4 t o4 (s1.trans s4) ht
theorem ok_sign {f f1 : Addr} {fd fd1 : FuncData} (B : Blt mg) (D : Dn K mg "_law_sign" s__law_sign ["state"] f fd) (D_law_draw : Dn K mg "_law_draw" s__law_draw ["state", "many"] f1 fd1)
    (G_law_draw : FnOk P w K mg base CX0 1 f1 fd1 ["state", "many"] spDraw) : FnOk P w K mg base CX0 2 f fd ["state"] (spTextD 1) := by
  refine D.F.ok sc__law_sign (fun vs H Q E h => ?_) (fun cdv A outer s H vs Q E hr h => ?_)
  · obtain ⟨st, g, R, C, rfl, _⟩ := h
    rfl
  · obtain ⟨st, g, R0, B0, rfl, rfl, o0, q⟩ := h
    refine ⟨_, (pss_cons (ps_if (pt_cmpR op_eq (pe_call G_law_draw (hr.mono (by decide)) (by rfl) D_law_draw.g D_law_draw.F.kp D_law_draw.b .nil pass0 (pa_cons (pv 0) (pa_cons pe_int pa_nil))) pe_int (nomark _)) (pss_one (ps_ret (pe_ix ix_str pe_str (pe_call G_law_draw (hr.mono (by decide)) (by rfl) D_law_draw.g D_law_draw.F.kp D_law_draw.b .nil pass0 (pa_cons (pv 0) (pa_cons pe_int pa_nil))) (fun _ _ => rfl)))) pss_nil)
      (pss_cons (ps_set (i := 1) sc__law_sign.nd rfl (.inl rfl) pe_str)
      (pss_one (ps_ret (pe_ix ix_str (pv 1) (pe_call G_law_draw (hr.mono (by decide)) (by rfl) D_law_draw.g D_law_draw.F.kp D_law_draw.b .nil pass0 (pa_cons (pv 0) (pa_cons (pe_callB call_len_str (by rfl) B.m_len PySem.boot_len (pa_cons (pv 1) pa_nil)) pa_nil))) (fun _ _ => rfl)))))), ?_⟩
    walk_at "begin"
    walk_at "go"
    rename_i R1 z1 o1 h10 h11
    refine r_ite (fun z => ?_) (fun z => ?_)
    · walk_at "go"
      rename_i R7 z7 o7 h70 h71
      obtain ⟨k, rfl⟩ : ∃ k : Nat, z7 = (k : Int) := ⟨z7.toNat, by omega⟩
      obtain ⟨c, hc⟩ : ∃ c, atI (("{}," : Str)).cps.toList (k : Int) = some c := ⟨_, atI_nat (List.getElem?_eq_getElem (by rw [show (("{}," : Str)).cps.toList.length = 3 from by decide +kernel]; omega))⟩
      refine r_ixS (by rw [show (("{}," : Str)).length = 3 from by decide +kernel, sizeLine_eq]; omega) hc ?_
      exact q R7 B0 _ o7 (fun b o e => e) (Nat.le_refl _)
    walk_at "go"
    refine ⟨_, rfl, by rw [sizeLine_eq]; decide +kernel, ?_⟩
    generalize hw : Str.ofString _ = W
    have hWl : W.length = 37 := by rw [← hw]; decide +kernel
    rw [hWl]
    walk_at "go"
    rename_i R7 z7 o7 h70 h71
    obtain ⟨k, rfl⟩ : ∃ k : Nat, z7 = (k : Int) := ⟨z7.toNat, by omega⟩
    obtain ⟨c, hc⟩ : ∃ c, atI W.cps.toList (k : Int) = some c := ⟨_, atI_nat (List.getElem?_eq_getElem (by rw [Array.length_toList]; show k < W.length; rw [hWl]; omega))⟩
    refine r_ixS (by rw [hWl, sizeLine_eq]; omega) hc ?_
    exact q R7 B0 _ o7 (fun b o e => e) (Nat.le_refl _)
theorem ok_changed {f f1 f2 : Addr} {fd fd1 fd2 : FuncData} (B : Blt mg) (D : Dn K mg "_law_changed" s__law_changed ["state", "text"] f fd) (D_law_draw : Dn K mg "_law_draw" s__law_draw ["state", "many"] f1 fd1)
    (G_law_draw : FnOk P w K mg base CX0 1 f1 fd1 ["state", "many"] spDraw) (D_law_sign : Dn K mg "_law_sign" s__law_sign ["state"] f2 fd2) (G_law_sign : FnOk P w K mg base CX0 2 f2 fd2 ["state"] (spTextD 1)) :
    FnOk P w K mg base CX0 3 f fd ["state", "text"] spChanged := by
  refine D.F.ok sc__law_changed (fun vs H Q E h => ?_) (fun cdv A outer s H vs Q E hr h => ?_)
  · obtain ⟨st, g, R, C, t, rfl, _⟩ := h
    rfl
  · obtain ⟨st, g, R0, B0, t0, rfl, rfl, o0, ht0, q⟩ := h
    refine ⟨_, (pss_cons (ps_for PassesOwn.never rfl (pi_range1 (by rfl) B.m_range (pa_cons (pe_call G_law_draw (hr.mono (by decide)) (by rfl) D_law_draw.g D_law_draw.F.kp D_law_draw.b .nil pass0 (pa_cons (pv 0) (pa_cons pe_int pa_nil))) pa_nil)) (pg_name (i := 2) sc__law_changed.nd rfl (.inl rfl)) (pss_cons (ps_set (i := 3) sc__law_changed.nd rfl (.inl rfl) (pe_call G_law_draw (hr.mono (by decide)) (by rfl) D_law_draw.g D_law_draw.F.kp D_law_draw.b .nil pass0 (pa_cons (pv 0) (pa_cons pe_int pa_nil))))
      (pss_cons (ps_set (i := 4) sc__law_changed.nd rfl (.inl rfl) (pe_call G_law_draw (hr.mono (by decide)) (by rfl) D_law_draw.g D_law_draw.F.kp D_law_draw.b .nil pass0 (pa_cons (pv 0) (pa_cons (pe_op op_add (pe_callB call_len_str (by rfl) B.m_len PySem.boot_len (pa_cons (pv 1) pa_nil)) pe_int) pa_nil))))
      (pss_one (ps_if (pt_cmpR op_eq (pv 3) pe_int (nomark _)) (pss_one (ps_set (i := 1) sc__law_changed.nd rfl (.inl rfl) (pe_op op_catS (pe_slice sl_str (pv 1) po_none (po_some (pv 4))) (pe_slice sl_str (pv 1) (po_some (pe_op op_add (pv 4) pe_int)) po_none)))) (pss_one (ps_if (pt_cmpR op_eq (pv 3) pe_int (nomark _)) (pss_one (ps_set (i := 1) sc__law_changed.nd rfl (.inl rfl) (pe_op op_catS (pe_op op_catS (pe_slice sl_str (pv 1) po_none (po_some (pv 4))) (pe_call G_law_sign (hr.mono (by decide)) (by rfl) D_law_sign.g D_law_sign.F.kp D_law_sign.b .nil pass0 (pa_cons (pv 0) pa_nil))) (pe_slice sl_str (pv 1) (po_some (pv 4)) po_none)))) (pss_one (ps_if (pt_cmpR op_eq (pv 3) pe_int (nomark _)) (pss_one (ps_set (i := 1) sc__law_changed.nd rfl (.inl rfl) (pe_op op_catS (pe_op op_catS (pe_slice sl_str (pv 1) po_none (po_some (pv 4))) (pe_call G_law_sign (hr.mono (by decide)) (by rfl) D_law_sign.g D_law_sign.F.kp D_law_sign.b .nil pass0 (pa_cons (pv 0) pa_nil))) (pe_slice sl_str (pv 1) (po_some (pe_op op_add (pv 4) pe_int)) po_none)))) (pss_one (ps_set (i := 1) sc__law_changed.nd rfl (.inl rfl) (pe_slice sl_str (pv 1) po_none (po_some (pv 4))))))))))))))
      (pss_one (ps_ret (pv 1)))), ?_⟩
    walk_at "begin"
    walk_at "go"
    rename_i R1 z1 o1 h10 h11
    obtain ⟨n, rfl⟩ : ∃ n : Nat, z1 = (n : Int) := ⟨z1.toNat, by omega⟩
    refine r_forR (by omega) (by omega) (fun i σ H1 => ∃ (R : RS) (C : Hp) (t : Str) (y2 y3 y4 : Option V), σ = [some (.ref st), some (.str t), y2, y3, y4] ∧ H1 = rg st g R C ∧ Ok st g R C ∧ Same B0 C ∧ (i = 0 → t.length ≤ 4000) ∧ (i ≤ 1 → t.length ≤ 8001) ∧ t.length ≤ 16003) ?_ ?_ ?_
    · exact ⟨R1, B0, t0, _, _, _, rfl, rfl, o1, (fun b o e => e), fun _ => ht0, fun _ => by omega, by omega⟩
    · rintro i σ H1 hi ⟨R, C, t, y2, y3, y4, rfl, rfl, o2, s2, hz0, hz1, hz2⟩
      rw [Int.toNat_natCast] at hi
      walk_at "go"
      rename_i R3 z3 o3 h30 h31
      refine ⟨t, rfl, big (by omega), ?_⟩
      walk_at "go"
      rename_i R4 z4 o4 h40 h41
      have hb : t.length ≤ 8001 := hz1 (by omega)
      have hfin : ∀ (R5 : RS) (C5 : Hp) (t5 : Str), Ok st g R5 C5 → Same C C5 → t5.length ≤ 2 * t.length + 1 → ∃ (R : RS) (C : Hp) (t : Str) (y2 y3 y4 : Option V), [some (V.ref st), some (V.str t5), some (V.int (i : Int)), some (V.int z3), some (V.int z4)] = [some (.ref st), some (.str t), y2, y3, y4] ∧ rg st g R5 C5 = rg st g R C ∧ Ok st g R C ∧ Same B0 C ∧ (i + 1 = 0 → t.length ≤ 4000) ∧ (i + 1 ≤ 1 → t.length ≤ 8001) ∧ t.length ≤ 16003 := fun R5 C5 t5 o5 s5 h5 =>
        ⟨R5, C5, t5, _, _, _, rfl, rfl, o5, s2.trans s5, fun z => by omega, fun z => by have := hz0 (by omega); omega, by omega⟩
      refine r_ite (fun z => ?_) (fun z => ?_)
      · walk_at "go"
        refine r_slS (big (by omega)) fun a ha => ?_
        walk_at "go"
        refine r_slS (big (by omega)) fun b hb2 => ?_
        walk_at "go"
        refine r_catS (big (by omega)) ?_
        walk_at "go"
        exact hfin R4 C _ o4 (fun b o e => e) (by rw [Str.length_append]; omega)
      walk_at "go"
      refine r_ite (fun z => ?_) (fun z => ?_)
      · walk_at "go"
        refine r_slS (big (by omega)) fun a ha => ?_
        walk_at "go"
        refine ⟨st, g, R4, C, rfl, rfl, o4, fun R5 C5 x o5 s5 hx => ?_⟩
        walk_at "go"
        refine r_catS (big (by omega)) ?_
        walk_at "go"
        refine r_slS (big (by omega)) fun b hb2 => ?_
        walk_at "go"
        refine r_catS (big (by rw [Str.length_append]; omega)) ?_
        walk_at "go"
        exact hfin R5 C5 _ o5 s5 (by rw [Str.length_append, Str.length_append]; omega)
      walk_at "go"
      refine r_ite (fun z => ?_) (fun z => ?_)
      · walk_at "go"
        refine r_slS (big (by omega)) fun a ha => ?_
        walk_at "go"
        refine ⟨st, g, R4, C, rfl, rfl, o4, fun R5 C5 x o5 s5 hx => ?_⟩
        walk_at "go"
        refine r_catS (big (by omega)) ?_
        walk_at "go"
        refine r_slS (big (by omega)) fun b hb2 => ?_
        walk_at "go"
        refine r_catS (big (by rw [Str.length_append]; omega)) ?_
        walk_at "go"
        exact hfin R5 C5 _ o5 s5 (by rw [Str.length_append, Str.length_append]; omega)
      walk_at "go"
      refine r_slS (big (by omega)) fun a ha => ?_
      walk_at "go"
      exact hfin R4 C _ o4 (fun b o e => e) (by omega)
    · rintro σ H1 ⟨R, C, t, y2, y3, y4, rfl, rfl, o2, s2, hz0, hz1, hz2⟩
      walk_at "go"
      exact q R C t o2 s2 (by omega)
end

end K06
namespace K06
open PySem PySem.Spec PyProof.Rows L2 Lw


local macro_rules | `(tactic| walk_at "look") => `(tactic| first
  | assumption
  | with_reducible exact upd_same
  | with_reducible exact rg_st
  | with_reducible exact rg_g (by assumption)
  | (with_reducible refine upd_old (by assumption) ?_; walk_at "look")
  | (with_reducible refine rg_get (by assumption) ?_; walk_at "look")
  | (with_reducible refine Same.get (by assumption) ?_; walk_at "look"))
local macro_rules | `(tactic| walk_at "cond") => `(tactic| first
  | (show _ ≠ _; omega) | exact cdivN (by omega) (by omega) | exact cmul_mod (by decide) (by decide) | exact cmulR (by omega) (by omega) | exact cmulL (by omega) (by omega) | exact cpow (by omega) (by omega) (by omega) (by omega) | (show (0:Int) ≤ _; omega))
local macro_rules | `(tactic| walk_at "at") => `(tactic| first | assumption | with_unfolding_all rfl)
local macro_rules | `(tactic| walk_at "sz") => `(tactic| first | assumption | (refine small ?_; omega) | (refine small ?_; simp only [List.length_map, List.length_append, List.length_cons, List.length_nil]; omega))
local macro_rules | `(tactic| walk_at "len") => `(tactic| first | exact size_nil | exact Nat.le_of_lt (small (by simp only [List.length_cons, List.length_nil, List.length_map]; omega)))
local macro_rules | `(tactic| walk_at "newD") => `(tactic| (refine ⟨by walk_at "len", fun p np => ?_⟩; obtain ⟨e, o', hD', n', ne'⟩ := newTD_eq (topRg _ _) (by assumption) (by assumption) np (.lst _); rw [e]; clear e))
local macro_rules | `(tactic| walk_at "new") => `(tactic| (refine ⟨by walk_at "len", fun p np => ?_⟩; obtain ⟨e, o', n'⟩ := newT_eq (topRg _ _) (by assumption) np (.lst _); rw [e]; clear e))
local macro_rules | `(tactic| walk_at "st") => `(tactic| first
  | with_reducible refine r_seq ?_
  | with_reducible refine r_var rfl ?_
  | with_reducible refine r_c ?_
  | with_reducible refine r_asg ?_
  | (with_reducible refine r_name ?_; dsimp only [List.set_cons_zero, List.set_cons_succ])
  | with_reducible refine r_sub ?_
  | with_reducible refine r_op ?_
  | with_reducible refine r_i0 ?_
  | (with_reducible refine' r_i ?k1 ?_; (case k1 => walk_at "cond"))
  | with_reducible refine r_cons ?_
  | with_reducible refine r_nil ?_
  | with_reducible refine r_cb ?_
  | with_reducible refine r_call ?_
  | with_reducible refine r_ifs ?_
  | with_reducible refine r_test ?_
  | with_reducible refine r_tB ?_
  | with_reducible refine r_bl ?_
  | with_reducible refine r_ret ?_
  | with_reducible refine r_drop ?_
  | with_reducible refine r_next ?_
  | (with_reducible refine' r_ixL ?k1 ?k2 ?_; (case k1 => walk_at "look"); (case k2 => walk_at "at"))
  | (with_reducible refine' r_setL ?k1 ?k2 ?_; (case k1 => walk_at "look"); (case k2 => walk_at "at"))
  | with_reducible refine r_aug rfl ?_
  | with_reducible refine r_augS ?_
  | with_reducible refine r_ipI ?_
  | with_reducible refine r_un ?_
  | with_reducible refine r_u ?_
  | with_reducible refine r_eq rfl ?_
  | with_reducible refine r_ne rfl ?_
  | with_reducible refine r_chain ?_
  | with_reducible refine iteF ?_
  | with_reducible refine r_not ?_
  | with_reducible refine r_and ?_
  | with_reducible refine r_or ?_
  | with_reducible refine r_andV ?_
  | with_reducible refine r_orV ?_
  | with_reducible refine r_notV ?_
  | with_reducible refine r_lst ?_
  | with_reducible refine r_bm ?_
  | with_reducible refine r_bm0 ?_
  | (with_reducible refine' And.intro (r_ty ?k1) ?_; (case k1 => walk_at "look"))
  | (with_reducible refine' r_append ?k1 ?k2 ?_; (case k1 => walk_at "look"); (case k2 => walk_at "sz"))
  | (with_reducible refine' r_lenK ?k1 ?_; (case k1 => walk_at "look"))
  | (with_reducible refine' r_listOf ?k1 ?_; (case k1 => walk_at "look"))
  | (with_reducible refine' r_sortedI ?k1 ?_; (case k1 => walk_at "look"))
  | (with_reducible refine' r_sum ?k1 ?_; (case k1 => walk_at "look"))
  | with_reducible refine r_int ?_
  | (with_reducible refine' r_draw (by assumption) ?k1 ?k2 ?_; (case k1 => omega); (case k2 => omega); intro R' n' o' h' h'')
  | with_reducible refine iteT ?_
  | with_reducible refine r_revL ?_
  | with_reducible refine r_lc ?_
  | with_reducible refine r_yes ?_
  | with_reducible refine r_for ?_
  | with_reducible refine r_iList ?_
  | with_reducible refine r_rng1 ?_
  | with_reducible refine r_enum ?_
  | (with_reducible show Ends.nx _ _ _; dsimp only)
  | (with_reducible show Ends.rt _ _ _; dsimp only)
  | (with_reducible show Ends.ct _ _ _; dsimp only)
  | (with_reducible show Ends.bk _ _ _; dsimp only))
local macro_rules | `(tactic| walk_at "go") => `(tactic| repeat (walk_at "st"))
local macro_rules | `(tactic| walk_at "begin") => `(tactic| dsimp only [cxOf, wipe, L2.start, List.map, List.length_cons, List.length_nil, Nat.reduceAdd, Nat.reduceSub, List.replicate, List.cons_append, List.nil_append])

local macro_rules | `(tactic| walk_at "st") => `(tactic| with_reducible refine r_abs ?_)
section
variable {P : Program} {w : World} {K : PySem.W.Frag} {mg : Str → Option Value} {base : Heap}
theorem ok_start {f : Addr} {fd : FuncData} {k : Nat} (B : Blt mg) (D : Dn K mg "_law_start" s__law_start ["script"] f fd) : FnOk P w K mg base CX0 (k + 1) f fd ["script"] (spStart K) := by
  refine D.F.ok sc__law_start (fun vs H Q E h => ?_) (fun cdv A outer s H vs Q E hr h => ?_)
  · obtain ⟨a, ns, rfl, _⟩ := h
    rfl
  · obtain ⟨a, ns, rfl, hS, hl, q⟩ := h
    refine ⟨_, (pss_cons (ps_set (i := 1) sc__law_start.nd rfl (.inl rfl) (pe_lst pa_nil))
      (pss_cons (ps_set (i := 2) sc__law_start.nd rfl (.inl rfl) pe_int)
      (pss_cons (ps_for PassesOwn.never rfl (pi_listK (K := K) rfl (pv 0)) (pg_name (i := 3) sc__law_start.nd rfl (.inl rfl)) (pss_cons (ps_if (pt_cmpR op_ge (pe_callB call_abs (by rfl) B.m_abs (by decide +kernel) (pa_cons (pv 3) pa_nil)) (pe_op op_pow pe_int pe_int) (nomark _)) (pss_one (ps_expr (pe_bmK (K := K) rfl PySem.F.plainAttrs_list PySem.F.slot_list_append PySem.F.type_list_append mt_append (pv 1) (pa_cons (pe_callB call_abs (by rfl) B.m_abs (by decide +kernel) (pa_cons (pv 3) pa_nil)) pa_nil)))) pss_nil)
      (pss_one (ps_set (i := 2) sc__law_start.nd rfl (.inl rfl) (pe_op op_modN (pe_callTy call_int1 (by rfl) B.m_int (by decide +kernel) (pa_cons (pe_op op_add (pe_op op_add (pe_op op_mul (pv 2) pe_int) (pe_callB call_abs (by rfl) B.m_abs (by decide +kernel) (pa_cons (pv 3) pa_nil))) pe_int) pa_nil)) pe_int)))))
      (pss_one (ps_ret (pe_lst (pa_cons (pv 1) (pa_cons pe_int (pa_cons (pv 2) (pa_cons pe_int pa_nil)))))))))), ?_⟩
    walk_at "begin"
    walk_at "go"
    refine ⟨size_nil, fun p np => ?_⟩
    walk_at "go"
    refine r_forS (xs := ns.map V.int) (Same.seq (same_new np) hS) (fun i σ H' => ∃ (gs : List Int) (m : Int) (y : Option V), σ = [some (.ref a), some (.ref p), some (.int m), y] ∧ H' = upd H p (.lst (gs.map V.int)) ∧ gs.length ≤ i ∧ (∀ n ∈ gs, 0 ≤ n) ∧ 0 ≤ m ∧ m < 2147483647) ?_ ?_ ?_ ?_
    · exact ⟨[], 1, none, rfl, rfl, Nat.le_refl _, (fun n hn => nomatch hn), by decide, by decide⟩
    · rintro i σ H' _ ⟨gs, m, y, _, rfl, _⟩
      exact Same.seq (same_new np) hS
    · rintro i x σ H' hx ⟨gs, m, y, rfl, rfl, h1, h2, h3, h4⟩
      obtain ⟨z, rfl⟩ : ∃ z : Int, x = .int z := by
        rw [List.getElem?_map] at hx
        cases e : ns[i]? with
        | none => rw [e] at hx; cases hx
        | some z => rw [e] at hx; exact ⟨z, (Option.some.inj hx).symm⟩
      have hi : i < 63 := by
        have := (List.getElem?_eq_some_iff.mp hx).1
        rw [List.length_map] at this
        omega
      walk_at "go"
      have fm : ∀ t : Int, 0 ≤ t.fmod 2147483647 ∧ t.fmod 2147483647 < 2147483647 := fun t => ⟨Int.fmod_nonneg_of_pos _ (by decide), Int.fmod_lt_of_pos _ (by decide)⟩
      refine r_ite (fun _ => ?_) (fun _ => ?_)
      · walk_at "go"
        refine ⟨gs ++ [if z < 0 then -z else z], _, _, rfl, by rw [upd_upd, List.map_append]; rfl, by rw [List.length_append, List.length_singleton]; omega, fun n hn => ?_, (fm _).1, (fm _).2⟩
        rcases List.mem_append.mp hn with e | e
        · exact h2 n e
        · rw [List.mem_singleton.mp e]; split <;> omega
      · walk_at "go"
        exact ⟨gs, _, _, rfl, rfl, by omega, h2, (fm _).1, (fm _).2⟩
    · rintro σ H' ⟨gs, m, y, rfl, rfl, h1, h2, h3, h4⟩
      walk_at "go"
      refine ⟨size_le (n := 4) rfl (by decide), fun st ns' => ?_⟩
      have hne : st ≠ p := (upd_none ns').1
      rw [List.length_map] at h1
      exact q st p ⟨gs, 0, m, 0⟩ ⟨hne, ⟨Int.le_refl _, by show (0:Int) ≤ (gs.length : Int); omega, h2, by show gs.length ≤ 63; omega⟩, (upd_none ns').2, np⟩
end
end K06
namespace K06
open PySem PySem.Spec PyProof.Rows L2 Lw


local macro_rules | `(tactic| walk_at "look") => `(tactic| first
  | assumption
  | with_reducible exact upd_same
  | with_reducible exact rg_st
  | with_reducible exact rg_g (by assumption)
  | (with_reducible refine upd_old (by assumption) ?_; walk_at "look")
  | (with_reducible refine rg_get (by assumption) ?_; walk_at "look")
  | (with_reducible refine Same.get (by assumption) ?_; walk_at "look"))
local macro_rules | `(tactic| walk_at "cond") => `(tactic| first
  | (show _ ≠ _; omega) | exact cdivN (by omega) (by omega) | exact cmul_mod (by decide) (by decide) | exact cmulR (by omega) (by omega) | exact cmulL (by omega) (by omega) | exact cpow (by omega) (by omega) (by omega) (by omega) | (show (0:Int) ≤ _; omega))
local macro_rules | `(tactic| walk_at "at") => `(tactic| first | assumption | with_unfolding_all rfl)
local macro_rules | `(tactic| walk_at "sz") => `(tactic| first | assumption | (refine small ?_; omega) | (refine small ?_; simp only [List.length_map, List.length_append, List.length_cons, List.length_nil]; omega))
local macro_rules | `(tactic| walk_at "len") => `(tactic| first | exact size_nil | exact Nat.le_of_lt (small (by simp only [List.length_cons, List.length_nil, List.length_map]; omega)))
local macro_rules | `(tactic| walk_at "newD") => `(tactic| (refine ⟨by walk_at "len", fun p np => ?_⟩; obtain ⟨e, o', hD', n', ne'⟩ := newTD_eq (topRg _ _) (by assumption) (by assumption) np (.lst _); rw [e]; clear e))
local macro_rules | `(tactic| walk_at "new") => `(tactic| (refine ⟨by walk_at "len", fun p np => ?_⟩; obtain ⟨e, o', n'⟩ := newT_eq (topRg _ _) (by assumption) np (.lst _); rw [e]; clear e))
local macro_rules | `(tactic| walk_at "st") => `(tactic| first
  | with_reducible refine r_seq ?_
  | with_reducible refine r_var rfl ?_
  | with_reducible refine r_c ?_
  | with_reducible refine r_asg ?_
  | (with_reducible refine r_name ?_; dsimp only [List.set_cons_zero, List.set_cons_succ])
  | with_reducible refine r_sub ?_
  | with_reducible refine r_op ?_
  | with_reducible refine r_i0 ?_
  | (with_reducible refine' r_i ?k1 ?_; (case k1 => walk_at "cond"))
  | with_reducible refine r_cons ?_
  | with_reducible refine r_nil ?_
  | with_reducible refine r_cb ?_
  | with_reducible refine r_call ?_
  | with_reducible refine r_ifs ?_
  | with_reducible refine r_test ?_
  | with_reducible refine r_tB ?_
  | with_reducible refine r_bl ?_
  | with_reducible refine r_ret ?_
  | with_reducible refine r_drop ?_
  | with_reducible refine r_next ?_
  | (with_reducible refine' r_ixL ?k1 ?k2 ?_; (case k1 => walk_at "look"); (case k2 => walk_at "at"))
  | (with_reducible refine' r_setL ?k1 ?k2 ?_; (case k1 => walk_at "look"); (case k2 => walk_at "at"))
  | (with_reducible refine' r_tup (SqT.of ?k1) ?k2 ?_; (case k1 => walk_at "look"); (case k2 => rfl))
  | with_reducible refine r_gcons ?_
  | with_reducible refine r_gnil ?_
  | with_reducible refine r_aug rfl ?_
  | with_reducible refine r_augS ?_
  | with_reducible refine r_ipI ?_
  | with_reducible refine r_un ?_
  | with_reducible refine r_u ?_
  | with_reducible refine r_eq rfl ?_
  | with_reducible refine r_ne rfl ?_
  | with_reducible refine r_chain ?_
  | with_reducible refine iteF ?_
  | with_reducible refine r_not ?_
  | with_reducible refine r_and ?_
  | with_reducible refine r_or ?_
  | with_reducible refine r_andV ?_
  | with_reducible refine r_orV ?_
  | with_reducible refine r_notV ?_
  | with_reducible refine r_lst ?_
  | with_reducible refine r_bm ?_
  | with_reducible refine r_bm0 ?_
  | (with_reducible refine' And.intro (r_ty ?k1) ?_; (case k1 => walk_at "look"))
  | (with_reducible refine' r_append ?k1 ?k2 ?_; (case k1 => walk_at "look"); (case k2 => walk_at "sz"))
  | (with_reducible refine' r_lenK ?k1 ?_; (case k1 => walk_at "look"))
  | (with_reducible refine' r_listOf ?k1 ?_; (case k1 => walk_at "look"))
  | (with_reducible refine' r_sortedI ?k1 ?_; (case k1 => walk_at "look"))
  | (with_reducible refine' r_sum ?k1 ?_; (case k1 => walk_at "look"))
  | with_reducible refine r_int ?_
  | (with_reducible refine' r_draw (by assumption) ?k1 ?k2 ?_; (case k1 => omega); (case k2 => omega); intro R' n' o' h' h'')
  | with_reducible refine iteT ?_
  | with_reducible refine r_revL ?_
  | with_reducible refine r_lc ?_
  | with_reducible refine r_yes ?_
  | with_reducible refine r_sl ?_
  | with_reducible refine iteNTr ?_
  | with_reducible refine iteNFa ?_
  | with_reducible refine r_fld ?_
  | with_reducible refine r_sFld ?_
  | with_reducible refine r_meth ?_
  | with_reducible refine r_methT ?_
  | with_reducible refine r_prop ?_
  | with_reducible refine r_dget ?_
  | with_reducible refine r_dput ?_
  | with_reducible refine r_noPart ?_
  | with_reducible refine r_part ?_
  | with_reducible refine r_lc2 ?_
  | with_reducible refine r_callN ?_
  | with_reducible refine r_callD ?_
  | with_reducible refine r_tupE ?_
  | with_reducible refine r_rng2 ?_
  | with_reducible refine r_i1 ?_
  | (with_reducible refine' r_slL ?k1 ?_; (case k1 => walk_at "look"))
  | with_reducible refine r_for ?_
  | with_reducible refine r_iList ?_
  | with_reducible refine r_rng1 ?_
  | with_reducible refine r_enum ?_
  | (with_reducible show Ends.nx _ _ _; dsimp only)
  | (with_reducible show Ends.rt _ _ _; dsimp only)
  | (with_reducible show Ends.ct _ _ _; dsimp only)
  | (with_reducible show Ends.bk _ _ _; dsimp only))
local macro_rules | `(tactic| walk_at "go") => `(tactic| repeat (walk_at "st"))
local macro_rules | `(tactic| walk_at "begin") => `(tactic| dsimp only [cxOf, wipe, L2.start, List.map, List.length_cons, List.length_nil, Nat.reduceAdd, Nat.reduceSub, List.replicate, List.cons_append, List.nil_append])

open NdefX

def okS : V → Prop := fun v => ∃ s : Str, v = .str s ∧ s.length ≤ 1000
abbrev s_BadText___init__ : Stmt := inClass (topS 3) 0
abbrev s_FailedCheck___init__ : Stmt := inClass (topS 10) 0
abbrev s_NoSet___init__ : Stmt := inClass (topS 11) 0
theorem log_lt {n : Nat} (h : n ≤ 5000) : n.log2 < 1920 := by
  by_cases z : n = 0
  · subst z; decide
  · exact Nat.lt_of_lt_of_le ((Nat.log2_lt z).mpr (Nat.lt_of_le_of_lt h (by decide : 5000 < 2 ^ 13))) (by decide : 13 ≤ 1920)
theorem int_len {i : Nat} (h : i ≤ 5000) : (Str.ofString (toString ((i : Nat) : Int))).length ≤ 4 := PyProof.Rows.toString_length_le (by omega) (by decide) (by omega)
structure ExD (K : PySem.W.Frag) (D : Addr) (fld : Str) (hv kv : Value) : Prop where
  c : ExcC K D
  ex : PySem.W.exmOne K (.ref D) hv = some true
  k : PySem.W.kitOne K (.ref D) kv = some true
  x : XfC K D
  no : PySem.W.findIn K (.ref D) fld = some none
def spMade : Sp := fun vs H Q _ => ∃ (n : Nat) (s : Str), vs = [.int ((n : Nat) : Int), .str s] ∧ n < 5000 ∧ s.length ≤ 1000 ∧ ∀ H', Q (.bl true) H'
def spLaw (K : PySem.W.Frag) : Sp := fun vs H Q _ => ∃ (a : Addr) (ns : List Int), vs = [.ref a] ∧ SqL K H a (ns.map V.int) ∧ ns.length ≤ 63 ∧ ∀ H', Q (.bl true) H'
theorem r_eqT3 {K : PySem.W.Frag} {H : Hp} {Q : VK} {a b : Addr} (h1 : H a = some (.lst [.bl true, .bl true, .bl true])) (h2 : H b = some (.lst [.bl true, .bl true, .bl true])) (q : Q (.bl true) H) : rEqD K (.ref a) (.ref b) H Q :=
  ⟨.list [.bool true, .bool true, .bool true], .list [.bool true, .bool true, .bool true], .lst (SqL.of h1) (.cons (.bl _) (.cons (.bl _) (.cons (.bl _) .nil))), .lst (SqL.of h2) (.cons (.bl _) (.cons (.bl _) (.cons (.bl _) .nil))), by decide +kernel, by decide +kernel, by rw [show PyData.eqv (.list [.bool true, .bool true, .bool true]) (.list [.bool true, .bool true, .bool true]) = true from by decide +kernel]; exact q⟩
section
variable {P : Program} {w : World} {K : PySem.W.Frag} {mg : Str → Option Value} {base : Heap} {C CB CT c1 c2 c3 c4 c5 c6 c7 c8 c9 cE : Addr}
theorem ok_supB {C f : Addr} {fd : FuncData} (Z : Lsup.SupF P K C f s_BadText___init__ "BadText.__init__" fd) (mS : mg "super" = none) (hf : PySem.W.findIn K (.ref C) "at" = some none) : FnOk P w K mg base CX0 1 f fd ["self", "at"] (Lsup.spSup C "at" okI) := by
  refine Lsup.sup_ok Z (nscope_by (by decide +kernel)) rfl (by decide +kernel) mS ⟨_, rfl, rfl⟩ hf (fun X hs hN hK hm => pe_joined (PJ.cons pe_str (PJ.cons (pe_fmt (pe_var (i := 1) (by rw [hN] <;> rfl) (by rw [hs]; exact .inl (by decide +kernel)))) PJ.nil))) (fun _ => rfl) (fun env hs => ?_) (fun env hs => ?_) (fun _ => ⟨_, rfl⟩) (by decide) (by decide) fun a v c H Q hv q => ?_
  · rfl
  · rfl
  · obtain ⟨i, rfl, hi⟩ := hv
    have e1 : (Str.empty).length = 0 := by decide +kernel
    have e2 : (("the text cannot be read at index " : Str)).length = 33 := by decide +kernel
    have e3 := int_len hi
    refine ⟨_, rfl, by rw [Str.length_append, e1, e2, sizeLine_eq]; omega, ?_⟩
    refine ⟨_, rfl, .inr ⟨_, rfl, log_lt hi, ?_⟩⟩
    refine ⟨_, rfl, by rw [Str.length_append, Str.length_append, e1, e2, sizeLine_eq]; omega, ?_⟩
    exact q _
theorem ok_supF {C f : Addr} {fd : FuncData} (Z : Lsup.SupF P K C f s_FailedCheck___init__ "FailedCheck.__init__" fd) (mS : mg "super" = none) (hf : PySem.W.findIn K (.ref C) "step" = some none) : FnOk P w K mg base CX0 1 f fd ["self", "step"] (Lsup.spSup C "step" okI) := by
  refine Lsup.sup_ok Z (nscope_by (by decide +kernel)) rfl (by decide +kernel) mS ⟨_, rfl, rfl⟩ hf (fun X hs hN hK hm => pe_joined (PJ.cons pe_str (PJ.cons (pe_fmt (pe_var (i := 1) (by rw [hN] <;> rfl) (by rw [hs]; exact .inl (by decide +kernel)))) (PJ.cons pe_str PJ.nil)))) (fun _ => rfl) (fun env hs => ?_) (fun env hs => ?_) (fun _ => ⟨_, rfl⟩) (by decide) (by decide) fun a v c H Q hv q => ?_
  · rfl
  · rfl
  · obtain ⟨i, rfl, hi⟩ := hv
    have e1 : (Str.empty).length = 0 := by decide +kernel
    have e2 : (("the check at step " : Str)).length = 18 := by decide +kernel
    have e4 : ((" is false" : Str)).length = 9 := by decide +kernel
    have e3 := int_len hi
    refine ⟨_, rfl, by rw [Str.length_append, e1, e2, sizeLine_eq]; omega, ?_⟩
    refine ⟨_, rfl, .inr ⟨_, rfl, log_lt hi, ?_⟩⟩
    refine ⟨_, rfl, by rw [Str.length_append, Str.length_append, e1, e2, sizeLine_eq]; omega, ?_⟩
    refine ⟨_, rfl, by rw [Str.length_append, Str.length_append, Str.length_append, e1, e2, e4, sizeLine_eq]; omega, ?_⟩
    exact q _
theorem ok_supN {C f : Addr} {fd : FuncData} (Z : Lsup.SupF P K C f s_NoSet___init__ "NoSet.__init__" fd) (mS : mg "super" = none) (hf : PySem.W.findIn K (.ref C) "name" = some none) : FnOk P w K mg base CX0 1 f fd ["self", "name"] (Lsup.spSup C "name" okS) := by
  refine Lsup.sup_ok Z (nscope_by (by decide +kernel)) rfl (by decide +kernel) mS ⟨_, rfl, rfl⟩ hf (fun X hs hN hK hm => pe_joined (PJ.cons pe_str (PJ.cons (pe_fmt (pe_var (i := 1) (by rw [hN] <;> rfl) (by rw [hs]; exact .inl (by decide +kernel)))) PJ.nil))) (fun _ => rfl) (fun env hs => ?_) (fun env hs => ?_) (fun _ => ⟨_, rfl⟩) (by decide) (by decide) fun a v c H Q hv q => ?_
  · rfl
  · rfl
  · obtain ⟨x, rfl, hi⟩ := hv
    have e1 : (Str.empty).length = 0 := by decide +kernel
    have e2 : (("there is no set for the name " : Str)).length = 29 := by decide +kernel
    refine ⟨_, rfl, by rw [Str.length_append, e1, e2, sizeLine_eq]; omega, ?_⟩
    refine ⟨_, rfl, .inl ⟨_, rfl, by rw [sizeLine_eq]; omega, ?_⟩⟩
    refine ⟨_, rfl, by rw [Str.length_append, Str.length_append, e1, e2, sizeLine_eq]; omega, ?_⟩
    exact q _

theorem ok_made {f : Addr} {fd : FuncData} (B : Blt mg) (ZG : ExG mg CB CT c1 c2 c3 c4 c5 c6 c7 c8 c9 cE) (SBB : ExB P w K mg base "BadText" CB "at" "at" okI) (SBF : ExB P w K mg base "FailedCheck" c6 "step" "step" okI) (SBN : ExB P w K mg base "NoSet" c7 "name" "name" okS)
    (ZB : ExD K CB "at" (.ref cE) (.ref CB)) (ZF : ExD K c6 "step" (.ref c6) (.ref cE)) (ZN : ExD K c7 "name" (.ref c7) (.type "ValueError")) (D : Dn K mg "_law_made" s__law_made ["number", "word"] f fd) : FnOk P w K mg base CX0 3 f fd ["number", "word"] spMade := by
  obtain ⟨fIB, fdB, iBB, tBB, GBB, bBB⟩ := SBB.fn
  obtain ⟨fIF, fdF, iBF, tBF, GBF, bBF⟩ := SBF.fn
  obtain ⟨fIN, fdN, iBN, tBN, GBN, bBN⟩ := SBN.fn
  refine D.F.ok sc__law_made (fun vs H Q E h => ?_) (fun cdv A outer s H vs Q E hr h => ?_)
  · obtain ⟨n, s, rfl, _⟩ := h
    rfl
  · obtain ⟨n, wd, rfl, hn, hwd, q⟩ := h
    refine ⟨_, (pss_cons (ps_set (i := 2) sc__law_made.nd rfl (.inl rfl) (pe_lst pa_nil))
      (pss_cons (ps_try_asM rfl rfl sc__law_made.nd (fun W pn xe tk _ => pss_one (by exact (ps_raise rfl tk (pmk_oex SBB.T iBB tBB GBB (hr.mono (by decide)) bBB .nil pass0 (by rfl) SBB.g (pa_cons (pv 0) pa_nil)))))
      (HdsA.cons (i := 3) ⟨rfl, by decide, .inl ZG.g_SetnestsError⟩ rfl rfl (fun a oe cls d pn hz hf => pss_when (P := cls = .ref CB) fun e => by exact (pss_one (ps_set (i := 2) sc__law_made.nd rfl (.inl rfl) (pe_op op_cat (pv 2) (pe_lst (pa_cons (pe_and (pe_callB (call_isED ZB.c (zc_cls e hz) hf) (by rfl) B.m_isinstance (by decide +kernel) (pa_cons (pv 3) (pa_cons (pe_glob (v := .ref CB) rfl ZG.g_BadText rfl) pa_nil))) (pe_one (pe_cmpR op_eq (pe_xf ZB.x ZB.no hz hf (pv 3)) (pv 0) (nomark _)))) pa_nil)))))) HdsA.nil))
      (pss_cons (ps_try_asM rfl rfl sc__law_made.nd (fun W pn xe tk _ => pss_one (by exact (ps_raise rfl tk (pmk_oex SBF.T iBF tBF GBF (hr.mono (by decide)) bBF .nil pass0 (by rfl) SBF.g (pa_cons (pe_op op_add (pv 0) pe_int) pa_nil)))))
      (HdsA.cons (i := 4) ⟨rfl, by decide, .inl ZG.g_FailedCheck⟩ rfl rfl (fun a oe cls d pn hz hf => pss_when (P := cls = .ref c6) fun e => by exact (pss_one (ps_set (i := 2) sc__law_made.nd rfl (.inl rfl) (pe_op op_cat (pv 2) (pe_lst (pa_cons (pe_and (pe_callB (call_isED ZF.c (zc_cls e hz) hf) (by rfl) B.m_isinstance (by decide +kernel) (pa_cons (pv 4) (pa_cons (pe_glob (v := .ref cE) rfl ZG.g_SetnestsError rfl) pa_nil))) (pe_one (pe_cmpR op_eq (pe_xf ZF.x ZF.no hz hf (pv 4)) (pe_op op_add (pv 0) pe_int) (nomark _)))) pa_nil)))))) HdsA.nil))
      (pss_cons (ps_try_asM rfl rfl sc__law_made.nd (fun W pn xe tk _ => pss_one (by exact (ps_raise rfl tk (pmk_oex SBN.T iBN tBN GBN (hr.mono (by decide)) bBN .nil pass0 (by rfl) SBN.g (pa_cons (pv 1) pa_nil)))))
      (HdsA.cons (i := 5) ⟨rfl, by decide, .inl ZG.g_NoSet⟩ rfl rfl (fun a oe cls d pn hz hf => pss_when (P := cls = .ref c7) fun e => by exact (pss_one (ps_set (i := 2) sc__law_made.nd rfl (.inl rfl) (pe_op op_cat (pv 2) (pe_lst (pa_cons (pe_and (pe_callB (call_isED ZN.c (zc_cls e hz) hf) (by rfl) B.m_isinstance (by decide +kernel) (pa_cons (pv 5) (pa_cons (pe_bltn (v := .ty "ValueError") (by rfl) B.m_ValueError (by decide +kernel) rfl) pa_nil))) (pe_one (pe_cmpR op_eq (pe_xf ZN.x ZN.no hz hf (pv 5)) (pv 1) (nomark _)))) pa_nil)))))) HdsA.nil))
      (pss_one (ps_ret (pe_cmpR (op_eqDK (K := K) rfl hr.units) (pv 2) (pe_lst (pa_cons pe_bl (pa_cons pe_bl (pa_cons pe_bl pa_nil)))) (nomark _)))))))), ?_⟩
    walk_at "begin"
    walk_at "go"
    refine ⟨by walk_at "len", fun p0 np0 => ?_⟩
    have h0 : (upd H p0 (.lst [])) p0 = some (.lst []) := upd_same
    generalize upd H p0 (.lst []) = H0 at h0 ⊢
    walk_at "go"
    refine r_mkT ?_
    walk_at "go"
    refine mkO_end (okv := okI) (Q := fun cls d H' => wManyA K _ _ cls d _ H') ⟨n, rfl, by omega⟩ fun H1 d1 s1 hd1 => ?_
    refine ⟨true, ZB.ex, fun _ a9 na9 => ⟨rfl, ?_⟩, (fun z => nomatch z)⟩
    dsimp only [List.set_cons_zero, List.set_cons_succ, endsX]
    have g1 := s1 _ _ h0
    clear s1 h0
    walk_at "go"
    refine ⟨_, .ref CB, true, d1, _, rfl, rfl, hd1, fun u hu => hu, ZB.k, ?_⟩
    refine ⟨true, rfl, ?_⟩
    walk_at "go"
    refine ⟨_, rfl, rfl, rfl, d1, _, _, rfl, hd1, rfl, ?_⟩
    walk_at "go"
    rw [decide_eq_true rfl]
    refine ⟨by walk_at "len", fun p2 np2 => ?_⟩
    have g2 := same_new (o := .lst [.bl true]) np2 _ _ g1
    have g3 : (upd H1 p2 (.lst [.bl true])) p2 = some (.lst [.bl true]) := upd_same
    generalize upd H1 p2 (.lst [.bl true]) = H2 at g2 g3 ⊢
    refine r_cat g2 g3 (by decide) fun p3 np3 => ?_
    have h0 : (upd H2 p3 (.lst ([] ++ [.bl true]))) p3 = some (.lst [.bl true]) := upd_same
    generalize upd H2 p3 (.lst ([] ++ [.bl true])) = H3 at h0 ⊢
    clear g1 g2 g3 np2 np3 H2 hd1 H1 na9
    walk_at "go"
    dsimp only [List.set_cons_zero, List.set_cons_succ]
    walk_at "go"
    refine r_mkT ?_
    walk_at "go"
    refine mkO_end (okv := okI) (Q := fun cls d H' => wManyA K _ _ cls d _ H') ⟨n + 1, congrArg V.int (by omega), by omega⟩ fun H1 d1 s1 hd1 => ?_
    refine ⟨true, ZF.ex, fun _ a9 na9 => ⟨rfl, ?_⟩, (fun z => nomatch z)⟩
    dsimp only [List.set_cons_zero, List.set_cons_succ, endsX]
    have g1 := s1 _ _ h0
    clear s1 h0
    walk_at "go"
    refine ⟨_, .ref cE, true, d1, _, rfl, rfl, hd1, fun u hu => hu, ZF.k, ?_⟩
    refine ⟨true, rfl, ?_⟩
    walk_at "go"
    refine ⟨_, rfl, rfl, rfl, d1, _, _, rfl, hd1, rfl, ?_⟩
    walk_at "go"
    rw [decide_eq_true rfl]
    refine ⟨by walk_at "len", fun p2 np2 => ?_⟩
    have g2 := same_new (o := .lst [.bl true]) np2 _ _ g1
    have g3 : (upd H1 p2 (.lst [.bl true])) p2 = some (.lst [.bl true]) := upd_same
    generalize upd H1 p2 (.lst [.bl true]) = H2 at g2 g3 ⊢
    refine r_cat g2 g3 (by decide) fun p3 np3 => ?_
    have h0 : (upd H2 p3 (.lst ([.bl true] ++ [.bl true]))) p3 = some (.lst [.bl true, .bl true]) := upd_same
    generalize upd H2 p3 (.lst ([.bl true] ++ [.bl true])) = H3 at h0 ⊢
    clear g1 g2 g3 np2 np3 H2 hd1 H1 na9
    walk_at "go"
    dsimp only [List.set_cons_zero, List.set_cons_succ]
    walk_at "go"
    refine r_mkT ?_
    walk_at "go"
    refine mkO_end (okv := okS) (Q := fun cls d H' => wManyA K _ _ cls d _ H') ⟨wd, rfl, hwd⟩ fun H1 d1 s1 hd1 => ?_
    refine ⟨true, ZN.ex, fun _ a9 na9 => ⟨rfl, ?_⟩, (fun z => nomatch z)⟩
    dsimp only [List.set_cons_zero, List.set_cons_succ, endsX]
    have g1 := s1 _ _ h0
    clear s1 h0
    walk_at "go"
    refine ⟨_, .type "ValueError", true, d1, _, rfl, rfl, hd1, fun u hu => hu, ZN.k, ?_⟩
    refine ⟨true, rfl, ?_⟩
    walk_at "go"
    refine ⟨_, rfl, rfl, rfl, d1, _, _, rfl, hd1, rfl, ?_⟩
    walk_at "go"
    rw [decide_eq_true rfl]
    refine ⟨by walk_at "len", fun p2 np2 => ?_⟩
    have g2 := same_new (o := .lst [.bl true]) np2 _ _ g1
    have g3 : (upd H1 p2 (.lst [.bl true])) p2 = some (.lst [.bl true]) := upd_same
    generalize upd H1 p2 (.lst [.bl true]) = H2 at g2 g3 ⊢
    refine r_cat g2 g3 (by decide) fun p3 np3 => ?_
    have h0 : (upd H2 p3 (.lst ([.bl true, .bl true] ++ [.bl true]))) p3 = some (.lst [.bl true, .bl true, .bl true]) := upd_same
    generalize upd H2 p3 (.lst ([.bl true, .bl true] ++ [.bl true])) = H3 at h0 ⊢
    clear g1 g2 g3 np2 np3 H2 hd1 H1 na9
    walk_at "go"
    dsimp only [List.set_cons_zero, List.set_cons_succ]
    walk_at "go"
    refine ⟨by walk_at "len", fun p4 np4 => ?_⟩
    refine r_eqT3 (same_new np4 _ _ h0) upd_same ?_
    exact q _
end

end K06
namespace K06
open PySem PySem.Spec PyProof.Rows L2 Lw


local macro_rules | `(tactic| walk_at "look") => `(tactic| first
  | assumption
  | with_reducible exact upd_same
  | with_reducible exact rg_st
  | with_reducible exact rg_g (by assumption)
  | (with_reducible refine upd_old (by assumption) ?_; walk_at "look")
  | (with_reducible refine rg_get (by assumption) ?_; walk_at "look")
  | (with_reducible refine Same.get (by assumption) ?_; walk_at "look"))
local macro_rules | `(tactic| walk_at "cond") => `(tactic| first
  | (show _ ≠ _; omega) | exact cdivN (by omega) (by omega) | exact cmul_mod (by decide) (by decide) | exact cmulR (by omega) (by omega) | exact cmulL (by omega) (by omega) | exact cpow (by omega) (by omega) (by omega) (by omega) | (show (0:Int) ≤ _; omega))
local macro_rules | `(tactic| walk_at "at") => `(tactic| first | assumption | with_unfolding_all rfl)
local macro_rules | `(tactic| walk_at "sz") => `(tactic| first | assumption | (refine small ?_; omega) | (refine small ?_; simp only [List.length_map, List.length_append, List.length_cons, List.length_nil]; omega))
local macro_rules | `(tactic| walk_at "len") => `(tactic| first | exact size_nil | exact Nat.le_of_lt (small (by simp only [List.length_cons, List.length_nil, List.length_map]; omega)))
local macro_rules | `(tactic| walk_at "newD") => `(tactic| (refine ⟨by walk_at "len", fun p np => ?_⟩; obtain ⟨e, o', hD', n', ne'⟩ := newTD_eq (topRg _ _) (by assumption) (by assumption) np (.lst _); rw [e]; clear e))
local macro_rules | `(tactic| walk_at "new") => `(tactic| (refine ⟨by walk_at "len", fun p np => ?_⟩; obtain ⟨e, o', n'⟩ := newT_eq (topRg _ _) (by assumption) np (.lst _); rw [e]; clear e))
local macro_rules | `(tactic| walk_at "st") => `(tactic| first
  | with_reducible refine r_seq ?_
  | with_reducible refine r_var rfl ?_
  | with_reducible refine r_c ?_
  | with_reducible refine r_asg ?_
  | (with_reducible refine r_name ?_; dsimp only [List.set_cons_zero, List.set_cons_succ])
  | with_reducible refine r_sub ?_
  | with_reducible refine r_op ?_
  | with_reducible refine r_i0 ?_
  | (with_reducible refine' r_i ?k1 ?_; (case k1 => walk_at "cond"))
  | with_reducible refine r_cons ?_
  | with_reducible refine r_nil ?_
  | with_reducible refine r_cb ?_
  | with_reducible refine r_call ?_
  | with_reducible refine r_ifs ?_
  | with_reducible refine r_test ?_
  | with_reducible refine r_tB ?_
  | with_reducible refine r_bl ?_
  | with_reducible refine r_ret ?_
  | with_reducible refine r_drop ?_
  | with_reducible refine r_next ?_
  | (with_reducible refine' r_ixL ?k1 ?k2 ?_; (case k1 => walk_at "look"); (case k2 => walk_at "at"))
  | (with_reducible refine' r_setL ?k1 ?k2 ?_; (case k1 => walk_at "look"); (case k2 => walk_at "at"))
  | (with_reducible refine' r_tup (SqT.of ?k1) ?k2 ?_; (case k1 => walk_at "look"); (case k2 => rfl))
  | with_reducible refine r_gcons ?_
  | with_reducible refine r_gnil ?_
  | with_reducible refine r_aug rfl ?_
  | with_reducible refine r_augS ?_
  | with_reducible refine r_ipI ?_
  | with_reducible refine r_un ?_
  | with_reducible refine r_u ?_
  | with_reducible refine r_eq rfl ?_
  | with_reducible refine r_ne rfl ?_
  | with_reducible refine r_chain ?_
  | with_reducible refine iteF ?_
  | with_reducible refine r_not ?_
  | with_reducible refine r_and ?_
  | with_reducible refine r_or ?_
  | with_reducible refine r_andV ?_
  | with_reducible refine r_orV ?_
  | with_reducible refine r_notV ?_
  | with_reducible refine r_lst ?_
  | with_reducible refine r_bm ?_
  | with_reducible refine r_bm0 ?_
  | (with_reducible refine' And.intro (r_ty ?k1) ?_; (case k1 => walk_at "look"))
  | (with_reducible refine' r_append ?k1 ?k2 ?_; (case k1 => walk_at "look"); (case k2 => walk_at "sz"))
  | (with_reducible refine' r_lenK ?k1 ?_; (case k1 => walk_at "look"))
  | (with_reducible refine' r_listOf ?k1 ?_; (case k1 => walk_at "look"))
  | (with_reducible refine' r_sortedI ?k1 ?_; (case k1 => walk_at "look"))
  | (with_reducible refine' r_sum ?k1 ?_; (case k1 => walk_at "look"))
  | with_reducible refine r_int ?_
  | (with_reducible refine' r_draw (by assumption) ?k1 ?k2 ?_; (case k1 => omega); (case k2 => omega); intro R' n' o' h' h'')
  | with_reducible refine iteT ?_
  | with_reducible refine r_revL ?_
  | with_reducible refine r_lc ?_
  | with_reducible refine r_yes ?_
  | with_reducible refine r_sl ?_
  | with_reducible refine iteNTr ?_
  | with_reducible refine iteNFa ?_
  | with_reducible refine r_fld ?_
  | with_reducible refine r_sFld ?_
  | with_reducible refine r_meth ?_
  | with_reducible refine r_methT ?_
  | with_reducible refine r_prop ?_
  | with_reducible refine r_dget ?_
  | with_reducible refine r_dput ?_
  | with_reducible refine r_noPart ?_
  | with_reducible refine r_part ?_
  | with_reducible refine r_lc2 ?_
  | with_reducible refine r_callN ?_
  | with_reducible refine r_callD ?_
  | with_reducible refine r_tupE ?_
  | with_reducible refine r_rng2 ?_
  | with_reducible refine r_i1 ?_
  | (with_reducible refine' r_slL ?k1 ?_; (case k1 => walk_at "look"))
  | with_reducible refine r_for ?_
  | with_reducible refine r_iList ?_
  | with_reducible refine r_rng1 ?_
  | with_reducible refine r_enum ?_
  | (with_reducible show Ends.nx _ _ _; dsimp only)
  | (with_reducible show Ends.rt _ _ _; dsimp only)
  | (with_reducible show Ends.ct _ _ _; dsimp only)
  | (with_reducible show Ends.bk _ _ _; dsimp only))
local macro_rules | `(tactic| walk_at "go") => `(tactic| repeat (walk_at "st"))
local macro_rules | `(tactic| walk_at "begin") => `(tactic| dsimp only [cxOf, wipe, L2.start, List.map, List.length_cons, List.length_nil, Nat.reduceAdd, Nat.reduceSub, List.replicate, List.cons_append, List.nil_append])


section
variable {P : Program} {w : World} {K : PySem.W.Frag} {mg : Str → Option Value} {base : Heap} {C : Addr}
theorem ok_law {f f1 f2 f3 f4 f5 f6 : Addr} {fd fd1 fd2 fd3 fd4 fd5 fd6 : FuncData} (B : Blt mg)
    (D : Dn K mg "law" s_law ["script"] f fd) (D_law_start : Dn K mg "_law_start" s__law_start ["script"] f1 fd1) (G_law_start : FnOk P w K mg base CX0 1 f1 fd1 ["script"] (spStart K))
    (D_law_first : Dn K mg "_law_first" s__law_first ["state"] f2 fd2) (G_law_first : FnOk P w K mg base CX0 6 f2 fd2 ["state"] (spTextD 4000))
    (D_law_changed : Dn K mg "_law_changed" s__law_changed ["state", "text"] f3 fd3) (G_law_changed : FnOk P w K mg base CX0 3 f3 fd3 ["state", "text"] spChanged)
    (D_law_draw : Dn K mg "_law_draw" s__law_draw ["state", "many"] f4 fd4) (G_law_draw : FnOk P w K mg base CX0 1 f4 fd4 ["state", "many"] spDraw)
    (D_law_right : Dn K mg "_law_right" s__law_right ["text"] f5 fd5) (G_law_right : FnOk P w K mg base CX0 74 f5 fd5 ["text"] (spRight K C))
    (D_law_made : Dn K mg "_law_made" s__law_made ["number", "word"] f6 fd6) (G_law_made : FnOk P w K mg base CX0 3 f6 fd6 ["number", "word"] spMade) :
    FnOk P w K mg base CX0 75 f fd ["script"] (spLaw K) := by
  refine D.F.ok sc_law (fun vs H Q E h => ?_) (fun cdv A outer s H vs Q E hr h => ?_)
  · obtain ⟨a, ns, rfl, _⟩ := h
    rfl
  · obtain ⟨a, ins, rfl, hS, hlen, q⟩ := h
    refine ⟨_, (pss_cons (ps_set (i := 1) sc_law.nd rfl (.inl rfl) (pe_call G_law_start (hr.mono (by decide)) (by rfl) D_law_start.g D_law_start.F.kp D_law_start.b .nil pass0 (pa_cons (pv 0) pa_nil)))
      (pss_cons (ps_set (i := 2) sc_law.nd rfl (.inl rfl) (pe_call G_law_first (hr.mono (by decide)) (by rfl) D_law_first.g D_law_first.F.kp D_law_first.b .nil pass0 (pa_cons (pv 1) pa_nil)))
      (pss_cons (ps_set (i := 3) sc_law.nd rfl (.inl rfl) (pe_call G_law_changed (hr.mono (by decide)) (by rfl) D_law_changed.g D_law_changed.F.kp D_law_changed.b .nil pass0 (pa_cons (pv 1) (pa_cons (pv 2) pa_nil))))
      (pss_cons (ps_set (i := 4) sc_law.nd rfl (.inl rfl) (pe_call G_law_draw (hr.mono (by decide)) (by rfl) D_law_draw.g D_law_draw.F.kp D_law_draw.b .nil pass0 (pa_cons (pv 1) (pa_cons pe_int pa_nil))))
      (pss_cons (ps_set (i := 5) sc_law.nd rfl (.inl rfl) (pe_op op_catS (pe_ix ix_str pe_str (pe_call G_law_draw (hr.mono (by decide)) (by rfl) D_law_draw.g D_law_draw.F.kp D_law_draw.b .nil pass0 (pa_cons (pv 1) (pa_cons pe_int pa_nil))) (fun _ _ => rfl)) (pe_ix (ix_listK (K := K) rfl) (pe_lst (pa_cons pe_str (pa_cons pe_str (pa_cons pe_str (pa_cons pe_str pa_nil))))) (pe_call G_law_draw (hr.mono (by decide)) (by rfl) D_law_draw.g D_law_draw.F.kp D_law_draw.b .nil pass0 (pa_cons (pv 1) (pa_cons pe_int pa_nil))) (fun _ _ => rfl))))
      (pss_cons (ps_for PassesOwn.never rfl (pi_listK (K := K) rfl (pe_lst (pa_cons (pv 2) (pa_cons (pv 3) (pa_cons (pv 2) (pa_cons (pv 3) pa_nil)))))) (pg_name (i := 6) sc_law.nd rfl (.inl rfl)) (pss_one (ps_if (pt_not (pt_val (pe_call G_law_right (hr.mono (by decide)) (by rfl) D_law_right.g D_law_right.F.kp D_law_right.b .nil pass0 (pa_cons (pv 6) pa_nil)))) (pss_one (ps_ret pe_bl)) pss_nil)))
      (pss_one (ps_ret (pe_call G_law_made (hr.mono (by decide)) (by rfl) D_law_made.g D_law_made.F.kp D_law_made.b .nil pass0 (pa_cons (pv 4) (pa_cons (pv 5) pa_nil))))))))))), ?_⟩
    walk_at "begin"
    walk_at "go"
    refine ⟨a, ins, rfl, hS, hlen, fun st g R o => ?_⟩
    clear hS hlen
    walk_at "go"
    refine ⟨st, g, R, H, rfl, rfl, o, fun R1 C1 t1 o1 s1 ht1 => ?_⟩
    walk_at "go"
    refine ⟨st, g, R1, C1, t1, rfl, rfl, o1, ht1, fun R2 C2 t2 o2 s2 ht2 => ?_⟩
    clear o o1 s1 s2
    walk_at "go"
    rename_i R3 z3 o3 h30 h31 R4 z4 o4 h40 h41
    obtain ⟨n, rfl⟩ : ∃ n : Nat, z3 = (n : Int) := ⟨z3.toNat, by omega⟩
    obtain ⟨k, rfl⟩ : ∃ k : Nat, z4 = (k : Int) := ⟨z4.toNat, by omega⟩
    generalize hw : Str.ofString "abcdefghijklmnopqrstuvwxyz" = W
    have hWl : W.length = 26 := by rw [← hw]; decide +kernel
    obtain ⟨c, hc⟩ : ∃ c, atI W.cps.toList (k : Int) = some c := ⟨_, atI_nat (List.getElem?_eq_getElem (by rw [Array.length_toList]; show k < W.length; rw [hWl]; omega))⟩
    refine r_ixS (by rw [hWl, sizeLine_eq]; omega) hc ?_
    walk_at "go"
    refine ⟨by walk_at "len", fun D1 n1 => ?_⟩
    obtain ⟨e5, o5, m5⟩ := newT_eq (topRg st g) o4 n1 (.lst [.str "", .str "0", .str "10", .str "99"])
    rw [e5]
    have h5 : (upd C2 D1 (.lst [.str "", .str "0", .str "10", .str "99"])) D1 = some (.lst [.str "", .str "0", .str "10", .str "99"]) := upd_same
    generalize upd C2 D1 (.lst [.str "", .str "0", .str "10", .str "99"]) = C5 at o5 h5 ⊢
    walk_at "go"
    rename_i R6 z6 o6 h60 h61
    obtain ⟨y, hy, hat⟩ : ∃ y : Str, y.length ≤ 2 ∧ atI [V.str "", .str "0", .str "10", .str "99"] z6 = some (.str y) := by
      rcases (by omega : z6 = 0 ∨ z6 = 1 ∨ z6 = 2 ∨ z6 = 3) with rfl | rfl | rfl | rfl
      · exact ⟨"", by decide +kernel, rfl⟩
      · exact ⟨"0", by decide +kernel, rfl⟩
      · exact ⟨"10", by decide +kernel, rfl⟩
      · exact ⟨"99", by decide +kernel, rfl⟩
    refine r_ixL (rg_get o6 h5) hat ?_
    have hcl : (⟨#[c]⟩ : Str).length = 1 := rfl
    refine r_catS (big (by rw [hcl]; omega)) ?_
    have hwd : ((⟨#[c]⟩ : Str) ++ y).length ≤ 1000 := by rw [Str.length_append, hcl]; omega
    generalize (⟨#[c]⟩ : Str) ++ y = wd at hwd ⊢
    generalize rg st g R6 C5 = H1
    clear hat hy h60 h61 o6 h5 o5 m5 e5 n1 hc hWl hw h40 h41 o4 o3 o2
    walk_at "go"
    refine ⟨by walk_at "len", fun D2 n2 => ?_⟩
    have hD2 : (upd H1 D2 (.lst [.str t1, .str t2, .str t1, .str t2])) D2 = some (.lst [.str t1, .str t2, .str t1, .str t2]) := upd_same
    generalize upd H1 D2 (.lst [.str t1, .str t2, .str t1, .str t2]) = H2 at hD2 ⊢
    clear n2
    walk_at "go"
    refine r_forL hD2 (fun i σ H' => ∃ (y6 : Option V), σ = [some (.ref a), some (.ref st), some (.str t1), some (.str t2), some (.int ((n : Nat) : Int)), some (.str wd), y6] ∧ Same H2 H') ?_ ?_ ?_ ?_
    · exact ⟨_, rfl, Same.refl _⟩
    · rintro i σ H' _ ⟨y6, rfl, s9⟩
      exact s9 _ _ hD2
    · rintro i x σ H9 hx ⟨y6, rfl, s9⟩
      obtain ⟨t, rfl, htl⟩ : ∃ t : Str, x = .str t ∧ t.length ≤ 5000000 := by
        have hm := List.mem_of_getElem? hx
        simp only [List.mem_cons, List.not_mem_nil, or_false] at hm
        rcases hm with rfl | rfl | rfl | rfl
        · exact ⟨t1, rfl, by omega⟩
        · exact ⟨t2, rfl, by omega⟩
        · exact ⟨t1, rfl, by omega⟩
        · exact ⟨t2, rfl, by omega⟩
      walk_at "go"
      refine ⟨fun _ => True, t, rfl, fun _ _ => trivial, htl, fun H3 s3 => ?_⟩
      walk_at "go"
      exact ⟨_, rfl, s9.trans s3⟩
    · rintro σ H9 ⟨y6, rfl, s9⟩
      walk_at "go"
      exact ⟨n, wd, rfl, by omega, hwd, fun H3 => q _⟩
end

end K06
namespace K06
open PySem PySem.Spec PyProof.Rows L2 Lw
theorem all_mk {P : Program} {w : World} {K : PySem.W.Frag} {h : Heap} {mg : Str → Option Value} {fa f1 f2 f3 f4 f5 f6 f7 f8 f9 f10 f11 f12 f13 f14 f15 f16 f17 : Addr} (X : K.In h) (G : h.Ns mainGlobals mg) (hfa : mg "law" = some (.ref fa))
    {od1 od2 od3 od4 od5 od6 od7 od8 od9 od10 od11 od12 od13 od14 od15 od16 od17 an1 an2 an3 an4 an5 an6 an7 an8 an9 an10 an11 an12 an13 an14 an15 an16 an17 : Option Addr} {sl1 sl2 sl3 sl4 sl5 sl6 sl7 sl8 sl9 sl10 sl11 sl12 sl13 sl14 sl15 sl16 sl17 : Array (Option Value)} {oc1 oc2 oc3 oc4 oc5 oc6 oc7 oc8 oc9 oc10 oc11 oc12 oc13 oc14 oc15 oc16 oc17 dc1 dc2 dc3 dc4 dc5 dc6 dc7 dc8 dc9 dc10 dc11 dc12 dc13 dc14 dc15 dc16 dc17 pm1 pm2 pm3 pm4 pm5 pm6 pm7 pm8 pm9 pm10 pm11 pm12 pm13 pm14 pm15 pm16 pm17 cd1 cd2 cd3 cd4 cd5 cd6 cd7 cd8 cd9 cd10 cd11 cd12 cd13 cd14 cd15 cd16 cd17 ct1 ct2 ct3 ct4 ct5 ct6 ct7 ct8 ct9 ct10 ct11 ct12 ct13 ct14 ct15 ct16 ct17 kV1 kV2 kV3 kV4 kV5 kV6 kV7 kV8 kV9 kV10 kV11 kV12 kV13 kV14 kV15 kV16 kV17 : Value}
    (a1 : PySem.W.nsIn K mainGlobals "_law_draw" = some (some (.ref f1))) (l1 : K.lookup f1 = some ⟨oc1, od1, .func (PySem.W.fnOf "_law_draw" "_law_draw" (defArgs s__law_draw) (defBody s__law_draw) (defScope s__law_draw) .none kV1 dc1 pm1 an1 cd1 ct1), sl1⟩) (c1 : PySem.W.codeIn K cd1 "_law_draw" = true) (k1 : PySem.W.keepIn K (.ref f1) = true)
    (a2 : PySem.W.nsIn K mainGlobals "_law_start" = some (some (.ref f2))) (l2 : K.lookup f2 = some ⟨oc2, od2, .func (PySem.W.fnOf "_law_start" "_law_start" (defArgs s__law_start) (defBody s__law_start) (defScope s__law_start) .none kV2 dc2 pm2 an2 cd2 ct2), sl2⟩) (c2 : PySem.W.codeIn K cd2 "_law_start" = true) (k2 : PySem.W.keepIn K (.ref f2) = true)
    (a3 : PySem.W.nsIn K mainGlobals "braces_deep" = some (some (.ref f3))) (l3 : K.lookup f3 = some ⟨oc3, od3, .func (PySem.W.fnOf "braces_deep" "braces_deep" (defArgs s_braces_deep) (defBody s_braces_deep) (defScope s_braces_deep) .none kV3 dc3 pm3 an3 cd3 ct3), sl3⟩) (c3 : PySem.W.codeIn K cd3 "braces_deep" = true) (k3 : PySem.W.keepIn K (.ref f3) = true)
    (a4 : PySem.W.nsIn K mainGlobals "_law_deep" = some (some (.ref f4))) (l4 : K.lookup f4 = some ⟨oc4, od4, .func (PySem.W.fnOf "_law_deep" "_law_deep" (defArgs s__law_deep) (defBody s__law_deep) (defScope s__law_deep) .none kV4 dc4 pm4 an4 cd4 ct4), sl4⟩) (c4 : PySem.W.codeIn K cd4 "_law_deep" = true) (k4 : PySem.W.keepIn K (.ref f4) = true)
    (a5 : PySem.W.nsIn K mainGlobals "characters_after" = some (some (.ref f5))) (l5 : K.lookup f5 = some ⟨oc5, od5, .func (PySem.W.fnOf "characters_after" "characters_after" (defArgs s_characters_after) (defBody s_characters_after) (defScope s_characters_after) .none kV5 dc5 pm5 an5 cd5 ct5), sl5⟩) (c5 : PySem.W.codeIn K cd5 "characters_after" = true) (k5 : PySem.W.keepIn K (.ref f5) = true)
    (a6 : PySem.W.nsIn K mainGlobals "read_nest" = some (some (.ref f6))) (l6 : K.lookup f6 = some ⟨oc6, od6, .func (PySem.W.fnOf "read_nest" "read_nest" (defArgs s_read_nest) (defBody s_read_nest) (defScope s_read_nest) .none kV6 dc6 pm6 an6 cd6 ct6), sl6⟩) (c6 : PySem.W.codeIn K cd6 "read_nest" = true) (k6 : PySem.W.keepIn K (.ref f6) = true)
    (a7 : PySem.W.nsIn K mainGlobals "_law_tree" = some (some (.ref f7))) (l7 : K.lookup f7 = some ⟨oc7, od7, .func (PySem.W.fnOf "_law_tree" "_law_tree" (defArgs s__law_tree) (defBody s__law_tree) (defScope s__law_tree) .none kV7 dc7 pm7 an7 cd7 ct7), sl7⟩) (c7 : PySem.W.codeIn K cd7 "_law_tree" = true) (k7 : PySem.W.keepIn K (.ref f7) = true)
    (a8 : PySem.W.nsIn K mainGlobals "_law_long" = some (some (.ref f8))) (l8 : K.lookup f8 = some ⟨oc8, od8, .func (PySem.W.fnOf "_law_long" "_law_long" (defArgs s__law_long) (defBody s__law_long) (defScope s__law_long) .none kV8 dc8 pm8 an8 cd8 ct8), sl8⟩) (c8 : PySem.W.codeIn K cd8 "_law_long" = true) (k8 : PySem.W.keepIn K (.ref f8) = true)
    (a9 : PySem.W.nsIn K mainGlobals "_law_first" = some (some (.ref f9))) (l9 : K.lookup f9 = some ⟨oc9, od9, .func (PySem.W.fnOf "_law_first" "_law_first" (defArgs s__law_first) (defBody s__law_first) (defScope s__law_first) .none kV9 dc9 pm9 an9 cd9 ct9), sl9⟩) (c9 : PySem.W.codeIn K cd9 "_law_first" = true) (k9 : PySem.W.keepIn K (.ref f9) = true)
    (a10 : PySem.W.nsIn K mainGlobals "_law_sign" = some (some (.ref f10))) (l10 : K.lookup f10 = some ⟨oc10, od10, .func (PySem.W.fnOf "_law_sign" "_law_sign" (defArgs s__law_sign) (defBody s__law_sign) (defScope s__law_sign) .none kV10 dc10 pm10 an10 cd10 ct10), sl10⟩) (c10 : PySem.W.codeIn K cd10 "_law_sign" = true) (k10 : PySem.W.keepIn K (.ref f10) = true)
    (a11 : PySem.W.nsIn K mainGlobals "_law_changed" = some (some (.ref f11))) (l11 : K.lookup f11 = some ⟨oc11, od11, .func (PySem.W.fnOf "_law_changed" "_law_changed" (defArgs s__law_changed) (defBody s__law_changed) (defScope s__law_changed) .none kV11 dc11 pm11 an11 cd11 ct11), sl11⟩) (c11 : PySem.W.codeIn K cd11 "_law_changed" = true) (k11 : PySem.W.keepIn K (.ref f11) = true)
    (a12 : PySem.W.nsIn K mainGlobals "_law_scan" = some (some (.ref f12))) (l12 : K.lookup f12 = some ⟨oc12, od12, .func (PySem.W.fnOf "_law_scan" "_law_scan" (defArgs s__law_scan) (defBody s__law_scan) (defScope s__law_scan) .none kV12 dc12 pm12 an12 cd12 ct12), sl12⟩) (c12 : PySem.W.codeIn K cd12 "_law_scan" = true) (k12 : PySem.W.keepIn K (.ref f12) = true)
    (a13 : PySem.W.nsIn K mainGlobals "_law_spelled" = some (some (.ref f13))) (l13 : K.lookup f13 = some ⟨oc13, od13, .func (PySem.W.fnOf "_law_spelled" "_law_spelled" (defArgs s__law_spelled) (defBody s__law_spelled) (defScope s__law_spelled) .none kV13 dc13 pm13 an13 cd13 ct13), sl13⟩) (c13 : PySem.W.codeIn K cd13 "_law_spelled" = true) (k13 : PySem.W.keepIn K (.ref f13) = true)
    (a14 : PySem.W.nsIn K mainGlobals "_law_told" = some (some (.ref f14))) (l14 : K.lookup f14 = some ⟨oc14, od14, .func (PySem.W.fnOf "_law_told" "_law_told" (defArgs s__law_told) (defBody s__law_told) (defScope s__law_told) .none kV14 dc14 pm14 an14 cd14 ct14), sl14⟩) (c14 : PySem.W.codeIn K cd14 "_law_told" = true) (k14 : PySem.W.keepIn K (.ref f14) = true)
    (a15 : PySem.W.nsIn K mainGlobals "_law_right" = some (some (.ref f15))) (l15 : K.lookup f15 = some ⟨oc15, od15, .func (PySem.W.fnOf "_law_right" "_law_right" (defArgs s__law_right) (defBody s__law_right) (defScope s__law_right) .none kV15 dc15 pm15 an15 cd15 ct15), sl15⟩) (c15 : PySem.W.codeIn K cd15 "_law_right" = true) (k15 : PySem.W.keepIn K (.ref f15) = true)
    (a16 : PySem.W.nsIn K mainGlobals "_law_made" = some (some (.ref f16))) (l16 : K.lookup f16 = some ⟨oc16, od16, .func (PySem.W.fnOf "_law_made" "_law_made" (defArgs s__law_made) (defBody s__law_made) (defScope s__law_made) .none kV16 dc16 pm16 an16 cd16 ct16), sl16⟩) (c16 : PySem.W.codeIn K cd16 "_law_made" = true) (k16 : PySem.W.keepIn K (.ref f16) = true)
    (a17 : PySem.W.nsIn K mainGlobals "law" = some (some (.ref f17))) (l17 : K.lookup f17 = some ⟨oc17, od17, .func (PySem.W.fnOf "law" "law" (defArgs s_law) (defBody s_law) (defScope s_law) .none kV17 dc17 pm17 an17 cd17 ct17), sl17⟩) (c17 : PySem.W.codeIn K cd17 "law" = true) (k17 : PySem.W.keepIn K (.ref f17) = true)
    (z0 : PySem.W.nsIn K mainGlobals "ValueError" = some none)
    (z1 : PySem.W.nsIn K mainGlobals "abs" = some none)
    (z2 : PySem.W.nsIn K mainGlobals "all" = some none)
    (z3 : PySem.W.nsIn K mainGlobals "bool" = some none)
    (z4 : PySem.W.nsIn K mainGlobals "enumerate" = some none)
    (z5 : PySem.W.nsIn K mainGlobals "int" = some none)
    (z6 : PySem.W.nsIn K mainGlobals "isinstance" = some none)
    (z7 : PySem.W.nsIn K mainGlobals "iter" = some none)
    (z8 : PySem.W.nsIn K mainGlobals "len" = some none)
    (z9 : PySem.W.nsIn K mainGlobals "list" = some none)
    (z10 : PySem.W.nsIn K mainGlobals "max" = some none)
    (z11 : PySem.W.nsIn K mainGlobals "range" = some none)
    (z12 : PySem.W.nsIn K mainGlobals "reversed" = some none)
    (z13 : PySem.W.nsIn K mainGlobals "set" = some none)
    (z14 : PySem.W.nsIn K mainGlobals "sorted" = some none)
    (z15 : PySem.W.nsIn K mainGlobals "str" = some none)
    (z16 : PySem.W.nsIn K mainGlobals "sum" = some none)
    (z17 : PySem.W.nsIn K mainGlobals "super" = some none)
    (z18 : PySem.W.nsIn K mainGlobals "tuple" = some none)
    {C : Addr} {fI : Addr} {odI anI : Option Addr} {slI : Array (Option Value)} {ocI dcI pmI cdI ctI kVI : Value} {fE : Addr} {odE anE : Option Addr} {slE : Array (Option Value)} {ocE dcE pmE cdE ctE kVE : Value} {fL : Addr} {odL anL : Option Addr} {slL : Array (Option Value)} {ocL dcL pmL cdL ctL kVL : Value} {fN : Addr} {odN anN : Option Addr} {slN : Array (Option Value)} {ocN dcN pmN cdN ctN kVN : Value} {fQ : Addr} {odQ anQ : Option Addr} {slQ : Array (Option Value)} {ocQ dcQ pmQ cdQ ctQ kVQ : Value} {fT : Addr} {odT anT : Option Addr} {slT : Array (Option Value)} {ocT dcT pmT cdT ctT kVT : Value} {fD : Addr} {odD anD : Option Addr} {slD : Array (Option Value)} {ocD dcD pmD cdD ctD kVD : Value} {q0 qT q1 q2 q3 q4 q5 q6 q7 q8 q9 qE : Addr} {tk1 tk2 : Tok} {fXXB cdaXB ccXB NXB : Addr} {nmXB qnXB fileXB : Str} {ocXB kVXB docXB pmXB ctXB cclXB clXB : Value} {odXB anXB cddXB cldXB ddXB : Option Addr} {oslXB ccsXB cslXB : Array (Option Value)} {vsXB : Array Value} {tfXB : Tok} {bsXB bmXB subXB : List Value} {snXB : List Str} {abXB : Bool} {colXB : Option Bool} {k0XB k1XB k2XB k3XB k5XB : Option Value} {fXXF cdaXF ccXF NXF : Addr} {nmXF qnXF fileXF : Str} {ocXF kVXF docXF pmXF ctXF cclXF clXF : Value} {odXF anXF cddXF cldXF ddXF : Option Addr} {oslXF ccsXF cslXF : Array (Option Value)} {vsXF : Array Value} {tfXF : Tok} {bsXF bmXF subXF : List Value} {snXF : List Str} {abXF : Bool} {colXF : Option Bool} {k0XF k1XF k2XF k3XF k5XF : Option Value} {fXXN cdaXN ccXN NXN : Addr} {nmXN qnXN fileXN : Str} {ocXN kVXN docXN pmXN ctXN cclXN clXN : Value} {odXN anXN cddXN cldXN ddXN : Option Addr} {oslXN ccsXN cslXN : Array (Option Value)} {vsXN : Array Value} {tfXN : Tok} {bsXN bmXN subXN : List Value} {snXN : List Str} {abXN : Bool} {colXN : Option Bool} {k0XN k1XN k2XN k3XN k5XN : Option Value}
    (x_gN : PySem.W.nsIn K mainGlobals "Nest" = some (some (.ref C)))
    (x_pg : PySem.W.plainGet K C Str.empty = true)
    (x_hd : PySem.W.hasDictIn K C = true)
    (x_po : PySem.W.plainOver K C = true)
    (x_sa : PySem.W.findIn K (.ref C) "__setattr__" = some (some (.builtin "object.__setattr__")))
    (x_mk : PySem.W.makesIn K C = true)
    (x_kC : PySem.W.keepIn K (.ref C) = true)
    (x_nM : PySem.W.findIn K (.ref C) "members" = some none)
    (x_nK : PySem.W.findIn K (.ref C) "key" = some none)
    (x_nD : PySem.W.findIn K (.ref C) "depth" = some none)
    (x_nB : PySem.W.findIn K (.ref C) "braces" = some none)
    (x_kt : PySem.W.kitOne K (.ref C) (.ref C) = some true)
    (x_c4 : PySem.W.findIn K (.ref C) "__class__" = some (some (.builtin "object.__class__")))
    (x_c5 : PySem.W.specialIn K (.builtin "object.__class__") "__get__" = some (some (.builtin "getset_descriptor.__get__")))
    (x_c6 : PySem.W.takesIn K (.builtin "object.__class__") = some true)
    (x_c7 : PySem.W.mroIn K C (.type "object") = some true)
    (x_ne : PySem.W.findIn K (.ref C) "__ne__" = some (some (.builtin "object.__ne__")))
    (aI : PySem.W.findIn K (.ref C) "__init__" = some (some (.ref fI)))
    (iI : PySem.W.isFn K (.ref fI) = true)
    (lI : K.lookup fI = some ⟨ocI, odI, .func (PySem.W.fnOf "__init__" "Nest.__init__" (defArgs s_Nest___init__) (defBody s_Nest___init__) (defScope s_Nest___init__) .none kVI dcI pmI anI cdI ctI), slI⟩)
    (cI : PySem.W.codeIn K cdI "Nest.__init__" = true)
    (kI : PySem.W.keepIn K (.ref fI) = true)
    (aE : PySem.W.findIn K (.ref C) "__eq__" = some (some (.ref fE)))
    (iE : PySem.W.isFn K (.ref fE) = true)
    (lE : K.lookup fE = some ⟨ocE, odE, .func (PySem.W.fnOf "__eq__" "Nest.__eq__" (defArgs s_Nest___eq__) (defBody s_Nest___eq__) (defScope s_Nest___eq__) .none kVE dcE pmE anE cdE ctE), slE⟩)
    (cE : PySem.W.codeIn K cdE "Nest.__eq__" = true)
    (kE : PySem.W.keepIn K (.ref fE) = true)
    (aL : PySem.W.findIn K (.ref C) "__lt__" = some (some (.ref fL)))
    (iL : PySem.W.isFn K (.ref fL) = true)
    (lL : K.lookup fL = some ⟨ocL, odL, .func (PySem.W.fnOf "__lt__" "Nest.__lt__" (defArgs s_Nest___lt__) (defBody s_Nest___lt__) (defScope s_Nest___lt__) .none kVL dcL pmL anL cdL ctL), slL⟩)
    (cL : PySem.W.codeIn K cdL "Nest.__lt__" = true)
    (kL : PySem.W.keepIn K (.ref fL) = true)
    (aN : PySem.W.findIn K (.ref C) "__contains__" = some (some (.ref fN)))
    (iN : PySem.W.isFn K (.ref fN) = true)
    (lN : K.lookup fN = some ⟨ocN, odN, .func (PySem.W.fnOf "__contains__" "Nest.__contains__" (defArgs s_Nest___contains__) (defBody s_Nest___contains__) (defScope s_Nest___contains__) .none kVN dcN pmN anN cdN ctN), slN⟩)
    (cN : PySem.W.codeIn K cdN "Nest.__contains__" = true)
    (kN : PySem.W.keepIn K (.ref fN) = true)
    (aQ : PySem.W.findIn K (.ref C) "__len__" = some (some (.ref fQ)))
    (iQ : PySem.W.isFn K (.ref fQ) = true)
    (lQ : K.lookup fQ = some ⟨ocQ, odQ, .func (PySem.W.fnOf "__len__" "Nest.__len__" (defArgs s_Nest___len__) (defBody s_Nest___len__) (defScope s_Nest___len__) .none kVQ dcQ pmQ anQ cdQ ctQ), slQ⟩)
    (cQ : PySem.W.codeIn K cdQ "Nest.__len__" = true)
    (kQ : PySem.W.keepIn K (.ref fQ) = true)
    (aT : PySem.W.findIn K (.ref C) "__iter__" = some (some (.ref fT)))
    (iT : PySem.W.isFn K (.ref fT) = true)
    (lT : K.lookup fT = some ⟨ocT, odT, .func (PySem.W.fnOf "__iter__" "Nest.__iter__" (defArgs s_Nest___iter__) (defBody s_Nest___iter__) (defScope s_Nest___iter__) .none kVT dcT pmT anT cdT ctT), slT⟩)
    (cT : PySem.W.codeIn K cdT "Nest.__iter__" = true)
    (kT : PySem.W.keepIn K (.ref fT) = true)
    (aD : PySem.W.nsIn K mainGlobals "distinct" = some (some (.ref fD)))
    (lD : K.lookup fD = some ⟨ocD, odD, .func (PySem.W.fnOf "distinct" "distinct" (defArgs s_distinct) (defBody s_distinct) (defScope s_distinct) .none kVD dcD pmD anD cdD ctD), slD⟩)
    (cD : PySem.W.codeIn K cdD "distinct" = true)
    (kD : PySem.W.keepIn K (.ref fD) = true)
    (xg_BadText : PySem.W.nsIn K mainGlobals "BadText" = some (some (.ref q0)))
    (xg_TooGreat : PySem.W.nsIn K mainGlobals "TooGreat" = some (some (.ref qT)))
    (xg_NotOpen : PySem.W.nsIn K mainGlobals "NotOpen" = some (some (.ref q1)))
    (xg_NotStanding : PySem.W.nsIn K mainGlobals "NotStanding" = some (some (.ref q2)))
    (xg_HasRing : PySem.W.nsIn K mainGlobals "HasRing" = some (some (.ref q3)))
    (xg_NoFact : PySem.W.nsIn K mainGlobals "NoFact" = some (some (.ref q4)))
    (xg_BookFull : PySem.W.nsIn K mainGlobals "BookFull" = some (some (.ref q5)))
    (xg_FailedCheck : PySem.W.nsIn K mainGlobals "FailedCheck" = some (some (.ref q6)))
    (xg_NoSet : PySem.W.nsIn K mainGlobals "NoSet" = some (some (.ref q7)))
    (xg_NothingToUndo : PySem.W.nsIn K mainGlobals "NothingToUndo" = some (some (.ref q8)))
    (xg_BadLine : PySem.W.nsIn K mainGlobals "BadLine" = some (some (.ref q9)))
    (xg_SetnestsError : PySem.W.nsIn K mainGlobals "SetnestsError" = some (some (.ref qE)))
    (xT_eb : PySem.W.subIn K (.ref qT) (.type "BaseException") = some true)
    (xT_ek : PySem.W.keepIn K (.ref qT) = true)
    (xT_et : PySem.W.typeIn K (.ref qT) = some (.type "type"))
    (xT_c1 : PySem.W.findIn K (.ref qT) "__getattribute__" = some (some (.builtin "BaseException.__getattribute__")))
    (xT_c2 : PySem.W.findIn K (.ref qT) "__getattr__" = some none)
    (xT_c3 : PySem.W.hasDictIn K qT = true)
    (xT_c4 : PySem.W.findIn K (.ref qT) "__class__" = some (some (.builtin "object.__class__")))
    (xT_c7 : PySem.W.mroIn K qT (.type "object") = some true)
    (xT_ex : PySem.W.excIn K qT [.type "ValueError", .type "Exception", .type "BaseException", .type "object"] "ValueError.__new__" = true)
    (xB_eb : PySem.W.subIn K (.ref q0) (.type "BaseException") = some true)
    (xB_ek : PySem.W.keepIn K (.ref q0) = true)
    (xB_et : PySem.W.typeIn K (.ref q0) = some (.type "type"))
    (xB_c1 : PySem.W.findIn K (.ref q0) "__getattribute__" = some (some (.builtin "BaseException.__getattribute__")))
    (xB_c2 : PySem.W.findIn K (.ref q0) "__getattr__" = some none)
    (xB_c3 : PySem.W.hasDictIn K q0 = true)
    (xB_c4 : PySem.W.findIn K (.ref q0) "__class__" = some (some (.builtin "object.__class__")))
    (xB_c7 : PySem.W.mroIn K q0 (.type "object") = some true)
    (yXB_cls : K.lookup q0 = some (excClassObj nmXB qnXB q0 NXB bsXB bmXB true snXB subXB abXB colXB ddXB k0XB k1XB k2XB k3XB k5XB "ValueError.__new__"))
    (yXB_ref : PySem.HandSPX.refsVE bmXB = true)
    (yXB_sa : PySem.W.findIn K (.ref q0) "__setattr__" = some (some (.builtin "object.__setattr__")))
    (yXB_in : PySem.W.findIn K (.ref q0) "__init__" = some (some (.ref fXXB)))
    (yXB_ft : PySem.W.typeIn K (.ref fXXB) = some (.type "function"))
    (yXB_l : K.lookup fXXB = some ⟨ocXB, odXB, .func (PySem.W.ksFn "__init__" "BadText.__init__" (defArgs s_BadText___init__) (defBody s_BadText___init__) (defScope s_BadText___init__) .none kVXB docXB pmXB anXB (.ref cdaXB) ctXB ccXB), oslXB⟩)
    (yXB_cd : PySem.W.codeIn K (.ref cdaXB) "BadText.__init__" = true)
    (yXB_lc : K.lookup cdaXB = some ⟨cclXB, cddXB, .fields vsXB, ccsXB⟩)
    (yXB_v2 : vsXB[2]? = some (.str fileXB tfXB))
    (yXB_fl : ((P.main.file : Str) == fileXB) = true)
    (yXB_ll : K.lookup ccXB = some ⟨clXB, cldXB, .cell (some (.ref q0)), cslXB⟩)
    (yXB_up : PySem.W.ks_superIn K q0 q0 "__init__" = some (some (.builtin "ValueError.__init__")))
    (yXB_iv : PySem.W.subIn K (.ref q0) (.type "ValueError") = some true)
    (yXB_no : PySem.W.findIn K (.ref q0) "at" = some none)
    (yXB_em : PySem.W.exmOne K (.ref q0) (.ref qE) = some true)
    (yXB_ki : PySem.W.kitOne K (.ref q0) (.ref q0) = some true)
    (xF_eb : PySem.W.subIn K (.ref q6) (.type "BaseException") = some true)
    (xF_ek : PySem.W.keepIn K (.ref q6) = true)
    (xF_et : PySem.W.typeIn K (.ref q6) = some (.type "type"))
    (xF_c1 : PySem.W.findIn K (.ref q6) "__getattribute__" = some (some (.builtin "BaseException.__getattribute__")))
    (xF_c2 : PySem.W.findIn K (.ref q6) "__getattr__" = some none)
    (xF_c3 : PySem.W.hasDictIn K q6 = true)
    (xF_c4 : PySem.W.findIn K (.ref q6) "__class__" = some (some (.builtin "object.__class__")))
    (xF_c7 : PySem.W.mroIn K q6 (.type "object") = some true)
    (yXF_cls : K.lookup q6 = some (excClassObj nmXF qnXF q6 NXF bsXF bmXF true snXF subXF abXF colXF ddXF k0XF k1XF k2XF k3XF k5XF "ValueError.__new__"))
    (yXF_ref : PySem.HandSPX.refsVE bmXF = true)
    (yXF_sa : PySem.W.findIn K (.ref q6) "__setattr__" = some (some (.builtin "object.__setattr__")))
    (yXF_in : PySem.W.findIn K (.ref q6) "__init__" = some (some (.ref fXXF)))
    (yXF_ft : PySem.W.typeIn K (.ref fXXF) = some (.type "function"))
    (yXF_l : K.lookup fXXF = some ⟨ocXF, odXF, .func (PySem.W.ksFn "__init__" "FailedCheck.__init__" (defArgs s_FailedCheck___init__) (defBody s_FailedCheck___init__) (defScope s_FailedCheck___init__) .none kVXF docXF pmXF anXF (.ref cdaXF) ctXF ccXF), oslXF⟩)
    (yXF_cd : PySem.W.codeIn K (.ref cdaXF) "FailedCheck.__init__" = true)
    (yXF_lc : K.lookup cdaXF = some ⟨cclXF, cddXF, .fields vsXF, ccsXF⟩)
    (yXF_v2 : vsXF[2]? = some (.str fileXF tfXF))
    (yXF_fl : ((P.main.file : Str) == fileXF) = true)
    (yXF_ll : K.lookup ccXF = some ⟨clXF, cldXF, .cell (some (.ref q6)), cslXF⟩)
    (yXF_up : PySem.W.ks_superIn K q6 q6 "__init__" = some (some (.builtin "ValueError.__init__")))
    (yXF_iv : PySem.W.subIn K (.ref q6) (.type "ValueError") = some true)
    (yXF_no : PySem.W.findIn K (.ref q6) "step" = some none)
    (yXF_em : PySem.W.exmOne K (.ref q6) (.ref q6) = some true)
    (yXF_ki : PySem.W.kitOne K (.ref q6) (.ref qE) = some true)
    (xN_eb : PySem.W.subIn K (.ref q7) (.type "BaseException") = some true)
    (xN_ek : PySem.W.keepIn K (.ref q7) = true)
    (xN_et : PySem.W.typeIn K (.ref q7) = some (.type "type"))
    (xN_c1 : PySem.W.findIn K (.ref q7) "__getattribute__" = some (some (.builtin "BaseException.__getattribute__")))
    (xN_c2 : PySem.W.findIn K (.ref q7) "__getattr__" = some none)
    (xN_c3 : PySem.W.hasDictIn K q7 = true)
    (xN_c4 : PySem.W.findIn K (.ref q7) "__class__" = some (some (.builtin "object.__class__")))
    (xN_c7 : PySem.W.mroIn K q7 (.type "object") = some true)
    (yXN_cls : K.lookup q7 = some (excClassObj nmXN qnXN q7 NXN bsXN bmXN true snXN subXN abXN colXN ddXN k0XN k1XN k2XN k3XN k5XN "ValueError.__new__"))
    (yXN_ref : PySem.HandSPX.refsVE bmXN = true)
    (yXN_sa : PySem.W.findIn K (.ref q7) "__setattr__" = some (some (.builtin "object.__setattr__")))
    (yXN_in : PySem.W.findIn K (.ref q7) "__init__" = some (some (.ref fXXN)))
    (yXN_ft : PySem.W.typeIn K (.ref fXXN) = some (.type "function"))
    (yXN_l : K.lookup fXXN = some ⟨ocXN, odXN, .func (PySem.W.ksFn "__init__" "NoSet.__init__" (defArgs s_NoSet___init__) (defBody s_NoSet___init__) (defScope s_NoSet___init__) .none kVXN docXN pmXN anXN (.ref cdaXN) ctXN ccXN), oslXN⟩)
    (yXN_cd : PySem.W.codeIn K (.ref cdaXN) "NoSet.__init__" = true)
    (yXN_lc : K.lookup cdaXN = some ⟨cclXN, cddXN, .fields vsXN, ccsXN⟩)
    (yXN_v2 : vsXN[2]? = some (.str fileXN tfXN))
    (yXN_fl : ((P.main.file : Str) == fileXN) = true)
    (yXN_ll : K.lookup ccXN = some ⟨clXN, cldXN, .cell (some (.ref q7)), cslXN⟩)
    (yXN_up : PySem.W.ks_superIn K q7 q7 "__init__" = some (some (.builtin "ValueError.__init__")))
    (yXN_iv : PySem.W.subIn K (.ref q7) (.type "ValueError") = some true)
    (yXN_no : PySem.W.findIn K (.ref q7) "name" = some none)
    (yXN_em : PySem.W.exmOne K (.ref q7) (.ref q7) = some true)
    (yXN_ki : PySem.W.kitOne K (.ref q7) (.type "ValueError") = some true)
    (x_op : PySem.W.nsIn K cStatics "thirdparty.any" = some none)
    (x_top : (P.main.scope.names.lookup ("super" : Str)).isSome = false)
    (zB_8 : PySem.W.kitAny K (.ref q0) [.ref qT, .ref q1, .ref q2, .ref q3, .ref q4, .ref q5, .ref q6, .ref q7] = some false)
    (zB_2 : PySem.W.kitAny K (.ref q0) [.ref q8, .ref q9] = some false)
    (zB_E : PySem.W.kitOne K (.ref q0) (.ref qE) = some true)
    (zB_V : PySem.W.kitOne K (.ref q0) (.type "ValueError") = some true)
    (zT_8 : PySem.W.kitAny K (.ref qT) [.ref q0, .ref q1, .ref q2, .ref q3, .ref q4, .ref q5, .ref q6, .ref q7] = some false)
    (zT_2 : PySem.W.kitAny K (.ref qT) [.ref q8, .ref q9] = some false)
    (zT_E : PySem.W.kitOne K (.ref qT) (.ref qE) = some true)
    (zT_V : PySem.W.kitOne K (.ref qT) (.type "ValueError") = some true)
    (zm1 : PySem.W.exmOne K (.ref q0) (.ref q0) = some true)
    (zm2 : PySem.W.exmOne K (.ref qT) (.ref q0) = some false)
    (zm3 : PySem.W.exmOne K (.ref qT) (.ref qT) = some true)
    (x_g1 : PySem.W.nsIn K mainGlobals "MOST_CHARACTERS" = some (some (.int 2000 tk1)))
    (x_g2 : PySem.W.nsIn K mainGlobals "MOST_BRACES_DEEP" = some (some (.int 60 tk2)))
    : ∃ fd : FuncData, (∀ (s : Shared) (v : Value), BindsTo s fd ⟨[v], []⟩ [("script", v)]) ∧ ∀ base : Heap, K.In base → base.Ns mainGlobals mg → FnOk P w K mg base CX0 75 fa fd ["script"] (spLaw K) := by
  have e := hfa.symm.trans (PySem.W.mg_of X G a17)
  cases e
  have B : Blt mg := ⟨PySem.W.mg_none_of X G z0, PySem.W.mg_none_of X G z1, PySem.W.mg_none_of X G z2, PySem.W.mg_none_of X G z3, PySem.W.mg_none_of X G z4, PySem.W.mg_none_of X G z5, PySem.W.mg_none_of X G z6, PySem.W.mg_none_of X G z7, PySem.W.mg_none_of X G z8, PySem.W.mg_none_of X G z9, PySem.W.mg_none_of X G z10, PySem.W.mg_none_of X G z11, PySem.W.mg_none_of X G z12, PySem.W.mg_none_of X G z13, PySem.W.mg_none_of X G z14, PySem.W.mg_none_of X G z15, PySem.W.mg_none_of X G z16, PySem.W.mg_none_of X G z17, PySem.W.mg_none_of X G z18⟩
  have Z : ZN K mg C := ⟨PySem.W.mg_of X G x_gN, ⟨x_pg, x_hd, x_po, x_sa⟩, x_nM, x_nK, x_nD, x_nB, x_kt, x_c4, x_c5, x_c6, x_c7, x_ne⟩
  have FI := fun_mk (st := s_Nest___init__) lI cI kI
  have bI := FI.binds (ps := ["self", "members"]) fun _ _ _ _ _ _ us hl => match us, hl with | [_, _], _ => rfl
  have FE := fun_mk (st := s_Nest___eq__) lE cE kE
  have bE := FE.binds (ps := ["self", "other"]) fun _ _ _ _ _ _ us hl => match us, hl with | [_, _], _ => rfl
  have FL := fun_mk (st := s_Nest___lt__) lL cL kL
  have bL := FL.binds (ps := ["self", "other"]) fun _ _ _ _ _ _ us hl => match us, hl with | [_, _], _ => rfl
  have FN := fun_mk (st := s_Nest___contains__) lN cN kN
  have bN := FN.binds (ps := ["self", "nest"]) fun _ _ _ _ _ _ us hl => match us, hl with | [_, _], _ => rfl
  have FQ := fun_mk (st := s_Nest___len__) lQ cQ kQ
  have bQ := FQ.binds (ps := ["self"]) fun _ _ _ _ _ _ us hl => match us, hl with | [_], _ => rfl
  have FT := fun_mk (st := s_Nest___iter__) lT cT kT
  have bT := FT.binds (ps := ["self"]) fun _ _ _ _ _ _ us hl => match us, hl with | [_], _ => rfl
  have FD := fun_mk (st := s_distinct) lD cD kD
  have bD := FD.binds (ps := ["nests"]) fun _ _ _ _ _ _ us hl => match us, hl with | [_], _ => rfl
  have MC : Mk K C fI := ⟨x_mk, aI, iI, x_kC⟩
  have ME : NMeth K C "__eq__" fE _ ["self", "other"] := ⟨aE, iE, bE⟩
  have ML : NMeth K C "__lt__" fL _ ["self", "other"] := ⟨aL, iL, bL⟩
  have MN : NMeth K C "__contains__" fN _ ["self", "nest"] := ⟨aN, iN, bN⟩
  have MQ : NMeth K C "__len__" fQ _ ["self"] := ⟨aQ, iQ, bQ⟩
  have MT : NMeth K C "__iter__" fT _ ["self"] := ⟨aT, iT, bT⟩
  have DD : Dn K mg "distinct" s_distinct ["nests"] fD _ := ⟨FD, bD, PySem.W.mg_of X G aD⟩
  have ETooGreat : ExN K mg "TooGreat" qT := ⟨PySem.W.mg_of X G xg_TooGreat, xT_ex, xT_ek, xT_eb, xT_et⟩
  have ZC : ZCo mg tk1 tk2 := ⟨PySem.W.mg_of X G x_g1, PySem.W.mg_of X G x_g2⟩
  have ZG : ExG mg q0 qT q1 q2 q3 q4 q5 q6 q7 q8 q9 qE := ⟨PySem.W.mg_of X G xg_BadText, PySem.W.mg_of X G xg_TooGreat, PySem.W.mg_of X G xg_NotOpen, PySem.W.mg_of X G xg_NotStanding, PySem.W.mg_of X G xg_HasRing, PySem.W.mg_of X G xg_NoFact, PySem.W.mg_of X G xg_BookFull, PySem.W.mg_of X G xg_FailedCheck, PySem.W.mg_of X G xg_NoSet, PySem.W.mg_of X G xg_NothingToUndo, PySem.W.mg_of X G xg_BadLine, PySem.W.mg_of X G xg_SetnestsError⟩
  have ZB : ExK K q0 [.ref qT, .ref q1, .ref q2, .ref q3, .ref q4, .ref q5, .ref q6, .ref q7] [.ref q8, .ref q9] qE := ⟨⟨xB_c1, xB_c2, xB_eb, xB_c3, xB_c4, x_c5, x_c6, xB_c7⟩, zB_8, zB_2, zB_E, zB_V⟩
  have ZT : ExK K qT [.ref q0, .ref q1, .ref q2, .ref q3, .ref q4, .ref q5, .ref q6, .ref q7] [.ref q8, .ref q9] qE := ⟨⟨xT_c1, xT_c2, xT_eb, xT_c3, xT_c4, x_c5, x_c6, xT_c7⟩, zT_8, zT_2, zT_E, zT_V⟩
  have ZM : ExM K q0 qT := ⟨zm1, zm2, zm3⟩
  have ZX : XfC K q0 ∧ PySem.W.findIn K (.ref q0) "at" = some none := ⟨⟨xB_c1, xB_c2, xB_eb, xB_c3⟩, yXB_no⟩
  have OXB : OexC K q0 := ⟨⟨_, _, _, _, _, _, _, _, _, _, _, _, _, _, _, yXB_cls, yXB_ref⟩, yXB_sa, xB_eb, xB_et, xB_ek⟩
  have SFB : Lsup.SupF P K q0 fXXB s_BadText___init__ "BadText.__init__" _ := ⟨⟨_, _, _, _, _, _, _, _, _, _, _, _, _, _, _, _, _, _, _, _, rfl, yXB_l, yXB_cd, yXB_lc, yXB_v2, yXB_fl, yXB_ll⟩, OXB, yXB_up, x_op, yXB_iv, x_top⟩
  have ZDB : ExD K q0 "at" (.ref qE) (.ref q0) := ⟨⟨xB_c1, xB_c2, xB_eb, xB_c3, xB_c4, x_c5, x_c6, xB_c7⟩, yXB_em, yXB_ki, ⟨xB_c1, xB_c2, xB_eb, xB_c3⟩, yXB_no⟩
  have OXF : OexC K q6 := ⟨⟨_, _, _, _, _, _, _, _, _, _, _, _, _, _, _, yXF_cls, yXF_ref⟩, yXF_sa, xF_eb, xF_et, xF_ek⟩
  have SFF : Lsup.SupF P K q6 fXXF s_FailedCheck___init__ "FailedCheck.__init__" _ := ⟨⟨_, _, _, _, _, _, _, _, _, _, _, _, _, _, _, _, _, _, _, _, rfl, yXF_l, yXF_cd, yXF_lc, yXF_v2, yXF_fl, yXF_ll⟩, OXF, yXF_up, x_op, yXF_iv, x_top⟩
  have ZDF : ExD K q6 "step" (.ref q6) (.ref qE) := ⟨⟨xF_c1, xF_c2, xF_eb, xF_c3, xF_c4, x_c5, x_c6, xF_c7⟩, yXF_em, yXF_ki, ⟨xF_c1, xF_c2, xF_eb, xF_c3⟩, yXF_no⟩
  have OXN : OexC K q7 := ⟨⟨_, _, _, _, _, _, _, _, _, _, _, _, _, _, _, yXN_cls, yXN_ref⟩, yXN_sa, xN_eb, xN_et, xN_ek⟩
  have SFN : Lsup.SupF P K q7 fXXN s_NoSet___init__ "NoSet.__init__" _ := ⟨⟨_, _, _, _, _, _, _, _, _, _, _, _, _, _, _, _, _, _, _, _, rfl, yXN_l, yXN_cd, yXN_lc, yXN_v2, yXN_fl, yXN_ll⟩, OXN, yXN_up, x_op, yXN_iv, x_top⟩
  have ZDN : ExD K q7 "name" (.ref q7) (.type "ValueError") := ⟨⟨xN_c1, xN_c2, xN_eb, xN_c3, xN_c4, x_c5, x_c6, xN_c7⟩, yXN_em, yXN_ki, ⟨xN_c1, xN_c2, xN_eb, xN_c3⟩, yXN_no⟩
  have F1 := fun_mk (st := s__law_draw) l1 c1 k1
  have D1 : Dn K mg "_law_draw" s__law_draw ["state", "many"] f1 _ := ⟨F1, F1.binds (ps := ["state", "many"]) fun _ _ _ _ _ _ us hl => match us, hl with | [_, _], _ => rfl, PySem.W.mg_of X G a1⟩
  have F2 := fun_mk (st := s__law_start) l2 c2 k2
  have D2 : Dn K mg "_law_start" s__law_start ["script"] f2 _ := ⟨F2, F2.binds (ps := ["script"]) fun _ _ _ _ _ _ us hl => match us, hl with | [_], _ => rfl, PySem.W.mg_of X G a2⟩
  have F3 := fun_mk (st := s_braces_deep) l3 c3 k3
  have D3 : Dn K mg "braces_deep" s_braces_deep ["text"] f3 _ := ⟨F3, F3.binds (ps := ["text"]) fun _ _ _ _ _ _ us hl => match us, hl with | [_], _ => rfl, PySem.W.mg_of X G a3⟩
  have F4 := fun_mk (st := s__law_deep) l4 c4 k4
  have D4 : Dn K mg "_law_deep" s__law_deep ["text"] f4 _ := ⟨F4, F4.binds (ps := ["text"]) fun _ _ _ _ _ _ us hl => match us, hl with | [_], _ => rfl, PySem.W.mg_of X G a4⟩
  have F5 := fun_mk (st := s_characters_after) l5 c5 k5
  have D5 : Dn K mg "characters_after" s_characters_after ["previous", "depth"] f5 _ := ⟨F5, F5.binds (ps := ["previous", "depth"]) fun _ _ _ _ _ _ us hl => match us, hl with | [_, _], _ => rfl, PySem.W.mg_of X G a5⟩
  have F6 := fun_mk (st := s_read_nest) l6 c6 k6
  have D6 : Dn K mg "read_nest" s_read_nest ["text"] f6 _ := ⟨F6, F6.binds (ps := ["text"]) fun _ _ _ _ _ _ us hl => match us, hl with | [_], _ => rfl, PySem.W.mg_of X G a6⟩
  have F7 := fun_mk (st := s__law_tree) l7 c7 k7
  have D7 : Dn K mg "_law_tree" s__law_tree ["state", "levels"] f7 _ := ⟨F7, F7.binds (ps := ["state", "levels"]) fun _ _ _ _ _ _ us hl => match us, hl with | [_, _], _ => rfl, PySem.W.mg_of X G a7⟩
  have F8 := fun_mk (st := s__law_long) l8 c8 k8
  have D8 : Dn K mg "_law_long" s__law_long ["size"] f8 _ := ⟨F8, F8.binds (ps := ["size"]) fun _ _ _ _ _ _ us hl => match us, hl with | [_], _ => rfl, PySem.W.mg_of X G a8⟩
  have F9 := fun_mk (st := s__law_first) l9 c9 k9
  have D9 : Dn K mg "_law_first" s__law_first ["state"] f9 _ := ⟨F9, F9.binds (ps := ["state"]) fun _ _ _ _ _ _ us hl => match us, hl with | [_], _ => rfl, PySem.W.mg_of X G a9⟩
  have F10 := fun_mk (st := s__law_sign) l10 c10 k10
  have D10 : Dn K mg "_law_sign" s__law_sign ["state"] f10 _ := ⟨F10, F10.binds (ps := ["state"]) fun _ _ _ _ _ _ us hl => match us, hl with | [_], _ => rfl, PySem.W.mg_of X G a10⟩
  have F11 := fun_mk (st := s__law_changed) l11 c11 k11
  have D11 : Dn K mg "_law_changed" s__law_changed ["state", "text"] f11 _ := ⟨F11, F11.binds (ps := ["state", "text"]) fun _ _ _ _ _ _ us hl => match us, hl with | [_, _], _ => rfl, PySem.W.mg_of X G a11⟩
  have F12 := fun_mk (st := s__law_scan) l12 c12 k12
  have D12 : Dn K mg "_law_scan" s__law_scan ["text"] f12 _ := ⟨F12, F12.binds (ps := ["text"]) fun _ _ _ _ _ _ us hl => match us, hl with | [_], _ => rfl, PySem.W.mg_of X G a12⟩
  have F13 := fun_mk (st := s__law_spelled) l13 c13 k13
  have D13 : Dn K mg "_law_spelled" s__law_spelled ["nest"] f13 _ := ⟨F13, F13.binds (ps := ["nest"]) fun _ _ _ _ _ _ us hl => match us, hl with | [_], _ => rfl, PySem.W.mg_of X G a13⟩
  have F14 := fun_mk (st := s__law_told) l14 c14 k14
  have D14 : Dn K mg "_law_told" s__law_told ["text"] f14 _ := ⟨F14, F14.binds (ps := ["text"]) fun _ _ _ _ _ _ us hl => match us, hl with | [_], _ => rfl, PySem.W.mg_of X G a14⟩
  have F15 := fun_mk (st := s__law_right) l15 c15 k15
  have D15 : Dn K mg "_law_right" s__law_right ["text"] f15 _ := ⟨F15, F15.binds (ps := ["text"]) fun _ _ _ _ _ _ us hl => match us, hl with | [_], _ => rfl, PySem.W.mg_of X G a15⟩
  have F16 := fun_mk (st := s__law_made) l16 c16 k16
  have D16 : Dn K mg "_law_made" s__law_made ["number", "word"] f16 _ := ⟨F16, F16.binds (ps := ["number", "word"]) fun _ _ _ _ _ _ us hl => match us, hl with | [_, _], _ => rfl, PySem.W.mg_of X G a16⟩
  have F17 := fun_mk (st := s_law) l17 c17 k17
  have D17 : Dn K mg "law" s_law ["script"] fa _ := ⟨F17, F17.binds (ps := ["script"]) fun _ _ _ _ _ _ us hl => match us, hl with | [_], _ => rfl, PySem.W.mg_of X G a17⟩
  refine ⟨PySem.W.fnOf "law" "law" (defArgs s_law) (defBody s_law) (defScope s_law) .none kV17 dc17 pm17 an17 cd17 ct17, fun s v => .of_eq rfl, fun base _ _ => ?_⟩
  have GE := ok_neq (P := P) (w := w) (base := base) B Z FE
  have GL := ok_nlt (P := P) (w := w) (base := base) B Z FL
  have GN := ok_nin (P := P) (w := w) (base := base) B Z FN
  have GQ := ok_nlen (P := P) (w := w) (base := base) B Z FQ
  have GT := ok_niter (P := P) (w := w) (base := base) B Z FT
  have GD := ok_ndist (P := P) (w := w) (base := base) B Z ML GL ME GE DD
  have GI := ok_ninit (P := P) (w := w) (base := base) B Z DD GD FI
  have NX0 : NX P w K mg base C := ⟨Z, ⟨_, _, ME, GE⟩, ⟨_, _, MN, GN⟩, ⟨_, _, MQ, GQ⟩, ⟨_, _, MT, GT⟩, ⟨_, _, MC, bI, GI⟩, ⟨_, _, ML, GL⟩⟩
  have SBB : ExB P w K mg base "BadText" q0 "at" "at" okI := ⟨OXB, ⟨_, _, yXB_in, yXB_ft, ok_supB (w := w) (base := base) SFB B.m_super yXB_no, Binds.all fun us hl => match us, hl with | [_, _], _ => rfl⟩, PySem.W.mg_of X G xg_BadText⟩
  have SBF : ExB P w K mg base "FailedCheck" q6 "step" "step" okI := ⟨OXF, ⟨_, _, yXF_in, yXF_ft, ok_supF (w := w) (base := base) SFF B.m_super yXF_no, Binds.all fun us hl => match us, hl with | [_, _], _ => rfl⟩, PySem.W.mg_of X G xg_FailedCheck⟩
  have SBN : ExB P w K mg base "NoSet" q7 "name" "name" okS := ⟨OXN, ⟨_, _, yXN_in, yXN_ft, ok_supN (w := w) (base := base) SFN B.m_super yXN_no, Binds.all fun us hl => match us, hl with | [_, _], _ => rfl⟩, PySem.W.mg_of X G xg_NoSet⟩
  have G2_1 := ok_start (P := P) (w := w) (base := base) (k := 0) B D2 
  have G1_1 := ok_draw (P := P) (w := w) (base := base) (k := 0) B D1 
  have G7_5 := ok_tree (P := P) (w := w) (base := base) B D7 D1 G1_1
  have G8_1 := ok_long (P := P) (w := w) (base := base) B D8 
  have G9_6 := ok_first (P := P) (w := w) (base := base) B D9 D1 G1_1 D7 G7_5 D8 G8_1
  have G10_2 := ok_sign (P := P) (w := w) (base := base) B D10 D1 G1_1
  have G11_3 := ok_changed (P := P) (w := w) (base := base) B D11 D1 G1_1 D10 G10_2
  have G3_1 := ok_deep (P := P) (w := w) (base := base) B D3 
  have G5_1 := ok_after (P := P) (w := w) (base := base) B D5 
  have G6_9 := ok_read (P := P) (w := w) (base := base) B NX0 ETooGreat SBB ZC D6 D3 G3_1 D5 G5_1
  have G14_10 := ok_told (P := P) (w := w) (base := base) B ZG ZB ZT ZM ZX D14 D6 G6_9
  have G4_1 := ok_ldeep (P := P) (w := w) (base := base) B D4 
  have G12_1 := ok_scan (P := P) (w := w) (base := base) B D12 
  have G13_73 := ok_spelled (P := P) (w := w) (base := base) B NX0 D13 
  have G15_74 := ok_right (P := P) (w := w) (base := base) B NX0 D15 D14 G14_10 D4 G4_1 D12 G12_1 D13 G13_73
  have G16_3 := ok_made (P := P) (w := w) (base := base) B ZG SBB SBF SBN ZDB ZDF ZDN D16 
  have G17_75 := ok_law (P := P) (w := w) (base := base) B D17 D2 G2_1 D9 G9_6 D11 G11_3 D1 G1_1 D15 G15_74 D16 G16_3
  exact G17_75
end K06
open PySem PySem.W PyProof.Rows
set_option maxHeartbeats 0 in
theorem PySem.Challenge.cw_setnests_k06_bad_texts_of_nests_holds : PySem.Challenge.rw_setnests_k06_bad_texts_of_nests.Holds := by
  w_on; o_law; k_head; (case hw => w_witness2)
  k_fill
  refine L2.walk_of (l := PySem.Challenge.rw_setnests_k06_bad_texts_of_nests) (n := 63) (k := 75) (x := "script") (CX := fun _ => L2.CX0) (sp := fun w => K06.spLaw _) rfl (by decide) rfl ⟨rfl, by decide, by decide⟩ (fun w h Y => PySem.W.kIn_of Y) ?F (fun _ _ a ns hl _ hS => ⟨a, ns, rfl, hS, hl, fun _ => rfl⟩) (fun _ _ _ _ _ h => h)
  case F =>
    intro w mg fa h KX G hmg
    refine' K06.all_mk KX G hmg ?a1 ?l1 ?c1 ?k1 ?a2 ?l2 ?c2 ?k2 ?a3 ?l3 ?c3 ?k3 ?a4 ?l4 ?c4 ?k4 ?a5 ?l5 ?c5 ?k5 ?a6 ?l6 ?c6 ?k6 ?a7 ?l7 ?c7 ?k7 ?a8 ?l8 ?c8 ?k8 ?a9 ?l9 ?c9 ?k9 ?a10 ?l10 ?c10 ?k10 ?a11 ?l11 ?c11 ?k11 ?a12 ?l12 ?c12 ?k12 ?a13 ?l13 ?c13 ?k13 ?a14 ?l14 ?c14 ?k14 ?a15 ?l15 ?c15 ?k15 ?a16 ?l16 ?c16 ?k16 ?a17 ?l17 ?c17 ?k17 ?z0 ?z1 ?z2 ?z3 ?z4 ?z5 ?z6 ?z7 ?z8 ?z9 ?z10 ?z11 ?z12 ?z13 ?z14 ?z15 ?z16 ?z17 ?z18 ?x_gN ?x_pg ?x_hd ?x_po ?x_sa ?x_mk ?x_kC ?x_nM ?x_nK ?x_nD ?x_nB ?x_kt ?x_c4 ?x_c5 ?x_c6 ?x_c7 ?x_ne ?aI ?iI ?lI ?cI ?kI ?aE ?iE ?lE ?cE ?kE ?aL ?iL ?lL ?cL ?kL ?aN ?iN ?lN ?cN ?kN ?aQ ?iQ ?lQ ?cQ ?kQ ?aT ?iT ?lT ?cT ?kT ?aD ?lD ?cD ?kD ?xg_BadText ?xg_TooGreat ?xg_NotOpen ?xg_NotStanding ?xg_HasRing ?xg_NoFact ?xg_BookFull ?xg_FailedCheck ?xg_NoSet ?xg_NothingToUndo ?xg_BadLine ?xg_SetnestsError ?xT_eb ?xT_ek ?xT_et ?xT_c1 ?xT_c2 ?xT_c3 ?xT_c4 ?xT_c7 ?xT_ex ?xB_eb ?xB_ek ?xB_et ?xB_c1 ?xB_c2 ?xB_c3 ?xB_c4 ?xB_c7 ?yXB_cls ?yXB_ref ?yXB_sa ?yXB_in ?yXB_ft ?yXB_l ?yXB_cd ?yXB_lc ?yXB_v2 ?yXB_fl ?yXB_ll ?yXB_up ?yXB_iv ?yXB_no ?yXB_em ?yXB_ki ?xF_eb ?xF_ek ?xF_et ?xF_c1 ?xF_c2 ?xF_c3 ?xF_c4 ?xF_c7 ?yXF_cls ?yXF_ref ?yXF_sa ?yXF_in ?yXF_ft ?yXF_l ?yXF_cd ?yXF_lc ?yXF_v2 ?yXF_fl ?yXF_ll ?yXF_up ?yXF_iv ?yXF_no ?yXF_em ?yXF_ki ?xN_eb ?xN_ek ?xN_et ?xN_c1 ?xN_c2 ?xN_c3 ?xN_c4 ?xN_c7 ?yXN_cls ?yXN_ref ?yXN_sa ?yXN_in ?yXN_ft ?yXN_l ?yXN_cd ?yXN_lc ?yXN_v2 ?yXN_fl ?yXN_ll ?yXN_up ?yXN_iv ?yXN_no ?yXN_em ?yXN_ki ?x_op ?x_top ?zB_8 ?zB_2 ?zB_E ?zB_V ?zT_8 ?zT_2 ?zT_E ?zT_V ?zm1 ?zm2 ?zm3 ?x_g1 ?x_g2
    (case a1 => k_is); (case l1 => k_is); (case c1 => k_is); (case k1 => k_is); (case a2 => k_is); (case l2 => k_is); (case c2 => k_is); (case k2 => k_is); (case a3 => k_is); (case l3 => k_is); (case c3 => k_is); (case k3 => k_is); (case a4 => k_is); (case l4 => k_is); (case c4 => k_is); (case k4 => k_is); (case a5 => k_is); (case l5 => k_is); (case c5 => k_is); (case k5 => k_is); (case a6 => k_is); (case l6 => k_is); (case c6 => k_is); (case k6 => k_is); (case a7 => k_is); (case l7 => k_is); (case c7 => k_is); (case k7 => k_is); (case a8 => k_is); (case l8 => k_is); (case c8 => k_is); (case k8 => k_is); (case a9 => k_is); (case l9 => k_is); (case c9 => k_is); (case k9 => k_is); (case a10 => k_is); (case l10 => k_is); (case c10 => k_is); (case k10 => k_is); (case a11 => k_is); (case l11 => k_is); (case c11 => k_is); (case k11 => k_is); (case a12 => k_is); (case l12 => k_is); (case c12 => k_is); (case k12 => k_is); (case a13 => k_is); (case l13 => k_is); (case c13 => k_is); (case k13 => k_is); (case a14 => k_is); (case l14 => k_is); (case c14 => k_is); (case k14 => k_is); (case a15 => k_is); (case l15 => k_is); (case c15 => k_is); (case k15 => k_is); (case a16 => k_is); (case l16 => k_is); (case c16 => k_is); (case k16 => k_is); (case a17 => k_is); (case l17 => k_is); (case c17 => k_is); (case k17 => k_is); (case z0 => k_is); (case z1 => k_is); (case z2 => k_is); (case z3 => k_is); (case z4 => k_is); (case z5 => k_is); (case z6 => k_is); (case z7 => k_is); (case z8 => k_is); (case z9 => k_is); (case z10 => k_is); (case z11 => k_is); (case z12 => k_is); (case z13 => k_is); (case z14 => k_is); (case z15 => k_is); (case z16 => k_is); (case z17 => k_is); (case z18 => k_is); (case x_gN => first | k_is | k_exc | kit_is | kts_exm | ks_is | rfl | kernel_rfl | decide +kernel); (case x_pg => first | k_is | k_exc | kit_is | kts_exm | ks_is | rfl | kernel_rfl | decide +kernel); (case x_hd => first | k_is | k_exc | kit_is | kts_exm | ks_is | rfl | kernel_rfl | decide +kernel); (case x_po => first | k_is | k_exc | kit_is | kts_exm | ks_is | rfl | kernel_rfl | decide +kernel); (case x_sa => first | k_is | k_exc | kit_is | kts_exm | ks_is | rfl | kernel_rfl | decide +kernel); (case x_mk => first | k_is | k_exc | kit_is | kts_exm | ks_is | rfl | kernel_rfl | decide +kernel); (case x_kC => first | k_is | k_exc | kit_is | kts_exm | ks_is | rfl | kernel_rfl | decide +kernel); (case x_nM => first | k_is | k_exc | kit_is | kts_exm | ks_is | rfl | kernel_rfl | decide +kernel); (case x_nK => first | k_is | k_exc | kit_is | kts_exm | ks_is | rfl | kernel_rfl | decide +kernel); (case x_nD => first | k_is | k_exc | kit_is | kts_exm | ks_is | rfl | kernel_rfl | decide +kernel); (case x_nB => first | k_is | k_exc | kit_is | kts_exm | ks_is | rfl | kernel_rfl | decide +kernel); (case x_kt => first | k_is | k_exc | kit_is | kts_exm | ks_is | rfl | kernel_rfl | decide +kernel); (case x_c4 => first | k_is | k_exc | kit_is | kts_exm | ks_is | rfl | kernel_rfl | decide +kernel); (case x_c5 => first | k_is | k_exc | kit_is | kts_exm | ks_is | rfl | kernel_rfl | decide +kernel); (case x_c6 => first | k_is | k_exc | kit_is | kts_exm | ks_is | rfl | kernel_rfl | decide +kernel); (case x_c7 => first | k_is | k_exc | kit_is | kts_exm | ks_is | rfl | kernel_rfl | decide +kernel); (case x_ne => first | k_is | k_exc | kit_is | kts_exm | ks_is | rfl | kernel_rfl | decide +kernel); (case aI => first | k_is | k_exc | kit_is | kts_exm | ks_is | rfl | kernel_rfl | decide +kernel); (case iI => first | k_is | k_exc | kit_is | kts_exm | ks_is | rfl | kernel_rfl | decide +kernel); (case lI => first | k_is | k_exc | kit_is | kts_exm | ks_is | rfl | kernel_rfl | decide +kernel); (case cI => first | k_is | k_exc | kit_is | kts_exm | ks_is | rfl | kernel_rfl | decide +kernel); (case kI => first | k_is | k_exc | kit_is | kts_exm | ks_is | rfl | kernel_rfl | decide +kernel); (case aE => first | k_is | k_exc | kit_is | kts_exm | ks_is | rfl | kernel_rfl | decide +kernel); (case iE => first | k_is | k_exc | kit_is | kts_exm | ks_is | rfl | kernel_rfl | decide +kernel); (case lE => first | k_is | k_exc | kit_is | kts_exm | ks_is | rfl | kernel_rfl | decide +kernel); (case cE => first | k_is | k_exc | kit_is | kts_exm | ks_is | rfl | kernel_rfl | decide +kernel); (case kE => first | k_is | k_exc | kit_is | kts_exm | ks_is | rfl | kernel_rfl | decide +kernel); (case aL => first | k_is | k_exc | kit_is | kts_exm | ks_is | rfl | kernel_rfl | decide +kernel); (case iL => first | k_is | k_exc | kit_is | kts_exm | ks_is | rfl | kernel_rfl | decide +kernel); (case lL => first | k_is | k_exc | kit_is | kts_exm | ks_is | rfl | kernel_rfl | decide +kernel); (case cL => first | k_is | k_exc | kit_is | kts_exm | ks_is | rfl | kernel_rfl | decide +kernel); (case kL => first | k_is | k_exc | kit_is | kts_exm | ks_is | rfl | kernel_rfl | decide +kernel); (case aN => first | k_is | k_exc | kit_is | kts_exm | ks_is | rfl | kernel_rfl | decide +kernel); (case iN => first | k_is | k_exc | kit_is | kts_exm | ks_is | rfl | kernel_rfl | decide +kernel); (case lN => first | k_is | k_exc | kit_is | kts_exm | ks_is | rfl | kernel_rfl | decide +kernel); (case cN => first | k_is | k_exc | kit_is | kts_exm | ks_is | rfl | kernel_rfl | decide +kernel); (case kN => first | k_is | k_exc | kit_is | kts_exm | ks_is | rfl | kernel_rfl | decide +kernel); (case aQ => first | k_is | k_exc | kit_is | kts_exm | ks_is | rfl | kernel_rfl | decide +kernel); (case iQ => first | k_is | k_exc | kit_is | kts_exm | ks_is | rfl | kernel_rfl | decide +kernel); (case lQ => first | k_is | k_exc | kit_is | kts_exm | ks_is | rfl | kernel_rfl | decide +kernel); (case cQ => first | k_is | k_exc | kit_is | kts_exm | ks_is | rfl | kernel_rfl | decide +kernel); (case kQ => first | k_is | k_exc | kit_is | kts_exm | ks_is | rfl | kernel_rfl | decide +kernel); (case aT => first | k_is | k_exc | kit_is | kts_exm | ks_is | rfl | kernel_rfl | decide +kernel); (case iT => first | k_is | k_exc | kit_is | kts_exm | ks_is | rfl | kernel_rfl | decide +kernel); (case lT => first | k_is | k_exc | kit_is | kts_exm | ks_is | rfl | kernel_rfl | decide +kernel); (case cT => first | k_is | k_exc | kit_is | kts_exm | ks_is | rfl | kernel_rfl | decide +kernel); (case kT => first | k_is | k_exc | kit_is | kts_exm | ks_is | rfl | kernel_rfl | decide +kernel); (case aD => first | k_is | k_exc | kit_is | kts_exm | ks_is | rfl | kernel_rfl | decide +kernel); (case lD => first | k_is | k_exc | kit_is | kts_exm | ks_is | rfl | kernel_rfl | decide +kernel); (case cD => first | k_is | k_exc | kit_is | kts_exm | ks_is | rfl | kernel_rfl | decide +kernel); (case kD => first | k_is | k_exc | kit_is | kts_exm | ks_is | rfl | kernel_rfl | decide +kernel); (case xg_BadText => first | k_is | k_exc | kit_is | kts_exm | ks_is | rfl | kernel_rfl | decide +kernel); (case xg_TooGreat => first | k_is | k_exc | kit_is | kts_exm | ks_is | rfl | kernel_rfl | decide +kernel); (case xg_NotOpen => first | k_is | k_exc | kit_is | kts_exm | ks_is | rfl | kernel_rfl | decide +kernel); (case xg_NotStanding => first | k_is | k_exc | kit_is | kts_exm | ks_is | rfl | kernel_rfl | decide +kernel); (case xg_HasRing => first | k_is | k_exc | kit_is | kts_exm | ks_is | rfl | kernel_rfl | decide +kernel); (case xg_NoFact => first | k_is | k_exc | kit_is | kts_exm | ks_is | rfl | kernel_rfl | decide +kernel); (case xg_BookFull => first | k_is | k_exc | kit_is | kts_exm | ks_is | rfl | kernel_rfl | decide +kernel); (case xg_FailedCheck => first | k_is | k_exc | kit_is | kts_exm | ks_is | rfl | kernel_rfl | decide +kernel); (case xg_NoSet => first | k_is | k_exc | kit_is | kts_exm | ks_is | rfl | kernel_rfl | decide +kernel); (case xg_NothingToUndo => first | k_is | k_exc | kit_is | kts_exm | ks_is | rfl | kernel_rfl | decide +kernel); (case xg_BadLine => first | k_is | k_exc | kit_is | kts_exm | ks_is | rfl | kernel_rfl | decide +kernel); (case xg_SetnestsError => first | k_is | k_exc | kit_is | kts_exm | ks_is | rfl | kernel_rfl | decide +kernel); (case xT_eb => first | k_is | k_exc | kit_is | kts_exm | ks_is | rfl | kernel_rfl | decide +kernel); (case xT_ek => first | k_is | k_exc | kit_is | kts_exm | ks_is | rfl | kernel_rfl | decide +kernel); (case xT_et => first | k_is | k_exc | kit_is | kts_exm | ks_is | rfl | kernel_rfl | decide +kernel); (case xT_c1 => first | k_is | k_exc | kit_is | kts_exm | ks_is | rfl | kernel_rfl | decide +kernel); (case xT_c2 => first | k_is | k_exc | kit_is | kts_exm | ks_is | rfl | kernel_rfl | decide +kernel); (case xT_c3 => first | k_is | k_exc | kit_is | kts_exm | ks_is | rfl | kernel_rfl | decide +kernel); (case xT_c4 => first | k_is | k_exc | kit_is | kts_exm | ks_is | rfl | kernel_rfl | decide +kernel); (case xT_c7 => first | k_is | k_exc | kit_is | kts_exm | ks_is | rfl | kernel_rfl | decide +kernel); (case xT_ex => first | k_is | k_exc | kit_is | kts_exm | ks_is | rfl | kernel_rfl | decide +kernel); (case xB_eb => first | k_is | k_exc | kit_is | kts_exm | ks_is | rfl | kernel_rfl | decide +kernel); (case xB_ek => first | k_is | k_exc | kit_is | kts_exm | ks_is | rfl | kernel_rfl | decide +kernel); (case xB_et => first | k_is | k_exc | kit_is | kts_exm | ks_is | rfl | kernel_rfl | decide +kernel); (case xB_c1 => first | k_is | k_exc | kit_is | kts_exm | ks_is | rfl | kernel_rfl | decide +kernel); (case xB_c2 => first | k_is | k_exc | kit_is | kts_exm | ks_is | rfl | kernel_rfl | decide +kernel); (case xB_c3 => first | k_is | k_exc | kit_is | kts_exm | ks_is | rfl | kernel_rfl | decide +kernel); (case xB_c4 => first | k_is | k_exc | kit_is | kts_exm | ks_is | rfl | kernel_rfl | decide +kernel); (case xB_c7 => first | k_is | k_exc | kit_is | kts_exm | ks_is | rfl | kernel_rfl | decide +kernel); (case yXB_cls => first | k_is | k_exc | kit_is | kts_exm | ks_is | rfl | kernel_rfl | decide +kernel); (case yXB_ref => first | k_is | k_exc | kit_is | kts_exm | ks_is | rfl | kernel_rfl | decide +kernel); (case yXB_sa => first | k_is | k_exc | kit_is | kts_exm | ks_is | rfl | kernel_rfl | decide +kernel); (case yXB_in => first | k_is | k_exc | kit_is | kts_exm | ks_is | rfl | kernel_rfl | decide +kernel); (case yXB_ft => first | k_is | k_exc | kit_is | kts_exm | ks_is | rfl | kernel_rfl | decide +kernel); (case yXB_l => first | k_is | k_exc | kit_is | kts_exm | ks_is | rfl | kernel_rfl | decide +kernel); (case yXB_cd => first | k_is | k_exc | kit_is | kts_exm | ks_is | rfl | kernel_rfl | decide +kernel); (case yXB_lc => first | k_is | k_exc | kit_is | kts_exm | ks_is | rfl | kernel_rfl | decide +kernel); (case yXB_v2 => first | k_is | k_exc | kit_is | kts_exm | ks_is | rfl | kernel_rfl | decide +kernel); (case yXB_fl => first | k_is | k_exc | kit_is | kts_exm | ks_is | rfl | kernel_rfl | decide +kernel); (case yXB_ll => first | k_is | k_exc | kit_is | kts_exm | ks_is | rfl | kernel_rfl | decide +kernel); (case yXB_up => first | k_is | k_exc | kit_is | kts_exm | ks_is | rfl | kernel_rfl | decide +kernel); (case yXB_iv => first | k_is | k_exc | kit_is | kts_exm | ks_is | rfl | kernel_rfl | decide +kernel); (case yXB_no => first | k_is | k_exc | kit_is | kts_exm | ks_is | rfl | kernel_rfl | decide +kernel); (case yXB_em => first | k_is | k_exc | kit_is | kts_exm | ks_is | rfl | kernel_rfl | decide +kernel); (case yXB_ki => first | k_is | k_exc | kit_is | kts_exm | ks_is | rfl | kernel_rfl | decide +kernel); (case xF_eb => first | k_is | k_exc | kit_is | kts_exm | ks_is | rfl | kernel_rfl | decide +kernel); (case xF_ek => first | k_is | k_exc | kit_is | kts_exm | ks_is | rfl | kernel_rfl | decide +kernel); (case xF_et => first | k_is | k_exc | kit_is | kts_exm | ks_is | rfl | kernel_rfl | decide +kernel); (case xF_c1 => first | k_is | k_exc | kit_is | kts_exm | ks_is | rfl | kernel_rfl | decide +kernel); (case xF_c2 => first | k_is | k_exc | kit_is | kts_exm | ks_is | rfl | kernel_rfl | decide +kernel); (case xF_c3 => first | k_is | k_exc | kit_is | kts_exm | ks_is | rfl | kernel_rfl | decide +kernel); (case xF_c4 => first | k_is | k_exc | kit_is | kts_exm | ks_is | rfl | kernel_rfl | decide +kernel); (case xF_c7 => first | k_is | k_exc | kit_is | kts_exm | ks_is | rfl | kernel_rfl | decide +kernel); (case yXF_cls => first | k_is | k_exc | kit_is | kts_exm | ks_is | rfl | kernel_rfl | decide +kernel); (case yXF_ref => first | k_is | k_exc | kit_is | kts_exm | ks_is | rfl | kernel_rfl | decide +kernel); (case yXF_sa => first | k_is | k_exc | kit_is | kts_exm | ks_is | rfl | kernel_rfl | decide +kernel); (case yXF_in => first | k_is | k_exc | kit_is | kts_exm | ks_is | rfl | kernel_rfl | decide +kernel); (case yXF_ft => first | k_is | k_exc | kit_is | kts_exm | ks_is | rfl | kernel_rfl | decide +kernel); (case yXF_l => first | k_is | k_exc | kit_is | kts_exm | ks_is | rfl | kernel_rfl | decide +kernel); (case yXF_cd => first | k_is | k_exc | kit_is | kts_exm | ks_is | rfl | kernel_rfl | decide +kernel); (case yXF_lc => first | k_is | k_exc | kit_is | kts_exm | ks_is | rfl | kernel_rfl | decide +kernel); (case yXF_v2 => first | k_is | k_exc | kit_is | kts_exm | ks_is | rfl | kernel_rfl | decide +kernel); (case yXF_fl => first | k_is | k_exc | kit_is | kts_exm | ks_is | rfl | kernel_rfl | decide +kernel); (case yXF_ll => first | k_is | k_exc | kit_is | kts_exm | ks_is | rfl | kernel_rfl | decide +kernel); (case yXF_up => first | k_is | k_exc | kit_is | kts_exm | ks_is | rfl | kernel_rfl | decide +kernel); (case yXF_iv => first | k_is | k_exc | kit_is | kts_exm | ks_is | rfl | kernel_rfl | decide +kernel); (case yXF_no => first | k_is | k_exc | kit_is | kts_exm | ks_is | rfl | kernel_rfl | decide +kernel); (case yXF_em => first | k_is | k_exc | kit_is | kts_exm | ks_is | rfl | kernel_rfl | decide +kernel); (case yXF_ki => first | k_is | k_exc | kit_is | kts_exm | ks_is | rfl | kernel_rfl | decide +kernel); (case xN_eb => first | k_is | k_exc | kit_is | kts_exm | ks_is | rfl | kernel_rfl | decide +kernel); (case xN_ek => first | k_is | k_exc | kit_is | kts_exm | ks_is | rfl | kernel_rfl | decide +kernel); (case xN_et => first | k_is | k_exc | kit_is | kts_exm | ks_is | rfl | kernel_rfl | decide +kernel); (case xN_c1 => first | k_is | k_exc | kit_is | kts_exm | ks_is | rfl | kernel_rfl | decide +kernel); (case xN_c2 => first | k_is | k_exc | kit_is | kts_exm | ks_is | rfl | kernel_rfl | decide +kernel); (case xN_c3 => first | k_is | k_exc | kit_is | kts_exm | ks_is | rfl | kernel_rfl | decide +kernel); (case xN_c4 => first | k_is | k_exc | kit_is | kts_exm | ks_is | rfl | kernel_rfl | decide +kernel); (case xN_c7 => first | k_is | k_exc | kit_is | kts_exm | ks_is | rfl | kernel_rfl | decide +kernel); (case yXN_cls => first | k_is | k_exc | kit_is | kts_exm | ks_is | rfl | kernel_rfl | decide +kernel); (case yXN_ref => first | k_is | k_exc | kit_is | kts_exm | ks_is | rfl | kernel_rfl | decide +kernel); (case yXN_sa => first | k_is | k_exc | kit_is | kts_exm | ks_is | rfl | kernel_rfl | decide +kernel); (case yXN_in => first | k_is | k_exc | kit_is | kts_exm | ks_is | rfl | kernel_rfl | decide +kernel); (case yXN_ft => first | k_is | k_exc | kit_is | kts_exm | ks_is | rfl | kernel_rfl | decide +kernel); (case yXN_l => first | k_is | k_exc | kit_is | kts_exm | ks_is | rfl | kernel_rfl | decide +kernel); (case yXN_cd => first | k_is | k_exc | kit_is | kts_exm | ks_is | rfl | kernel_rfl | decide +kernel); (case yXN_lc => first | k_is | k_exc | kit_is | kts_exm | ks_is | rfl | kernel_rfl | decide +kernel); (case yXN_v2 => first | k_is | k_exc | kit_is | kts_exm | ks_is | rfl | kernel_rfl | decide +kernel); (case yXN_fl => first | k_is | k_exc | kit_is | kts_exm | ks_is | rfl | kernel_rfl | decide +kernel); (case yXN_ll => first | k_is | k_exc | kit_is | kts_exm | ks_is | rfl | kernel_rfl | decide +kernel); (case yXN_up => first | k_is | k_exc | kit_is | kts_exm | ks_is | rfl | kernel_rfl | decide +kernel); (case yXN_iv => first | k_is | k_exc | kit_is | kts_exm | ks_is | rfl | kernel_rfl | decide +kernel); (case yXN_no => first | k_is | k_exc | kit_is | kts_exm | ks_is | rfl | kernel_rfl | decide +kernel); (case yXN_em => first | k_is | k_exc | kit_is | kts_exm | ks_is | rfl | kernel_rfl | decide +kernel); (case yXN_ki => first | k_is | k_exc | kit_is | kts_exm | ks_is | rfl | kernel_rfl | decide +kernel); (case x_op => first | k_is | k_exc | kit_is | kts_exm | ks_is | rfl | kernel_rfl | decide +kernel); (case x_top => first | k_is | k_exc | kit_is | kts_exm | ks_is | rfl | kernel_rfl | decide +kernel); (case zB_8 => first | k_is | k_exc | kit_is | kts_exm | ks_is | rfl | kernel_rfl | decide +kernel); (case zB_2 => first | k_is | k_exc | kit_is | kts_exm | ks_is | rfl | kernel_rfl | decide +kernel); (case zB_E => first | k_is | k_exc | kit_is | kts_exm | ks_is | rfl | kernel_rfl | decide +kernel); (case zB_V => first | k_is | k_exc | kit_is | kts_exm | ks_is | rfl | kernel_rfl | decide +kernel); (case zT_8 => first | k_is | k_exc | kit_is | kts_exm | ks_is | rfl | kernel_rfl | decide +kernel); (case zT_2 => first | k_is | k_exc | kit_is | kts_exm | ks_is | rfl | kernel_rfl | decide +kernel); (case zT_E => first | k_is | k_exc | kit_is | kts_exm | ks_is | rfl | kernel_rfl | decide +kernel); (case zT_V => first | k_is | k_exc | kit_is | kts_exm | ks_is | rfl | kernel_rfl | decide +kernel); (case zm1 => first | k_is | k_exc | kit_is | kts_exm | ks_is | rfl | kernel_rfl | decide +kernel); (case zm2 => first | k_is | k_exc | kit_is | kts_exm | ks_is | rfl | kernel_rfl | decide +kernel); (case zm3 => first | k_is | k_exc | kit_is | kts_exm | ks_is | rfl | kernel_rfl | decide +kernel); (case x_g1 => first | k_is | k_exc | kit_is | kts_exm | ks_is | rfl | kernel_rfl | decide +kernel); (case x_g2 => first | k_is | k_exc | kit_is | kts_exm | ks_is | rfl | kernel_rfl | decide +kernel)
