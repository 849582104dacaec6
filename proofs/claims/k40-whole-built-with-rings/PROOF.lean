import PyProof.Rows.All
import Wide.All
import OpenK.AllK
import Wide.FinOn
import HandS.ForMost
import HandS.Style
import HandS.IsInst
import HandS.SortInts
import HandS.More
import HandS.Codes
import HandS.Strs
import HandS.SetFor
import HandS.Deep
import HandS.Defaults
import HandS.Dict
import HandS.TupLen
import HandS.ForExc
import HandS.ExcIs
import HandS.CallSlots
import HandS.Ends
import PyProof.Rows.ReprShort
import HandS.Zip
import KE.RegKIsAll
import KE.RegKTryMore
import PySem.Challenge.RW_setnests_k40_whole_built_with_rings
set_option Elab.async false
set_option linter.all false
set_option maxRecDepth 100000
set_option maxHeartbeats 4000000
/-! my own base: layered heaps, readings as lemmas, a stepping tactic -/
namespace Lw
open PySem PySem.Spec PyProof.Rows L2

/-! ### heaps in layers -/
theorem upd_old {H : Hp} {p a : Addr} {x o : HO} (hp : H p = none) (h : H a = some o) : upd H p x a = some o := by
  rw [upd_ne (ne_of_none h hp)]; exact h
theorem Same.get {H H' : Hp} {a : Addr} {o : HO} (s : Same H H') (h : H a = some o) : H' a = some o := s a o h
theorem same_new {H : Hp} {p : Addr} {o : HO} (h : H p = none) : Same H (upd H p o) := fun b x e => upd_old h e
/-- the draws' state: two lists above the rest -/
structure RS where
  ns : List Int
  i : Int
  m : Int
  c : Int
structure RS.Ok (R : RS) : Prop where
  i0 : 0 ≤ R.i
  i1 : R.i ≤ R.ns.length
  pos : ∀ n ∈ R.ns, 0 ≤ n
  len : R.ns.length ≤ 63
def rg (st g : Addr) (R : RS) (B : Hp) : Hp := upd (upd B g (.lst (R.ns.map V.int))) st (.lst [.ref g, .int R.i, .int R.m, .int R.c])
structure Ok (st g : Addr) (R : RS) (B : Hp) : Prop where
  ne : st ≠ g
  ok : R.Ok
  bst : B st = none
  bg : B g = none
theorem Ok.low {st g : Addr} {R : RS} {B : Hp} (o : Ok st g R B) : (upd B g (.lst (R.ns.map V.int))) st = none := by
  rw [upd_ne o.ne]; exact o.bst
theorem rg_get {st g a : Addr} {R : RS} {B : Hp} {o : HO} (k : Ok st g R B) (h : B a = some o) : rg st g R B a = some o :=
  upd_old k.low (upd_old k.bg h)
theorem rg_st {st g : Addr} {R : RS} {B : Hp} : rg st g R B st = some (.lst [.ref g, .int R.i, .int R.m, .int R.c]) := upd_same
theorem rg_g {st g : Addr} {R : RS} {B : Hp} (k : Ok st g R B) : rg st g R B g = some (.lst (R.ns.map V.int)) := by
  unfold rg; rw [upd_ne k.ne.symm, upd_same]
theorem upd_comm {H : Hp} {a b : Addr} {x y : HO} (h : a ≠ b) : upd (upd H a x) b y = upd (upd H b y) a x := by
  funext c
  by_cases h1 : c = b
  · subst h1; rw [upd_same, upd_ne h.symm, upd_same]
  · rw [upd_ne h1]
    by_cases h2 : c = a
    · subst h2; rw [upd_same, upd_same]
    · rw [upd_ne h2, upd_ne h2, upd_ne h1]
theorem upd_none {H : Hp} {a b : Addr} {x : HO} (h : upd H a x b = none) : b ≠ a ∧ H b = none := by
  by_cases e : b = a
  · subst e; rw [upd_same] at h; cases h
  · rw [upd_ne e] at h; exact ⟨e, h⟩
theorem rg_none {st g b : Addr} {R : RS} {B : Hp} (h : rg st g R B b = none) : b ≠ st ∧ b ≠ g ∧ B b = none := by
  obtain ⟨h1, h2⟩ := upd_none h
  obtain ⟨h3, h4⟩ := upd_none h2
  exact ⟨h1, h3, h4⟩
theorem rg_upd {st g b : Addr} {R : RS} {B : Hp} {o : HO} (h1 : b ≠ st) (h2 : b ≠ g) : upd (rg st g R B) b o = rg st g R (upd B b o) := by
  unfold rg; rw [upd_comm h1.symm, upd_comm h2.symm]
theorem Ok.upd {st g b : Addr} {R : RS} {B : Hp} {o : HO} (k : Ok st g R B) (h1 : b ≠ st) (h2 : b ≠ g) : Ok st g R (upd B b o) :=
  ⟨k.ne, k.ok, by rw [upd_ne h1.symm]; exact k.bst, by rw [upd_ne h2.symm]; exact k.bg⟩
/-- a new object below the draws' state -/
theorem rg_new {st g : Addr} {R : RS} {B : Hp} {o : HO} {Q : Addr → Hp → Prop} (k : Ok st g R B)
    (h : ∀ p, B p = none → p ≠ st → p ≠ g → Ok st g R (upd B p o) → Q p (rg st g R (upd B p o))) : ∀ p, rg st g R B p = none → Q p (upd (rg st g R B) p o) := fun p hp => by
  obtain ⟨h1, h2, h3⟩ := rg_none hp
  rw [rg_upd h1 h2]
  exact h p h3 h1 h2 (k.upd h1 h2)
/-- an object written below the draws' state -/
theorem rg_write {st g b : Addr} {R : RS} {B : Hp} {o o' : HO} (k : Ok st g R B) (h : B b = some o') : upd (rg st g R B) b o = rg st g R (upd B b o) ∧ Ok st g R (upd B b o) := by
  have h1 := ne_of_none h k.bst
  have h2 := ne_of_none h k.bg
  exact ⟨rg_upd h1 h2, k.upd h1 h2⟩
/-- behind a call that keeps all that was -/
theorem rg_same {st g : Addr} {R : RS} {B H : Hp} (k : Ok st g R B) (s : Same (rg st g R B) H) : ∃ B', H = rg st g R B' ∧ Ok st g R B' ∧ Same B B' := by
  refine ⟨fun b => if b = st ∨ b = g then none else H b, ?_, ⟨k.ne, k.ok, if_pos (.inl rfl), if_pos (.inr rfl)⟩, fun b o e => ?_⟩
  · funext b
    by_cases h1 : b = st
    · subst h1; rw [rg_st]; exact s _ _ rg_st
    · by_cases h2 : b = g
      · subst h2
        rw [show rg st b R (fun c => if c = st ∨ c = b then none else H c) b = some (.lst (R.ns.map V.int)) by unfold rg; rw [upd_ne h1, upd_same]]
        exact s _ _ (rg_g k)
      · unfold rg
        rw [upd_ne h1, upd_ne h2, if_neg (by intro z; rcases z with z | z; exact h1 z; exact h2 z)]
  · have h1 := ne_of_none e k.bst
    have h2 := ne_of_none e k.bg
    show (if b = st ∨ b = g then none else H b) = some o
    rw [if_neg (by intro z; rcases z with z | z; exact h1 z; exact h2 z)]
    exact s _ _ (rg_get k e)
/-- a list that is under way lies above the rest -/
theorem lay_new {C : Hp} {D : Addr} {x o : HO} {Q : Addr → Hp → Prop} (k : C D = none)
    (h : ∀ p, C p = none → p ≠ D → (upd C p o) D = none → Q p (upd (upd C p o) D x)) : ∀ p, upd C D x p = none → Q p (upd (upd C D x) p o) := fun p hp => by
  obtain ⟨h1, h2⟩ := upd_none hp
  rw [upd_comm h1.symm]
  exact h p h2 h1 (by rw [upd_ne h1.symm]; exact k)
theorem lay_same {C H : Hp} {D : Addr} {x : HO} (k : C D = none) (s : Same (upd C D x) H) : ∃ C', H = upd C' D x ∧ C' D = none ∧ Same C C' := by
  refine ⟨fun b => if b = D then none else H b, ?_, if_pos rfl, fun b o e => ?_⟩
  · funext b
    by_cases h1 : b = D
    · subst h1; rw [upd_same]; exact s _ _ upd_same
    · rw [upd_ne h1, if_neg h1]
  · have h1 := ne_of_none e k
    show (if b = D then none else H b) = some o
    rw [if_neg h1]
    exact s _ _ (upd_old k e)

/-! ### readings as lemmas -/
section
variable {K : PySem.W.Frag} {σ : L2.St} {H : Hp} {Q : VK} {D : Ends}
theorem r_seq {t u : TS} (h : t { D with nx := u D } σ H) : tSeq t u D σ H := h
theorem r_ifs {c : TT} {t u : TS} (h : c σ H fun b H1 => if b = true then t D σ H1 else u D σ H1) : tIfS c t u D σ H := h
theorem r_next (h : D.nx σ H) : tNext D σ H := h
theorem r_asg {te : TE} {g : TG} (h : te σ H fun x H1 => g x σ H1 D.nx) : tAsg te g D σ H := h
theorem r_ret {te : TE} (h : te σ H D.rt) : tRet te D σ H := h
theorem r_drop {te : TE} (h : te σ H fun _ H1 => D.nx σ H1) : tDrop te D σ H := h
theorem r_for {wi : TI} {g : TG} {tb : TS} (h : wi σ H fun J H1 => ∃ W : Nat → Nat → L2.St → Hp → Prop, (∃ m, W 0 m σ H1) ∧ ∀ i m σ H, W i m σ H →
  (J.stop i H ∧ D.nx σ H) ∨ (J.go i H ∧ ∃ N : L2.St → Hp → Prop, (∀ σ' H', N σ' H' → ∃ m', m' < m ∧ W (i + 1) m' σ' H') ∧ ∀ x H', J.yld i H x H' → g x σ H' fun σ2 H2 => tb { D with nx := N, ct := N, bk := D.nx } σ2 H2)) : tFor wi g tb D σ H := h
theorem r_name {i : Nat} {v : V} {q : L2.St → Hp → Prop} (h : q (σ.set i (some v)) H) : gName i v σ H q := h
theorem r_sub {to ti : TE} {t : TSet} {v : V} {q : L2.St → Hp → Prop} (h : to σ H fun o H1 => ti σ H1 fun i H2 => t o i v H2 fun H3 => q σ H3) : gSub to ti t v σ H q := h
theorem r_tup {n : Nat} {t : TGs} {a : Addr} {xs : List V} {q : L2.St → Hp → Prop} (h : SqT K H a xs) (e : xs.length = n) (h2 : t xs σ H q) : gTup K n t (.ref a) σ H q := ⟨a, xs, rfl, h, e, h2⟩
theorem r_gcons {t : TG} {u : TGs} {v : V} {r : List V} {q : L2.St → Hp → Prop} (h : t v σ H fun σ' H' => u r σ' H' q) : gCons t u (v :: r) σ H q := ⟨v, r, rfl, h⟩
theorem r_gnil {q : L2.St → Hp → Prop} (h : q σ H) : gNil [] σ H q := ⟨rfl, h⟩
theorem r_aug {i : Nat} {te : TE} {ti : TIp} {x : V} (e : σ[i]? = some (some x)) (h : te σ H fun y H1 => ti x y H1 fun z H2 => D.nx (σ.set i (some z)) H2) : tAug i te ti D σ H := ⟨x, e, h⟩
theorem r_augS {to ti te : TE} {tget : V → V → Hp → VK → Prop} {tip : TIp} {tset : TSet} (h : to σ H fun o H1 => ti σ H1 fun i H2 => tget o i H2 fun x H3 => te σ H3 fun y H4 => tip x y H4 fun z H5 => tset o i z H5 fun H6 => D.nx σ H6) : tAugS to ti te tget tip tset D σ H := h
theorem r_ipI {f : Int → Int → Int} {i j : Int} (h : Q (.int (f i j)) H) : ipI f (.int i) (.int j) H Q := ⟨i, j, rfl, rfl, h⟩
theorem r_test {t : TE} {q : Bool → Hp → Prop} (h : t σ H fun x H' => ∃ k, x = .bl k ∧ q k H') : tTest t σ H q := h
theorem r_tB {t : TE} {q : Bool → Hp → Prop} (h : t σ H fun x H' => ∃ k, x = .bl k ∧ q k H') : tB t σ H q := h
theorem r_bl {b : Bool} {q : Bool → Prop} (h : q b) : ∃ k, V.bl b = .bl k ∧ q k := ⟨b, rfl, h⟩
theorem r_not {t : TT} {q : Bool → Hp → Prop} (h : t σ H fun c H1 => q (!c) H1) : tNot t σ H q := h
theorem r_and {t u : TT} {q : Bool → Hp → Prop} (h : t σ H fun c H1 => if c = true then u σ H1 q else q false H1) : tAnd t u σ H q := h
theorem r_or {t u : TT} {q : Bool → Hp → Prop} (h : t σ H fun c H1 => if c = true then q true H1 else u σ H1 q) : tOr t u σ H q := h
theorem r_andV {ta tb : TE} (h : ta σ H fun x H1 => ∃ c, x = .bl c ∧ if c = true then tb σ H1 Q else Q (.bl false) H1) : tAndV ta tb σ H Q := h
theorem r_orV {ta tb : TE} (h : ta σ H fun x H1 => ∃ c, x = .bl c ∧ if c = true then Q (.bl true) H1 else tb σ H1 Q) : tOrV ta tb σ H Q := h
theorem r_notV {ta : TE} (h : ta σ H fun x H1 => ∃ c, x = .bl c ∧ Q (.bl (!c)) H1) : tNotV ta σ H Q := h
theorem r_if {t : TT} {ta tb : TE} (h : t σ H fun c H1 => if c = true then ta σ H1 Q else tb σ H1 Q) : tIf t ta tb σ H Q := h
theorem r_var {i : Nat} {v : V} (e : σ[i]? = some (some v)) (h : Q v H) : tVar i σ H Q := ⟨v, e, h⟩
theorem r_c {v : V} (h : Q v H) : tC v σ H Q := h
theorem r_op {r : R2} {ta tb : TE} (h : ta σ H fun x H1 => tb σ H1 fun y H2 => r x y H2 Q) : tOp r ta tb σ H Q := h
theorem r_un {r : V → Hp → VK → Prop} {ta : TE} (h : ta σ H fun x H1 => r x H1 Q) : tUn r ta σ H Q := h
theorem r_i0 {g : Int → Int → V} {i j : Int} (h : Q (g i j) H) : rI0 g (.int i) (.int j) H Q := ⟨i, j, rfl, rfl, h⟩
theorem r_i {C : Int → Int → Prop} {g : Int → Int → V} {i j : Int} (c : C i j) (h : Q (g i j) H) : rI C g (.int i) (.int j) H Q := ⟨i, j, rfl, rfl, c, h⟩
theorem r_u {g : Int → V} {i : Int} (h : Q (g i) H) : rU g (.int i) H Q := ⟨i, rfl, h⟩
theorem r_eq {x y : V} (e : scal x y = true) (h : Q (.bl (decide (x = y))) H) : rEq x y H Q := ⟨e, h⟩
theorem r_ne {x y : V} (e : scal x y = true) (h : Q (.bl (!decide (x = y))) H) : rNe x y H Q := ⟨e, h⟩
theorem r_chain {r r' : R2} {ta tb tc : TE} (h : ta σ H fun x H1 => tb σ H1 fun y H2 => r x y H2 fun z H3 => ∃ k, z = .bl k ∧ (if k = true then tc σ H3 fun w' H4 => r' y w' H4 Q else Q (.bl false) H3)) : tChain r r' ta tb tc σ H Q := h
theorem r_nil {q : List V → Hp → Prop} (h : q [] H) : tNil σ H q := h
theorem r_cons {ta : TE} {tr : TA} {q : List V → Hp → Prop} (h : ta σ H fun x H1 => tr σ H1 fun xs H2 => q (x :: xs) H2) : tCons ta tr σ H q := h
theorem r_cb {r : List V → Hp → VK → Prop} {t : TA} (h : t σ H fun vs H1 => r vs H1 Q) : tCB r t σ H Q := h
theorem r_call {sp : Sp} {E : XK} {t : TA} (h : t σ H fun vs H1 => sp (vs ++ []) H1 Q E) : tCall sp [] E t σ H Q := h
theorem r_lst {t : TA} (h : t σ H fun xs H1 => xs.length ≤ sizeLine ∧ ∀ p, H1 p = none → Q (.ref p) (upd H1 p (.lst xs))) : tLst t σ H Q := h
theorem r_tupE {t : TA} (h : t σ H fun xs H1 => xs.length ≤ sizeLine ∧ ∀ p, H1 p = none → Q (.ref p) (upd H1 p (.tup xs))) : tTup t σ H Q := h
theorem r_ixL {p : Addr} {xs : List V} {i : Int} {v : V} (h : H p = some (.lst xs)) (a : atI xs i = some v) (q : Q v H) : rIxL K (.ref p) (.int i) H Q := ⟨p, xs, i, v, rfl, rfl, SqL.of h, a, q⟩
theorem r_ixT {p : Addr} {xs : List V} {i : Int} {v : V} (h : H p = some (.tup xs)) (a : atI xs i = some v) (q : Q v H) : rIxT K (.ref p) (.int i) H Q := ⟨p, xs, i, v, rfl, rfl, SqT.of h, a, q⟩
theorem r_setL {p : Addr} {xs : List V} {k : Int} {j : Nat} {v : V} {q : Hp → Prop} (h : H p = some (.lst xs)) (a : ixN xs.length k = some j) (hq : q (upd H p (.lst (xs.set j v)))) : rSetL (.ref p) (.int k) v H q := ⟨p, xs, k, j, rfl, rfl, h, a, hq⟩
theorem r_len {a : Addr} {xs : List V} {F : List V → Prop} (h : H a = some (.lst xs)) (q : F xs) : ∃ p ys, [V.ref a] = [V.ref p] ∧ (SqL K H p ys ∨ SqT K H p ys) ∧ F ys := ⟨a, xs, rfl, .inl (SqL.of h), q⟩
theorem r_bm {T : String} {r : V → List V → Hp → VK → Prop} {to : TE} {t : TA} (h : to σ H fun x H1 => tyV K T x H1 ∧ t σ H1 fun xs H2 => r x xs H2 Q) : tBM K T r to t σ H Q := h
theorem r_bm0 {T : String} {r : V → List V → Hp → VK → Prop} {to : TE} (h : to σ H fun x H1 => tyV K T x H1 ∧ r x [] H1 Q) : tBM0 K T r to σ H Q := h
theorem r_ty {p : Addr} {xs : List V} (h : H p = some (.lst xs)) : tyV K "list" (.ref p) H := .inl ⟨rfl, _, SqL.of h⟩
theorem r_append {l : Addr} {xs : List V} {y : V} (h : H l = some (.lst xs)) (z : xs.length < sizeLine) (q : Q .non (upd H l (.lst (xs ++ [y])))) : rAppend (.ref l) [y] H Q := ⟨l, xs, y, rfl, rfl, h, z, q⟩
theorem r_pop {l : Addr} {xs : List V} {y : V} (h : H l = some (.lst xs)) (z : xs[xs.length - 1]? = some y) (q : Q y (upd H l (.lst xs.dropLast))) : rPop (.ref l) [] H Q := ⟨l, xs, y, rfl, rfl, h, z, q⟩
theorem r_iList {tl : TE} {R : It → Hp → Prop} (h : tl σ H fun x H1 => ∃ a, x = .ref a ∧ (∃ xs, SqL K H1 a xs) ∧ R (Itl K a) H1) : iList K tl σ H R := h
theorem r_isL {a : Addr} {xs : List V} {q : Addr → Prop} (h : H a = some (.lst xs)) (hq : q a) : ∃ b, V.ref a = .ref b ∧ (∃ xs, SqL K H b xs) ∧ q b := ⟨a, rfl, ⟨xs, SqL.of h⟩, hq⟩
theorem r_rng1 {ta : TA} {R : It → Hp → Prop} (h : ta σ H fun vs H1 => ∃ j : Int, vs = [.int j] ∧ -(2 ^ 62) ≤ j ∧ j < 2 ^ 62 ∧ R (Itr 0 j.toNat) H1) : iRng1 ta σ H R := h
theorem r_isR {j : Int} {R : It → Hp → Prop} (h1 : -(2 ^ 62) ≤ j) (h2 : j < 2 ^ 62) (hq : R (Itr 0 j.toNat) H) : ∃ k : Int, [V.int j] = [.int k] ∧ -(2 ^ 62) ≤ k ∧ k < 2 ^ 62 ∧ R (Itr 0 k.toNat) H := ⟨j, rfl, h1, h2, hq⟩
theorem r_enum {ta : TA} {R : It → Hp → Prop} (h : ta σ H fun vs H1 => ∃ a xs, vs = [.ref a] ∧ SqL K H1 a xs ∧ R (Ite K a) H1) : iEnum K ta σ H R := h
theorem r_isE {a : Addr} {xs : List V} {q : Addr → Prop} (h : H a = some (.lst xs)) (hq : q a) : ∃ b ys, [V.ref a] = [.ref b] ∧ SqL K H b ys ∧ q b := ⟨a, xs, rfl, SqL.of h, hq⟩
theorem r_abs {j : Int} {F : Int → Prop} (q : F j) : ∃ i, [V.int j] = [V.int i] ∧ F i := ⟨j, rfl, q⟩
theorem r_int {j : Int} {F : Int → Prop} {G : Prop} (q : F j) : (∃ i, [V.int j] = [V.int i] ∧ F i) ∨ G := .inl ⟨j, rfl, q⟩
theorem r_ite {p : Prop} [Decidable p] {A B : Prop} (h1 : p → A) (h2 : ¬p → B) : if decide p = true then A else B := by
  by_cases h : p
  · rw [if_pos (decide_eq_true h)]; exact h1 h
  · rw [if_neg (by rw [decide_eq_false h]; exact Bool.false_ne_true)]; exact h2 h
theorem r_iten {p : Prop} [Decidable p] {A B : Prop} (h1 : ¬p → A) (h2 : p → B) : if (!decide p) = true then A else B := by
  by_cases h : p
  · rw [if_neg (by rw [decide_eq_true h]; exact Bool.false_ne_true)]; exact h2 h
  · rw [if_pos (by rw [decide_eq_false h]; rfl)]; exact h1 h
theorem int_eq {i j : Int} : (V.int i = V.int j) ↔ i = j := ⟨fun h => V.int.inj h, fun h => by rw [h]⟩
theorem small {n : Nat} (h : n ≤ 100000) : n < sizeLine := Nat.lt_of_le_of_lt h (by decide)
end
end Lw
namespace Lw
open PySem PySem.Spec PyProof.Rows L2
theorem rg_set_st {st g : Addr} {R : RS} {B : Hp} {i m c : Int} : upd (rg st g R B) st (.lst [.ref g, .int i, .int m, .int c]) = rg st g ⟨R.ns, i, m, c⟩ B := by
  unfold rg; rw [upd_upd]
theorem rg_set_g {st g : Addr} {R : RS} {B : Hp} {ns : List Int} (k : Ok st g R B) : upd (rg st g R B) g (.lst (ns.map V.int)) = rg st g ⟨ns, R.i, R.m, R.c⟩ B := by
  unfold rg; rw [upd_comm k.ne, upd_upd]
theorem Ok.re {st g : Addr} {R R' : RS} {B : Hp} (k : Ok st g R B) (h : R'.Ok) : Ok st g R' B := ⟨k.ne, h, k.bst, k.bg⟩
theorem Ok.base {st g : Addr} {R : RS} {B C : Hp} (k : Ok st g R B) (h1 : C st = none) (h2 : C g = none) : Ok st g R C := ⟨k.ne, k.ok, h1, h2⟩
theorem at_i {xs : List V} {z : Int} {v : V} (h0 : 0 ≤ z) (h : xs[z.toNat]? = some v) : atI xs z = some v := at_of (j := z.toNat) (by omega) h
theorem ix_i {n : Nat} {z : Int} (h0 : 0 ≤ z) (h : z < n) : ixN n z = some z.toNat := by unfold ixN; rw [if_pos h0, if_pos h]
theorem setMap (l : List Int) (j : Nat) (x : Int) : (l.map V.int).set j (.int x) = (l.set j x).map V.int := by rw [List.map_set]
/-- a draw -/
def spDraw : Sp := fun vs H Q _ => ∃ (st g : Addr) (R : RS) (B : Hp) (many : Int), vs = [.ref st, .int many] ∧ H = rg st g R B ∧ Ok st g R B ∧ 1 ≤ many ∧ many < 1073741824 ∧
  ∀ R' n, RS.Ok R' → 0 ≤ n → n < many → Q (.int n) (rg st g R' B)
def spStart (K : PySem.W.Frag) : Sp := fun vs H Q _ => ∃ (a : Addr) (ns : List Int), vs = [.ref a] ∧ SqL K H a (ns.map V.int) ∧ ns.length ≤ 63 ∧
  ∀ st g R, Ok st g R H → Q (.ref st) (rg st g R H)
theorem r_draw {st g : Addr} {R : RS} {B : Hp} {many : Int} {Q : VK} {E : XK} (k : Ok st g R B) (h1 : 1 ≤ many) (h2 : many < 1073741824) (q : ∀ R' n, Ok st g R' B → 0 ≤ n → n < many → Q (.int n) (rg st g R' B)) :
    spDraw ([.ref st, .int many] ++ []) (rg st g R B) Q E := ⟨st, g, R, B, many, rfl, rfl, k, h1, h2, fun R' n h => q R' n (k.re h)⟩
end Lw
namespace Lw
open PySem PySem.Spec PyProof.Rows L2
theorem cmul_mod {x y m : Int} (h : 0 < m) (h2 : m ≤ 4294967296) : CMul (x.fmod m) y := by
  have a := Int.fmod_nonneg_of_pos x h
  have b := Int.fmod_lt_of_pos x h
  exact .inl ⟨by omega, by omega⟩
end Lw
namespace Lw
open PySem PySem.Spec PyProof.Rows L2
theorem cdivN {i j : Int} (h : 0 < j) (h2 : j < 1073741824) : CDivN i j := ⟨by omega, by omega⟩
end Lw
namespace Lw
open PySem PySem.Spec PyProof.Rows L2
theorem cmulL {i j : Int} (h : -18446744073709551616 < i) (h2 : i < 18446744073709551616) : CMul i j := .inl ⟨h, h2⟩
theorem cmulR {i j : Int} (h : -18446744073709551616 < j) (h2 : j < 18446744073709551616) : CMul i j := .inr ⟨h, h2⟩
theorem cpow {i j : Int} (h : 0 ≤ j) (h2 : j ≤ 1000000) (h3 : -18446744073709551616 < i) (h4 : i < 18446744073709551616) : CPow i j := ⟨h, h2, by
  show i.natAbs < 18446744073709551616
  omega⟩
end Lw
namespace Lw
open PySem PySem.Spec PyProof.Rows L2
section
variable {K : PySem.W.Frag} {σ : L2.St} {H : Hp} {D : Ends} {g : TG} {tb : TS}
/-- for x in a list -/
theorem r_forS {a : Addr} {xs : List V} (hx : SqL K H a xs) (Pv : Nat → L2.St → Hp → Prop) (h0 : Pv 0 σ H) (hl : ∀ i σ H, i ≤ xs.length → Pv i σ H → SqL K H a xs)
    (hs : ∀ i x σ H, xs[i]? = some x → Pv i σ H → g x σ H fun σ2 H2 => tb { D with nx := Pv (i + 1), ct := Pv (i + 1), bk := D.nx } σ2 H2) (hd : ∀ σ H, Pv xs.length σ H → D.nx σ H) :
    ∃ b, V.ref a = .ref b ∧ (∃ xs, SqL K H b xs) ∧ ∃ W : Nat → Nat → L2.St → Hp → Prop, (∃ m, W 0 m σ H) ∧ ∀ i m σ H, W i m σ H →
      ((Itl K b).stop i H ∧ D.nx σ H) ∨ ((Itl K b).go i H ∧ ∃ N : L2.St → Hp → Prop, (∀ σ' H', N σ' H' → ∃ m', m' < m ∧ W (i + 1) m' σ' H') ∧ ∀ x H', (Itl K b).yld i H x H' → g x σ H' fun σ2 H2 => tb { D with nx := N, ct := N, bk := D.nx } σ2 H2) :=
  ⟨a, rfl, ⟨xs, hx⟩, for_list Pv h0 hl hs hd⟩
theorem r_forL {a : Addr} {xs : List V} (hx : H a = some (.lst xs)) (Pv : Nat → L2.St → Hp → Prop) (h0 : Pv 0 σ H) (hl : ∀ i σ H, i ≤ xs.length → Pv i σ H → H a = some (.lst xs))
    (hs : ∀ i x σ H, xs[i]? = some x → Pv i σ H → g x σ H fun σ2 H2 => tb { D with nx := Pv (i + 1), ct := Pv (i + 1), bk := D.nx } σ2 H2) (hd : ∀ σ H, Pv xs.length σ H → D.nx σ H) :
    ∃ b, V.ref a = .ref b ∧ (∃ xs, SqL K H b xs) ∧ ∃ W : Nat → Nat → L2.St → Hp → Prop, (∃ m, W 0 m σ H) ∧ ∀ i m σ H, W i m σ H →
      ((Itl K b).stop i H ∧ D.nx σ H) ∨ ((Itl K b).go i H ∧ ∃ N : L2.St → Hp → Prop, (∀ σ' H', N σ' H' → ∃ m', m' < m ∧ W (i + 1) m' σ' H') ∧ ∀ x H', (Itl K b).yld i H x H' → g x σ H' fun σ2 H2 => tb { D with nx := N, ct := N, bk := D.nx } σ2 H2) :=
  r_forS (SqL.of hx) Pv h0 (fun i σ H h1 h2 => SqL.of (hl i σ H h1 h2)) hs hd
/-- for k in range(n) -/
theorem r_forR {n : Int} (h1 : -4611686018427387904 ≤ n) (h2 : n < 4611686018427387904) (Pv : Nat → L2.St → Hp → Prop) (h0 : Pv 0 σ H)
    (hs : ∀ i σ H, i < n.toNat → Pv i σ H → g (.int i) σ H fun σ2 H2 => tb { D with nx := Pv (i + 1), ct := Pv (i + 1), bk := D.nx } σ2 H2) (hd : ∀ σ H, Pv n.toNat σ H → D.nx σ H) :
    ∃ j : Int, [V.int n] = [.int j] ∧ -(2 ^ 62) ≤ j ∧ j < 2 ^ 62 ∧ ∃ W : Nat → Nat → L2.St → Hp → Prop, (∃ m, W 0 m σ H) ∧ ∀ i m σ H, W i m σ H →
      ((Itr 0 j.toNat).stop i H ∧ D.nx σ H) ∨ ((Itr 0 j.toNat).go i H ∧ ∃ N : L2.St → Hp → Prop, (∀ σ' H', N σ' H' → ∃ m', m' < m ∧ W (i + 1) m' σ' H') ∧ ∀ x H', (Itr 0 j.toNat).yld i H x H' → g x σ H' fun σ2 H2 => tb { D with nx := N, ct := N, bk := D.nx } σ2 H2) :=
  ⟨n, rfl, h1, h2, for_range Pv h0 (fun i σ H hi hp => by rw [Int.zero_add]; exact hs i σ H hi hp) hd⟩
end
theorem size_nil : ([] : List V).length ≤ sizeLine := Nat.zero_le _
theorem size_le {xs : List V} {n : Nat} (e : xs.length = n) (h : n ≤ 1000) : xs.length ≤ sizeLine := by rw [e]; exact Nat.le_of_lt (small (by omega))
end Lw
namespace Lw
open PySem PySem.Spec PyProof.Rows L2
/-! ### what lies above the growing heap -/
structure TopOk {S : Type} (F : S → Hp → Hp) (ok : S → Hp → Prop) : Prop where
  new : ∀ s C p, ok s C → F s C p = none → C p = none ∧ ∀ o, upd (F s C) p o = F s (upd C p o) ∧ ok s (upd C p o)
  write : ∀ s C b o o', ok s C → C b = some o' → upd (F s C) b o = F s (upd C b o) ∧ ok s (upd C b o)
  get : ∀ s C a o, ok s C → C a = some o → F s C a = some o
theorem topRg (st g : Addr) : TopOk (rg st g) (Ok st g) where
  new := fun R C p k h => by
    obtain ⟨h1, h2, h3⟩ := rg_none h
    exact ⟨h3, fun o => ⟨rg_upd h1 h2, k.upd h1 h2⟩⟩
  write := fun R C b o o' k h => rg_write k h
  get := fun R C a o k h => rg_get k h
theorem topH : TopOk (fun (_ : Unit) (C : Hp) => C) (fun _ _ => True) where
  new := fun _ C p _ h => ⟨h, fun o => ⟨rfl, trivial⟩⟩
  write := fun _ C b o o' _ h => ⟨rfl, trivial⟩
  get := fun _ C a o _ h => h
section
variable {S : Type} {F : S → Hp → Hp} {ok : S → Hp → Prop} (T : TopOk F ok)
include T
theorem newT {s : S} {C : Hp} {o : HO} {Q : Addr → Hp → Prop} (k : ok s C) (h : ∀ p, C p = none → ok s (upd C p o) → Q p (F s (upd C p o))) : ∀ p, F s C p = none → Q p (upd (F s C) p o) := fun p hp => by
  obtain ⟨h1, h2⟩ := T.new s C p k hp
  rw [(h2 o).1]
  exact h p h1 (h2 o).2
/-- a new object below a list that is under way -/
theorem newTD {s : S} {C : Hp} {D : Addr} {x o : HO} {Q : Addr → Hp → Prop} (k : ok s (upd C D x)) (hD : C D = none)
    (h : ∀ p, C p = none → p ≠ D → ok s (upd (upd C p o) D x) → (upd C p o) D = none → Q p (F s (upd (upd C p o) D x))) : ∀ p, F s (upd C D x) p = none → Q p (upd (F s (upd C D x)) p o) := fun p hp => by
  obtain ⟨h1, h2⟩ := T.new s (upd C D x) p k hp
  obtain ⟨h3, h4⟩ := upd_none h1
  have e := h2 o
  rw [upd_comm h3.symm] at e
  rw [e.1]
  exact h p h4 h3 e.2 (by rw [upd_ne h3.symm]; exact hD)
/-- what a turn of a comprehension is to reach -/
def LcN (F : S → Hp → Hp) (ok : S → Hp → Prop) (B : Hp) (D : Addr) (Pv : Hp → List V → Prop) : Hp → Prop := fun H' => ∃ s C acc, H' = F s (upd C D (.lst acc)) ∧ ok s (upd C D (.lst acc)) ∧ C D = none ∧ Same B C ∧ Pv C acc
omit T in
theorem lcN_skip {s : S} {B C : Hp} {D : Addr} {acc : List V} {Pv : Hp → List V → Prop} (k : ok s (upd C D (.lst acc))) (hD : C D = none) (hS : Same B C) (h : Pv C acc) : LcN F ok B D Pv (F s (upd C D (.lst acc))) := ⟨s, C, acc, rfl, k, hD, hS, h⟩
theorem lcN_put {s : S} {B C : Hp} {D : Addr} {acc : List V} {y : V} {Pv : Hp → List V → Prop} (k : ok s (upd C D (.lst acc))) (hD : C D = none) (hS : Same B C) (hz : acc.length ≤ 100000) (h : Pv C (acc ++ [y])) :
    ∃ acc', (F s (upd C D (.lst acc))) D = some (.lst acc') ∧ acc'.length < sizeLine ∧ LcN F ok B D Pv (upd (F s (upd C D (.lst acc))) D (.lst (acc' ++ [y]))) := by
  obtain ⟨e1, e2⟩ := T.write s _ D (.lst (acc ++ [y])) (.lst acc) k upd_same
  rw [upd_upd] at e1 e2
  exact ⟨acc, T.get _ _ _ _ k upd_same, small hz, s, C, acc ++ [y], e1, e2, hD, hS, h⟩
variable {σ : L2.St} {g : TG} {tt : TT} {te : TE} {vs : List Nat} {Q : Addr → Hp → Prop}
theorem lcT_range {s0 : S} {B : Hp} (k : ok s0 B) {n : Int} (h1 : -4611686018427387904 ≤ n) (h2 : n < 4611686018427387904) (Pv : Nat → Hp → List V → Prop) (h0 : Pv 0 B [])
    (hs : ∀ D i s C acc, ok s (upd C D (.lst acc)) → C D = none → Same B C → i < n.toNat → Pv i C acc → g (.int i) (wipe σ vs) (F s (upd C D (.lst acc))) fun σ2 H2 => wipe σ2 vs = wipe σ vs ∧ tt σ2 H2 fun b H3 =>
      if b = true then te σ2 H3 fun y H4 => ∃ acc', H4 D = some (.lst acc') ∧ acc'.length < sizeLine ∧ LcN F ok B D (Pv (i + 1)) (upd H4 D (.lst (acc' ++ [y]))) else LcN F ok B D (Pv (i + 1)) H3)
    (hd : ∀ D s C acc, ok s (upd C D (.lst acc)) → B D = none → C D = none → Same B C → Pv n.toNat C acc → Q D (F s (upd C D (.lst acc)))) :
    ∃ j : Int, [V.int n] = [.int j] ∧ -(2 ^ 62) ≤ j ∧ j < 2 ^ 62 ∧ ∀ D, (F s0 B) D = none → ∃ W : Nat → Nat → Hp → Prop, (∃ m, W 0 m (upd (F s0 B) D (.lst []))) ∧ ∀ i m H, W i m H →
      ((Itr 0 j.toNat).stop i H ∧ Q D H) ∨ ((Itr 0 j.toNat).go i H ∧ ∃ Nx : Hp → Prop, (∀ H', Nx H' → ∃ m', m' < m ∧ W (i + 1) m' H') ∧ ∀ x H', (Itr 0 j.toNat).yld i H x H' → g x (wipe σ vs) H' fun σ2 H2 => wipe σ2 vs = wipe σ vs ∧ tt σ2 H2 fun b H3 =>
        if b = true then te σ2 H3 fun y H4 => ∃ acc, H4 D = some (.lst acc) ∧ acc.length < sizeLine ∧ Nx (upd H4 D (.lst (acc ++ [y]))) else Nx H3) := by
  refine ⟨n, rfl, h1, h2, fun D hD => ?_⟩
  obtain ⟨hB, hn⟩ := T.new s0 B D k hD
  refine lc_range (fun i H => LcN F ok B D (Pv i) H) ?_ ?_ ?_
  · rw [(hn _).1]
    exact ⟨s0, B, [], rfl, (hn _).2, hB, Same.refl B, h0⟩
  · rintro i H hi ⟨s, C, acc, rfl, k', hD', hS, hp⟩
    rw [Int.zero_add]
    exact hs D i s C acc k' hD' hS hi hp
  · rintro H ⟨s, C, acc, rfl, k', hD', hS, hp⟩
    exact hd D s C acc k' hB hD' hS hp
theorem lcT_list {K : PySem.W.Frag} {s0 : S} {B : Hp} (k : ok s0 B) {a : Addr} {xs : List V} (ha : B a = some (.lst xs)) (Pv : Nat → Hp → List V → Prop) (h0 : Pv 0 B [])
    (hs : ∀ D i x s C acc, ok s (upd C D (.lst acc)) → C D = none → Same B C → xs[i]? = some x → Pv i C acc → g x (wipe σ vs) (F s (upd C D (.lst acc))) fun σ2 H2 => wipe σ2 vs = wipe σ vs ∧ tt σ2 H2 fun b H3 =>
      if b = true then te σ2 H3 fun y H4 => ∃ acc', H4 D = some (.lst acc') ∧ acc'.length < sizeLine ∧ LcN F ok B D (Pv (i + 1)) (upd H4 D (.lst (acc' ++ [y]))) else LcN F ok B D (Pv (i + 1)) H3)
    (hd : ∀ D s C acc, ok s (upd C D (.lst acc)) → B D = none → C D = none → Same B C → Pv xs.length C acc → Q D (F s (upd C D (.lst acc)))) :
    ∃ b, V.ref a = .ref b ∧ (∃ xs, SqL K (F s0 B) b xs) ∧ ∀ D, (F s0 B) D = none → ∃ W : Nat → Nat → Hp → Prop, (∃ m, W 0 m (upd (F s0 B) D (.lst []))) ∧ ∀ i m H, W i m H →
      ((Itl K b).stop i H ∧ Q D H) ∨ ((Itl K b).go i H ∧ ∃ Nx : Hp → Prop, (∀ H', Nx H' → ∃ m', m' < m ∧ W (i + 1) m' H') ∧ ∀ x H', (Itl K b).yld i H x H' → g x (wipe σ vs) H' fun σ2 H2 => wipe σ2 vs = wipe σ vs ∧ tt σ2 H2 fun b H3 =>
        if b = true then te σ2 H3 fun y H4 => ∃ acc, H4 D = some (.lst acc) ∧ acc.length < sizeLine ∧ Nx (upd H4 D (.lst (acc ++ [y]))) else Nx H3) := by
  refine ⟨a, rfl, ⟨xs, SqL.of (T.get _ _ _ _ k ha)⟩, fun D hD => ?_⟩
  obtain ⟨hB, hn⟩ := T.new s0 B D k hD
  refine lc_list (xs := xs) (fun i H => LcN F ok B D (Pv i) H) ?_ ?_ ?_ ?_
  · rw [(hn _).1]
    exact ⟨s0, B, [], rfl, (hn _).2, hB, Same.refl B, h0⟩
  · rintro i H _ ⟨s, C, acc, rfl, k', hD', hS, hp⟩
    exact SqL.of (T.get _ _ _ _ k' (upd_old hD' (hS _ _ ha)))
  · rintro i x H hx ⟨s, C, acc, rfl, k', hD', hS, hp⟩
    exact hs D i x s C acc k' hD' hS hx hp
  · rintro H ⟨s, C, acc, rfl, k', hD', hS, hp⟩
    exact hd D s C acc k' hB hD' hS hp
end
section
variable {σ : L2.St} {H : Hp} {Q : VK}
theorem r_lc {wi : TI} {g : TG} {tt : TT} {te : TE} {vs : List Nat} (h : wi σ H fun J H1 => ∀ D, H1 D = none → ∃ W : Nat → Nat → Hp → Prop, (∃ m, W 0 m (upd H1 D (.lst []))) ∧ ∀ i m H, W i m H →
  (J.stop i H ∧ Q (.ref D) H) ∨ (J.go i H ∧ ∃ Nx : Hp → Prop, (∀ H', Nx H' → ∃ m', m' < m ∧ W (i + 1) m' H') ∧ ∀ x H', J.yld i H x H' → g x (wipe σ vs) H' fun σ2 H2 => wipe σ2 vs = wipe σ vs ∧ tt σ2 H2 fun b H3 =>
    if b = true then te σ2 H3 fun y H4 => ∃ acc, H4 D = some (.lst acc) ∧ acc.length < sizeLine ∧ Nx (upd H4 D (.lst (acc ++ [y]))) else Nx H3)) : tLc wi g tt te vs σ H Q := h
theorem r_yes {q : Bool → Hp → Prop} (h : q true H) : tYes σ H q := h
end
/-! ### rows of ints -/
def Rw (C : Hp) (as : List Addr) (rs : List (List Int)) : Prop := as.length = rs.length ∧ ∀ (i : Nat) (b : Addr), as[i]? = some b → ∃ r, rs[i]? = some r ∧ C b = some (.lst (r.map V.int))
theorem Rw.nil {C : Hp} : Rw C [] [] := ⟨rfl, fun i b h => by simp at h⟩
theorem Rw.mono {C C' : Hp} {as : List Addr} {rs : List (List Int)} (h : Rw C as rs) (s : Same C C') : Rw C' as rs :=
  ⟨h.1, fun i b e => by obtain ⟨r, h1, h2⟩ := h.2 i b e; exact ⟨r, h1, s _ _ h2⟩⟩
theorem Rw.push {C : Hp} {as : List Addr} {rs : List (List Int)} {b : Addr} {r : List Int} (h : Rw C as rs) (e : C b = some (.lst (r.map V.int))) : Rw C (as ++ [b]) (rs ++ [r]) := by
  refine ⟨by rw [List.length_append, List.length_append, h.1]; rfl, fun i c hc => ?_⟩
  by_cases hi : i < as.length
  · rw [List.getElem?_append_left hi] at hc
    obtain ⟨r', h1, h2⟩ := h.2 i c hc
    exact ⟨r', by rw [List.getElem?_append_left (by rw [← h.1]; exact hi)]; exact h1, h2⟩
  · have h3 := (List.getElem?_eq_some_iff.mp hc).1
    rw [List.length_append, List.length_singleton] at h3
    have e2 : i = as.length := by omega
    rw [e2, List.getElem?_append_right (Nat.le_refl _), Nat.sub_self] at hc
    have e3 : b = c := Option.some.inj hc
    refine ⟨r, ?_, e3 ▸ e⟩
    rw [e2, h.1, List.getElem?_append_right (Nat.le_refl _), Nat.sub_self]; rfl
theorem Rw.set {C : Hp} {as : List Addr} {rs : List (List Int)} {b : Addr} {r : List Int} (h : Rw C as rs) (j : Nat) (e : C b = some (.lst (r.map V.int))) : Rw C (as.set j b) (rs.set j r) := by
  refine ⟨by rw [List.length_set, List.length_set, h.1], fun i c hc => ?_⟩
  rw [List.getElem?_set] at hc
  split at hc
  · rename_i hj
    split at hc
    · rename_i hl
      refine ⟨r, ?_, (Option.some.inj hc) ▸ e⟩
      rw [List.getElem?_set, if_pos hj, if_pos (by rw [← h.1]; exact hl)]
    · cases hc
  · rename_i hj
    obtain ⟨r', h1, h2⟩ := h.2 i c hc
    exact ⟨r', by rw [List.getElem?_set, if_neg hj]; exact h1, h2⟩
/-- a row of places below n, at most L of them, each once -/
def Gd (n : Int) (L : Nat) (r : List Int) : Prop := r.length ≤ L ∧ r.Nodup ∧ ∀ e ∈ r, 0 ≤ e ∧ e < n
def Wf (n L : Nat) (rs : List (List Int)) : Prop := rs.length = n ∧ ∀ r ∈ rs, Gd (n : Int) L r
end Lw
namespace Lw
open PySem PySem.Spec PyProof.Rows L2
/-- a list that was made (y at D2) below one that is under way (x at D1) -/
theorem under {C1 C2 : Hp} {D1 D2 : Addr} {x y : HO} (h1 : C1 D1 = none) (h2 : (upd C1 D1 x) D2 = none) (hS : Same (upd C1 D1 x) C2) :
    ∃ C3, upd C2 D2 y = upd C3 D1 x ∧ C3 D1 = none ∧ Same C1 C3 ∧ C3 D2 = some y ∧ C1 D2 = none ∧ D2 ≠ D1 := by
  obtain ⟨n1, n2⟩ := upd_none h2
  obtain ⟨C3, e, e1, e2⟩ := lay_same h1 hS
  refine ⟨upd C3 D2 y, ?_, by rw [upd_ne n1.symm]; exact e1, fun b o hb => ?_, upd_same, n2, n1⟩
  · rw [e, upd_comm n1.symm]
  · rw [upd_ne (ne_of_none hb n2)]; exact e2 _ _ hb
theorem ints_push (r : List Int) (z : Int) : r.map V.int ++ [.int z] = (r ++ [z]).map V.int := by rw [List.map_append]; rfl
theorem refs_push (r : List Addr) (z : Addr) : r.map V.ref ++ [.ref z] = (r ++ [z]).map V.ref := by rw [List.map_append]; rfl
theorem wf_push {n : Int} {L : Nat} {rs : List (List Int)} {r : List Int} (h : ∀ r ∈ rs, Gd n L r) (h1 : Gd n L r) : ∀ r' ∈ rs ++ [r], Gd n L r' := fun r' hr => by
  rcases List.mem_append.mp hr with e | e
  · exact h r' e
  · rw [List.mem_singleton.mp e]; exact h1
/-- a row that is grown by something greater -/
def Up (n : Int) (j : Nat) (r : List Int) : Prop := r.length ≤ j ∧ r.Nodup ∧ (∀ e ∈ r, 0 ≤ e ∧ e < n) ∧ ∀ e ∈ r, e < (j : Int)
theorem Up.nil {n : Int} : Up n 0 [] := ⟨Nat.le_refl _, List.nodup_nil, (fun e he => nomatch he), (fun e he => nomatch he)⟩
theorem Up.skip {n : Int} {j : Nat} {r : List Int} (h : Up n j r) : Up n (j + 1) r := ⟨by have := h.1; omega, h.2.1, h.2.2.1, fun e he => by have := h.2.2.2 e he; omega⟩
theorem nodup_push {α : Type} {r : List α} {z : α} (h : r.Nodup) (hz : z ∉ r) : (r ++ [z]).Nodup := by
  rw [List.nodup_append]
  exact ⟨h, by simp, fun a ha b hb e => hz (by rw [← List.mem_singleton.mp hb, ← e]; exact ha)⟩
theorem Up.push {n : Int} {j : Nat} {r : List Int} (h : Up n j r) (hj : (j : Int) < n) : Up n (j + 1) (r ++ [(j : Int)]) := by
  refine ⟨by rw [List.length_append, List.length_singleton]; have := h.1; omega, nodup_push h.2.1 fun hm => ?_, fun e he => ?_, fun e he => ?_⟩
  · have := h.2.2.2 _ hm; omega
  · rcases List.mem_append.mp he with q | q
    · exact h.2.2.1 e q
    · rw [List.mem_singleton.mp q]; omega
  · rcases List.mem_append.mp he with q | q
    · have := h.2.2.2 e q; omega
    · rw [List.mem_singleton.mp q]; omega
theorem Up.gd {n : Int} {j L : Nat} {r : List Int} (h : Up n j r) (hj : j ≤ L) : Gd n L r := ⟨by have := h.1; omega, h.2.1, h.2.2.1⟩
theorem Gd.weak {n : Int} {L L' : Nat} {r : List Int} (h : Gd n L r) (hl : L ≤ L') : Gd n L' r := ⟨Nat.le_trans h.1 hl, h.2⟩
theorem all_push {P : Int → Prop} {r : List Int} {z : Int} (h : ∀ e ∈ r, P e) (hz : P z) : ∀ e ∈ r ++ [z], P e := fun e he => by
  rcases List.mem_append.mp he with q | q
  · exact h e q
  · rw [List.mem_singleton.mp q]; exact hz
end Lw
namespace Lw
open PySem PySem.Spec PyProof.Rows L2
section
variable {S : Type} {F : S → Hp → Hp} {ok : S → Hp → Prop} (T : TopOk F ok)
include T
theorem newT_eq {s : S} {C : Hp} {p : Addr} (k : ok s C) (hp : F s C p = none) (o : HO) : upd (F s C) p o = F s (upd C p o) ∧ ok s (upd C p o) ∧ C p = none := by
  obtain ⟨h1, h2⟩ := T.new s C p k hp
  exact ⟨(h2 o).1, (h2 o).2, h1⟩
theorem newTD_eq {s : S} {C : Hp} {D p : Addr} {x : HO} (k : ok s (upd C D x)) (hD : C D = none) (hp : F s (upd C D x) p = none) (o : HO) :
    upd (F s (upd C D x)) p o = F s (upd (upd C p o) D x) ∧ ok s (upd (upd C p o) D x) ∧ (upd C p o) D = none ∧ C p = none ∧ p ≠ D := by
  obtain ⟨h1, h2⟩ := T.new s (upd C D x) p k hp
  obtain ⟨h3, h4⟩ := upd_none h1
  have e := h2 o
  rw [upd_comm h3.symm] at e
  exact ⟨e.1, e.2, by rw [upd_ne h3.symm]; exact hD, h4, h3⟩
theorem setTD_eq {s : S} {C : Hp} {D : Addr} {x : HO} (k : ok s (upd C D x)) (y : HO) : upd (F s (upd C D x)) D y = F s (upd C D y) ∧ ok s (upd C D y) := by
  have e := T.write s _ D y x k upd_same
  rw [upd_upd] at e
  exact e
end
theorem refsSet (l : List Addr) (j : Nat) (x : Addr) : (l.map V.ref).set j (.ref x) = (l.set j x).map V.ref := by rw [List.map_set]
theorem refsRev (l : List Addr) : (l.map V.ref).reverse = l.reverse.map V.ref := by rw [List.map_reverse]
theorem Rw.rev {C : Hp} {as : List Addr} {rs : List (List Int)} (h : Rw C as rs) : Rw C as.reverse rs.reverse := by
  refine ⟨by rw [List.length_reverse, List.length_reverse, h.1], fun i b e => ?_⟩
  have hi := (List.getElem?_eq_some_iff.mp e).1
  rw [List.length_reverse] at hi
  rw [List.getElem?_reverse hi] at e
  obtain ⟨r, h1, h2⟩ := h.2 _ b e
  exact ⟨r, by rw [List.getElem?_reverse (by rw [← h.1]; exact hi), ← h.1]; exact h1, h2⟩
theorem Rw.at {C : Hp} {as : List Addr} {rs : List (List Int)} {i : Nat} {x : V} (h : Rw C as rs) (e : (as.map V.ref)[i]? = some x) : ∃ b r, x = .ref b ∧ as[i]? = some b ∧ rs[i]? = some r ∧ C b = some (.lst (r.map V.int)) := by
  rw [List.getElem?_map] at e
  cases q : as[i]? with
  | none => rw [q] at e; cases e
  | some b =>
    rw [q] at e
    obtain ⟨r, h1, h2⟩ := h.2 i b q
    exact ⟨b, r, (Option.some.inj e).symm, rfl, h1, h2⟩
theorem ints_at {r : List Int} {i : Nat} {x : V} (e : (r.map V.int)[i]? = some x) : ∃ z, x = .int z ∧ r[i]? = some z := by
  rw [List.getElem?_map] at e
  cases q : r[i]? with
  | none => rw [q] at e; cases e
  | some z => rw [q] at e; exact ⟨z, (Option.some.inj e).symm, rfl⟩
theorem r_revL {K : PySem.W.Frag} {σ : L2.St} {H : Hp} {Q : VK} {te : TE} (h : te σ H fun x H1 => ∃ a xs, x = .ref a ∧ SqL K H1 a xs ∧ ∀ p, H1 p = none → Q (.ref p) (upd H1 p (.lst xs.reverse))) : tRevL K te σ H Q := h
theorem r_isrev {K : PySem.W.Frag} {H : Hp} {a : Addr} {xs : List V} {q : List V → Prop} (h : H a = some (.lst xs)) (hq : q xs) : ∃ b ys, V.ref a = .ref b ∧ SqL K H b ys ∧ q ys := ⟨a, xs, rfl, SqL.of h, hq⟩
end Lw
namespace Lw
open PySem PySem.Spec PyProof.Rows L2
/-! ### the rules with the written part named (so that they stand within a comprehension's block) -/
section
variable {X : Cx} {K : PySem.W.Frag} {tg : Expr}
theorem pi_listK (h : X.K = K) {l : Expr} {tl : TE} (hl : PE X l tl) : PI X tg l (iList K tl) := by subst h; exact pi_list hl
theorem pi_tupK (h : X.K = K) {l : Expr} {tl : TE} (hl : PE X l tl) : PI X tg l (iTup K tl) := by subst h; exact pi_tup hl
theorem pi_enumK (h : X.K = K) {e : Expr} {ta : TA} {p pos tpos : Pos} {elts : List Expr} {kk : Nat} (hg : Gl X "enumerate") (hm : X.mg "enumerate" = none) (ha : PA X [e] ta) (hs : starEach [e] X.env = [(false, eval e X.env)] := by rfl) :
    PI X (.Tuple elts kk tpos) (.Call (.Name "enumerate" p) [e] [] pos) (iEnum K ta) := by subst h; exact pi_enum hg hm ha hs
theorem pi_zipK (h : X.K = K) {e e2 : Expr} {ta : TA} {p pos tpos : Pos} {elts : List Expr} {kk : Nat} (hg : Gl X "zip") (hm : X.mg "zip" = none) (ha : PA X [e, e2] ta)
    (hs : starEach [e, e2] X.env = (false, eval e X.env) :: starEach [e2] X.env := by rfl) (hpl : (backTo pos (starEach [e2] X.env)).any (·.1) = false := by rfl) :
    PI X (.Tuple elts kk tpos) (.Call (.Name "zip" p) [e, e2] [] pos) (iZip K ta) := by subst h; exact pi_zip hg hm ha hs hpl
theorem pi_reversedK (h : X.K = K) {e : Expr} {ta : TA} {p pos : Pos} (hg : Gl X "reversed") (hm : X.mg "reversed" = none) (ha : PA X [e] ta) (hs : starEach [e] X.env = [(false, eval e X.env)] := by rfl) : PI X tg (.Call (.Name "reversed" p) [e] [] pos) (iRev K ta) := by subst h; exact pi_reversed hg hm ha hs
theorem ix_listK (h : X.K = K) : IxR X (rIxL K) := by subst h; exact ix_list
theorem ix_tupK (h : X.K = K) : IxR X (rIxT K) := by subst h; exact ix_tup
theorem sl_listK (h : X.K = K) : SlR X (rSlL K) := by subst h; exact sl_list
theorem sl_tupK (h : X.K = K) : SlR X (rSlT K) := by subst h; exact sl_tup
theorem op_in_seqK (h : X.K = K) : OpR X (compareOp .In) (rIn K false) := by subst h; exact op_in_seq
theorem op_notIn_seqK (h : X.K = K) : OpR X (compareOp .NotIn) (rIn K true) := by subst h; exact op_notIn_seq
theorem op_eqDK (h : X.K = K) (hu : X.A.units + 64 < cLine) : OpR X (compareOp .Eq) (rEqD K) := by subst h; exact op_eqD hu
theorem op_neDK (h : X.K = K) (hu : X.A.units + 64 < cLine) : OpR X (compareOp .NotEq) (rNeD K) := by subst h; exact op_neD hu
theorem op_catTK (h : X.K = K) : OpR X (binaryOp .Add) (rCatT K) := by subst h; exact op_catT
def rLen (K : PySem.W.Frag) : List V → Hp → VK → Prop := fun xs H Q => ∃ p ys, xs = [V.ref p] ∧ (SqL K H p ys ∨ SqT K H p ys) ∧ Q (.int ys.length) H
theorem call_len_seqK (h : X.K = K) : CallR X (.builtin "len") (rLen K) := by subst h; exact call_len_seq
def rListOf (K : PySem.W.Frag) : List V → Hp → VK → Prop := fun xs H Q => ∃ p ys, xs = [V.ref p] ∧ (SqL K H p ys ∨ SqT K H p ys) ∧ ∀ l, H l = none → Q (.ref l) (upd H l (.lst ys))
theorem call_list_ofK (h : X.K = K) : CallR X (.type "list") (rListOf K) := by subst h; exact call_list_of
theorem cr_sumK (h : X.K = K) (hc : X.calm = true) : CallR X (.builtin "sum") (rSum K) := by subst h; exact cr_sum hc
theorem cr_maxK (h : X.K = K) (hc : X.calm = true) : CallR X (.builtin "max") (rMax K) := by subst h; exact cr_max hc
theorem cr_minK (h : X.K = K) (hc : X.calm = true) : CallR X (.builtin "min") (rMin K) := by subst h; exact cr_min hc
theorem cr_sortedK (h : X.K = K) : CallR X (.builtin "sorted") (rSortedI K) := by subst h; exact cr_sortedI
theorem cr_sortedSK (h : X.K = K) : CallR X (.builtin "sorted") (rSortedS K) := by subst h; exact cr_sortedS
theorem cr_anyK (h : X.K = K) (hc : X.calm = true) : CallR X (.builtin "any") (rAny K) := by subst h; exact cr_any hc
theorem cr_allK (h : X.K = K) (hc : X.calm = true) : CallR X (.builtin "all") (rAll K) := by subst h; exact cr_all hc
theorem call_isiK' (h : X.K = K) : CallR X (.builtin "isinstance") (rIsi K) := by subst h; exact call_isi
theorem mt_indexK (h : X.K = K) : MtR X "list.index" (rIndex K) := by subst h; exact mt_index
def rInsert : V → List V → Hp → VK → Prop := fun x vs H Q => ∃ (l : Addr) (xs : List V) (i : Int) (y : V), x = .ref l ∧ vs = [.int i, y] ∧ H l = some (.lst xs) ∧ xs.length < sizeLine ∧ 0 ≤ i ∧ i < 2 ^ 63 ∧
    Q .non (upd H l (.lst (xs.take i.toNat ++ [y] ++ xs.drop i.toNat)))
theorem mt_insert' : MtR X "list.insert" rInsert := mt_insert
theorem pg_tupK (h : X.K = K) {pos : Pos} {es : List Expr} {k : Nat} {t : TGs} {n : Nat} (hc : X.calm = true) (hp : PGs X es t)
    (hn : (assignEach es X.env).length = n := by rfl) (hst : (assignEach es X.env).findIdx? (·.1) = none := by rfl) : PG X (.Tuple es k pos) (gTup K n t) := by subst h; exact pg_tup hc hp hn hst
theorem pe_revLK (h : X.K = K) {e : Expr} {te : TE} {k : Nat} {p1 p2 p3 pos : Pos} (he : PE X e te) : PE X (.Subscript e (.Slice none none (some (.UnaryOp .USub (.Constant (.int 1) k p1) p2)) p3) pos) (tRevL K te) := by subst h; exact pe_revL he
theorem pt_truthK (h : X.K = K) {a : Expr} {ta : TE} (ha : PE X a ta) (he : ∀ whole, isTrue a X.env whole = (do let v ← whole; standAt a.pos; holding [v] (truthy v))) :
    PT X a (fun σ H Q => ta σ H fun x H1 => ∃ k, TruV K x H1 k ∧ Q k H1) := by subst h; exact pt_truth ha he
/-- xs[i] read for xs[i] op= e -/
theorem get_listK (h : X.K = K) : PGet X (rIxL K) := by
  subst h
  intro pins s σ H o i ov iv Q I rx ry h
  obtain ⟨p, xs, i, z, rfl, rfl, hq, he, q⟩ := h
  cases rx
  obtain ⟨t, rfl⟩ := ry
  obtain ⟨its, r, pl, hz⟩ := I.list hq
  obtain ⟨j, h1, h2, h3, h4, h5⟩ := atI_get he
  obtain ⟨w, ew, rw'⟩ := r.get h2
  have hl := r.length
  have hn := line63
  have fin : EP X pins σ Q w s := ⟨z, H, I, rw', q⟩
  by_cases h0 : 0 ≤ i
  · have hj : i.toNat = j := by
      rw [seqIndex_of h0 h5] at h1
      exact Option.some.inj h1
    exact wpAny_getItem_list pl.isList h0 (by omega) (by rw [hj]; simpa using ew) fin
  · have hj : (i + (its.toArray.size : Int)).toNat = j := by
      rw [seqIndex_neg (by omega) h4] at h1
      rw [List.size_toArray, ← hl]
      exact Option.some.inj h1
    exact wpAny_getItem_list_neg pl.isList (by omega) (by rw [List.size_toArray] <;> omega) (by omega) (by rw [hj]; simpa using ew) fin
theorem pe_bm0K (h : X.K = K) {o : Expr} {to : TE} {name : Str} {apos cpos : Pos} {T id : String} {r : V → List V → Hp → VK → Prop} (pa : PlainAttrs T) (slot : Slot T name id) (hty : typeOf (.builtin id) = pure (.type "method_descriptor")) (hm : MtR X id r) (ho : PE X o to)
    (hbase : attributeBase o name X.env (eval o X.env) = eval o X.env := by rfl) (hline : (apos.endLine == cpos.line) = true := by rfl) : PE X (.Call (.Attribute o name apos) [] [] cpos) (tBM0 K T r to) := by subst h; exact pe_bm0 pa slot hty hm ho hbase hline
theorem pe_bmK (h : X.K = K) {o e : Expr} {es : List Expr} {to : TE} {t : TA} {name : Str} {apos cpos : Pos} {T id : String} {r : V → List V → Hp → VK → Prop} (pa : PlainAttrs T) (slot : Slot T name id) (hty : typeOf (.builtin id) = pure (.type "method_descriptor")) (hm : MtR X id r) (ho : PE X o to) (ha : PA X (e :: es) t)
    (hbase : attributeBase o name X.env (eval o X.env) = eval o X.env := by rfl)
    (hfew : ((backTo cpos (starEach (e :: es) X.env)).all (fun x => !x.1) && (backToKw cpos (keywordEach [] X.env)).all (fun x => x.1.isSome)
      && decide ((e :: es).length + ([] : List Keyword).length + (if ([] : List Keyword).isEmpty then 0 else 1) < 30)) = true := by rfl)
    (hline : (apos.endLine == cpos.line) = true := by rfl) (hs : starEach (e :: es) X.env = (false, eval e X.env) :: starEach es X.env := by rfl) (hplain : (backTo cpos (starEach es X.env)).any (·.1) = false := by rfl) :
    PE X (.Call (.Attribute o name apos) (e :: es) [] cpos) (tBM K T r to t) := by subst h; exact pe_bm pa slot hty hm ho ha hbase hfew hline hs hplain
end
section
variable {K : PySem.W.Frag} {H : Hp} {Q : VK}
theorem r_lenK {a : Addr} {xs : List V} (h : H a = some (.lst xs)) (q : Q (.int xs.length) H) : rLen K [.ref a] H Q := ⟨a, xs, rfl, .inl (SqL.of h), q⟩
theorem r_lenT {a : Addr} {xs : List V} (h : H a = some (.tup xs)) (q : Q (.int xs.length) H) : rLen K [.ref a] H Q := ⟨a, xs, rfl, .inr (SqT.of h), q⟩
theorem r_listOf {a : Addr} {xs : List V} (h : H a = some (.lst xs)) (q : ∀ l, H l = none → Q (.ref l) (upd H l (.lst xs))) : rListOf K [.ref a] H Q := ⟨a, xs, rfl, .inl (SqL.of h), q⟩
theorem r_sortedI {a : Addr} {ns : List Int} (h : H a = some (.lst (ns.map V.int))) (q : ∀ (ns' : List Int) (p : Addr), ns'.Perm ns → ns'.Pairwise (· ≤ ·) → H p = none → Q (.ref p) (upd H p (.lst (ns'.map V.int)))) : rSortedI K [.ref a] H Q := ⟨a, ns, rfl, SqL.of h, q⟩
theorem r_sum {a : Addr} {ns : List Int} (h : H a = some (.lst (ns.map V.int))) (q : Q (.int ns.sum) H) : rSum K [.ref a] H Q := ⟨a, ns, rfl, SqL.of h, q⟩
theorem r_insert {l : Addr} {xs : List V} {i : Int} {y : V} (h : H l = some (.lst xs)) (hz : xs.length < sizeLine) (h0 : 0 ≤ i) (h1 : i < 9223372036854775808) (q : Q .non (upd H l (.lst (xs.take i.toNat ++ [y] ++ xs.drop i.toNat)))) : rInsert (.ref l) [.int i, y] H Q := ⟨l, xs, i, y, rfl, rfl, h, hz, h0, h1, q⟩
end
end Lw
namespace Lw
theorem nodup_le1 {α : Type} {r : List α} (h : r.length ≤ 1) : r.Nodup := by
  match r, h with
  | [], _ => exact List.nodup_nil
  | [x], _ => simp
theorem nodup_of_map {α β : Type} {f : α → β} {l : List α} (h : (l.map f).Nodup) : l.Nodup := by
  induction l with
  | nil => exact List.nodup_nil
  | cons a r ih =>
    rw [List.map_cons, List.nodup_cons] at h
    exact List.nodup_cons.mpr ⟨fun hm => h.1 (List.mem_map.mpr ⟨a, hm, rfl⟩), ih h.2⟩
theorem nodup_map {α β : Type} {f : α → β} (hf : ∀ x y, f x = f y → x = y) {l : List α} (h : l.Nodup) : (l.map f).Nodup := by
  induction l with
  | nil => exact List.nodup_nil
  | cons a r ih =>
    rw [List.nodup_cons] at h
    rw [List.map_cons, List.nodup_cons]
    refine ⟨fun hm => ?_, ih h.2⟩
    obtain ⟨b, hb, e⟩ := List.mem_map.mp hm
    exact h.1 (hf _ _ e ▸ hb)
theorem nodup_lt {l : List Int} (h : l.Pairwise (· < ·)) : l.Nodup := h.imp fun {a b} q => Int.ne_of_lt q
theorem nodup_take {α : Type} {l : List α} (n : Nat) (h : l.Nodup) : (l.take n).Nodup := h.sublist (List.take_sublist n l)
end Lw
/-! plain mathematics: drawings as relations; no program in sight -/
namespace Lm
/-- places in order, each once, below n: at most n of them -/
theorem nodup_le {n : Nat} : ∀ {l : List Nat}, l.Nodup → (∀ x ∈ l, x < n) → l.length ≤ n := by
  induction n with
  | zero =>
    intro l _ h
    match l, h with
    | [], _ => exact Nat.le_refl _
    | x :: _, h => exact absurd (h x List.mem_cons_self) (Nat.not_lt_zero _)
  | succ n ih =>
    intro l hn h
    have h1 : (l.erase n).length ≤ n := ih (hn.erase n) fun x hx => by
      have h2 := (List.Nodup.mem_erase_iff hn).mp hx
      have := h x h2.2
      have h3 := h2.1
      omega
    have h2 : l.length ≤ (l.erase n).length + 1 := by
      by_cases hm : n ∈ l
      · rw [List.length_erase_of_mem hm]; omega
      · rw [List.erase_of_not_mem hm]; omega
    omega
theorem nodup_all {n : Nat} {l : List Nat} (hn : l.Nodup) (h : ∀ x ∈ l, x < n) (hl : l.length = n) : ∀ x, x < n → x ∈ l := fun x hx => by
  by_cases hm : x ∈ l
  · exact hm
  · have h1 : (x :: l).length ≤ n := nodup_le (List.nodup_cons.mpr ⟨hm, hn⟩) fun y hy => by
      rcases List.mem_cons.mp hy with e | e
      · rw [e]; exact hx
      · exact h y e
    rw [List.length_cons] at h1
    omega
/-- a walk of n + 1 places below n meets one twice -/
theorem twice {n : Nat} (f : Nat → Nat) (h : ∀ i, i ≤ n → f i < n) : ∃ i j, i < j ∧ j ≤ n ∧ f i = f j := by
  refine Classical.byContradiction fun hc => ?_
  have nd : ((List.range (n + 1)).map f).Nodup := by
    rw [List.Nodup, List.pairwise_map]
    refine List.Pairwise.imp_of_mem (fun {a b} ha hb hab => ?_) List.pairwise_lt_range
    exact fun e => hc ⟨a, b, hab, by have := List.mem_range.mp hb; omega, e⟩
  have h1 := nodup_le nd fun x hx => by
    obtain ⟨i, hi, rfl⟩ := List.mem_map.mp hx
    exact h i (by have := List.mem_range.mp hi; omega)
  rw [List.length_map, List.length_range] at h1
  omega
/-! ### paths -/
variable (E : Nat → Nat → Prop)
/-- by one step or more -/
inductive Tc : Nat → Nat → Prop
  | one {a b : Nat} : E a b → Tc a b
  | more {a b c : Nat} : Tc a b → E b c → Tc a c
/-- by any number of steps -/
def Rc (a b : Nat) : Prop := a = b ∨ Tc E a b
variable {E}
theorem Tc.trans {a b c : Nat} (h : Tc E a b) (h2 : Tc E b c) : Tc E a c := by
  induction h2 with
  | one e => exact .more h e
  | more _ e ih => exact .more ih e
theorem Tc.front {a b c : Nat} (e : E a b) (h : Tc E b c) : Tc E a c := Tc.trans (.one e) h
theorem Rc.step {a b c : Nat} (h : Rc E a b) (e : E b c) : Rc E a c := by
  rcases h with rfl | h
  · exact .inr (.one e)
  · exact .inr (.more h e)
/-- what is closed and holds the start holds all that is reached -/
theorem Rc.closed {P : Nat → Prop} {a b : Nat} (h : Rc E a b) (ha : P a) (hc : ∀ x y, P x → E x y → P y) : P b := by
  rcases h with rfl | h
  · exact ha
  · induction h with
    | one e => exact hc _ _ ha e
    | more _ e ih => exact hc _ _ ih e
/-- a measure that falls along each step: no ring -/
theorem no_ring {μ : Nat → Nat} (h : ∀ a b, E a b → μ b < μ a) {a b : Nat} (t : Tc E a b) : μ b < μ a := by
  induction t with
  | one e => exact h _ _ e
  | more _ e ih => exact Nat.lt_trans (h _ _ e) ih
/-- where each place of U leads on into U there is a ring -/
theorem ring_of {n : Nat} {U : Nat → Prop} (hb : ∀ a, U a → a < n) (hs : ∀ a, U a → ∃ b, U b ∧ E a b) {a : Nat} (ha : U a) : ∃ k, U k ∧ Tc E k k := by
  have ch1 : ∀ x, ∃ y, U x → U y ∧ E x y := fun x => by
    by_cases h : U x
    · obtain ⟨y, hy⟩ := hs x h
      exact ⟨y, fun _ => hy⟩
    · exact ⟨0, fun q => absurd q h⟩
  have ch : ∃ g : Nat → Nat, ∀ x, U x → U (g x) ∧ E x (g x) := ⟨fun x => Classical.choose (ch1 x), fun x => Classical.choose_spec (ch1 x)⟩
  obtain ⟨g, hg⟩ := ch
  have hf : ∀ i, U (Nat.rec (motive := fun _ => Nat) a (fun _ x => g x) i) := by
    intro i
    induction i with
    | zero => exact ha
    | succ i ih => exact (hg _ ih).1
  generalize hF : (fun i => (Nat.rec (motive := fun _ => Nat) a (fun _ x => g x) i : Nat)) = F at *
  have hF0 : ∀ i, U (F i) := fun i => by rw [← hF]; exact hf i
  have hF1 : ∀ i, E (F i) (F (i + 1)) := fun i => by
    have := (hg (F i) (hF0 i)).2
    rw [← hF] at this ⊢
    exact this
  obtain ⟨i, j, hij, _, e⟩ := twice (n := n) F fun i _ => hb _ (hF0 i)
  have path : ∀ d, Tc E (F i) (F (i + d + 1)) := fun d => by
    induction d with
    | zero => exact .one (hF1 i)
    | succ d ih => exact .more ih (hF1 (i + d + 1))
  have h2 := path (j - i - 1)
  rw [show i + (j - i - 1) + 1 = j by omega, ← e] at h2
  exact ⟨F i, hF0 i, h2⟩
/-! ### the closure, place by place -/
/-- a path whose inner places are below k -/
inductive Via (E : Nat → Nat → Prop) (k : Nat) : Nat → Nat → Prop
  | one {a b : Nat} : E a b → Via E k a b
  | more {a b c : Nat} : Via E k a b → b < k → E b c → Via E k a c
theorem Via.tc {k a b : Nat} (h : Via E k a b) : Tc E a b := by
  induction h with
  | one e => exact .one e
  | more _ _ e ih => exact .more ih e
theorem Via.mono {k l a b : Nat} (h : Via E k a b) (hl : k ≤ l) : Via E l a b := by
  induction h with
  | one e => exact .one e
  | more _ h e ih => exact .more ih (Nat.lt_of_lt_of_le h hl) e
theorem Via.of {n a b : Nat} (hn : ∀ a b, E a b → b < n) (h : Tc E a b) : Via E n a b := by
  induction h with
  | one e => exact .one e
  | @more b c h e ih =>
    refine .more ih ?_ e
    cases h with
    | one e' => exact hn _ _ e'
    | more _ e' => exact hn _ _ e'
theorem Via.app {k a b c : Nat} (h : Via E k a b) (hb : b < k) (h2 : Via E k b c) : Via E k a c := by
  induction h2 with
  | one e => exact .more h hb e
  | more _ hk e ih => exact .more ih hk e
/-- a path by places below k + 1 is one below k, or goes by k -/
theorem Via.split {k a c : Nat} (h : Via E (k + 1) a c) : Via E k a c ∨ (Via E k a k ∧ Via E k k c) := by
  induction h with
  | one e => exact .inl (.one e)
  | @more b c h hb e ih =>
    by_cases hk : b = k
    · subst hk
      refine .inr ⟨?_, .one e⟩
      rcases ih with q | q
      · exact q
      · exact q.1
    · rcases ih with q | q
      · exact .inl (.more q (by omega) e)
      · exact .inr ⟨q.1, .more q.2 (by omega) e⟩
theorem Via.join {k a c : Nat} (h : Via E k a k) (h2 : Via E k k c) : Via E (k + 1) a c := (h.mono (Nat.le_succ k)).app (Nat.lt_succ_self k) (h2.mono (Nat.le_succ k))
end Lm
namespace Lm
/-! ### rows of places -/
/-- place b stands in the row of place a -/
def Ed (rs : List (List Int)) (a b : Nat) : Prop := ∃ r, rs[a]? = some r ∧ (b : Int) ∈ r
/-- every place in a row is one of the rows' own -/
def In (rs : List (List Int)) : Prop := ∀ r ∈ rs, ∀ e ∈ r, 0 ≤ e ∧ e < (rs.length : Int)
theorem In.lt {rs : List (List Int)} (h : In rs) {a b : Nat} (e : Ed rs a b) : b < rs.length := by
  obtain ⟨r, hr, hb⟩ := e
  have := (h r (List.mem_of_getElem? hr) _ hb).2
  omega
theorem In.gt {rs : List (List Int)} {a b : Nat} (e : Ed rs a b) : a < rs.length := by
  obtain ⟨r, hr, _⟩ := e
  exact (List.getElem?_eq_some_iff.mp hr).1
/-! ### all that is reached -/
structure Ds (rs : List (List Int)) (p : Nat) (bs : List Bool) (ws : List Int) (X : Nat → Prop) : Prop where
  len : bs.length = rs.length
  start : bs[p]? = some true
  reach : ∀ i : Nat, bs[i]? = some true → Rc (Ed rs) p i
  wait : ∀ w ∈ ws, 0 ≤ w ∧ w < (rs.length : Int) ∧ bs[w.toNat]? = some true
  closed : ∀ i : Nat, bs[i]? = some true → (i : Int) ∈ ws ∨ X i ∨ ∀ c, Ed rs i c → bs[c]? = some true
section
variable {rs : List (List Int)} {p : Nat} {bs : List Bool} {ws : List Int} {X : Nat → Prop}
theorem Ds.init {n : Nat} (hn : rs.length = n) (hp : p < n) : Ds rs p ((List.replicate n false).set p true) [(p : Int)] (fun _ => False) := by
  refine ⟨by rw [List.length_set, List.length_replicate, hn], ?_, fun i hi => ?_, fun w hw => ?_, fun i hi => ?_⟩
  · rw [List.getElem?_set_self (by rw [List.length_replicate]; exact hp)]
  · by_cases e : p = i
    · exact .inl e
    · rw [List.getElem?_set_ne e, List.getElem?_replicate] at hi
      split at hi <;> cases hi
  · rw [List.mem_singleton.mp hw]
    refine ⟨by omega, by omega, ?_⟩
    rw [Int.toNat_natCast, List.getElem?_set_self (by rw [List.length_replicate]; exact hp)]
  · by_cases e : p = i
    · exact .inl (by rw [e]; exact List.mem_singleton.mpr rfl)
    · rw [List.getElem?_set_ne e, List.getElem?_replicate] at hi
      split at hi <;> cases hi
theorem Ds.pop {w : Int} (d : Ds rs p bs ws (fun _ => False)) (hw : ws[ws.length - 1]? = some w) : Ds rs p bs ws.dropLast (fun i => i = w.toNat) := by
  have hne : ws ≠ [] := fun e => by rw [e] at hw; simp at hw
  have e1 : ws = ws.dropLast ++ [w] := by
    have h2 := List.dropLast_concat_getLast hne
    have h3 : ws.getLast hne = w := by
      rw [List.getLast_eq_getElem]
      exact (List.getElem?_eq_some_iff.mp hw).2
    rw [h3] at h2
    exact h2.symm
  refine ⟨d.len, d.start, d.reach, fun x hx => d.wait x ?_, fun i hi => ?_⟩
  · rw [e1]; exact List.mem_append_left _ hx
  · rcases d.closed i hi with q | q | q
    · rw [e1] at q
      rcases List.mem_append.mp q with z | z
      · exact .inl z
      · exact .inr (.inl (by have := List.mem_singleton.mp z; omega))
    · exact q.elim
    · exact .inr (.inr q)
theorem Ds.mark {cur h : Nat} (d : Ds rs p bs ws X) (hc : bs[cur]? = some true) (e : Ed rs cur h) (hi : h < rs.length) : Ds rs p (bs.set h true) (ws ++ [(h : Int)]) X := by
  have hl : h < bs.length := by rw [d.len]; exact hi
  have keep : ∀ i : Nat, bs[i]? = some true → (bs.set h true)[i]? = some true := fun i q => by
    by_cases z : h = i
    · rw [← z, List.getElem?_set_self hl]
    · rw [List.getElem?_set_ne z]; exact q
  refine ⟨by rw [List.length_set]; exact d.len, keep _ d.start, fun i q => ?_, fun w hw => ?_, fun i q => ?_⟩
  · by_cases z : h = i
    · rw [← z]; exact (d.reach cur hc).step e
    · rw [List.getElem?_set_ne z] at q; exact d.reach i q
  · rcases List.mem_append.mp hw with z | z
    · exact ⟨(d.wait w z).1, (d.wait w z).2.1, keep _ (d.wait w z).2.2⟩
    · rw [List.mem_singleton.mp z]
      exact ⟨by omega, by omega, by rw [Int.toNat_natCast, List.getElem?_set_self hl]⟩
  · by_cases z : h = i
    · exact .inl (by rw [← z]; exact List.mem_append_right _ (List.mem_singleton.mpr rfl))
    · rw [List.getElem?_set_ne z] at q
      rcases d.closed i q with y | y | y
      · exact .inl (List.mem_append_left _ y)
      · exact .inr (.inl y)
      · exact .inr (.inr fun c hc => keep c (y c hc))
theorem Ds.done {cur : Nat} (d : Ds rs p bs ws (fun i => i = cur)) (h : ∀ c, Ed rs cur c → bs[c]? = some true) : Ds rs p bs ws (fun _ => False) :=
  ⟨d.len, d.start, d.reach, d.wait, fun i hi => by
    rcases d.closed i hi with q | q | q
    · exact .inl q
    · exact .inr (.inr (by rw [q]; exact h))
    · exact .inr (.inr q)⟩
theorem Ds.final (d : Ds rs p bs [] (fun _ => False)) (i : Nat) : bs[i]? = some true ↔ Rc (Ed rs) p i := by
  refine ⟨d.reach i, fun h => h.closed (P := fun i => bs[i]? = some true) d.start fun x y hx e => ?_⟩
  rcases d.closed x hx with q | q | q
  · exact absurd q List.not_mem_nil
  · exact q.elim
  · exact q y e
theorem count_set {bs : List Bool} {h : Nat} (e : bs[h]? = some false) : (bs.set h true).count false + 1 = bs.count false := by
  induction bs generalizing h with
  | nil => simp at e
  | cons b r ih =>
    cases h with
    | zero =>
      have : b = false := Option.some.inj e
      subst this
      simp
    | succ h =>
      have h2 := ih (h := h) e
      rw [List.set_cons_succ, List.count_cons, List.count_cons]
      omega
end
/-! ### settled places -/
/-- how many of a row's places are not among those -/
def miss (S : List Int) (r : List Int) : Nat := r.countP fun h => decide (h ∉ S)
theorem miss_zero {S r : List Int} : miss S r = 0 ↔ ∀ h ∈ r, h ∈ S := by
  unfold miss
  rw [List.countP_eq_zero]
  constructor
  · intro q h hr
    have := q h hr
    simpa using this
  · intro q h hr
    have := q h hr
    simpa using this
theorem miss_push {S r : List Int} {l : Int} (hl : l ∉ S) : miss S r = miss (S ++ [l]) r + r.count l := by
  unfold miss
  induction r with
  | nil => rfl
  | cons a r ih =>
    rw [List.countP_cons, List.countP_cons, List.count_cons, ih]
    by_cases e : a = l
    · subst e
      simp [hl]; omega
    · by_cases h : a ∈ S
      · simp [h, e]
      · simp [h, e]; omega
theorem miss_nil {r : List Int} : miss [] r = r.length := by
  unfold miss
  rw [List.countP_eq_length.mpr]
  intro a _
  simp
end Lm

namespace Lm
theorem nodup_miss {n : Nat} : ∀ {l : List Nat}, l.Nodup → (∀ x ∈ l, x < n) → l.length < n → ∃ x, x < n ∧ x ∉ l := by
  induction n with
  | zero => intro l _ _ h; exact absurd h (Nat.not_lt_zero _)
  | succ n ih =>
    intro l hn h hl
    by_cases hm : n ∈ l
    · have e := List.length_erase_of_mem hm
      have hp := List.length_pos_of_mem hm
      obtain ⟨x, hx, hx2⟩ := ih (hn.erase n) (fun x hx => by
        have h2 := (List.Nodup.mem_erase_iff hn).mp hx
        have := h x h2.2
        have h3 := h2.1
        omega) (by omega)
      exact ⟨x, by omega, fun q => hx2 ((List.Nodup.mem_erase_iff hn).mpr ⟨by omega, q⟩)⟩
    · exact ⟨n, Nat.lt_succ_self n, hm⟩
theorem nat_list {ss : List Int} {n : Nat} (hn : ss.Nodup) (h : ∀ s ∈ ss, 0 ≤ s ∧ s < (n : Int)) : (ss.map Int.toNat).Nodup ∧ ∀ x ∈ ss.map Int.toNat, x < n := by
  constructor
  · rw [List.Nodup, List.pairwise_map]
    refine List.Pairwise.imp_of_mem (fun {a b} ha hb hab e => ?_) hn
    have := h a ha
    have := h b hb
    exact hab (by omega)
  · intro x hx
    obtain ⟨s, hs, rfl⟩ := List.mem_map.mp hx
    have := h s hs
    omega
theorem at_inj {α : Type} {l : List α} (hn : l.Nodup) {i j : Nat} {x : α} (hi : l[i]? = some x) (hj : l[j]? = some x) : i = j := by
  obtain ⟨h1, e1⟩ := List.getElem?_eq_some_iff.mp hi
  obtain ⟨h2, e2⟩ := List.getElem?_eq_some_iff.mp hj
  exact (List.getElem_inj hn).mp (e1.trans e2.symm)
/-- who holds whom -/
def Hd (rs hs : List (List Int)) : Prop := hs.length = rs.length ∧ (∀ l ∈ hs, ∀ e ∈ l, 0 ≤ e ∧ e < (rs.length : Int)) ∧
  ∀ (l p : Nat) hl r, hs[l]? = some hl → rs[p]? = some r → hl.count (p : Int) = r.count (l : Int)
structure Kn (rs : List (List Int)) (ms ss : List Int) (q : Nat) : Prop where
  nd : ss.Nodup
  rng : ∀ s ∈ ss, 0 ≤ s ∧ s < (rs.length : Int)
  le : q ≤ ss.length
  len : ms.length = rs.length
  val : ∀ (p : Nat) r, rs[p]? = some r → ms[p]? = some ((miss (ss.take q) r : Nat) : Int)
  zero : ∀ (p : Nat) r, rs[p]? = some r → ((p : Int) ∈ ss ↔ miss (ss.take q) r = 0)
  ord : ∀ (i : Nat) s r, ss[i]? = some s → rs[s.toNat]? = some r → ∀ h ∈ r, ∃ j, j < i ∧ ss[j]? = some h
/-- within a turn: l is the settled place at q, done are those of its holders -/
structure Km (rs : List (List Int)) (ms ss : List Int) (q : Nat) (l : Int) (done : List Int) : Prop where
  nd : ss.Nodup
  rng : ∀ s ∈ ss, 0 ≤ s ∧ s < (rs.length : Int)
  cur : ss[q]? = some l
  len : ms.length = rs.length
  val : ∀ (p : Nat) r, rs[p]? = some r → ∃ v : Nat, ms[p]? = some (v : Int) ∧ v + done.count (p : Int) = miss (ss.take q) r ∧ ((p : Int) ∈ ss ↔ v = 0)
  ord : ∀ (i : Nat) s r, ss[i]? = some s → rs[s.toNat]? = some r → ∀ h ∈ r, ∃ j, j < i ∧ ss[j]? = some h
section
variable {rs hs : List (List Int)} {ms ss : List Int} {q : Nat} {l : Int}
theorem Kn.lt (k : Kn rs ms ss q) : ss.length ≤ rs.length := by
  obtain ⟨h1, h2⟩ := nat_list k.nd k.rng
  have := nodup_le h1 h2
  rwa [List.length_map] at this
theorem Km.lt {done : List Int} (k : Km rs ms ss q l done) : ss.length ≤ rs.length := by
  obtain ⟨h1, h2⟩ := nat_list k.nd k.rng
  have := nodup_le h1 h2
  rwa [List.length_map] at this
theorem Kn.open (k : Kn rs ms ss q) (h : ss[q]? = some l) : Km rs ms ss q l [] :=
  ⟨k.nd, k.rng, h, k.len, fun p r hr => ⟨_, k.val p r hr, by rw [List.count_nil]; rfl, k.zero p r hr⟩, k.ord⟩
theorem not_before (nd : ss.Nodup) (h : ss[q]? = some l) : l ∉ ss.take q := fun hm => by
  obtain ⟨i, hi⟩ := List.mem_iff_getElem?.mp hm
  have hi2 := (List.getElem?_eq_some_iff.mp hi).1
  rw [List.length_take] at hi2
  rw [List.getElem?_take_of_lt (by omega)] at hi
  have := at_inj nd hi h
  omega
theorem take_succ_of (h : ss[q]? = some l) : ss.take (q + 1) = ss.take q ++ [l] := by rw [List.take_add_one, h]; rfl
theorem Km.count {done rest : List Int} (k : Km rs ms ss q l done) (hd : Hd rs hs) (hl0 : 0 ≤ l) (hl : hs[l.toNat]? = some (done ++ rest)) {p : Nat} {r : List Int} (hr : rs[p]? = some r) :
    miss (ss.take q) r = miss (ss.take (q + 1)) r + done.count (p : Int) + rest.count (p : Int) := by
  have h1 := hd.2.2 _ _ _ _ hl hr
  rw [List.count_append, show ((l.toNat : Nat) : Int) = l by omega] at h1
  rw [take_succ_of k.cur, miss_push (r := r) (not_before k.nd k.cur), ← h1]
  omega
/-- one holder more -/
theorem Km.step {done rest : List Int} {h : Int} (k : Km rs ms ss q l done) (hd : Hd rs hs) (hl0 : 0 ≤ l) (hl : hs[l.toNat]? = some (done ++ h :: rest)) :
    ∃ v : Nat, 0 ≤ h ∧ h < (rs.length : Int) ∧ ms[h.toNat]? = some ((v + 1 : Nat) : Int) ∧
      (v ≠ 0 → Km rs (ms.set h.toNat (v : Int)) ss q l (done ++ [h])) ∧ (v = 0 → Km rs (ms.set h.toNat 0) (ss ++ [h]) q l (done ++ [h])) := by
  have hrg := hd.2.1 _ (List.mem_of_getElem? hl) h (List.mem_append_right _ List.mem_cons_self)
  have eh : ((h.toNat : Nat) : Int) = h := by omega
  have hlt : h.toNat < rs.length := by omega
  have hr : rs[h.toNat]? = some rs[h.toNat] := List.getElem?_eq_getElem hlt
  obtain ⟨v, hv1, hv2, hv3⟩ := k.val _ _ hr
  have hc := k.count hd hl0 hl hr
  rw [eh] at hc hv2 hv3
  rw [List.count_cons_self] at hc
  obtain ⟨u, rfl⟩ : ∃ u, v = u + 1 := ⟨v - 1, by omega⟩
  have hns : h ∉ ss := fun hm => by have := hv3.mp hm; omega
  have hq : q < ss.length := (List.getElem?_eq_some_iff.mp k.cur).1
  have cnt : ∀ p : Nat, p ≠ h.toNat → (done ++ [h]).count (p : Int) = done.count (p : Int) := fun p hp => by
    rw [List.count_append, List.count_singleton]
    have : ¬ h = (p : Int) := by omega
    simp [this]
  have cnt2 : (done ++ [h]).count h = done.count h + 1 := by rw [List.count_append, List.count_singleton_self]
  have hml : h.toNat < ms.length := by rw [k.len]; exact hlt
  refine ⟨u, hrg.1, hrg.2, hv1, fun hu => ?_, fun hu => ?_⟩
  · refine ⟨k.nd, k.rng, k.cur, by rw [List.length_set]; exact k.len, fun p r hp => ?_, k.ord⟩
    by_cases e : p = h.toNat
    · subst e
      rw [hp] at hr
      cases hr
      rw [eh]
      refine ⟨u, List.getElem?_set_self hml, by rw [cnt2]; omega, fun hm => absurd hm hns, fun z => absurd z hu⟩
    · rw [List.getElem?_set_ne (Ne.symm e), cnt p e]
      exact k.val p r hp
  · subst hu
    have et : (ss ++ [h]).take q = ss.take q := List.take_append_of_le_length (Nat.le_of_lt hq)
    refine ⟨?_, fun s hs => ?_, by rw [List.getElem?_append_left hq]; exact k.cur, by rw [List.length_set]; exact k.len, fun p r hp => ?_, fun i s r hi hs x hx => ?_⟩
    · rw [List.nodup_append]
      exact ⟨k.nd, by simp, fun a ha b hb e => hns (by rw [← List.mem_singleton.mp hb, ← e]; exact ha)⟩
    · rcases List.mem_append.mp hs with z | z
      · exact k.rng s z
      · rw [List.mem_singleton.mp z]; exact hrg
    · rw [et]
      by_cases e : p = h.toNat
      · subst e
        rw [hp] at hr
        cases hr
        rw [eh]
        exact ⟨0, List.getElem?_set_self hml, by rw [cnt2]; omega, fun _ => rfl, fun _ => List.mem_append_right _ (List.mem_singleton.mpr rfl)⟩
      · rw [List.getElem?_set_ne (Ne.symm e), cnt p e]
        obtain ⟨v, a1, a2, a3⟩ := k.val p r hp
        refine ⟨v, a1, a2, ?_⟩
        rw [← a3]
        constructor
        · intro hm
          rcases List.mem_append.mp hm with z | z
          · exact z
          · have := List.mem_singleton.mp z
            omega
        · exact fun hm => List.mem_append_left _ hm
    · by_cases hil : i < ss.length
      · rw [List.getElem?_append_left hil] at hi
        obtain ⟨j, hj, hj2⟩ := k.ord i s r hi hs x hx
        exact ⟨j, hj, by rw [List.getElem?_append_left (by omega)]; exact hj2⟩
      · have h3 := (List.getElem?_eq_some_iff.mp hi).1
        rw [List.length_append, List.length_singleton] at h3
        have ei : i = ss.length := by omega
        rw [ei, List.getElem?_append_right (Nat.le_refl _), Nat.sub_self] at hi
        have es : h = s := Option.some.inj hi
        rw [← es, hr] at hs
        have er := Option.some.inj hs
        have hz : miss (ss.take (q + 1)) rs[h.toNat] = 0 := by omega
        have hm := miss_zero.mp hz x (by rw [er]; exact hx)
        obtain ⟨j, hj⟩ := List.mem_iff_getElem?.mp hm
        have hj2 := (List.getElem?_eq_some_iff.mp hj).1
        rw [List.length_take] at hj2
        rw [List.getElem?_take_of_lt (by omega)] at hj
        exact ⟨j, by omega, by rw [List.getElem?_append_left (by omega)]; exact hj⟩
/-- the turn's end -/
theorem Km.close {done : List Int} (k : Km rs ms ss q l done) (hd : Hd rs hs) (hl0 : 0 ≤ l) (hl : hs[l.toNat]? = some done) : Kn rs ms ss (q + 1) := by
  have hq : q < ss.length := (List.getElem?_eq_some_iff.mp k.cur).1
  refine ⟨k.nd, k.rng, hq, k.len, fun p r hr => ?_, fun p r hr => ?_, k.ord⟩
  · obtain ⟨v, a1, a2, a3⟩ := k.val p r hr
    have hc := k.count (rest := []) hd hl0 (by rw [List.append_nil]; exact hl) hr
    rw [List.count_nil] at hc
    rw [a1]
    congr 2
    omega
  · obtain ⟨v, a1, a2, a3⟩ := k.val p r hr
    have hc := k.count (rest := []) hd hl0 (by rw [List.append_nil]; exact hl) hr
    rw [List.count_nil] at hc
    rw [a3]
    omega
theorem Kn.final (k : Kn rs ms ss q) (hq : ss.length ≤ q) (hin : In rs) : ss.length = rs.length ↔ ∀ x, ¬ Tc (Ed rs) x x := by
  have et : ss.take q = ss := List.take_of_length_le hq
  constructor
  · intro hl x t
    have path : ∀ {a b : Nat}, Tc (Ed rs) a b → ∀ i : Nat, ss[i]? = some (a : Int) → ∃ j, j < i ∧ ss[j]? = some (b : Int) := by
      intro a b t
      induction t with
      | one e =>
        intro i hi
        obtain ⟨r, hr, hb⟩ := e
        exact k.ord i _ r hi (by rw [Int.toNat_natCast]; exact hr) _ hb
      | more _ e ih =>
        intro i hi
        obtain ⟨j, hj, hj2⟩ := ih i hi
        obtain ⟨r, hr, hb⟩ := e
        obtain ⟨m, hm, hm2⟩ := k.ord j _ r hj2 (by rw [Int.toNat_natCast]; exact hr) _ hb
        exact ⟨m, Nat.lt_trans hm hj, hm2⟩
    have hx : x < rs.length := by
      cases t with
      | one e => exact In.gt e
      | more t e => exact hin.lt e
    obtain ⟨h1, h2⟩ := nat_list k.nd k.rng
    have hm := nodup_all h1 h2 (by rw [List.length_map]; exact hl) x hx
    obtain ⟨s, hs, es⟩ := List.mem_map.mp hm
    have hr := k.rng s hs
    have e2 : s = (x : Int) := by omega
    rw [e2] at hs
    obtain ⟨i, hi⟩ := List.mem_iff_getElem?.mp hs
    obtain ⟨j, hj, hj2⟩ := path t i hi
    have := at_inj k.nd hi hj2
    omega
  · intro hno
    refine Classical.byContradiction fun hl => ?_
    have hlt : ss.length < rs.length := Nat.lt_of_le_of_ne k.lt hl
    obtain ⟨h1, h2⟩ := nat_list k.nd k.rng
    obtain ⟨x, hx, hx2⟩ := nodup_miss h1 h2 (by rw [List.length_map]; exact hlt)
    have hU : (x : Int) ∉ ss := fun hm => hx2 (List.mem_map.mpr ⟨_, hm, Int.toNat_natCast x⟩)
    obtain ⟨y, _, hy⟩ := ring_of (E := Ed rs) (n := rs.length) (U := fun v => v < rs.length ∧ (v : Int) ∉ ss) (fun a h => h.1) (fun a ha => by
      have hr : rs[a]? = some rs[a] := List.getElem?_eq_getElem ha.1
      have hz : miss ss rs[a] ≠ 0 := fun z => ha.2 ((k.zero a _ hr).mpr (by rw [et]; exact z))
      obtain ⟨h, hh, hns⟩ : ∃ h, h ∈ rs[a] ∧ h ∉ ss := Classical.byContradiction fun hc => hz (miss_zero.mpr fun h hh => Classical.byContradiction fun q => hc ⟨h, hh, q⟩)
      have hg := hin _ (List.mem_of_getElem? hr) h hh
      have eh : ((h.toNat : Nat) : Int) = h := by omega
      exact ⟨h.toNat, ⟨by omega, by rw [eh]; exact hns⟩, rs[a], hr, by rw [eh]; exact hh⟩) ⟨hx, hU⟩
    exact hno y hy
end
end Lm
namespace Lm
/-! ### bits -/
theorem tb_add {i : Nat} : ∀ {x j : Nat}, x.testBit i = false → (2 ^ i + x).testBit j = (decide (i = j) || x.testBit j) := by
  induction i with
  | zero =>
    intro x j h
    have h0 : x % 2 = 0 := by
      rw [Nat.testBit_zero] at h
      have := of_decide_eq_false h
      omega
    cases j with
    | zero =>
      rw [Nat.testBit_zero]
      have : (2 ^ 0 + x) % 2 = 1 := by show (1 + x) % 2 = 1; omega
      rw [this]
      simp
    | succ j =>
      rw [Nat.testBit_succ, Nat.testBit_succ]
      have : (2 ^ 0 + x) / 2 = x / 2 := by show (1 + x) / 2 = x / 2; omega
      rw [this]
      simp
  | succ i ih =>
    intro x j h
    rw [Nat.testBit_succ] at h
    have e1 : (2 ^ (i + 1) + x) / 2 = 2 ^ i + x / 2 := by
      rw [Nat.pow_succ]; omega
    cases j with
    | zero =>
      rw [Nat.testBit_zero, Nat.testBit_zero]
      have : (2 ^ (i + 1) + x) % 2 = x % 2 := by rw [Nat.pow_succ]; omega
      rw [this]
      simp
    | succ j =>
      rw [Nat.testBit_succ, Nat.testBit_succ, e1, ih h]
      congr 1
      simp
/-- the mask of a row -/
def mask : List Int → Nat
  | [] => 0
  | e :: r => 2 ^ e.toNat + mask r
theorem mask_bit : ∀ {r : List Int}, r.Nodup → (∀ e ∈ r, 0 ≤ e) → ∀ b : Nat, (mask r).testBit b = true ↔ (b : Int) ∈ r
  | [], _, _, b => by simp [mask]
  | e :: r, hn, h0, b => by
    obtain ⟨hn1, hn2⟩ := List.nodup_cons.mp hn
    have h1 := h0 e List.mem_cons_self
    have ih := mask_bit hn2 (fun x hx => h0 x (List.mem_cons_of_mem _ hx))
    have hz : (mask r).testBit e.toNat = false := by
      cases q : (mask r).testBit e.toNat with
      | false => rfl
      | true =>
        have := (ih e.toNat).mp q
        rw [show ((e.toNat : Nat) : Int) = e by omega] at this
        exact absurd this hn1
    show (2 ^ e.toNat + mask r).testBit b = true ↔ _
    rw [tb_add hz, Bool.or_eq_true, decide_eq_true_eq, ih b, List.mem_cons]
    constructor
    · rintro (q | q)
      · exact .inl (by omega)
      · exact .inr q
    · rintro (q | q)
      · exact .inl (by omega)
      · exact .inr q
theorem mask_sum : ∀ r : List Int, ((mask r : Nat) : Int) = (r.map fun e => 1 * (2 : Int) ^ e.toNat).sum
  | [] => rfl
  | e :: r => by
    rw [List.map_cons, List.sum_cons, ← mask_sum r, Int.one_mul]
    show (((2 ^ e.toNat + mask r : Nat)) : Int) = _
    rw [Int.natCast_add, Int.natCast_pow]
    rfl
/-- masks in the stage k, those below a done -/
def Ms (rs : List (List Int)) (k a : Nat) (ms : List Nat) : Prop := ms.length = rs.length ∧
  ∀ (c m : Nat), ms[c]? = some m → ∀ b, m.testBit b = true ↔ (c < a ∧ Via (Ed rs) (k + 1) c b) ∨ (a ≤ c ∧ Via (Ed rs) k c b)
theorem via0 {rs : List (List Int)} {a b : Nat} : Via (Ed rs) 0 a b ↔ Ed rs a b := by
  constructor
  · intro h
    cases h with
    | one e => exact e
    | more _ h _ => exact absurd h (Nat.not_lt_zero _)
  · exact .one
theorem Ms.init {rs : List (List Int)} (hn : ∀ r ∈ rs, r.Nodup) (hin : In rs) : Ms rs 0 0 (rs.map mask) := by
  refine ⟨List.length_map .., fun c m hm b => ?_⟩
  rw [List.getElem?_map] at hm
  cases hr : rs[c]? with
  | none => rw [hr] at hm; cases hm
  | some r =>
    rw [hr] at hm
    rw [← Option.some.inj hm, mask_bit (hn r (List.mem_of_getElem? hr)) (fun e he => (hin r (List.mem_of_getElem? hr) e he).1)]
    constructor
    · exact fun h => .inr ⟨Nat.zero_le _, via0.mpr ⟨r, hr, h⟩⟩
    · rintro (⟨h, _⟩ | ⟨_, h⟩)
      · exact absurd h (Nat.not_lt_zero _)
      · obtain ⟨r', hr', hb⟩ := via0.mp h
        rw [hr] at hr'
        rw [Option.some.inj hr']; exact hb
/-- the mask at k is alike in both stages -/
theorem Ms.own {rs : List (List Int)} {k a : Nat} {ms : List Nat} (h : Ms rs k a ms) {m : Nat} (hm : ms[k]? = some m) (b : Nat) : m.testBit b = true ↔ Via (Ed rs) k k b := by
  rw [h.2 k m hm b]
  constructor
  · rintro (⟨_, q⟩ | ⟨_, q⟩)
    · rcases q.split with z | z
      · exact z
      · exact z.2
    · exact q
  · intro q
    by_cases hk : k < a
    · exact .inl ⟨hk, q.mono (Nat.le_succ k)⟩
    · exact .inr ⟨by omega, q⟩
theorem Ms.next {rs : List (List Int)} {k a : Nat} {ms : List Nat} (h : Ms rs k a ms) {x : Nat} (hx : ∀ b, x.testBit b = true ↔ Via (Ed rs) (k + 1) a b) (ha : a < rs.length) : Ms rs k (a + 1) (ms.set a x) := by
  refine ⟨by rw [List.length_set]; exact h.1, fun c m hm b => ?_⟩
  by_cases e : a = c
  · subst e
    rw [List.getElem?_set_self (by rw [h.1]; exact ha)] at hm
    rw [← Option.some.inj hm, hx b]
    constructor
    · exact fun q => .inl ⟨Nat.lt_succ_self _, q⟩
    · rintro (⟨_, q⟩ | ⟨q, _⟩)
      · exact q
      · omega
  · rw [List.getElem?_set_ne e] at hm
    rw [h.2 c m hm b]
    constructor
    · rintro (⟨q, v⟩ | ⟨q, v⟩)
      · exact .inl ⟨by omega, v⟩
      · exact .inr ⟨by omega, v⟩
    · rintro (⟨q, v⟩ | ⟨q, v⟩)
      · exact .inl ⟨by omega, v⟩
      · exact .inr ⟨by omega, v⟩
theorem Ms.yes {rs : List (List Int)} {k a : Nat} {ms : List Nat} (h : Ms rs k a ms) {x y : Nat} (hx : ms[a]? = some x) (hy : ms[k]? = some y) (t : x.testBit k = true) : Ms rs k (a + 1) (ms.set a (x ||| y)) := by
  have ha : a < rs.length := by rw [← h.1]; exact (List.getElem?_eq_some_iff.mp hx).1
  have hx2 : ∀ b, x.testBit b = true ↔ Via (Ed rs) k a b := fun b => by
    rw [h.2 a x hx b]
    constructor
    · rintro (⟨q, _⟩ | ⟨_, q⟩)
      · omega
      · exact q
    · exact fun q => .inr ⟨Nat.le_refl _, q⟩
  have hak := (hx2 k).mp t
  refine h.next (fun b => ?_) ha
  rw [Nat.testBit_or, Bool.or_eq_true, hx2 b, h.own hy b]
  constructor
  · rintro (q | q)
    · exact q.mono (Nat.le_succ k)
    · exact hak.join q
  · intro q
    rcases q.split with z | z
    · exact .inl z
    · exact .inr z.2
theorem Ms.no {rs : List (List Int)} {k a : Nat} {ms : List Nat} (h : Ms rs k a ms) {x : Nat} (hx : ms[a]? = some x) (t : x.testBit k = false) : Ms rs k (a + 1) ms := by
  have ha : a < rs.length := by rw [← h.1]; exact (List.getElem?_eq_some_iff.mp hx).1
  have hx2 : ∀ b, x.testBit b = true ↔ Via (Ed rs) k a b := fun b => by
    rw [h.2 a x hx b]
    constructor
    · rintro (⟨q, _⟩ | ⟨_, q⟩)
      · omega
      · exact q
    · exact fun q => .inr ⟨Nat.le_refl _, q⟩
  have h2 := h.next (x := x) (fun b => by
    rw [hx2 b]
    constructor
    · exact fun q => q.mono (Nat.le_succ k)
    · intro q
      rcases q.split with z | z
      · exact z
      · have := (hx2 k).mpr z.1
        rw [t] at this
        cases this) ha
  have e : ms.set a x = ms := by
    obtain ⟨hl, e⟩ := List.getElem?_eq_some_iff.mp hx
    rw [← e, List.set_getElem_self]
  rw [e] at h2
  exact h2
theorem Ms.turn {rs : List (List Int)} {k : Nat} {ms : List Nat} (h : Ms rs k rs.length ms) : Ms rs (k + 1) 0 ms := by
  refine ⟨h.1, fun c m hm b => ?_⟩
  have hc : c < rs.length := by rw [← h.1]; exact (List.getElem?_eq_some_iff.mp hm).1
  rw [h.2 c m hm b]
  constructor
  · rintro (⟨_, q⟩ | ⟨q, _⟩)
    · exact .inr ⟨Nat.zero_le _, q⟩
    · omega
  · rintro (⟨q, _⟩ | ⟨_, q⟩)
    · omega
    · exact .inl ⟨hc, q⟩
theorem Ms.final {rs : List (List Int)} {ms : List Nat} (h : Ms rs rs.length 0 ms) (hin : In rs) {c m : Nat} (hm : ms[c]? = some m) (b : Nat) : m.testBit b = true ↔ Tc (Ed rs) c b := by
  rw [h.2 c m hm b]
  constructor
  · rintro (⟨q, _⟩ | ⟨_, q⟩)
    · omega
    · exact q.tc
  · exact fun q => .inr ⟨Nat.zero_le _, Via.of (fun _ _ e => hin.lt e) q⟩
end Lm
namespace Lm
/-! ### the holders, row by row -/
def Hpt (rs hs : List (List Int)) (i : Nat) (done : List Int) : Prop := hs.length = rs.length ∧ (∀ l ∈ hs, ∀ e ∈ l, 0 ≤ e ∧ e < (rs.length : Int)) ∧
  ∀ (l p : Nat) hl, hs[l]? = some hl → hl.count (p : Int) = if p < i then (rs.getD p []).count (l : Int) else if p = i then done.count (l : Int) else 0
theorem Hpt.init (rs : List (List Int)) : Hpt rs (List.replicate rs.length []) 0 [] := by
  refine ⟨List.length_replicate, fun l hl e he => ?_, fun l p hl h => ?_⟩
  · rw [(List.mem_replicate.mp hl).2] at he; exact nomatch he
  · rw [List.getElem?_replicate] at h
    split at h
    · rw [← Option.some.inj h]; simp
    · cases h
theorem Hpt.step {rs hs : List (List Int)} {i : Nat} {done : List Int} (k : Hpt rs hs i done) (hi : i < rs.length) {h : Int} (h0 : 0 ≤ h) {hl : List Int} (e : hs[h.toNat]? = some hl) : Hpt rs (hs.set h.toNat (hl ++ [(i : Int)])) i (done ++ [h]) := by
  have hlt := (List.getElem?_eq_some_iff.mp e).1
  refine ⟨by rw [List.length_set]; exact k.1, fun l hm x hx => ?_, fun l p hl' hp => ?_⟩
  · rcases List.mem_or_eq_of_mem_set hm with q | q
    · exact k.2.1 l q x hx
    · rw [q] at hx
      rcases List.mem_append.mp hx with z | z
      · exact k.2.1 hl (List.mem_of_getElem? e) x z
      · rw [List.mem_singleton.mp z]; omega
  · rw [List.getElem?_set] at hp
    by_cases q : h.toNat = l
    · rw [if_pos q, if_pos hlt] at hp
      have c := k.2.2 l p hl (by rw [← q]; exact e)
      rw [← Option.some.inj hp, List.count_append, c, List.count_append]
      have el : h = (l : Int) := by omega
      rw [el]
      by_cases a : p < i
      · have t : ¬ i = p := by omega
        have t2 : ¬ (i : Int) = (p : Int) := by omega
        rw [List.count_singleton, if_pos a, if_pos a]
        simp [t, t2]
      · by_cases b : p = i
        · subst b; simp
        · have t : ¬ i = p := by omega
          have t2 : ¬ (i : Int) = (p : Int) := by omega
          rw [List.count_singleton, if_neg a, if_neg a, if_neg b, if_neg b]
          simp [t, t2]
    · rw [if_neg q] at hp
      have el : ¬ h = (l : Int) := by omega
      rw [k.2.2 l p hl' hp, List.count_append]
      simp [el]
theorem Hpt.row {rs hs : List (List Int)} {i : Nat} {r : List Int} (k : Hpt rs hs i r) (hr : rs[i]? = some r) : Hpt rs hs (i + 1) [] := by
  refine ⟨k.1, k.2.1, fun l p hl h => ?_⟩
  rw [k.2.2 l p hl h]
  by_cases a : p < i
  · rw [if_pos a, if_pos (by omega)]
  · by_cases b : p = i
    · subst b
      rw [if_neg a, if_pos rfl, if_pos (by omega), List.getD_eq_getElem?_getD, hr]; rfl
    · rw [if_neg a, if_neg b, if_neg (by omega)]; simp
theorem Hpt.final {rs hs : List (List Int)} (k : Hpt rs hs rs.length []) : Hd rs hs := by
  refine ⟨k.1, k.2.1, fun l p hl r h1 h2 => ?_⟩
  have hp := (List.getElem?_eq_some_iff.mp h2).1
  rw [k.2.2 l p hl h1, if_pos hp, List.getD_eq_getElem?_getD, h2]; rfl
/-- the start: the places of empty rows -/
theorem Kn.init {rs : List (List Int)} {ss : List Int} (nd : ss.Nodup) (h : ∀ p : Int, p ∈ ss ↔ 0 ≤ p ∧ rs[p.toNat]? = some []) : Kn rs (rs.map fun r => (r.length : Int)) ss 0 := by
  refine ⟨nd, fun s hs => ?_, Nat.zero_le _, List.length_map .., fun p r hr => ?_, fun p r hr => ?_, fun i s r hi hr x hx => ?_⟩
  · obtain ⟨h0, h1⟩ := (h s).mp hs
    have := (List.getElem?_eq_some_iff.mp h1).1
    omega
  · rw [List.getElem?_map, hr, List.take_zero, miss_nil]; rfl
  · rw [List.take_zero, miss_nil, h, Int.toNat_natCast, hr]
    constructor
    · rintro ⟨_, e⟩; rw [Option.some.inj e]; rfl
    · intro e
      exact ⟨by omega, by rw [List.length_eq_zero_iff.mp e]⟩
  · obtain ⟨_, h1⟩ := (h s).mp (List.mem_of_getElem? hi)
    rw [hr] at h1
    rw [Option.some.inj h1] at hx
    exact nomatch hx
end Lm
/-! set(xs) of a list of ints -/
namespace Lw
open PySem PySem.Spec PyProof.Rows L2
section
variable {P : Program} {w : World} {A : Around} {E : Value → Shared → Prop} {s : Shared}
set_option maxHeartbeats 3200000 in
theorem mk_set_of_list {l : Addr} {its : Array Value} (ns : List Int) {Q : Value → Shared → Prop} (hA : A.handled = none) (hL : s.heap.IsList l its) (hI : IntsAre its.toList ns) (room : ns.length + 1 < scanBound)
    (fin : ∀ (h2 : Heap) (tk c : Nat), SetR w h2 s.heap.objs.size (fun j => decide (j ∈ ns)) c → c ≤ ns.length → (∀ b o, s.heap.get? b = some o → h2.get? b = some o) → Q (.ref s.heap.objs.size) { s with heap := h2, toks := tk }) :
    wpAny (model P w) A (call (.type "set") [.ref l]) Q E s := by
  have len : its.size = ns.length := by rw [← Array.length_toList]; exact IntsAre.length hI
  obtain ⟨c0, t0, mro⟩ := PySem.F.called_set.mro
  have u1 := PySem.F.called_set.made
  have u2 := PySem.F.called_set.sub
  have u3 := PySem.F.called_set.notType
  have u4 := PySem.F.called_set.canCreate
  have u5 := PySem.F.typeCall_set_1 (.ref l)
  refine wpAny_call (codeAny_of_tree ?_)
  show wpAny _ _ (callAny (.type "set") _) _ _ _
  refine wpAny_pure ⟨Code.quiet_builtin _ (by decide +kernel), codeAny_builtin PySem.F.entry_type_call ?_⟩
  rw [Around.under_plain (weight_type_call_type "set" [.ref l] []) rfl]
  repeat (any_goals (first | assumption | wp_step))
  -- the empty set is laid
  generalize hN : ({ cls := .type "set", dict := none, data := .set #[] 0 (.fresh 0 0 (!w.params.followText "set-order")) } : Obj) = N
  refine codeAny_mono (code_set_led1 (.ref l) (E := E) (Q₁ := fun x z => x = .ref s.heap.objs.size ∧ z = { s with heap := s.heap.push N }) ⟨rfl, by rw [hN]⟩) fun r z hr => ?_
  match r, hr with
  | .error e, hr => exact hr
  | .ok .next, hr => exact hr.elim
  | .ok .brk, hr => exact hr.elim
  | .ok .cont, hr => exact hr.elim
  | .ok (.ret x), hr =>
    obtain ⟨rfl, rfl⟩ := hr
    have at0 : (s.heap.push N).get? s.heap.objs.size = some N := Heap.get?_push_size _ (by rw [← hN]; rfl)
    have isSet : Shared.TypeIs { s with heap := s.heap.push N } (.ref s.heap.objs.size) "set" := ⟨_, at0, by rw [← hN]⟩
    have v1 := PySem.F.called_set.init.lookup
    have v2 := PySem.F.called_set.init.bind (.ref s.heap.objs.size)
    repeat (any_goals (first | assumption | wp_step))
    refine codeAny_mono (codeAny_call_builtin (R := wants (fun r z => r = .none ∧ ∃ h2 tk c, z = { s with heap := h2, toks := tk } ∧ SetR w h2 s.heap.objs.size (fun j => decide (j ∈ ns)) c ∧ c ≤ ns.length ∧ ∀ b o, s.heap.get? b = some o → h2.get? b = some o) E)
      PySem.F.called_set.init.plain PySem.F.entry_set_init (check_set_init_1 isSet ?_)) fun r z hr => ?_
    · -- the items are laid in, one by one
      subst hN
      obtain ⟨⟨ocl, odi, oda, osl⟩, at1, e1, n1, e2⟩ := id hL
      simp only at e1 e2
      subst e1; subst e2
      have at2 : (s.heap.push { cls := .type "set", dict := none, data := .set #[] 0 (.fresh 0 0 (!w.params.followText "set-order")) }).get? l = some { cls := .type "list", dict := odi, data := .seq its n1, slots := osl } := Heap.get?_push_of_some _ at1
      have x1 := PySem.F.sub_list_set
      have x2 := PySem.F.sub_list_frozenset
      have x3 : (Value.type "list" == Value.type "dict") = false := by decide
      have lst1 : (s.heap.push { cls := .type "set", dict := none, data := .set #[] 0 (.fresh 0 0 (!w.params.followText "set-order")) }).IsList l its := ⟨_, at2, rfl, n1, rfl⟩
      unfold Builtin.«set.__init__» noKeywords Builtin.Frozenset.updateFrom
      generalize hp : pyIter = pit
      wp_walk
      subst hp
      refine wpAny_pyIter_list lst1 ?_
      refine wpAny_bind (wpAny_runValue ?_)
      have below : l < s.heap.objs.size := Heap.lt_size at1
      have size1 : ∀ o, (s.heap.push o).objs.size = s.heap.objs.size + 1 := fun o => Heap.size_push ..
      have nl : ∀ o, l ≠ (s.heap.push o).objs.size := fun o => by rw [size1]; exact Nat.ne_of_lt (Nat.lt_succ_of_lt below)
      have nS : ∀ o, s.heap.objs.size ∉ [(s.heap.push o).objs.size, l] := fun o z => by
        rcases List.mem_cons.mp z with z | z
        · rw [size1] at z; exact absurd z (Nat.ne_of_lt (Nat.lt_succ_self _))
        · exact absurd (List.mem_singleton.mp z) (Nat.ne_of_gt below)
      have vals : ∀ (i : Nat) (v : Value), its[i]? = some v → ∃ k t, ns[i]? = some k ∧ v = .int k t := fun i v hv => by
        have hi : i < ns.length := by rw [← len]; exact (Array.getElem?_eq_some_iff.mp hv).1
        obtain ⟨t, e⟩ := PyProof.Rows.IntsAre.int_at hI i v (by rw [Array.getElem?_toList]; exact hv)
        exact ⟨ns[i], t, List.getElem?_eq_getElem hi, by rw [e, List.getD_eq_getElem?_getD, List.getElem?_eq_getElem hi]; rfl⟩
      refine set_update_ints ((Walks.list (by simp [hA]) _ l (nl _) its).toS) s.heap.objs.size (nS _) ns len room vals (its.size - 0) 0 _ (by omega) (Nat.zero_le _) ⟨⟨_, Heap.get?_push_size _ rfl, rfl, rfl⟩, lst1.push _⟩ ?_ ?_
      · refine ⟨0, Nat.le_refl 0, setR_new_at ?_⟩
        exact Heap.get?_push_of_some _ at0
      · rintro ⟨h3, g3, d3, t3, o3⟩ c mv hc hS
        have q1 : g3 = s.gens := mv.gens
        have q2 : d3 = s.drawn := mv.drawn
        have q3 : o3 = s.os := mv.os
        subst q1 q2 q3
        show wpAny _ _ _ _ _ _
        refine wpAny_pure ?_
        show wpAny _ _ (ret Value.none) _ _ _
        refine wpAny_pure ⟨rfl, h3, t3, c, rfl, hS, by rw [← len]; exact hc, fun b o e => ?_⟩
        have hb := Heap.lt_size e
        refine mv.heap b o (fun z => ?_) (Heap.get?_push_of_some _ (Heap.get?_push_of_some _ e))
        rcases List.mem_cons.mp z with z | z
        · exact absurd z (Nat.ne_of_lt hb)
        · rw [List.mem_singleton.mp z, size1] at hb
          exact absurd hb (Nat.not_lt_of_le (Nat.le_succ _))
    · match r, hr with
      | .error e, hr => exact hr
      | .ok .next, hr => exact hr.elim
      | .ok .brk, hr => exact hr.elim
      | .ok .cont, hr => exact hr.elim
      | .ok (.ret x), hr =>
        obtain ⟨rfl, h3, t3, c, rfl, hS, hc, hk⟩ := hr
        repeat (any_goals (first | assumption | wp_step))
        exact fin _ _ _ hS hc hk
end
/-- set(xs) -/
def rSetOf (w : World) (K : PySem.W.Frag) : List V → Hp → VK → Prop := fun vs H Q => ∃ (a : Addr) (ns : List Int), vs = [V.ref a] ∧ SqL K H a (ns.map V.int) ∧ ns.length ≤ 1000 ∧
  ∀ (c : Nat) (p : Addr), c ≤ ns.length → H p = none → Q (.ref p) (upd H p (SetO w p (fun j => decide (j ∈ ns)) c))
section
variable {X : Cx} {K : PySem.W.Frag} {w : World}
theorem cr_setOf (h : X.K = K) (hw : X.w = w) (hc : X.calm = true) : CallR X (.type "set") (rSetOf w K) := by
  subst h hw
  intro pins s σ H xs us Q I r hq
  obtain ⟨a, ns, rfl, hS, hl, q⟩ := hq
  rw [Vals.ref1 r]
  obtain ⟨its, rv, pl, hz⟩ := I.list hS
  refine mk_set_of_list ns (I.ok.hd hc) pl.isList (by simpa using Vals.ints rv) (by unfold scanBound; omega) fun h2 tk c R hcn keep => ?_
  have hn : H s.heap.objs.size = none := I.hok.fresh (Nat.le_refl _)
  exact ⟨.ref _, upd H s.heap.objs.size (SetO X.w s.heap.objs.size (fun j => decide (j ∈ ns)) c), I.laid (t' := tk) keep (Nat.le_refl _) (setO_new R), rfl, q c _ hcn hn⟩
theorem cr_sortedSetK (hw : X.w = w) (hc : X.calm = true) : CallR X (.builtin "sorted") (rSortedSet w) := by subst hw; exact cr_sortedSet hc
end
end Lw
namespace Lw
open PySem PySem.Spec PyProof.Rows L2
section
variable {K : PySem.W.Frag} {w : World} {H : Hp} {Q : VK}
theorem r_setOf {a : Addr} {ns : List Int} (h : H a = some (.lst (ns.map V.int))) (hl : ns.length ≤ 1000) (q : ∀ (c : Nat) (p : Addr), c ≤ ns.length → H p = none → Q (.ref p) (upd H p (SetO w p (fun j => decide (j ∈ ns)) c))) : rSetOf w K [.ref a] H Q := ⟨a, ns, rfl, SqL.of h, hl, q⟩
theorem r_sortedSet {a : Addr} {S : Int → Bool} {n : Nat} (h : H a = some (SetO w a S n)) (hl : n < 64) (q : ∀ (ns : List Int) (p : Addr), ns.Pairwise (· < ·) → (∀ k : Int, k ∈ ns ↔ S k = true) → ns.length = n → H p = none → Q (.ref p) (upd H p (.lst (ns.map V.int)))) : rSortedSet w [.ref a] H Q := ⟨a, S, n, rfl, h, hl, q⟩
theorem r_index {a : Addr} {ns : List Int} {y : Int} {j : Nat} (h : H a = some (.lst (ns.map V.int))) (h1 : ns[j]? = some y) (h2 : ∀ m, m < j → ns[m]? ≠ some y) (q : Q (.int j) H) : rIndex K (.ref a) [.int y] H Q := by
  refine ⟨a, ns.map V.int, .int y, j, .int y, rfl, rfl, SqL.of h, rfl, ?_, by rw [List.getElem?_map, h1]; rfl, by simp [eqV], fun m z' hm hz => ?_, q⟩
  · rw [List.all_map]; exact List.all_eq_true.mpr fun x _ => rfl
  · rw [List.getElem?_map] at hz
    cases e : ns[m]? with
    | none => rw [e] at hz; cases hz
    | some x =>
      rw [e] at hz
      rw [← Option.some.inj hz]
      have hne : x ≠ y := fun z => h2 m hm (by rw [e, z])
      simp [eqV, hne]
end
theorem first_at {ns : List Int} {y : Int} (h : y ∈ ns) : ∃ j : Nat, ns[j]? = some y ∧ (∀ m, m < j → ns[m]? ≠ some y) ∧ j < ns.length := by
  induction ns with
  | nil => cases h
  | cons a r ih =>
    by_cases e : a = y
    · exact ⟨0, by rw [e]; rfl, fun m hm => absurd hm (Nat.not_lt_zero _), Nat.succ_pos _⟩
    · have h2 : y ∈ r := by
        rcases List.mem_cons.mp h with q | q
        · exact absurd q.symm e
        · exact q
      obtain ⟨j, h3, h4, h5⟩ := ih h2
      refine ⟨j + 1, h3, fun m hm => ?_, Nat.succ_lt_succ h5⟩
      cases m with
      | zero => exact fun q => e (Option.some.inj q)
      | succ m => exact h4 m (Nat.lt_of_succ_lt_succ hm)
end Lw
namespace Lw
theorem perm_ins {α : Type} (r : List α) (n : Nat) (k : α) : (r.take n ++ [k] ++ r.drop n).Perm (r ++ [k]) := by
  rw [List.append_assoc]
  have h := (List.perm_append_comm (l₁ := [k]) (l₂ := r.drop n)).append_left (r.take n)
  have e : r.take n ++ (r.drop n ++ [k]) = r ++ [k] := by rw [← List.append_assoc, List.take_append_drop]
  rw [e] at h
  exact h
end Lw
namespace Lw
open PySem PySem.Spec PyProof.Rows L2
section
variable {K : PySem.W.Frag} {H : Hp} {Q : VK}
theorem r_inI {neg : Bool} {a : Addr} {ns : List Int} {z : Int} (h : H a = some (.lst (ns.map V.int))) (q : Q (.bl (if neg then !decide (z ∈ ns) else decide (z ∈ ns))) H) : rIn K neg (.int z) (.ref a) H Q := by
  have e : inV (.int z) (ns.map V.int) = decide (z ∈ ns) := by
    unfold inV
    rw [List.any_map]
    by_cases h : z ∈ ns
    · rw [decide_eq_true h]; exact List.any_eq_true.mpr ⟨z, h, by simp [eqV]⟩
    · rw [decide_eq_false h]
      refine List.any_eq_false.mpr fun x hx => ?_
      have hne : x ≠ z := fun e => h (e ▸ hx)
      simp [eqV, hne]
  refine ⟨a, ns.map V.int, rfl, .inl (SqL.of h), rfl, ?_, ?_⟩
  · rw [List.all_map]; exact List.all_eq_true.mpr fun x _ => rfl
  · rw [e]; exact q
theorem r_cat {a b : Addr} {xs ys : List V} (h1 : H a = some (.lst xs)) (h2 : H b = some (.lst ys)) (hz : xs.length + ys.length ≤ 100000) (q : ∀ p, H p = none → Q (.ref p) (upd H p (.lst (xs ++ ys)))) : rCat (.ref a) (.ref b) H Q := ⟨a, b, xs, ys, rfl, rfl, h1, h2, Nat.le_of_lt (small hz), q⟩
theorem r_iteB {b : Bool} {A B : Prop} (h1 : b = true → A) (h2 : b = false → B) : if b = true then A else B := by
  cases b
  · rw [if_neg (by decide)]; exact h2 rfl
  · rw [if_pos rfl]; exact h1 rfl
end
end Lw
/-! lists of ints and lists of lists of ints as data, for == -/
namespace Lw
open PySem PySem.Spec PyProof.Rows L2
def dI (xs : List Int) : PyData := .list (xs.map PyData.int)
def dR (rs : List (List Int)) : PyData := .list (rs.map dI)
section
variable {K : PySem.W.Frag} {H : Hp}
theorem dpAllI : ∀ xs : List Int, DpAll K H (xs.map V.int) (xs.map PyData.int)
  | [] => .nil
  | x :: r => .cons (.int x) (dpAllI r)
theorem dpI {a : Addr} {xs : List Int} (h : H a = some (.lst (xs.map V.int))) : Dp K H (.ref a) (dI xs) := .lst (SqL.of h) (dpAllI xs)
theorem dpAllR : ∀ {as : List Addr} {rs : List (List Int)}, Rw H as rs → DpAll K H (as.map V.ref) (rs.map dI)
  | [], [], _ => .nil
  | [], _ :: _, h => by have := h.1; simp at this
  | _ :: _, [], h => by have := h.1; simp at this
  | a :: as, r :: rs, h => by
    obtain ⟨r', h1, h2⟩ := h.2 0 a rfl
    have e : r = r' := Option.some.inj h1
    refine .cons (dpI (by rw [e]; exact h2)) (dpAllR ⟨by have := h.1; simpa using this, fun i b hb => ?_⟩)
    obtain ⟨r2, h3, h4⟩ := h.2 (i + 1) b hb
    exact ⟨r2, h3, h4⟩
theorem dpR {a : Addr} {as : List Addr} {rs : List (List Int)} (h : H a = some (.lst (as.map V.ref))) (hr : Rw H as rs) : Dp K H (.ref a) (dR rs) := .lst (SqL.of h) (dpAllR hr)
end
theorem layI : ∀ xs : List Int, PyData.canLayAll0 (xs.map PyData.int) = true
  | [] => rfl
  | x :: r => by
    show (true && PyData.canLayAll0 (r.map PyData.int)) = true
    rw [layI r]; rfl
theorem layR : ∀ rs : List (List Int), PyData.canLayAll0 (rs.map dI) = true
  | [] => rfl
  | x :: r => by
    show (PyData.canLay0 (dI x) && PyData.canLayAll0 (r.map dI)) = true
    rw [layR r]
    show (PyData.canLayAll0 (x.map PyData.int) && true) = true
    rw [layI x]; rfl
theorem eqI : ∀ xs ys : List Int, PyData.eqvAll (xs.map PyData.int) (ys.map PyData.int) = decide (xs = ys)
  | [], [] => by simp [PyData.eqvAll]
  | [], _ :: _ => by simp [PyData.eqvAll]
  | _ :: _, [] => by simp [PyData.eqvAll]
  | x :: xs, y :: ys => by
    rw [List.map_cons, List.map_cons, PyData.eqvAll, eqI xs ys, PyData.eqv]
    by_cases h : x = y <;> by_cases h2 : xs = ys <;> simp [h, h2]
theorem eqR : ∀ xs ys : List (List Int), PyData.eqvAll (xs.map dI) (ys.map dI) = decide (xs = ys)
  | [], [] => by simp [PyData.eqvAll]
  | [], _ :: _ => by simp [PyData.eqvAll]
  | _ :: _, [] => by simp [PyData.eqvAll]
  | x :: xs, y :: ys => by
    rw [List.map_cons, List.map_cons, PyData.eqvAll, eqR xs ys, show PyData.eqv (dI x) (dI y) = decide (x = y) from by unfold dI; rw [PyData.eqv, eqI]]
    by_cases h : x = y <;> by_cases h2 : xs = ys <;> simp [h, h2]
end Lw
namespace Lw
open PySem PySem.Spec PyProof.Rows L2
theorem depI : ∀ xs : List Int, PyData.depthAll (xs.map PyData.int) = 0
  | [] => by simp [PyData.depthAll]
  | x :: r => by rw [List.map_cons, PyData.depthAll, depI r, PyData.depth]; rfl
theorem depR : ∀ rs : List (List Int), PyData.depthAll (rs.map dI) ≤ 1
  | [] => by simp [PyData.depthAll]
  | x :: r => by
    rw [List.map_cons, PyData.depthAll, show PyData.depth (dI x) = 1 from by unfold dI; rw [PyData.depth, depI]]
    exact Nat.max_le.mpr ⟨Nat.le_refl 1, depR r⟩
theorem shI (xs : List Int) : SeqAt.shaped (dI xs) = true := by
  unfold SeqAt.shaped
  rw [show PyData.canLay0 (dI xs) = true from by unfold dI; rw [PyData.canLay0]; exact layI xs, show PyData.depth (dI xs) = 1 from by unfold dI; rw [PyData.depth, depI]]
  rfl
theorem shR (rs : List (List Int)) : SeqAt.shaped (dR rs) = true := by
  unfold SeqAt.shaped
  rw [show PyData.canLay0 (dR rs) = true from by unfold dR; rw [PyData.canLay0]; exact layR rs]
  have h : PyData.depth (dR rs) ≤ 64 := by unfold dR; rw [PyData.depth]; have := depR rs; omega
  rw [decide_eq_true h]; rfl
section
variable {K : PySem.W.Frag} {σ : L2.St} {H : Hp} {Q : VK} {D : Ends}
theorem r_eqI {a b : Addr} {xs ys : List Int} (h1 : H a = some (.lst (xs.map V.int))) (h2 : H b = some (.lst (ys.map V.int))) (q : Q (.bl (decide (xs = ys))) H) : rEqD K (.ref a) (.ref b) H Q :=
  ⟨dI xs, dI ys, dpI h1, dpI h2, shI xs, shI ys, by unfold dI; rw [PyData.eqv, eqI]; exact q⟩
theorem r_neI {a b : Addr} {xs ys : List Int} (h1 : H a = some (.lst (xs.map V.int))) (h2 : H b = some (.lst (ys.map V.int))) (q : Q (.bl (!decide (xs = ys))) H) : rNeD K (.ref a) (.ref b) H Q :=
  ⟨dI xs, dI ys, dpI h1, dpI h2, shI xs, shI ys, by unfold dI; rw [PyData.eqv, eqI]; exact q⟩
theorem r_eqR {a b : Addr} {as bs : List Addr} {xs ys : List (List Int)} (h1 : H a = some (.lst (as.map V.ref))) (h2 : H b = some (.lst (bs.map V.ref))) (r1 : Rw H as xs) (r2 : Rw H bs ys) (q : Q (.bl (decide (xs = ys))) H) : rEqD K (.ref a) (.ref b) H Q :=
  ⟨dR xs, dR ys, dpR h1 r1, dpR h2 r2, shR xs, shR ys, by unfold dR; rw [PyData.eqv, eqR]; exact q⟩
theorem r_while {c : TT} {tb : TS} (Pv : Nat → L2.St → Hp → Prop) (h0 : ∃ m, Pv m σ H) (hs : ∀ m σ H, Pv m σ H → c σ H fun b H1 => if b = true then ∃ N : L2.St → Hp → Prop, (∀ σ' H', N σ' H' → ∃ m', m' < m ∧ Pv m' σ' H') ∧ tb { D with nx := N, ct := N, bk := D.nx } σ H1 else D.nx σ H1) : tWhile c tb D σ H := ⟨Pv, h0, hs⟩
end
end Lw
/-! enumerate: loops and comprehensions; rows that are written -/
namespace Lw
open PySem PySem.Spec PyProof.Rows L2
section
variable {K : PySem.W.Frag} {σ : L2.St} {H : Hp} {D : Ends} {g : TG} {tb : TS}
theorem r_forE {a : Addr} {xs : List V} (hx : H a = some (.lst xs)) (Pv : Nat → L2.St → Hp → Prop) (h0 : Pv 0 σ H) (hl : ∀ i σ H, i ≤ xs.length → Pv i σ H → H a = some (.lst xs))
    (hs : ∀ i x σ H t, xs[i]? = some x → Pv i σ H → H t = none → g (.ref t) σ (upd H t (.tup [.int (i : Nat), x])) fun σ2 H2 => tb { D with nx := Pv (i + 1), ct := Pv (i + 1), bk := D.nx } σ2 H2) (hd : ∀ σ H, Pv xs.length σ H → D.nx σ H) :
    ∃ b ys, [V.ref a] = [.ref b] ∧ SqL K H b ys ∧ ∃ W : Nat → Nat → L2.St → Hp → Prop, (∃ m, W 0 m σ H) ∧ ∀ i m σ H, W i m σ H →
      ((Ite K b).stop i H ∧ D.nx σ H) ∨ ((Ite K b).go i H ∧ ∃ N : L2.St → Hp → Prop, (∀ σ' H', N σ' H' → ∃ m', m' < m ∧ W (i + 1) m' σ' H') ∧ ∀ x H', (Ite K b).yld i H x H' → g x σ H' fun σ2 H2 => tb { D with nx := N, ct := N, bk := D.nx } σ2 H2) := by
  refine ⟨a, xs, rfl, SqL.of hx, fun i m σ H => m = xs.length - i ∧ i ≤ xs.length ∧ Pv i σ H, ⟨xs.length, by simp, Nat.zero_le _, h0⟩, ?_⟩
  rintro i m σ H ⟨rfl, hi, p⟩
  have q := hl i σ H hi p
  by_cases hlt : i < xs.length
  · refine .inr ⟨⟨xs, xs[i], SqL.of q, by simp [hlt]⟩, Pv (i + 1), fun σ' H' p' => ⟨xs.length - (i + 1), by omega, rfl, hlt, p'⟩, fun x H' y => ?_⟩
    obtain ⟨t, x', rfl, nt, rfl, y⟩ := y
    exact hs i x' σ H t (y xs (SqL.of q)) p nt
  · have e : i = xs.length := by omega
    subst e
    exact .inl ⟨⟨xs, SqL.of q, Nat.le_refl _⟩, hd σ H p⟩
end
section
variable {S : Type} {F : S → Hp → Hp} {ok : S → Hp → Prop} (T : TopOk F ok) {σ : L2.St} {g : TG} {tt : TT} {te : TE} {vs : List Nat} {Q : Addr → Hp → Prop}
include T
theorem lcT_enum {K : PySem.W.Frag} {s0 : S} {B : Hp} (k : ok s0 B) {a : Addr} {xs : List V} (ha : B a = some (.lst xs)) (Pv : Nat → Hp → List V → Prop) (mono : ∀ i C C' acc, Same C C' → Pv i C acc → Pv i C' acc) (h0 : Pv 0 B [])
    (hs : ∀ D i x s C acc t, ok s (upd C D (.lst acc)) → C D = none → Same B C → xs[i]? = some x → C t = some (.tup [.int (i : Nat), x]) → Pv i C acc → g (.ref t) (wipe σ vs) (F s (upd C D (.lst acc))) fun σ2 H2 => wipe σ2 vs = wipe σ vs ∧ tt σ2 H2 fun b H3 =>
      if b = true then te σ2 H3 fun y H4 => ∃ acc', H4 D = some (.lst acc') ∧ acc'.length < sizeLine ∧ LcN F ok B D (Pv (i + 1)) (upd H4 D (.lst (acc' ++ [y]))) else LcN F ok B D (Pv (i + 1)) H3)
    (hd : ∀ D s C acc, ok s (upd C D (.lst acc)) → B D = none → C D = none → Same B C → Pv xs.length C acc → Q D (F s (upd C D (.lst acc)))) :
    ∃ b ys, [V.ref a] = [.ref b] ∧ SqL K (F s0 B) b ys ∧ ∀ D, (F s0 B) D = none → ∃ W : Nat → Nat → Hp → Prop, (∃ m, W 0 m (upd (F s0 B) D (.lst []))) ∧ ∀ i m H, W i m H →
      ((Ite K b).stop i H ∧ Q D H) ∨ ((Ite K b).go i H ∧ ∃ Nx : Hp → Prop, (∀ H', Nx H' → ∃ m', m' < m ∧ W (i + 1) m' H') ∧ ∀ x H', (Ite K b).yld i H x H' → g x (wipe σ vs) H' fun σ2 H2 => wipe σ2 vs = wipe σ vs ∧ tt σ2 H2 fun b H3 =>
        if b = true then te σ2 H3 fun y H4 => ∃ acc, H4 D = some (.lst acc) ∧ acc.length < sizeLine ∧ Nx (upd H4 D (.lst (acc ++ [y]))) else Nx H3) := by
  refine ⟨a, xs, rfl, SqL.of (T.get _ _ _ _ k ha), fun D hD => ?_⟩
  obtain ⟨hB, hn⟩ := T.new s0 B D k hD
  refine ⟨fun i m H => m = xs.length - i ∧ i ≤ xs.length ∧ LcN F ok B D (Pv i) H, ⟨xs.length, by simp, Nat.zero_le _, ?_⟩, ?_⟩
  · rw [(hn _).1]
    exact ⟨s0, B, [], rfl, (hn _).2, hB, Same.refl B, h0⟩
  · rintro i m H ⟨rfl, hi, s, C, acc, rfl, k', hD', hS, hp⟩
    have hA : SqL K (F s (upd C D (.lst acc))) a xs := SqL.of (T.get _ _ _ _ k' (upd_old hD' (hS _ _ ha)))
    by_cases hlt : i < xs.length
    · refine .inr ⟨⟨xs, xs[i], hA, by simp [hlt]⟩, fun H' => LcN F ok B D (Pv (i + 1)) H', fun H' p' => ⟨xs.length - (i + 1), by omega, rfl, hlt, p'⟩, fun x H' y => ?_⟩
      obtain ⟨t, x', rfl, nt, rfl, y⟩ := y
      obtain ⟨e, k2, hD2, n2, ne2⟩ := newTD_eq T k' hD' nt (.tup [.int (i : Nat), x'])
      rw [e]
      exact hs D i x' s _ acc t k2 hD2 (hS.trans (same_new n2)) (y xs hA) upd_same (mono _ _ _ _ (same_new n2) hp)
    · have e : i = xs.length := by omega
      subst e
      exact .inl ⟨⟨xs, hA, Nat.le_refl _⟩, hd D s C acc k' hB hD' hS hp⟩
end
theorem Rw.write {C : Hp} {as : List Addr} {rs : List (List Int)} (h : Rw C as rs) (hn : as.Nodup) {k : Nat} {b : Addr} (hb : as[k]? = some b) (r' : List Int) : Rw (upd C b (.lst (r'.map V.int))) as (rs.set k r') := by
  refine ⟨by rw [List.length_set, h.1], fun i c hc => ?_⟩
  by_cases e : k = i
  · subst e
    rw [hb] at hc
    cases hc
    have hk := (List.getElem?_eq_some_iff.mp hb).1
    exact ⟨r', List.getElem?_set_self (by rw [← h.1]; exact hk), upd_same⟩
  · obtain ⟨r, h1, h2⟩ := h.2 i c hc
    have hne : c ≠ b := fun q => by
      rw [q] at hc
      exact e (nd_ix hn hb hc)
    exact ⟨r, by rw [List.getElem?_set_ne e]; exact h1, by rw [upd_ne hne]; exact h2⟩
theorem r_enumE {K : PySem.W.Frag} {σ : L2.St} {H : Hp} {ta : TA} {R : It → Hp → Prop} (h : ta σ H fun vs H1 => ∃ a xs, vs = [.ref a] ∧ SqL K H1 a xs ∧ R (Ite K a) H1) : iEnum K ta σ H R := h
end Lw
namespace Lw
open PySem PySem.Spec PyProof.Rows L2
theorem r_isi {K : PySem.W.Frag} {H : Hp} {Q : VK} {x : V} {a b : String} {r : Bool} (ty : TyX K H x (.type a)) (k : kitB a b = some r) (q : Q (.bl r) H) : rIsi K [x, .ty b] H Q := ⟨x, .ty b, .type a, .type b, r, rfl, .ty b, ty, kit_ty k, q⟩
end Lw
/-! rows of any kind, tuples in lists, comprehensions with two fors, deep `in` and `index`, defs with keyword-only parameters -/
namespace Lw
open PySem PySem.Spec PyProof.Rows L2
/-! ### rows of any kind -/
def Ro {α : Type} (f : α → V) (C : Hp) (as : List Addr) (rs : List (List α)) : Prop := as.length = rs.length ∧ ∀ (i : Nat) (b : Addr), as[i]? = some b → ∃ r, rs[i]? = some r ∧ C b = some (.lst (r.map f))
section
variable {α : Type} {f : α → V}
theorem Ro.nil {C : Hp} : Ro f C [] [] := ⟨rfl, fun i b h => by simp at h⟩
theorem Ro.mono {C C' : Hp} {as : List Addr} {rs : List (List α)} (h : Ro f C as rs) (s : Same C C') : Ro f C' as rs :=
  ⟨h.1, fun i b e => by obtain ⟨r, h1, h2⟩ := h.2 i b e; exact ⟨r, h1, s _ _ h2⟩⟩
theorem Ro.push {C : Hp} {as : List Addr} {rs : List (List α)} {b : Addr} {r : List α} (h : Ro f C as rs) (e : C b = some (.lst (r.map f))) : Ro f C (as ++ [b]) (rs ++ [r]) := by
  refine ⟨by rw [List.length_append, List.length_append, h.1]; rfl, fun i c hc => ?_⟩
  by_cases hi : i < as.length
  · rw [List.getElem?_append_left hi] at hc
    obtain ⟨r', h1, h2⟩ := h.2 i c hc
    exact ⟨r', by rw [List.getElem?_append_left (by rw [← h.1]; exact hi)]; exact h1, h2⟩
  · rw [List.getElem?_append_right (by omega)] at hc
    have h0 : i - as.length = 0 := by
      have := (List.getElem?_eq_some_iff.mp hc).1
      rw [List.length_singleton] at this; omega
    rw [h0] at hc
    cases hc
    exact ⟨r, by rw [List.getElem?_append_right (by rw [← h.1]; omega), ← h.1, h0]; rfl, e⟩
theorem Ro.at {C : Hp} {as : List Addr} {rs : List (List α)} {i : Nat} {x : V} (h : Ro f C as rs) (e : (as.map V.ref)[i]? = some x) : ∃ b r, x = .ref b ∧ as[i]? = some b ∧ rs[i]? = some r ∧ C b = some (.lst (r.map f)) := by
  rw [List.getElem?_map] at e
  cases q : as[i]? with
  | none => rw [q] at e; cases e
  | some b =>
    rw [q] at e
    obtain ⟨r, h1, h2⟩ := h.2 i b q
    exact ⟨b, r, (Option.some.inj e).symm, rfl, h1, h2⟩
theorem Ro.get {C : Hp} {as : List Addr} {rs : List (List α)} {i : Nat} {r : List α} (h : Ro f C as rs) (e : rs[i]? = some r) : ∃ b, as[i]? = some b ∧ (as.map V.ref)[i]? = some (.ref b) ∧ C b = some (.lst (r.map f)) := by
  have hi : i < as.length := by rw [h.1]; exact (List.getElem?_eq_some_iff.mp e).1
  obtain ⟨r', h1, h2⟩ := h.2 i _ (List.getElem?_eq_getElem hi)
  rw [e] at h1; cases h1
  exact ⟨_, List.getElem?_eq_getElem hi, by rw [List.getElem?_map, List.getElem?_eq_getElem hi]; rfl, h2⟩
theorem Ro.write {C : Hp} {as : List Addr} {rs : List (List α)} (h : Ro f C as rs) (hn : as.Nodup) {k : Nat} {b : Addr} (hb : as[k]? = some b) (r' : List α) : Ro f (upd C b (.lst (r'.map f))) as (rs.set k r') := by
  refine ⟨by rw [List.length_set, h.1], fun i c hc => ?_⟩
  by_cases e : k = i
  · subst e
    rw [hb] at hc
    cases hc
    exact ⟨r', List.getElem?_set_self (by rw [← h.1]; exact (List.getElem?_eq_some_iff.mp hb).1), upd_same⟩
  · obtain ⟨r, h1, h2⟩ := h.2 i c hc
    refine ⟨r, by rw [List.getElem?_set_ne e]; exact h1, ?_⟩
    rw [upd_ne]
    · exact h2
    · intro z
      subst z
      obtain ⟨h3, e3⟩ := List.getElem?_eq_some_iff.mp hb
      obtain ⟨h4, e4⟩ := List.getElem?_eq_some_iff.mp hc
      exact e ((List.getElem_inj hn).mp (e3.trans e4.symm))
theorem Ro.isRw {C : Hp} {as : List Addr} {rs : List (List Int)} : Ro V.int C as rs ↔ Rw C as rs := Iff.rfl
theorem bls_at {r : List Bool} {i : Nat} {x : V} (e : (r.map V.bl)[i]? = some x) : ∃ z, x = .bl z ∧ r[i]? = some z := by
  rw [List.getElem?_map] at e
  cases q : r[i]? with
  | none => rw [q] at e; cases e
  | some z => rw [q] at e; exact ⟨z, (Option.some.inj e).symm, rfl⟩
theorem map_at {r : List α} {i : Nat} {z : α} (e : r[i]? = some z) : (r.map f)[i]? = some (f z) := by rw [List.getElem?_map, e]; rfl
end
/-! ### pairs of ints in a list -/
def Tp (C : Hp) (ts : List Addr) (qs : List (Int × Int)) : Prop := ts.length = qs.length ∧ ∀ (i : Nat) (b : Addr), ts[i]? = some b → ∃ q, qs[i]? = some q ∧ C b = some (.tup [.int q.1, .int q.2])
theorem Tp.nil {C : Hp} : Tp C [] [] := ⟨rfl, fun i b h => by simp at h⟩
theorem Tp.mono {C C' : Hp} {ts : List Addr} {qs : List (Int × Int)} (h : Tp C ts qs) (s : Same C C') : Tp C' ts qs :=
  ⟨h.1, fun i b e => by obtain ⟨r, h1, h2⟩ := h.2 i b e; exact ⟨r, h1, s _ _ h2⟩⟩
theorem Tp.push {C : Hp} {ts : List Addr} {qs : List (Int × Int)} {b : Addr} {q : Int × Int} (h : Tp C ts qs) (e : C b = some (.tup [.int q.1, .int q.2])) : Tp C (ts ++ [b]) (qs ++ [q]) := by
  refine ⟨by rw [List.length_append, List.length_append, h.1]; rfl, fun i c hc => ?_⟩
  by_cases hi : i < ts.length
  · rw [List.getElem?_append_left hi] at hc
    obtain ⟨r', h1, h2⟩ := h.2 i c hc
    exact ⟨r', by rw [List.getElem?_append_left (by rw [← h.1]; exact hi)]; exact h1, h2⟩
  · rw [List.getElem?_append_right (by omega)] at hc
    have h0 : i - ts.length = 0 := by
      have := (List.getElem?_eq_some_iff.mp hc).1
      rw [List.length_singleton] at this; omega
    rw [h0] at hc
    cases hc
    exact ⟨q, by rw [List.getElem?_append_right (by rw [← h.1]; omega), ← h.1, h0]; rfl, e⟩
theorem Tp.at {C : Hp} {ts : List Addr} {qs : List (Int × Int)} {i : Nat} {x : V} (h : Tp C ts qs) (e : (ts.map V.ref)[i]? = some x) : ∃ b q, x = .ref b ∧ ts[i]? = some b ∧ qs[i]? = some q ∧ C b = some (.tup [.int q.1, .int q.2]) := by
  rw [List.getElem?_map] at e
  cases q : ts[i]? with
  | none => rw [q] at e; cases e
  | some b =>
    rw [q] at e
    obtain ⟨r, h1, h2⟩ := h.2 i b q
    exact ⟨b, r, (Option.some.inj e).symm, rfl, h1, h2⟩
theorem Tp.keep {C C' : Hp} {ts : List Addr} {qs : List (Int × Int)} (h : Tp C ts qs) (s : ∀ t ∈ ts, C' t = C t) : Tp C' ts qs :=
  ⟨h.1, fun i b e => by obtain ⟨r, h1, h2⟩ := h.2 i b e; exact ⟨r, h1, by rw [s b (List.mem_of_getElem? e)]; exact h2⟩⟩
theorem Ro.keep {α : Type} {f : α → V} {C C' : Hp} {as : List Addr} {rs : List (List α)} (h : Ro f C as rs) (s : ∀ t ∈ as, C' t = C t) : Ro f C' as rs :=
  ⟨h.1, fun i b e => by obtain ⟨r, h1, h2⟩ := h.2 i b e; exact ⟨r, h1, by rw [s b (List.mem_of_getElem? e)]; exact h2⟩⟩
/-! ### a filter, turn by turn -/
theorem fl_put {α : Type} {p : α → Bool} {r : List α} {i : Nat} {x : α} (hx : r[i]? = some x) (hp : p x = true) : (r.take (i + 1)).filter p = (r.take i).filter p ++ [x] := by
  rw [List.take_add_one, hx, List.filter_append]; simp [hp]
theorem fl_skip {α : Type} {p : α → Bool} {r : List α} {i : Nat} {x : α} (hx : r[i]? = some x) (hp : p x = false) : (r.take (i + 1)).filter p = (r.take i).filter p := by
  rw [List.take_add_one, hx, List.filter_append]; simp [hp]
theorem mp_put {α β : Type} {p : α → β} {r : List α} {i : Nat} {x : α} (hx : r[i]? = some x) : (r.take (i + 1)).map p = (r.take i).map p ++ [p x] := by
  rw [List.take_add_one, hx, List.map_append]; rfl
/-! ### two fors in a comprehension -/
section
variable {S : Type} {F : S → Hp → Hp} {ok : S → Hp → Prop} (T : TopOk F ok) {σ σ2 : L2.St} {g g1 : TG} {tt tt1 : TT} {te : TE} {vs vs1 : List Nat} {wi1 : TI} {Q : Addr → Hp → Prop}
def Lin (vs1 : List Nat) (g1 : TG) (tt1 : TT) (te : TE) (σ2 : L2.St) (D : Addr) (Nx : Hp → Prop) : It → Hp → Prop := fun J1 H4 => ∃ W1 : Nat → Nat → Hp → Prop, (∃ m, W1 0 m H4) ∧ ∀ j k H, W1 j k H →
  (J1.stop j H ∧ Nx H) ∨ (J1.go j H ∧ ∃ Nx1 : Hp → Prop, (∀ H', Nx1 H' → ∃ k', k' < k ∧ W1 (j + 1) k' H') ∧ ∀ x H', J1.yld j H x H' → g1 x (wipe σ2 vs1) H' fun σ3 H5 => wipe σ3 vs1 = wipe σ2 vs1 ∧ tt1 σ3 H5 fun b H6 =>
    if b = true then te σ3 H6 fun y H7 => ∃ acc, H7 D = some (.lst acc) ∧ acc.length < sizeLine ∧ Nx1 (upd H7 D (.lst (acc ++ [y]))) else Nx1 H6)
include T
theorem lcT2_range {s0 : S} {B : Hp} (k : ok s0 B) {n : Int} (h1 : -4611686018427387904 ≤ n) (h2 : n < 4611686018427387904) (Pv : Nat → Hp → List V → Prop) (h0 : Pv 0 B [])
    (hs : ∀ D i s C acc, ok s (upd C D (.lst acc)) → C D = none → Same B C → i < n.toNat → Pv i C acc → g (.int i) (wipe σ vs) (F s (upd C D (.lst acc))) fun σ2 H2 => wipe σ2 vs = wipe σ vs ∧ tt σ2 H2 fun b H3 =>
      if b = true then wi1 σ2 H3 (Lin vs1 g1 tt1 te σ2 D (LcN F ok B D (Pv (i + 1)))) else LcN F ok B D (Pv (i + 1)) H3)
    (hd : ∀ D s C acc, ok s (upd C D (.lst acc)) → B D = none → C D = none → Same B C → Pv n.toNat C acc → Q D (F s (upd C D (.lst acc)))) :
    ∃ j : Int, [V.int n] = [.int j] ∧ -(2 ^ 62) ≤ j ∧ j < 2 ^ 62 ∧ ∀ D, (F s0 B) D = none → ∃ W : Nat → Nat → Hp → Prop, (∃ m, W 0 m (upd (F s0 B) D (.lst []))) ∧ ∀ i m H, W i m H →
      ((Itr 0 j.toNat).stop i H ∧ Q D H) ∨ ((Itr 0 j.toNat).go i H ∧ ∃ Nx : Hp → Prop, (∀ H', Nx H' → ∃ m', m' < m ∧ W (i + 1) m' H') ∧ ∀ x H', (Itr 0 j.toNat).yld i H x H' → g x (wipe σ vs) H' fun σ2 H2 => wipe σ2 vs = wipe σ vs ∧ tt σ2 H2 fun b H3 =>
        if b = true then wi1 σ2 H3 fun J1 H4 => ∃ W1 : Nat → Nat → Hp → Prop, (∃ m, W1 0 m H4) ∧ ∀ j k H, W1 j k H →
          (J1.stop j H ∧ Nx H) ∨ (J1.go j H ∧ ∃ Nx1 : Hp → Prop, (∀ H', Nx1 H' → ∃ k', k' < k ∧ W1 (j + 1) k' H') ∧ ∀ x H', J1.yld j H x H' → g1 x (wipe σ2 vs1) H' fun σ3 H5 => wipe σ3 vs1 = wipe σ2 vs1 ∧ tt1 σ3 H5 fun b H6 =>
            if b = true then te σ3 H6 fun y H7 => ∃ acc, H7 D = some (.lst acc) ∧ acc.length < sizeLine ∧ Nx1 (upd H7 D (.lst (acc ++ [y]))) else Nx1 H6)
        else Nx H3) := by
  refine ⟨n, rfl, h1, h2, fun D hD => ?_⟩
  obtain ⟨hB, hn⟩ := T.new s0 B D k hD
  refine ⟨fun i m H => m = n.toNat - i ∧ i ≤ n.toNat ∧ LcN F ok B D (Pv i) H, ⟨n.toNat, by simp, Nat.zero_le _, ?_⟩, ?_⟩
  · rw [(hn _).1]
    exact ⟨s0, B, [], rfl, (hn _).2, hB, Same.refl B, h0⟩
  · rintro i m H ⟨rfl, hi, s, C, acc, rfl, k', hD', hS, hp⟩
    by_cases hlt : i < n.toNat
    · refine .inr ⟨hlt, fun H' => LcN F ok B D (Pv (i + 1)) H', fun H' p' => ⟨n.toNat - (i + 1), by omega, rfl, hlt, p'⟩, fun x H' y => ?_⟩
      obtain ⟨rfl, rfl⟩ := y
      rw [Int.zero_add]
      exact hs D i s C acc k' hD' hS hlt hp
    · have e : i = n.toNat := by omega
      subst e
      exact .inl ⟨Nat.le_refl _, hd D s C acc k' hB hD' hS hp⟩
omit T in
theorem lin_range {B : Hp} {lo : Int} {m : Nat} {D : Addr} {Pn : Hp → List V → Prop} (Pw : Nat → Hp → List V → Prop) {s0 : S} {C0 : Hp} {acc0 : List V} (k : ok s0 (upd C0 D (.lst acc0))) (hD : C0 D = none) (hS : Same B C0) (h0 : Pw 0 C0 acc0)
    (hs : ∀ j s C acc, ok s (upd C D (.lst acc)) → C D = none → Same B C → j < m → Pw j C acc → g1 (.int (lo + j)) (wipe σ2 vs1) (F s (upd C D (.lst acc))) fun σ3 H5 => wipe σ3 vs1 = wipe σ2 vs1 ∧ tt1 σ3 H5 fun b H6 =>
      if b = true then te σ3 H6 fun y H7 => ∃ acc, H7 D = some (.lst acc) ∧ acc.length < sizeLine ∧ LcN F ok B D (Pw (j + 1)) (upd H7 D (.lst (acc ++ [y]))) else LcN F ok B D (Pw (j + 1)) H6)
    (hd : ∀ C acc, Pw m C acc → Pn C acc) : Lin vs1 g1 tt1 te σ2 D (LcN F ok B D Pn) (Itr lo m) (F s0 (upd C0 D (.lst acc0))) := by
  refine ⟨fun j q H => q = m - j ∧ j ≤ m ∧ LcN F ok B D (Pw j) H, ⟨m, by simp, Nat.zero_le _, s0, C0, acc0, rfl, k, hD, hS, h0⟩, ?_⟩
  rintro j q H ⟨rfl, hj, s, C, acc, rfl, k', hD', hS', hp⟩
  by_cases hlt : j < m
  · refine .inr ⟨hlt, fun H' => LcN F ok B D (Pw (j + 1)) H', fun H' p' => ⟨m - (j + 1), by omega, rfl, hlt, p'⟩, fun x H' y => ?_⟩
    obtain ⟨rfl, rfl⟩ := y
    exact hs j s C acc k' hD' hS' hlt hp
  · have e : j = m := by omega
    subst e
    exact .inl ⟨Nat.le_refl _, s, C, acc, rfl, k', hD', hS', hd C acc hp⟩
end
section
variable {σ : L2.St} {H : Hp} {Q : VK}
theorem r_lc2 {wi : TI} {g : TG} {tt : TT} {wi1 : TI} {g1 : TG} {tt1 : TT} {te : TE} {vs vs1 : List Nat} (h : wi σ H fun J H1 => ∀ D, H1 D = none → ∃ W : Nat → Nat → Hp → Prop, (∃ m, W 0 m (upd H1 D (.lst []))) ∧ ∀ i m H, W i m H →
  (J.stop i H ∧ Q (.ref D) H) ∨ (J.go i H ∧ ∃ Nx : Hp → Prop, (∀ H', Nx H' → ∃ m', m' < m ∧ W (i + 1) m' H') ∧ ∀ x H', J.yld i H x H' → g x (wipe σ vs) H' fun σ2 H2 => wipe σ2 vs = wipe σ vs ∧ tt σ2 H2 fun b H3 =>
    if b = true then wi1 σ2 H3 fun J1 H4 => ∃ W1 : Nat → Nat → Hp → Prop, (∃ m, W1 0 m H4) ∧ ∀ j k H, W1 j k H →
      (J1.stop j H ∧ Nx H) ∨ (J1.go j H ∧ ∃ Nx1 : Hp → Prop, (∀ H', Nx1 H' → ∃ k', k' < k ∧ W1 (j + 1) k' H') ∧ ∀ x H', J1.yld j H x H' → g1 x (wipe σ2 vs1) H' fun σ3 H5 => wipe σ3 vs1 = wipe σ2 vs1 ∧ tt1 σ3 H5 fun b H6 =>
        if b = true then te σ3 H6 fun y H7 => ∃ acc, H7 D = some (.lst acc) ∧ acc.length < sizeLine ∧ Nx1 (upd H7 D (.lst (acc ++ [y]))) else Nx1 H6)
    else Nx H3)) : tLc2 wi g tt wi1 g1 tt1 te vs vs1 σ H Q := h
theorem r_rng2 {ta : TA} {R : It → Hp → Prop} (h : ta σ H fun vs H1 => ∃ i j : Int, vs = [.int i, .int j] ∧ (-(2 ^ 62) ≤ i ∧ i < 2 ^ 62 ∧ -(2 ^ 62) ≤ j ∧ j < 2 ^ 62) ∧ R (Itr i (j - i).toNat) H1) : iRng2 ta σ H R := h
theorem r_isR2 {i j : Int} {R : It → Hp → Prop} (h1 : -4611686018427387904 ≤ i) (h2 : i < 4611686018427387904) (h3 : -4611686018427387904 ≤ j) (h4 : j < 4611686018427387904) (hq : R (Itr i (j - i).toNat) H) : ∃ a b : Int, [V.int i, .int j] = [.int a, .int b] ∧ (-(2 ^ 62) ≤ a ∧ a < 2 ^ 62 ∧ -(2 ^ 62) ≤ b ∧ b < 2 ^ 62) ∧ R (Itr a (b - a).toNat) H := ⟨i, j, rfl, ⟨h1, h2, h3, h4⟩, hq⟩
theorem r_any {K : PySem.W.Frag} {a : Addr} {bs : List Bool} (h : H a = some (.lst (bs.map V.bl))) (q : Q (.bl (bs.any id)) H) : rAny K [.ref a] H Q := ⟨a, bs, rfl, SqL.of h, q⟩
theorem r_callN {n m : Nat} {sp : Sp} {gV : List V → List V → List V} {E : XK} {t tk : TA} (h : t σ H fun vs H1 => tk σ H1 fun zs H2 => vs.length = n ∧ zs.length = m ∧ sp (gV vs zs) H2 Q E) : tCallN n m sp gV E t tk σ H Q := h
theorem r_callD {sp : Sp} {ds : List V} {E : XK} {t : TA} (h : t σ H fun vs H1 => sp (vs ++ ds) H1 Q E) : tCall sp ds E t σ H Q := h
end
/-! ### deep data -/
section
variable {X : Cx} {K : PySem.W.Frag}
theorem u65 {k : Nat} {A : Around} (r : Room k A) : A.units + 65 < cLine := by have := r.un; omega
theorem op_inDK (h : X.K = K) (hu : X.A.units + 65 < cLine) : OpR X (compareOp .In) (rInD K) := by subst h; exact op_inD hu
theorem op_notInDK (h : X.K = K) (hu : X.A.units + 65 < cLine) : OpR X (compareOp .NotIn) (rNotInD K) := by subst h; exact op_notInD hu
theorem mt_indexDK (h : X.K = K) (hu : X.A.units + 65 < cLine) : MtR X "list.index" (rIndexD K) := by subst h; exact mt_indexD hu
end
section
variable {K : PySem.W.Frag} {H : Hp} {Q : VK}
theorem eqI1 (xs ys : List Int) : PyData.eqv (dI xs) (dI ys) = decide (xs = ys) := eqI xs ys
theorem r_inR {a b : Addr} {as : List Addr} {rs : List (List Int)} {xs : List Int} (h1 : H a = some (.lst (xs.map V.int))) (h2 : H b = some (.lst (as.map V.ref))) (hr : Rw H as rs) (q : Q (.bl (decide (xs ∈ rs))) H) : rInD K (.ref a) (.ref b) H Q := by
  refine ⟨dI xs, rs.map dI, dpI h1, dpR h2 hr, shI xs, shR rs, ?_⟩
  have e : (rs.map dI).any (fun z => PyData.eqv z (dI xs)) = decide (xs ∈ rs) := by
    rw [Bool.eq_iff_iff, List.any_eq_true, decide_eq_true_eq]
    constructor
    · rintro ⟨z, hz, e⟩
      obtain ⟨r, hr, rfl⟩ := List.mem_map.mp hz
      rw [eqI1, decide_eq_true_eq] at e
      rw [← e]; exact hr
    · intro hx
      exact ⟨dI xs, List.mem_map.mpr ⟨xs, hx, rfl⟩, by rw [eqI1]; exact decide_eq_true rfl⟩
  rw [e]; exact q
end
/-! ### keyword-only parameters -/
section
variable {K : PySem.W.Frag} {x qual : Str} {st : Stmt} {f : Addr} {fd : FuncData} {ps : List Str}
/-- f(e, .., k = v, ..) where all keyword-only parameters are written -/
theorem kb_all (F : Fun K x qual st f fd) (n : Nat) (ks : List Str)
    (h : ∀ (kV doc pm : Value) (an : Option Addr) (cdv ct : Value) (us ws : List Value), us.length = n → ws.length = ks.length → bindArgs (PySem.W.fnOf x qual (defArgs st) (defBody st) (defScope st) .none kV doc pm an cdv ct) ⟨us, ks.zip ws⟩ = pure (ps.zip (us ++ ws))) :
    KBn K fd ps n ks (fun us ws => us ++ ws) (fun vs zs => vs ++ zs) := by
  obtain ⟨oc, od, kV, doc, pm, an, cdv, ct, osl, rfl, lk, hcd⟩ := F.ex
  exact ⟨fun s us ws _ l1 l2 => .of_eq (h kV doc pm an cdv ct us ws l1 l2), fun r1 r2 => r1.append r2⟩
end
def pick (n : Nat) (f : Nat → Bool) : List Int := ((List.range n).filter f).map Int.ofNat
theorem pick_succ (n : Nat) (f : Nat → Bool) : pick (n + 1) f = pick n f ++ if f n then [(n : Int)] else [] := by
  unfold pick
  rw [List.range_succ, List.filter_append, List.map_append]
  congr 1
  rw [List.filter_cons]
  split <;> rfl
theorem pick_len (n : Nat) (f : Nat → Bool) : (pick n f).length ≤ n := by
  unfold pick
  rw [List.length_map]
  exact Nat.le_trans (List.length_filter_le _ _) (by rw [List.length_range]; exact Nat.le_refl _)
theorem pick_congr {n : Nat} {f f' : Nat → Bool} (h : ∀ i, i < n → f i = f' i) : pick n f = pick n f' := by
  unfold pick
  rw [List.filter_congr fun i hi => h i (List.mem_range.mp hi)]
end Lw
/-! plain maths: likeness of groups, as the greatest relation and as a partition -/
namespace Lm
def gp (c : Nat) (r : List Int) : List Int := r.filter fun e => decide (e < (c : Int))
def br (c : Nat) (r : List Int) : List Int := r.filter fun e => decide (e ≥ (c : Int))
def Mt (R : Nat → Nat → Prop) (xs ys : List Int) : Prop := (∀ e ∈ xs, ∃ f ∈ ys, R e.toNat f.toNat) ∧ (∀ f ∈ ys, ∃ e ∈ xs, R e.toNat f.toNat)
theorem Mt.mono {R S : Nat → Nat → Prop} {xs ys : List Int} (h : Mt R xs ys) (hs : ∀ a b, R a b → S a b) : Mt S xs ys :=
  ⟨fun e he => by obtain ⟨f, hf, r⟩ := h.1 e he; exact ⟨f, hf, hs _ _ r⟩, fun f hf => by obtain ⟨e, he, r⟩ := h.2 f hf; exact ⟨e, he, hs _ _ r⟩⟩
def IsB (c : Nat) (rs : List (List Int)) (R : Nat → Nat → Prop) : Prop := ∀ g h, R g h → ∃ r s, g < c ∧ h < c ∧ rs[g]? = some r ∧ rs[h]? = some s ∧ br c r = br c s ∧ Mt R (gp c r) (gp c s)
def Bs (c : Nat) (rs : List (List Int)) (g h : Nat) : Prop := ∃ R, IsB c rs R ∧ R g h
theorem Bs.isB {c : Nat} {rs : List (List Int)} : IsB c rs (Bs c rs) := by
  rintro g h ⟨R, hR, r⟩
  obtain ⟨a, b, h1, h2, h3, h4, h5, h6⟩ := hR g h r
  exact ⟨a, b, h1, h2, h3, h4, h5, h6.mono fun x y q => ⟨R, hR, q⟩⟩
theorem Bs.symm {c : Nat} {rs : List (List Int)} {g h : Nat} (b : Bs c rs g h) : Bs c rs h g := by
  obtain ⟨R, hR, r⟩ := b
  refine ⟨fun x y => R y x, fun x y q => ?_, r⟩
  obtain ⟨a, b, h1, h2, h3, h4, h5, h6⟩ := hR y x q
  exact ⟨b, a, h2, h1, h4, h3, h5.symm, h6.2, h6.1⟩
theorem gp_mem {c : Nat} {r : List Int} {e : Int} : e ∈ gp c r ↔ e ∈ r ∧ e < (c : Int) := by
  unfold gp; rw [List.mem_filter, decide_eq_true_eq]
theorem br_mem {c : Nat} {r : List Int} {e : Int} : e ∈ br c r ↔ e ∈ r ∧ e ≥ (c : Int) := by
  unfold br; rw [List.mem_filter, decide_eq_true_eq]
/-- two equal rows are alike -/
theorem Bs.of_eq {n c : Nat} {rs : List (List Int)} (hn : rs.length = n) (hc : c ≤ n) (h0 : ∀ r ∈ rs, ∀ e ∈ r, 0 ≤ e) {g h : Nat} (hg : g < c) (hh : h < c) (e : rs[g]? = rs[h]?) : Bs c rs g h := by
  refine ⟨fun x y => (x < c ∧ x = y) ∨ (x = g ∧ y = h), fun x y q => ?_, .inr ⟨rfl, rfl⟩⟩
  have refl : ∀ x, x < c → ∃ r, rs[x]? = some r ∧ Mt (fun x y => (x < c ∧ x = y) ∨ (x = g ∧ y = h)) (gp c r) (gp c r) := fun x hx => by
    refine ⟨_, List.getElem?_eq_getElem (by omega), fun e he => ⟨e, he, .inl ⟨?_, rfl⟩⟩, fun e he => ⟨e, he, .inl ⟨?_, rfl⟩⟩⟩
    all_goals
      have h1 := gp_mem.mp he
      have h2 := h0 _ (List.getElem_mem _) e h1.1
      omega
  rcases q with ⟨hx, rfl⟩ | ⟨rfl, rfl⟩
  · obtain ⟨r, h1, h2⟩ := refl x hx
    exact ⟨r, r, hx, hx, h1, h1, rfl, h2⟩
  · obtain ⟨r, h1, h2⟩ := refl x hg
    exact ⟨r, r, hg, hh, h1, by rw [← e]; exact h1, rfl, h2⟩
/-- lists that ascend and have the same members are the same -/
theorem asc_eq : ∀ {xs ys : List Int}, xs.Pairwise (· < ·) → ys.Pairwise (· < ·) → (∀ e, e ∈ xs ↔ e ∈ ys) → xs = ys
  | [], [], _, _, _ => rfl
  | [], y :: ys, _, _, h => absurd ((h y).mpr List.mem_cons_self) List.not_mem_nil
  | x :: xs, [], _, _, h => absurd ((h x).mp List.mem_cons_self) List.not_mem_nil
  | x :: xs, y :: ys, h1, h2, h => by
    rw [List.pairwise_cons] at h1 h2
    have e : x = y := by
      rcases List.mem_cons.mp ((h x).mp List.mem_cons_self) with e | e
      · exact e
      · rcases List.mem_cons.mp ((h y).mpr List.mem_cons_self) with e2 | e2
        · exact e2.symm
        · have := h2.1 x e; have := h1.1 y e2; omega
    subst e
    congr 1
    refine asc_eq h1.2 h2.2 fun z => ⟨fun hz => ?_, fun hz => ?_⟩
    · rcases List.mem_cons.mp ((h z).mp (List.mem_cons_of_mem _ hz)) with q | q
      · subst q; have := h1.1 z hz; omega
      · exact q
    · rcases List.mem_cons.mp ((h z).mpr (List.mem_cons_of_mem _ hz)) with q | q
      · subst q; have := h2.1 z hz; omega
      · exact q
/-- without rings: where two unlike places are alike, two of the rows are equal -/
theorem Bs.doubled {n c : Nat} {rs : List (List Int)} (hn : rs.length = n) (hc : c ≤ n) (h0 : ∀ r ∈ rs, ∀ e ∈ r, 0 ≤ e) (ha : ∀ r ∈ rs, r.Pairwise (· < ·)) (hr : ∀ x, ¬ Tc (Ed rs) x x) {g h : Nat} (b : Bs c rs g h) (hgh : g ≠ h) :
    ∃ x y, x < y ∧ y < c ∧ rs[x]? = rs[y]? := by
  refine Classical.byContradiction fun hno => ?_
  have U : ∀ a, (∃ b, Bs c rs a b ∧ a ≠ b) → ∃ b, (∃ d, Bs c rs b d ∧ b ≠ d) ∧ Ed rs a b := by
    rintro a ⟨b, hb, hab⟩
    obtain ⟨r, s, a1, a2, a3, a4, a5, a6⟩ := Bs.isB a b hb
    refine Classical.byContradiction fun hn2 => ?_
    have key : ∀ e f, e ∈ gp c r → f ∈ gp c s → Bs c rs e.toNat f.toNat → e = f := fun e f he hf q => by
      refine Classical.byContradiction fun hne => hn2 ⟨e.toNat, ⟨f.toNat, q, fun z => hne ?_⟩, r, a3, ?_⟩
      · have := h0 r (List.mem_of_getElem? a3) e (gp_mem.mp he).1
        have := h0 s (List.mem_of_getElem? a4) f (gp_mem.mp hf).1
        omega
      · have := h0 r (List.mem_of_getElem? a3) e (gp_mem.mp he).1
        rw [show ((e.toNat : Nat) : Int) = e by omega]; exact (gp_mem.mp he).1
    have same : ∀ e, e ∈ r ↔ e ∈ s := fun e => by
      by_cases hlt : e < (c : Int)
      · constructor
        · intro he
          obtain ⟨f, hf, q⟩ := a6.1 e (gp_mem.mpr ⟨he, hlt⟩)
          rw [key e f (gp_mem.mpr ⟨he, hlt⟩) hf q]; exact (gp_mem.mp hf).1
        · intro he
          obtain ⟨f, hf, q⟩ := a6.2 e (gp_mem.mpr ⟨he, hlt⟩)
          rw [← key f e hf (gp_mem.mpr ⟨he, hlt⟩) q]; exact (gp_mem.mp hf).1
      · have h1 : e ∈ br c r ↔ e ∈ br c s := by rw [a5]
        rw [br_mem, br_mem] at h1
        constructor
        · intro he; exact (h1.mp ⟨he, by omega⟩).1
        · intro he; exact (h1.mpr ⟨he, by omega⟩).1
    have e : r = s := asc_eq (ha r (List.mem_of_getElem? a3)) (ha s (List.mem_of_getElem? a4)) same
    rcases Nat.lt_or_gt_of_ne hab with q | q
    · exact hno ⟨a, b, q, a2, by rw [a3, a4, e]⟩
    · exact hno ⟨b, a, q, a1, by rw [a3, a4, e]⟩
  obtain ⟨k, _, t⟩ := ring_of (E := Ed rs) (n := n) (U := fun a => ∃ b, Bs c rs a b ∧ a ≠ b) (fun a ⟨b, hb, _⟩ => by obtain ⟨_, _, h1, _⟩ := Bs.isB a b hb; omega) U ⟨h, b, hgh⟩
  exact hr k t
/-! ### the table of bools -/
def tr (M : List (List Bool)) (g h : Nat) : Prop := ∃ r, M[g]? = some r ∧ r[h]? = some true
structure Gl (c : Nat) (rs : List (List Int)) (M : List (List Bool)) : Prop where
  len : M.length = c
  row : ∀ r ∈ M, r.length = c
  has : ∀ g h, Bs c rs g h → tr M g h
  bare : ∀ g h, tr M g h → ∃ r s, g < c ∧ h < c ∧ rs[g]? = some r ∧ rs[h]? = some s ∧ br c r = br c s
theorem Gl.init {n c : Nat} {rs : List (List Int)} (hn : rs.length = n) (hc : c ≤ n) {bs : List (List Int)} (hb : bs = (rs.take c).map (br c)) : Gl c rs (bs.map fun x => bs.map fun y => decide (x = y)) := by
  have hl : bs.length = c := by rw [hb, List.length_map, List.length_take]; omega
  have hg : ∀ g, g < c → ∃ r, rs[g]? = some r ∧ bs[g]? = some (br c r) := fun g hg => by
    obtain ⟨r, hr⟩ : ∃ r, rs[g]? = some r := ⟨_, List.getElem?_eq_getElem (by omega)⟩
    refine ⟨r, hr, ?_⟩
    rw [hb, List.getElem?_map, List.getElem?_take_of_lt hg, hr]; rfl
  refine ⟨by rw [List.length_map, hl], fun r hr => ?_, fun g h b => ?_, fun g h ⟨r, h1, h2⟩ => ?_⟩
  · obtain ⟨x, _, rfl⟩ := List.mem_map.mp hr
    rw [List.length_map, hl]
  · obtain ⟨r, s, a1, a2, a3, a4, a5, _⟩ := Bs.isB g h b
    obtain ⟨r', b1, b2⟩ := hg g a1
    obtain ⟨s', d1, d2⟩ := hg h a2
    rw [a3] at b1; cases b1
    rw [a4] at d1; cases d1
    refine ⟨_, by rw [List.getElem?_map, b2]; rfl, ?_⟩
    rw [List.getElem?_map, d2]
    show some (decide _) = _
    rw [a5, decide_eq_true rfl]
  · rw [List.getElem?_map] at h1
    cases q : bs[g]? with
    | none => rw [q] at h1; cases h1
    | some x =>
      rw [q] at h1
      cases h1
      rw [List.getElem?_map] at h2
      cases q2 : bs[h]? with
      | none => rw [q2] at h2; cases h2
      | some y =>
        rw [q2] at h2
        have e : x = y := of_decide_eq_true (Option.some.inj h2)
        have g1 : g < c := by rw [← hl]; exact (List.getElem?_eq_some_iff.mp q).1
        have g2 : h < c := by rw [← hl]; exact (List.getElem?_eq_some_iff.mp q2).1
        obtain ⟨r', b1, b2⟩ := hg g g1
        obtain ⟨s', d1, d2⟩ := hg h g2
        rw [q] at b2; rw [q2] at d2
        exact ⟨r', s', g1, g2, b1, d1, by rw [← Option.some.inj b2, ← Option.some.inj d2]; exact e⟩
theorem tr_set {M : List (List Bool)} {f s : Nat} {r : List Bool} (hr : M[f]? = some r) {g h : Nat} : tr (M.set f (r.set s false)) g h ↔ tr M g h ∧ ¬ (g = f ∧ h = s) := by
  have hf := (List.getElem?_eq_some_iff.mp hr).1
  unfold tr
  by_cases e : f = g
  · subst e
    rw [List.getElem?_set_self hf, hr]
    constructor
    · rintro ⟨r', h1, h2⟩
      cases h1
      by_cases e2 : s = h
      · subst e2
        have : s < r.length := by
          have := (List.getElem?_eq_some_iff.mp h2).1; rwa [List.length_set] at this
        rw [List.getElem?_set_self this] at h2; cases h2
      · rw [List.getElem?_set_ne e2] at h2
        exact ⟨⟨r, rfl, h2⟩, fun z => e2 z.2.symm⟩
    · rintro ⟨⟨r', h1, h2⟩, hn⟩
      cases h1
      exact ⟨_, rfl, by rw [List.getElem?_set_ne (fun z => hn ⟨rfl, z.symm⟩)]; exact h2⟩
  · rw [List.getElem?_set_ne e]
    exact ⟨fun q => ⟨q, fun z => e z.1.symm⟩, fun q => q.1⟩
theorem Gl.fall {c : Nat} {rs : List (List Int)} {M : List (List Bool)} (G : Gl c rs M) {f s : Nat} {r : List Bool} (hr : M[f]? = some r) {x y : List Int} (hx : rs[f]? = some x) (hy : rs[s]? = some y) (hn : ¬ Mt (tr M) (gp c x) (gp c y)) :
    Gl c rs (M.set f (r.set s false)) := by
  refine ⟨by rw [List.length_set]; exact G.len, fun r' h' => ?_, fun g h b => ?_, fun g h t => ?_⟩
  · rcases List.mem_or_eq_of_mem_set h' with q | q
    · exact G.row r' q
    · rw [q, List.length_set]; exact G.row r (List.mem_of_getElem? hr)
  · refine (tr_set hr).mpr ⟨G.has g h b, ?_⟩
    rintro ⟨rfl, rfl⟩
    obtain ⟨r', s', _, _, a3, a4, _, a6⟩ := Bs.isB g h b
    rw [hx] at a3; cases a3
    rw [hy] at a4; cases a4
    exact hn (a6.mono fun a b q => G.has a b q)
  · exact G.bare g h ((tr_set hr).mp t).1
/-- no pair falls any more -/
theorem Gl.final {c : Nat} {rs : List (List Int)} {M : List (List Bool)} (G : Gl c rs M) (h : ∀ g k x y, tr M g k → rs[g]? = some x → rs[k]? = some y → Mt (tr M) (gp c x) (gp c y)) (g k : Nat) : tr M g k ↔ Bs c rs g k := by
  refine ⟨fun t => ⟨tr M, fun a b q => ?_, t⟩, G.has g k⟩
  obtain ⟨r, s, a1, a2, a3, a4, a5⟩ := G.bare a b q
  exact ⟨r, s, a1, a2, a3, a4, a5, h a b r s q a3 a4⟩
def trues (M : List (List Bool)) : Nat := (M.map fun r => r.countP id).sum
theorem count_false {r : List Bool} : ∀ {s : Nat}, r[s]? = some true → (r.set s false).countP id + 1 = r.countP id := by
  induction r with
  | nil => intro s h; simp at h
  | cons b r ih =>
    intro s h
    cases s with
    | zero => simp at h; subst h; simp [List.countP_cons]
    | succ s =>
      rw [List.getElem?_cons_succ] at h
      rw [List.set_cons_succ, List.countP_cons, List.countP_cons, ← ih h]; omega
theorem trues_fall {M : List (List Bool)} : ∀ {f s : Nat} {r : List Bool}, M[f]? = some r → r[s]? = some true → trues (M.set f (r.set s false)) + 1 = trues M := by
  induction M with
  | nil => intro f s r h; simp at h
  | cons a M ih =>
    intro f s r h h2
    cases f with
    | zero =>
      simp at h; subst h
      have := count_false h2
      simp only [trues, List.set_cons_zero, List.map_cons, List.sum_cons]; omega
    | succ f =>
      rw [List.getElem?_cons_succ] at h
      have := ih h h2
      simp only [trues] at this
      simp only [trues, List.set_cons_succ, List.map_cons, List.sum_cons]; omega
/-! ### the partition by rounds -/
/-- where a list's first entry of a kind stands -/
structure Can (p : List Int) (c : Nat) : Prop where
  len : p.length = c
  fix : ∀ (a : Nat) (z : Int), p[a]? = some z → 0 ≤ z ∧ z ≤ a ∧ p[z.toNat]? = some z
def fixed (p : List Int) (c : Nat) : Nat := (List.range c).countP fun a : Nat => decide (p[a]? = some (a : Int))
theorem fixed_le (p : List Int) (c : Nat) : fixed p c ≤ c := by
  unfold fixed
  have := List.countP_le_length (p := fun a : Nat => decide (p[a]? = some (a : Int))) (l := List.range c)
  rwa [List.length_range] at this
theorem countP_lt {α : Type} {P Q : α → Bool} : ∀ {l : List α}, (∀ x ∈ l, P x = true → Q x = true) → (∃ x ∈ l, Q x = true ∧ P x = false) → l.countP P < l.countP Q
  | [], _, ⟨x, hx, _⟩ => absurd hx List.not_mem_nil
  | y :: l, h, ⟨x, hx, hq, hp⟩ => by
    have mono : l.countP P ≤ l.countP Q := List.countP_mono_left fun z hz => h z (List.mem_cons_of_mem _ hz)
    rcases List.mem_cons.mp hx with e | e
    · subst e
      rw [List.countP_cons_of_pos hq, List.countP_cons_of_neg (by rw [hp]; decide)]; omega
    · have ih := countP_lt (l := l) (fun z hz => h z (List.mem_cons_of_mem _ hz)) ⟨x, e, hq, hp⟩
      by_cases hy : P y = true
      · rw [List.countP_cons_of_pos hy, List.countP_cons_of_pos (h y List.mem_cons_self hy)]; omega
      · rw [List.countP_cons_of_neg hy]
        by_cases hy2 : Q y = true
        · rw [List.countP_cons_of_pos hy2]; omega
        · rw [List.countP_cons_of_neg hy2]; exact ih
/-- one round: q numbers the keys that refine p's numbers -/
structure Rd {κ : Type} (p q : List Int) (key : Nat → κ) (c : Nat) : Prop where
  len : q.length = c
  first : ∀ a, a < c → ∃ b : Nat, q[a]? = some (b : Int) ∧ b ≤ a ∧ key b = key a ∧ ∀ d, d < b → key d ≠ key a
  ref : ∀ a b, a < c → b < c → key a = key b → p[a]? = p[b]?
theorem Rd.can {κ : Type} {p q : List Int} {key : Nat → κ} {c : Nat} (R : Rd p q key c) : Can q c := by
  refine ⟨R.len, fun a z hz => ?_⟩
  have ha : a < c := by rw [← R.len]; exact (List.getElem?_eq_some_iff.mp hz).1
  obtain ⟨b, h1, h2, h3, h4⟩ := R.first a ha
  rw [h1] at hz; cases hz
  refine ⟨by omega, by omega, ?_⟩
  obtain ⟨d, k1, k2, k3, k4⟩ := R.first b (by omega)
  rw [Int.toNat_natCast, k1]
  have : d = b := by
    rcases Nat.lt_or_ge d b with q | q
    · exact absurd (k3.trans h3) (h4 d q)
    · omega
  rw [this]
theorem Rd.same {κ : Type} {p q : List Int} {key : Nat → κ} {c : Nat} (R : Rd p q key c) {a b : Nat} (ha : a < c) (hb : b < c) : q[a]? = q[b]? ↔ key a = key b := by
  obtain ⟨x, h1, h2, h3, h4⟩ := R.first a ha
  obtain ⟨y, k1, k2, k3, k4⟩ := R.first b hb
  rw [h1, k1]
  constructor
  · intro e
    have : x = y := by have := Option.some.inj e; omega
    subst this
    exact h3.symm.trans k3
  · intro e
    have : x = y := by
      rcases Nat.lt_trichotomy x y with z | z | z
      · exact absurd (h3.trans e) (k4 x z)
      · exact z
      · exact absurd (k3.trans e.symm) (h4 y z)
    rw [this]
theorem Rd.grow {κ : Type} {p q : List Int} {key : Nat → κ} {c : Nat} (R : Rd p q key c) (P : Can p c) (hne : q ≠ p) : fixed p c < fixed q c := by
  have Q := R.can
  have up : ∀ (a : Nat) (z w : Int), p[a]? = some z → q[a]? = some w → z ≤ w ∧ p[w.toNat]? = some z := fun a z w hz hw => by
    have ha : a < c := by rw [← P.len]; exact (List.getElem?_eq_some_iff.mp hz).1
    obtain ⟨b, h1, h2, h3, h4⟩ := R.first a ha
    rw [h1] at hw; cases hw
    have e := R.ref b a (by omega) ha h3
    rw [hz] at e
    obtain ⟨e0, e1, e2⟩ := P.fix b z e
    exact ⟨e1, by rw [Int.toNat_natCast]; exact e⟩
  refine countP_lt (fun a ha h => ?_) ?_
  · have ha := List.mem_range.mp ha
    have hp : p[a]? = some (a : Int) := of_decide_eq_true h
    obtain ⟨b, h1, h2, h3, h4⟩ := R.first a ha
    have := (up a _ _ hp h1).1
    have e : b = a := by omega
    rw [e] at h1
    exact decide_eq_true h1
  · obtain ⟨a, ha, hne2⟩ : ∃ a, a < c ∧ q[a]? ≠ p[a]? := by
      refine Classical.byContradiction fun hn => hne (List.ext_getElem? fun a => ?_)
      by_cases ha : a < c
      · exact Classical.byContradiction fun z => hn ⟨a, ha, z⟩
      · rw [List.getElem?_eq_none (by rw [R.len]; omega), List.getElem?_eq_none (by rw [P.len]; omega)]
    obtain ⟨b, h1, h2, h3, h4⟩ := R.first a ha
    obtain ⟨z, hz⟩ : ∃ z, p[a]? = some z := ⟨_, List.getElem?_eq_getElem (by rw [P.len]; exact ha)⟩
    obtain ⟨u1, u2⟩ := up a z b hz h1
    rw [Int.toNat_natCast] at u2
    refine ⟨b, List.mem_range.mpr (by omega), ?_, ?_⟩
    · have := (Q.fix a b h1).2.2
      rw [Int.toNat_natCast] at this
      exact decide_eq_true this
    · refine decide_eq_false fun e => hne2 ?_
      rw [u2] at e
      rw [h1, hz, ← Option.some.inj e]
theorem zeros_can (c : Nat) : Can (List.replicate c 0) c := by
  refine ⟨List.length_replicate, fun a z hz => ?_⟩
  rw [List.getElem?_replicate] at hz
  by_cases h : a < c
  · rw [if_pos h] at hz
    cases hz
    exact ⟨by omega, by omega, by rw [List.getElem?_replicate, if_pos (by show (0 : Int).toNat < c; simp; omega)]⟩
  · rw [if_neg h] at hz; cases hz
/-- a key of a place: its number, the numbers it holds, what it holds beside -/
structure Ky (c : Nat) (rs : List (List Int)) (p : List Int) (key : Nat → Int × List Int × List Int) : Prop where
  val : ∀ (a : Nat) r, a < c → rs[a]? = some r → (key a).2.2 = br c r ∧ p[a]? = some (key a).1 ∧ (∀ z, z ∈ (key a).2.1 ↔ ∃ e ∈ gp c r, p[e.toNat]? = some z)
theorem Ky.keep {n c : Nat} {rs : List (List Int)} {p : List Int} {key : Nat → Int × List Int × List Int} (k : Ky c rs p key) (hn : rs.length = n) (hc : c ≤ n) (hp : p.length = c) (h0 : ∀ r ∈ rs, ∀ e ∈ r, 0 ≤ e)
    (hasc : ∀ a, a < c → (key a).2.1.Pairwise (· < ·)) (hb : ∀ g h, Bs c rs g h → p[g]? = p[h]?) {g h : Nat} (b : Bs c rs g h) : key g = key h := by
  obtain ⟨r, s, a1, a2, a3, a4, a5, a6⟩ := Bs.isB g h b
  obtain ⟨k1, k2, k3⟩ := k.val g r a1 a3
  obtain ⟨l1, l2, l3⟩ := k.val h s a2 a4
  have e1 : (key g).1 = (key h).1 := by
    have := hb g h b
    rw [k2, l2] at this
    exact Option.some.inj this
  have e2 : (key g).2.1 = (key h).2.1 := by
    refine asc_eq (hasc g a1) (hasc h a2) fun z => ?_
    rw [k3, l3]
    constructor
    · rintro ⟨e, he, hz⟩
      obtain ⟨f, hf, q⟩ := a6.1 e he
      exact ⟨f, hf, by rw [← hb _ _ q]; exact hz⟩
    · rintro ⟨f, hf, hz⟩
      obtain ⟨e, he, q⟩ := a6.2 f hf
      exact ⟨e, he, by rw [hb _ _ q]; exact hz⟩
  have e3 : (key g).2.2 = (key h).2.2 := by rw [k1, l1, a5]
  exact Prod.ext e1 (Prod.ext e2 e3)
/-- a numbering that a round leaves as it is -/
theorem Ky.stable {n c : Nat} {rs : List (List Int)} {p : List Int} {key : Nat → Int × List Int × List Int} (k : Ky c rs p key) (hn : rs.length = n) (hc : c ≤ n) (R : Rd p p key c) (h0 : ∀ r ∈ rs, ∀ e ∈ r, 0 ≤ e)
    {g h : Nat} (hg : g < c) (hh : h < c) (e : p[g]? = p[h]?) : Bs c rs g h := by
  refine ⟨fun x y => x < c ∧ y < c ∧ p[x]? = p[y]?, ?_, hg, hh, e⟩
  rintro x y ⟨hx, hy, e⟩
  have ek := (R.same hx hy).mp e
  obtain ⟨r, hr⟩ : ∃ r, rs[x]? = some r := ⟨_, List.getElem?_eq_getElem (by omega)⟩
  obtain ⟨s, hs⟩ : ∃ s, rs[y]? = some s := ⟨_, List.getElem?_eq_getElem (by omega)⟩
  obtain ⟨k1, k2, k3⟩ := k.val x r hx hr
  obtain ⟨l1, l2, l3⟩ := k.val y s hy hs
  have lt : ∀ {r e}, r ∈ rs → e ∈ gp c r → e.toNat < c := fun {r e} hr he => by
    have := gp_mem.mp he
    have := h0 r hr e this.1
    omega
  have has : ∀ a, a < c → ∃ z, p[a]? = some z := fun a ha => ⟨_, List.getElem?_eq_getElem (by rw [R.len]; exact ha)⟩
  refine ⟨r, s, hx, hy, hr, hs, by rw [← k1, ← l1, ek], fun e he => ?_, fun f hf => ?_⟩
  · have h1 := lt (List.mem_of_getElem? hr) he
    obtain ⟨z, hz⟩ := has _ h1
    have : z ∈ (key y).2.1 := by rw [← ek]; exact (k3 z).mpr ⟨e, he, hz⟩
    obtain ⟨f, hf, hz2⟩ := (l3 z).mp this
    exact ⟨f, hf, h1, lt (List.mem_of_getElem? hs) hf, by rw [hz, hz2]⟩
  · have h1 := lt (List.mem_of_getElem? hs) hf
    obtain ⟨z, hz⟩ := has _ h1
    have : z ∈ (key x).2.1 := by rw [ek]; exact (l3 z).mpr ⟨f, hf, hz⟩
    obtain ⟨e, he, hz2⟩ := (k3 z).mp this
    exact ⟨e, he, lt (List.mem_of_getElem? hr) he, h1, by rw [hz2, hz]⟩
theorem Can.id_iff {p : List Int} {c : Nat} (P : Can p c) : p = (List.range c).map (fun k : Nat => (k : Int)) ↔ ∀ g h, g < c → h < c → p[g]? = p[h]? → g = h := by
  constructor
  · intro e g h hg hh q
    rw [e, List.getElem?_map, List.getElem?_map, List.getElem?_range hg, List.getElem?_range hh] at q
    simp only [Option.map_some, Option.some.injEq] at q
    omega
  · intro hi
    refine List.ext_getElem? fun a => ?_
    by_cases ha : a < c
    · obtain ⟨z, hz⟩ : ∃ z, p[a]? = some z := ⟨_, List.getElem?_eq_getElem (by rw [P.len]; exact ha)⟩
      obtain ⟨z0, z1, z2⟩ := P.fix a z hz
      have := hi z.toNat a (by omega) ha (by rw [z2, hz])
      rw [hz, List.getElem?_map, List.getElem?_range ha]
      simp only [Option.map_some, Option.some.injEq]
      omega
    · rw [List.getElem?_eq_none (by rw [P.len]; omega), List.getElem?_eq_none (by rw [List.length_map, List.length_range]; omega)]
end Lm
/-! slices of lists -/
namespace Lw
open PySem PySem.Spec PyProof.Rows L2
theorem cut_to (xs : List V) {c : Int} (h : 0 ≤ c) : cutV xs none (some c) = xs.take c.toNat := by
  obtain ⟨n, rfl⟩ : ∃ n : Nat, c = n := ⟨c.toNat, by omega⟩
  unfold cutV
  rw [HT.sIx_none, HT.sIx_nat, List.drop_zero, Nat.sub_zero, Int.toNat_natCast]
  by_cases hn : n ≤ xs.length
  · rw [Nat.min_eq_left hn]
  · rw [Nat.min_eq_right (by omega), List.take_length, List.take_of_length_le (by omega)]
theorem cut_from (xs : List V) {c : Int} (h : 0 ≤ c) : cutV xs (some c) none = xs.drop c.toNat := by
  obtain ⟨n, rfl⟩ : ∃ n : Nat, c = n := ⟨c.toNat, by omega⟩
  unfold cutV
  rw [HT.sIx_none, HT.sIx_nat, Int.toNat_natCast, List.take_of_length_le (by rw [List.length_drop]; omega)]
  by_cases hn : n ≤ xs.length
  · rw [Nat.min_eq_left hn]
  · rw [Nat.min_eq_right (by omega), List.drop_length, List.drop_of_length_le (by omega)]
section
variable {K : PySem.W.Frag} {σ : L2.St} {H : Hp} {Q : VK}
theorem r_sl {r : V → Option Int → Option Int → Hp → VK → Prop} {te : TE} {tl th : TO} (h : te σ H fun x H1 => tl σ H1 fun l H2 => th σ H2 fun u H3 => r x l u H3 Q) : L2.tSl r te tl th σ H Q := h
theorem r_noPart {q : Option Int → Hp → Prop} (h : q none H) : tNoPart σ H q := h
theorem r_part {t : TE} {q : Option Int → Hp → Prop} (h : t σ H fun x H1 => ∃ i, x = .int i ∧ q (some i) H1) : tPart t σ H q := h
theorem r_i1 {j : Int} {F : Int → Prop} (h : F j) : ∃ i, V.int j = .int i ∧ F i := ⟨j, rfl, h⟩
theorem r_slL {a : Addr} {xs : List V} {lo hi : Option Int} (h : H a = some (.lst xs)) (q : ∀ p, H p = none → Q (.ref p) (upd H p (.lst (cutV xs lo hi)))) : rSlL K (.ref a) lo hi H Q := ⟨a, xs, rfl, SqL.of h, q⟩
end
theorem take_at {α : Type} {xs : List α} {c i : Nat} {x : α} (h : (xs.take c)[i]? = some x) : i < c ∧ xs[i]? = some x := by
  by_cases hi : i < c
  · rw [List.getElem?_take_of_lt hi] at h; exact ⟨hi, h⟩
  · rw [List.getElem?_eq_none (by rw [List.length_take]; omega)] at h; cases h
theorem tk_succ {α : Type} {l : List α} {i : Nat} {x : α} (h : l[i]? = some x) : l.take (i + 1) = l.take i ++ [x] := by rw [List.take_add_one, h]; rfl
end Lw
/-! deep data: equal exactly if the same (no bools, no dicts) -/
namespace Lw
open PySem PySem.Spec PyProof.Rows L2
mutual
def pl : PyData → Bool
  | .none => true
  | .bool _ => false
  | .int _ => true
  | .str _ => true
  | .list xs => plAll xs
  | .tuple xs => plAll xs
  | .dict _ => false
def plAll : List PyData → Bool
  | [] => true
  | x :: r => pl x && plAll r
end
mutual
theorem eqv_iff : ∀ a b : PyData, pl a = true → pl b = true → (PyData.eqv a b = true ↔ a = b)
  | .none, b, _, hb => by cases b <;> simp [PyData.eqv]
  | .bool _, _, ha, _ => by simp [pl] at ha
  | .int i, b, _, hb => by cases b <;> simp [PyData.eqv, pl] at hb ⊢
  | .str s, b, _, hb => by cases b <;> simp [PyData.eqv, pl] at hb ⊢
  | .list xs, b, ha, hb => by
    cases b with
    | list ys =>
      rw [PyData.eqv, eqvAll_iff xs ys (by simpa [pl] using ha) (by simpa [pl] using hb)]
      exact ⟨fun h => by rw [h], fun h => by cases h; rfl⟩
    | _ => simp [PyData.eqv]
  | .tuple xs, b, ha, hb => by
    cases b with
    | tuple ys =>
      rw [PyData.eqv, eqvAll_iff xs ys (by simpa [pl] using ha) (by simpa [pl] using hb)]
      exact ⟨fun h => by rw [h], fun h => by cases h; rfl⟩
    | _ => simp [PyData.eqv]
  | .dict _, _, ha, _ => by simp [pl] at ha
theorem eqvAll_iff : ∀ a b : List PyData, plAll a = true → plAll b = true → (PyData.eqvAll a b = true ↔ a = b)
  | [], [], _, _ => by simp [PyData.eqvAll]
  | [], _ :: _, _, _ => by simp [PyData.eqvAll]
  | _ :: _, [], _, _ => by simp [PyData.eqvAll]
  | x :: xs, y :: ys, ha, hb => by
    simp only [plAll, Bool.and_eq_true] at ha hb
    rw [PyData.eqvAll, Bool.and_eq_true, eqv_iff x y ha.1 hb.1, eqvAll_iff xs ys ha.2 hb.2]
    exact ⟨fun h => by rw [h.1, h.2], fun h => by cases h; exact ⟨rfl, rfl⟩⟩
end
section
variable {K : PySem.W.Frag} {H H' : Hp}
mutual
theorem dp_mono (s : Same H H') : ∀ {v : V} {d : PyData}, Dp K H v d → Dp K H' v d
  | _, _, .non => .non
  | _, _, .bl b => .bl b
  | _, _, .int i => .int i
  | _, _, .str x => .str x
  | _, _, .lst h a => .lst (s.seq h) (dpAll_mono s a)
  | _, _, .tup h a => .tup (h.imp (fun h => h.imp (fun h => s _ _ h) (fun ⟨o, h⟩ => ⟨o, s _ _ h⟩)) id) (dpAll_mono s a)
theorem dpAll_mono (s : Same H H') : ∀ {vs : List V} {ds : List PyData}, DpAll K H vs ds → DpAll K H' vs ds
  | _, _, .nil => .nil
  | _, _, .cons h a => .cons (dp_mono s h) (dpAll_mono s a)
end
theorem dpAll_push : ∀ {vs : List V} {ds : List PyData} {v : V} {d : PyData}, DpAll K H vs ds → Dp K H v d → DpAll K H (vs ++ [v]) (ds ++ [d])
  | _, _, _, _, .nil, e => .cons e .nil
  | _, _, _, _, .cons h a, e => .cons h (dpAll_push a e)
theorem dpAll_len : ∀ {vs : List V} {ds : List PyData}, DpAll K H vs ds → vs.length = ds.length
  | _, _, .nil => rfl
  | _, _, .cons _ a => congrArg Nat.succ (dpAll_len a)
theorem dpAll_at : ∀ {vs : List V} {ds : List PyData} {i : Nat} {v : V}, DpAll K H vs ds → vs[i]? = some v → ∃ d, ds[i]? = some d ∧ Dp K H v d
  | _, _, _, _, .nil, e => by simp at e
  | _, _, 0, _, .cons h a, e => by cases e; exact ⟨_, rfl, h⟩
  | _, _, i + 1, v, .cons h a, e => dpAll_at (i := i) (v := v) a (by simpa using e)
theorem dpAll_get : ∀ {vs : List V} {ds : List PyData} {i : Nat} {d : PyData}, DpAll K H vs ds → ds[i]? = some d → ∃ v, vs[i]? = some v ∧ Dp K H v d
  | _, _, _, _, .nil, e => by simp at e
  | _, _, 0, _, .cons h a, e => by cases e; exact ⟨_, rfl, h⟩
  | _, _, i + 1, d, .cons h a, e => dpAll_get (i := i) (d := d) a (by simpa using e)
end
section
variable {K : PySem.W.Frag} {H : Hp} {Q : VK}
theorem r_eqDd {x y : V} {d e : PyData} (h1 : Dp K H x d) (h2 : Dp K H y e) (s1 : SeqAt.shaped d = true) (s2 : SeqAt.shaped e = true) (p1 : pl d = true) (p2 : pl e = true) (q : ∀ b : Bool, (b = true ↔ d = e) → Q (.bl b) H) : rEqD K x y H Q :=
  ⟨d, e, h1, h2, s1, s2, q _ (eqv_iff d e p1 p2)⟩
theorem r_neDd {x y : V} {d e : PyData} (h1 : Dp K H x d) (h2 : Dp K H y e) (s1 : SeqAt.shaped d = true) (s2 : SeqAt.shaped e = true) (p1 : pl d = true) (p2 : pl e = true) (q : ∀ b : Bool, (b = true ↔ ¬ d = e) → Q (.bl b) H) : rNeD K x y H Q :=
  ⟨d, e, h1, h2, s1, s2, q _ (by rw [Bool.not_eq_true', ← eqv_iff d e p1 p2, Bool.not_eq_true])⟩
theorem plAll_mem : ∀ {ds : List PyData} {d : PyData}, plAll ds = true → d ∈ ds → pl d = true
  | [], _, _, h => absurd h List.not_mem_nil
  | x :: r, d, h, hm => by
    simp only [plAll, Bool.and_eq_true] at h
    rcases List.mem_cons.mp hm with e | e
    · rw [e]; exact h.1
    · exact plAll_mem h.2 e
theorem r_inDd {x y : V} {d : PyData} {ds : List PyData} (h1 : Dp K H x d) (h2 : Dp K H y (.list ds)) (s1 : SeqAt.shaped d = true) (s2 : SeqAt.shaped (.list ds) = true) (p1 : pl d = true) (p2 : plAll ds = true) (q : ∀ b : Bool, (b = true ↔ d ∈ ds) → Q (.bl b) H) : rInD K x y H Q := by
  refine ⟨d, ds, h1, h2, s1, s2, q _ ?_⟩
  rw [List.any_eq_true]
  constructor
  · rintro ⟨z, hz, e⟩
    rw [eqv_iff z d (plAll_mem p2 hz) p1] at e
    rw [← e]; exact hz
  · intro hm
    exact ⟨d, hm, (eqv_iff d d p1 p1).mpr rfl⟩
theorem r_indexDd {a : Addr} {x y : V} {d : PyData} {ds : List PyData} {j : Nat} (hx : x = .ref a) (h1 : Dp K H x (.list ds)) (h2 : Dp K H y d) (s1 : SeqAt.shaped (.list ds) = true) (s2 : SeqAt.shaped d = true) (p1 : plAll ds = true) (p2 : pl d = true)
    (hj : ds[j]? = some d) (hm : ∀ m, m < j → ds[m]? ≠ some d) (q : Q (.int j) H) : rIndexD K x [y] H Q := by
  subst hx
  refine ⟨a, y, d, ds, j, d, rfl, rfl, h1, h2, s1, s2, hj, (eqv_iff d d p2 p2).mpr rfl, fun m z hmj hz => ?_, q⟩
  rw [Bool.eq_false_iff]
  intro e
  rw [eqv_iff z d (plAll_mem p1 (List.mem_of_getElem? hz)) p2] at e
  rw [e] at hz
  exact hm m hmj hz
end
theorem r_iteP {b : Bool} {p : Prop} (h : b = true ↔ p) {A B : Prop} (h1 : p → A) (h2 : ¬ p → B) : if b = true then A else B := by
  cases b with
  | true => exact h1 (h.mp rfl)
  | false => exact h2 fun z => Bool.noConfusion (h.mpr z)
theorem first_of {α : Type} : ∀ {l : List α} {i : Nat} {y : α}, l[i]? = some y → ∃ j, j ≤ i ∧ l[j]? = some y ∧ ∀ m, m < j → l[m]? ≠ some y
  | [], i, y, h => by simp at h
  | x :: l, 0, y, h => ⟨0, Nat.le_refl _, h, fun m hm => absurd hm (Nat.not_lt_zero _)⟩
  | x :: l, i + 1, y, h => by
    by_cases e : (x :: l)[0]? = some y
    · exact ⟨0, Nat.zero_le _, e, fun m hm => absurd hm (Nat.not_lt_zero _)⟩
    · rw [List.getElem?_cons_succ] at h
      obtain ⟨j, h1, h2, h3⟩ := first_of h
      refine ⟨j + 1, by omega, by rw [List.getElem?_cons_succ]; exact h2, fun m hm => ?_⟩
      cases m with
      | zero => exact e
      | succ m => rw [List.getElem?_cons_succ]; exact h3 m (by omega)
/-! shapes -/
theorem sh_list {ds : List PyData} (h : ∀ d ∈ ds, PyData.canLay0 d = true ∧ PyData.depth d ≤ 63) : SeqAt.shaped (.list ds) = true := by
  unfold SeqAt.shaped
  have h1 : ∀ ds : List PyData, (∀ d ∈ ds, PyData.canLay0 d = true ∧ PyData.depth d ≤ 63) → PyData.canLayAll0 ds = true ∧ PyData.depthAll ds ≤ 63 := fun ds => by
    induction ds with
    | nil => intro _; exact ⟨by rw [PyData.canLayAll0], by rw [PyData.depthAll]; omega⟩
    | cons x r ih =>
      intro h
      obtain ⟨e1, e2⟩ := ih fun d hd => h d (List.mem_cons_of_mem _ hd)
      obtain ⟨e3, e4⟩ := h x List.mem_cons_self
      exact ⟨by rw [PyData.canLayAll0, e1, e3]; rfl, by rw [PyData.depthAll]; exact Nat.max_le.mpr ⟨e4, e2⟩⟩
  obtain ⟨e1, e2⟩ := h1 ds h
  rw [PyData.canLay0, e1, PyData.depth]
  exact decide_eq_true (by omega)
theorem plAll_of : ∀ {ds : List PyData}, (∀ d ∈ ds, pl d = true) → plAll ds = true
  | [], _ => rfl
  | x :: r, h => by
    show (pl x && plAll r) = true
    rw [h x List.mem_cons_self, plAll_of fun d hd => h d (List.mem_cons_of_mem _ hd)]; rfl
theorem plI (xs : List Int) : pl (dI xs) = true := plAll_of fun d hd => by
  obtain ⟨i, _, rfl⟩ := List.mem_map.mp hd; rfl
theorem dI_inj {xs ys : List Int} (h : dI xs = dI ys) : xs = ys := by
  have h2 : xs.map PyData.int = ys.map PyData.int := by unfold dI at h; injection h
  exact (List.map_inj_right (fun a b e => by cases e; rfl)).mp h2
/-! keys: a number and two rows -/
def dK (k : Int × List Int × List Int) : PyData := .list [.int k.1, dI k.2.1, dI k.2.2]
theorem dK_inj {x y : Int × List Int × List Int} (h : dK x = dK y) : x = y := by
  unfold dK at h
  injection h with h
  injection h with h1 h
  injection h with h2 h
  injection h with h3 h
  injection h1 with h1
  exact Prod.ext h1 (Prod.ext (dI_inj h2) (dI_inj h3))
theorem plK (k : Int × List Int × List Int) : pl (dK k) = true := by
  unfold dK
  rw [pl]
  refine plAll_of fun d hd => ?_
  rcases List.mem_cons.mp hd with e | hd
  · rw [e]; rfl
  · rcases List.mem_cons.mp hd with e | hd
    · rw [e]; exact plI _
    · rw [List.mem_singleton.mp hd]; exact plI _
theorem layI1 (xs : List Int) : PyData.canLay0 (dI xs) = true := by unfold dI; rw [PyData.canLay0]; exact layI xs
theorem depI1 (xs : List Int) : PyData.depth (dI xs) = 1 := by unfold dI; rw [PyData.depth, depI]
theorem kItems (k : Int × List Int × List Int) : ∀ d ∈ [PyData.int k.1, dI k.2.1, dI k.2.2], PyData.canLay0 d = true ∧ PyData.depth d ≤ 1 := fun d hd => by
  rcases List.mem_cons.mp hd with e | hd
  · rw [e]; exact ⟨by rw [PyData.canLay0], by rw [PyData.depth]; omega⟩
  · rcases List.mem_cons.mp hd with e | hd
    · rw [e]; exact ⟨layI1 _, by rw [depI1]; omega⟩
    · rw [List.mem_singleton.mp hd]; exact ⟨layI1 _, by rw [depI1]; omega⟩
theorem shK (k : Int × List Int × List Int) : SeqAt.shaped (dK k) = true := sh_list fun d hd => ⟨(kItems k d hd).1, by have := (kItems k d hd).2; omega⟩
theorem layK (k : Int × List Int × List Int) : PyData.canLay0 (dK k) = true ∧ PyData.depth (dK k) ≤ 2 := by
  unfold dK
  refine ⟨?_, ?_⟩
  · have := SeqAt.canLay_of_shaped (shK k); unfold dK at this; exact this
  · rw [PyData.depth, PyData.depthAll, PyData.depthAll, PyData.depthAll, PyData.depthAll, depI1, depI1, PyData.depth]; decide
theorem shKs (ks : List (Int × List Int × List Int)) : SeqAt.shaped (.list (ks.map dK)) = true := sh_list fun d hd => by
  obtain ⟨k, _, rfl⟩ := List.mem_map.mp hd
  exact ⟨(layK k).1, by have := (layK k).2; omega⟩
theorem plKs (ks : List (Int × List Int × List Int)) : plAll (ks.map dK) = true := plAll_of fun d hd => by
  obtain ⟨k, _, rfl⟩ := List.mem_map.mp hd; exact plK k
/-! pairs -/
def dT (q : Int × Int) : PyData := .tuple [.int q.1, .int q.2]
theorem Tp.dp {K : PySem.W.Frag} {C : Hp} : ∀ {ts : List Addr} {qs : List (Int × Int)}, Tp C ts qs → DpAll K C (ts.map V.ref) (qs.map dT)
  | [], [], _ => .nil
  | [], _ :: _, h => by have := h.1; simp at this
  | _ :: _, [], h => by have := h.1; simp at this
  | a :: as, r :: rs, h => by
    obtain ⟨r', h1, h2⟩ := h.2 0 a rfl
    have e : r = r' := Option.some.inj h1
    refine .cons (.tup (SqT.of (by rw [e]; exact h2)) (.cons (.int _) (.cons (.int _) .nil))) (Tp.dp ⟨by have := h.1; simpa using this, fun i b hb => ?_⟩)
    obtain ⟨r2, h3, h4⟩ := h.2 (i + 1) b hb
    exact ⟨r2, h3, h4⟩
theorem layT (q : Int × Int) : PyData.canLay0 (dT q) = true ∧ PyData.depth (dT q) ≤ 2 := by
  unfold dT
  exact ⟨rfl, by rw [PyData.depth, PyData.depthAll, PyData.depthAll, PyData.depthAll, PyData.depth, PyData.depth]; decide⟩
theorem shTs (qs : List (Int × Int)) : SeqAt.shaped (.list (qs.map dT)) = true := sh_list fun d hd => by
  obtain ⟨k, _, rfl⟩ := List.mem_map.mp hd
  exact ⟨(layT k).1, by have := (layT k).2; omega⟩
theorem plTs (qs : List (Int × Int)) : plAll (qs.map dT) = true := plAll_of fun d hd => by
  obtain ⟨k, _, rfl⟩ := List.mem_map.mp hd; rfl
theorem r_neNil {K : PySem.W.Frag} {H : Hp} {Q : VK} {a b : Addr} {ts : List Addr} {qs : List (Int × Int)} (h1 : H a = some (.lst (ts.map V.ref))) (ht : Tp H ts qs) (h2 : H b = some (.lst [])) (q : ∀ z : Bool, (z = true ↔ ts ≠ []) → Q (.bl z) H) : rNeD K (.ref a) (.ref b) H Q := by
  refine r_neDd (d := .list (qs.map dT)) (e := .list []) (.lst (SqL.of h1) ht.dp) (.lst (SqL.of h2) .nil) (shTs qs) rfl (plTs qs) rfl fun z hz => q z ?_
  rw [hz]
  constructor
  · intro h e
    have := ht.1
    rw [e] at this
    exact h (by rw [List.length_eq_zero_iff.mp this.symm]; rfl)
  · intro h e
    injection e with e
    rw [List.map_eq_nil_iff] at e
    have := ht.1
    rw [e] at this
    exact h (List.length_eq_zero_iff.mp this)
end Lw
namespace Lm
open Lw
theorem In.of {n L : Nat} {rs : List (List Int)} (h : Wf n L rs) : In rs := fun r hr e he => by
  have := (h.2 r hr).2.2 e he
  rw [h.1]; exact this
end Lm
/-! plain maths: numberings that tell the sets, and the drawing built of a sketch -/
namespace Lm
/-- equal numbers exactly at places with the same members' numbers -/
def Ext (T : List (List Int)) (N : Nat → Int) : Prop := ∀ (a b : Nat) r s, T[a]? = some r → T[b]? = some s → (N a = N b ↔ ∀ z, (∃ e ∈ r, N e.toNat = z) ↔ (∃ e ∈ s, N e.toNat = z))
/-- the drawing T built of the rows rs, c of them groups -/
structure Bd (T rs : List (List Int)) (n c : Nat) : Prop where
  len : rs.length = n
  cn : c ≤ n
  grp : ∀ a, a < c → T[a]? = rs[a]?
  bar : ∀ (i : Nat) r, c + i < n → rs[c + i]? = some r → T[c + i]? = some (r ++ [((n + i : Nat) : Int)])
  mark : ∀ i, c + i < n → T[n + i]? = some [((n + (n - c) : Nat) : Int), ((n + (n - c) + (c + 1 + i) : Nat) : Int)]
  zero : c < n → T[n + (n - c)]? = some []
  wrap : c < n → ∀ w, w < n → T[n + (n - c) + (w + 1)]? = some [((n + (n - c) + w : Nat) : Int)]
section
variable {T rs : List (List Int)} {n c : Nat} {N : Nat → Int}
theorem Bd.z_inj (B : Bd T rs n c) (X : Ext T N) (h : c < n) : ∀ j k, j ≤ n → k ≤ n → N (n + (n - c) + j) = N (n + (n - c) + k) → j = k := by
  intro j
  induction j with
  | zero =>
    intro k _ hk e
    cases k with
    | zero => rfl
    | succ k =>
      have := (X _ _ _ _ (B.zero h) (B.wrap h k (by omega))).mp e (N (n + (n - c) + k))
      obtain ⟨e, he, _⟩ := this.mpr ⟨_, List.mem_singleton.mpr rfl, by rw [Int.toNat_natCast]⟩
      exact nomatch he
  | succ j ih =>
    intro k hj hk e
    cases k with
    | zero =>
      have := (X _ _ _ _ (B.wrap h j (by omega)) (B.zero h)).mp e (N (n + (n - c) + j))
      obtain ⟨e, he, _⟩ := this.mp ⟨_, List.mem_singleton.mpr rfl, by rw [Int.toNat_natCast]⟩
      exact nomatch he
    | succ k =>
      have := (X _ _ _ _ (B.wrap h j (by omega)) (B.wrap h k (by omega))).mp e (N (n + (n - c) + j))
      obtain ⟨e, he, e2⟩ := this.mp ⟨_, List.mem_singleton.mpr rfl, by rw [Int.toNat_natCast]⟩
      rw [List.mem_singleton.mp he, Int.toNat_natCast] at e2
      rw [ih k (by omega) (by omega) e2.symm]
/-- a place with the number of j nested braces -/
theorem Bd.z_zero (B : Bd T rs n c) (X : Ext T N) (h : c < n) {a : Nat} {r : List Int} (hr : T[a]? = some r) (e : N a = N (n + (n - c) + 0)) : r = [] := by
  cases r with
  | nil => rfl
  | cons x r =>
    have := (X _ _ _ _ hr (B.zero h)).mp e (N x.toNat)
    obtain ⟨e, he, _⟩ := this.mp ⟨x, List.mem_cons_self, rfl⟩
    exact nomatch he
theorem Bd.z_succ (B : Bd T rs n c) (X : Ext T N) (h : c < n) {a : Nat} {r : List Int} (hr : T[a]? = some r) {j : Nat} (hj : j < n) (e : N a = N (n + (n - c) + (j + 1))) : (∀ x ∈ r, N x.toNat = N (n + (n - c) + j)) ∧ ∃ x, x ∈ r := by
  have key := (X _ _ _ _ hr (B.wrap h j hj)).mp e
  constructor
  · intro x hx
    obtain ⟨y, hy, e2⟩ := (key (N x.toNat)).mp ⟨x, hx, rfl⟩
    rw [List.mem_singleton.mp hy, Int.toNat_natCast] at e2
    exact e2.symm
  · obtain ⟨x, hx, _⟩ := (key (N (n + (n - c) + j))).mpr ⟨_, List.mem_singleton.mpr rfl, by rw [Int.toNat_natCast]⟩
    exact ⟨x, hx⟩
theorem Bd.mark_z (B : Bd T rs n c) (X : Ext T N) {i : Nat} (hi : c + i < n) {j : Nat} (hj : j ≤ n) : N (n + i) ≠ N (n + (n - c) + j) := by
  intro e
  have h : c < n := by omega
  cases j with
  | zero => have := B.z_zero X h (B.mark i hi) e; cases this
  | succ j =>
    obtain ⟨k1, _⟩ := B.z_succ X h (B.mark i hi) (by omega) e
    have e1 := k1 _ (List.mem_cons_self)
    have e2 := k1 _ (List.mem_cons_of_mem _ (List.mem_singleton.mpr rfl))
    rw [Int.toNat_natCast] at e1 e2
    have h1 := B.z_inj X h 0 j (by omega) (by omega) e1
    have h2 := B.z_inj X h (c + 1 + i) j (by omega) (by omega) e2
    omega
theorem Bd.bare_row (B : Bd T rs n c) {i : Nat} (hi : c + i < n) : ∃ r, rs[c + i]? = some r ∧ T[c + i]? = some (r ++ [((n + i : Nat) : Int)]) := by
  obtain ⟨r, hr⟩ : ∃ r, rs[c + i]? = some r := ⟨_, List.getElem?_eq_getElem (by rw [B.len]; exact hi)⟩
  exact ⟨r, hr, B.bar i r hi hr⟩
theorem Bd.bare_z (B : Bd T rs n c) (X : Ext T N) {i : Nat} (hi : c + i < n) {j : Nat} (hj : j ≤ n) : N (c + i) ≠ N (n + (n - c) + j) := by
  intro e
  have h : c < n := by omega
  obtain ⟨r, _, hr⟩ := B.bare_row hi
  cases j with
  | zero => have := B.z_zero X h hr e; simp at this
  | succ j =>
    obtain ⟨k1, _⟩ := B.z_succ X h hr (by omega) e
    have e1 := k1 _ (List.mem_append_right _ (List.mem_singleton.mpr rfl))
    rw [Int.toNat_natCast] at e1
    exact B.mark_z X hi (by omega) e1
/-- a place below n with the number of j nested braces is the end of a chain of j + 1 groups -/
theorem Bd.chain (B : Bd T rs n c) (X : Ext T N) (hin : In rs) (h : c < n) : ∀ j, j ≤ n → ∀ p, p < n → N p = N (n + (n - c) + j) → ∃ f : Nat → Nat, ∀ k, k ≤ j → f k < c ∧ N (f k) = N (n + (n - c) + k) := by
  intro j
  induction j with
  | zero =>
    intro hj p hp e
    refine ⟨fun _ => p, fun k hk => ?_⟩
    have : k = 0 := by omega
    subst this
    refine ⟨?_, e⟩
    rcases Nat.lt_or_ge p c with q | q
    · exact q
    · have := B.bare_z X (i := p - c) (by omega) (j := 0) (by omega)
      rw [show c + (p - c) = p by omega] at this
      exact absurd e this
  | succ j ih =>
    intro hj p hp e
    have hpc : p < c := by
      rcases Nat.lt_or_ge p c with q | q
      · exact q
      · have := B.bare_z X (i := p - c) (by omega) hj
        rw [show c + (p - c) = p by omega] at this
        exact absurd e this
    obtain ⟨r, hr⟩ : ∃ r, rs[p]? = some r := ⟨_, List.getElem?_eq_getElem (by rw [B.len]; exact hp)⟩
    have hT : T[p]? = some r := by rw [B.grp p hpc]; exact hr
    obtain ⟨k1, x, hx⟩ := B.z_succ X h hT (by omega) e
    have hx2 := hin r (List.mem_of_getElem? hr) x hx
    rw [B.len] at hx2
    obtain ⟨f, hf⟩ := ih (by omega) x.toNat (by omega) (k1 x hx)
    refine ⟨fun k => if k = j + 1 then p else f k, fun k hk => ?_⟩
    by_cases hk2 : k = j + 1
    · subst hk2; simp only [if_pos]; exact ⟨hpc, e⟩
    · simp only [if_neg hk2]; exact hf k (by omega)
theorem Bd.low (B : Bd T rs n c) (X : Ext T N) (hin : In rs) (h : c < n) {j : Nat} (hj : j ≤ n) {p : Nat} (hp : p < n) (e : N p = N (n + (n - c) + j)) : j < c := by
  obtain ⟨f, hf⟩ := B.chain X hin h j hj p hp e
  have nd : ((List.range (j + 1)).map f).Nodup := by
    rw [List.Nodup, List.pairwise_map]
    refine List.Pairwise.imp_of_mem (fun {a b} ha hb hab e2 => ?_) (List.nodup_range (n := j + 1))
    have h1 := List.mem_range.mp ha
    have h2 := List.mem_range.mp hb
    have e3 := (hf a (by omega)).2
    have e4 := (hf b (by omega)).2
    rw [e2] at e3
    exact hab (B.z_inj X h a b (by omega) (by omega) (e3.symm.trans e4))
  have := nodup_le (n := c) nd fun x hx => by
    obtain ⟨k, hk, rfl⟩ := List.mem_map.mp hx
    exact (hf k (by have := List.mem_range.mp hk; omega)).1
  rw [List.length_map, List.length_range] at this
  omega
/-- no place below n is a mark's set -/
theorem Bd.no_mark (B : Bd T rs n c) (X : Ext T N) (hin : In rs) {i : Nat} (hi : c + i < n) {p : Nat} (hp : p < n) : N p ≠ N (n + i) := by
  intro e
  have h : c < n := by omega
  have key : ∀ r, T[p]? = some r → ∃ x ∈ r, N x.toNat = N (n + (n - c) + (c + 1 + i)) := fun r hr => by
    refine ((X _ _ _ _ hr (B.mark i hi)).mp e _).mpr ⟨_, List.mem_cons_of_mem _ (List.mem_singleton.mpr rfl), by rw [Int.toNat_natCast]⟩
  obtain ⟨r, hr⟩ : ∃ r, rs[p]? = some r := ⟨_, List.getElem?_eq_getElem (by rw [B.len]; exact hp)⟩
  have low : ∀ x ∈ r, N x.toNat ≠ N (n + (n - c) + (c + 1 + i)) := fun x hx e2 => by
    have hx2 := hin r (List.mem_of_getElem? hr) x hx
    rw [B.len] at hx2
    have := B.low X hin h (j := c + 1 + i) (by omega) (p := x.toNat) (by omega) e2
    omega
  rcases Nat.lt_or_ge p c with q | q
  · obtain ⟨x, hx, e2⟩ := key r (by rw [B.grp p q]; exact hr)
    exact low x hx e2
  · have hb := B.bar (p - c) r (by omega) (by rw [show c + (p - c) = p by omega]; exact hr)
    rw [show c + (p - c) = p by omega] at hb
    obtain ⟨x, hx, e2⟩ := key _ hb
    rcases List.mem_append.mp hx with z | z
    · exact low x z e2
    · rw [List.mem_singleton.mp z, Int.toNat_natCast] at e2
      exact B.mark_z X (i := p - c) (by omega) (j := c + 1 + i) (by omega) e2
theorem Bd.mark_in (B : Bd T rs n c) (X : Ext T N) {i : Nat} (hi : c + i < n) {p : Nat} {r : List Int} (hr : T[p]? = some r) (e : N (c + i) = N p) : ∃ x ∈ r, N x.toNat = N (n + i) := by
  obtain ⟨r0, _, h0⟩ := B.bare_row hi
  exact ((X _ _ _ _ h0 hr).mp e _).mp ⟨_, List.mem_append_right _ (List.mem_singleton.mpr rfl), by rw [Int.toNat_natCast]⟩
theorem Bd.bare_inj (B : Bd T rs n c) (X : Ext T N) (hin : In rs) {i k : Nat} (hi : c + i < n) (hk : c + k < n) (e : N (c + i) = N (c + k)) : i = k := by
  have h : c < n := by omega
  obtain ⟨r, hr0, hr⟩ := B.bare_row hk
  obtain ⟨x, hx, e2⟩ := B.mark_in X hi hr e
  rcases List.mem_append.mp hx with z | z
  · have hx2 := hin r (List.mem_of_getElem? hr0) x z
    rw [B.len] at hx2
    exact absurd e2 (B.no_mark X hin hi (by omega))
  · rw [List.mem_singleton.mp z, Int.toNat_natCast] at e2
    have := (X _ _ _ _ (B.mark k hk) (B.mark i hi)).mp e2 (N (n + (n - c) + (c + 1 + i)))
    obtain ⟨y, hy, e3⟩ := this.mpr ⟨_, List.mem_cons_of_mem _ (List.mem_singleton.mpr rfl), by rw [Int.toNat_natCast]⟩
    rcases List.mem_cons.mp hy with w | w
    · rw [w, Int.toNat_natCast] at e3
      have := B.z_inj X h 0 (c + 1 + i) (by omega) (by omega) e3
      omega
    · rw [List.mem_singleton.mp w, Int.toNat_natCast] at e3
      have := B.z_inj X h (c + 1 + k) (c + 1 + i) (by omega) (by omega) e3
      omega
theorem Bd.bare_grp (B : Bd T rs n c) (X : Ext T N) (hin : In rs) {i g : Nat} (hi : c + i < n) (hg : g < c) : N (c + i) ≠ N g := by
  intro e
  obtain ⟨r, hr⟩ : ∃ r, rs[g]? = some r := ⟨_, List.getElem?_eq_getElem (by rw [B.len]; omega)⟩
  obtain ⟨x, hx, e2⟩ := B.mark_in X hi (show T[g]? = some r by rw [B.grp g hg]; exact hr) e
  have hx2 := hin r (List.mem_of_getElem? hr) x hx
  rw [B.len] at hx2
  exact absurd e2 (B.no_mark X hin hi (by omega))
/-- equal numbers of two groups: alike as the sketch has it -/
theorem Bd.isB (B : Bd T rs n c) (X : Ext T N) (hin : In rs) (hasc : ∀ r ∈ rs, r.Pairwise (· < ·)) {g h : Nat} (hg : g < c) (hh : h < c) (e : N g = N h) : Bs c rs g h := by
  refine ⟨fun x y => x < c ∧ y < c ∧ N x = N y, ?_, hg, hh, e⟩
  rintro x y ⟨hx, hy, e⟩
  obtain ⟨r, hr⟩ : ∃ r, rs[x]? = some r := ⟨_, List.getElem?_eq_getElem (by rw [B.len]; have := B.cn; omega)⟩
  obtain ⟨s, hs⟩ : ∃ s, rs[y]? = some s := ⟨_, List.getElem?_eq_getElem (by rw [B.len]; have := B.cn; omega)⟩
  have key := (X _ _ r s (by rw [B.grp x hx]; exact hr) (by rw [B.grp y hy]; exact hs)).mp e
  have hi : ∀ {t}, t ∈ rs → ∀ z ∈ t, 0 ≤ z ∧ z < (n : Int) := fun {t} ht z hz => by have := hin t ht z hz; rw [B.len] at this; exact this
  have hrm := List.mem_of_getElem? hr
  have hsm := List.mem_of_getElem? hs
  -- a member's partner is of its own kind
  have part : ∀ {a b : Int}, 0 ≤ a → a < (n : Int) → 0 ≤ b → b < (n : Int) → N a.toNat = N b.toNat → (a < (c : Int) ↔ b < (c : Int)) ∧ (¬ a < (c : Int) → a = b) := fun {a b} a0 a1 b0 b1 e => by
    by_cases ha : a < (c : Int)
    · by_cases hb : b < (c : Int)
      · exact ⟨⟨fun _ => hb, fun _ => ha⟩, fun z => absurd ha z⟩
      · have := B.bare_grp X hin (i := b.toNat - c) (g := a.toNat) (by omega) (by omega)
        rw [show c + (b.toNat - c) = b.toNat by omega] at this
        exact absurd e.symm this
    · by_cases hb : b < (c : Int)
      · have := B.bare_grp X hin (i := a.toNat - c) (g := b.toNat) (by omega) (by omega)
        rw [show c + (a.toNat - c) = a.toNat by omega] at this
        exact absurd e this
      · have := B.bare_inj X hin (i := a.toNat - c) (k := b.toNat - c) (by omega) (by omega) (by rw [show c + (a.toNat - c) = a.toNat by omega, show c + (b.toNat - c) = b.toNat by omega]; exact e)
        exact ⟨⟨fun z => absurd z ha, fun z => absurd z hb⟩, fun _ => by omega⟩
  have go : ∀ a ∈ r, ∃ b ∈ s, N a.toNat = N b.toNat := fun a ha => by
    obtain ⟨b, hb, e2⟩ := (key (N a.toNat)).mp ⟨a, ha, rfl⟩
    exact ⟨b, hb, e2.symm⟩
  have back : ∀ b ∈ s, ∃ a ∈ r, N a.toNat = N b.toNat := fun b hb => by
    obtain ⟨a, ha, e2⟩ := (key (N b.toNat)).mpr ⟨b, hb, rfl⟩
    exact ⟨a, ha, e2⟩
  refine ⟨r, s, hx, hy, hr, hs, ?_, fun a ha => ?_, fun b hb => ?_⟩
  · refine asc_eq ((hasc r hrm).filter _) ((hasc s hsm).filter _) fun z => ?_
    show z ∈ br c r ↔ z ∈ br c s
    rw [br_mem, br_mem]
    constructor
    · rintro ⟨hz, hz2⟩
      obtain ⟨b, hb, e2⟩ := go z hz
      have := (part (hi hrm z hz).1 (hi hrm z hz).2 (hi hsm b hb).1 (hi hsm b hb).2 e2).2 (by omega)
      rw [this] at hz2 ⊢; exact ⟨hb, hz2⟩
    · rintro ⟨hz, hz2⟩
      obtain ⟨a, ha, e2⟩ := back z hz
      have := (part (hi hsm z hz).1 (hi hsm z hz).2 (hi hrm a ha).1 (hi hrm a ha).2 e2.symm).2 (by omega)
      rw [this] at hz2 ⊢; exact ⟨ha, hz2⟩
  · obtain ⟨ha1, ha2⟩ := gp_mem.mp ha
    obtain ⟨b, hb, e2⟩ := go a ha1
    have a3 := hi hrm a ha1
    have b3 := hi hsm b hb
    have := ((part a3.1 a3.2 b3.1 b3.2 e2).1).mp ha2
    exact ⟨b, gp_mem.mpr ⟨hb, this⟩, by omega, by omega, e2⟩
  · obtain ⟨hb1, hb2⟩ := gp_mem.mp hb
    obtain ⟨a, ha, e2⟩ := back b hb1
    have a3 := hi hrm a ha
    have b3 := hi hsm b hb1
    have := ((part a3.1 a3.2 b3.1 b3.2 e2).1).mpr hb2
    exact ⟨a, gp_mem.mpr ⟨ha, this⟩, by omega, by omega, e2⟩
/-- where no two groups are alike, the places below n have different numbers, and the rows tell the members -/
theorem Bd.inj (B : Bd T rs n c) (X : Ext T N) (hin : In rs) (hasc : ∀ r ∈ rs, r.Pairwise (· < ·)) (hs : ∀ g h, Bs c rs g h → g = h) {p q : Nat} (hp : p < n) (hq : q < n) (e : N p = N q) : p = q := by
  rcases Nat.lt_or_ge p c with a | a
  · rcases Nat.lt_or_ge q c with b | b
    · exact hs p q (B.isB X hin hasc a b e)
    · have := B.bare_grp X hin (i := q - c) (g := p) (by omega) a
      rw [show c + (q - c) = q by omega] at this
      exact absurd e.symm this
  · rcases Nat.lt_or_ge q c with b | b
    · have := B.bare_grp X hin (i := p - c) (g := q) (by omega) b
      rw [show c + (p - c) = p by omega] at this
      exact absurd e this
    · have := B.bare_inj X hin (i := p - c) (k := q - c) (by omega) (by omega) (by rw [show c + (p - c) = p by omega, show c + (q - c) = q by omega]; exact e)
      omega
theorem Bd.mem (B : Bd T rs n c) (X : Ext T N) (hin : In rs) (hasc : ∀ r ∈ rs, r.Pairwise (· < ·)) (hs : ∀ g h, Bs c rs g h → g = h) {a k : Nat} (ha : a < n) (hk : k < n) {r t : List Int} (hr : rs[a]? = some r) (ht : T[a]? = some t) :
    (∃ e ∈ t, N e.toNat = N k) ↔ (k : Int) ∈ r := by
  have low : ∀ e ∈ r, N e.toNat = N k → e = (k : Int) := fun e he e2 => by
    have h1 := hin r (List.mem_of_getElem? hr) e he
    rw [B.len] at h1
    have := B.inj X hin hasc hs (p := e.toNat) (q := k) (by omega) hk e2
    omega
  rcases Nat.lt_or_ge a c with q | q
  · rw [B.grp a q, hr] at ht
    cases ht
    exact ⟨fun ⟨e, he, e2⟩ => by rw [← low e he e2]; exact he, fun h => ⟨_, h, by rw [Int.toNat_natCast]⟩⟩
  · have hb := B.bar (a - c) r (by omega) (by rw [show c + (a - c) = a by omega]; exact hr)
    rw [show c + (a - c) = a by omega, ht] at hb
    cases hb
    constructor
    · rintro ⟨e, he, e2⟩
      rcases List.mem_append.mp he with z | z
      · rw [← low e z e2]; exact z
      · rw [List.mem_singleton.mp z, Int.toNat_natCast] at e2
        exact absurd e2.symm (B.no_mark X hin (i := a - c) (by omega) hk)
    · intro h
      exact ⟨_, List.mem_append_left _ h, by rw [Int.toNat_natCast]⟩
end
end Lm
/-! plain maths: sets are numbered round by round -/
namespace Lm
structure Sn (rs : List (List Int)) (N : List Int) (ks : List (List Int)) : Prop where
  len : N.length = rs.length
  rng : ∀ z ∈ N, z = -1 ∨ (0 ≤ z ∧ z < (ks.length : Int))
  nd : ks.Nodup
  key : ∀ (a : Nat) r z, rs[a]? = some r → N[a]? = some z → 0 ≤ z → ∃ k, ks[z.toNat]? = some k ∧ k.Pairwise (· < ·) ∧ (∀ y, y ∈ k ↔ ∃ e ∈ r, N[e.toNat]? = some y) ∧ ∀ e ∈ r, ∃ y, N[e.toNat]? = some y ∧ 0 ≤ y
  rank : ∃ (μ : Nat → Nat) (K : Nat), ∀ (a : Nat) r z, rs[a]? = some r → N[a]? = some z → 0 ≤ z → μ a < K ∧ ∀ e ∈ r, μ e.toNat < μ a
theorem Sn.init (rs : List (List Int)) : Sn rs (List.replicate rs.length (-1)) [] := by
  have no : ∀ (a : Nat) z, (List.replicate rs.length (-1 : Int))[a]? = some z → z = -1 := fun a z h => (List.mem_replicate.mp (List.mem_of_getElem? h)).2
  refine ⟨List.length_replicate, fun z hz => .inl (List.mem_replicate.mp hz).2, List.nodup_nil, fun a r z _ h hz => ?_, fun _ => 0, 0, fun a r z _ h hz => ?_⟩
  · rw [no a z h] at hz; omega
  · rw [no a z h] at hz; omega
theorem Sn.step {rs : List (List Int)} {N : List Int} {ks ks' : List (List Int)} (S : Sn rs N ks) {a : Nat} {r : List Int} (hr : rs[a]? = some r) (ha : N[a]? = some (-1)) (hm : ∀ e ∈ r, ∃ y, N[e.toNat]? = some y ∧ 0 ≤ y)
    {k : List Int} (hk : k.Pairwise (· < ·)) (hk2 : ∀ y, y ∈ k ↔ ∃ e ∈ r, N[e.toNat]? = some y) {j : Nat} (hj : ks'[j]? = some k) (hks : ks' = ks ∨ (ks' = ks ++ [k] ∧ k ∉ ks)) : Sn rs (N.set a j) ks' := by
  have hal : a < N.length := (List.getElem?_eq_some_iff.mp ha).1
  have hjl := (List.getElem?_eq_some_iff.mp hj).1
  have pre : ∀ (i : Nat) x, ks[i]? = some x → ks'[i]? = some x := fun i x h => by
    rcases hks with q | ⟨q, _⟩
    · rw [q]; exact h
    · rw [q, List.getElem?_append_left (List.getElem?_eq_some_iff.mp h).1]; exact h
  have ple : ks.length ≤ ks'.length := by
    rcases hks with q | ⟨q, _⟩
    · rw [q]; exact Nat.le_refl _
    · rw [q, List.length_append]; omega
  -- numbered places are not a
  have keep : ∀ (b : Nat) y, N[b]? = some y → 0 ≤ y → (N.set a (j : Int))[b]? = some y := fun b y h h0 => by
    by_cases e : a = b
    · subst e; rw [ha] at h; have := Option.some.inj h; omega
    · rw [List.getElem?_set_ne e]; exact h
  have keep2 : ∀ (s : List Int), (∀ e ∈ s, ∃ y, N[e.toNat]? = some y ∧ 0 ≤ y) → ∀ y, (∃ e ∈ s, (N.set a (j : Int))[e.toNat]? = some y) ↔ ∃ e ∈ s, N[e.toNat]? = some y := fun s hs y => by
    constructor
    · rintro ⟨e, he, h⟩
      obtain ⟨y', h1, h2⟩ := hs e he
      rw [keep _ _ h1 h2] at h
      exact ⟨e, he, by rw [h1]; exact h⟩
    · rintro ⟨e, he, h⟩
      obtain ⟨y', h1, h2⟩ := hs e he
      rw [h1] at h
      have h := Option.some.inj h
      subst h
      exact ⟨e, he, keep _ _ h1 h2⟩
  refine ⟨by rw [List.length_set]; exact S.len, fun z hz => ?_, ?_, fun b s z hs hz h0 => ?_, ?_⟩
  · rcases List.mem_or_eq_of_mem_set hz with q | q
    · rcases S.rng z q with w | w
      · exact .inl w
      · exact .inr ⟨w.1, by omega⟩
    · rw [q]; exact .inr ⟨by omega, by omega⟩
  · rcases hks with q | ⟨q, q2⟩
    · rw [q]; exact S.nd
    · rw [q, List.nodup_append]
      exact ⟨S.nd, by simp, fun x hx y hy e => q2 (by rw [← List.mem_singleton.mp hy, ← e]; exact hx)⟩
  · by_cases e : a = b
    · subst e
      rw [List.getElem?_set_self hal] at hz
      cases hz
      rw [hr] at hs; cases hs
      rw [Int.toNat_natCast]
      refine ⟨k, hj, hk, fun y => by rw [hk2, keep2 _ hm], fun e he => ?_⟩
      obtain ⟨y, h1, h2⟩ := hm e he
      exact ⟨y, keep _ _ h1 h2, h2⟩
    · rw [List.getElem?_set_ne e] at hz
      obtain ⟨k', h1, h2, h3, h4⟩ := S.key b s z hs hz h0
      refine ⟨k', pre _ _ h1, h2, fun y => by rw [h3, keep2 _ h4], fun e he => ?_⟩
      obtain ⟨y, h5, h6⟩ := h4 e he
      exact ⟨y, keep _ _ h5 h6, h6⟩
  · obtain ⟨μ, K, h⟩ := S.rank
    refine ⟨fun b => if b = a then K else μ b, K + 1, fun b s z hs hz h0 => ?_⟩
    have hne : ∀ e : Int, (∃ y, N[e.toNat]? = some y ∧ 0 ≤ y) → e.toNat ≠ a := fun e ⟨y, h1, h2⟩ z => by
      rw [z, ha] at h1; have := Option.some.inj h1; omega
    by_cases e : a = b
    · subst e
      rw [hr] at hs; cases hs
      refine ⟨by simp only [if_pos]; omega, fun e he => ?_⟩
      simp only [if_pos, if_neg (hne e (hm e he))]
      obtain ⟨y, h1, h2⟩ := hm e he
      obtain ⟨s', hs'⟩ : ∃ s', rs[e.toNat]? = some s' := ⟨_, List.getElem?_eq_getElem (by rw [← S.len]; exact (List.getElem?_eq_some_iff.mp h1).1)⟩
      exact (h _ _ _ hs' h1 h2).1
    · rw [List.getElem?_set_ne e] at hz
      obtain ⟨_, _, _, _, h4⟩ := S.key b s z hs hz h0
      obtain ⟨h5, h6⟩ := h b s z hs hz h0
      simp only [if_neg (Ne.symm e)]
      refine ⟨by omega, fun e he => ?_⟩
      rw [if_neg (hne e (h4 e he))]
      exact h6 e he
theorem Sn.ext {rs : List (List Int)} {N : List Int} {ks : List (List Int)} (S : Sn rs N ks) (h : ∀ z ∈ N, 0 ≤ z) : Ext rs fun a => (N[a]?).getD (-1) := by
  intro a b r s hr hs
  have at_ : ∀ {a : Nat} {r : List Int}, rs[a]? = some r → ∃ z, N[a]? = some z ∧ 0 ≤ z := fun {a r} hr => by
    obtain ⟨z, hz⟩ : ∃ z, N[a]? = some z := ⟨_, List.getElem?_eq_getElem (by rw [S.len]; exact (List.getElem?_eq_some_iff.mp hr).1)⟩
    exact ⟨z, hz, h z (List.mem_of_getElem? hz)⟩
  obtain ⟨x, hx, x0⟩ := at_ hr
  obtain ⟨y, hy, y0⟩ := at_ hs
  obtain ⟨k, k1, k2, k3, k4⟩ := S.key a r x hr hx x0
  obtain ⟨l, l1, l2, l3, l4⟩ := S.key b s y hs hy y0
  have conv : ∀ {t : List Int}, (∀ e ∈ t, ∃ y, N[e.toNat]? = some y ∧ 0 ≤ y) → ∀ z, (∃ e ∈ t, (N[e.toNat]?).getD (-1) = z) ↔ ∃ e ∈ t, N[e.toNat]? = some z := fun {t} ht z => by
    constructor
    · rintro ⟨e, he, h⟩
      obtain ⟨y, h1, _⟩ := ht e he
      rw [h1] at h
      exact ⟨e, he, by rw [h1, ← h]; rfl⟩
    · rintro ⟨e, he, h⟩
      exact ⟨e, he, by rw [h]; rfl⟩
  show (N[a]?).getD (-1) = (N[b]?).getD (-1) ↔ ∀ z, (∃ e ∈ r, (N[e.toNat]?).getD (-1) = z) ↔ ∃ e ∈ s, (N[e.toNat]?).getD (-1) = z
  rw [hx, hy]
  constructor
  · intro e
    have e : x = y := e
    subst e
    rw [k1] at l1
    have := Option.some.inj l1
    subst this
    intro z
    rw [conv k4, conv l4, ← k3, ← l3]
  · intro hz
    have e : k = l := asc_eq k2 l2 fun z => by rw [k3, l3, ← conv k4, ← conv l4]; exact hz z
    subst e
    have := at_inj S.nd k1 l1
    show x = y
    omega
theorem Sn.acyc {rs : List (List Int)} {N : List Int} {ks : List (List Int)} (S : Sn rs N ks) (h : ∀ z ∈ N, 0 ≤ z) : ∀ x, ¬ Tc (Ed rs) x x := by
  obtain ⟨μ, K, hk⟩ := S.rank
  intro x t
  have := no_ring (E := Ed rs) (μ := μ) (fun a b ⟨r, hr, hb⟩ => by
    obtain ⟨z, hz⟩ : ∃ z, N[a]? = some z := ⟨_, List.getElem?_eq_getElem (by rw [S.len]; exact (List.getElem?_eq_some_iff.mp hr).1)⟩
    have := (hk a r z hr hz (h z (List.mem_of_getElem? hz))).2 _ hb
    rwa [Int.toNat_natCast] at this) t
  omega
theorem Sn.stuck {rs : List (List Int)} {N : List Int} {ks : List (List Int)} (S : Sn rs N ks) (hin : In rs) (hs : ∀ (a : Nat) r, rs[a]? = some r → (∃ z, N[a]? = some z ∧ 0 ≤ z) ∨ ∃ e ∈ r, ∃ y, N[e.toNat]? = some y ∧ y < 0) (hr : ∀ x, ¬ Tc (Ed rs) x x) : ∀ z ∈ N, 0 ≤ z := by
  intro z hz
  refine Classical.byContradiction fun hlt => ?_
  obtain ⟨a, ha⟩ := List.mem_iff_getElem?.mp hz
  obtain ⟨k, _, t⟩ := ring_of (E := Ed rs) (n := rs.length) (U := fun a => ∃ z, N[a]? = some z ∧ z < 0) (fun a ⟨z, hz, _⟩ => by rw [← S.len]; exact (List.getElem?_eq_some_iff.mp hz).1) (fun a ⟨z, hz, h0⟩ => by
    obtain ⟨r, hr⟩ : ∃ r, rs[a]? = some r := ⟨_, List.getElem?_eq_getElem (by rw [← S.len]; exact (List.getElem?_eq_some_iff.mp hz).1)⟩
    rcases hs a r hr with ⟨z', h1, h2⟩ | ⟨e, he, y, h1, h2⟩
    · rw [hz] at h1; have := Option.some.inj h1; omega
    · have := (hin r (List.mem_of_getElem? hr) e he).1
      exact ⟨e.toNat, ⟨y, h1, h2⟩, r, hr, by rw [Int.toNat_of_nonneg this]; exact he⟩) ⟨z, ha, by omega⟩
  exact hr k t
def cnt (N : List Int) : Nat := N.countP fun z => decide (0 ≤ z)
theorem cnt_set {N : List Int} {z : Int} (hz : 0 ≤ z) : ∀ {a : Nat}, N[a]? = some (-1) → cnt (N.set a z) = cnt N + 1 := by
  unfold cnt
  induction N with
  | nil => intro a h; simp at h
  | cons x N ih =>
    intro a h
    cases a with
    | zero =>
      simp at h; subst h
      rw [List.set_cons_zero, List.countP_cons, List.countP_cons, if_pos (by simpa using hz), if_neg (by decide)]
    | succ a =>
      rw [List.getElem?_cons_succ] at h
      rw [List.set_cons_succ, List.countP_cons, List.countP_cons, ih h]; omega
theorem cnt_all {N : List Int} (h : N.length ≤ cnt N) : ∀ z ∈ N, 0 ≤ z := by
  have := List.countP_eq_length.mp (Nat.le_antisymm List.countP_le_length h)
  intro z hz
  exact of_decide_eq_true (this z hz)
theorem cnt_le (N : List Int) : cnt N ≤ N.length := List.countP_le_length
end Lm
/-! plain maths: no rings in a drawing whose further places fall -/
namespace Lm
theorem acyc_of {T rs : List (List Int)} {n : Nat} (μ : Nat → Nat) (h1 : ∀ a b, Ed T a b → a < n → b < n → Ed rs a b) (h2 : ∀ a b, Ed T a b → n ≤ a → n ≤ b ∧ μ b < μ a) (hr : ∀ x, ¬ Tc (Ed rs) x x) : ∀ x, ¬ Tc (Ed T) x x := by
  have A : ∀ a b, Tc (Ed T) a b → n ≤ a → n ≤ b ∧ μ b < μ a := fun a b t => by
    induction t with
    | one e => exact h2 _ _ e
    | more _ e ih =>
      intro ha
      have h3 := ih ha
      have h4 := h2 _ _ e h3.1
      exact ⟨h4.1, Nat.lt_trans h4.2 h3.2⟩
  have B : ∀ a b, Tc (Ed T) a b → a < n → b < n → Tc (Ed rs) a b := fun a b t => by
    induction t with
    | one e => exact fun ha hb => .one (h1 _ _ e ha hb)
    | @more b c t e ih =>
      intro ha hc
      rcases Nat.lt_or_ge b n with q | q
      · exact .more (ih ha q) (h1 _ _ e q hc)
      · have := (h2 _ _ e q).1; omega
  intro x t
  rcases Nat.lt_or_ge x n with q | q
  · exact hr x (B x x t q q)
  · have := (A x x t q).2; omega
end Lm
/-! a table: rows of ints as tuple keys, each with its place as value -/
namespace Lw
open PySem PySem.Spec PyProof.Rows L2
def tkey (k : List Int) : List Key := k.map Sum.inl
theorem tkey_inj {k l : List Int} (h : tkey k = tkey l) : k = l := (List.map_inj_right (fun a b e => by cases e; rfl)).mp h
theorem tkey_kV (k : List Int) : (tkey k).map kV = k.map V.int := by
  unfold tkey; rw [List.map_map]; rfl
def tabF (i : Nat) : List (List Int) → List (List Key × V)
  | [] => []
  | k :: r => (tkey k, .int (i : Int)) :: tabF (i + 1) r
def tab (ks : List (List Int)) : List (List Key × V) := tabF 0 ks
theorem tabF_len : ∀ (ks : List (List Int)) (i : Nat), (tabF i ks).length = ks.length
  | [], _ => rfl
  | _ :: r, i => congrArg Nat.succ (tabF_len r (i + 1))
theorem tab_len (ks : List (List Int)) : (tab ks).length = ks.length := tabF_len ks 0
theorem tabF_get : ∀ (ks : List (List Int)) (i : Nat) {j : Nat} {k : List Int}, ks.Nodup → ks[j]? = some k → valV (tabF i ks) (tkey k) = some (.int ((i + j : Nat) : Int))
  | [], _, _, _, _, h => by simp at h
  | x :: r, i, j, k, hn, h => by
    rw [List.nodup_cons] at hn
    unfold valV tabF
    by_cases e : x = k
    · have hj : j = 0 := by
        cases j with
        | zero => rfl
        | succ j => rw [List.getElem?_cons_succ] at h; exact absurd (e ▸ List.mem_of_getElem? h) hn.1
      subst hj e
      rw [List.find?_cons_of_pos (by simp)]; rfl
    · rw [List.find?_cons_of_neg (by simp only [decide_eq_true_eq]; exact fun z => e (tkey_inj z))]
      cases j with
      | zero => simp at h; exact absurd h e
      | succ j =>
        rw [List.getElem?_cons_succ] at h
        have := tabF_get r (i + 1) hn.2 h
        unfold valV at this
        rw [this]
        congr 2
        omega
theorem tabF_none : ∀ (ks : List (List Int)) (i : Nat) {k : List Int}, k ∉ ks → valV (tabF i ks) (tkey k) = none
  | [], _, _, _ => rfl
  | x :: r, i, k, h => by
    unfold valV tabF
    rw [List.find?_cons_of_neg (by simp only [decide_eq_true_eq]; exact fun z => h (by rw [← tkey_inj z]; exact List.mem_cons_self))]
    have := tabF_none r (i + 1) (k := k) fun z => h (List.mem_cons_of_mem _ z)
    unfold valV at this
    exact this
theorem tab_get {ks : List (List Int)} {j : Nat} {k : List Int} (hn : ks.Nodup) (h : ks[j]? = some k) : valV (tab ks) (tkey k) = some (.int (j : Int)) := by
  have := tabF_get ks 0 hn h
  rw [Nat.zero_add] at this; exact this
theorem tab_none {ks : List (List Int)} {k : List Int} (h : k ∉ ks) : valV (tab ks) (tkey k) = none := tabF_none ks 0 h
theorem tabF_push : ∀ (ks : List (List Int)) (i : Nat) (k : List Int), tabF i ks ++ [(tkey k, .int ((i + ks.length : Nat) : Int))] = tabF i (ks ++ [k])
  | [], _, _ => rfl
  | x :: r, i, k => by
    show (tkey x, V.int (i : Int)) :: (tabF (i + 1) r ++ _) = (tkey x, V.int (i : Int)) :: tabF (i + 1) (r ++ [k])
    rw [← tabF_push r (i + 1) k, show i + (x :: r).length = i + 1 + r.length by rw [List.length_cons]; omega]
theorem tabF_any : ∀ (ks : List (List Int)) (i : Nat) {k : List Int}, k ∉ ks → (tabF i ks).any (fun kv => decide (kv.1 = tkey k)) = false
  | [], _, _, _ => rfl
  | x :: r, i, k, h => by
    show (decide (tkey x = tkey k) || (tabF (i + 1) r).any _) = false
    rw [tabF_any r (i + 1) fun z => h (List.mem_cons_of_mem _ z), decide_eq_false (fun z => h (by rw [← tkey_inj z]; exact List.mem_cons_self))]; rfl
theorem tab_put {ks : List (List Int)} {k : List Int} (h : k ∉ ks) : putK (tab ks) (tkey k) (.int (ks.length : Int)) = tab (ks ++ [k]) := by
  unfold putK tab
  rw [tabF_any ks 0 h]
  simp only [Bool.false_eq_true, if_false]
  have := tabF_push ks 0 k
  rw [Nat.zero_add] at this
  exact this
end Lw
namespace Lw
open PySem PySem.Spec PyProof.Rows L2
section
variable {X : Cx}
def rTupleOf (K : PySem.W.Frag) : List V → Hp → VK → Prop := fun xs H Q => ∃ p ys, xs = [.ref p] ∧ ((SqL K H p ys ∧ ∀ l, H l = none → Q (.ref l) (upd H l (.tup ys))) ∨ (SqT K H p ys ∧ Q (.ref p) H))
theorem call_tuple_ofK {K : PySem.W.Frag} (h : X.K = K) : CallR X (.type "tuple") (rTupleOf K) := by subst h; exact call_tuple_of
end
section
variable {K : PySem.W.Frag} {σ : L2.St} {H : Hp} {Q : VK} {D : Ends}
theorem r_tupleOf {a : Addr} {xs : List V} (h : H a = some (.lst xs)) (q : ∀ l, H l = none → Q (.ref l) (upd H l (.tup xs))) : rTupleOf K [.ref a] H Q := ⟨a, xs, rfl, .inl ⟨SqL.of h, q⟩⟩
theorem r_lenTb {a : Addr} {kvs : List (List Key × V)} (h : H a = some (.dT kvs)) (q : Q (.int kvs.length) H) : L2.rLenT [.ref a] H Q := ⟨a, kvs, rfl, h, q⟩
theorem r_dget {td ty : TE} (h : td σ H fun x H1 => ty σ H1 fun y H2 => ∃ a v, x = .ref a ∧ DGet H2 a y (some v) ∧ Q v H2) : tDGet td ty σ H Q := h
theorem r_dnot {td ty : TE} (h : ty σ H fun y H1 => td σ H1 fun x H2 => ∃ a o, x = .ref a ∧ DGet H2 a y o ∧ Q (.bl (!o.isSome)) H2) : tDNotIn ty td σ H Q := h
theorem r_dput {td ty tv : TE} (h : tv σ H fun v H1 => td σ H1 fun x H2 => ty σ H2 fun y H3 => ∃ a H4, x = .ref a ∧ DPut H3 a y v H4 ∧ D.nx σ H4) : sDPut td ty tv D σ H := h
theorem r_dnewT (h : ∀ p, H p = none → Q (.ref p) (upd H p (.dT []))) : tDNewT σ H Q := h
end
end Lw
/-! isinstance of a caught own error, asked of a tuple of classes -/
namespace Lw
open PySem PySem.Spec PyProof.Rows L2
def rIsET (K : PySem.W.Frag) (D a : Addr) : List V → Hp → VK → Prop := fun xs H Q => ∃ (tp : Addr) (cs : List Addr) (b : Bool), xs = [.ref a, .ref tp] ∧ H tp = some (.tup (cs.map V.ref)) ∧ PySem.W.kitAny K (.ref D) (cs.map Value.ref) = some b ∧ Q (.bl b) H
theorem vals_refs : ∀ {cs : List Addr} {us : List Value}, Vals (cs.map V.ref) us → us = cs.map Value.ref
  | [], _, .nil => rfl
  | c :: cs, _, .cons r t => by
    have h : _ = Value.ref c := r
    rw [h, vals_refs t]; rfl
theorem call_isET {X : Cx} {a D : Addr} {oe : Obj} {pn : List (Addr × Obj)} (C : ExcC X.K D) (hz : Zc (.ref D) none oe) (hf : ∃ vs, oe.data = .fields vs) : CallR (X.suite a ((a, oe) :: pn)) (.builtin "isinstance") (rIsET X.K D a) := by
  intro pins s σ H xs us Q I r h
  obtain ⟨tp, cs, b, rfl, ht, e, q⟩ := h
  cases r with
  | cons rx rr =>
    cases rr with
    | cons rt rr =>
      cases rr
      cases rx
      cases rt
      obtain ⟨hget, _⟩ := I.pin (a, oe) (List.mem_append.mpr (.inl List.mem_cons_self))
      obtain ⟨vs, hv⟩ := hf
      have J : PySem.W.InstAt s.heap a oe D none := by
        obtain ⟨oc, od, oda, osl⟩ := oe
        obtain ⟨h1, h2⟩ := hz
        dsimp only at h1 h2 hv
        subst h1 h2 hv
        exact ⟨hget, rfl, rfl, trivial⟩
      obtain ⟨its, rv, pl, hz2⟩ := I.tuple (SqT.of ht)
      obtain ⟨o, ho, hc, n, hd⟩ := pl
      obtain ⟨oc, od, oda, osl⟩ := o
      simp only at hc hd
      subst hc hd
      rw [vals_refs rv] at ho
      exact PySem.W.kia_tup (PySem.W.handS_kitx_exc C.hg C.hk C.hs C.hd C.ha C.hn C.ht C.hm) I.kIn J ho e (fun z => nomatch z) fun tk => ⟨.bl b, H, I.kept (t' := tk) fun _ _ z => z, rfl, q⟩
end Lw
/-! plain maths: a partition refined by rounds ends at the greatest likeness -/
namespace Lm
/-- how many different ones -/
def nf (p : List Int) : Nat := (List.range p.length).countP fun a => decide (∀ b, b < a → p[b]? ≠ p[a]?)
theorem nf_le (p : List Int) : nf p ≤ p.length := by
  unfold nf
  have := List.countP_le_length (p := fun a : Nat => decide (∀ b, b < a → p[b]? ≠ p[a]?)) (l := List.range p.length)
  rwa [List.length_range] at this
theorem nf_push (p : List Int) (z : Int) : nf (p ++ [z]) = nf p + if z ∈ p then 0 else 1 := by
  unfold nf
  rw [List.length_append, List.length_singleton, List.range_succ, List.countP_append]
  congr 1
  · refine List.countP_congr fun a ha => ?_
    have ha := List.mem_range.mp ha
    rw [decide_eq_true_eq, decide_eq_true_eq]
    constructor
    · intro h b hb
      have := h b hb
      rwa [List.getElem?_append_left (by omega), List.getElem?_append_left ha] at this
    · intro h b hb
      rw [List.getElem?_append_left (by omega), List.getElem?_append_left ha]
      exact h b hb
  · have e : (p ++ [z])[p.length]? = some z := by rw [List.getElem?_append_right (Nat.le_refl _), Nat.sub_self]; rfl
    by_cases hz : z ∈ p
    · rw [if_pos hz, List.countP_cons_of_neg, List.countP_nil]
      rw [decide_eq_true_eq]
      intro h
      obtain ⟨b, hb⟩ := List.mem_iff_getElem?.mp hz
      have hbl := (List.getElem?_eq_some_iff.mp hb).1
      refine h b hbl ?_
      rw [e, List.getElem?_append_left hbl, hb]
    · rw [if_neg hz, List.countP_cons_of_pos, List.countP_nil]
      rw [decide_eq_true_eq]
      intro b hb
      rw [e, List.getElem?_append_left hb]
      intro q
      exact hz (List.mem_of_getElem? q)
/-- one round: q tells the keys, which refine p -/
structure Rn {κ : Type} (p q : List Int) (key : Nat → κ) (c : Nat) : Prop where
  lp : p.length = c
  lq : q.length = c
  same : ∀ a b, a < c → b < c → (q[a]? = q[b]? ↔ key a = key b)
  ref : ∀ a b, a < c → b < c → key a = key b → p[a]? = p[b]?
theorem least_of {P : Nat → Prop} : ∀ {a : Nat}, P a → ∃ m, m ≤ a ∧ P m ∧ ∀ b, b < m → ¬ P b := by
  intro a
  induction a using Nat.strongRecOn with
  | ind a ih =>
    intro h
    by_cases q : ∃ b, b < a ∧ P b
    · obtain ⟨b, hb, pb⟩ := q
      obtain ⟨m, h1, h2, h3⟩ := ih b hb pb
      exact ⟨m, by omega, h2, h3⟩
    · exact ⟨a, Nat.le_refl _, h, fun b hb pb => q ⟨b, hb, pb⟩⟩
section
variable {κ : Type} {p q : List Int} {key : Nat → κ} {c : Nat}
theorem Rn.le (R : Rn p q key c) : nf p ≤ nf q := by
  unfold nf
  rw [R.lp, R.lq]
  refine List.countP_mono_left fun a ha h => ?_
  have ha := List.mem_range.mp ha
  rw [decide_eq_true_eq] at h ⊢
  intro b hb e
  exact h b hb (R.ref b a (by omega) ha ((R.same b a (by omega) ha).mp e))
theorem Rn.grow (R : Rn p q key c) {a b : Nat} (ha : a < c) (hb : b < c) (e : p[a]? = p[b]?) (hne : q[a]? ≠ q[b]?) : nf p < nf q := by
  unfold nf
  rw [R.lp, R.lq]
  obtain ⟨x, x1, x2, x3⟩ := least_of (P := fun m => q[m]? = q[a]?) (a := a) rfl
  obtain ⟨y, y1, y2, y3⟩ := least_of (P := fun m => q[m]? = q[b]?) (a := b) rfl
  have px : p[x]? = p[a]? := R.ref x a (by omega) ha ((R.same x a (by omega) ha).mp x2)
  have py : p[y]? = p[b]? := R.ref y b (by omega) hb ((R.same y b (by omega) hb).mp y2)
  have hxy : x ≠ y := fun z => hne (by rw [← x2, ← y2, z])
  have key1 : ∀ u v, u < v → v < c → p[u]? = p[v]? → (∀ b, b < v → q[b]? ≠ q[v]?) → (List.range c).countP (fun a => decide (∀ b, b < a → p[b]? ≠ p[a]?)) < (List.range c).countP fun a => decide (∀ b, b < a → q[b]? ≠ q[a]?) := fun u v huv hv e1 h1 => by
    refine countP_lt (fun a ha h => ?_) ⟨v, List.mem_range.mpr hv, decide_eq_true h1, decide_eq_false fun h => h u huv e1⟩
    have ha := List.mem_range.mp ha
    rw [decide_eq_true_eq] at h ⊢
    intro b hb e
    exact h b hb (R.ref b a (by omega) ha ((R.same b a (by omega) ha).mp e))
  rcases Nat.lt_or_gt_of_ne hxy with z | z
  · exact key1 x y z (by omega) (by rw [px, py, e]) fun b hb q1 => y3 b hb (q1.trans y2)
  · exact key1 y x z (by omega) (by rw [px, py, e]) fun b hb q1 => x3 b hb (q1.trans x2)
theorem Rn.still (R : Rn p q key c) (e : nf q = nf p) {a b : Nat} (ha : a < c) (hb : b < c) : q[a]? = q[b]? ↔ p[a]? = p[b]? := by
  constructor
  · intro h
    exact R.ref a b ha hb ((R.same a b ha hb).mp h)
  · intro h
    refine Classical.byContradiction fun hn => ?_
    have := R.grow ha hb h hn
    omega
end
/-- the table of one round: ks the different keys in order, f their places -/
structure Fr {κ : Type} (ks : List κ) (f : List Int) (key : Nat → κ) (j : Nat) : Prop where
  len : f.length = j
  nd : ks.Nodup
  at_ : ∀ i, i < j → ∃ m : Nat, f[i]? = some (m : Int) ∧ ks[m]? = some (key i)
  used : ∀ m, m < ks.length → (m : Int) ∈ f
  nf : nf f = ks.length
section
variable {κ : Type} {ks : List κ} {f : List Int} {key : Nat → κ} {j : Nat}
theorem Fr.nil : Fr ([] : List κ) [] key 0 := ⟨rfl, List.nodup_nil, fun i hi => absurd hi (Nat.not_lt_zero _), fun m hm => absurd hm (Nat.not_lt_zero _), rfl⟩
theorem Fr.lt (F : Fr ks f key j) {z : Int} (hz : z ∈ f) : 0 ≤ z ∧ z < (ks.length : Int) := by
  obtain ⟨i, hi⟩ := List.mem_iff_getElem?.mp hz
  obtain ⟨m, h1, h2⟩ := F.at_ i (by rw [← F.len]; exact (List.getElem?_eq_some_iff.mp hi).1)
  rw [h1] at hi; cases hi
  have := (List.getElem?_eq_some_iff.mp h2).1
  omega
theorem Fr.le (F : Fr ks f key j) : ks.length ≤ j := by
  have := nf_le f
  rw [F.nf, F.len] at this
  exact this
theorem Fr.old (F : Fr ks f key j) {m : Nat} (h : ks[m]? = some (key j)) : Fr ks (f ++ [(m : Int)]) key (j + 1) := by
  have hm := (List.getElem?_eq_some_iff.mp h).1
  refine ⟨by rw [List.length_append, F.len]; rfl, F.nd, fun i hi => ?_, fun k hk => List.mem_append_left _ (F.used k hk), by rw [nf_push, if_pos (F.used m hm), F.nf]; rfl⟩
  by_cases e : i = j
  · subst e
    exact ⟨m, by rw [List.getElem?_append_right (by rw [F.len]; exact Nat.le_refl _), F.len, Nat.sub_self]; rfl, h⟩
  · obtain ⟨k, h1, h2⟩ := F.at_ i (by omega)
    exact ⟨k, by rw [List.getElem?_append_left (by rw [F.len]; omega)]; exact h1, h2⟩
theorem Fr.new (F : Fr ks f key j) (h : key j ∉ ks) : Fr (ks ++ [key j]) (f ++ [(ks.length : Int)]) key (j + 1) := by
  have hn : (ks.length : Int) ∉ f := fun z => by have := (F.lt z).2; omega
  refine ⟨by rw [List.length_append, F.len]; rfl, ?_, fun i hi => ?_, fun k hk => ?_, by rw [nf_push, if_neg hn, F.nf, List.length_append]; rfl⟩
  · rw [List.nodup_append]
    refine ⟨F.nd, List.nodup_cons.mpr ⟨List.not_mem_nil, List.nodup_nil⟩, fun a ha b hb => ?_⟩
    rw [List.mem_singleton.mp hb]
    exact fun e => h (e ▸ ha)
  · by_cases e : i = j
    · subst e
      exact ⟨ks.length, by rw [List.getElem?_append_right (by rw [F.len]; exact Nat.le_refl _), F.len, Nat.sub_self]; rfl, by rw [List.getElem?_append_right (Nat.le_refl _), Nat.sub_self]; rfl⟩
    · obtain ⟨k, h1, h2⟩ := F.at_ i (by omega)
      exact ⟨k, by rw [List.getElem?_append_left (by rw [F.len]; omega)]; exact h1, by rw [List.getElem?_append_left (List.getElem?_eq_some_iff.mp h2).1]; exact h2⟩
  · by_cases e : k = ks.length
    · subst e; exact List.mem_append_right _ (List.mem_singleton.mpr rfl)
    · rw [List.length_append, List.length_singleton] at hk
      exact List.mem_append_left _ (F.used k (by omega))
theorem Fr.same (F : Fr ks f key j) {a b : Nat} (ha : a < j) (hb : b < j) : f[a]? = f[b]? ↔ key a = key b := by
  obtain ⟨m, h1, h2⟩ := F.at_ a ha
  obtain ⟨k, h3, h4⟩ := F.at_ b hb
  rw [h1, h3]
  constructor
  · intro e
    have : m = k := by have := Option.some.inj e; omega
    subst this
    rw [h2] at h4
    exact Option.some.inj h4
  · intro e
    rw [← e] at h4
    have : m = k := (List.getElem?_inj (List.getElem?_eq_some_iff.mp h2).1 F.nd).mp (h2.trans h4.symm)
    rw [this]
end
/-- the rounds so far: p -/
structure Rs (c : Nat) (rs : List (List Int)) (p : List Int) : Prop where
  len : p.length = c
  bs : ∀ a b, Bs c rs a b → p[a]? = p[b]?
def Fin (c : Nat) (rs : List (List Int)) (p : List Int) : Prop := ∀ a b, a < c → b < c → p[a]? = p[b]? → Bs c rs a b
theorem zeros_rs (c : Nat) (rs : List (List Int)) : Rs c rs (List.replicate c 0) := ⟨List.length_replicate, fun a b h => by
  obtain ⟨_, _, h1, h2, _⟩ := Bs.isB a b h
  rw [List.getElem?_replicate, List.getElem?_replicate, if_pos h1, if_pos h2]⟩
section
variable {n c : Nat} {rs : List (List Int)} {p q : List Int} {key : Nat → Int × List Int × List Int}
theorem Rs.next (P : Rs c rs p) (k : Ky c rs p key) (hn : rs.length = n) (hc : c ≤ n) (h0 : ∀ r ∈ rs, ∀ e ∈ r, 0 ≤ e) (hasc : ∀ a, a < c → (key a).2.1.Pairwise (· < ·)) {ks : List (Int × List Int × List Int)} (F : Fr ks q key c) : Rs c rs q ∧ Rn p q key c := by
  refine ⟨⟨F.len, fun a b h => ?_⟩, P.len, F.len, fun a b ha hb => F.same ha hb, fun a b ha hb e => ?_⟩
  · obtain ⟨_, _, h1, h2, _⟩ := Bs.isB a b h
    exact (F.same h1 h2).mpr (k.keep hn hc P.len h0 hasc P.bs h)
  · obtain ⟨r, hr⟩ : ∃ r, rs[a]? = some r := ⟨_, List.getElem?_eq_getElem (by omega)⟩
    obtain ⟨s, hs⟩ : ∃ s, rs[b]? = some s := ⟨_, List.getElem?_eq_getElem (by omega)⟩
    rw [(k.val a r ha hr).2.1, (k.val b s hb hs).2.1, e]
/-- where a round parts nothing -/
theorem Rn.fin (R : Rn p q key c) (k : Ky c rs p key) (hn : rs.length = n) (hc : c ≤ n) (h0 : ∀ r ∈ rs, ∀ e ∈ r, 0 ≤ e) (e : ∀ a b, a < c → b < c → p[a]? = p[b]? → q[a]? = q[b]?) : Fin c rs p := by
  intro g h hg hh eg
  refine ⟨fun x y => x < c ∧ y < c ∧ p[x]? = p[y]?, ?_, hg, hh, eg⟩
  rintro x y ⟨hx, hy, exy⟩
  have ek := (R.same x y hx hy).mp (e x y hx hy exy)
  obtain ⟨r, hr⟩ : ∃ r, rs[x]? = some r := ⟨_, List.getElem?_eq_getElem (by omega)⟩
  obtain ⟨s, hs⟩ : ∃ s, rs[y]? = some s := ⟨_, List.getElem?_eq_getElem (by omega)⟩
  obtain ⟨k1, k2, k3⟩ := k.val x r hx hr
  obtain ⟨l1, l2, l3⟩ := k.val y s hy hs
  have lt : ∀ {r e}, r ∈ rs → e ∈ gp c r → e.toNat < c := fun {r e} hr he => by
    have := gp_mem.mp he
    have := h0 r hr e this.1
    omega
  have has : ∀ a, a < c → ∃ z, p[a]? = some z := fun a ha => ⟨_, List.getElem?_eq_getElem (by rw [R.lp]; exact ha)⟩
  refine ⟨r, s, hx, hy, hr, hs, by rw [← k1, ← l1, ek], fun e he => ?_, fun f hf => ?_⟩
  · have h1 := lt (List.mem_of_getElem? hr) he
    obtain ⟨z, hz⟩ := has _ h1
    have := (k3 z).mpr ⟨e, he, hz⟩
    rw [ek] at this
    obtain ⟨f, hf, hz2⟩ := (l3 z).mp this
    exact ⟨f, hf, h1, lt (List.mem_of_getElem? hs) hf, by rw [hz, hz2]⟩
  · have h1 := lt (List.mem_of_getElem? hs) hf
    obtain ⟨z, hz⟩ := has _ h1
    have := (l3 z).mpr ⟨f, hf, hz⟩
    rw [← ek] at this
    obtain ⟨e, he, hz2⟩ := (k3 z).mp this
    exact ⟨e, he, lt (List.mem_of_getElem? hr) he, h1, by rw [hz, hz2]⟩
/-- a numbering that is done stays so -/
theorem Fin.next (f : Fin c rs p) (P : Rs c rs p) (Q : Rs c rs q) (R : Rn p q key c) : Fin c rs q := fun a b ha hb e => f a b ha hb (R.ref a b ha hb ((R.same a b ha hb).mp e))
theorem Fin.or_grow (P : Rs c rs p) (Q : Rs c rs q) (R : Rn p q key c) (k : Ky c rs p key) (hn : rs.length = n) (hc : c ≤ n) (h0 : ∀ r ∈ rs, ∀ e ∈ r, 0 ≤ e) {t : Nat} (h : Fin c rs p ∨ t < nf p) : Fin c rs q ∨ t + 1 < nf q := by
  rcases h with h | h
  · exact .inl (h.next P Q R)
  · by_cases e : nf q = nf p
    · have f := R.fin k hn hc h0 fun a b ha hb e2 => (R.still e ha hb).mpr e2
      exact .inl (f.next P Q R)
    · have := R.le
      exact .inr (by omega)
end
/-- all places groups: a numbering by the greatest likeness tells the sets -/
theorem ext_of {T : List (List Int)} {N : List Int} {l : Nat} (hl : T.length = l) (hN : N.length = l) (hin : In T) (h1 : Rs l T N) (h2 : Fin l T N) : Ext T (fun a => (N[a]?).getD 0) := by
  have hg : ∀ {r}, r ∈ T → gp l r = r := fun {r} hr => by
    unfold gp
    rw [List.filter_eq_self]
    intro e he
    have := (hin r hr e he).2
    rw [hl] at this
    exact decide_eq_true this
  have hb : ∀ {r}, r ∈ T → br l r = [] := fun {r} hr => by
    unfold br
    rw [List.filter_eq_nil_iff]
    intro e he
    have := (hin r hr e he).2
    rw [hl] at this
    rw [decide_eq_true_eq]
    omega
  have dec : ∀ {x y : Nat}, x < l → y < l → ((N[x]?).getD 0 = (N[y]?).getD 0 ↔ N[x]? = N[y]?) := fun {x y} hx hy => by
    rw [List.getElem?_eq_getElem (show x < N.length by omega), List.getElem?_eq_getElem (show y < N.length by omega)]
    exact ⟨fun h => by rw [show N[x] = N[y] from h], fun h => Option.some.inj h⟩
  have lt : ∀ {r e}, r ∈ T → e ∈ r → e.toNat < l := fun {r e} hr he => by have := hin r hr e he; omega
  intro a b r s hr hs
  have ha : a < l := by rw [← hl]; exact (List.getElem?_eq_some_iff.mp hr).1
  have hbl : b < l := by rw [← hl]; exact (List.getElem?_eq_some_iff.mp hs).1
  have hrm := List.mem_of_getElem? hr
  have hsm := List.mem_of_getElem? hs
  rw [dec ha hbl]
  constructor
  · intro e
    obtain ⟨r', s', _, _, e1, e2, _, m1, m2⟩ := Bs.isB a b (h2 a b ha hbl e)
    rw [hr] at e1; cases e1
    rw [hs] at e2; cases e2
    rw [hg hrm, hg hsm] at m1 m2
    intro z
    constructor
    · rintro ⟨x, hx, rfl⟩
      obtain ⟨y, hy, q⟩ := m1 x hx
      exact ⟨y, hy, (congrArg (fun o : Option Int => o.getD 0) (h1.bs _ _ q)).symm⟩
    · rintro ⟨y, hy, rfl⟩
      obtain ⟨x, hx, q⟩ := m2 y hy
      exact ⟨x, hx, congrArg (fun o : Option Int => o.getD 0) (h1.bs _ _ q)⟩
  · intro h
    refine h1.bs a b ⟨fun x y => Bs l T x y ∨ (x = a ∧ y = b), ?_, .inr ⟨rfl, rfl⟩⟩
    rintro x y (q | ⟨rfl, rfl⟩)
    · obtain ⟨r', s', k1, k2, k3, k4, k5, k6, k7⟩ := Bs.isB x y q
      exact ⟨r', s', k1, k2, k3, k4, k5, fun e he => let ⟨f, hf, z⟩ := k6 e he; ⟨f, hf, .inl z⟩, fun f hf => let ⟨e, he, z⟩ := k7 f hf; ⟨e, he, .inl z⟩⟩
    · refine ⟨r, s, ha, hbl, hr, hs, by rw [hb hrm, hb hsm], fun e he => ?_, fun f hf => ?_⟩
      · rw [hg hrm] at he
        obtain ⟨f, hf, z⟩ := (h _).mp ⟨e, he, rfl⟩
        exact ⟨f, by rw [hg hsm]; exact hf, .inl (h2 _ _ (lt hrm he) (lt hsm hf) ((dec (lt hrm he) (lt hsm hf)).mp z.symm))⟩
      · rw [hg hsm] at hf
        obtain ⟨e, he, z⟩ := (h _).mpr ⟨f, hf, rfl⟩
        exact ⟨e, by rw [hg hrm]; exact he, .inl (h2 _ _ (lt hrm he) (lt hsm hf) ((dec (lt hrm he) (lt hsm hf)).mp z)) ⟩
/-! ### the keys -/
def insA (z : Int) : List Int → List Int
  | [] => [z]
  | x :: r => if z < x then z :: x :: r else if z = x then x :: r else x :: insA z r
theorem insA_mem {z w : Int} : ∀ {l : List Int}, w ∈ insA z l ↔ w = z ∨ w ∈ l
  | [] => by simp [insA]
  | x :: r => by
    unfold insA
    split
    · simp
    · split
      · next h => subst h; simp
      · rw [List.mem_cons, insA_mem, List.mem_cons]
        constructor
        · rintro (h | h | h)
          · exact .inr (.inl h)
          · exact .inl h
          · exact .inr (.inr h)
        · rintro (h | h | h)
          · exact .inr (.inl h)
          · exact .inl h
          · exact .inr (.inr h)
theorem insA_asc {z : Int} : ∀ {l : List Int}, l.Pairwise (· < ·) → (insA z l).Pairwise (· < ·)
  | [], _ => List.pairwise_singleton _ _
  | x :: r, h => by
    have h1 := (List.pairwise_cons.mp h).1
    have h2 := (List.pairwise_cons.mp h).2
    unfold insA
    split
    · next q =>
      refine List.pairwise_cons.mpr ⟨fun w hw => ?_, h⟩
      rcases List.mem_cons.mp hw with e | e
      · rw [e]; exact q
      · have := h1 w e; omega
    · split
      · exact h
      · next q1 q2 =>
        refine List.pairwise_cons.mpr ⟨fun w hw => ?_, insA_asc h2⟩
        rcases insA_mem.mp hw with e | e
        · rw [e]; omega
        · exact h1 w e
def asc (l : List Int) : List Int := l.foldr insA []
theorem asc_mem {w : Int} : ∀ {l : List Int}, w ∈ asc l ↔ w ∈ l
  | [] => Iff.rfl
  | x :: r => by
    show w ∈ insA x (asc r) ↔ _
    rw [insA_mem, asc_mem, List.mem_cons]
theorem asc_pw : ∀ l : List Int, (asc l).Pairwise (· < ·)
  | [] => List.Pairwise.nil
  | _ :: r => insA_asc (asc_pw r)
theorem asc_of {l s : List Int} (h : s.Pairwise (· < ·)) (hm : ∀ z, z ∈ s ↔ z ∈ l) : s = asc l := asc_eq h (asc_pw l) fun z => (hm z).trans asc_mem.symm
def pAt (p : List Int) (a : Nat) : Int := (p[a]?).getD 0
theorem pAt_of {p : List Int} {a : Nat} (h : a < p.length) : p[a]? = some (pAt p a) := by unfold pAt; rw [List.getElem?_eq_getElem h]; rfl
def rowAt (rs : List (List Int)) (a : Nat) : List Int := (rs[a]?).getD []
theorem rowAt_of {rs : List (List Int)} {a : Nat} {r : List Int} (h : rs[a]? = some r) : rowAt rs a = r := by unfold rowAt; rw [h]; rfl
def keyK (c : Nat) (rs : List (List Int)) (p : List Int) (a : Nat) : Int × List Int × List Int := (pAt p a, asc ((gp c (rowAt rs a)).map fun e => pAt p e.toNat), br c (rowAt rs a))
theorem keyK_ky {n c : Nat} {rs : List (List Int)} {p : List Int} (hn : rs.length = n) (hc : c ≤ n) (hp : p.length = c) (h0 : ∀ r ∈ rs, ∀ e ∈ r, 0 ≤ e) : Ky c rs p (keyK c rs p) := ⟨fun a r ha hr => by
  unfold keyK
  rw [rowAt_of hr]
  refine ⟨rfl, pAt_of (by omega), fun z => ?_⟩
  have lt : ∀ e ∈ gp c r, e.toNat < p.length := fun e he => by
    have h1 := gp_mem.mp he
    have := h0 r (List.mem_of_getElem? hr) e h1.1
    omega
  rw [asc_mem, List.mem_map]
  constructor
  · rintro ⟨e, he, rfl⟩
    exact ⟨e, he, pAt_of (lt e he)⟩
  · rintro ⟨e, he, q⟩
    exact ⟨e, he, Option.some.inj ((pAt_of (lt e he)).symm.trans q)⟩⟩
theorem Fr.congr {κ : Type} {ks : List κ} {f : List Int} {key key' : Nat → κ} {j : Nat} (F : Fr ks f key j) (h : ∀ i, i < j → key i = key' i) : Fr ks f key' j :=
  ⟨F.len, F.nd, fun i hi => by rw [← h i hi]; exact F.at_ i hi, F.used, F.nf⟩
theorem Fr.map {κ μ : Type} {ks : List κ} {f : List Int} {key : Nat → κ} {j : Nat} (F : Fr ks f key j) {g : κ → μ} (hg : ∀ x y, g x = g y → x = y) : Fr (ks.map g) f (fun i => g (key i)) j := by
  refine ⟨F.len, ?_, fun i hi => ?_, fun m hm => F.used m (by rwa [List.length_map] at hm), by rw [F.nf, List.length_map]⟩
  · rw [List.Nodup, List.pairwise_map]
    exact F.nd.imp fun h e => h (hg _ _ e)
  · obtain ⟨m, h1, h2⟩ := F.at_ i hi
    exact ⟨m, h1, by rw [List.getElem?_map, h2]; rfl⟩
theorem nf_zeros : ∀ l : Nat, 1 ≤ l → nf (List.replicate l 0) = 1
  | 0, h => absurd h (by decide)
  | 1, _ => by decide
  | l + 2, _ => by
    rw [show List.replicate (l + 2) (0 : Int) = List.replicate (l + 1) 0 ++ [0] from List.replicate_succ', nf_push, nf_zeros (l + 1) (by omega), if_pos (List.mem_replicate.mpr ⟨by omega, rfl⟩)]
end Lm
/-! dicts whose keys are pairs: an int (or a text) and a tuple of ints (and texts) -/
namespace PySem
open Sem (wp)
section
variable {prog : Program} {w : World} {K : Type} [DecidableEq K] (knd : KeyKind prog w K)
def IsPairKey (h : Heap) (k : K × List K) (a : Addr) : Prop := ∃ o v b n, h.get? a = some o ∧ o.cls = .type "tuple" ∧ o.data = .seq #[v, .ref b] n ∧ knd.is k.1 v = true ∧ IsTupleKey knd h k.2 b
variable {knd}
theorem IsPairKey.typeIs {s : Shared} {k : K × List K} {a : Addr} (x : IsPairKey knd s.heap k a) : s.TypeIs (.ref a) "tuple" := let ⟨o, _, _, _, ho, hc, _⟩ := x; ⟨o, ho, hc⟩
theorem IsPairKey.inj {h : Heap} {a : Addr} {x y : K × List K} (hx : IsPairKey knd h x a) (hy : IsPairKey knd h y a) : x = y := by
  obtain ⟨o, v, b, n, ho, _, hd, h1, h2⟩ := hx
  obtain ⟨o', v', b', n', ho', _, hd', h1', h2'⟩ := hy
  obtain rfl : o = o' := Option.some.inj (ho.symm.trans ho')
  rw [hd] at hd'
  injection hd' with q _
  have q2 := congrArg Array.toList q
  simp only [List.cons.injEq, Value.ref.injEq, and_true] at q2
  obtain ⟨rfl, rfl⟩ := q2
  exact Prod.ext (knd.inj _ _ _ h1 h1') (h2.inj h2')
theorem IsPairKey.keeps {h h' : Heap} {k : K × List K} {a d : Addr} {o : Obj} {es ep} (x : IsPairKey knd h k a) (ho : h.get? d = some o) (hd : o.data = .dict es ep) (hs : Heap.SameBut d h h') : IsPairKey knd h' k a := by
  obtain ⟨o', v, b, n, ho', hc, hd', h1, h2⟩ := x
  have hne : a ≠ d := by
    rintro rfl
    obtain rfl : o' = o := Option.some.inj (ho'.symm.trans ho)
    rw [hd] at hd'; exact nomatch hd'
  exact ⟨o', v, b, n, (hs.2 a hne).trans ho', hc, hd', h1, h2.keeps ho hd hs⟩
def pairKeyHash (knd : KeyKind prog w K) (k : K × List K) : Int := reduceHash (Builtin.Tuple.tupleHashOf [knd.hash k.1, tupleKeyHash knd k.2])
variable {A : Around} {E : Value → Shared → Prop} {s : Shared}
theorem wpAny_pyHash_pair {k : K × List K} {a : Addr} {Q : Int → Shared → Prop} (hu : A.units + 1 < cLine) (hk : IsPairKey knd s.heap k a) (h : Q (pairKeyHash knd k) { s with toks := s.toks + (k.2.length + 3) }) :
    wpAny (model prog w) A (pyHash (.ref a)) Q E s := by
  have hT := hk.typeIs
  obtain ⟨o, v, b', n, ho, _, hd, h1, h2⟩ := hk
  unfold pyHash
  first | unfold pyHashByItsType | skip
  first | refine wpAny_bind (wpAny_cRoomFor_or (.inr (by omega)) ?_) | skip
  refine wpAny_bind (wpAny_specialOf hT F.slot_tuple_hash.lookup ?_)
  show wpAny _ _ (if (some (Value.builtin "tuple.__hash__") == some Value.none) = true then _ else _) Q E s
  rw [if_neg (by rw [beq_builtin_none]; exact Bool.false_ne_true)]
  refine wpAny_bind (wpAny_specialOf hT F.slot_tuple_hash.lookup ?_)
  show wpAny _ _ (callSpecialIfBoundUnlessNone? (.ref a) "__hash__" _ >>= _) Q E s
  refine wpAny_bind (wpAny_callSpecialIfBoundUnlessNone?_slot hT F.slot_tuple_hash (wpAny_call_entry F.slot_tuple_hash hT F.entry_tuple_hash ?_ (F.args_tuple_hash_1 _)))
  show wpAny _ _ (Builtin.Tuple.tupleItemsOf (.ref a) >>= _) _ _ s
  refine wpAny_bind (wpAny_tupleItemsOf ho hd ?_)
  refine wpAny_bind ?_
  rw [← Array.forIn_toList]
  refine wpAny_forIn_list _
    (fun rest (b : Array Int) s' => (rest = [v, .ref b'] ∧ b.toList = [] ∧ s' = s) ∨ (rest = [.ref b'] ∧ b.toList = [knd.hash k.1] ∧ s' = { s with toks := s.toks + 1 }) ∨
      (rest = [] ∧ b.toList = [knd.hash k.1, tupleKeyHash knd k.2] ∧ s' = { s with toks := s.toks + (k.2.length + 2) }))
    _ ?_ ?_ _ _ (.inl ⟨rfl, rfl, rfl⟩)
  · rintro x rest b s' (⟨hr, hb, rfl⟩ | ⟨hr, hb, rfl⟩ | ⟨hr, _, _⟩)
    · obtain ⟨rfl, rfl⟩ := List.cons.inj hr
      refine wpAny_bind (knd.pyHash h1 ?_)
      first
        | exact wpAny_pure (.inr (.inl ⟨rfl, by simp [hb], rfl⟩))
        | exact wpAny_bind (wpAny_pure (wpAny_pure (.inr (.inl ⟨rfl, by simp [hb], rfl⟩))))
    · obtain ⟨rfl, rfl⟩ := List.cons.inj hr
      refine wpAny_bind (wpAny_pyHash_tuple (s := { s with toks := s.toks + 1 }) ?_ h2 ?_)
      · exact hu
      · first
          | exact wpAny_pure (.inr (.inr ⟨rfl, by simp [hb], by simp; omega⟩))
          | exact wpAny_bind (wpAny_pure (wpAny_pure (.inr (.inr ⟨rfl, by simp [hb], by simp; omega⟩))))
    · cases hr
  · rintro b s' (⟨hr, _⟩ | ⟨hr, _⟩ | ⟨_, hb, rfl⟩)
    · cases hr
    · cases hr
    · show wpAny _ _ (retInt (Builtin.Tuple.tupleHashOf b.toList)) _ _ _
      rw [hb]
      refine wpAny_ret_mkInt ?_
      show wpAny _ _ (if (decide (-(2 : Int) ^ 63 ≤ Builtin.Tuple.tupleHashOf [knd.hash k.1, tupleKeyHash knd k.2]) && decide (Builtin.Tuple.tupleHashOf [knd.hash k.1, tupleKeyHash knd k.2] < 2 ^ 63)) = true then _ else _) Q E _
      unfold pairKeyHash reduceHash at h
      by_cases hr : (decide (-(2 : Int) ^ 63 ≤ Builtin.Tuple.tupleHashOf [knd.hash k.1, tupleKeyHash knd k.2]) && decide (Builtin.Tuple.tupleHashOf [knd.hash k.1, tupleKeyHash knd k.2] < 2 ^ 63)) = true
      · rw [if_pos hr]
        rw [if_pos hr] at h
        exact wpAny_pure (by simpa [Nat.add_assoc] using h)
      · rw [if_neg hr]
        rw [if_neg hr] at h
        exact wpAny_bind (wpAny_rule (wpAny_pure (by simpa [Nat.add_assoc] using h)))

theorem wpAny_eqIsQuiet_tup {ks : List K} {a : Addr} {m : Nat} {Q : Bool → Shared → Prop} (hk : IsTupleKey knd s.heap ks a) (h : Q true s) : wpAny (model prog w) A (eqIsQuiet (m + 1) (.ref a)) Q E s := by
  have hT := hk.typeIs
  obtain ⟨o, items, n, ho, _, hd, hi⟩ := hk
  unfold eqIsQuiet
  refine wpAny_bind (wpAny_specialOf hT F.slot_tuple_eq.lookup ?_)
  show wpAny _ _ (isInstance (.ref a) (.type "tuple") >>= _) _ _ s
  refine wpAny_bind (wpAny_isInstance hT isSubtype_tuple_tuple ?_)
  simp only [Bool.not_true, Bool.false_eq_true, if_false]
  refine wpAny_bind (wpAny_seqItems ho hd ?_)
  refine wpAny_bind ?_
  show wpAny _ _ (forIn items _ _) _ _ s
  rw [← Array.forIn_toList]
  refine wpAny_forIn_list _ (fun rest r s' => r.1 = none ∧ s' = s ∧ ∀ v ∈ rest, carriedByValue v = true) _ ?_ ?_ _ _ ⟨rfl, rfl, hi.byValue⟩
  · rintro v rest r s' ⟨hr, rfl, hall⟩
    rw [eqIsQuiet_byValue _ (hall v List.mem_cons_self)]
    refine wpAny_bind (wpAny_pure ?_)
    simp only [Bool.not_true, Bool.false_eq_true, if_false]
    exact wpAny_pure ⟨rfl, rfl, fun u hu' => hall u (List.mem_cons_of_mem _ hu')⟩
  · rintro ⟨r1, r2⟩ s' ⟨hr, rfl, _⟩
    simp only at hr
    subst hr
    exact wpAny_pure h
theorem wpAny_eqIsQuiet_pair {k : K × List K} {a : Addr} {Q : Bool → Shared → Prop} (hk : IsPairKey knd s.heap k a) (h : Q true s) : wpAny (model prog w) A (eqIsQuiet 8 (.ref a)) Q E s := by
  have hT := hk.typeIs
  obtain ⟨o, v, b', n, ho, _, hd, h1, h2⟩ := hk
  unfold eqIsQuiet
  refine wpAny_bind (wpAny_specialOf hT F.slot_tuple_eq.lookup ?_)
  show wpAny _ _ (isInstance (.ref a) (.type "tuple") >>= _) _ _ s
  refine wpAny_bind (wpAny_isInstance hT isSubtype_tuple_tuple ?_)
  simp only [Bool.not_true, Bool.false_eq_true, if_false]
  refine wpAny_bind (wpAny_seqItems ho hd ?_)
  refine wpAny_bind ?_
  show wpAny _ _ (forIn #[v, Value.ref b'] _ _) _ _ s
  rw [← Array.forIn_toList]
  refine wpAny_forIn_list _ (fun rest r s' => r.1 = none ∧ s' = s ∧ ∀ u ∈ rest, u = v ∨ u = .ref b') _ ?_ ?_ _ _ ⟨rfl, rfl, fun u hu => by simpa using hu⟩
  · rintro u rest r s' ⟨hr, rfl, hall⟩
    have hnext : ∀ u ∈ rest, u = v ∨ u = .ref b' := fun u hu' => hall u (List.mem_cons_of_mem _ hu')
    rcases hall u List.mem_cons_self with e | e
    · subst e
      rw [eqIsQuiet_byValue _ (knd.byValue _ _ h1)]
      refine wpAny_bind (wpAny_pure ?_)
      simp only [Bool.not_true, Bool.false_eq_true, if_false]
      exact wpAny_pure ⟨rfl, rfl, hnext⟩
    · subst e
      refine wpAny_bind (wpAny_eqIsQuiet_tup (m := 6) h2 ?_)
      simp only [Bool.not_true, Bool.false_eq_true, if_false]
      exact wpAny_pure ⟨rfl, rfl, hnext⟩
  · rintro ⟨r1, r2⟩ s' ⟨hr, rfl, _⟩
    simp only at hr
    subst hr
    exact wpAny_pure h
theorem pair_eq_tree {x y : K × List K} {a b : Addr} {P : Fin → Shared → Prop} (hu : A.units < cLine) (hx : IsPairKey knd s.heap x a) (hy : IsPairKey knd s.heap y b) (h : P (.done (.ret (.bool (decide (x = y))))) s) :
    wpAny (model prog w) A (Builtin.«tuple.__eq__» ⟨[.ref a, .ref b], []⟩) P E s := by
  have hTb := hy.typeIs
  obtain ⟨oa, va, ba, na, hoa, _, hda, hia, hja⟩ := hx
  obtain ⟨ob, vb, bb, nb, hob, _, hdb, hib, hjb⟩ := hy
  show wpAny _ _ (isInstance (.ref b) (.type "tuple") >>= _) _ _ s
  refine wpAny_bind (wpAny_isInstance hTb isSubtype_tuple_tuple ?_)
  simp only [Bool.not_true, Bool.false_eq_true, if_false]
  refine wpAny_bind (wpAny_tupleItemsOf hoa hda ?_)
  refine wpAny_bind (wpAny_tupleItemsOf hob hdb ?_)
  refine wpAny_bind ?_
  refine wpAny_forIn_list _
    (fun rest r s' => r.1 = none ∧ s' = s ∧ ((rest = [(va, vb), (.ref ba, .ref bb)]) ∨ (rest = [(.ref ba, .ref bb)] ∧ x.1 = y.1) ∨ (rest = [] ∧ x.1 = y.1 ∧ x.2 = y.2)))
    _ ?_ ?_ _ _ ⟨rfl, rfl, .inl rfl⟩
  · rintro ⟨u, v⟩ rest r s' ⟨hr, rfl, (hz | ⟨hz, e1⟩ | ⟨hz, _⟩)⟩
    · obtain ⟨e, rfl⟩ := List.cons.inj hz
      obtain ⟨rfl, rfl⟩ := Prod.mk.inj e
      refine wpAny_bind (knd.eqBool (a := x.1) (b := y.1) hia hib ?_)
      by_cases hk : x.1 = y.1
      · rw [decide_eq_true hk]
        simp only [Bool.not_true, Bool.false_eq_true, if_false]
        exact wpAny_pure ⟨by first | trivial | rfl, by first | trivial | rfl, .inr (.inl ⟨by first | trivial | rfl, hk⟩)⟩
      · rw [decide_eq_false hk]
        simp only [Bool.not_false, if_true]
        have hf : decide (x = y) = false := by simp [Prod.ext_iff, hk]
        rw [hf] at h
        exact wpAny_bind (wpAny_pure (wpAny_pure (wpAny_pure h)))
    · obtain ⟨e, rfl⟩ := List.cons.inj hz
      obtain ⟨rfl, rfl⟩ := Prod.mk.inj e
      refine wpAny_bind (wpAny_eqBool_tuple hu hja hjb ?_)
      by_cases hk : x.2 = y.2
      · rw [decide_eq_true hk]
        simp only [Bool.not_true, Bool.false_eq_true, if_false]
        exact wpAny_pure ⟨by first | trivial | rfl, by first | trivial | rfl, .inr (.inr ⟨by first | trivial | rfl, e1, hk⟩)⟩
      · rw [decide_eq_false hk]
        simp only [Bool.not_false, if_true]
        have hf : decide (x = y) = false := by simp [Prod.ext_iff, hk]
        rw [hf] at h
        exact wpAny_bind (wpAny_pure (wpAny_pure (wpAny_pure h)))
    · cases hz
  · rintro ⟨r1, r2⟩ s' ⟨hr, rfl, (hz | ⟨hz, _⟩ | ⟨_, e1, e2⟩)⟩
    · cases hz
    · cases hz
    · simp only at hr
      subst hr
      refine wpAny_pure ?_
      have hfin : decide (x = y) = true := decide_eq_true (Prod.ext e1 e2)
      rw [hfin] at h
      exact h
theorem wpAny_eqBool_pair {x y : K × List K} {a b : Addr} {Q : Bool → Shared → Prop} (hu : A.units + 1 < cLine) (hx : IsPairKey knd s.heap x a) (hy : IsPairKey knd s.heap y b) (h : Q (decide (x = y)) s) :
    wpAny (model prog w) A (eqBool (.ref a) (.ref b)) Q E s := by
  unfold eqBool
  try with_reducible refine wpAny_holding ?_
  show wpAny _ _ (if (Value.ref a == Value.ref b) = true then _ else _) Q E s
  by_cases hab : (Value.ref a == Value.ref b) = true
  · rw [if_pos hab]
    have e : a = b := by have := eq_of_beq hab; injection this
    subst e
    obtain rfl := hx.inj hy
    exact wpAny_bind (wpAny_rule (wpAny_pure (by simpa using h)))
  · rw [if_neg hab]
    exact wpAny_bind (wpAny_richCompare_same_room (op := .Eq) hx.typeIs hy.typeIs F.slot_tuple_eq
      (wpAny_call_entry F.slot_tuple_eq hx.typeIs F.entry_tuple_eq (pair_eq_tree (by first | exact hu | (show _ < _; omega)) hx hy ⟨_, rfl, (fun e => nomatch e), wpAny_truthy_bool h⟩) (F.args_tuple_eq_2 _ _)) (by omega))
end
def pairKind {prog : Program} {w : World} {K : Type} [DecidableEq K] (knd : KeyKind prog w K) : HeapKind prog w (K × List K) where
  is := IsPairKey knd
  hash := pairKeyHash knd
  draws := fun k => k.2.length + 3
  room := fun A => A.units + 1 < cLine
  inj := fun hx hy => hx.inj hy
  keeps := fun x ho hd hs => x.keeps ho hd hs
  pyHash := fun hu hk h => wpAny_pyHash_pair hu hk h
  eqBool := fun hu hx hy h => wpAny_eqBool_pair hu hx hy h
  quiet := fun hk h => wpAny_eqIsQuiet_pair hk h
end PySem

namespace L2
open PySem PySem.Spec PyProof.Rows
abbrev PKey := Key × List Key
/-- the dict at d, its entries told -/
def NdO (P : Program) (w : World) (d : Addr) (xs : List (PKey × Addr × Value)) : HO := .ext fun h => (d == sysModules) = false ∧ xs.length ≤ sizeLine ∧ ∃ o es ep, h.get? d = some o ∧ o.ExactDict ∧ o.data = .dict es ep ∧ es.toList = xs.map (entryOfKey (pairKind (mixKind P w))) ∧ (xs.map (·.1)).Nodup
abbrev KN (H : Hp) : List (PKey × V) → List (PKey × Addr × Value) → Prop := Paired fun p q => p.1 = q.1 ∧ (∃ b, H q.2.1 = some (.tup [kV p.1.1, .ref b]) ∧ H b = some (.tup (p.1.2.map kV))) ∧ RelV p.2 q.2.2
theorem KN.val {H : Hp} {kvs : List (PKey × V)} {xs : List (PKey × Addr × Value)} (r : KN H kvs xs) (k : PKey) : RelO (valV kvs k) ((atKey xs k).map (·.2)) := by
  induction r with
  | nil => exact True.intro
  | @cons p q ps qs h t ih =>
    obtain ⟨k1, v⟩ := p
    obtain ⟨k2, b, u⟩ := q
    obtain ⟨e, _, rv⟩ := h
    cases (show k1 = k2 from e)
    by_cases hk : k1 = k
    · subst hk; simpa [valV, atKey, List.find?_cons, RelO] using rv
    · have e1 : valV ((k1, v) :: ps) k = valV ps k := by simp [valV, List.find?_cons, hk]
      have e2 : (atKey ((k1, b, u) :: qs) k).map (·.2) = (atKey qs k).map (·.2) := by simp [atKey, List.find?_cons, hk]
      rw [e1, e2]; exact ih
theorem KN.repl {H : Hp} {kvs : List (PKey × V)} {xs : List (PKey × Addr × Value)} (r : KN H kvs xs) (k : PKey) {y : V} {u : Value} (ry : RelV y u) :
    KN H (kvs.map fun kv => if kv.1 = k then (kv.1, y) else kv) (xs.map (putAt k u)) := by
  induction r with
  | nil => exact .nil
  | @cons p q ps qs h t ih =>
    obtain ⟨k1, v⟩ := p
    obtain ⟨k2, b, u0⟩ := q
    obtain ⟨e, hb, rv⟩ := h
    cases (show k1 = k2 from e)
    by_cases hk : k1 = k
    · simp only [List.map_cons, putAt, hk, if_true]
      exact .cons ⟨rfl, by subst hk; exact hb, ry⟩ ih
    · simp only [List.map_cons, putAt, hk, if_false]
      exact .cons ⟨rfl, hb, rv⟩ ih
theorem KN.snoc {H : Hp} : ∀ {kvs : List (PKey × V)} {xs : List (PKey × Addr × Value)}, KN H kvs xs → ∀ {p : PKey × V} {q : PKey × Addr × Value}, (p.1 = q.1 ∧ (∃ b, H q.2.1 = some (.tup [kV p.1.1, .ref b]) ∧ H b = some (.tup (p.1.2.map kV))) ∧ RelV p.2 q.2.2) → KN H (kvs ++ [p]) (xs ++ [q])
  | _, _, .nil, _, _, h => .cons h .nil
  | _, _, .cons r t, _, _, h => .cons r (KN.snoc t h)
theorem KN.put {H : Hp} {kvs : List (PKey × V)} {xs : List (PKey × Addr × Value)} (r : KN H kvs xs) (k : PKey) {a b : Addr} {y : V} {u : Value} (ha : H a = some (.tup [kV k.1, .ref b])) (hb : H b = some (.tup (k.2.map kV))) (ry : RelV y u) :
    KN H (putK kvs k y) (storedH xs k a u) := by
  have hv := r.val k
  have hs := hv.isSome_eq
  rw [Option.isSome_map] at hs
  unfold putK storedH
  rw [valV_any, hs]
  by_cases q : (atKey xs k).isSome = true
  · rw [if_pos q, if_pos q]; exact r.repl k ry
  · rw [if_neg q, if_neg q]
    exact r.snoc ⟨rfl, ⟨b, ha, hb⟩, ry⟩
theorem KN.keeps {H H' : Hp} {kvs : List (PKey × V)} {xs : List (PKey × Addr × Value)} (r : KN H kvs xs) (ht : ∀ b ys, H b = some (.tup ys) → H' b = some (.tup ys)) : KN H' kvs xs :=
  Paired.mapP r fun p q z => ⟨z.1, let ⟨b, h1, h2⟩ := z.2.1; ⟨b, ht _ _ h1, ht _ _ h2⟩, z.2.2⟩
/-- the dict at d holds these pairs -/
def Nd (P : Program) (w : World) (H : Hp) (d : Addr) (kvs : List (PKey × V)) : Prop := ∃ xs, H d = some (NdO P w d xs) ∧ KN H kvs xs
theorem Nd.keep {P : Program} {w : World} {H H' : Hp} {d : Addr} {kvs : List (PKey × V)} (n : Nd P w H d kvs) (hd : H' d = H d) (ht : ∀ b ys, H b = some (.tup ys) → H' b = some (.tup ys)) : Nd P w H' d kvs :=
  let ⟨xs, h1, h2⟩ := n; ⟨xs, hd.trans h1, h2.keeps ht⟩
section
variable {P : Program} {w : World} {H : Hp} {h : Heap} {a b d : Addr}
theorem pair_of {k : PKey} (ok : HOk P w H h) (e : H a = some (.tup [kV k.1, .ref b])) (eb : H b = some (.tup (k.2.map kV))) : (pairKind (mixKind P w)).is h k a := by
  obtain ⟨_, its, r, o, h1, h2, n, h3⟩ := (show ObjOk P w H h a (.tup [kV k.1, .ref b]) from ok a _ e)
  cases r with
  | cons r1 r => cases r with
    | cons r2 r => cases r; cases r2; exact ⟨o, _, b, n, h1, h2, h3, kV_is r1, key_of ok eb⟩
theorem nd_of {kvs : List (PKey × V)} (ok : HOk P w H h) (n : Nd P w H d kvs) : kvs.length ≤ sizeLine ∧ (d == sysModules) = false ∧ ∃ xs, H d = some (NdO P w d xs) ∧ KN H kvs xs ∧ h.DictOfH (pairKind (mixKind P w)) d xs := by
  obtain ⟨xs, e, r⟩ := n
  obtain ⟨⟨hd, z, o, es, ep, h1, h2, h3, h4, h5⟩, _, _⟩ := (show ObjOk P w H h d (NdO P w d xs) from ok d _ e)
  refine ⟨by rw [Paired.length r]; exact z, hd, xs, e, r, o, es, ep, h1, h2, h3, h4, fun x hx => ?_, h5⟩
  have all : ∀ {l : List (PKey × V)} {m : List (PKey × Addr × Value)}, KN H l m → ∀ x ∈ m, (pairKind (mixKind P w)).is h x.1 x.2.1 := by
    intro l m q
    induction q with
    | nil => intro x hx; exact nomatch hx
    | @cons p q ps qs hq t ih =>
      intro x hx
      rcases List.mem_cons.mp hx with e | hx
      · subst e
        obtain ⟨b, e1, e2⟩ := hq.2.1
        rw [hq.1] at e1 e2
        exact pair_of ok e1 e2
      · exact ih x hx
  exact all r x hx
theorem ndO_ok {xs : List (PKey × Addr × Value)} {H' : Hp} (hd : (d == sysModules) = false) (z : xs.length ≤ sizeLine) (e : h.DictOfH (pairKind (mixKind P w)) d xs) : ObjOk P w H' h d (NdO P w d xs) := by
  obtain ⟨o, es, ep, h1, h2, h3, h4, _, h5⟩ := e
  exact ⟨⟨hd, z, o, es, ep, h1, h2, h3, h4, h5⟩, ⟨o, h1⟩, fun g1 g2 ⟨x1, x2, o, es, ep, y1, y2⟩ k => ⟨x1, x2, o, es, ep, k _ y1, y2⟩⟩
end
section
variable {X : Cx} {pins : List (Addr × Obj)} {σ : St} {H : Hp} {s : Shared} {a b d : Addr} {k : PKey} {kvs : List (PKey × V)} {v : V} {r : Value} {A : Around} {E : Value → Shared → Prop}
/-- y is the pair k -/
def IsP (H : Hp) (y : V) (k : PKey) : Prop := ∃ a b, y = .ref a ∧ H a = some (.tup [kV k.1, .ref b]) ∧ H b = some (.tup (k.2.map kV))
theorem n_getItem {y : V} {u : Value} {Q : Value → Shared → Prop} (hu : A.units + 2 < cLine) (I : Inv X pins σ H s) (n : Nd X.prog X.w H d kvs) (hp : IsP H y k) (l : valV kvs k = some v) (ry : RelV y u) (h : ∀ w' s', Inv X pins σ H s' → RelV v w' → Q w' s') :
    wpAny (model X.prog X.w) A (getItem (.ref d) u) Q E s := by
  obtain ⟨a, b, rfl, ea, eb⟩ := hp
  cases (show u = Value.ref a from ry)
  obtain ⟨z, hd, xs, _, rel, dd⟩ := nd_of I.hok n
  obtain ⟨w', hw, rw'⟩ := RelO.some_of (v := v) (o := (atKey xs k).map (·.2)) (by rw [← l]; exact rel.val k)
  obtain ⟨p, hp, hp2⟩ := Option.map_eq_some_iff.mp hw
  refine wpAny_getItem_heap (knd := pairKind (mixKind X.prog X.w)) hu (pair_of I.hok ea eb) dd hp ?_
  rw [hp2]
  exact h w' _ (I.tok _) rw'
theorem n_in {y : V} {u : Value} {Q : Value → Shared → Prop} (hu : A.units + 2 < cLine) (I : Inv X pins σ H s) (n : Nd X.prog X.w H d kvs) (hp : IsP H y k) (ry : RelV y u) (h : ∀ s', Inv X pins σ H s' → Q (.bool (valV kvs k).isSome) s') :
    wpAny (model X.prog X.w) A (compareOp .In u (.ref d)) Q E s := by
  obtain ⟨a, b, rfl, ea, eb⟩ := hp
  cases (show u = Value.ref a from ry)
  obtain ⟨z, hd, xs, _, rel, dd⟩ := nd_of I.hok n
  refine wpAny_in_heap (knd := pairKind (mixKind X.prog X.w)) hu (pair_of I.hok ea eb) hd dd ?_
  have q := (rel.val k).isSome_eq
  rw [Option.isSome_map] at q
  rw [← q]
  exact h _ (I.tok _)
theorem n_notIn {y : V} {u : Value} {Q : Value → Shared → Prop} (hu : A.units + 2 < cLine) (I : Inv X pins σ H s) (n : Nd X.prog X.w H d kvs) (hp : IsP H y k) (ry : RelV y u) (h : ∀ s', Inv X pins σ H s' → Q (.bool (!(valV kvs k).isSome)) s') :
    wpAny (model X.prog X.w) A (compareOp .NotIn u (.ref d)) Q E s := by
  obtain ⟨a, b, rfl, ea, eb⟩ := hp
  cases (show u = Value.ref a from ry)
  obtain ⟨z, hd, xs, _, rel, dd⟩ := nd_of I.hok n
  refine wpAny_notIn_heap (knd := pairKind (mixKind X.prog X.w)) hu (pair_of I.hok ea eb) hd dd ?_
  have q := (rel.val k).isSome_eq
  rw [Option.isSome_map] at q
  rw [← q]
  exact h _ (I.tok _)
theorem n_setItem {y : V} {u : Value} {Q : Unit → Shared → Prop} (hu : A.units + 2 < cLine) (I : Inv X pins σ H s) (n : Nd X.prog X.w H d kvs) (hp : IsP H y k) (hl : kvs.length < sizeLine) (ry : RelV y u) (rv : RelV v r)
    (h : ∀ H' s', (∀ c, c ≠ d → H' c = H c) → Nd X.prog X.w H' d (putK kvs k v) → Inv X pins σ H' s' → Q () s') :
    wpAny (model X.prog X.w) A (setItem (.ref d) u r) Q E s := by
  obtain ⟨a, b, rfl, ea, eb⟩ := hp
  cases (show u = Value.ref a from ry)
  obtain ⟨z, hd, xs, e, rel, dd⟩ := nd_of I.hok n
  have hz : xs.length ≤ sizeLine := by rw [← Paired.length rel]; exact z
  have hl2 : (putK kvs k v).length ≤ sizeLine := by have := length_putK kvs k v; omega
  have rel2 := rel.put k ea eb rv
  have hz2 : (storedH xs k a r).length ≤ sizeLine := by rw [← Paired.length rel2]; exact hl2
  refine wpAny_setItem_heap (hsz := hz) (knd := pairKind (mixKind X.prog X.w)) hu (pair_of I.hok ea eb) dd fun h' dd' hs => ?_
  have he : ∃ q, h'.get? d = some q := let ⟨q, _, _, hq, _⟩ := dd'; ⟨q, hq⟩
  refine h (upd H d (NdO X.prog X.w d (storedH xs k a r))) _ (fun c hc => upd_ne hc) ⟨_, upd_same, rel2.keeps fun c ys ec => ?_⟩ (d_write I (by rw [e]; exact True.intro) hs he (ndO_ok hd hz2 dd'))
  rw [upd_ne (ne_of ec e (fun z => nomatch z))]
  exact ec
end
/-- d[y] -/
def tNGet (P : Program) (w : World) (td ty : TE) : TE := fun σ H Q => td σ H fun x H1 => ty σ H1 fun y H2 => ∃ a kvs k v, x = .ref a ∧ Nd P w H2 a kvs ∧ IsP H2 y k ∧ valV kvs k = some v ∧ Q v H2
def tNIn (P : Program) (w : World) (neg : Bool) (ty td : TE) : TE := fun σ H Q => ty σ H fun y H1 => td σ H1 fun x H2 => ∃ a kvs k, x = .ref a ∧ Nd P w H2 a kvs ∧ IsP H2 y k ∧ Q (.bl (if neg then !(valV kvs k).isSome else (valV kvs k).isSome)) H2
def sNPut (P : Program) (w : World) (td ty tv : TE) : TS := fun D σ H => tv σ H fun v H1 => td σ H1 fun x H2 => ty σ H2 fun y H3 => ∃ a kvs k, x = .ref a ∧ Nd P w H3 a kvs ∧ IsP H3 y k ∧ kvs.length < sizeLine ∧
  ∀ H4, (∀ c, c ≠ a → H4 c = H3 c) → Nd P w H4 a (putK kvs k v) → D.nx σ H4
def tNNew (P : Program) (w : World) : TE := fun _ H Q => ∀ p H', H p = none → (∀ c, c ≠ p → H' c = H c) → Nd P w H' p [] → Q (.ref p) H'
def rNLen (P : Program) (w : World) : List V → Hp → VK → Prop := fun xs H Q => ∃ (p : Addr) (kvs : List (PKey × V)), xs = [.ref p] ∧ Nd P w H p kvs ∧ Q (.int ((kvs.length : Nat) : Int)) H
section
variable {X : Cx} {o i e value : Expr} {pos pos' tpos : Pos} {td ty tv : TE}
theorem nd_typeIs {pins : List (Addr × Obj)} {σ : St} {H : Hp} {s : Shared} {a : Addr} {kvs : List (PKey × V)} (I : Inv X pins σ H s) (n : Nd X.prog X.w H a kvs) : s.TypeIs (.ref a) "dict" := by
  obtain ⟨_, _, xs, _, _, dd⟩ := nd_of I.hok n
  exact dd.typeIs
theorem pe_nget (hu : X.A.units + 2 < cLine) (ho : PE X o td) (hi : PE X i ty) (hs : NoSl i) : PE X (.Subscript o i pos) (tNGet X.prog X.w td ty) := by
  refine ⟨fun pins s σ H Q I h => ?_⟩
  refine subD_of PySem.F.slot_dict_getitem.lookup hs (thn (ho.run pins s σ H _ I h) fun u s1 ⟨x, H1, I1, rx, q1⟩ => thn (hi.run pins s1 σ H1 _ I1 q1) fun iv s2 ⟨y, H2, I2, ry, a, kvs, k, v, ex, n, hp, l, q2⟩ => ?_)
  subst ex
  obtain rfl : u = Value.ref a := rx
  exact ⟨nd_typeIs I2 n, n_getItem hu I2 n hp l ry fun w' s3 I3 rw' => ⟨v, H2, I3, rw', q2⟩⟩
theorem pc_nin (hu : X.A.units + 2 < cLine) (hi : PE X i ty) (ho : PE X o td) : PC X .In i o (tNIn X.prog X.w false ty td) := by
  refine ⟨fun pins s σ H Q I h => ?_⟩
  refine thn (hi.run pins s σ H _ I h) fun iv s1 ⟨y, H1, I1, ry, q1⟩ => thn (ho.run pins s1 σ H1 _ I1 q1) fun u s2 ⟨x, H2, I2, rx, a, kvs, k, ex, n, hp, q2⟩ => ?_
  subst ex
  obtain rfl : u = Value.ref a := rx
  exact n_in hu I2 n hp ry fun s3 I3 => ⟨.bl (valV kvs k).isSome, H2, I3, rfl, q2⟩
theorem pc_nnotin (hu : X.A.units + 2 < cLine) (hi : PE X i ty) (ho : PE X o td) : PC X .NotIn i o (tNIn X.prog X.w true ty td) := by
  refine ⟨fun pins s σ H Q I h => ?_⟩
  refine thn (hi.run pins s σ H _ I h) fun iv s1 ⟨y, H1, I1, ry, q1⟩ => thn (ho.run pins s1 σ H1 _ I1 q1) fun u s2 ⟨x, H2, I2, rx, a, kvs, k, ex, n, hp, q2⟩ => ?_
  subst ex
  obtain rfl : u = Value.ref a := rx
  exact n_notIn hu I2 n hp ry fun s3 I3 => ⟨.bl (!(valV kvs k).isSome), H2, I3, rfl, q2⟩
theorem ps_nput (hu : X.A.units + 2 < cLine) (ho : PE X o td) (hi : PE X i ty) (hv : PE X value tv) (hs : swapsWith value (some (.Subscript o i pos')) pos.line X.env = pure false) :
    PS X (.Assign [.Subscript o i pos'] value pos) (sNPut X.prog X.w td ty tv) := by
  refine ⟨fun pins s σ H D I h => ?_⟩
  refine wpAny_Assign_Subscript (thn (hv.run pins s σ H _ I h) fun r s1 ⟨v, H1, I1, rv, q1⟩ => thn (ho.run pins s1 σ H1 _ I1 q1) fun u s2 ⟨x, H2, I2, rx, q2⟩ => thn (hi.run pins s2 σ H2 _ I2 q2) fun iv s3 ⟨y, H3, I3, ry, a, kvs, k, ex, n, hp, hl, q3⟩ => ?_) hs
  subst ex
  obtain rfl : u = Value.ref a := rx
  exact n_setItem hu I3 n hp hl ry rv fun H4 s4 c4 n4 I4 => ⟨σ, H4, I4, q3 H4 c4 n4⟩
theorem pe_nnew : PE X (.Dict [] [] pos) (tNNew X.prog X.w) := ⟨fun pins s σ H Q I h =>
  have hn : H s.heap.objs.size = none := I.hok.fresh (Nat.le_refl _)
  wpAny_Dict_empty ⟨.ref s.heap.objs.size, _, I.laid (a := s.heap.objs.size) (o := NdO X.prog X.w s.heap.objs.size []) (t' := s.toks) (fun _ _ q => Heap.get?_push_of_some _ q) (Nat.le_refl _)
    (ndO_ok (beq_eq_false_iff_ne.mpr (Ne.symm (Nat.ne_of_lt I.big))) (Nat.zero_le _) (Heap.DictOfH.new s.heap)), rfl, h _ _ hn (fun c hc => upd_ne hc) ⟨[], upd_same, .nil⟩⟩⟩
theorem call_len_nd : CallR X (.builtin "len") (rNLen X.prog X.w) := by
  intro pins s σ H xs us Q I r h
  obtain ⟨p, kvs, rfl, hp, q⟩ := h
  obtain ⟨u, rfl, rx⟩ := vals1 r
  obtain rfl : u = .ref p := rx
  obtain ⟨z, hd, ys, _, rel, dd⟩ := nd_of I.hok hp
  have hl : kvs.length = ys.length := Paired.length rel
  refine call_len_dictH hd dd (by rw [← hl]; rw [sizeLine_eq] at z; omega) ?_
  rw [← hl]
  exact ⟨.int ((kvs.length : Nat) : Int), H, I.tok _, ⟨_, rfl⟩, q⟩
end
end L2
/-! a table: keys by an injection, each with its place as value -/
namespace Lw
open PySem PySem.Spec PyProof.Rows L2
section
variable {α κ : Type} [DecidableEq κ]
def tagF (g : α → κ) (i : Nat) : List α → List (κ × V)
  | [] => []
  | k :: r => (g k, .int (i : Int)) :: tagF g (i + 1) r
def tag (g : α → κ) (ks : List α) : List (κ × V) := tagF g 0 ks
variable {g : α → κ}
theorem tagF_len : ∀ (ks : List α) (i : Nat), (tagF g i ks).length = ks.length
  | [], _ => rfl
  | _ :: r, i => congrArg Nat.succ (tagF_len r (i + 1))
theorem tag_len (ks : List α) : (tag g ks).length = ks.length := tagF_len ks 0
theorem tagF_get (hg : ∀ x y, g x = g y → x = y) : ∀ (ks : List α) (i : Nat) {j : Nat} {k : α}, ks.Nodup → ks[j]? = some k → valV (tagF g i ks) (g k) = some (.int ((i + j : Nat) : Int))
  | [], _, _, _, _, h => by simp at h
  | x :: r, i, j, k, hn, h => by
    rw [List.nodup_cons] at hn
    unfold valV tagF
    by_cases e : x = k
    · have hj : j = 0 := by
        cases j with
        | zero => rfl
        | succ j => rw [List.getElem?_cons_succ] at h; exact absurd (e ▸ List.mem_of_getElem? h) hn.1
      subst hj e
      rw [List.find?_cons_of_pos (by simp)]; rfl
    · rw [List.find?_cons_of_neg (by simp only [decide_eq_true_eq]; exact fun z => e (hg _ _ z))]
      cases j with
      | zero => simp at h; exact absurd h e
      | succ j =>
        rw [List.getElem?_cons_succ] at h
        have := tagF_get hg r (i + 1) hn.2 h
        unfold valV at this
        rw [this]
        congr 2
        omega
theorem tagF_none (hg : ∀ x y, g x = g y → x = y) : ∀ (ks : List α) (i : Nat) {k : α}, k ∉ ks → valV (tagF g i ks) (g k) = none
  | [], _, _, _ => rfl
  | x :: r, i, k, h => by
    unfold valV tagF
    rw [List.find?_cons_of_neg (by simp only [decide_eq_true_eq]; exact fun z => h (by rw [← hg _ _ z]; exact List.mem_cons_self))]
    have := tagF_none hg r (i + 1) (k := k) fun z => h (List.mem_cons_of_mem _ z)
    unfold valV at this
    exact this
theorem tag_get (hg : ∀ x y, g x = g y → x = y) {ks : List α} {j : Nat} {k : α} (hn : ks.Nodup) (h : ks[j]? = some k) : valV (tag g ks) (g k) = some (.int (j : Int)) := by
  have := tagF_get hg ks 0 hn h
  rw [Nat.zero_add] at this; exact this
theorem tag_none (hg : ∀ x y, g x = g y → x = y) {ks : List α} {k : α} (h : k ∉ ks) : valV (tag g ks) (g k) = none := tagF_none hg ks 0 h
theorem tagF_push : ∀ (ks : List α) (i : Nat) (k : α), tagF g i ks ++ [(g k, .int ((i + ks.length : Nat) : Int))] = tagF g i (ks ++ [k])
  | [], _, _ => rfl
  | x :: r, i, k => by
    show (g x, V.int (i : Int)) :: (tagF g (i + 1) r ++ _) = (g x, V.int (i : Int)) :: tagF g (i + 1) (r ++ [k])
    rw [← tagF_push r (i + 1) k, show i + (x :: r).length = i + 1 + r.length by rw [List.length_cons]; omega]
theorem tag_put (hg : ∀ x y, g x = g y → x = y) {ks : List α} {k : α} (h : k ∉ ks) : putK (tag g ks) (g k) (.int (ks.length : Int)) = tag g (ks ++ [k]) := by
  rw [putK_new _ (tag_none hg h)]
  have := tagF_push (g := g) ks 0 k
  rw [Nat.zero_add] at this
  exact this
end
/-- a pair as a key -/
def pk (k : Int × List Int) : PKey := (Sum.inl k.1, tkey k.2)
theorem pk_inj (x y : Int × List Int) (h : pk x = pk y) : x = y := by
  have h1 := congrArg Prod.fst h
  have h2 := congrArg Prod.snd h
  exact Prod.ext (Sum.inl.inj h1) (tkey_inj h2)
theorem isP_of {H : Hp} {a b : Addr} {k : Int × List Int} (h1 : H a = some (.tup [.int k.1, .ref b])) (h2 : H b = some (.tup (k.2.map V.int))) : IsP H (.ref a) (pk k) := ⟨a, b, rfl, h1, by
  show H b = some (.tup ((tkey k.2).map kV))
  rw [tkey_kV]; exact h2⟩
section
variable {P : Program} {w : World} {σ : L2.St} {H : Hp} {Q : VK} {D : Ends}
theorem r_nIn {neg : Bool} {ty td : TE} (h : ty σ H fun y H1 => td σ H1 fun x H2 => ∃ a kvs k, x = .ref a ∧ Nd P w H2 a kvs ∧ IsP H2 y k ∧ Q (.bl (if neg then !(valV kvs k).isSome else (valV kvs k).isSome)) H2) : tNIn P w neg ty td σ H Q := h
theorem r_nGet {td ty : TE} (h : td σ H fun x H1 => ty σ H1 fun y H2 => ∃ a kvs k v, x = .ref a ∧ Nd P w H2 a kvs ∧ IsP H2 y k ∧ valV kvs k = some v ∧ Q v H2) : tNGet P w td ty σ H Q := h
theorem r_nPut {td ty tv : TE} (h : tv σ H fun v H1 => td σ H1 fun x H2 => ty σ H2 fun y H3 => ∃ a kvs k, x = .ref a ∧ Nd P w H3 a kvs ∧ IsP H3 y k ∧ kvs.length < sizeLine ∧
  ∀ H4, (∀ c, c ≠ a → H4 c = H3 c) → Nd P w H4 a (putK kvs k v) → D.nx σ H4) : sNPut P w td ty tv D σ H := h
theorem r_nNew (h : ∀ p H', H p = none → (∀ c, c ≠ p → H' c = H c) → Nd P w H' p [] → Q (.ref p) H') : tNNew P w σ H Q := h
theorem r_nLen {p : Addr} {kvs : List (PKey × V)} (n : Nd P w H p kvs) (q : Q (.int ((kvs.length : Nat) : Int)) H) : rNLen P w [.ref p] H Q := ⟨p, kvs, rfl, n, q⟩
end
theorem gd_up {n n' : Int} {L L' : Nat} {r : List Int} (h : Gd n L r) (hn : n ≤ n') (hl : L ≤ L') : Gd n' L' r := ⟨Nat.le_trans h.1 hl, h.2.1, fun e he => by have := h.2.2 e he; omega⟩
theorem gd_put {n n' : Int} {L : Nat} {r : List Int} {z : Int} (h : Gd n L r) (h0 : 0 ≤ z) (h1 : n ≤ z) (h2 : z < n') : Gd n' (L + 1) (r ++ [z]) := by
  refine ⟨by rw [List.length_append, List.length_singleton]; have := h.1; omega, nodup_push h.2.1 fun hm => ?_, fun e he => ?_⟩
  · have := (h.2.2 z hm).2; omega
  · rcases List.mem_append.mp he with q | q
    · have := h.2.2 e q; omega
    · rw [List.mem_singleton.mp q]; omega
theorem gd_len {n : Nat} {L : Nat} {r : List Int} (h : Gd (n : Int) L r) : r.length ≤ n := by
  have := Lm.nat_list h.2.1 h.2.2
  have h2 := Lm.nodup_le this.1 this.2
  rwa [List.length_map] at h2
theorem hu2_of {A : Around} {k : Nat} (hr : Room k A) : A.units + 2 < cLine := Nat.lt_of_le_of_lt (Nat.add_le_add_left (by decide : 2 ≤ 64) _) hr.units
section
variable {S : Type} {F : S → Hp → Hp} {ok : S → Hp → Prop} (T : TopOk F ok) {σ σ2 : L2.St} {g : TG} {tt : TT} {te : TE} {vs : List Nat} {Q : Addr → Hp → Prop}
include T
theorem lcT_range2 {s0 : S} {B : Hp} (k : ok s0 B) {lo n : Int} (h0' : -4611686018427387904 ≤ lo) (h0'' : lo < 4611686018427387904) (h1 : -4611686018427387904 ≤ n) (h2 : n < 4611686018427387904) (Pv : Nat → Hp → List V → Prop) (h0 : Pv 0 B [])
    (hs : ∀ D i s C acc, ok s (upd C D (.lst acc)) → C D = none → Same B C → i < (n - lo).toNat → Pv i C acc → g (.int (lo + i)) (wipe σ vs) (F s (upd C D (.lst acc))) fun σ2 H2 => wipe σ2 vs = wipe σ vs ∧ tt σ2 H2 fun b H3 =>
      if b = true then te σ2 H3 fun y H4 => ∃ acc', H4 D = some (.lst acc') ∧ acc'.length < sizeLine ∧ LcN F ok B D (Pv (i + 1)) (upd H4 D (.lst (acc' ++ [y]))) else LcN F ok B D (Pv (i + 1)) H3)
    (hd : ∀ D s C acc, ok s (upd C D (.lst acc)) → B D = none → C D = none → Same B C → Pv (n - lo).toNat C acc → Q D (F s (upd C D (.lst acc)))) :
    ∃ i j : Int, [V.int lo, V.int n] = [.int i, .int j] ∧ (-(2 ^ 62) ≤ i ∧ i < 2 ^ 62 ∧ -(2 ^ 62) ≤ j ∧ j < 2 ^ 62) ∧ ∀ D, (F s0 B) D = none → ∃ W : Nat → Nat → Hp → Prop, (∃ m, W 0 m (upd (F s0 B) D (.lst []))) ∧ ∀ m0 m H, W m0 m H →
      ((Itr i (j - i).toNat).stop m0 H ∧ Q D H) ∨ ((Itr i (j - i).toNat).go m0 H ∧ ∃ Nx : Hp → Prop, (∀ H', Nx H' → ∃ m', m' < m ∧ W (m0 + 1) m' H') ∧ ∀ x H', (Itr i (j - i).toNat).yld m0 H x H' → g x (wipe σ vs) H' fun σ2 H2 => wipe σ2 vs = wipe σ vs ∧ tt σ2 H2 fun b H3 =>
        if b = true then te σ2 H3 fun y H4 => ∃ acc, H4 D = some (.lst acc) ∧ acc.length < sizeLine ∧ Nx (upd H4 D (.lst (acc ++ [y]))) else Nx H3) := by
  refine ⟨lo, n, rfl, ⟨h0', h0'', h1, h2⟩, fun D hD => ?_⟩
  obtain ⟨hB, hn⟩ := T.new s0 B D k hD
  refine lc_range (fun i H => LcN F ok B D (Pv i) H) ?_ ?_ ?_
  · rw [(hn _).1]
    exact ⟨s0, B, [], rfl, (hn _).2, hB, Same.refl B, h0⟩
  · rintro i H hi ⟨s, C, acc, rfl, k', hD', hS, hp⟩
    exact hs D i s C acc k' hD' hS hi hp
  · rintro H ⟨s, C, acc, rfl, k', hD', hS, hp⟩
    exact hd D s C acc k' hB hD' hS hp
end
/-- an ascending row of places -/
def Pr (n : Nat) (r : List Int) : Prop := r.Pairwise (· < ·) ∧ ∀ e ∈ r, 0 ≤ e ∧ e < (n : Int)
theorem Pr.gd {n : Nat} {r : List Int} (h : Pr n r) : Gd (n : Int) n r := by
  have nd := nodup_lt h.1
  have h1 := Lm.nat_list nd h.2
  have h2 := Lm.nodup_le h1.1 h1.2
  rw [List.length_map] at h2
  exact ⟨h2, nd, h.2⟩
theorem Pr.up {n m : Nat} {r : List Int} (h : Pr n r) (hm : n ≤ m) : Pr m r := ⟨h.1, fun e he => by have := h.2 e he; omega⟩
theorem Pr.nil {n : Nat} : Pr n [] := ⟨List.Pairwise.nil, fun e he => nomatch he⟩
theorem Pr.push {n m : Nat} {r : List Int} {z : Int} (h : Pr n r) (h1 : (n : Int) ≤ z) (h2 : z < (m : Int)) : Pr m (r ++ [z]) := by
  refine ⟨?_, fun e he => ?_⟩
  · rw [List.pairwise_append]
    refine ⟨h.1, List.pairwise_singleton _ _, fun a ha b hb => ?_⟩
    rw [List.mem_singleton.mp hb]
    have := (h.2 a ha).2
    omega
  · rcases List.mem_append.mp he with q | q
    · have := h.2 e q; omega
    · rw [List.mem_singleton.mp q]; omega
theorem rw_append {C : Hp} {as bs : List Addr} {rs ss : List (List Int)} (h : Rw C as rs) (h2 : Rw C bs ss) : Rw C (as ++ bs) (rs ++ ss) := by
  refine ⟨by rw [List.length_append, List.length_append, h.1, h2.1], fun i b e => ?_⟩
  by_cases hi : i < as.length
  · rw [List.getElem?_append_left hi] at e
    obtain ⟨r, h3, h4⟩ := h.2 i b e
    exact ⟨r, by rw [List.getElem?_append_left (by rw [← h.1]; exact hi)]; exact h3, h4⟩
  · rw [List.getElem?_append_right (by omega)] at e
    obtain ⟨r, h3, h4⟩ := h2.2 _ b e
    exact ⟨r, by rw [List.getElem?_append_right (by rw [← h.1]; omega), ← h.1]; exact h3, h4⟩
theorem rw_drop {C : Hp} {as : List Addr} {rs : List (List Int)} (h : Rw C as rs) (c : Nat) : Rw C (as.drop c) (rs.drop c) := by
  refine ⟨by rw [List.length_drop, List.length_drop, h.1], fun i b e => ?_⟩
  rw [List.getElem?_drop] at e
  obtain ⟨r, h3, h4⟩ := h.2 _ b e
  exact ⟨r, by rw [List.getElem?_drop]; exact h3, h4⟩
theorem rw_take {C : Hp} {as : List Addr} {rs : List (List Int)} (h : Rw C as rs) (i : Nat) : Rw C (as.take i) (rs.take i) := by
  refine ⟨by rw [List.length_take, List.length_take, h.1], fun j b e => ?_⟩
  obtain ⟨h1, h2⟩ := take_at e
  obtain ⟨r, h3, h4⟩ := h.2 j b h2
  exact ⟨r, by rw [List.getElem?_take_of_lt h1]; exact h3, h4⟩
end Lw
/-! f(e, .., k = v) where what is raised is wished for at the caller's slots; a suite for one class; repr of nested lists -/
namespace L2
open PySem PySem.Spec PyProof.Rows
def tCallNS (n m : Nat) (sp : Sp) (gV : List V → List V → List V) (E : St → XK) (t tk : TA) : TE := fun σ H Q => t σ H fun vs H1 => tk σ H1 fun zs H2 => vs.length = n ∧ zs.length = m ∧ sp (gV vs zs) H2 Q (E σ)
section
variable {X : Cx} {CX : CXT} {k n : Nat} {f : Addr} {fd : FuncData} {ps ks : List Str} {sp : Sp} {E : St → XK} {x : Str} {p pos : Pos} {e : Expr} {es : List Expr} {kws : List Keyword} {t tk : TA} {g : List Value → List Value → List Value} {gV : List V → List V → List V}
theorem pe_callNS (F : FnOk X.prog X.w X.K X.mg X.base CX k f fd ps sp) (hr : Room k X.A) (hg : Gl X x) (hm : X.mg x = some (.ref f)) (hk : PySem.W.keepIn X.K (.ref f) = true) (hb : KBn X.K fd ps n ks g gV) (hx : ∀ σ, PassesAt CX X σ (E σ))
    (ha : PA X (e :: es) t) (hkw : PK X kws tk) (hall : (backToKw pos (keywordEach kws X.env)).all (·.1.isSome) = true := by rfl) (hks : (backToKw pos (keywordEach kws X.env)).filterMap (·.1) = ks := by rfl)
    (hdb : (x == ("__debug__" : Str)) = false := by decide) (he : starEach (e :: es) X.env = (false, eval e X.env) :: starEach es X.env := by rfl)
    (hpl : ((backTo pos (starEach (e :: es) X.env)).any (·.1) || (backToKw pos (keywordEach kws X.env)).any (·.1.isNone)) = false := by rfl) :
    PE X (.Call (.Name x p) (e :: es) kws pos) (tCallNS n ks.length sp gV E t tk) := by
  refine ⟨fun pins s σ H Q I h => wpAny_Call_Name_kw (ld_glob I hg hm (PySem.W.callWith_KW (h₀ := X.base) I.ok.mod.kin hk hall (thn (ha.run pos pins s σ H _ I h) fun us s1 ⟨vs, H1, I1, r, q⟩ => thn (hkw.run pos pins s1 σ H1 _ I1 q) fun ws s2 ⟨zs, H2, I2, rz, l1, l2, q2⟩ => ⟨I2.kIn, ?_⟩) hpl he) hdb)⟩
  rw [hks]
  have go := F.run X.A X.stack s2 H2 ⟨us, ks.zip ws⟩ (g us ws) (gV vs zs) Q (E σ) hr I2.env0 (hb.to s2 us ws I2.kIn (r.length.symm.trans l1) (rz.length.symm.trans l2)) (hb.rel r rz) q2
  refine wpAny_call (codeAny_mono go fun res s' hq => ?_)
  match res, hq with
  | .error e, hq => exact hx σ pins H2 s2 e s' I2 hq
  | .ok (.ret u), hq => exact I2.after hq
  | .ok .next, hq => exact hq.elim
  | .ok .brk, hq => exact hq.elim
  | .ok .cont, hq => exact hq.elim
end
end L2
namespace Lw
open PySem PySem.Spec PyProof.Rows L2
theorem r_callNS {n m : Nat} {sp : Sp} {gV : List V → List V → List V} {E : L2.St → XK} {t tk : TA} {σ : L2.St} {H : Hp} {Q : VK} (h : t σ H fun vs H1 => tk σ H1 fun zs H2 => vs.length = n ∧ zs.length = m ∧ sp (gV vs zs) H2 Q (E σ)) : tCallNS n m sp gV E t tk σ H Q := h
theorem r_callSD {sp : Sp} {dvs : List V} {E : L2.St → XK} {t : TA} {σ : L2.St} {H : Hp} {Q : VK} (h : t σ H fun vs H1 => sp (vs ++ dvs) H1 Q (E σ)) : tCallSD sp dvs E t σ H Q := h
theorem pss_when {X : Cx} {b : List Stmt} {t : TS} {P : Prop} (h : P → PSs X b t) : PSs X b (fun D σ H => P ∧ t D σ H) := ⟨fun pins s σ H D I hh => (h hh.1).run pins s σ H D I hh.2⟩
theorem zc_at {cls : Value} {d : Option Addr} {CN : Addr} {oe : Obj} (e : cls = .ref CN ∧ d = none) (h : Zc cls d oe) : Zc (.ref CN) none oe := by rw [← e.1, ← e.2]; exact h
end Lw
/-! len(set(a list of ints)); repr of nested lists -/
namespace Lm
theorem nodup_sub_len : ∀ {ks ns : List Int}, ks.Nodup → (∀ k ∈ ks, k ∈ ns) → ks.length ≤ ns.length
  | [], _, _, _ => Nat.zero_le _
  | k :: r, ns, hn, h => by
    have h1 := List.nodup_cons.mp hn
    have hk := h k List.mem_cons_self
    have ih := nodup_sub_len (ks := r) (ns := ns.erase k) h1.2 fun x hx => (List.mem_erase_of_ne (fun e => h1.1 (by rw [← e]; exact hx))).mpr (h x (List.mem_cons_of_mem _ hx))
    rw [List.length_erase_of_mem hk] at ih
    have := List.length_pos_of_mem hk
    rw [List.length_cons]; omega
theorem insA_len {z : Int} : ∀ {l : List Int}, l.Pairwise (· < ·) → (insA z l).length = l.length + if z ∈ l then 0 else 1
  | [], _ => rfl
  | x :: r, h => by
    have h1 := (List.pairwise_cons.mp h).1
    have h2 := (List.pairwise_cons.mp h).2
    unfold insA
    by_cases q : z < x
    · rw [if_pos q, if_neg (fun hm => by
        rcases List.mem_cons.mp hm with e | e
        · omega
        · have := h1 z e; omega)]
      rfl
    · rw [if_neg q]
      by_cases q2 : z = x
      · rw [if_pos q2, if_pos (by rw [q2]; exact List.mem_cons_self)]; rfl
      · rw [if_neg q2, List.length_cons, insA_len h2, List.length_cons]
        by_cases q3 : z ∈ r
        · rw [if_pos q3, if_pos (List.mem_cons_of_mem _ q3)]
        · rw [if_neg q3, if_neg (fun hm => by
            rcases List.mem_cons.mp hm with e | e
            · exact q2 e
            · exact q3 e)]
theorem asc_len : ∀ l : List Int, (asc l).length ≤ l.length ∧ ((asc l).length = l.length ↔ l.Nodup)
  | [] => ⟨Nat.le_refl _, fun _ => List.nodup_nil, fun _ => rfl⟩
  | x :: r => by
    obtain ⟨ih1, ih2⟩ := asc_len r
    have e : (asc (x :: r)).length = (asc r).length + if x ∈ asc r then 0 else 1 := insA_len (asc_pw r)
    rw [e, List.length_cons, List.nodup_cons]
    by_cases q : x ∈ r
    · rw [if_pos (asc_mem.mpr q)]
      exact ⟨by omega, fun h => by omega, fun h => absurd q h.1⟩
    · rw [if_neg (fun z => q (asc_mem.mp z))]
      exact ⟨by omega, fun h => ⟨q, ih2.mp (by omega)⟩, fun h => by have := ih2.mpr h.2; omega⟩
theorem set_len {ks ns : List Int} (h1 : ks.Nodup) (h2 : ∀ k, k ∈ ks ↔ k ∈ ns) : ks.length ≤ ns.length ∧ (ks.length = ns.length ↔ ns.Nodup) := by
  have a1 : ks.length ≤ (asc ns).length := nodup_sub_len h1 fun k hk => asc_mem.mpr ((h2 k).mp hk)
  have a2 : (asc ns).length ≤ ks.length := nodup_sub_len ((asc_pw ns).imp fun {a b} q => Int.ne_of_lt q) fun k hk => (h2 k).mpr (asc_mem.mp hk)
  have e : ks.length = (asc ns).length := by omega
  rw [e]
  exact asc_len ns
end Lm
namespace Lw
open PySem PySem.Spec PyProof.Rows L2
def rLenSet (w : World) : List V → Hp → VK → Prop := fun xs H Q => ∃ (p : Addr) (S : Int → Bool) (n : Nat), xs = [.ref p] ∧ H p = some (SetO w p S n) ∧ ∀ ks : List Int, ks.Nodup → (∀ k, k ∈ ks ↔ S k = true) → ks.length = n → Q (.int (n : Nat)) H
theorem call_len_setO {X : Cx} {w : World} (hw : X.w = w) : CallR X (.builtin "len") (rLenSet w) := by
  subst hw
  intro pins s σ H xs us Q I r h
  obtain ⟨p, S, n, rfl, hp, q⟩ := h
  obtain ⟨u, rfl, rx⟩ := vals1 r
  obtain rfl : u = .ref p := rx
  have R := setO_get I hp
  have R2 := R
  obtain ⟨o, es, ep, t, ho, hex, hd, hgood, hnd, hmem, hsz, hfit, hn, _⟩ := R2
  have q2 := q (es.toList.map keyOf) hnd (fun k => (hmem k).symm) (by rw [List.length_map, Array.length_toList, hn])
  exact call_len_set ho hex hd hfit (by rw [hn]; have : n < scanBound := by rw [← hn]; exact hsz
                                        unfold scanBound at this; omega) ⟨.int n, H, I.tok _, ⟨_, by rw [hn]⟩, q2⟩
theorem r_lenSet {w : World} {p : Addr} {ns : List Int} {n : Nat} {H : Hp} {Q : VK} (h : H p = some (SetO w p (fun j => decide (j ∈ ns)) n)) (q : n ≤ ns.length → (n = ns.length ↔ ns.Nodup) → Q (.int (n : Nat)) H) : rLenSet w [.ref p] H Q :=
  ⟨p, _, n, rfl, h, fun ks h1 h2 h3 => by
    have := Lm.set_len h1 (ns := ns) fun k => by rw [h2, decide_eq_true_eq]
    rw [h3] at this
    exact q this.1 this.2⟩
end Lw
/-! repr of nested lists: a law's own def, known to be called where no repr goes on -/
namespace L2
open PySem PySem.Spec PyProof.Rows
theorem deeper_guards {A : Around} {env : Env} (h : A.guards = some []) : (A.deeper env).guards = some [] := by
  first | exact h | simpa [Around.deeper] using h
/-- a def's promise, at the surroundings A alone -/
structure FnAt (P : Program) (w : World) (K : PySem.W.Frag) (mg : Str → Option Value) (base : Heap) (A : Around) (f : Addr) (fd : FuncData) (ps : List Str) (sp : Sp) : Prop where
  len : ∀ vs H Q E, sp vs H Q E → vs.length = ps.length
  run : ∀ (outer : List Env) (s : Shared) (H : Hp) (args : Args) (us : List Value) (vs : List V) (Q : VK) (E : XK), Env0 P w K mg base A outer s H → BindsTo s fd args (ps.zip us) → Vals vs us → sp vs H Q E → codeAny (model P w) A (.call (.ref f) args) (CR CX0 outer P w H s Q E) s
section
variable {P : Program} {w : World} {K : PySem.W.Frag} {mg : Str → Option Value} {base : Heap}
theorem Fun.okAt {x qual : Str} {st : Stmt} {f : Addr} {fd : FuncData} {N ps : List Str} {k : Nat} {sp : Sp} {A : Around} (hr : Room (k + 1) A) (F : Fun K x qual st f fd) (S : FnScope N ps (defScope st)) (len : ∀ vs H Q E, sp vs H Q E → vs.length = ps.length)
    (hbody : ∀ (cdv : Value) (outer : List Env) (s : Shared) (H : Hp) (vs : List V) (Q : VK) (E : XK), Room k (A.deeper (envOfC qual (defScope st) s.heap.objs.size f cdv)) → sp vs H Q E →
      ∃ t, PSs (cxOf CX0 P w K mg base N qual (defScope st) f cdv A outer s H E).nox (defBody st) t ∧ t { nx := fun _ H' => Q .non H', rt := Q } (start N vs) H) : FnAt P w K mg base A f fd ps sp := by
  obtain ⟨oc, od, kV, doc, pm, an, cdv, ct, osl, rfl, lk, hcd⟩ := F.ex
  refine ⟨len, fun outer s H args us vs Q E e0 hb r hsp => ?_⟩
  have KX : K.In s.heap := e0.mod.kin.keeps fun b o e => (e0.bs b o e).1
  refine codeAny_call_function hr.depth (KX _ _ lk) rfl S.co S.gen rfl (PySem.W.codeRec_of KX hcd) (hb _ _ _ _ ?_)
  refine wpAny_newFunctionEnv_cells S.kind (fun y hy => (S.par y.1 (List.of_mem_zip hy).1).elim .inl fun q => .inr ⟨q, PySem.W.cellsFrom_some _ _ _ (.inl q)⟩) fun env he s1 x => ?_
  subst he
  refine ⟨(e0.mod.nolimit.keeps fun b o e => (e0.bs b o e).1).keeps x.toInCall.keep, codeAny_func ?_⟩
  obtain ⟨t, ht, hq⟩ := hbody cdv outer s H vs Q E (hr.deeper _) hsp
  refine wpAny_mono (ht.nox.run [] s1 (start N vs) H _ (inv_start S hr.hd e0 (len _ _ _ _ hsp) r x) hq) (fun fl s' hs => ?_) fun e s' hs => hs
  match fl, hs with
  | .ret u, ⟨v, σ', H', J, rv, q⟩ => exact ⟨v, H', J.os, J.bare, J.base, J.hok, rv, q⟩
  | .next, ⟨σ', H', J, q⟩ => exact ⟨.non, H', J.os, J.bare, J.base, J.hok, rfl, q⟩
  | .brk, ⟨_, _, _, q⟩ => exact q.elim
  | .cont, ⟨_, _, _, q⟩ => exact q.elim
end
/-- what the law's call finds and must leave -/
theorem at_caller {P : Program} {w : World} {K : PySem.W.Frag} {mg mb : Str → Option Value} {fa a : Addr} {fd : FuncData} {x : Str} {sp : Sp} {s₁ : Shared} {vs : List Value} {ns : List Int}
    (KX : K.In s₁.heap) (hns : s₁.heap.Ns mainGlobals mg) (hb : s₁.heap.Ns builtinsNs mb) (hbb : ∀ x : Str, x ≠ "__name__" → mb x = bootBuiltins x) (hlim : s₁.heap.NoLimit) (hg : s₁.gens = #[])
    (ha : s₁.heap.get? a = some { cls := .type "list", data := .seq vs.toArray }) (hi : IntsAre vs ns) (hl : ns.length ≤ sizeLine)
    (F : ∀ base : Heap, K.In base → base.Ns mainGlobals mg → FnAt P w K mg base callerA fa fd [x] sp) (hbind : ∀ (s : Shared) (u : Value), BindsTo s fd ⟨[u], []⟩ [(x, u)])
    (hsp : ∀ H : Hp, Only H → SqL K H a (ns.map V.int) → sp [.ref a] H (fun v _ => v = .bl true) fun _ _ _ => False) :
    codeAny (model P w) callerA (.call (.ref fa) ⟨[.ref a], []⟩) (fun r s' => r = .ok (.ret (.bool true)) ∧ OldK s₁.heap s'.heap ∧ s'.os = s₁.os ∧ AllBare s'.gens) s₁ := by
  have rv := vals_ints hi
  -- the script's own object is known, or it is one of the module's
  obtain ⟨H, hO, hS, hok, hA⟩ : ∃ H : Hp, Only H ∧ SqL K H a (ns.map V.int) ∧ HOk P w H s₁.heap ∧ ∀ b, H b ≠ none → b = a ∧ K.lookup a = none := by
    cases hk : K.lookup a with
    | some o =>
      have e := KX a o hk
      rw [ha] at e
      cases e
      exact ⟨fun _ => none, fun _ => .inl rfl, .inr ⟨_, vs.toArray, _, hk, rfl, rfl, rfl, by rw [List.size_toArray, hi.length]; exact hl, by simpa using rv⟩, fun b u z => (nomatch z), fun b z => absurd rfl z⟩
    | none =>
      have at_a : upd (fun _ => none) a (.frz { cls := .type "list", data := .seq vs.toArray } (.lst (ns.map V.int))) a = some (.frz { cls := .type "list", data := .seq vs.toArray } (.lst (ns.map V.int))) := upd_same
      refine ⟨upd (fun _ => none) a (.frz { cls := .type "list", data := .seq vs.toArray } (.lst (ns.map V.int))), fun b => ?_, .inl (.inr ⟨_, at_a⟩), fun b u z => ?_, fun b z => ⟨?_, rfl⟩⟩
      · by_cases q : b = a
        · subst q; exact .inr ⟨_, _, at_a⟩
        · exact .inl (upd_ne q)
      · by_cases q : b = a
        · subst q
          rw [at_a] at z
          cases z
          exact ⟨ha, by rw [List.length_map]; exact hl, vs, _, rv, ha⟩
        · rw [upd_ne q] at z; cases z
      · exact Classical.byContradiction fun q => z (upd_ne q)
  have low : ∀ {b : Addr} {o : Obj}, s₁.heap.get? b = some o → (b = a → K.lookup a ≠ none ∨ (∃ es ep, o.data = .dict es ep)) → (hidT s₁.heap H).get? b = some o := fun {b o} e c => hidT_get e <| Classical.byContradiction fun z => by
    obtain ⟨e1, e2⟩ := hA b z
    rcases c e1 with q | ⟨es, ep, q⟩
    · exact q e2
    · subst e1
      rw [ha] at e
      cases e
      cases q
  have hK : K.In (hidT s₁.heap H) := fun b o e => low (KX b o e) fun z => .inl (by rw [← z, e]; exact Option.some_ne_none _)
  have hN : ∀ {b : Addr} {m : Str → Option Value}, s₁.heap.Ns b m → (hidT s₁.heap H).Ns b m := fun ⟨o, es, ep, e, d, r⟩ => ⟨o, es, ep, low e fun _ => .inr ⟨es, ep, d⟩, d, r⟩
  have e0 : Env0 P w K mg (hidT s₁.heap H) callerA [] s₁ H := ⟨rfl, ⟨hK, hN hns, ⟨mb, hN hb, hbb⟩, let ⟨mc, h1, h2⟩ := hlim; ⟨mc, hN h1, h2⟩⟩, fun b o e => of_hidT e, Nat.le_of_eq (hidT_size _ _), trivial, fun b hb => absurd hb List.not_mem_nil, hok, .of_eq hg⟩
  refine codeAny_mono ((F _ hK (hN hns)).run [] s₁ H ⟨[.ref a], []⟩ [.ref a] [.ref a] _ _ e0 (hbind s₁ (.ref a)) (.cons rfl .nil) (hsp H hO hS)) fun r s' h => ?_
  match r, h with
  | .error e, h => exact False.elim h
  | .ok .next, h => exact h.elim
  | .ok .brk, h => exact h.elim
  | .ok .cont, h => exact h.elim
  | .ok (.ret u), ⟨v, H', os, bare, un, hok', r', q⟩ =>
    cases (show v = .bl true from q)
    cases (show u = Value.bool true from r')
    refine ⟨rfl, OldK.of_keep fun b o e => ?_, os, bare⟩
    rcases hO b with z | ⟨ob, xs, z⟩
    · exact un.keep b o e z List.not_mem_nil (by simp)
    · have e1 := (hok b _ z).1
      rw [e] at e1; cases e1
      exact (hok' b _ (un.frzs b _ _ z)).1
theorem walk_at_caller {l : PySem.W.OpenLaw} {n : Nat} {q : Program} {loose : List Str} {XP : (Str → Option Value) → Heap → Prop} {YP : World → Heap → Prop} {d : DefRec} {K : Params → PySem.W.Frag} {sp : World → Sp} {x : Str}
    (hn : l.most = some n) (hn2 : n ≤ sizeLine) (hdf : d.params.defaults = []) (hY : ∀ (w : World) (h : Heap), YP w h → (K w.params).In h)
    (F : ∀ (w : World) (mg : Str → Option Value) (fa : Addr) (h : Heap), (K w.params).In h → h.Ns mainGlobals mg → mg d.name = some (.ref fa) →
      ∃ fd : FuncData, (∀ (s : Shared) (u : Value), BindsTo s fd ⟨[u], []⟩ [(x, u)]) ∧ ∀ base : Heap, (K w.params).In base → base.Ns mainGlobals mg → FnAt l.prog w (K w.params) mg base callerA fa fd [x] (sp w))
    (hsp : ∀ (w : World) (H : Hp) (a : Addr) (ns : List Int), ns.length ≤ n → Only H → SqL (K w.params) H a (ns.map V.int) → sp w [.ref a] H (fun v _ => v = .bl true) fun _ _ _ => False) :
    PySem.W.WalkO q loose XP YP l.row.toRowW d [] (fun f vs => PySem.call f vs) :=
  Att.attach_call hn hdf fun w s₀ s₁ mg mb fa o pm cd doc a vs ns G Y ho hd hcd hmg hobj hints hlen hg => by
    obtain ⟨fd, hb, hF⟩ := F w mg fa _ (hY w _ Y) G.T.g hmg
    exact at_caller (hY w _ Y) G.T.g G.T.b G.T.builtins G.T.nolimit hg hobj hints (Nat.le_trans hlen hn2) hF hb fun H hO hS => hsp w H a ns hlen hO hS
end L2
namespace Lw
open PySem PySem.Spec PyProof.Rows L2
/-- repr(a nested list or tuple), where no repr goes on -/
def rReprD (K : PySem.W.Frag) : List V → Hp → VK → Prop := fun xs H Q => ∃ (a : Addr) (d : PyData), xs = [.ref a] ∧ Dp K H (.ref a) d ∧ d.showable = true ∧ d.hasDict = false ∧ d.depth ≤ 60 ∧ d.shown.length ≤ sizeLine ∧ Q (.str d.shown) H
theorem call_reprD {X : Cx} {K : PySem.W.Frag} (hK : X.K = K) (hg : X.A.guards = some []) (hu : X.A.units + 65 < cLine) : CallR X (.builtin "repr") (rReprD K) := by
  subst hK
  intro pins s σ H xs us Q I r h
  obtain ⟨a, d, rfl, hd, h1, h2, h3, h4, q⟩ := h
  obtain ⟨u, rfl, rx⟩ := vals1 r
  obtain rfl : u = .ref a := rx
  obtain ⟨as, rd⟩ := Dp.reads I d (.ref a) (.ref a) hd rfl
  exact repr_of_reads' rd h1 (PyData.noDict_hsm h2) hg (by omega) (fun _ _ e => e) (fun h' u tk hk => ⟨.str d.shown, H, I.kept hk, ⟨_, rfl⟩, q⟩) h4
theorem weightI : ∀ {r : List Int}, (∀ e ∈ r, 0 ≤ e ∧ e < 1000) → PyData.weightAll (r.map PyData.int) ≤ 11 * r.length
  | [], _ => Nat.le_refl _
  | e :: r, h => by
    have ih := weightI (r := r) fun x hx => h x (List.mem_cons_of_mem _ hx)
    have he := h e List.mem_cons_self
    have hw : PyData.weight (.int e) ≤ 10 := by
      show (if e == 0 then 0 else e.natAbs.log2 + 1) ≤ 10
      split
      · omega
      · have : e.natAbs.log2 < 10 := by
          by_cases z : e.natAbs = 0
          · rw [z]; decide
          · exact (Nat.log2_lt z).mpr (by have : (2:Nat) ^ 10 = 1024 := rfl
                                          omega)
        omega
    show PyData.weight (.int e) + 1 + PyData.weightAll (r.map PyData.int) ≤ _
    rw [List.length_cons]; omega
theorem weightR : ∀ {rs : List (List Int)}, (∀ r ∈ rs, r.length ≤ 100 ∧ ∀ e ∈ r, 0 ≤ e ∧ e < 1000) → PyData.weightAll (rs.map dI) ≤ 1101 * rs.length
  | [], _ => Nat.le_refl _
  | r :: rs, h => by
    have ih := weightR (rs := rs) fun x hx => h x (List.mem_cons_of_mem _ hx)
    have h1 := h r List.mem_cons_self
    have h2 := weightI h1.2
    show PyData.weightAll (r.map PyData.int) + 1 + PyData.weightAll (rs.map dI) ≤ _
    rw [List.length_cons]; omega
theorem shortI : ∀ {r : List Int}, (∀ e ∈ r, 0 ≤ e ∧ e < 1000) → PyData.intsShort 13 (dI r) = true := fun {r} h => by
  show PyData.intsShortAll 13 (r.map PyData.int) = true
  refine intsShortAll_of fun x hx => ?_
  obtain ⟨e, he, rfl⟩ := List.mem_map.mp hx
  refine intsShort_of_noneOrIn (lo := -1) (hi := 1000) (by decide) (by decide) (.int e) ?_
  have := h e he
  simp only [PyProof.Rows.noneOrIn, Bool.and_eq_true, decide_eq_true_eq]
  omega
theorem showI : ∀ {r : List Int}, (∀ e ∈ r, 0 ≤ e ∧ e < 1000) → PyData.showableAll (r.map PyData.int) = true
  | [], _ => rfl
  | e :: r, h => by
    have ih := showI (r := r) fun x hx => h x (List.mem_cons_of_mem _ hx)
    have he := h e List.mem_cons_self
    show (decide (e.natAbs.log2 < 1920) && PyData.showableAll (r.map PyData.int)) = true
    rw [ih, Bool.and_true, decide_eq_true_eq]
    by_cases z : e.natAbs = 0
    · rw [z]; decide
    · have h10 : (2:Nat) ^ 10 = 1024 := rfl
      have hle : (2:Nat) ^ 10 ≤ 2 ^ 1920 := Nat.pow_le_pow_right (by decide) (by decide)
      exact (Nat.log2_lt z).mpr (Nat.lt_of_lt_of_le (by omega : e.natAbs < 2 ^ 10) hle)
theorem showR : ∀ {rs : List (List Int)}, (∀ r ∈ rs, ∀ e ∈ r, 0 ≤ e ∧ e < 1000) → PyData.showableAll (rs.map dI) = true
  | [], _ => rfl
  | r :: rs, h => by
    have ih := showR (rs := rs) fun x hx => h x (List.mem_cons_of_mem _ hx)
    show (PyData.showableAll (r.map PyData.int) && PyData.showableAll (rs.map dI)) = true
    rw [ih, showI (h r List.mem_cons_self)]; rfl
theorem noDictI : ∀ r : List Int, PyData.hasDictAll (r.map PyData.int) = false
  | [] => rfl
  | e :: r => by
    show (false || PyData.hasDictAll (r.map PyData.int)) = false
    rw [noDictI r]; rfl
theorem noDictR : ∀ rs : List (List Int), PyData.hasDictAll (rs.map dI) = false
  | [] => rfl
  | r :: rs => by
    show (PyData.hasDictAll (r.map PyData.int) || PyData.hasDictAll (rs.map dI)) = false
    rw [noDictI r, noDictR rs]; rfl
theorem r_reprR {K : PySem.W.Frag} {a : Addr} {as : List Addr} {rs : List (List Int)} {H : Hp} {Q : VK} (h1 : H a = some (.lst (as.map V.ref))) (hr : Rw H as rs) (hl : rs.length ≤ 100) (hb : ∀ r ∈ rs, r.length ≤ 100 ∧ ∀ e ∈ r, 0 ≤ e ∧ e < 1000)
    (q : Q (.str (PyData.shown (dR rs))) H) : rReprD K [.ref a] H Q := by
  have hd : PyData.depth (dR rs) ≤ 2 := by
    show PyData.depthAll (rs.map dI) + 1 ≤ 2
    have := depR rs
    omega
  refine ⟨a, dR rs, rfl, dpR h1 hr, showR fun r hr => (hb r hr).2, noDictR rs, by omega, ?_, q⟩
  refine PyData.shown_fits_of_layable0 (B := 13) (by decide) (by decide) ?_ ?_
  · unfold PyData.layable0
    have h1 := SeqAt.canLay_of_shaped (shR rs)
    have h2 : PyData.weight (dR rs) ≤ 2 ^ 20 := by
      have := weightR hb
      show PyData.weightAll (rs.map dI) ≤ 1048576
      omega
    rw [h1, decide_eq_true (by omega : PyData.depth (dR rs) ≤ 64), decide_eq_true h2]; rfl
  · show PyData.intsShortAll 13 (rs.map dI) = true
    refine intsShortAll_of fun x hx => ?_
    obtain ⟨r, hr, rfl⟩ := List.mem_map.mp hx
    exact shortI (hb r hr).2
end Lw
namespace K40
open PySem PySem.Spec PyProof.Rows L2 Lw

def topS (i : Nat) : Stmt := PySem.Challenge.pw_setnests_k40_whole_built_with_rings.main.body.getD i (.Pass ⟨0, 0, 0, 0⟩)
abbrev s_settled_places : Stmt := topS 7
theorem sc_settled_places : FnScope ["rows", "holders", "missing", "place", "row", "held", "settled", "at", "lower", "holder"] ["rows"] (defScope s_settled_places) := ⟨rfl, rfl, rfl, by decide +kernel, rfl, by decide +kernel, by decide +kernel⟩

abbrev s_are_matched : Stmt := topS 9
theorem sc_are_matched : FnScope ["first", "second", "related", "one", "other"] ["first", "second", "related"] (defScope s_are_matched) := ⟨rfl, rfl, rfl, by decide +kernel, rfl, by decide +kernel, by decide +kernel⟩

abbrev s_greatest_likeness : Stmt := topS 10
theorem sc_greatest_likeness : FnScope ["count", "rows", "groups", "bares", "related", "pairs", "fallen", "first", "second", "row", "one", "g", "h", "place", "other"] ["count", "rows"] (defScope s_greatest_likeness) := ⟨rfl, rfl, rfl, by decide +kernel, rfl, by decide +kernel, by decide +kernel⟩

abbrev s_pairs_alike : Stmt := topS 11
theorem sc_pairs_alike : FnScope ["count", "rows", "rings", "pairs", "related", "g", "h"] ["count", "rows", "rings"] (defScope s_pairs_alike) := ⟨rfl, rfl, rfl, by decide +kernel, rfl, by decide +kernel, by decide +kernel⟩

abbrev s_sketch_stands : Stmt := topS 12
theorem sc_sketch_stands : FnScope ["count", "rows", "rings"] ["count", "rows", "rings"] (defScope s_sketch_stands) := ⟨rfl, rfl, rfl, by decide +kernel, rfl, by decide +kernel, by decide +kernel⟩

abbrev s_build_drawing : Stmt := topS 14
theorem sc_build_drawing : FnScope ["count", "rows", "rings", "drawing", "bare", "first_mark", "zero", "index", "wraps", "row"] ["count", "rows", "rings"] (defScope s_build_drawing) := ⟨rfl, rfl, rfl, by decide +kernel, rfl, by decide +kernel, by decide +kernel⟩

abbrev s__law_start : Stmt := topS 16
theorem sc__law_start : FnScope ["script", "great", "mixed", "cell"] ["script"] (defScope s__law_start) := ⟨rfl, rfl, rfl, by decide +kernel, rfl, by decide +kernel, by decide +kernel⟩

abbrev s__law_draw : Stmt := topS 17
theorem sc__law_draw : FnScope ["state", "many", "rest", "one", "two", "three"] ["state", "many"] (defScope s__law_draw) := ⟨rfl, rfl, rfl, by decide +kernel, rfl, by decide +kernel, by decide +kernel⟩

abbrev s__law_numbers : Stmt := topS 18
theorem sc__law_numbers : FnScope ["drawing", "numbers", "count", "turn", "table", "fresh", "row", "held", "key", "place"] ["drawing"] (defScope s__law_numbers) := ⟨rfl, rfl, rfl, by decide +kernel, rfl, by decide +kernel, by decide +kernel⟩

abbrev s__law_is_drawing : Stmt := topS 19
theorem sc__law_is_drawing : FnScope ["drawing", "most", "row", "last", "place"] ["drawing", "most"] (defScope s__law_is_drawing) := ⟨rfl, rfl, rfl, by decide +kernel, rfl, by decide +kernel, by decide +kernel⟩

abbrev s__law_on_rings : Stmt := topS 20
theorem sc__law_on_rings : FnScope ["drawing", "left", "turn", "kept", "k", "place"] ["drawing"] (defScope s__law_on_rings) := ⟨rfl, rfl, rfl, by decide +kernel, rfl, by decide +kernel, by decide +kernel⟩

abbrev s__law_some : Stmt := topS 21
theorem sc__law_some : FnScope ["state", "high", "dense", "place"] ["state", "high", "dense"] (defScope s__law_some) := ⟨rfl, rfl, rfl, by decide +kernel, rfl, by decide +kernel, by decide +kernel⟩

abbrev s__law_ringed : Stmt := topS 22
theorem sc__law_ringed : FnScope ["state", "count", "rows", "made", "first", "g", "to", "place"] ["state", "count", "rows"] (defScope s__law_ringed) := ⟨rfl, rfl, rfl, by decide +kernel, rfl, by decide +kernel, by decide +kernel⟩

abbrev s__law_chained : Stmt := topS 23
theorem sc__law_chained : FnScope ["state", "count", "rows", "made", "g"] ["state", "count", "rows"] (defScope s__law_chained) := ⟨rfl, rfl, rfl, by decide +kernel, rfl, by decide +kernel, by decide +kernel⟩

abbrev s__law_classes : Stmt := topS 24
theorem sc__law_classes : FnScope ["count", "rows", "numbers", "turn", "keys", "fresh", "g", "groups", "key", "place"] ["count", "rows"] (defScope s__law_classes) := ⟨rfl, rfl, rfl, by decide +kernel, rfl, by decide +kernel, by decide +kernel⟩

abbrev s__law_mended : Stmt := topS 25
theorem sc__law_mended : FnScope ["state", "count", "rows", "turn", "numbers", "twins", "fresh", "row", "h"] ["state", "count", "rows"] (defScope s__law_mended) := ⟨rfl, rfl, rfl, by decide +kernel, rfl, by decide +kernel, by decide +kernel⟩

abbrev s__law_sketch : Stmt := topS 26
theorem sc__law_sketch : FnScope ["state", "way", "count", "bare", "dense", "rows", "g", "k"] ["state"] (defScope s__law_sketch) := ⟨rfl, rfl, rfl, by decide +kernel, rfl, by decide +kernel, by decide +kernel⟩

abbrev s__law_stands_plainly : Stmt := topS 27
theorem sc__law_stands_plainly : FnScope ["count", "rows", "twins", "g"] ["count", "rows"] (defScope s__law_stands_plainly) := ⟨rfl, rfl, rfl, by decide +kernel, rfl, by decide +kernel, by decide +kernel⟩

abbrev s__law_built : Stmt := topS 28
theorem sc__law_built : FnScope ["count", "handed", "ringed", "keyed", "told", "e", "other"] ["count", "handed", "ringed", "keyed"] (defScope s__law_built) := ⟨rfl, rfl, rfl, by decide +kernel, rfl, by decide +kernel, by decide +kernel⟩

abbrev s__law_right : Stmt := topS 29
theorem sc__law_right : FnScope ["count", "rows", "told", "due", "size", "numbers", "n", "held", "m", "place"] ["count", "rows", "told", "due"] (defScope s__law_right) := ⟨rfl, rfl, rfl, by decide +kernel, rfl, by decide +kernel, by decide +kernel⟩

abbrev s_law : Stmt := topS 30
theorem sc_law : FnScope ["script", "state", "sketch", "count", "rows", "stands", "handed", "told", "row", "again", "plain"] ["script"] (defScope s_law) := ⟨rfl, rfl, rfl, by decide +kernel, rfl, by decide +kernel, by decide +kernel⟩

structure Blt (mg : Str → Option Value) : Prop where
  m_abs : mg "abs" = none
  m_any : mg "any" = none
  m_bool : mg "bool" = none
  m_enumerate : mg "enumerate" = none
  m_int : mg "int" = none
  m_isinstance : mg "isinstance" = none
  m_len : mg "len" = none
  m_list : mg "list" = none
  m_range : mg "range" = none
  m_repr : mg "repr" = none
  m_set : mg "set" = none
  m_sorted : mg "sorted" = none
  m_tuple : mg "tuple" = none
/-- a def stands at f -/
structure Dn (K : PySem.W.Frag) (mg : Str → Option Value) (x : Str) (st : Stmt) (ps : List Str) (f : Addr) (fd : FuncData) : Prop where
  F : Fun K x x st f fd
  b : Binds K fd ps []
  g : mg x = some (.ref f)
/-- a def with keyword-only parameters, n others -/
structure DnK (K : PySem.W.Frag) (mg : Str → Option Value) (x : Str) (st : Stmt) (ps : List Str) (n : Nat) (ks : List Str) (f : Addr) (fd : FuncData) : Prop where
  F : Fun K x x st f fd
  kb : KBn K fd ps n ks (fun us ws => us ++ ws) (fun vs zs => vs ++ zs)
  g : mg x = some (.ref f)
/-- and its defaults -/
structure DnKD (K : PySem.W.Frag) (mg : Str → Option Value) (x : Str) (st : Stmt) (ps : List Str) (n : Nat) (ks : List Str) (dv : List V) (f : Addr) (fd : FuncData) : Prop extends DnK K mg x st ps n ks f fd where
  d : ∃ ds, Vals dv ds ∧ Binds K fd ps ds
end K40
namespace K40
open PySem PySem.Spec PyProof.Rows L2 Lw


local macro_rules | `(tactic| walk_at "look") => `(tactic| first
  | assumption
  | with_reducible exact upd_same
  | with_reducible exact rg_st
  | with_reducible exact rg_g (by assumption)
  | (with_reducible refine upd_old (by assumption) ?_; walk_at "look")
  | (with_reducible refine rg_get (by assumption) ?_; walk_at "look")
  | (with_reducible refine Same.get (by assumption) ?_; walk_at "look"))
local macro_rules | `(tactic| walk_at "cond") => `(tactic| first
  | (show _ ≠ _; omega) | exact cdivN (by omega) (by omega) | exact cmul_mod (by decide) (by decide) | exact cmulR (by omega) (by omega) | exact cmulL (by omega) (by omega) | exact cpow (by omega) (by omega) (by omega) (by omega) | (show (0:Int) ≤ _; omega))
local macro_rules | `(tactic| walk_at "at") => `(tactic| first | assumption | with_unfolding_all rfl)
local macro_rules | `(tactic| walk_at "sz") => `(tactic| first | assumption | (refine small ?_; omega) | (refine small ?_; simp only [List.length_map, List.length_append, List.length_cons, List.length_nil]; omega))
local macro_rules | `(tactic| walk_at "len") => `(tactic| first | exact size_nil | exact Nat.le_of_lt (small (by simp only [List.length_cons, List.length_nil, List.length_map]; omega)))
local macro_rules | `(tactic| walk_at "newD") => `(tactic| (refine ⟨by walk_at "len", fun p np => ?_⟩; obtain ⟨e, o', hD', n', ne'⟩ := newTD_eq (topRg _ _) (by assumption) (by assumption) np (.lst _); rw [e]; clear e))
local macro_rules | `(tactic| walk_at "new") => `(tactic| (refine ⟨by walk_at "len", fun p np => ?_⟩; obtain ⟨e, o', n'⟩ := newT_eq (topRg _ _) (by assumption) np (.lst _); rw [e]; clear e))
local macro_rules | `(tactic| walk_at "st") => `(tactic| first
  | with_reducible refine r_seq ?_
  | with_reducible refine r_var rfl ?_
  | with_reducible refine r_c ?_
  | with_reducible refine r_asg ?_
  | (with_reducible refine r_name ?_; dsimp only [List.set_cons_zero, List.set_cons_succ])
  | with_reducible refine r_sub ?_
  | with_reducible refine r_op ?_
  | with_reducible refine r_i0 ?_
  | (with_reducible refine' r_i ?k1 ?_; (case k1 => walk_at "cond"))
  | with_reducible refine r_cons ?_
  | with_reducible refine r_nil ?_
  | with_reducible refine r_cb ?_
  | with_reducible refine r_call ?_
  | with_reducible refine r_ifs ?_
  | with_reducible refine r_test ?_
  | with_reducible refine r_tB ?_
  | with_reducible refine r_bl ?_
  | with_reducible refine r_ret ?_
  | with_reducible refine r_drop ?_
  | with_reducible refine r_next ?_
  | (with_reducible refine' r_ixL ?k1 ?k2 ?_; (case k1 => walk_at "look"); (case k2 => walk_at "at"))
  | (with_reducible refine' r_setL ?k1 ?k2 ?_; (case k1 => walk_at "look"); (case k2 => walk_at "at"))
  | with_reducible refine r_aug rfl ?_
  | with_reducible refine r_augS ?_
  | with_reducible refine r_ipI ?_
  | with_reducible refine r_un ?_
  | with_reducible refine r_u ?_
  | with_reducible refine r_eq rfl ?_
  | with_reducible refine r_ne rfl ?_
  | with_reducible refine r_chain ?_
  | with_reducible refine iteF ?_
  | with_reducible refine r_not ?_
  | with_reducible refine r_and ?_
  | with_reducible refine r_or ?_
  | with_reducible refine r_andV ?_
  | with_reducible refine r_orV ?_
  | with_reducible refine r_notV ?_
  | with_reducible refine r_lst ?_
  | with_reducible refine r_bm ?_
  | with_reducible refine r_bm0 ?_
  | (with_reducible refine' And.intro (r_ty ?k1) ?_; (case k1 => walk_at "look"))
  | (with_reducible refine' r_append ?k1 ?k2 ?_; (case k1 => walk_at "look"); (case k2 => walk_at "sz"))
  | (with_reducible refine' r_lenK ?k1 ?_; (case k1 => walk_at "look"))
  | (with_reducible refine' r_listOf ?k1 ?_; (case k1 => walk_at "look"))
  | (with_reducible refine' r_sortedI ?k1 ?_; (case k1 => walk_at "look"))
  | (with_reducible refine' r_sum ?k1 ?_; (case k1 => walk_at "look"))
  | with_reducible refine r_int ?_
  | (with_reducible refine' r_draw (by assumption) ?k1 ?k2 ?_; (case k1 => omega); (case k2 => omega); intro R' n' o' h' h'')
  | with_reducible refine iteT ?_
  | with_reducible refine r_revL ?_
  | with_reducible refine r_lc ?_
  | with_reducible refine r_yes ?_
  | with_reducible refine r_for ?_
  | with_reducible refine r_iList ?_
  | with_reducible refine r_rng1 ?_
  | with_reducible refine r_enum ?_
  | (with_reducible show Ends.nx _ _ _; dsimp only)
  | (with_reducible show Ends.rt _ _ _; dsimp only)
  | (with_reducible show Ends.ct _ _ _; dsimp only)
  | (with_reducible show Ends.bk _ _ _; dsimp only))
local macro_rules | `(tactic| walk_at "go") => `(tactic| repeat (walk_at "st"))
local macro_rules | `(tactic| walk_at "begin") => `(tactic| dsimp only [cxOf, wipe, L2.start, List.map, List.length_cons, List.length_nil, Nat.reduceAdd, Nat.reduceSub, List.replicate, List.cons_append, List.nil_append])

section
variable {P : Program} {w : World} {K : PySem.W.Frag} {mg : Str → Option Value} {base : Heap}
theorem ok_draw {f : Addr} {fd : FuncData} {k : Nat} (B : Blt mg) (D : Dn K mg "_law_draw" s__law_draw ["state", "many"] f fd) : FnOk P w K mg base CX0 (k + 1) f fd ["state", "many"] spDraw := by
  refine D.F.ok sc__law_draw (fun vs H Q E h => ?_) (fun cdv A outer s H vs Q E hr h => ?_)
  · obtain ⟨st, g, R, B, many, rfl, _⟩ := h
    rfl
  · obtain ⟨st, g, R, C, many, rfl, rfl, o, h1, h2, q⟩ := h
    refine ⟨_, (pss_cons (ps_if (pt_cmpR op_lt (pe_ix (ix_listK (K := K) rfl) (pv 0) pe_int (fun _ _ => rfl)) (pe_callB (call_len_seqK (K := K) rfl) (by rfl) B.m_len PySem.boot_len (pa_cons (pe_ix (ix_listK (K := K) rfl) (pv 0) pe_int (fun _ _ => rfl)) pa_nil)) (nomark _)) (pss_cons (ps_set (i := 2) sc__law_draw.nd rfl (.inl rfl) (pe_ix (ix_listK (K := K) rfl) (pe_ix (ix_listK (K := K) rfl) (pv 0) pe_int (fun _ _ => rfl)) (pe_ix (ix_listK (K := K) rfl) (pv 0) pe_int (fun _ _ => rfl)) (fun _ _ => rfl)))
      (pss_cons (ps_asg (pe_op op_fdivN (pv 2) (pv 1)) (pg_sub (pe_ix (ix_listK (K := K) rfl) (pv 0) pe_int (fun _ _ => rfl)) (pe_ix (ix_listK (K := K) rfl) (pv 0) pe_int (fun _ _ => rfl)) set_list))
      (pss_cons (ps_if (pt_cmpR op_eq (pe_op op_fdivN (pv 2) (pv 1)) pe_int (nomark _)) (pss_one (ps_asg (pe_op op_add (pe_ix (ix_listK (K := K) rfl) (pv 0) pe_int (fun _ _ => rfl)) pe_int) (pg_sub (pv 0) pe_int set_list))) pss_nil)
      (pss_one (ps_ret (pe_op op_modN (pe_callTy call_int1 (by rfl) B.m_int (by decide +kernel) (pa_cons (pv 2) pa_nil)) (pv 1))))))) pss_nil)
      (pss_cons (ps_asg (pe_op op_add (pe_ix (ix_listK (K := K) rfl) (pv 0) pe_int (fun _ _ => rfl)) pe_int) (pg_sub (pv 0) pe_int set_list))
      (pss_cons (ps_set (i := 3) sc__law_draw.nd rfl (.inl rfl) (pe_op op_modN (pe_callTy call_int1 (by rfl) B.m_int (by decide +kernel) (pa_cons (pe_op op_add (pe_ix (ix_listK (K := K) rfl) (pv 0) pe_int (fun _ _ => rfl)) (pe_op op_mul (pe_ix (ix_listK (K := K) rfl) (pv 0) pe_int (fun _ _ => rfl)) pe_int)) pa_nil)) pe_int))
      (pss_cons (ps_set (i := 4) sc__law_draw.nd rfl (.inl rfl) (pe_op op_modN (pe_callTy call_int1 (by rfl) B.m_int (by decide +kernel) (pa_cons (pe_op op_add (pe_op op_mul (pv 3) (pv 3)) (pe_op op_mul (pe_ix (ix_listK (K := K) rfl) (pv 0) pe_int (fun _ _ => rfl)) pe_int)) pa_nil)) pe_int))
      (pss_cons (ps_set (i := 5) sc__law_draw.nd rfl (.inl rfl) (pe_op op_modN (pe_callTy call_int1 (by rfl) B.m_int (by decide +kernel) (pa_cons (pe_op op_add (pe_op op_mul (pv 4) (pv 4)) (pv 3)) pa_nil)) pe_int))
      (pss_one (ps_ret (pe_op op_modN (pe_callTy call_int1 (by rfl) B.m_int (by decide +kernel) (pa_cons (pe_op op_fdivN (pv 5) pe_int) pa_nil)) (pv 1))))))))), ?_⟩
    walk_at "begin"
    walk_at "go"
    have fin : ∀ n : Int, 0 ≤ n → 0 ≤ n.fmod many ∧ n.fmod many < many := fun n _ => ⟨Int.fmod_nonneg_of_pos n (by omega), Int.fmod_lt_of_pos n (by omega)⟩
    refine r_ite (fun hlt => ?_) (fun _ => ?_)
    · have hl2 := hlt
      rw [List.length_map] at hl2
      have i0 := o.ok.i0
      have hi : R.i.toNat < R.ns.length := by omega
      obtain ⟨z, hz⟩ : ∃ z, R.ns[R.i.toNat]? = some z := ⟨_, List.getElem?_eq_getElem hi⟩
      have hz0 : 0 ≤ z := o.ok.pos z (List.mem_of_getElem? hz)
      have ha : atI (R.ns.map V.int) R.i = some (.int z) := at_i i0 (by rw [List.getElem?_map, hz]; rfl)
      have hx : ixN (R.ns.map V.int).length R.i = some R.i.toNat := ix_i i0 hlt
      have hd0 : 0 ≤ z.fdiv many := Int.fdiv_nonneg hz0 (by omega)
      walk_at "go"
      rw [setMap, rg_set_g o]
      have ok1 : RS.Ok ⟨R.ns.set R.i.toNat (z.fdiv many), R.i, R.m, R.c⟩ := by
        refine ⟨i0, ?_, fun n hn => ?_, ?_⟩
        · show R.i ≤ ((R.ns.set _ _).length : Int); rw [List.length_set]; exact o.ok.i1
        · rcases List.mem_or_eq_of_mem_set hn with e | e
          · exact o.ok.pos n e
          · rw [e]; exact hd0
        · show (R.ns.set _ _).length ≤ 63; rw [List.length_set]; exact o.ok.len
      have o1 := o.re ok1
      walk_at "go"
      refine r_ite (fun _ => ?_) (fun _ => ?_)
      · walk_at "go"
        rw [show [V.ref g, V.int R.i, V.int R.m, V.int R.c].set (Int.toNat 1) (V.int (R.i + 1)) = [V.ref g, V.int (R.i + 1), V.int R.m, V.int R.c] from rfl, rg_set_st]
        have ok2 : RS.Ok ⟨R.ns.set R.i.toNat (z.fdiv many), R.i + 1, R.m, R.c⟩ := ⟨by show (0:Int) ≤ R.i + 1; omega, by show R.i + 1 ≤ ((R.ns.set _ _).length : Int); rw [List.length_set]; omega, ok1.pos, ok1.len⟩
        walk_at "go"
        exact q _ _ ok2 (fin z hz0).1 (fin z hz0).2
      · walk_at "go"
        exact q _ _ ok1 (fin z hz0).1 (fin z hz0).2
    · walk_at "go"
      rw [show [V.ref g, V.int R.i, V.int R.m, V.int R.c].set (Int.toNat 3) (V.int (R.c + 1)) = [V.ref g, V.int R.i, V.int R.m, V.int (R.c + 1)] from rfl, rg_set_st]
      have ok1 : RS.Ok ⟨R.ns, R.i, R.m, R.c + 1⟩ := ⟨o.ok.i0, o.ok.i1, o.ok.pos, o.ok.len⟩
      have o1 := o.re ok1
      walk_at "go"
      refine q _ _ ok1 (fin _ ?_).1 (fin _ ?_).2
      all_goals exact Int.fdiv_nonneg (Int.fmod_nonneg_of_pos _ (by decide)) (by decide)
end
end K40
namespace K40
open PySem PySem.Spec PyProof.Rows L2 Lw


local macro_rules | `(tactic| walk_at "look") => `(tactic| first
  | assumption
  | with_reducible exact upd_same
  | with_reducible exact rg_st
  | with_reducible exact rg_g (by assumption)
  | (with_reducible refine upd_old (by assumption) ?_; walk_at "look")
  | (with_reducible refine rg_get (by assumption) ?_; walk_at "look")
  | (with_reducible refine Same.get (by assumption) ?_; walk_at "look"))
local macro_rules | `(tactic| walk_at "cond") => `(tactic| first
  | (show _ ≠ _; omega) | exact cdivN (by omega) (by omega) | exact cmul_mod (by decide) (by decide) | exact cmulR (by omega) (by omega) | exact cmulL (by omega) (by omega) | exact cpow (by omega) (by omega) (by omega) (by omega) | (show (0:Int) ≤ _; omega))
local macro_rules | `(tactic| walk_at "at") => `(tactic| first | assumption | with_unfolding_all rfl)
local macro_rules | `(tactic| walk_at "sz") => `(tactic| first | assumption | (refine small ?_; omega) | (refine small ?_; simp only [List.length_map, List.length_append, List.length_cons, List.length_nil]; omega))
local macro_rules | `(tactic| walk_at "len") => `(tactic| first | exact size_nil | exact Nat.le_of_lt (small (by simp only [List.length_cons, List.length_nil, List.length_map]; omega)))
local macro_rules | `(tactic| walk_at "newD") => `(tactic| (refine ⟨by walk_at "len", fun p np => ?_⟩; obtain ⟨e, o', hD', n', ne'⟩ := newTD_eq (topRg _ _) (by assumption) (by assumption) np (.lst _); rw [e]; clear e))
local macro_rules | `(tactic| walk_at "new") => `(tactic| (refine ⟨by walk_at "len", fun p np => ?_⟩; obtain ⟨e, o', n'⟩ := newT_eq (topRg _ _) (by assumption) np (.lst _); rw [e]; clear e))
local macro_rules | `(tactic| walk_at "st") => `(tactic| first
  | with_reducible refine r_seq ?_
  | with_reducible refine r_var rfl ?_
  | with_reducible refine r_c ?_
  | with_reducible refine r_asg ?_
  | (with_reducible refine r_name ?_; dsimp only [List.set_cons_zero, List.set_cons_succ])
  | with_reducible refine r_sub ?_
  | with_reducible refine r_op ?_
  | with_reducible refine r_i0 ?_
  | (with_reducible refine' r_i ?k1 ?_; (case k1 => walk_at "cond"))
  | with_reducible refine r_cons ?_
  | with_reducible refine r_nil ?_
  | with_reducible refine r_cb ?_
  | with_reducible refine r_call ?_
  | with_reducible refine r_ifs ?_
  | with_reducible refine r_test ?_
  | with_reducible refine r_tB ?_
  | with_reducible refine r_bl ?_
  | with_reducible refine r_ret ?_
  | with_reducible refine r_drop ?_
  | with_reducible refine r_next ?_
  | (with_reducible refine' r_ixL ?k1 ?k2 ?_; (case k1 => walk_at "look"); (case k2 => walk_at "at"))
  | (with_reducible refine' r_setL ?k1 ?k2 ?_; (case k1 => walk_at "look"); (case k2 => walk_at "at"))
  | with_reducible refine r_aug rfl ?_
  | with_reducible refine r_augS ?_
  | with_reducible refine r_ipI ?_
  | with_reducible refine r_un ?_
  | with_reducible refine r_u ?_
  | with_reducible refine r_eq rfl ?_
  | with_reducible refine r_ne rfl ?_
  | with_reducible refine r_chain ?_
  | with_reducible refine iteF ?_
  | with_reducible refine r_not ?_
  | with_reducible refine r_and ?_
  | with_reducible refine r_or ?_
  | with_reducible refine r_andV ?_
  | with_reducible refine r_orV ?_
  | with_reducible refine r_notV ?_
  | with_reducible refine r_lst ?_
  | with_reducible refine r_bm ?_
  | with_reducible refine r_bm0 ?_
  | (with_reducible refine' And.intro (r_ty ?k1) ?_; (case k1 => walk_at "look"))
  | (with_reducible refine' r_append ?k1 ?k2 ?_; (case k1 => walk_at "look"); (case k2 => walk_at "sz"))
  | (with_reducible refine' r_lenK ?k1 ?_; (case k1 => walk_at "look"))
  | (with_reducible refine' r_listOf ?k1 ?_; (case k1 => walk_at "look"))
  | (with_reducible refine' r_sortedI ?k1 ?_; (case k1 => walk_at "look"))
  | (with_reducible refine' r_sum ?k1 ?_; (case k1 => walk_at "look"))
  | with_reducible refine r_int ?_
  | (with_reducible refine' r_draw (by assumption) ?k1 ?k2 ?_; (case k1 => omega); (case k2 => omega); intro R' n' o' h' h'')
  | with_reducible refine iteT ?_
  | with_reducible refine r_revL ?_
  | with_reducible refine r_lc ?_
  | with_reducible refine r_yes ?_
  | with_reducible refine r_for ?_
  | with_reducible refine r_iList ?_
  | with_reducible refine r_rng1 ?_
  | with_reducible refine r_enum ?_
  | (with_reducible show Ends.nx _ _ _; dsimp only)
  | (with_reducible show Ends.rt _ _ _; dsimp only)
  | (with_reducible show Ends.ct _ _ _; dsimp only)
  | (with_reducible show Ends.bk _ _ _; dsimp only))
local macro_rules | `(tactic| walk_at "go") => `(tactic| repeat (walk_at "st"))
local macro_rules | `(tactic| walk_at "begin") => `(tactic| dsimp only [cxOf, wipe, L2.start, List.map, List.length_cons, List.length_nil, Nat.reduceAdd, Nat.reduceSub, List.replicate, List.cons_append, List.nil_append])

local macro_rules | `(tactic| walk_at "st") => `(tactic| with_reducible refine r_abs ?_)
section
variable {P : Program} {w : World} {K : PySem.W.Frag} {mg : Str → Option Value} {base : Heap}
theorem ok_start {f : Addr} {fd : FuncData} {k : Nat} (B : Blt mg) (D : Dn K mg "_law_start" s__law_start ["script"] f fd) : FnOk P w K mg base CX0 (k + 1) f fd ["script"] (spStart K) := by
  refine D.F.ok sc__law_start (fun vs H Q E h => ?_) (fun cdv A outer s H vs Q E hr h => ?_)
  · obtain ⟨a, ns, rfl, _⟩ := h
    rfl
  · obtain ⟨a, ns, rfl, hS, hl, q⟩ := h
    refine ⟨_, (pss_cons (ps_set (i := 1) sc__law_start.nd rfl (.inl rfl) (pe_lst pa_nil))
      (pss_cons (ps_set (i := 2) sc__law_start.nd rfl (.inl rfl) pe_int)
      (pss_cons (ps_for PassesOwn.never rfl (pi_listK (K := K) rfl (pv 0)) (pg_name (i := 3) sc__law_start.nd rfl (.inl rfl)) (pss_cons (ps_if (pt_cmpR op_ge (pe_callB call_abs (by rfl) B.m_abs (by decide +kernel) (pa_cons (pv 3) pa_nil)) (pe_op op_pow pe_int pe_int) (nomark _)) (pss_one (ps_expr (pe_bmK (K := K) rfl PySem.F.plainAttrs_list PySem.F.slot_list_append PySem.F.type_list_append mt_append (pv 1) (pa_cons (pe_callB call_abs (by rfl) B.m_abs (by decide +kernel) (pa_cons (pv 3) pa_nil)) pa_nil)))) pss_nil)
      (pss_one (ps_set (i := 2) sc__law_start.nd rfl (.inl rfl) (pe_op op_modN (pe_callTy call_int1 (by rfl) B.m_int (by decide +kernel) (pa_cons (pe_op op_add (pe_op op_add (pe_op op_mul (pv 2) pe_int) (pe_callB call_abs (by rfl) B.m_abs (by decide +kernel) (pa_cons (pv 3) pa_nil))) pe_int) pa_nil)) pe_int)))))
      (pss_one (ps_ret (pe_lst (pa_cons (pv 1) (pa_cons pe_int (pa_cons (pv 2) (pa_cons pe_int pa_nil)))))))))), ?_⟩
    walk_at "begin"
    walk_at "go"
    refine ⟨size_nil, fun p np => ?_⟩
    walk_at "go"
    refine r_forS (xs := ns.map V.int) (Same.seq (same_new np) hS) (fun i σ H' => ∃ (gs : List Int) (m : Int) (y : Option V), σ = [some (.ref a), some (.ref p), some (.int m), y] ∧ H' = upd H p (.lst (gs.map V.int)) ∧ gs.length ≤ i ∧ (∀ n ∈ gs, 0 ≤ n) ∧ 0 ≤ m ∧ m < 2147483647) ?_ ?_ ?_ ?_
    · exact ⟨[], 1, none, rfl, rfl, Nat.le_refl _, (fun n hn => nomatch hn), by decide, by decide⟩
    · rintro i σ H' _ ⟨gs, m, y, _, rfl, _⟩
      exact Same.seq (same_new np) hS
    · rintro i x σ H' hx ⟨gs, m, y, rfl, rfl, h1, h2, h3, h4⟩
      obtain ⟨z, rfl⟩ : ∃ z : Int, x = .int z := by
        rw [List.getElem?_map] at hx
        cases e : ns[i]? with
        | none => rw [e] at hx; cases hx
        | some z => rw [e] at hx; exact ⟨z, (Option.some.inj hx).symm⟩
      have hi : i < 63 := by
        have := (List.getElem?_eq_some_iff.mp hx).1
        rw [List.length_map] at this
        omega
      walk_at "go"
      have fm : ∀ t : Int, 0 ≤ t.fmod 2147483647 ∧ t.fmod 2147483647 < 2147483647 := fun t => ⟨Int.fmod_nonneg_of_pos _ (by decide), Int.fmod_lt_of_pos _ (by decide)⟩
      refine r_ite (fun _ => ?_) (fun _ => ?_)
      · walk_at "go"
        refine ⟨gs ++ [if z < 0 then -z else z], _, _, rfl, by rw [upd_upd, List.map_append]; rfl, by rw [List.length_append, List.length_singleton]; omega, fun n hn => ?_, (fm _).1, (fm _).2⟩
        rcases List.mem_append.mp hn with e | e
        · exact h2 n e
        · rw [List.mem_singleton.mp e]; split <;> omega
      · walk_at "go"
        exact ⟨gs, _, _, rfl, rfl, by omega, h2, (fm _).1, (fm _).2⟩
    · rintro σ H' ⟨gs, m, y, rfl, rfl, h1, h2, h3, h4⟩
      walk_at "go"
      refine ⟨size_le (n := 4) rfl (by decide), fun st ns' => ?_⟩
      have hne : st ≠ p := (upd_none ns').1
      rw [List.length_map] at h1
      exact q st p ⟨gs, 0, m, 0⟩ ⟨hne, ⟨Int.le_refl _, by show (0:Int) ≤ (gs.length : Int); omega, h2, by show gs.length ≤ 63; omega⟩, (upd_none ns').2, np⟩
end
end K40
namespace K40
open PySem PySem.Spec PyProof.Rows L2 Lw


local macro_rules | `(tactic| walk_at "look") => `(tactic| first
  | assumption
  | with_reducible exact upd_same
  | with_reducible exact rg_st
  | with_reducible exact rg_g (by assumption)
  | (with_reducible refine upd_old (by assumption) ?_; walk_at "look")
  | (with_reducible refine rg_get (by assumption) ?_; walk_at "look")
  | (with_reducible refine Same.get (by assumption) ?_; walk_at "look"))
local macro_rules | `(tactic| walk_at "cond") => `(tactic| first
  | (show _ ≠ _; omega) | exact cdivN (by omega) (by omega) | exact cmul_mod (by decide) (by decide) | exact cmulR (by omega) (by omega) | exact cmulL (by omega) (by omega) | exact cpow (by omega) (by omega) (by omega) (by omega) | (show (0:Int) ≤ _; omega))
local macro_rules | `(tactic| walk_at "at") => `(tactic| first | assumption | with_unfolding_all rfl)
local macro_rules | `(tactic| walk_at "sz") => `(tactic| first | assumption | (refine small ?_; omega) | (refine small ?_; simp only [List.length_map, List.length_append, List.length_cons, List.length_nil]; omega))
local macro_rules | `(tactic| walk_at "len") => `(tactic| first | exact size_nil | exact Nat.le_of_lt (small (by simp only [List.length_cons, List.length_nil, List.length_map]; omega)))
local macro_rules | `(tactic| walk_at "newD") => `(tactic| (refine ⟨by walk_at "len", fun p np => ?_⟩; obtain ⟨e, o', hD', n', ne'⟩ := newTD_eq (topRg _ _) (by assumption) (by assumption) np (.lst _); rw [e]; clear e))
local macro_rules | `(tactic| walk_at "new") => `(tactic| (refine ⟨by walk_at "len", fun p np => ?_⟩; obtain ⟨e, o', n'⟩ := newT_eq (topRg _ _) (by assumption) np (.lst _); rw [e]; clear e))
local macro_rules | `(tactic| walk_at "st") => `(tactic| first
  | with_reducible refine r_seq ?_
  | with_reducible refine r_var rfl ?_
  | with_reducible refine r_c ?_
  | with_reducible refine r_asg ?_
  | (with_reducible refine r_name ?_; dsimp only [List.set_cons_zero, List.set_cons_succ])
  | with_reducible refine r_sub ?_
  | with_reducible refine r_op ?_
  | with_reducible refine r_i0 ?_
  | (with_reducible refine' r_i ?k1 ?_; (case k1 => walk_at "cond"))
  | with_reducible refine r_cons ?_
  | with_reducible refine r_nil ?_
  | with_reducible refine r_cb ?_
  | with_reducible refine r_call ?_
  | with_reducible refine r_ifs ?_
  | with_reducible refine r_test ?_
  | with_reducible refine r_tB ?_
  | with_reducible refine r_bl ?_
  | with_reducible refine r_ret ?_
  | with_reducible refine r_drop ?_
  | with_reducible refine r_next ?_
  | (with_reducible refine' r_ixL ?k1 ?k2 ?_; (case k1 => walk_at "look"); (case k2 => walk_at "at"))
  | (with_reducible refine' r_setL ?k1 ?k2 ?_; (case k1 => walk_at "look"); (case k2 => walk_at "at"))
  | (with_reducible refine' r_tup (SqT.of ?k1) ?k2 ?_; (case k1 => walk_at "look"); (case k2 => rfl))
  | with_reducible refine r_gcons ?_
  | with_reducible refine r_gnil ?_
  | with_reducible refine r_aug rfl ?_
  | with_reducible refine r_augS ?_
  | with_reducible refine r_ipI ?_
  | with_reducible refine r_un ?_
  | with_reducible refine r_u ?_
  | with_reducible refine r_eq rfl ?_
  | with_reducible refine r_ne rfl ?_
  | with_reducible refine r_chain ?_
  | with_reducible refine iteF ?_
  | with_reducible refine r_not ?_
  | with_reducible refine r_and ?_
  | with_reducible refine r_or ?_
  | with_reducible refine r_andV ?_
  | with_reducible refine r_orV ?_
  | with_reducible refine r_notV ?_
  | with_reducible refine r_lst ?_
  | with_reducible refine r_bm ?_
  | with_reducible refine r_bm0 ?_
  | (with_reducible refine' And.intro (r_ty ?k1) ?_; (case k1 => walk_at "look"))
  | (with_reducible refine' r_append ?k1 ?k2 ?_; (case k1 => walk_at "look"); (case k2 => walk_at "sz"))
  | (with_reducible refine' r_lenK ?k1 ?_; (case k1 => walk_at "look"))
  | (with_reducible refine' r_listOf ?k1 ?_; (case k1 => walk_at "look"))
  | (with_reducible refine' r_sortedI ?k1 ?_; (case k1 => walk_at "look"))
  | (with_reducible refine' r_sum ?k1 ?_; (case k1 => walk_at "look"))
  | with_reducible refine r_int ?_
  | (with_reducible refine' r_draw (by assumption) ?k1 ?k2 ?_; (case k1 => omega); (case k2 => omega); intro R' n' o' h' h'')
  | with_reducible refine iteT ?_
  | with_reducible refine r_revL ?_
  | with_reducible refine r_lc ?_
  | with_reducible refine r_yes ?_
  | with_reducible refine r_for ?_
  | with_reducible refine r_iList ?_
  | with_reducible refine r_rng1 ?_
  | with_reducible refine r_enum ?_
  | (with_reducible show Ends.nx _ _ _; dsimp only)
  | (with_reducible show Ends.rt _ _ _; dsimp only)
  | (with_reducible show Ends.ct _ _ _; dsimp only)
  | (with_reducible show Ends.bk _ _ _; dsimp only))
local macro_rules | `(tactic| walk_at "go") => `(tactic| repeat (walk_at "st"))
local macro_rules | `(tactic| walk_at "begin") => `(tactic| dsimp only [cxOf, wipe, L2.start, List.map, List.length_cons, List.length_nil, Nat.reduceAdd, Nat.reduceSub, List.replicate, List.cons_append, List.nil_append])


open Lm
def spSettled : Sp := fun vs H Q _ => ∃ (a : Addr) (as : List Addr) (rs : List (List Int)) (n L : Nat), vs = [.ref a] ∧ H a = some (.lst (as.map V.ref)) ∧ Rw H as rs ∧ Wf n L rs ∧ n ≤ 128 ∧ L ≤ 700 ∧
  ∀ (H' : Hp) (q : Addr) (ss : List Int), Same H H' → H q = none → H' q = some (.lst (ss.map V.int)) → (ss.length = n ↔ ∀ x, ¬ Tc (Ed rs) x x) → Q (.ref q) H'
section
variable {P : Program} {w : World} {K : PySem.W.Frag} {mg : Str → Option Value} {base : Heap}
theorem ok_settled {f : Addr} {fd : FuncData} {k : Nat} (B : Blt mg) (D : Dn K mg "settled_places" s_settled_places ["rows"] f fd) : FnOk P w K mg base CX0 (k + 1) f fd ["rows"] spSettled := by
  refine D.F.ok sc_settled_places (fun vs H Q E h => ?_) (fun cdv A outer s H vs Q E hr h => ?_)
  · obtain ⟨a, as, rs, n, L, rfl, _⟩ := h
    rfl
  · obtain ⟨a, as, rs, n, L, rfl, ha, hrw, hwf, hn, hL, q⟩ := h
    have hla : as.length = n := by rw [hrw.1]; exact hwf.1
    have hlr : rs.length = n := hwf.1
    refine ⟨_, (pss_cons (ps_setLc (i := 1) (own := [("row", 4)]) rfl sc_settled_places.nd rfl rfl (sw_true rfl rfl rfl (by decide +kernel)) (pi_listK (K := K) rfl (pv 0)) (blkOk_by (own := [("row", 4)]) (by kernel_rfl))
        (fun _ _ _ _ _ => (pg_name (i := 4) sc_settled_places.nd rfl (.inl rfl))) (fun _ _ _ _ _ => pts_nil)
        (fun _ _ _ _ _ => (pe_lst pa_nil)))
      (pss_cons (ps_setLc (i := 2) (own := [("row", 4)]) rfl sc_settled_places.nd rfl rfl (sw_true rfl rfl rfl (by decide +kernel)) (pi_listK (K := K) rfl (pv 0)) (blkOk_by (own := [("row", 4)]) (by kernel_rfl))
        (fun _ _ _ _ _ => (pg_name (i := 4) sc_settled_places.nd rfl (.inl rfl))) (fun _ _ _ _ _ => pts_nil)
        (fun _ _ _ _ _ => (pe_callB (call_len_seqK (K := K) rfl) (by rfl) B.m_len PySem.boot_len (pa_cons (pv 4) pa_nil))))
      (pss_cons (ps_for PassesOwn.never rfl (pi_enumK (K := K) rfl (by rfl) B.m_enumerate (pa_cons (pv 0) pa_nil)) (pg_tupK (K := K) (n := 2) rfl rfl (pgs_cons (pg_name (i := 3) sc_settled_places.nd rfl (.inl rfl)) (pgs_cons (pg_name (i := 4) sc_settled_places.nd rfl (.inl rfl)) pgs_nil))) (pss_one (ps_for PassesOwn.never rfl (pi_listK (K := K) rfl (pv 4)) (pg_name (i := 5) sc_settled_places.nd rfl (.inl rfl)) (pss_one (ps_expr (pe_bmK (K := K) rfl PySem.F.plainAttrs_list PySem.F.slot_list_append PySem.F.type_list_append mt_append (pe_ix (ix_listK (K := K) rfl) (pv 1) (pv 5) (fun _ _ => rfl)) (pa_cons (pv 3) pa_nil)))))))
      (pss_cons (ps_setLc (i := 6) (own := [("place", 3), ("row", 4)]) rfl sc_settled_places.nd rfl rfl (sw_true rfl rfl rfl (by decide +kernel)) (pi_enumK (K := K) rfl (by rfl) B.m_enumerate (pa_cons (pv 0) pa_nil)) (blkOk_by (own := [("place", 3), ("row", 4)]) (by kernel_rfl))
        (fun _ _ _ _ _ => (pg_tupK (K := K) (n := 2) rfl rfl (pgs_cons (pg_name (i := 3) sc_settled_places.nd rfl (.inl rfl)) (pgs_cons (pg_name (i := 4) sc_settled_places.nd rfl (.inl rfl)) pgs_nil)))) (fun _ _ _ _ _ => (pts_one (pt_cmpR (op_eqDK (K := K) rfl hr.units) (pv 4) (pe_lst pa_nil) (nomark _))))
        (fun _ _ _ _ _ => (pv 3)))
      (pss_cons (ps_set (i := 7) sc_settled_places.nd rfl (.inl rfl) pe_int)
      (pss_cons (ps_while PassesOwn.never (pt_cmpR op_lt (pv 7) (pe_callB (call_len_seqK (K := K) rfl) (by rfl) B.m_len PySem.boot_len (pa_cons (pv 6) pa_nil)) (nomark _)) (pss_cons (ps_set (i := 8) sc_settled_places.nd rfl (.inl rfl) (pe_ix (ix_listK (K := K) rfl) (pv 6) (pv 7) (fun _ _ => rfl)))
      (pss_cons (ps_for PassesOwn.never rfl (pi_listK (K := K) rfl (pe_ix (ix_listK (K := K) rfl) (pv 1) (pv 8) (fun _ _ => rfl))) (pg_name (i := 9) sc_settled_places.nd rfl (.inl rfl)) (pss_cons (ps_augS (pv 2) (pv 9) (get_listK (K := K) rfl) pe_int ip_sub set_list)
      (pss_one (ps_if (pt_cmpR op_eq (pe_ix (ix_listK (K := K) rfl) (pv 2) (pv 9) (fun _ _ => rfl)) pe_int (nomark _)) (pss_one (ps_expr (pe_bmK (K := K) rfl PySem.F.plainAttrs_list PySem.F.slot_list_append PySem.F.type_list_append mt_append (pv 6) (pa_cons (pv 9) pa_nil)))) pss_nil))))
      (pss_one (ps_aug (i := 7) sc_settled_places.nd rfl (.inl rfl) pe_int ip_add)))))
      (pss_one (ps_ret (pv 6))))))))), ?_⟩
    walk_at "begin"
    walk_at "go"
    -- the holders
    refine lcT_list topH (K := K) (s0 := ()) trivial ha (fun i C acc => ∃ as' : List Addr, acc = as'.map V.ref ∧ Rw C as' (List.replicate i []) ∧ as'.Nodup ∧ ∀ b ∈ as', H b = none) ⟨[], rfl, Rw.nil, List.nodup_nil, fun b hb => nomatch hb⟩ ?_ ?_
    · rintro D1 i x _ C acc _ hD hS hx ⟨as', rfl, h1, h2, h3⟩
      have hi := (List.getElem?_eq_some_iff.mp hx).1
      rw [List.length_map, hla] at hi
      have hl1 : as'.length = i := by rw [h1.1, List.length_replicate]
      walk_at "begin"
      walk_at "go"
      refine ⟨rfl, ?_⟩
      walk_at "go"
      refine ⟨size_nil, fun p np => ?_⟩
      obtain ⟨e, _, hD4, n4, ne4⟩ := newTD_eq topH (s := ()) trivial hD np (.lst [])
      try dsimp only at e
      rw [e]
      have h5 := (h1.mono (same_new (o := .lst []) n4)).push (r := []) (b := p) upd_same
      refine lcN_put topH (s := ()) trivial hD4 (hS.trans (same_new n4)) ?_ ⟨as' ++ [p], refs_push _ _, ?_, nodup_push h2 fun hm => ?_, fun b hb => ?_⟩
      · rw [List.length_map]; omega
      · have h6 : Rw (upd C p (.lst [])) (as' ++ [p]) (List.replicate (i + 1) []) := by rw [List.replicate_succ']; exact h5
        exact h6
      · obtain ⟨j, hj⟩ := List.mem_iff_getElem?.mp hm
        obtain ⟨r, _, hr⟩ := h1.2 j p hj
        rw [n4] at hr; cases hr
      · rcases List.mem_append.mp hb with z | z
        · exact h3 b z
        · rw [List.mem_singleton.mp z]; exact hS.free n4
    · rintro D1 _ C acc _ hB1 hD1 hS1 ⟨as', rfl, h1, h2, h3⟩
      rw [List.length_map, hla] at h1
      have hl1 : as'.length = n := by rw [h1.1, List.length_replicate]
      have hneD1 : ∀ b ∈ as', b ≠ D1 := fun b hb => by
        obtain ⟨j, hj⟩ := List.mem_iff_getElem?.mp hb
        obtain ⟨r, _, hr⟩ := h1.2 j b hj
        exact ne_of_none hr hD1
      have ha1 := hS1 _ _ ha
      have hS1' := hS1.trans (same_new (o := .lst (as'.map V.ref)) hD1)
      have hrw1 := hrw.mono hS1'
      have h1' := h1.mono (same_new (o := .lst (as'.map V.ref)) hD1)
      have hd1 : upd C D1 (.lst (as'.map V.ref)) D1 = some (.lst (as'.map V.ref)) := upd_same
      generalize upd C D1 (.lst (as'.map V.ref)) = C1 at hS1' hrw1 h1' hd1 ⊢
      clear h1 hS1 ha1 hD1
      have ha1 := hS1' _ _ ha
      walk_at "go"
      -- what is missing
      refine lcT_list topH (K := K) (s0 := ()) trivial ha1 (fun i C acc => acc = ((rs.take i).map fun r => (r.length : Int)).map V.int) rfl ?_ ?_
      · rintro D2 i x _ C2 acc _ hD hS hx rfl
        obtain ⟨c, r, rfl, _, hr1, hc⟩ := (hrw1.mono hS).at hx
        have hi := (List.getElem?_eq_some_iff.mp hx).1
        rw [List.length_map, hla] at hi
        walk_at "begin"
        walk_at "go"
        refine ⟨rfl, ?_⟩
        walk_at "go"
        rw [List.length_map]
        refine lcN_put topH (s := ()) trivial hD hS ?_ ?_
        · rw [List.length_map, List.length_map, List.length_take]; omega
        · rw [ints_push, List.take_add_one, hr1]
          show List.map V.int (_ ++ [_]) = List.map V.int (List.map _ (_ ++ [r]))
          rw [List.map_append (l₂ := [r])]; rfl
      · rintro D2 _ C2 acc _ hB2 hD2 hS2 rfl
        rw [List.length_map, hla, ← hlr, List.take_length]
        have hH2 : Same H C2 := hS1'.trans hS2
        have hd2 := hS2 _ _ hd1
        have hs2 := h1'.mono hS2
        have ms0 : (rs.map fun r => (r.length : Int)).length = n := by rw [List.length_map, hlr]
        generalize hms : (rs.map fun r => (r.length : Int)) = ms at ms0 ⊢
        walk_at "go"
        -- who holds whom
        refine r_forE (xs := as.map V.ref) (upd_old hD2 (hH2 _ _ ha)) (fun i σ H' => ∃ (C : Hp) (hs : List (List Int)) (y3 y4 y5 : Option V), σ = [some (.ref a), some (.ref D1), some (.ref D2), y3, y4, y5, none, none, none, none] ∧ H' = upd C D2 (.lst (ms.map V.int)) ∧ C D2 = none ∧ C D1 = some (.lst (as'.map V.ref)) ∧
          Rw C as' hs ∧ Same H C ∧ Hpt rs hs i [] ∧ ∀ l ∈ hs, l.length ≤ i * L) ?_ ?_ ?_ ?_
        · refine ⟨C2, _, _, _, _, rfl, rfl, hD2, hd2, hs2, hH2, ?_, fun l hl => ?_⟩
          · rw [← hlr]; exact Hpt.init rs
          · rw [(List.mem_replicate.mp hl).2]; exact Nat.zero_le _
        · rintro i σ H' _ ⟨C, hs, y3, y4, y5, rfl, rfl, e1, e2, e3, e4, e5, e6⟩
          exact upd_old e1 (e4 _ _ ha)
        · rintro i x σ H' t hx ⟨C, hs, y3, y4, y5, rfl, rfl, e1, e2, e3, e4, e5, e6⟩ nt
          have hi := (List.getElem?_eq_some_iff.mp hx).1
          rw [List.length_map, hla] at hi
          obtain ⟨e, _, f1, nt2, net⟩ := newTD_eq topH (s := ()) trivial e1 nt (.tup [.int (i : Nat), x])
          try dsimp only at e
          rw [e]
          have sm := same_new (o := .tup [.int (i : Nat), x]) nt2
          have hT : upd (upd C t (.tup [.int (i : Nat), x])) D2 (.lst (ms.map V.int)) t = some (.tup [.int (i : Nat), x]) := upd_old f1 upd_same
          have f2 := sm _ _ e2
          have f3 := e3.mono sm
          have f4 := e4.trans sm
          generalize upd C t (.tup [.int (i : Nat), x]) = C3 at f1 f2 f3 f4 hT ⊢
          obtain ⟨c, r, rfl, _, hr1, hc⟩ := (hrw.mono f4).at hx
          obtain ⟨g1, g2, g3⟩ := hwf.2 r (List.mem_of_getElem? hr1)
          refine r_tup (SqT.of hT) rfl ?_
          walk_at "go"
          refine r_forL (xs := r.map V.int) (upd_old f1 hc) (fun j σ H' => ∃ (C : Hp) (hs : List (List Int)) (y5 : Option V), σ = [some (.ref a), some (.ref D1), some (.ref D2), some (.int i), some (.ref c), y5, none, none, none, none] ∧ H' = upd C D2 (.lst (ms.map V.int)) ∧ C D2 = none ∧ C D1 = some (.lst (as'.map V.ref)) ∧
            Rw C as' hs ∧ Same H C ∧ C c = some (.lst (r.map V.int)) ∧ Hpt rs hs i (r.take j) ∧ ∀ l ∈ hs, l.length ≤ i * L + j) ?_ ?_ ?_ ?_
          · exact ⟨C3, hs, _, rfl, rfl, f1, f2, f3, f4, hc, e5, e6⟩
          · rintro j σ H' _ ⟨C, hs, y5, rfl, rfl, e1, e2, e3, e4, e7, e5, e6⟩
            exact upd_old e1 e7
          · rintro j y σ H' hy ⟨C, hs, y5, rfl, rfl, e1, e2, e3, e4, e7, e5, e6⟩
            obtain ⟨z, rfl, hz⟩ := ints_at hy
            have hj := (List.getElem?_eq_some_iff.mp hz).1
            obtain ⟨z0, z1⟩ := g3 z (List.mem_of_getElem? hz)
            obtain ⟨b, hb⟩ : ∃ b, as'[z.toNat]? = some b := ⟨_, List.getElem?_eq_getElem (by omega)⟩
            obtain ⟨hl, hl1, hl2⟩ := e3.2 _ _ hb
            have hlen := e6 hl (List.mem_of_getElem? hl1)
            have hatb : atI (as'.map V.ref) z = some (.ref b) := at_i z0 (by rw [List.getElem?_map, hb]; rfl)
            have hiL : i * L ≤ 127 * 700 := Nat.mul_le_mul (by omega) hL
            have hsz : (hl.map V.int).length < sizeLine := small (by rw [List.length_map]; omega)
            have hbD2 : b ≠ D2 := ne_of_none hl2 e1
            walk_at "go"
            rw [upd_comm hbD2.symm, ints_push]
            have hbm := List.mem_of_getElem? hb
            have hcb : c ≠ b := ne_of_none (hrw.2 i c ‹_› |>.choose_spec.2) (h3 b hbm)
            refine ⟨_, hs.set z.toNat (hl ++ [(i : Int)]), _, rfl, rfl, by rw [upd_ne hbD2.symm]; exact e1, by rw [upd_ne (hneD1 b hbm).symm]; exact e2, e3.write h2 hb _, fun x y e => by rw [upd_ne (ne_of_none e (h3 b hbm))]; exact e4 _ _ e, by rw [upd_ne hcb]; exact e7, ?_, fun l hm => ?_⟩
            · rw [List.take_add_one, hz]
              exact e5.step (by omega) z0 hl1
            · rcases List.mem_or_eq_of_mem_set hm with q | q
              · have := e6 l q; omega
              · rw [q, List.length_append, List.length_singleton]; omega
          · rintro σ H' ⟨C, hs, y5, rfl, rfl, e1, e2, e3, e4, e7, e5, e6⟩
            rw [List.length_map, List.take_length] at e5
            rw [List.length_map] at e6
            exact ⟨C, hs, _, _, _, rfl, rfl, e1, e2, e3, e4, e5.row hr1, fun l hl => by have := e6 l hl; rw [Nat.add_mul]; omega⟩
        · rintro σ H' ⟨C, hs, y3, y4, y5, rfl, rfl, e1, e2, e3, e4, e5, e6⟩
          rw [List.length_map, hla, ← hlr] at e5
          have hd := e5.final
          walk_at "go"
          -- the places of empty rows
          refine lcT_enum topH (s0 := ()) (B := upd C D2 (.lst (ms.map V.int))) trivial (xs := as.map V.ref) (upd_old e1 (e4 _ _ ha)) (fun i C acc => acc = (pick i fun p => rs[p]? == some []).map V.int) (fun i C C' acc _ h => h) rfl ?_ ?_
          · rintro D3 i x _ C3 acc t _ hD3 hS3 hx ht rfl
            have hi := (List.getElem?_eq_some_iff.mp hx).1
            rw [List.length_map, hla] at hi
            have hSC : Same H C3 := fun x y e => hS3 _ _ (upd_old e1 (e4 _ _ e))
            obtain ⟨c, r, rfl, _, hr1, hc⟩ := (hrw.mono hSC).at hx
            have hpl := pick_len i fun p => rs[p]? == some []
            walk_at "begin"
            refine r_tup (SqT.of (upd_old hD3 ht)) rfl ?_
            walk_at "go"
            refine ⟨rfl, ?_⟩
            walk_at "go"
            refine ⟨size_nil, fun p np => ?_⟩
            obtain ⟨e, _, f1, nt2, net⟩ := newTD_eq topH (s := ()) trivial hD3 np (.lst [])
            try dsimp only at e
            rw [e]
            have sm := same_new (o := .lst []) nt2
            refine r_eqI (xs := r) (ys := []) (upd_old f1 (sm _ _ hc)) (upd_old f1 upd_same) ?_
            walk_at "go"
            refine r_ite (fun he => ?_) (fun he => ?_)
            · walk_at "go"
              refine lcN_put topH (s := ()) trivial f1 (hS3.trans sm) ?_ ?_
              · rw [List.length_map]; omega
              · rw [pick_succ, hr1, he, ints_push]; rfl
            · refine lcN_skip (s := ()) trivial f1 (hS3.trans sm) ?_
              rw [pick_succ, hr1, show (some r == some ([] : List Int)) = false from by simpa using he]
              show _ = List.map V.int (_ ++ [])
              rw [List.append_nil]
          · rintro D3 _ C3 acc _ hB3 hD3 hS3 rfl
            rw [List.length_map, hla]
            obtain ⟨C4, e, f1, sm⟩ := lay_same e1 hS3
            subst e
            have hne : D3 ≠ D2 := (upd_none hB3).1
            have hC4 : C4 D3 = none := (upd_none hD3).2
            have hSC : Same H C4 := e4.trans sm
            have hBH : H D3 = none := e4.free (upd_none hB3).2
            have hd4 := sm _ _ e2
            have hs4 := e3.mono sm
            have knd : (pick n fun p => rs[p]? == some []).Nodup := by
              unfold pick
              exact nodup_map (fun x y e => Int.ofNat.inj e) (List.Nodup.sublist List.filter_sublist List.nodup_range)
            have kn0 := Kn.init (rs := rs) knd fun p => by
              unfold pick
              rw [List.mem_map]
              constructor
              · rintro ⟨m, hm, rfl⟩
                have := (List.mem_filter.mp hm).2
                exact ⟨Int.natCast_nonneg _, by show rs[((m : Nat) : Int).toNat]? = some []; rw [Int.toNat_natCast]; simpa using this⟩
              · rintro ⟨h0, h1⟩
                refine ⟨p.toNat, List.mem_filter.mpr ⟨List.mem_range.mpr ?_, by simpa using h1⟩, by show ((p.toNat : Nat) : Int) = p; omega⟩
                have := (List.getElem?_eq_some_iff.mp h1).1
                omega
            rw [hms] at kn0
            generalize (pick n fun p => rs[p]? == some []) = ss0 at kn0 ⊢
            walk_at "go"
            refine r_while (fun m σ H' => ∃ (ms ss : List Int) (qq : Nat) (y8 y9 : Option V), σ = [some (.ref a), some (.ref D1), some (.ref D2), y3, y4, y5, some (.ref D3), some (.int qq), y8, y9] ∧ H' = upd (upd C4 D2 (.lst (ms.map V.int))) D3 (.lst (ss.map V.int)) ∧ Kn rs ms ss qq ∧ m = n - qq) ?_ ?_
            · exact ⟨n, ms, ss0, 0, none, none, rfl, rfl, kn0, rfl⟩
            · rintro m σ H' ⟨ms, ss, qq, y8, y9, rfl, rfl, kn, hm⟩
              have hlt := kn.lt
              have hD3' : ∀ x, upd C4 D2 x D3 = none := fun x => by rw [upd_ne hne]; exact hC4
              have h3 : ∀ x y, upd (upd C4 D2 x) D3 y D3 = some y := fun x y => upd_same
              walk_at "go"
              rw [List.length_map]
              refine r_ite (fun hlt2 => ?_) (fun hge => ?_)
              · have hq : qq < ss.length := by omega
                obtain ⟨l, hl⟩ : ∃ l, ss[qq]? = some l := ⟨_, List.getElem?_eq_getElem hq⟩
                obtain ⟨l0, l1⟩ := kn.rng l (List.mem_of_getElem? hl)
                have hatl : atI (ss.map V.int) (qq : Int) = some (.int l) := atI_nat (by rw [List.getElem?_map, hl]; rfl)
                obtain ⟨b, hb⟩ : ∃ b, as'[l.toNat]? = some b := ⟨_, List.getElem?_eq_getElem (by omega)⟩
                obtain ⟨hh, hh1, hh2⟩ := hs4.2 _ _ hb
                have hatb : atI (as'.map V.ref) l = some (.ref b) := at_i l0 (by rw [List.getElem?_map, hb]; rfl)
                have hd5 : ∀ x y, upd (upd C4 D2 x) D3 y D1 = some (.lst (as'.map V.ref)) := fun x y => upd_old (hD3' x) (upd_old f1 hd4)
                have hb5 : ∀ x y, upd (upd C4 D2 x) D3 y b = some (.lst (hh.map V.int)) := fun x y => upd_old (hD3' x) (upd_old f1 hh2)
                have km := kn.open hl
                refine ⟨_, fun _ _ h => h, ?_⟩
                have hd6 := hd5 (.lst (ms.map V.int)) (.lst (ss.map V.int))
                walk_at "go"
                refine r_forL (xs := hh.map V.int) (hb5 _ _) (fun j σ H' => ∃ (ms ss : List Int) (y9 : Option V), σ = [some (.ref a), some (.ref D1), some (.ref D2), y3, y4, y5, some (.ref D3), some (.int qq), some (.int l), y9] ∧ H' = upd (upd C4 D2 (.lst (ms.map V.int))) D3 (.lst (ss.map V.int)) ∧ Km rs ms ss qq l (hh.take j)) ?_ ?_ ?_ ?_
                · exact ⟨ms, ss, _, rfl, rfl, km⟩
                · rintro j σ H' _ ⟨ms, ss, y9, rfl, rfl, km⟩
                  exact hb5 _ _
                · rintro j x σ H' hx ⟨ms, ss, y9, rfl, rfl, km⟩
                  obtain ⟨z, rfl, hz⟩ := ints_at hx
                  have hdrop : hh = hh.take j ++ z :: hh.drop (j + 1) := by
                    have hj := (List.getElem?_eq_some_iff.mp hz).1
                    have e := (List.getElem?_eq_some_iff.mp hz).2
                    rw [← e, List.getElem_cons_drop, List.take_append_drop]
                  obtain ⟨v, z0, z1, hv, hyes, hno⟩ := km.step hd l0 (by rw [hh1]; exact congrArg some hdrop)
                  have hsl := km.lt
                  have hml : ms.length = n := by rw [km.len, hlr]
                  have hatv : atI (ms.map V.int) z = some (.int ((v + 1 : Nat) : Int)) := at_i z0 (by rw [List.getElem?_map, hv]; rfl)
                  have hixv : ixN (ms.map V.int).length z = some z.toNat := ix_i z0 (by rw [List.length_map]; omega)
                  have hd2 : upd (upd C4 D2 (.lst (ms.map V.int))) D3 (.lst (ss.map V.int)) D2 = some (.lst (ms.map V.int)) := upd_old (hD3' _) upd_same
                  have htake : hh.take (j + 1) = hh.take j ++ [z] := by rw [List.take_add_one, hz]; rfl
                  walk_at "go"
                  rw [show ((v + 1 : Nat) : Int) - 1 = (v : Int) by omega, setMap, upd_comm hne, upd_upd]
                  have hatw : atI ((ms.set z.toNat (v : Int)).map V.int) z = some (.int (v : Int)) := at_i z0 (by rw [List.getElem?_map, List.getElem?_set_self (by omega)]; rfl)
                  have hd2' : upd (upd C4 D2 (.lst ((ms.set z.toNat (v : Int)).map V.int))) D3 (.lst (ss.map V.int)) D2 = some (.lst ((ms.set z.toNat (v : Int)).map V.int)) := upd_old (hD3' _) upd_same
                  walk_at "go"
                  refine r_ite (fun h0 => ?_) (fun h0 => ?_)
                  · have hv0 : v = 0 := by have := int_eq.mp h0; omega
                    subst hv0
                    walk_at "go"
                    rw [upd_upd, ints_push]
                    exact ⟨_, _, _, rfl, rfl, by rw [htake]; exact hno rfl⟩
                  · walk_at "go"
                    exact ⟨_, _, _, rfl, rfl, by rw [htake]; exact hyes fun e => h0 (by rw [e]; rfl)⟩
                · rintro σ H' ⟨ms, ss, y9, rfl, rfl, km⟩
                  rw [List.length_map, List.take_length] at km
                  have kn2 := km.close hd l0 hh1
                  walk_at "go"
                  exact ⟨n - (qq + 1), by omega, ms, ss, qq + 1, _, _, rfl, rfl, kn2, rfl⟩
              · walk_at "go"
                have hfin := kn.final (by omega) (In.of hwf)
                rw [hlr] at hfin
                refine q _ D3 ss (fun x y e => upd_old (hD3' _) (upd_old f1 (hSC _ _ e))) hBH upd_same hfin
end
end K40
namespace K40
open PySem PySem.Spec PyProof.Rows L2 Lw


local macro_rules | `(tactic| walk_at "look") => `(tactic| first
  | assumption
  | with_reducible exact upd_same
  | with_reducible exact rg_st
  | with_reducible exact rg_g (by assumption)
  | (with_reducible refine upd_old (by assumption) ?_; walk_at "look")
  | (with_reducible refine rg_get (by assumption) ?_; walk_at "look")
  | (with_reducible refine Same.get (by assumption) ?_; walk_at "look"))
local macro_rules | `(tactic| walk_at "cond") => `(tactic| first
  | (show _ ≠ _; omega) | exact cdivN (by omega) (by omega) | exact cmul_mod (by decide) (by decide) | exact cmulR (by omega) (by omega) | exact cmulL (by omega) (by omega) | exact cpow (by omega) (by omega) (by omega) (by omega) | (show (0:Int) ≤ _; omega))
local macro_rules | `(tactic| walk_at "at") => `(tactic| first | assumption | with_unfolding_all rfl)
local macro_rules | `(tactic| walk_at "sz") => `(tactic| first | assumption | (refine small ?_; omega) | (refine small ?_; simp only [List.length_map, List.length_append, List.length_cons, List.length_nil]; omega))
local macro_rules | `(tactic| walk_at "len") => `(tactic| first | exact size_nil | exact Nat.le_of_lt (small (by simp only [List.length_cons, List.length_nil, List.length_map]; omega)))
local macro_rules | `(tactic| walk_at "newD") => `(tactic| (refine ⟨by walk_at "len", fun p np => ?_⟩; obtain ⟨e, o', hD', n', ne'⟩ := newTD_eq (topRg _ _) (by assumption) (by assumption) np (.lst _); rw [e]; clear e))
local macro_rules | `(tactic| walk_at "new") => `(tactic| (refine ⟨by walk_at "len", fun p np => ?_⟩; obtain ⟨e, o', n'⟩ := newT_eq (topRg _ _) (by assumption) np (.lst _); rw [e]; clear e))
local macro_rules | `(tactic| walk_at "st") => `(tactic| first
  | with_reducible refine r_seq ?_
  | with_reducible refine r_var rfl ?_
  | with_reducible refine r_c ?_
  | with_reducible refine r_asg ?_
  | (with_reducible refine r_name ?_; dsimp only [List.set_cons_zero, List.set_cons_succ])
  | with_reducible refine r_sub ?_
  | with_reducible refine r_op ?_
  | with_reducible refine r_i0 ?_
  | (with_reducible refine' r_i ?k1 ?_; (case k1 => walk_at "cond"))
  | with_reducible refine r_cons ?_
  | with_reducible refine r_nil ?_
  | with_reducible refine r_cb ?_
  | with_reducible refine r_call ?_
  | with_reducible refine r_ifs ?_
  | with_reducible refine r_test ?_
  | with_reducible refine r_tB ?_
  | with_reducible refine r_bl ?_
  | with_reducible refine r_ret ?_
  | with_reducible refine r_drop ?_
  | with_reducible refine r_next ?_
  | (with_reducible refine' r_ixL ?k1 ?k2 ?_; (case k1 => walk_at "look"); (case k2 => walk_at "at"))
  | (with_reducible refine' r_setL ?k1 ?k2 ?_; (case k1 => walk_at "look"); (case k2 => walk_at "at"))
  | (with_reducible refine' r_tup (SqT.of ?k1) ?k2 ?_; (case k1 => walk_at "look"); (case k2 => rfl))
  | with_reducible refine r_gcons ?_
  | with_reducible refine r_gnil ?_
  | with_reducible refine r_aug rfl ?_
  | with_reducible refine r_augS ?_
  | with_reducible refine r_ipI ?_
  | with_reducible refine r_un ?_
  | with_reducible refine r_u ?_
  | with_reducible refine r_eq rfl ?_
  | with_reducible refine r_ne rfl ?_
  | with_reducible refine r_chain ?_
  | with_reducible refine iteF ?_
  | with_reducible refine r_not ?_
  | with_reducible refine r_and ?_
  | with_reducible refine r_or ?_
  | with_reducible refine r_andV ?_
  | with_reducible refine r_orV ?_
  | with_reducible refine r_notV ?_
  | with_reducible refine r_lst ?_
  | with_reducible refine r_bm ?_
  | with_reducible refine r_bm0 ?_
  | (with_reducible refine' And.intro (r_ty ?k1) ?_; (case k1 => walk_at "look"))
  | (with_reducible refine' r_append ?k1 ?k2 ?_; (case k1 => walk_at "look"); (case k2 => walk_at "sz"))
  | (with_reducible refine' r_lenK ?k1 ?_; (case k1 => walk_at "look"))
  | (with_reducible refine' r_listOf ?k1 ?_; (case k1 => walk_at "look"))
  | (with_reducible refine' r_sortedI ?k1 ?_; (case k1 => walk_at "look"))
  | (with_reducible refine' r_sum ?k1 ?_; (case k1 => walk_at "look"))
  | with_reducible refine r_int ?_
  | (with_reducible refine' r_draw (by assumption) ?k1 ?k2 ?_; (case k1 => omega); (case k2 => omega); intro R' n' o' h' h'')
  | with_reducible refine iteT ?_
  | with_reducible refine r_revL ?_
  | with_reducible refine r_lc ?_
  | with_reducible refine r_yes ?_
  | with_reducible refine r_for ?_
  | with_reducible refine r_iList ?_
  | with_reducible refine r_rng1 ?_
  | with_reducible refine r_enum ?_
  | (with_reducible show Ends.nx _ _ _; dsimp only)
  | (with_reducible show Ends.rt _ _ _; dsimp only)
  | (with_reducible show Ends.ct _ _ _; dsimp only)
  | (with_reducible show Ends.bk _ _ _; dsimp only))
local macro_rules | `(tactic| walk_at "go") => `(tactic| repeat (walk_at "st"))
local macro_rules | `(tactic| walk_at "begin") => `(tactic| dsimp only [cxOf, wipe, L2.start, List.map, List.length_cons, List.length_nil, Nat.reduceAdd, Nat.reduceSub, List.replicate, List.cons_append, List.nil_append])


open Lm
def bt (M : List (List Bool)) (e k : Nat) : Bool := ((M[e]?).getD [])[k]?.getD false
theorem tr_bt {M : List (List Bool)} {e k : Nat} : tr M e k ↔ bt M e k = true := by
  unfold tr bt
  constructor
  · rintro ⟨r, h1, h2⟩
    rw [h1]; show (r[k]?).getD false = true
    rw [h2]; rfl
  · intro h
    cases q : M[e]? with
    | none => rw [q] at h; simp at h
    | some r =>
      rw [q] at h
      have h : (r[k]?).getD false = true := h
      cases q2 : r[k]? with
      | none => rw [q2] at h; cases h
      | some b => rw [q2] at h; exact ⟨r, rfl, by rw [q2]; exact congrArg some h⟩
theorem bt_at {C : Hp} {as : List Addr} {M : List (List Bool)} {c : Nat} (h : Ro V.bl C as M) (hl : M.length = c) (hr : ∀ r ∈ M, r.length = c) {e k : Int} (e0 : 0 ≤ e) (e1 : e < (c : Int)) (k0 : 0 ≤ k) (k1 : k < (c : Int)) :
    ∃ b r, atI (as.map V.ref) e = some (.ref b) ∧ C b = some (.lst (r.map V.bl)) ∧ atI (r.map V.bl) k = some (.bl (bt M e.toNat k.toNat)) ∧ M[e.toNat]? = some r ∧ as[e.toNat]? = some b := by
  obtain ⟨r, hr1⟩ : ∃ r, M[e.toNat]? = some r := ⟨_, List.getElem?_eq_getElem (by omega)⟩
  obtain ⟨b, h1, h2, h3⟩ := h.get hr1
  have hrl := hr r (List.mem_of_getElem? hr1)
  obtain ⟨x, hx⟩ : ∃ x, r[k.toNat]? = some x := ⟨_, List.getElem?_eq_getElem (by omega)⟩
  refine ⟨b, r, at_i e0 h2, h3, at_i k0 ?_, hr1, h1⟩
  rw [List.getElem?_map, hx]
  unfold bt
  rw [hr1]
  show _ = some (V.bl ((r[k.toNat]?).getD false))
  rw [hx]; rfl
def spMatched : Sp := fun vs H Q _ => ∃ (f s m : Addr) (xs ys : List Int) (as : List Addr) (M : List (List Bool)) (c : Nat), vs = [.ref f, .ref s, .ref m] ∧ H f = some (.lst (xs.map V.int)) ∧ H s = some (.lst (ys.map V.int)) ∧ H m = some (.lst (as.map V.ref)) ∧
  Ro V.bl H as M ∧ M.length = c ∧ (∀ r ∈ M, r.length = c) ∧ (∀ e ∈ xs, 0 ≤ e ∧ e < (c : Int)) ∧ (∀ e ∈ ys, 0 ≤ e ∧ e < (c : Int)) ∧ xs.length ≤ 1000 ∧ ys.length ≤ 1000 ∧
  ∀ (H' : Hp) (b : Bool), Same H H' → (b = true ↔ Mt (tr M) xs ys) → Q (.bl b) H'
section
variable {P : Program} {w : World} {K : PySem.W.Frag} {mg : Str → Option Value} {base : Heap}
theorem ok_matched {f : Addr} {fd : FuncData} {k : Nat} (B : Blt mg) (D : Dn K mg "are_matched" s_are_matched ["first", "second", "related"] f fd) : FnOk P w K mg base CX0 (k + 1) f fd ["first", "second", "related"] spMatched := by
  refine D.F.ok sc_are_matched (fun vs H Q E h => ?_) (fun cdv A outer s H vs Q E hr h => ?_)
  · obtain ⟨f, s, m, xs, ys, as, M, c, rfl, _⟩ := h
    rfl
  · obtain ⟨f, s, m, xs, ys, as, M, c, rfl, hf, hs, hm, hM, hl, hrl, hx, hy, lx, ly, q⟩ := h
    refine ⟨_, (pss_cons (ps_for PassesOwn.never rfl (pi_listK (K := K) rfl (pv 0)) (pg_name (i := 3) sc_are_matched.nd rfl (.inr rfl)) (pss_one (ps_if (pt_not (pt_val (pe_callB (cr_anyK (K := K) rfl rfl) (by rfl) B.m_any (by decide +kernel) (pa_cons (pe_lc (own := [("other", 4)]) rfl sc_are_matched.nd (pi_listK (K := K) rfl (pv 1)) (blkOk_by (own := [("other", 4)]) (by kernel_rfl))
        (fun _ _ _ _ _ => (pg_name (i := 4) sc_are_matched.nd rfl (.inl rfl))) (fun _ _ _ _ _ => pts_nil)
        (fun _ _ _ _ _ => (pe_ix (ix_listK (K := K) rfl) (pe_ix (ix_listK (K := K) rfl) (pv 2) (pv 3) (fun _ _ => rfl)) (pv 4) (fun _ _ => rfl)))) pa_nil)))) (pss_one (ps_ret pe_bl)) pss_nil)))
      (pss_cons (ps_for PassesOwn.never rfl (pi_listK (K := K) rfl (pv 1)) (pg_name (i := 4) sc_are_matched.nd rfl (.inr rfl)) (pss_one (ps_if (pt_not (pt_val (pe_callB (cr_anyK (K := K) rfl rfl) (by rfl) B.m_any (by decide +kernel) (pa_cons (pe_lc (own := [("one", 3)]) rfl sc_are_matched.nd (pi_listK (K := K) rfl (pv 0)) (blkOk_by (own := [("one", 3)]) (by kernel_rfl))
        (fun _ _ _ _ _ => (pg_name (i := 3) sc_are_matched.nd rfl (.inl rfl))) (fun _ _ _ _ _ => pts_nil)
        (fun _ _ _ _ _ => (pe_ix (ix_listK (K := K) rfl) (pe_ix (ix_listK (K := K) rfl) (pv 2) (pv 3) (fun _ _ => rfl)) (pv 4) (fun _ _ => rfl)))) pa_nil)))) (pss_one (ps_ret pe_bl)) pss_nil)))
      (pss_one (ps_ret pe_bl)))), ?_⟩
    walk_at "begin"
    walk_at "go"
    refine r_forL (xs := xs.map V.int) hf (fun i σ H' => ∃ y3, σ = [some (.ref f), some (.ref s), some (.ref m), y3, none] ∧ Same H H' ∧ ∀ e ∈ xs.take i, ∃ k ∈ ys, tr M e.toNat k.toNat) ?_ ?_ ?_ ?_
    · exact ⟨_, rfl, Same.refl _, fun e he => nomatch he⟩
    · rintro i σ H' _ ⟨y3, rfl, hS, _⟩
      exact hS _ _ hf
    · rintro i x σ H' hxi ⟨y3, rfl, hS, hi⟩
      obtain ⟨e, rfl, he⟩ := ints_at hxi
      obtain ⟨e0, e1⟩ := hx e (List.mem_of_getElem? he)
      walk_at "go"
      refine lcT_list topH (K := K) (s0 := ()) trivial (xs := ys.map V.int) (hS _ _ hs) (fun j C acc => acc = ((ys.take j).map fun k => bt M e.toNat k.toNat).map V.bl) rfl ?_ ?_
      · rintro D1 j x _ C acc _ hD hS1 hxj rfl
        obtain ⟨k, rfl, hk⟩ := ints_at hxj
        have hj := (List.getElem?_eq_some_iff.mp hk).1
        obtain ⟨k0, k1⟩ := hy k (List.mem_of_getElem? hk)
        have hS2 := hS.trans hS1
        obtain ⟨b, r, h1, h2, h3, _, _⟩ := bt_at (hM.mono hS2) hl hrl e0 e1 k0 k1
        have hm2 := hS2 _ _ hm
        walk_at "begin"
        walk_at "go"
        refine ⟨rfl, ?_⟩
        walk_at "go"
        refine lcN_put topH (s := ()) trivial hD hS1 ?_ ?_
        · rw [List.length_map, List.length_map, List.length_take]; omega
        · rw [mp_put hk, List.map_append]; rfl
      · rintro D1 _ C acc _ hB1 hD1 hS1 rfl
        rw [List.length_map, List.take_length]
        have hS2 : Same H (upd C D1 (.lst (List.map V.bl (ys.map fun k => bt M e.toNat k.toNat)))) := (hS.trans hS1).trans (same_new hD1)
        walk_at "go"
        refine r_any upd_same ?_
        walk_at "go"
        refine r_iteB (fun hb => ?_) (fun hb => ?_)
        · walk_at "go"
          refine q _ _ hS2 ⟨(fun z => nomatch z), fun z => ?_⟩
          obtain ⟨k, hk, t⟩ := z.1 e (List.mem_of_getElem? he)
          rw [Bool.not_eq_true', List.any_eq_false] at hb
          exact absurd (tr_bt.mp t) (hb _ (List.mem_map.mpr ⟨k, hk, rfl⟩))
        · walk_at "go"
          rw [Bool.not_eq_false', List.any_eq_true] at hb
          obtain ⟨z, hz, h1⟩ := hb
          obtain ⟨k, hk, rfl⟩ := List.mem_map.mp hz
          refine ⟨_, rfl, hS2, fun e' he' => ?_⟩
          rw [take_succ_of he] at he'
          rcases List.mem_append.mp he' with q1 | q1
          · exact hi e' q1
          · rw [List.mem_singleton.mp q1]; exact ⟨k, hk, tr_bt.mpr h1⟩
    · rintro σ H' ⟨y3, rfl, hS, hi1⟩
      rw [List.length_map, List.take_length] at hi1
      walk_at "go"
      refine r_forL (xs := ys.map V.int) (hS _ _ hs) (fun i σ H' => ∃ y3 y4, σ = [some (.ref f), some (.ref s), some (.ref m), y3, y4] ∧ Same H H' ∧ ∀ e ∈ ys.take i, ∃ k ∈ xs, tr M k.toNat e.toNat) ?_ ?_ ?_ ?_
      · exact ⟨_, _, rfl, hS, fun e he => nomatch he⟩
      · rintro i σ H' _ ⟨y3, y4, rfl, hS, _⟩
        exact hS _ _ hs
      · rintro i x σ H' hxi ⟨y3, y4, rfl, hS, hi⟩
        obtain ⟨e, rfl, he⟩ := ints_at hxi
        obtain ⟨e0, e1⟩ := hy e (List.mem_of_getElem? he)
        walk_at "go"
        refine lcT_list topH (K := K) (s0 := ()) trivial (xs := xs.map V.int) (hS _ _ hf) (fun j C acc => acc = ((xs.take j).map fun k => bt M k.toNat e.toNat).map V.bl) rfl ?_ ?_
        · rintro D1 j x _ C acc _ hD hS1 hxj rfl
          obtain ⟨k, rfl, hk⟩ := ints_at hxj
          have hj := (List.getElem?_eq_some_iff.mp hk).1
          obtain ⟨k0, k1⟩ := hx k (List.mem_of_getElem? hk)
          have hS2 := hS.trans hS1
          obtain ⟨b, r, h1, h2, h3, _, _⟩ := bt_at (hM.mono hS2) hl hrl k0 k1 e0 e1
          have hm2 := hS2 _ _ hm
          walk_at "begin"
          walk_at "go"
          refine ⟨rfl, ?_⟩
          walk_at "go"
          refine lcN_put topH (s := ()) trivial hD hS1 ?_ ?_
          · rw [List.length_map, List.length_map, List.length_take]; omega
          · rw [mp_put hk, List.map_append]; rfl
        · rintro D1 _ C acc _ hB1 hD1 hS1 rfl
          rw [List.length_map, List.take_length]
          have hS2 : Same H (upd C D1 (.lst (List.map V.bl (xs.map fun k => bt M k.toNat e.toNat)))) := (hS.trans hS1).trans (same_new hD1)
          walk_at "go"
          refine r_any upd_same ?_
          walk_at "go"
          refine r_iteB (fun hb => ?_) (fun hb => ?_)
          · walk_at "go"
            refine q _ _ hS2 ⟨(fun z => nomatch z), fun z => ?_⟩
            obtain ⟨k, hk, t⟩ := z.2 e (List.mem_of_getElem? he)
            rw [Bool.not_eq_true', List.any_eq_false] at hb
            exact absurd (tr_bt.mp t) (hb _ (List.mem_map.mpr ⟨k, hk, rfl⟩))
          · walk_at "go"
            rw [Bool.not_eq_false', List.any_eq_true] at hb
            obtain ⟨z, hz, h1⟩ := hb
            obtain ⟨k, hk, rfl⟩ := List.mem_map.mp hz
            refine ⟨_, _, rfl, hS2, fun e' he' => ?_⟩
            rw [take_succ_of he] at he'
            rcases List.mem_append.mp he' with q1 | q1
            · exact hi e' q1
            · rw [List.mem_singleton.mp q1]; exact ⟨k, hk, tr_bt.mpr h1⟩
      · rintro σ H' ⟨y3, y4, rfl, hS, hi2⟩
        rw [List.length_map, List.take_length] at hi2
        walk_at "go"
        exact q _ _ hS ⟨fun _ => ⟨hi1, hi2⟩, fun _ => rfl⟩
end
end K40
namespace K40
open PySem PySem.Spec PyProof.Rows L2 Lw


local macro_rules | `(tactic| walk_at "look") => `(tactic| first
  | assumption
  | with_reducible exact upd_same
  | with_reducible exact rg_st
  | with_reducible exact rg_g (by assumption)
  | (with_reducible refine upd_old (by assumption) ?_; walk_at "look")
  | (with_reducible refine rg_get (by assumption) ?_; walk_at "look")
  | (with_reducible refine Same.get (by assumption) ?_; walk_at "look"))
local macro_rules | `(tactic| walk_at "cond") => `(tactic| first
  | (show _ ≠ _; omega) | exact cdivN (by omega) (by omega) | exact cmul_mod (by decide) (by decide) | exact cmulR (by omega) (by omega) | exact cmulL (by omega) (by omega) | exact cpow (by omega) (by omega) (by omega) (by omega) | (show (0:Int) ≤ _; omega))
local macro_rules | `(tactic| walk_at "at") => `(tactic| first | assumption | with_unfolding_all rfl)
local macro_rules | `(tactic| walk_at "sz") => `(tactic| first | assumption | (refine small ?_; omega) | (refine small ?_; simp only [List.length_map, List.length_append, List.length_cons, List.length_nil]; omega))
local macro_rules | `(tactic| walk_at "len") => `(tactic| first | exact size_nil | exact Nat.le_of_lt (small (by simp only [List.length_cons, List.length_nil, List.length_map]; omega)))
local macro_rules | `(tactic| walk_at "newD") => `(tactic| (refine ⟨by walk_at "len", fun p np => ?_⟩; obtain ⟨e, o', hD', n', ne'⟩ := newTD_eq (topRg _ _) (by assumption) (by assumption) np (.lst _); rw [e]; clear e))
local macro_rules | `(tactic| walk_at "new") => `(tactic| (refine ⟨by walk_at "len", fun p np => ?_⟩; obtain ⟨e, o', n'⟩ := newT_eq (topRg _ _) (by assumption) np (.lst _); rw [e]; clear e))
local macro_rules | `(tactic| walk_at "st") => `(tactic| first
  | with_reducible refine r_seq ?_
  | with_reducible refine r_var rfl ?_
  | with_reducible refine r_c ?_
  | with_reducible refine r_asg ?_
  | (with_reducible refine r_name ?_; dsimp only [List.set_cons_zero, List.set_cons_succ])
  | with_reducible refine r_sub ?_
  | with_reducible refine r_op ?_
  | with_reducible refine r_i0 ?_
  | (with_reducible refine' r_i ?k1 ?_; (case k1 => walk_at "cond"))
  | with_reducible refine r_cons ?_
  | with_reducible refine r_nil ?_
  | with_reducible refine r_cb ?_
  | with_reducible refine r_call ?_
  | with_reducible refine r_ifs ?_
  | with_reducible refine r_test ?_
  | with_reducible refine r_tB ?_
  | with_reducible refine r_bl ?_
  | with_reducible refine r_ret ?_
  | with_reducible refine r_drop ?_
  | with_reducible refine r_next ?_
  | (with_reducible refine' r_ixL ?k1 ?k2 ?_; (case k1 => walk_at "look"); (case k2 => walk_at "at"))
  | (with_reducible refine' r_setL ?k1 ?k2 ?_; (case k1 => walk_at "look"); (case k2 => walk_at "at"))
  | (with_reducible refine' r_tup (SqT.of ?k1) ?k2 ?_; (case k1 => walk_at "look"); (case k2 => rfl))
  | with_reducible refine r_gcons ?_
  | with_reducible refine r_gnil ?_
  | with_reducible refine r_aug rfl ?_
  | with_reducible refine r_augS ?_
  | with_reducible refine r_ipI ?_
  | with_reducible refine r_un ?_
  | with_reducible refine r_u ?_
  | with_reducible refine r_eq rfl ?_
  | with_reducible refine r_ne rfl ?_
  | with_reducible refine r_chain ?_
  | with_reducible refine iteF ?_
  | with_reducible refine r_not ?_
  | with_reducible refine r_and ?_
  | with_reducible refine r_or ?_
  | with_reducible refine r_andV ?_
  | with_reducible refine r_orV ?_
  | with_reducible refine r_notV ?_
  | with_reducible refine r_lst ?_
  | with_reducible refine r_bm ?_
  | with_reducible refine r_bm0 ?_
  | (with_reducible refine' And.intro (r_ty ?k1) ?_; (case k1 => walk_at "look"))
  | (with_reducible refine' r_append ?k1 ?k2 ?_; (case k1 => walk_at "look"); (case k2 => walk_at "sz"))
  | (with_reducible refine' r_lenK ?k1 ?_; (case k1 => walk_at "look"))
  | (with_reducible refine' r_listOf ?k1 ?_; (case k1 => walk_at "look"))
  | (with_reducible refine' r_sortedI ?k1 ?_; (case k1 => walk_at "look"))
  | (with_reducible refine' r_sum ?k1 ?_; (case k1 => walk_at "look"))
  | with_reducible refine r_int ?_
  | (with_reducible refine' r_draw (by assumption) ?k1 ?k2 ?_; (case k1 => omega); (case k2 => omega); intro R' n' o' h' h'')
  | with_reducible refine iteT ?_
  | with_reducible refine r_revL ?_
  | with_reducible refine r_lc ?_
  | with_reducible refine r_yes ?_
  | with_reducible refine r_sl ?_
  | with_reducible refine r_noPart ?_
  | with_reducible refine r_part ?_
  | with_reducible refine r_lc2 ?_
  | with_reducible refine r_callN ?_
  | with_reducible refine r_tupE ?_
  | with_reducible refine r_rng2 ?_
  | with_reducible refine r_i1 ?_
  | (with_reducible refine' r_slL ?k1 ?_; (case k1 => walk_at "look"))
  | with_reducible refine r_for ?_
  | with_reducible refine r_iList ?_
  | with_reducible refine r_rng1 ?_
  | with_reducible refine r_enum ?_
  | (with_reducible show Ends.nx _ _ _; dsimp only)
  | (with_reducible show Ends.rt _ _ _; dsimp only)
  | (with_reducible show Ends.ct _ _ _; dsimp only)
  | (with_reducible show Ends.bk _ _ _; dsimp only))
local macro_rules | `(tactic| walk_at "go") => `(tactic| repeat (walk_at "st"))
local macro_rules | `(tactic| walk_at "begin") => `(tactic| dsimp only [cxOf, wipe, L2.start, List.map, List.length_cons, List.length_nil, Nat.reduceAdd, Nat.reduceSub, List.replicate, List.cons_append, List.nil_append])


open Lm
def spGreat : Sp := fun vs H Q _ => ∃ (a : Addr) (as : List Addr) (rs : List (List Int)) (n L c : Nat), vs = [.int (c : Int), .ref a] ∧ H a = some (.lst (as.map V.ref)) ∧ Rw H as rs ∧ Wf n L rs ∧ c ≤ n ∧ n ≤ 200 ∧ L ≤ 700 ∧
  ∀ (H' : Hp) (q : Addr) (ms : List Addr) (M : List (List Bool)), Same H H' → H' q = some (.lst (ms.map V.ref)) → Ro V.bl H' ms M → M.length = c → (∀ r ∈ M, r.length = c) → (∀ g h, tr M g h ↔ Bs c rs g h) → Q (.ref q) H'
def WI (c : Nat) (a D1 D2 D3 D4 : Addr) (ms ts : List Addr) (qs : List (Int × Int)) (G2 : Hp) (rs : List (List Int)) (M0 : List (List Bool)) (m : Nat) (σ : L2.St) (H' : Hp) : Prop :=
  ∃ (M : List (List Bool)) (fl : Bool) (y7 y8 : Option V), σ = [some (.int c), some (.ref a), some (.ref D1), some (.ref D2), some (.ref D3), some (.ref D4), some (.bl fl), y7, y8, none, none, none, none, none, none] ∧ Same G2 H' ∧ H' D3 = some (.lst (ms.map V.ref)) ∧ Ro V.bl H' ms M ∧
    H' D4 = some (.lst (ts.map V.ref)) ∧ Tp H' ts qs ∧ Gl c rs M ∧ (∀ g h, tr M g h → tr M0 g h) ∧ m = trues M + (if fl = true then 1 else 0) ∧ (fl = false → ∀ g k x y, tr M g k → rs[g]? = some x → rs[k]? = some y → Mt (tr M) (gp c x) (gp c y))
section
variable {P : Program} {w : World} {K : PySem.W.Frag} {mg : Str → Option Value} {base : Heap}
theorem ok_great {f f1 : Addr} {fd fd1 : FuncData} (B : Blt mg) (D : Dn K mg "greatest_likeness" s_greatest_likeness ["count", "rows"] f fd) (Dare_matched : Dn K mg "are_matched" s_are_matched ["first", "second", "related"] f1 fd1)
    (Gare_matched : FnOk P w K mg base CX0 1 f1 fd1 ["first", "second", "related"] spMatched) : FnOk P w K mg base CX0 2 f fd ["count", "rows"] spGreat := by
  refine D.F.ok sc_greatest_likeness (fun vs H Q E h => ?_) (fun cdv A outer s H vs Q E hr h => ?_)
  · obtain ⟨a, as, rs, n, L, c, rfl, _⟩ := h
    rfl
  · obtain ⟨a, as, rs, n, L, c, rfl, ha, hrw, hwf, hcn, hn, hL, q⟩ := h
    have hlr : rs.length = n := hwf.1
    have hla : as.length = n := by rw [hrw.1]; exact hwf.1
    refine ⟨_, (pss_cons (ps_setLc (i := 2) (own := [("row", 9)]) rfl sc_greatest_likeness.nd rfl rfl (sw_true rfl rfl rfl (by decide +kernel)) (pi_listK (K := K) rfl (pe_slice (sl_listK (K := K) rfl) (pv 1) po_none (po_some (pv 0)))) (blkOk_by (own := [("row", 9)]) (by kernel_rfl))
        (fun _ _ _ _ _ => (pg_name (i := 9) sc_greatest_likeness.nd rfl (.inl rfl))) (fun _ _ _ _ _ => pts_nil)
        (fun _ _ _ _ _ => (pe_lc (own := [("place", 13)]) rfl sc_greatest_likeness.nd (pi_listK (K := K) rfl (pv 9)) (blkOk_by (own := [("place", 13)]) (by kernel_rfl))
        (fun _ _ _ _ _ => (pg_name (i := 13) sc_greatest_likeness.nd rfl (.inl rfl))) (fun _ _ _ _ _ => (pts_one (pt_cmpR op_lt (pv 13) (pv 0) (nomark _))))
        (fun _ _ _ _ _ => (pv 13)))))
      (pss_cons (ps_set (i := 3) sc_greatest_likeness.nd rfl (.inr rfl) (pe_lc (own := [("row", 9)]) rfl sc_greatest_likeness.nd (pi_listK (K := K) rfl (pe_slice (sl_listK (K := K) rfl) (pv 1) po_none (po_some (pv 0)))) (blkOk_by (own := [("row", 9)]) (by kernel_rfl))
        (fun _ _ _ _ _ => (pg_name (i := 9) sc_greatest_likeness.nd rfl (.inl rfl))) (fun _ _ _ _ _ => pts_nil)
        (fun _ _ _ _ _ => (pe_lc (own := [("place", 13)]) rfl sc_greatest_likeness.nd (pi_listK (K := K) rfl (pv 9)) (blkOk_by (own := [("place", 13)]) (by kernel_rfl))
        (fun _ _ _ _ _ => (pg_name (i := 13) sc_greatest_likeness.nd rfl (.inl rfl))) (fun _ _ _ _ _ => (pts_one (pt_cmpR op_ge (pv 13) (pv 0) (nomark _))))
        (fun _ _ _ _ _ => (pv 13))))))
      (pss_cons (ps_set (i := 4) sc_greatest_likeness.nd rfl (.inr rfl) (pe_lc (own := [("one", 10)]) rfl sc_greatest_likeness.nd (pi_listK (K := K) rfl (pv 3)) (blkOk_by (own := [("one", 10)]) (by kernel_rfl))
        (fun _ _ _ _ _ => (pg_name (i := 10) sc_greatest_likeness.nd rfl (.inr rfl))) (fun _ _ _ _ _ => pts_nil)
        (fun _ _ _ _ _ => (pe_lc (own := [("other", 14)]) rfl sc_greatest_likeness.nd (pi_listK (K := K) rfl (pv 3)) (blkOk_by (own := [("other", 14)]) (by kernel_rfl))
        (fun _ _ _ _ _ => (pg_name (i := 14) sc_greatest_likeness.nd rfl (.inl rfl))) (fun _ _ _ _ _ => pts_nil)
        (fun _ _ _ _ _ => (pe_cmpR (op_eqDK (K := K) rfl hr.units) (pv 10) (pv 14) (nomark _)))))))
      (pss_cons (ps_setLc2 (i := 5) (own := [("g", 11), ("h", 12)]) (vs1 := [12]) rfl sc_greatest_likeness.nd rfl rfl (sw_true rfl rfl rfl (by decide +kernel)) (pi_range1 (by rfl) B.m_range (pa_cons (pv 0) pa_nil)) (blkOk_by (own := [("g", 11), ("h", 12)]) (by kernel_rfl)) (by decide)
        (fun _ _ _ _ _ => (pg_name (i := 11) sc_greatest_likeness.nd rfl (.inl rfl))) (fun _ _ _ _ _ => pts_nil)
        (fun _ _ _ _ _ => (pi_range1 (by rfl) B.m_range (pa_cons (pv 0) pa_nil))) (fun _ _ _ _ _ => (pg_name (i := 12) sc_greatest_likeness.nd rfl (.inl rfl))) (fun _ _ _ _ _ => (pts_one (pt_val (pe_ix (ix_listK (K := K) rfl) (pe_ix (ix_listK (K := K) rfl) (pv 4) (pv 11) (fun _ _ => rfl)) (pv 12) (fun _ _ => rfl)))))
        (fun _ _ _ _ _ => (pe_tup (pa_cons (pv 11) (pa_cons (pv 12) pa_nil)))))
      (pss_cons (ps_set (i := 6) sc_greatest_likeness.nd rfl (.inl rfl) pe_bl)
      (pss_cons (ps_while PassesOwn.never (pt_val (pv 6)) (pss_cons (ps_set (i := 6) sc_greatest_likeness.nd rfl (.inl rfl) pe_bl)
      (pss_one (ps_for PassesOwn.never rfl (pi_listK (K := K) rfl (pv 5)) (pg_tupK (K := K) (n := 2) rfl rfl (pgs_cons (pg_name (i := 7) sc_greatest_likeness.nd rfl (.inl rfl)) (pgs_cons (pg_name (i := 8) sc_greatest_likeness.nd rfl (.inl rfl)) pgs_nil))) (pss_one (ps_if (PW.pt (pw_and (pt_val (pe_ix (ix_listK (K := K) rfl) (pe_ix (ix_listK (K := K) rfl) (pv 4) (pv 7) (fun _ _ => rfl)) (pv 8) (fun _ _ => rfl))) (pw_and1 (pt_not (pt_val (pe_call Gare_matched (hr.mono (by decide)) (by rfl) Dare_matched.g Dare_matched.F.kp Dare_matched.b .nil pass0 (pa_cons (pe_ix (ix_listK (K := K) rfl) (pv 2) (pv 7) (fun _ _ => rfl)) (pa_cons (pe_ix (ix_listK (K := K) rfl) (pv 2) (pv 8) (fun _ _ => rfl)) (pa_cons (pv 4) pa_nil))))))))) (pss_cons (ps_asg pe_bl (pg_sub (pe_ix (ix_listK (K := K) rfl) (pv 4) (pv 7) (fun _ _ => rfl)) (pv 8) set_list))
      (pss_one (ps_set (i := 6) sc_greatest_likeness.nd rfl (.inl rfl) pe_bl))) pss_nil))))))
      (pss_one (ps_ret (pv 4))))))))), ?_⟩
    walk_at "begin"
    walk_at "go"
    have haH := ha
    have hrwH := hrw

    intro p np
    rw [cut_to _ (Int.natCast_nonneg c), Int.toNat_natCast]
    refine lcT_list topH (K := K) (s0 := ()) trivial (xs := (as.map V.ref).take c) upd_same (fun i C acc => ∃ gs : List Addr, acc = gs.map V.ref ∧ Ro V.int C gs (((rs.take c).take i).map (gp c))) ⟨[], rfl, Ro.nil⟩ ?_ ?_
    · rintro D1 i x _ C acc _ hD hS hx ⟨gs, rfl, hg⟩
      obtain ⟨hi, hx⟩ := take_at hx
      obtain ⟨b, r, rfl, hb1, hr1, hc1⟩ := (hrwH.mono ((same_new np).trans hS)).at hx
      have hg1 := hwf.2 r (List.mem_of_getElem? hr1)
      have hgl : gs.length = i := by rw [hg.1, List.length_map, List.length_take, List.length_take]; omega
      walk_at "begin"
      walk_at "go"
      refine ⟨rfl, ?_⟩
      walk_at "go"
      refine lcT_list topH (K := K) (s0 := ()) trivial (xs := r.map V.int) (upd_old hD hc1) (fun j C acc => acc = ((r.take j).filter fun e => decide (e < (c : Int))).map V.int) rfl ?_ ?_
      · rintro D2 j x _ C2 acc _ hD2 hS2 hy rfl
        obtain ⟨e, rfl, he⟩ := ints_at hy
        have hj := (List.getElem?_eq_some_iff.mp he).1
        have hl2 : ((r.take j).filter fun e => decide (e < (c : Int))).length ≤ 1000 := Nat.le_trans (List.length_filter_le _ _) (by rw [List.length_take]; have := hg1.1; omega)
        walk_at "begin"
        walk_at "go"
        refine ⟨rfl, ?_⟩
        walk_at "go"
        refine r_ite (fun hlt => ?_) (fun hlt => ?_)
        · walk_at "go"
          refine lcN_put topH (s := ()) trivial hD2 hS2 ?_ ?_
          · rw [List.length_map]; omega
          · rw [fl_put he (decide_eq_true hlt), List.map_append]; rfl
        · refine lcN_skip (s := ()) trivial hD2 hS2 ?_
          rw [fl_skip he (decide_eq_false hlt)]
      · rintro D2 _ C2 acc _ hB2 hD2 hS2 rfl
        rw [List.length_map, List.take_length]
        obtain ⟨C3, e, q1, q2, q3, q4, q5⟩ := under (y := .lst ((r.filter fun e => decide (e < (c : Int))).map V.int)) hD hB2 hS2
        try dsimp only
        rw [e]
        refine lcN_put topH (s := ()) trivial q1 (hS.trans q2) ?_ ⟨gs ++ [D2], refs_push _ _, ?_⟩
        · rw [List.length_map]; omega
        · rw [mp_put (show (rs.take c)[i]? = some r by rw [List.getElem?_take_of_lt hi]; exact hr1)]
          exact (hg.mono q2).push q3
    · rintro D1 _ C acc _ hB1 hD1 hS1 ⟨gs, rfl, hgs0⟩
      have hSG1 : Same H (upd C D1 (.lst (gs.map V.ref))) := ((same_new np).trans hS1).trans (same_new hD1)
      rw [List.length_take, List.length_map, List.take_of_length_le (i := min _ _) (by rw [List.length_take]; omega)] at hgs0
      have hgs := hgs0.mono (same_new (o := .lst (gs.map V.ref)) hD1)
      have hdgs : upd C D1 (.lst (gs.map V.ref)) D1 = some (.lst (gs.map V.ref)) := upd_same
      dsimp only at *
      generalize upd C D1 (.lst (gs.map V.ref)) = G1 at hSG1 hgs hdgs ⊢
      clear hS1 hD1 hB1 hgs0 C
      have haG1 := hSG1 _ _ haH
      have hrwG1 := hrwH.mono hSG1
      walk_at "go"


      intro p np2
      rw [cut_to _ (Int.natCast_nonneg c), Int.toNat_natCast]
      refine lcT_list topH (K := K) (s0 := ()) trivial (xs := (as.map V.ref).take c) upd_same (fun i C acc => ∃ gs : List Addr, acc = gs.map V.ref ∧ Ro V.int C gs (((rs.take c).take i).map (br c))) ⟨[], rfl, Ro.nil⟩ ?_ ?_
      · rintro D1 i x _ C acc _ hD hS hx ⟨gs, rfl, hg⟩
        obtain ⟨hi, hx⟩ := take_at hx
        obtain ⟨b, r, rfl, hb1, hr1, hc1⟩ := (hrwG1.mono ((same_new np2).trans hS)).at hx
        have hg1 := hwf.2 r (List.mem_of_getElem? hr1)
        have hgl : gs.length = i := by rw [hg.1, List.length_map, List.length_take, List.length_take]; omega
        walk_at "begin"
        walk_at "go"
        refine ⟨rfl, ?_⟩
        walk_at "go"
        refine lcT_list topH (K := K) (s0 := ()) trivial (xs := r.map V.int) (upd_old hD hc1) (fun j C acc => acc = ((r.take j).filter fun e => decide (e ≥ (c : Int))).map V.int) rfl ?_ ?_
        · rintro D2 j x _ C2 acc _ hD2 hS2 hy rfl
          obtain ⟨e, rfl, he⟩ := ints_at hy
          have hj := (List.getElem?_eq_some_iff.mp he).1
          have hl2 : ((r.take j).filter fun e => decide (e ≥ (c : Int))).length ≤ 1000 := Nat.le_trans (List.length_filter_le _ _) (by rw [List.length_take]; have := hg1.1; omega)
          walk_at "begin"
          walk_at "go"
          refine ⟨rfl, ?_⟩
          walk_at "go"
          refine r_ite (fun hlt => ?_) (fun hlt => ?_)
          · walk_at "go"
            refine lcN_put topH (s := ()) trivial hD2 hS2 ?_ ?_
            · rw [List.length_map]; omega
            · rw [fl_put he (decide_eq_true hlt), List.map_append]; rfl
          · refine lcN_skip (s := ()) trivial hD2 hS2 ?_
            rw [fl_skip he (decide_eq_false hlt)]
        · rintro D2 _ C2 acc _ hB2 hD2 hS2 rfl
          rw [List.length_map, List.take_length]
          obtain ⟨C3, e, q1, q2, q3, q4, q5⟩ := under (y := .lst ((r.filter fun e => decide (e ≥ (c : Int))).map V.int)) hD hB2 hS2
          try dsimp only
          rw [e]
          refine lcN_put topH (s := ()) trivial q1 (hS.trans q2) ?_ ⟨gs ++ [D2], refs_push _ _, ?_⟩
          · rw [List.length_map]; omega
          · rw [mp_put (show (rs.take c)[i]? = some r by rw [List.getElem?_take_of_lt hi]; exact hr1)]
            exact (hg.mono q2).push q3
      · rintro D2 _ C acc _ hB1 hD1 hS1 ⟨bs, rfl, hbs0⟩
        have hSG2 : Same G1 (upd C D2 (.lst (bs.map V.ref))) := ((same_new np2).trans hS1).trans (same_new hD1)
        rw [List.length_take, List.length_map, List.take_of_length_le (i := min _ _) (by rw [List.length_take]; omega)] at hbs0
        have hbs := hbs0.mono (same_new (o := .lst (bs.map V.ref)) hD1)
        have hdbs : upd C D2 (.lst (bs.map V.ref)) D2 = some (.lst (bs.map V.ref)) := upd_same
        dsimp only at *
        generalize upd C D2 (.lst (bs.map V.ref)) = G2 at hSG2 hbs hdbs ⊢
        clear hS1 hD1 hB1 hbs0 C
        have haG2 := hSG2 _ _ haG1
        have hrwG2 := hrwG1.mono hSG2
        walk_at "go"


        have hSH2 : Same H G2 := hSG1.trans hSG2
        have hgs2 := hgs.mono hSG2
        have hdgs2 := hSG2 _ _ hdgs
        have hbl : bs.length = c := by rw [hbs.1, List.length_map, List.length_take]; omega
        generalize hBR : (rs.take c).map (br c) = BR at hbs
        have hBl : BR.length = c := by rw [← hbs.1]; exact hbl
        have hBs : ∀ x ∈ BR, x.length ≤ 1000 := fun x hx => by
          rw [← hBR] at hx
          obtain ⟨r, hr, rfl⟩ := List.mem_map.mp hx
          exact Nat.le_trans (List.length_filter_le _ _) (by have := (hwf.2 r (List.mem_of_mem_take hr)).1; omega)
        -- the table
        refine lcT_list topH (K := K) (s0 := ()) trivial (xs := bs.map V.ref) hdbs (fun i C acc => ∃ ms : List Addr, acc = ms.map V.ref ∧ Ro V.bl C ms ((BR.take i).map fun x => BR.map fun y => decide (x = y)) ∧ ms.Nodup ∧ ∀ b ∈ ms, G2 b = none) ⟨[], rfl, Ro.nil, List.nodup_nil, fun b hb => nomatch hb⟩ ?_ ?_
        · rintro D3 i x _ C acc _ hD hS hx ⟨ms, rfl, hm, hnd, hfr⟩
          obtain ⟨b, r, rfl, hb1, hr1, hc1⟩ := (hbs.mono hS).at hx
          have hi := (List.getElem?_eq_some_iff.mp hr1).1
          have hml : ms.length = i := by rw [hm.1, List.length_map, List.length_take]; omega
          walk_at "begin"
          walk_at "go"
          refine ⟨rfl, ?_⟩
          walk_at "go"
          refine lcT_list topH (K := K) (s0 := ()) trivial (xs := bs.map V.ref) (upd_old hD (hS _ _ hdbs)) (fun j C acc => acc = ((BR.take j).map fun y => decide (r = y)).map V.bl) rfl ?_ ?_
          · rintro D4 j x _ C2 acc _ hD2 hS2 hy rfl
            have hSs : Same C C2 := fun x y e => hS2 _ _ (upd_old hD e)
            obtain ⟨b2, r2, rfl, hb2, hr2, hc2⟩ := (hbs.mono (hS.trans hSs)).at hy
            have hj := (List.getElem?_eq_some_iff.mp hr2).1
            have hc1' := hSs _ _ hc1
            walk_at "begin"
            walk_at "go"
            refine ⟨rfl, ?_⟩
            walk_at "go"
            refine r_eqI (upd_old hD2 hc1') (upd_old hD2 hc2) ?_
            refine lcN_put topH (s := ()) trivial hD2 hS2 ?_ ?_
            · rw [List.length_map, List.length_map, List.length_take]; omega
            · rw [mp_put hr2, List.map_append]; rfl
          · rintro D4 _ C2 acc _ hB2 hD2 hS2 rfl
            rw [List.length_map, hbl, ← hBl, List.take_length]
            obtain ⟨C3, e, q1, q2, q3, q4, q5⟩ := under (y := .lst ((BR.map fun y => decide (r = y)).map V.bl)) hD hB2 hS2
            try dsimp only
            rw [e]
            refine lcN_put topH (s := ()) trivial q1 (hS.trans q2) ?_ ⟨ms ++ [D4], refs_push _ _, ?_, nodup_push hnd fun hm2 => ?_, fun b hb => ?_⟩
            · rw [List.length_map]; omega
            · rw [mp_put hr1]
              exact (hm.mono q2).push q3
            · obtain ⟨j, hj⟩ := List.mem_iff_getElem?.mp hm2
              obtain ⟨r, _, hr⟩ := hm.2 j D4 hj
              rw [q4] at hr; cases hr
            · rcases List.mem_append.mp hb with z | z
              · exact hfr b z
              · rw [List.mem_singleton.mp z]; exact hS.free q4
        · rintro D3 _ C acc _ hB1 hD1 hS1 ⟨ms, rfl, hm0, hnd, hfr⟩
          have hneD3 : ∀ b ∈ ms, b ≠ D3 := fun b hb => by
            obtain ⟨j, hj⟩ := List.mem_iff_getElem?.mp hb
            obtain ⟨r, _, hr⟩ := hm0.2 j b hj
            exact ne_of_none hr hD1
          have hSG3 : Same G2 (upd C D3 (.lst (ms.map V.ref))) := hS1.trans (same_new hD1)
          rw [List.length_map, hbl, ← hBl, List.take_length] at hm0
          have hm := hm0.mono (same_new (o := .lst (ms.map V.ref)) hD1)
          have hd3 : upd C D3 (.lst (ms.map V.ref)) D3 = some (.lst (ms.map V.ref)) := upd_same
          dsimp only at *
          generalize upd C D3 (.lst (ms.map V.ref)) = G3 at hSG3 hm hd3 ⊢
          clear hS1 hD1 hB1 hm0 C
          have GL := Gl.init hlr hcn hBR.symm
          generalize (BR.map fun x => BR.map fun y => decide (x = y)) = M0 at hm GL
          have hml : ms.length = c := by rw [hm.1]; exact GL.len
          walk_at "go"
          -- the pairs
          refine lcT2_range topH (s0 := ()) trivial (n := c) ?_ ?_ (fun i C acc => ∃ (ts : List Addr) (qs : List (Int × Int)), acc = ts.map V.ref ∧ Tp C ts qs ∧ ts.length ≤ i * c ∧ (∀ q ∈ qs, 0 ≤ q.1 ∧ q.1 < (c : Int) ∧ 0 ≤ q.2 ∧ q.2 < (c : Int)) ∧
            (∀ g h : Nat, g < i → h < c → tr M0 g h → ((g : Int), (h : Int)) ∈ qs) ∧ ∀ t ∈ ts, G3 t = none) ?_ ?_ ?_
          · omega
          · omega
          · exact ⟨[], [], rfl, Tp.nil, Nat.zero_le _, (fun q hq => nomatch hq), (fun g h hg => absurd hg (Nat.not_lt_zero _)), fun t ht => nomatch ht⟩
          · rintro D4 i _ C acc _ hD hS hi ⟨ts, qs, rfl, ht, htl, hq0, hqm, htf⟩
            rw [Int.toNat_natCast] at hi
            walk_at "begin"
            walk_at "go"
            refine ⟨rfl, ?_⟩
            walk_at "go"
            refine ⟨c, rfl, by omega, by omega, ?_⟩
            rw [Int.toNat_natCast]
            refine lin_range (F := fun (_ : Unit) (C : Hp) => C) (ok := fun _ _ => True) (s0 := ()) (fun j C acc => ∃ (ts : List Addr) (qs : List (Int × Int)), acc = ts.map V.ref ∧ Tp C ts qs ∧ ts.length ≤ i * c + j ∧ (∀ q ∈ qs, 0 ≤ q.1 ∧ q.1 < (c : Int) ∧ 0 ≤ q.2 ∧ q.2 < (c : Int)) ∧
              (∀ g h : Nat, (g < i ∧ h < c) ∨ (g = i ∧ h < j) → tr M0 g h → ((g : Int), (h : Int)) ∈ qs) ∧ ∀ t ∈ ts, G3 t = none) trivial hD hS ?_ ?_ ?_
            · exact ⟨ts, qs, rfl, ht, htl, hq0, (fun g h hg t => by rcases hg with ⟨a, b⟩ | ⟨_, b⟩; exact hqm g h a b t; exact absurd b (Nat.not_lt_zero _)), htf⟩
            · rintro j _ C acc _ hD hS hj ⟨ts, qs, rfl, ht, htl, hq0, hqm, htf⟩
              rw [Int.zero_add]
              obtain ⟨b, r, k1, k2, k3, k4, k5⟩ := bt_at (e := (i : Int)) (k := (j : Int)) (hm.mono hS) GL.len GL.row (by omega) (by omega) (by omega) (by omega)
              have hd3' := hS _ _ hd3
              have hil : i * c ≤ 200 * 200 := Nat.mul_le_mul (by omega) (by omega)
              walk_at "begin"
              walk_at "go"
              refine ⟨rfl, ?_⟩
              walk_at "go"
              rw [Int.toNat_natCast, Int.toNat_natCast]
              refine r_iteB (fun hb => ?_) (fun hb => ?_)
              · walk_at "go"
                refine ⟨by walk_at "len", fun p np => ?_⟩
                obtain ⟨e, _, hD5, n5, ne5⟩ := newTD_eq topH (s := ()) trivial hD np (.tup [.int (i : Nat), .int (j : Nat)])
                try dsimp only at e
                rw [e]
                refine lcN_put topH (s := ()) trivial hD5 (hS.trans (same_new n5)) ?_ ⟨ts ++ [p], qs ++ [((i : Int), (j : Int))], refs_push _ _, (ht.mono (same_new n5)).push upd_same, ?_, fun q hq => ?_, fun g h hg t => ?_, fun t ht => ?_⟩
                · rw [List.length_map]; omega
                · rw [List.length_append, List.length_singleton]; omega
                · rcases List.mem_append.mp hq with z | z
                  · exact hq0 q z
                  · rw [List.mem_singleton.mp z]; exact ⟨by show (0 : Int) ≤ i; omega, by show (i : Int) < c; omega, by show (0 : Int) ≤ j; omega, by show (j : Int) < c; omega⟩
                · rcases hg with hg | ⟨rfl, hg⟩
                  · exact List.mem_append_left _ (hqm g h (.inl hg) t)
                  · by_cases e : h = j
                    · subst e; exact List.mem_append_right _ (List.mem_singleton.mpr rfl)
                    · exact List.mem_append_left _ (hqm _ h (.inr ⟨rfl, by omega⟩) t)
                · rcases List.mem_append.mp ht with z | z
                  · exact htf t z
                  · rw [List.mem_singleton.mp z]; exact hS.free n5
              · refine lcN_skip (s := ()) trivial hD hS ⟨ts, qs, rfl, ht, by omega, hq0, fun g h hg t => ?_, htf⟩
                rcases hg with hg | ⟨rfl, hg⟩
                · exact hqm g h (.inl hg) t
                · by_cases e : h = j
                  · subst e; rw [tr_bt.mp t] at hb; cases hb
                  · exact hqm _ h (.inr ⟨rfl, by omega⟩) t
            · rintro C acc ⟨ts, qs, rfl, ht, htl, hq0, hqm, htf⟩
              exact ⟨ts, qs, rfl, ht, by rw [Nat.add_mul]; omega, hq0, (fun g h hg hh t => hqm g h (by omega) t), htf⟩
          · rintro D4 _ C acc _ hB4 hD4 hS4 ⟨ts, qs, rfl, ht0, htl, hq0, hqm, htf⟩
            rw [Int.toNat_natCast] at hqm
            have hmne : ∀ b ∈ ms, b ≠ D4 ∧ ∀ t ∈ ts, t ≠ b := fun b hb => by
              obtain ⟨j, hj⟩ := List.mem_iff_getElem?.mp hb
              obtain ⟨r, _, hr⟩ := hm.2 j b hj
              exact ⟨ne_of_none hr hB4, fun t ht => (ne_of_none hr (htf t ht)).symm⟩
            have hSG4 : Same G3 (upd C D4 (.lst (ts.map V.ref))) := hS4.trans (same_new hD4)
            have ht := ht0.mono (same_new (o := .lst (ts.map V.ref)) hD4)
            have hd4 : upd C D4 (.lst (ts.map V.ref)) D4 = some (.lst (ts.map V.ref)) := upd_same
            dsimp only at *
            generalize upd C D4 (.lst (ts.map V.ref)) = G4 at hSG4 ht hd4 ⊢
            clear ht0 hS4 hD4 hB4 C
            have hmG := hm.mono hSG4
            have hS24 : Same G2 G4 := hSG3.trans hSG4
            walk_at "go"
            refine r_while (WI c a D1 D2 D3 D4 ms ts qs G2 rs M0) ⟨_, M0, true, none, none, rfl, hS24, hSG4 _ _ hd3, hmG, hd4, ht, GL, (fun _ _ t => t), rfl, fun z => nomatch z⟩ ?_
            rintro m σ H' ⟨M, fl, y7, y8, rfl, s1, s2, s3, s4, s5, G, sub, rfl, fin⟩
            walk_at "go"
            refine r_iteB (fun hb => ?_) (fun hb => ?_)
            · subst hb
              refine ⟨fun σ' H' => ∃ m', m' < trues M + (if true = true then 1 else 0) ∧ WI c a D1 D2 D3 D4 ms ts qs G2 rs M0 m' σ' H', fun σ' H' h => h, ?_⟩
              walk_at "go"
              refine r_forL (xs := ts.map V.ref) s4 (fun i σ H' => ∃ (M' : List (List Bool)) (fl : Bool) (y7 y8 : Option V), σ = [some (.int c), some (.ref a), some (.ref D1), some (.ref D2), some (.ref D3), some (.ref D4), some (.bl fl), y7, y8, none, none, none, none, none, none] ∧ Same G2 H' ∧ H' D3 = some (.lst (ms.map V.ref)) ∧
                Ro V.bl H' ms M' ∧ H' D4 = some (.lst (ts.map V.ref)) ∧ Tp H' ts qs ∧ Gl c rs M' ∧ (∀ g h, tr M' g h → tr M0 g h) ∧ trues M' ≤ trues M ∧ (fl = true → trues M' < trues M) ∧
                (fl = false → ∀ q ∈ qs.take i, tr M' q.1.toNat q.2.toNat → ∀ x y, rs[q.1.toNat]? = some x → rs[q.2.toNat]? = some y → Mt (tr M') (gp c x) (gp c y))) ?_ ?_ ?_ ?_
              · exact ⟨M, false, _, _, rfl, s1, s2, s3, s4, s5, G, sub, Nat.le_refl _, (fun z => nomatch z), fun _ q hq => nomatch hq⟩
              · rintro i σ H' _ ⟨M', fl, y7, y8, rfl, u1, u2, u3, u4, u5, G', sub', le', lt', fin'⟩
                exact u4
              · rintro i x σ H' hx ⟨M', fl, y7, y8, rfl, u1, u2, u3, u4, u5, G', sub', le', lt', fin'⟩
                obtain ⟨t, qq, rfl, ht1, hq1, hT⟩ := u5.at hx
                obtain ⟨g0, g1, k0, k1⟩ := hq0 qq (List.mem_of_getElem? hq1)
                obtain ⟨b, r, e1, e2, e3, e4, e5⟩ := bt_at u3 G'.len G'.row g0 g1 k0 k1
                obtain ⟨rx, hrx⟩ : ∃ r, rs[qq.1.toNat]? = some r := ⟨_, List.getElem?_eq_getElem (by omega)⟩
                obtain ⟨ry, hry⟩ : ∃ r, rs[qq.2.toNat]? = some r := ⟨_, List.getElem?_eq_getElem (by omega)⟩
                have gx : ∀ (z : Int) rz, 0 ≤ z → z < (c : Int) → rs[z.toNat]? = some rz → ((rs.take c).map (gp c))[z.toNat]? = some (gp c rz) := fun z rz h0 h1 h2 => by
                  rw [List.getElem?_map, List.getElem?_take_of_lt (by omega), h2]; rfl
                obtain ⟨bx, _, bx2, bx3⟩ := (hgs2.mono u1).get (gx _ _ g0 g1 hrx)
                obtain ⟨bY, _, by2, by3⟩ := (hgs2.mono u1).get (gx _ _ k0 k1 hry)
                have axt : atI (gs.map V.ref) qq.1 = some (.ref bx) := at_i g0 bx2
                have ayt : atI (gs.map V.ref) qq.2 = some (.ref bY) := at_i k0 by2
                have hgH := u1 _ _ hdgs2
                have rng : ∀ (r : List Int), r ∈ rs → (∀ e ∈ gp c r, 0 ≤ e ∧ e < (c : Int)) ∧ (gp c r).length ≤ 1000 := fun r hr => ⟨fun e he => ⟨((hwf.2 r hr).2.2 e (gp_mem.mp he).1).1, (gp_mem.mp he).2⟩, Nat.le_trans (List.length_filter_le _ _) (by have := (hwf.2 r hr).1; omega)⟩
                obtain ⟨rx1, rx2⟩ := rng rx (List.mem_of_getElem? hrx)
                obtain ⟨ry1, ry2⟩ := rng ry (List.mem_of_getElem? hry)
                refine r_tup (SqT.of hT) rfl ?_
                walk_at "go"
                refine r_iteB (fun hb => ?_) (fun hb => ?_)
                · walk_at "go"
                  refine ⟨bx, bY, D3, gp c rx, gp c ry, ms, M', c, rfl, bx3, by3, u2, u3, G'.len, G'.row, rx1, ry1, rx2, ry2, fun H9 bb hS9 hbb => ?_⟩
                  walk_at "go"
                  have v2 := hS9 _ _ u2
                  have v4 := hS9 _ _ u4
                  have ve2 := hS9 _ _ e2
                  refine r_iteB (fun hn => ?_) (fun hn => ?_)
                  · have hbb' : bb = false := by revert hn; cases bb <;> decide
                    have hix : ixN (r.map V.bl).length qq.2 = some qq.2.toNat := ix_i k0 (by rw [List.length_map, G'.row r (List.mem_of_getElem? e4)]; exact k1)
                    have hbm := List.mem_of_getElem? e5
                    obtain ⟨nb1, nb2⟩ := hmne b hbm
                    have nb3 := hneD3 b hbm
                    have nb4 := hfr b hbm
                    walk_at "go"
                    rw [← List.map_set]
                    have hbt : r[qq.2.toNat]? = some true := by
                      have := tr_bt.mpr hb
                      obtain ⟨r', w1, w2⟩ := this
                      rw [e4] at w1; cases w1; exact w2
                    have lt2 := trues_fall e4 hbt
                    refine ⟨M'.set qq.1.toNat (r.set qq.2.toNat false), true, _, _, rfl, fun x y e => by rw [upd_ne (ne_of_none e nb4)]; exact hS9 _ _ (u1 _ _ e), by rw [upd_ne nb3.symm]; exact v2, (u3.mono hS9).write hnd e5 _, by rw [upd_ne nb1.symm]; exact v4, (u5.mono hS9).keep (fun t ht => upd_ne (nb2 t ht)), G'.fall e4 hrx hry (fun z => by rw [hbb.mpr z] at hbb'; cases hbb'), fun g h z => sub' g h ((tr_set e4).mp z).1, by omega, fun _ => by omega, fun z => nomatch z⟩
                  · have hbb' : bb = true := by revert hn; cases bb <;> decide
                    walk_at "go"
                    refine ⟨M', fl, _, _, rfl, u1.trans hS9, v2, u3.mono hS9, v4, u5.mono hS9, G', sub', le', lt', fun z q hq t x y hx hy => ?_⟩
                    rw [tk_succ hq1] at hq
                    rcases List.mem_append.mp hq with w | w
                    · exact fin' z q w t x y hx hy
                    · rw [List.mem_singleton.mp w] at hx hy
                      rw [hrx] at hx; cases hx
                      rw [hry] at hy; cases hy
                      exact hbb.mp hbb'
                · walk_at "go"
                  refine ⟨M', fl, _, _, rfl, u1, u2, u3, u4, u5, G', sub', le', lt', fun z q hq t x y hx hy => ?_⟩
                  rw [tk_succ hq1] at hq
                  rcases List.mem_append.mp hq with w | w
                  · exact fin' z q w t x y hx hy
                  · rw [List.mem_singleton.mp w] at t
                    rw [tr_bt.mp t] at hb; cases hb
              · rintro σ H' ⟨M', fl, y7, y8, rfl, u1, u2, u3, u4, u5, G', sub', le', lt', fin'⟩
                walk_at "go"
                refine ⟨trues M' + (if fl = true then 1 else 0), ?_, M', fl, y7, y8, rfl, u1, u2, u3, u4, u5, G', sub', rfl, fun z g k x y t hx hy => ?_⟩
                · cases fl
                  · show trues M' + 0 < trues M + 1; omega
                  · have := lt' rfl; show trues M' + 1 < trues M + 1; omega
                · obtain ⟨_, _, c1, c2, _⟩ := G'.bare g k t
                  have hm := hqm g k c1 c2 (sub' g k t)
                  rw [List.length_map, ht.1, List.take_length] at fin'
                  exact fin' z _ hm t x y hx hy
            · walk_at "go"
              exact q _ _ ms M (hSH2.trans s1) s2 s3 G.len G.row (G.final (fin hb))
end
end K40
namespace K40
open PySem PySem.Spec PyProof.Rows L2 Lw


local macro_rules | `(tactic| walk_at "look") => `(tactic| first
  | assumption
  | with_reducible exact upd_same
  | with_reducible exact rg_st
  | with_reducible exact rg_g (by assumption)
  | (with_reducible refine upd_old (by assumption) ?_; walk_at "look")
  | (with_reducible refine rg_get (by assumption) ?_; walk_at "look")
  | (with_reducible refine Same.get (by assumption) ?_; walk_at "look"))
local macro_rules | `(tactic| walk_at "cond") => `(tactic| first
  | (show _ ≠ _; omega) | exact cdivN (by omega) (by omega) | exact cmul_mod (by decide) (by decide) | exact cmulR (by omega) (by omega) | exact cmulL (by omega) (by omega) | exact cpow (by omega) (by omega) (by omega) (by omega) | (show (0:Int) ≤ _; omega))
local macro_rules | `(tactic| walk_at "at") => `(tactic| first | assumption | with_unfolding_all rfl)
local macro_rules | `(tactic| walk_at "sz") => `(tactic| first | assumption | (refine small ?_; omega) | (refine small ?_; simp only [List.length_map, List.length_append, List.length_cons, List.length_nil]; omega))
local macro_rules | `(tactic| walk_at "len") => `(tactic| first | exact size_nil | exact Nat.le_of_lt (small (by simp only [List.length_cons, List.length_nil, List.length_map]; omega)))
local macro_rules | `(tactic| walk_at "newD") => `(tactic| (refine ⟨by walk_at "len", fun p np => ?_⟩; obtain ⟨e, o', hD', n', ne'⟩ := newTD_eq (topRg _ _) (by assumption) (by assumption) np (.lst _); rw [e]; clear e))
local macro_rules | `(tactic| walk_at "new") => `(tactic| (refine ⟨by walk_at "len", fun p np => ?_⟩; obtain ⟨e, o', n'⟩ := newT_eq (topRg _ _) (by assumption) np (.lst _); rw [e]; clear e))
local macro_rules | `(tactic| walk_at "st") => `(tactic| first
  | with_reducible refine r_seq ?_
  | with_reducible refine r_var rfl ?_
  | with_reducible refine r_c ?_
  | with_reducible refine r_asg ?_
  | (with_reducible refine r_name ?_; dsimp only [List.set_cons_zero, List.set_cons_succ])
  | with_reducible refine r_sub ?_
  | with_reducible refine r_op ?_
  | with_reducible refine r_i0 ?_
  | (with_reducible refine' r_i ?k1 ?_; (case k1 => walk_at "cond"))
  | with_reducible refine r_cons ?_
  | with_reducible refine r_nil ?_
  | with_reducible refine r_cb ?_
  | with_reducible refine r_call ?_
  | with_reducible refine r_ifs ?_
  | with_reducible refine r_test ?_
  | with_reducible refine r_tB ?_
  | with_reducible refine r_bl ?_
  | with_reducible refine r_ret ?_
  | with_reducible refine r_drop ?_
  | with_reducible refine r_next ?_
  | (with_reducible refine' r_ixL ?k1 ?k2 ?_; (case k1 => walk_at "look"); (case k2 => walk_at "at"))
  | (with_reducible refine' r_setL ?k1 ?k2 ?_; (case k1 => walk_at "look"); (case k2 => walk_at "at"))
  | (with_reducible refine' r_tup (SqT.of ?k1) ?k2 ?_; (case k1 => walk_at "look"); (case k2 => rfl))
  | with_reducible refine r_gcons ?_
  | with_reducible refine r_gnil ?_
  | with_reducible refine r_aug rfl ?_
  | with_reducible refine r_augS ?_
  | with_reducible refine r_ipI ?_
  | with_reducible refine r_un ?_
  | with_reducible refine r_u ?_
  | with_reducible refine r_eq rfl ?_
  | with_reducible refine r_ne rfl ?_
  | with_reducible refine r_chain ?_
  | with_reducible refine iteF ?_
  | with_reducible refine r_not ?_
  | with_reducible refine r_and ?_
  | with_reducible refine r_or ?_
  | with_reducible refine r_andV ?_
  | with_reducible refine r_orV ?_
  | with_reducible refine r_notV ?_
  | with_reducible refine r_lst ?_
  | with_reducible refine r_bm ?_
  | with_reducible refine r_bm0 ?_
  | (with_reducible refine' And.intro (r_ty ?k1) ?_; (case k1 => walk_at "look"))
  | (with_reducible refine' r_append ?k1 ?k2 ?_; (case k1 => walk_at "look"); (case k2 => walk_at "sz"))
  | (with_reducible refine' r_lenK ?k1 ?_; (case k1 => walk_at "look"))
  | (with_reducible refine' r_listOf ?k1 ?_; (case k1 => walk_at "look"))
  | (with_reducible refine' r_sortedI ?k1 ?_; (case k1 => walk_at "look"))
  | (with_reducible refine' r_sum ?k1 ?_; (case k1 => walk_at "look"))
  | with_reducible refine r_int ?_
  | (with_reducible refine' r_draw (by assumption) ?k1 ?k2 ?_; (case k1 => omega); (case k2 => omega); intro R' n' o' h' h'')
  | with_reducible refine iteT ?_
  | with_reducible refine r_revL ?_
  | with_reducible refine r_lc ?_
  | with_reducible refine r_yes ?_
  | with_reducible refine r_sl ?_
  | with_reducible refine r_noPart ?_
  | with_reducible refine r_part ?_
  | with_reducible refine r_lc2 ?_
  | with_reducible refine r_callN ?_
  | with_reducible refine r_tupE ?_
  | with_reducible refine r_rng2 ?_
  | with_reducible refine r_i1 ?_
  | (with_reducible refine' r_slL ?k1 ?_; (case k1 => walk_at "look"))
  | with_reducible refine r_for ?_
  | with_reducible refine r_iList ?_
  | with_reducible refine r_rng1 ?_
  | with_reducible refine r_enum ?_
  | (with_reducible show Ends.nx _ _ _; dsimp only)
  | (with_reducible show Ends.rt _ _ _; dsimp only)
  | (with_reducible show Ends.ct _ _ _; dsimp only)
  | (with_reducible show Ends.bk _ _ _; dsimp only))
local macro_rules | `(tactic| walk_at "go") => `(tactic| repeat (walk_at "st"))
local macro_rules | `(tactic| walk_at "begin") => `(tactic| dsimp only [cxOf, wipe, L2.start, List.map, List.length_cons, List.length_nil, Nat.reduceAdd, Nat.reduceSub, List.replicate, List.cons_append, List.nil_append])


open Lm
def Alk (c : Nat) (rs : List (List Int)) (b : Bool) : Prop := ∃ g h, g < h ∧ h < c ∧ (if b = true then Bs c rs g h else rs[g]? = rs[h]?)
def spPairs : Sp := fun vs H Q _ => ∃ (a : Addr) (as : List Addr) (rs : List (List Int)) (n L c : Nat) (b : Bool), vs = [.int (c : Int), .ref a, .bl b] ∧ H a = some (.lst (as.map V.ref)) ∧ Rw H as rs ∧ Wf n L rs ∧ c ≤ n ∧ n ≤ 200 ∧ L ≤ 700 ∧
  ∀ (H' : Hp) (q : Addr) (ts : List Addr) (qs : List (Int × Int)), Same H H' → H' q = some (.lst (ts.map V.ref)) → Tp H' ts qs → (ts = [] ↔ ¬ Alk c rs b) → Q (.ref q) H'
section
variable {P : Program} {w : World} {K : PySem.W.Frag} {mg : Str → Option Value} {base : Heap}
theorem ok_pairs {f f1 : Addr} {fd fd1 : FuncData} (B : Blt mg) (D : DnK K mg "pairs_alike" s_pairs_alike ["count", "rows", "rings"] 2 ["rings"] f fd) (Dgreatest_likeness : Dn K mg "greatest_likeness" s_greatest_likeness ["count", "rows"] f1 fd1)
    (Ggreatest_likeness : FnOk P w K mg base CX0 2 f1 fd1 ["count", "rows"] spGreat) : FnOk P w K mg base CX0 3 f fd ["count", "rows", "rings"] spPairs := by
  refine D.F.ok sc_pairs_alike (fun vs H Q E h => ?_) (fun cdv A outer s H vs Q E hr h => ?_)
  · obtain ⟨a, as, rs, n, L, c, b, rfl, _⟩ := h
    rfl
  · obtain ⟨a, as, rs, n, L, c, b, rfl, ha, hrw, hwf, hcn, hn, hL, q⟩ := h
    have hlr : rs.length = n := hwf.1
    have hla : as.length = n := by rw [hrw.1]; exact hwf.1
    refine ⟨_, (pss_cons (ps_setLc2 (i := 3) (own := [("g", 5), ("h", 6)]) (vs1 := [6]) rfl sc_pairs_alike.nd rfl rfl (sw_true rfl rfl rfl (by decide +kernel)) (pi_range1 (by rfl) B.m_range (pa_cons (pv 0) pa_nil)) (blkOk_by (own := [("g", 5), ("h", 6)]) (by kernel_rfl)) (by decide)
        (fun _ _ _ _ _ => (pg_name (i := 5) sc_pairs_alike.nd rfl (.inl rfl))) (fun _ _ _ _ _ => pts_nil)
        (fun _ _ _ _ _ => (pi_range2 (by rfl) B.m_range (pa_cons (pe_op op_add (pv 5) pe_int) (pa_cons (pv 0) pa_nil)))) (fun _ _ _ _ _ => (pg_name (i := 6) sc_pairs_alike.nd rfl (.inl rfl))) (fun _ _ _ _ _ => pts_nil)
        (fun _ _ _ _ _ => (pe_tup (pa_cons (pv 5) (pa_cons (pv 6) pa_nil)))))
      (pss_cons (ps_if (pt_val (pv 2)) (pss_cons (ps_set (i := 4) sc_pairs_alike.nd rfl (.inr rfl) (pe_call Ggreatest_likeness (hr.mono (by decide)) (by rfl) Dgreatest_likeness.g Dgreatest_likeness.F.kp Dgreatest_likeness.b .nil pass0 (pa_cons (pv 0) (pa_cons (pv 1) pa_nil))))
      (pss_one (ps_ret (pe_lc (own := [("g", 5), ("h", 6)]) rfl sc_pairs_alike.nd (pi_listK (K := K) rfl (pv 3)) (blkOk_by (own := [("g", 5), ("h", 6)]) (by kernel_rfl))
        (fun _ _ _ _ _ => (pg_tupK (K := K) (n := 2) rfl rfl (pgs_cons (pg_name (i := 5) sc_pairs_alike.nd rfl (.inl rfl)) (pgs_cons (pg_name (i := 6) sc_pairs_alike.nd rfl (.inl rfl)) pgs_nil)))) (fun _ _ _ _ _ => (pts_one (pt_val (pe_ix (ix_listK (K := K) rfl) (pe_ix (ix_listK (K := K) rfl) (pv 4) (pv 5) (fun _ _ => rfl)) (pv 6) (fun _ _ => rfl)))))
        (fun _ _ _ _ _ => (pe_tup (pa_cons (pv 5) (pa_cons (pv 6) pa_nil)))))))) pss_nil)
      (pss_one (ps_ret (pe_lc (own := [("g", 5), ("h", 6)]) rfl sc_pairs_alike.nd (pi_listK (K := K) rfl (pv 3)) (blkOk_by (own := [("g", 5), ("h", 6)]) (by kernel_rfl))
        (fun _ _ _ _ _ => (pg_tupK (K := K) (n := 2) rfl rfl (pgs_cons (pg_name (i := 5) sc_pairs_alike.nd rfl (.inl rfl)) (pgs_cons (pg_name (i := 6) sc_pairs_alike.nd rfl (.inl rfl)) pgs_nil)))) (fun _ _ _ _ _ => (pts_one (pt_cmpR (op_eqDK (K := K) rfl hr.units) (pe_ix (ix_listK (K := K) rfl) (pv 1) (pv 5) (fun _ _ => rfl)) (pe_ix (ix_listK (K := K) rfl) (pv 1) (pv 6) (fun _ _ => rfl)) (nomark _))))
        (fun _ _ _ _ _ => (pe_tup (pa_cons (pv 5) (pa_cons (pv 6) pa_nil))))))))), ?_⟩
    walk_at "begin"
    walk_at "go"
    refine lcT2_range topH (s0 := ()) trivial (n := c) ?_ ?_ (fun i C acc => ∃ (ts : List Addr) (qs : List (Int × Int)), acc = ts.map V.ref ∧ Tp C ts qs ∧ ts.length ≤ i * c ∧ (∀ q ∈ qs, 0 ≤ q.1 ∧ q.1 < q.2 ∧ q.2 < (c : Int)) ∧
      (∀ g h : Nat, g < i → g < h → h < c → ((g : Int), (h : Int)) ∈ qs)) ?_ ?_ ?_
    · omega
    · omega
    · exact ⟨[], [], rfl, Tp.nil, Nat.zero_le _, (fun q hq => nomatch hq), fun g h hg => absurd hg (Nat.not_lt_zero _)⟩
    · rintro D4 i _ C acc _ hD hS hi ⟨ts, qs, rfl, ht, htl, hq0, hqm⟩
      rw [Int.toNat_natCast] at hi
      walk_at "begin"
      walk_at "go"
      refine ⟨rfl, ?_⟩
      walk_at "go"
      refine r_isR2 (by omega) (by omega) (by omega) (by omega) ?_
      rw [show ((c : Int) - ((i : Int) + 1)).toNat = c - (i + 1) by omega]
      refine lin_range (F := fun (_ : Unit) (C : Hp) => C) (ok := fun _ _ => True) (s0 := ()) (fun j C acc => ∃ (ts : List Addr) (qs : List (Int × Int)), acc = ts.map V.ref ∧ Tp C ts qs ∧ ts.length ≤ i * c + j ∧ (∀ q ∈ qs, 0 ≤ q.1 ∧ q.1 < q.2 ∧ q.2 < (c : Int)) ∧
        (∀ g h : Nat, (g < i ∧ g < h ∧ h < c) ∨ (g = i ∧ g < h ∧ h < i + 1 + j) → ((g : Int), (h : Int)) ∈ qs)) trivial hD hS ?_ ?_ ?_
      · exact ⟨ts, qs, rfl, ht, htl, hq0, (fun g h hg => by rcases hg with ⟨a, b⟩ | ⟨a, b, d⟩; exact hqm g h a b.1 b.2; omega)⟩
      · rintro j _ C acc _ hD hS hj ⟨ts, qs, rfl, ht, htl, hq0, hqm⟩
        have hil : i * c ≤ 200 * 200 := Nat.mul_le_mul (by omega) (by omega)
        walk_at "begin"
        walk_at "go"
        refine ⟨rfl, ?_⟩
        walk_at "go"
        refine ⟨by walk_at "len", fun p np => ?_⟩
        obtain ⟨e, _, hD5, n5, ne5⟩ := newTD_eq topH (s := ()) trivial hD np (.tup [.int (i : Nat), .int ((i : Int) + 1 + (j : Nat))])
        try dsimp only at e
        rw [e]
        refine lcN_put topH (s := ()) trivial hD5 (hS.trans (same_new n5)) ?_ ⟨ts ++ [p], qs ++ [((i : Int), (i : Int) + 1 + (j : Nat))], refs_push _ _, (ht.mono (same_new n5)).push upd_same, ?_, fun q hq => ?_, fun g h hg => ?_⟩
        · rw [List.length_map]; omega
        · rw [List.length_append, List.length_singleton]; omega
        · rcases List.mem_append.mp hq with z | z
          · exact hq0 q z
          · rw [List.mem_singleton.mp z]; exact ⟨by show (0 : Int) ≤ i; omega, by show (i : Int) < (i : Int) + 1 + (j : Nat); omega, by show (i : Int) + 1 + (j : Nat) < c; omega⟩
        · rcases hg with hg | ⟨rfl, hg⟩
          · exact List.mem_append_left _ (hqm g h (.inl hg))
          · by_cases e : h = g + 1 + j
            · subst e; exact List.mem_append_right _ (List.mem_singleton.mpr (by rw [Int.natCast_add, Int.natCast_add]; rfl))
            · exact List.mem_append_left _ (hqm _ h (.inr ⟨rfl, by omega⟩))
      · rintro C acc ⟨ts, qs, rfl, ht, htl, hq0, hqm⟩
        exact ⟨ts, qs, rfl, ht, by rw [Nat.add_mul]; omega, hq0, (fun g h hg hg2 hh => hqm g h (by omega))⟩
    · rintro D4 _ C acc _ hB4 hD4 hS4 ⟨ts, qs, rfl, ht0, htl, hq0, hqm⟩
      rw [Int.toNat_natCast] at hqm htl
      have hil : c * c ≤ 200 * 200 := Nat.mul_le_mul (by omega) (by omega)
      have hSG : Same H (upd C D4 (.lst (ts.map V.ref))) := hS4.trans (same_new hD4)
      have ht := ht0.mono (same_new (o := .lst (ts.map V.ref)) hD4)
      have hd4 : upd C D4 (.lst (ts.map V.ref)) D4 = some (.lst (ts.map V.ref)) := upd_same
      dsimp only at *
      generalize upd C D4 (.lst (ts.map V.ref)) = G at hSG ht hd4 ⊢
      clear ht0 hS4 hD4 hB4 C
      have haG := hSG _ _ ha
      have hrwG := hrw.mono hSG
      walk_at "go"
      refine r_iteB (fun hb => ?_) (fun hb => ?_)
      · walk_at "go"
        refine ⟨a, as, rs, n, L, c, rfl, haG, hrwG, hwf, hcn, hn, hL, fun G5 q5 ms M hS5 hq5 hm5 hl5 hr5 hM5 => ?_⟩
        have hd5 := hS5 _ _ hd4
        have ht5 := ht.mono hS5
        walk_at "go"


        refine lcT_list topH (K := K) (s0 := ()) trivial (xs := ts.map V.ref) hd5 (fun k C acc => ∃ (us : List Addr) (vs : List (Int × Int)), acc = us.map V.ref ∧ Tp C us vs ∧ us.length ≤ k ∧ (us = [] ↔ ∀ q ∈ qs.take k, ¬ Bs c rs q.1.toNat q.2.toNat)) ⟨[], [], rfl, Tp.nil, Nat.zero_le _, fun _ q hq => (nomatch hq), fun _ => rfl⟩ ?_ ?_
        · rintro D5 i x _ C acc _ hD hS hx ⟨us, vs, rfl, hu, hul, hue⟩
          obtain ⟨t, qq, rfl, ht1, hq1, hT⟩ := (ht.mono ((hS5).trans hS)).at hx
          obtain ⟨g0, g1, k1⟩ := hq0 qq (List.mem_of_getElem? hq1)
          have hi := (List.getElem?_eq_some_iff.mp hx).1
          rw [List.length_map] at hi
          obtain ⟨b, r, e1, e2, e3, e4, e5⟩ := bt_at (hm5.mono hS) hl5 hr5 g0 (by omega : qq.1 < (c : Int)) (by omega : 0 ≤ qq.2) k1
          have hq5' := hS _ _ hq5
          walk_at "begin"
          refine r_tup (SqT.of (upd_old hD hT)) rfl ?_
          walk_at "go"
          refine ⟨rfl, ?_⟩
          walk_at "go"
          refine r_iteP (tr_bt.symm.trans (hM5 _ _)) (fun hc => ?_) (fun hc => ?_)
          · walk_at "go"
            refine ⟨by walk_at "len", fun p np => ?_⟩
            obtain ⟨e, _, hD5, n5, ne5⟩ := newTD_eq topH (s := ()) trivial hD np (.tup [.int qq.1, .int qq.2])
            try dsimp only at e
            rw [e]
            refine lcN_put topH (s := ()) trivial hD5 (hS.trans (same_new n5)) ?_ ⟨us ++ [p], vs ++ [qq], refs_push _ _, (hu.mono (same_new n5)).push upd_same, ?_, ?_, fun z => ?_⟩
            · rw [List.length_map]; omega
            · rw [List.length_append, List.length_singleton]; omega
            · intro z
              have := congrArg List.length z
              rw [List.length_append] at this
              exact absurd this (by simp)
            · exact absurd hc (z qq (by rw [tk_succ hq1]; exact List.mem_append_right _ (List.mem_singleton.mpr rfl)))
          · refine lcN_skip (s := ()) trivial hD hS ⟨us, vs, rfl, hu, by omega, ?_⟩
            rw [hue, tk_succ hq1]
            constructor
            · intro z q hq
              rcases List.mem_append.mp hq with w | w
              · exact z q w
              · rw [List.mem_singleton.mp w]; exact hc
            · exact fun z q hq => z q (List.mem_append_left _ hq)
        · rintro D5 _ C acc _ hB5 hD5 hS5t ⟨us, vs, rfl, hu, hul, hue⟩
          rw [List.length_map, ht.1, List.take_length] at hue

          have hS6 : Same H (upd C D5 (.lst (us.map V.ref))) := (hSG.trans hS5).trans (hS5t.trans (same_new hD5))
          refine q _ _ us vs hS6 upd_same (hu.mono (same_new hD5)) ?_
          rw [hue]
          constructor
          · rintro z ⟨g, h, h1, h2, h3⟩
            rw [hb] at h3
            exact z _ (hqm g h (by omega) h1 h2) h3
          · intro z q hq h3
            obtain ⟨h0, h1, h2⟩ := hq0 q hq
            exact z ⟨q.1.toNat, q.2.toNat, by omega, by omega, by rw [hb]; exact h3⟩

      · walk_at "go"


        refine lcT_list topH (K := K) (s0 := ()) trivial (xs := ts.map V.ref) hd4 (fun k C acc => ∃ (us : List Addr) (vs : List (Int × Int)), acc = us.map V.ref ∧ Tp C us vs ∧ us.length ≤ k ∧ (us = [] ↔ ∀ q ∈ qs.take k, ¬ rs[q.1.toNat]? = rs[q.2.toNat]?)) ⟨[], [], rfl, Tp.nil, Nat.zero_le _, fun _ q hq => (nomatch hq), fun _ => rfl⟩ ?_ ?_
        · rintro D5 i x _ C acc _ hD hS hx ⟨us, vs, rfl, hu, hul, hue⟩
          obtain ⟨t, qq, rfl, ht1, hq1, hT⟩ := (ht.mono (hS)).at hx
          obtain ⟨g0, g1, k1⟩ := hq0 qq (List.mem_of_getElem? hq1)
          have hi := (List.getElem?_eq_some_iff.mp hx).1
          rw [List.length_map] at hi
          obtain ⟨b1, r1, _, x1, y1, z1⟩ : ∃ b1 r1, True ∧ atI (as.map V.ref) qq.1 = some (.ref b1) ∧ rs[qq.1.toNat]? = some r1 ∧ C b1 = some (.lst (r1.map V.int)) := by
            obtain ⟨r1, hr1⟩ : ∃ r1, rs[qq.1.toNat]? = some r1 := ⟨_, List.getElem?_eq_getElem (by omega)⟩
            obtain ⟨b1, _, w2, w3⟩ := Ro.get (f := V.int) (hrwG.mono hS) hr1
            exact ⟨b1, r1, trivial, at_i g0 w2, hr1, w3⟩
          obtain ⟨b2, r2, _, x2, y2, z2⟩ : ∃ b2 r2, True ∧ atI (as.map V.ref) qq.2 = some (.ref b2) ∧ rs[qq.2.toNat]? = some r2 ∧ C b2 = some (.lst (r2.map V.int)) := by
            obtain ⟨r2, hr2⟩ : ∃ r2, rs[qq.2.toNat]? = some r2 := ⟨_, List.getElem?_eq_getElem (by omega)⟩
            obtain ⟨b2, _, w2, w3⟩ := Ro.get (f := V.int) (hrwG.mono hS) hr2
            exact ⟨b2, r2, trivial, at_i (by omega) w2, hr2, w3⟩
          have haC := hS _ _ haG
          walk_at "begin"
          refine r_tup (SqT.of (upd_old hD hT)) rfl ?_
          walk_at "go"
          refine ⟨rfl, ?_⟩
          walk_at "go"
          refine r_eqI (upd_old hD z1) (upd_old hD z2) ?_
          walk_at "go"
          refine r_iteP (p := rs[qq.1.toNat]? = rs[qq.2.toNat]?) (by rw [y1, y2, decide_eq_true_eq, Option.some.injEq]) (fun hc => ?_) (fun hc => ?_)
          · walk_at "go"
            refine ⟨by walk_at "len", fun p np => ?_⟩
            obtain ⟨e, _, hD5, n5, ne5⟩ := newTD_eq topH (s := ()) trivial hD np (.tup [.int qq.1, .int qq.2])
            try dsimp only at e
            rw [e]
            refine lcN_put topH (s := ()) trivial hD5 (hS.trans (same_new n5)) ?_ ⟨us ++ [p], vs ++ [qq], refs_push _ _, (hu.mono (same_new n5)).push upd_same, ?_, ?_, fun z => ?_⟩
            · rw [List.length_map]; omega
            · rw [List.length_append, List.length_singleton]; omega
            · intro z
              have := congrArg List.length z
              rw [List.length_append] at this
              exact absurd this (by simp)
            · exact absurd hc (z qq (by rw [tk_succ hq1]; exact List.mem_append_right _ (List.mem_singleton.mpr rfl)))
          · refine lcN_skip (s := ()) trivial hD hS ⟨us, vs, rfl, hu, by omega, ?_⟩
            rw [hue, tk_succ hq1]
            constructor
            · intro z q hq
              rcases List.mem_append.mp hq with w | w
              · exact z q w
              · rw [List.mem_singleton.mp w]; exact hc
            · exact fun z q hq => z q (List.mem_append_left _ hq)
        · rintro D5 _ C acc _ hB5 hD5 hS5t ⟨us, vs, rfl, hu, hul, hue⟩
          rw [List.length_map, ht.1, List.take_length] at hue

          have hS6 : Same H (upd C D5 (.lst (us.map V.ref))) := hSG.trans (hS5t.trans (same_new hD5))
          refine q _ _ us vs hS6 upd_same (hu.mono (same_new hD5)) ?_
          rw [hue]
          constructor
          · rintro z ⟨g, h, h1, h2, h3⟩
            rw [hb] at h3; simp only [Bool.false_eq_true, if_false] at h3
            exact z _ (hqm g h (by omega) h1 h2) h3
          · intro z q hq h3
            obtain ⟨h0, h1, h2⟩ := hq0 q hq
            exact z ⟨q.1.toNat, q.2.toNat, by omega, by omega, by rw [hb]; exact h3⟩
end
end K40
namespace K40
open PySem PySem.Spec PyProof.Rows L2 Lw


local macro_rules | `(tactic| walk_at "look") => `(tactic| first
  | assumption
  | with_reducible exact upd_same
  | with_reducible exact rg_st
  | with_reducible exact rg_g (by assumption)
  | (with_reducible refine upd_old (by assumption) ?_; walk_at "look")
  | (with_reducible refine rg_get (by assumption) ?_; walk_at "look")
  | (with_reducible refine Same.get (by assumption) ?_; walk_at "look"))
local macro_rules | `(tactic| walk_at "cond") => `(tactic| first
  | (show _ ≠ _; omega) | exact cdivN (by omega) (by omega) | exact cmul_mod (by decide) (by decide) | exact cmulR (by omega) (by omega) | exact cmulL (by omega) (by omega) | exact cpow (by omega) (by omega) (by omega) (by omega) | (show (0:Int) ≤ _; omega))
local macro_rules | `(tactic| walk_at "at") => `(tactic| first | assumption | with_unfolding_all rfl)
local macro_rules | `(tactic| walk_at "sz") => `(tactic| first | assumption | (refine small ?_; omega) | (refine small ?_; simp only [List.length_map, List.length_append, List.length_cons, List.length_nil]; omega))
local macro_rules | `(tactic| walk_at "len") => `(tactic| first | exact size_nil | exact Nat.le_of_lt (small (by simp only [List.length_cons, List.length_nil, List.length_map]; omega)))
local macro_rules | `(tactic| walk_at "newD") => `(tactic| (refine ⟨by walk_at "len", fun p np => ?_⟩; obtain ⟨e, o', hD', n', ne'⟩ := newTD_eq (topRg _ _) (by assumption) (by assumption) np (.lst _); rw [e]; clear e))
local macro_rules | `(tactic| walk_at "new") => `(tactic| (refine ⟨by walk_at "len", fun p np => ?_⟩; obtain ⟨e, o', n'⟩ := newT_eq (topRg _ _) (by assumption) np (.lst _); rw [e]; clear e))
local macro_rules | `(tactic| walk_at "st") => `(tactic| first
  | with_reducible refine r_seq ?_
  | with_reducible refine r_var rfl ?_
  | with_reducible refine r_c ?_
  | with_reducible refine r_asg ?_
  | (with_reducible refine r_name ?_; dsimp only [List.set_cons_zero, List.set_cons_succ])
  | with_reducible refine r_sub ?_
  | with_reducible refine r_op ?_
  | with_reducible refine r_i0 ?_
  | (with_reducible refine' r_i ?k1 ?_; (case k1 => walk_at "cond"))
  | with_reducible refine r_cons ?_
  | with_reducible refine r_nil ?_
  | with_reducible refine r_cb ?_
  | with_reducible refine r_call ?_
  | with_reducible refine r_ifs ?_
  | with_reducible refine r_test ?_
  | with_reducible refine r_tB ?_
  | with_reducible refine r_bl ?_
  | with_reducible refine r_ret ?_
  | with_reducible refine r_drop ?_
  | with_reducible refine r_next ?_
  | (with_reducible refine' r_ixL ?k1 ?k2 ?_; (case k1 => walk_at "look"); (case k2 => walk_at "at"))
  | (with_reducible refine' r_setL ?k1 ?k2 ?_; (case k1 => walk_at "look"); (case k2 => walk_at "at"))
  | (with_reducible refine' r_tup (SqT.of ?k1) ?k2 ?_; (case k1 => walk_at "look"); (case k2 => rfl))
  | with_reducible refine r_gcons ?_
  | with_reducible refine r_gnil ?_
  | with_reducible refine r_aug rfl ?_
  | with_reducible refine r_augS ?_
  | with_reducible refine r_ipI ?_
  | with_reducible refine r_un ?_
  | with_reducible refine r_u ?_
  | with_reducible refine r_eq rfl ?_
  | with_reducible refine r_ne rfl ?_
  | with_reducible refine r_chain ?_
  | with_reducible refine iteF ?_
  | with_reducible refine r_not ?_
  | with_reducible refine r_and ?_
  | with_reducible refine r_or ?_
  | with_reducible refine r_andV ?_
  | with_reducible refine r_orV ?_
  | with_reducible refine r_notV ?_
  | with_reducible refine r_lst ?_
  | with_reducible refine r_bm ?_
  | with_reducible refine r_bm0 ?_
  | (with_reducible refine' And.intro (r_ty ?k1) ?_; (case k1 => walk_at "look"))
  | (with_reducible refine' r_append ?k1 ?k2 ?_; (case k1 => walk_at "look"); (case k2 => walk_at "sz"))
  | (with_reducible refine' r_lenK ?k1 ?_; (case k1 => walk_at "look"))
  | (with_reducible refine' r_listOf ?k1 ?_; (case k1 => walk_at "look"))
  | (with_reducible refine' r_sortedI ?k1 ?_; (case k1 => walk_at "look"))
  | (with_reducible refine' r_sum ?k1 ?_; (case k1 => walk_at "look"))
  | with_reducible refine r_int ?_
  | (with_reducible refine' r_draw (by assumption) ?k1 ?k2 ?_; (case k1 => omega); (case k2 => omega); intro R' n' o' h' h'')
  | with_reducible refine iteT ?_
  | with_reducible refine r_revL ?_
  | with_reducible refine r_lc ?_
  | with_reducible refine r_yes ?_
  | with_reducible refine r_sl ?_
  | with_reducible refine r_noPart ?_
  | with_reducible refine r_part ?_
  | with_reducible refine r_lc2 ?_
  | with_reducible refine r_callN ?_
  | with_reducible refine r_tupE ?_
  | with_reducible refine r_rng2 ?_
  | with_reducible refine r_i1 ?_
  | (with_reducible refine' r_slL ?k1 ?_; (case k1 => walk_at "look"))
  | with_reducible refine r_for ?_
  | with_reducible refine r_iList ?_
  | with_reducible refine r_rng1 ?_
  | with_reducible refine r_enum ?_
  | (with_reducible show Ends.nx _ _ _; dsimp only)
  | (with_reducible show Ends.rt _ _ _; dsimp only)
  | (with_reducible show Ends.ct _ _ _; dsimp only)
  | (with_reducible show Ends.bk _ _ _; dsimp only))
local macro_rules | `(tactic| walk_at "go") => `(tactic| repeat (walk_at "st"))
local macro_rules | `(tactic| walk_at "begin") => `(tactic| dsimp only [cxOf, wipe, L2.start, List.map, List.length_cons, List.length_nil, Nat.reduceAdd, Nat.reduceSub, List.replicate, List.cons_append, List.nil_append])


open Lm
def spStands : Sp := fun vs H Q _ => ∃ (a : Addr) (as : List Addr) (rs : List (List Int)) (n L c : Nat) (b : Bool), vs = [.int (c : Int), .ref a, .bl b] ∧ H a = some (.lst (as.map V.ref)) ∧ Rw H as rs ∧ Wf n L rs ∧ c ≤ n ∧ n ≤ 128 ∧ L ≤ 700 ∧
  ∀ (H' : Hp) (r : Bool), Same H H' → (r = true ↔ ¬ Alk c rs b ∧ (b = true ∨ ∀ x, ¬ Tc (Ed rs) x x)) → Q (.bl r) H'
section
variable {P : Program} {w : World} {K : PySem.W.Frag} {mg : Str → Option Value} {base : Heap}
theorem ok_stands {f f1 f2 : Addr} {fd fd1 fd2 : FuncData} (B : Blt mg) (D : DnK K mg "sketch_stands" s_sketch_stands ["count", "rows", "rings"] 2 ["rings"] f fd) (Dpairs_alike : DnK K mg "pairs_alike" s_pairs_alike ["count", "rows", "rings"] 2 ["rings"] f1 fd1)
    (Gpairs_alike : FnOk P w K mg base CX0 3 f1 fd1 ["count", "rows", "rings"] spPairs) (Dsettled_places : Dn K mg "settled_places" s_settled_places ["rows"] f2 fd2) (Gsettled_places : FnOk P w K mg base CX0 1 f2 fd2 ["rows"] spSettled) : FnOk P w K mg base CX0 4 f fd ["count", "rows", "rings"] spStands := by
  refine D.F.ok sc_sketch_stands (fun vs H Q E h => ?_) (fun cdv A outer s H vs Q E hr h => ?_)
  · obtain ⟨a, as, rs, n, L, c, b, rfl, _⟩ := h
    rfl
  · obtain ⟨a, as, rs, n, L, c, b, rfl, ha, hrw, hwf, hcn, hn, hL, q⟩ := h
    have hlr : rs.length = n := hwf.1
    have hla : as.length = n := by rw [hrw.1]; exact hwf.1
    refine ⟨_, (pss_cons (ps_if (pt_cmpR (op_neDK (K := K) rfl hr.units) (pe_callN Gpairs_alike (hr.mono (by decide)) (by rfl) Dpairs_alike.g Dpairs_alike.F.kp Dpairs_alike.kb pass0 (pa_cons (pv 0) (pa_cons (pv 1) pa_nil)) (pk_cons (pv 2) pk_nil)) (pe_lst pa_nil) (nomark _)) (pss_one (ps_ret pe_bl)) pss_nil)
      (pss_cons (ps_if (pt_val (pv 2)) (pss_one (ps_ret pe_bl)) pss_nil)
      (pss_one (ps_ret (pe_cmpR op_eq (pe_callB (call_len_seqK (K := K) rfl) (by rfl) B.m_len PySem.boot_len (pa_cons (pe_call Gsettled_places (hr.mono (by decide)) (by rfl) Dsettled_places.g Dsettled_places.F.kp Dsettled_places.b .nil pass0 (pa_cons (pv 1) pa_nil)) pa_nil)) (pe_callB (call_len_seqK (K := K) rfl) (by rfl) B.m_len PySem.boot_len (pa_cons (pv 1) pa_nil)) (nomark _)))))), ?_⟩
    walk_at "begin"
    walk_at "go"
    refine ⟨rfl, rfl, a, as, rs, n, L, c, b, rfl, ha, hrw, hwf, hcn, by omega, hL, fun H1 q1 ts qs hS1 hq1 ht1 hal => ?_⟩
    walk_at "go"
    refine ⟨size_nil, fun p np => ?_⟩
    refine r_neNil (upd_old np hq1) (ht1.mono (same_new np)) upd_same fun z hz => ?_
    have hS2 : Same H (upd H1 p (.lst [])) := hS1.trans (same_new np)
    walk_at "go"
    refine r_iteP hz (fun hc => ?_) (fun hc => ?_)
    · walk_at "go"
      exact q _ _ hS2 ⟨(fun z => nomatch z), fun z => absurd (hal.mpr z.1) hc⟩
    · have hna : ¬ Alk c rs b := hal.mp (Classical.byContradiction hc)
      walk_at "go"
      refine r_iteB (fun hb => ?_) (fun hb => ?_)
      · walk_at "go"
        exact q _ _ hS2 ⟨fun _ => ⟨hna, .inl hb⟩, fun _ => rfl⟩
      · walk_at "go"
        refine ⟨a, as, rs, n, L, rfl, hS2 _ _ ha, hrw.mono hS2, hwf, by omega, hL, fun H3 q3 ss hS3 _ hss hk => ?_⟩
        have ha3 := hS3 _ _ (hS2 _ _ ha)
        walk_at "go"
        refine q _ _ (hS2.trans hS3) ?_
        rw [List.length_map, List.length_map, hla, decide_eq_true_eq]
        constructor
        · intro e
          exact ⟨hna, .inr (hk.mp (by have := V.int.inj e; omega))⟩
        · rintro ⟨_, e | e⟩
          · rw [hb] at e; cases e
          · rw [hk.mpr e]
end
end K40
namespace K40
open PySem PySem.Spec PyProof.Rows L2 Lw


local macro_rules | `(tactic| walk_at "look") => `(tactic| first
  | assumption
  | with_reducible exact upd_same
  | with_reducible exact rg_st
  | with_reducible exact rg_g (by assumption)
  | (with_reducible refine upd_old (by assumption) ?_; walk_at "look")
  | (with_reducible refine rg_get (by assumption) ?_; walk_at "look")
  | (with_reducible refine Same.get (by assumption) ?_; walk_at "look"))
local macro_rules | `(tactic| walk_at "cond") => `(tactic| first
  | (show _ ≠ _; omega) | exact cdivN (by omega) (by omega) | exact cmul_mod (by decide) (by decide) | exact cmulR (by omega) (by omega) | exact cmulL (by omega) (by omega) | exact cpow (by omega) (by omega) (by omega) (by omega) | (show (0:Int) ≤ _; omega))
local macro_rules | `(tactic| walk_at "at") => `(tactic| first | assumption | with_unfolding_all rfl)
local macro_rules | `(tactic| walk_at "sz") => `(tactic| first | assumption | (refine small ?_; omega) | (refine small ?_; simp only [List.length_map, List.length_append, List.length_cons, List.length_nil]; omega))
local macro_rules | `(tactic| walk_at "len") => `(tactic| first | exact size_nil | exact Nat.le_of_lt (small (by simp only [List.length_cons, List.length_nil, List.length_map]; omega)))
local macro_rules | `(tactic| walk_at "newD") => `(tactic| (refine ⟨by walk_at "len", fun p np => ?_⟩; obtain ⟨e, o', hD', n', ne'⟩ := newTD_eq (topRg _ _) (by assumption) (by assumption) np (.lst _); rw [e]; clear e))
local macro_rules | `(tactic| walk_at "new") => `(tactic| (refine ⟨by walk_at "len", fun p np => ?_⟩; obtain ⟨e, o', n'⟩ := newT_eq (topRg _ _) (by assumption) np (.lst _); rw [e]; clear e))
local macro_rules | `(tactic| walk_at "st") => `(tactic| first
  | with_reducible refine r_seq ?_
  | with_reducible refine r_var rfl ?_
  | with_reducible refine r_c ?_
  | with_reducible refine r_asg ?_
  | (with_reducible refine r_name ?_; dsimp only [List.set_cons_zero, List.set_cons_succ])
  | with_reducible refine r_sub ?_
  | with_reducible refine r_op ?_
  | with_reducible refine r_i0 ?_
  | (with_reducible refine' r_i ?k1 ?_; (case k1 => walk_at "cond"))
  | with_reducible refine r_cons ?_
  | with_reducible refine r_nil ?_
  | with_reducible refine r_cb ?_
  | with_reducible refine r_call ?_
  | with_reducible refine r_ifs ?_
  | with_reducible refine r_test ?_
  | with_reducible refine r_tB ?_
  | with_reducible refine r_bl ?_
  | with_reducible refine r_ret ?_
  | with_reducible refine r_drop ?_
  | with_reducible refine r_next ?_
  | (with_reducible refine' r_ixL ?k1 ?k2 ?_; (case k1 => walk_at "look"); (case k2 => walk_at "at"))
  | (with_reducible refine' r_setL ?k1 ?k2 ?_; (case k1 => walk_at "look"); (case k2 => walk_at "at"))
  | (with_reducible refine' r_tup (SqT.of ?k1) ?k2 ?_; (case k1 => walk_at "look"); (case k2 => rfl))
  | with_reducible refine r_gcons ?_
  | with_reducible refine r_gnil ?_
  | with_reducible refine r_aug rfl ?_
  | with_reducible refine r_augS ?_
  | with_reducible refine r_ipI ?_
  | with_reducible refine r_un ?_
  | with_reducible refine r_u ?_
  | with_reducible refine r_eq rfl ?_
  | with_reducible refine r_ne rfl ?_
  | with_reducible refine r_chain ?_
  | with_reducible refine iteF ?_
  | with_reducible refine r_not ?_
  | with_reducible refine r_and ?_
  | with_reducible refine r_or ?_
  | with_reducible refine r_andV ?_
  | with_reducible refine r_orV ?_
  | with_reducible refine r_notV ?_
  | with_reducible refine r_lst ?_
  | with_reducible refine r_bm ?_
  | with_reducible refine r_bm0 ?_
  | (with_reducible refine' And.intro (r_ty ?k1) ?_; (case k1 => walk_at "look"))
  | (with_reducible refine' r_append ?k1 ?k2 ?_; (case k1 => walk_at "look"); (case k2 => walk_at "sz"))
  | (with_reducible refine' r_lenK ?k1 ?_; (case k1 => walk_at "look"))
  | (with_reducible refine' r_listOf ?k1 ?_; (case k1 => walk_at "look"))
  | (with_reducible refine' r_sortedI ?k1 ?_; (case k1 => walk_at "look"))
  | (with_reducible refine' r_sum ?k1 ?_; (case k1 => walk_at "look"))
  | with_reducible refine r_int ?_
  | (with_reducible refine' r_draw (by assumption) ?k1 ?k2 ?_; (case k1 => omega); (case k2 => omega); intro R' n' o' h' h'')
  | with_reducible refine iteT ?_
  | with_reducible refine r_revL ?_
  | with_reducible refine r_lc ?_
  | with_reducible refine r_yes ?_
  | with_reducible refine r_sl ?_
  | with_reducible refine r_noPart ?_
  | with_reducible refine r_part ?_
  | with_reducible refine r_lc2 ?_
  | with_reducible refine r_callN ?_
  | with_reducible refine r_callD ?_
  | with_reducible refine r_tupE ?_
  | with_reducible refine r_rng2 ?_
  | with_reducible refine r_i1 ?_
  | (with_reducible refine' r_slL ?k1 ?_; (case k1 => walk_at "look"))
  | with_reducible refine r_for ?_
  | with_reducible refine r_iList ?_
  | with_reducible refine r_rng1 ?_
  | with_reducible refine r_enum ?_
  | (with_reducible show Ends.nx _ _ _; dsimp only)
  | (with_reducible show Ends.rt _ _ _; dsimp only)
  | (with_reducible show Ends.ct _ _ _; dsimp only)
  | (with_reducible show Ends.bk _ _ _; dsimp only))
local macro_rules | `(tactic| walk_at "go") => `(tactic| repeat (walk_at "st"))
local macro_rules | `(tactic| walk_at "begin") => `(tactic| dsimp only [cxOf, wipe, L2.start, List.map, List.length_cons, List.length_nil, Nat.reduceAdd, Nat.reduceSub, List.replicate, List.cons_append, List.nil_append])


open Lm
local macro_rules | `(tactic| walk_at "st") => `(tactic| first
  | (with_reducible refine' r_isi (r := true) (.base (.lst ?k1)) ?k2 ?_; (case k1 => walk_at "look"); (case k2 => decide +kernel))
  | (with_reducible refine' r_isi (r := true) (.base (.int _)) ?k2 ?_; (case k2 => decide +kernel))
  | (with_reducible refine' r_isi (r := true) (.base (.bl _)) ?k2 ?_; (case k2 => decide +kernel))
  | (with_reducible refine' r_isi (r := false) (.base (.int _)) ?k2 ?_; (case k2 => decide +kernel)))
local macro_rules | `(tactic| walk_at "bo") => `(tactic| repeat (first
  | walk_at "st"
  | refine r_iteB (fun _ => ?_) (fun h => absurd h (by decide))
  | refine r_iteB (fun h => absurd h (by decide)) (fun _ => ?_)
  | refine r_ite (fun h => absurd h (by first | omega | (simp only [List.length_map]; omega))) (fun _ => ?_)))
def spIsDr : Sp := fun vs H Q _ => ∃ (a : Addr) (as : List Addr) (rs : List (List Int)) (n : Nat) (most : Int), vs = [.ref a, .int most] ∧ H a = some (.lst (as.map V.ref)) ∧ Rw H as rs ∧ Wf n 1000 rs ∧ (∀ r ∈ rs, r.Pairwise (· < ·)) ∧ 1 ≤ n ∧ (n : Int) ≤ most ∧ Q (.bl true) H
section
variable {P : Program} {w : World} {K : PySem.W.Frag} {mg : Str → Option Value} {base : Heap}
theorem ok_isdr {f : Addr} {fd : FuncData} {k : Nat} (B : Blt mg) (D : Dn K mg "_law_is_drawing" s__law_is_drawing ["drawing", "most"] f fd) : FnOk P w K mg base CX0 (k + 1) f fd ["drawing", "most"] spIsDr := by
  refine D.F.ok sc__law_is_drawing (fun vs H Q E h => ?_) (fun cdv A outer s H vs Q E hr h => ?_)
  · obtain ⟨a, as, rs, n, most, rfl, _⟩ := h
    rfl
  · obtain ⟨a, as, rs, n, most, rfl, ha, hrw, hwf, hasc, hn1, hnm, q⟩ := h
    have hlr : rs.length = n := hwf.1
    have hla : as.length = n := by rw [hrw.1]; exact hwf.1
    refine ⟨_, (C8.pss_cut (ps_if (PW.pt (pw_or (pt_not (pt_val (pe_callB (call_isiK' (K := K) rfl) (by rfl) B.m_isinstance (by decide +kernel) (pa_cons (pv 0) (pa_cons (pe_bltn (v := .ty "list") (by rfl) B.m_list (by decide +kernel) rfl) pa_nil))))) (pw_or (pt_cmpR op_lt (pe_callB (call_len_seqK (K := K) rfl) (by rfl) B.m_len PySem.boot_len (pa_cons (pv 0) pa_nil)) pe_int (nomark _)) (pw_or1 (pt_cmpR op_gt (pe_callB (call_len_seqK (K := K) rfl) (by rfl) B.m_len PySem.boot_len (pa_cons (pv 0) pa_nil)) (pv 1) (nomark _)))))) (pss_one (ps_ret pe_bl)) pss_nil)
      (pss_cons (ps_for PassesOwn.never rfl (pi_listK (K := K) rfl (pv 0)) (pg_name (i := 2) sc__law_is_drawing.nd rfl (.inl rfl)) (pss_cons (ps_if (pt_not (pt_val (pe_callB (call_isiK' (K := K) rfl) (by rfl) B.m_isinstance (by decide +kernel) (pa_cons (pv 2) (pa_cons (pe_bltn (v := .ty "list") (by rfl) B.m_list (by decide +kernel) rfl) pa_nil))))) (pss_one (ps_ret pe_bl)) pss_nil)
      (pss_cons (ps_set (i := 3) sc__law_is_drawing.nd rfl (.inl rfl) (pe_un un_neg pe_int))
      (pss_one (ps_for PassesOwn.never rfl (pi_listK (K := K) rfl (pv 2)) (pg_name (i := 4) sc__law_is_drawing.nd rfl (.inl rfl)) (C8.pss_cut (ps_if (PW.pt (pw_or (pt_not (pt_val (pe_callB (call_isiK' (K := K) rfl) (by rfl) B.m_isinstance (by decide +kernel) (pa_cons (pv 4) (pa_cons (pe_bltn (v := .ty "int") (by rfl) B.m_int (by decide +kernel) rfl) pa_nil))))) (pw_or (pt_val (pe_callB (call_isiK' (K := K) rfl) (by rfl) B.m_isinstance (by decide +kernel) (pa_cons (pv 4) (pa_cons (pe_bltn (v := .ty "bool") (by rfl) B.m_bool (by decide +kernel) rfl) pa_nil)))) (pw_or (pt_cmpR op_le (pv 4) (pv 3) (nomark _)) (pw_or1 (pt_cmpR op_ge (pv 4) (pe_callB (call_len_seqK (K := K) rfl) (by rfl) B.m_len PySem.boot_len (pa_cons (pv 0) pa_nil)) (nomark _))))))) (pss_one (ps_ret pe_bl)) pss_nil)
      (pss_one (ps_set (i := 3) sc__law_is_drawing.nd rfl (.inl rfl) (pv 4)))))))))
      (pss_one (ps_ret pe_bl)))), ?_⟩
    walk_at "begin"
    walk_at "go"
    refine ⟨fun σ HM => σ = [some (.ref a), some (.int most), none, none, none] ∧ HM = H, ?_, ?_⟩
    · walk_at "bo"
      exact ⟨rfl, rfl⟩
    · rintro σ HM ⟨rfl, rfl⟩
      walk_at "go"
      refine r_forL (xs := as.map V.ref) ha (fun i σ X => ∃ (y2 y3 y4 : Option V), σ = [some (.ref a), some (.int most), y2, y3, y4] ∧ X = HM) ⟨_, _, _, rfl, rfl⟩ ?_ ?_ ?_
      · rintro i σ X _ ⟨y2, y3, y4, rfl, rfl⟩
        exact ha
      · rintro i x σ X hx ⟨y2, y3, y4, rfl, rfl⟩
        obtain ⟨b, r, rfl, _, hr1, hb⟩ := hrw.at hx
        have hgd := hwf.2 r (List.mem_of_getElem? hr1)
        have has := hasc r (List.mem_of_getElem? hr1)
        walk_at "bo"
        refine r_forL (xs := r.map V.int) hb (fun j σ X2 => ∃ (la : Int) (y4 : Option V), σ = [some (.ref a), some (.int most), some (.ref b), some (.int la), y4] ∧ X2 = X ∧ -1 ≤ la ∧ ∀ e ∈ r.drop j, la < e) ⟨_, _, rfl, rfl, Int.le_refl _, fun e he => ?_⟩ ?_ ?_ ?_
        · have := (hgd.2.2 e (List.mem_of_mem_drop he)).1
          show (-1 : Int) < e
          omega
        · rintro j σ X2 _ ⟨la, y4, rfl, rfl, _, _⟩
          exact hb
        · rintro j x σ X2 hx ⟨la, y4, rfl, rfl, hl1, hl2⟩
          obtain ⟨e, rfl, he⟩ := ints_at hx
          have hdr : r.drop j = e :: r.drop (j + 1) := by
            obtain ⟨h1, h2⟩ := List.getElem?_eq_some_iff.mp he
            rw [← h2]; exact List.drop_eq_getElem_cons h1
          have hle := hl2 e (by rw [hdr]; exact List.mem_cons_self)
          have hge := hgd.2.2 e (List.mem_of_getElem? he)
          walk_at "go"
          refine ⟨fun σ HM => σ = [some (.ref a), some (.int most), some (.ref b), some (.int la), some (.int e)] ∧ HM = X2, ?_, ?_⟩
          · walk_at "bo"
            exact ⟨rfl, rfl⟩
          · rintro σ X3 ⟨rfl, rfl⟩
            walk_at "go"
            refine ⟨e, _, rfl, rfl, by omega, fun z hz => ?_⟩
            have hp : (r.drop j).Pairwise (· < ·) := has.sublist (List.drop_sublist j r)
            rw [hdr, List.pairwise_cons] at hp
            exact hp.1 z hz
        · rintro σ X2 ⟨la, y4, rfl, rfl, _, _⟩
          exact ⟨_, _, _, rfl, rfl⟩
      · rintro σ X ⟨y2, y3, y4, rfl, rfl⟩
        walk_at "go"
        exact q
end
end K40
namespace K40
open PySem PySem.Spec PyProof.Rows L2 Lw


local macro_rules | `(tactic| walk_at "look") => `(tactic| first
  | assumption
  | with_reducible exact upd_same
  | with_reducible exact rg_st
  | with_reducible exact rg_g (by assumption)
  | (with_reducible refine upd_old (by assumption) ?_; walk_at "look")
  | (with_reducible refine rg_get (by assumption) ?_; walk_at "look")
  | (with_reducible refine Same.get (by assumption) ?_; walk_at "look"))
local macro_rules | `(tactic| walk_at "cond") => `(tactic| first
  | (show _ ≠ _; omega) | exact cdivN (by omega) (by omega) | exact cmul_mod (by decide) (by decide) | exact cmulR (by omega) (by omega) | exact cmulL (by omega) (by omega) | exact cpow (by omega) (by omega) (by omega) (by omega) | (show (0:Int) ≤ _; omega))
local macro_rules | `(tactic| walk_at "at") => `(tactic| first | assumption | with_unfolding_all rfl)
local macro_rules | `(tactic| walk_at "sz") => `(tactic| first | assumption | (refine small ?_; omega) | (refine small ?_; simp only [List.length_map, List.length_append, List.length_cons, List.length_nil]; omega))
local macro_rules | `(tactic| walk_at "len") => `(tactic| first | exact size_nil | exact Nat.le_of_lt (small (by simp only [List.length_cons, List.length_nil, List.length_map]; omega)))
local macro_rules | `(tactic| walk_at "newD") => `(tactic| (refine ⟨by walk_at "len", fun p np => ?_⟩; obtain ⟨e, o', hD', n', ne'⟩ := newTD_eq (topRg _ _) (by assumption) (by assumption) np (.lst _); rw [e]; clear e))
local macro_rules | `(tactic| walk_at "new") => `(tactic| (refine ⟨by walk_at "len", fun p np => ?_⟩; obtain ⟨e, o', n'⟩ := newT_eq (topRg _ _) (by assumption) np (.lst _); rw [e]; clear e))
local macro_rules | `(tactic| walk_at "st") => `(tactic| first
  | with_reducible refine r_seq ?_
  | with_reducible refine r_var rfl ?_
  | with_reducible refine r_c ?_
  | with_reducible refine r_asg ?_
  | (with_reducible refine r_name ?_; dsimp only [List.set_cons_zero, List.set_cons_succ])
  | with_reducible refine r_sub ?_
  | with_reducible refine r_op ?_
  | with_reducible refine r_i0 ?_
  | (with_reducible refine' r_i ?k1 ?_; (case k1 => walk_at "cond"))
  | with_reducible refine r_cons ?_
  | with_reducible refine r_nil ?_
  | with_reducible refine r_cb ?_
  | with_reducible refine r_call ?_
  | with_reducible refine r_ifs ?_
  | with_reducible refine r_test ?_
  | with_reducible refine r_tB ?_
  | with_reducible refine r_bl ?_
  | with_reducible refine r_ret ?_
  | with_reducible refine r_drop ?_
  | with_reducible refine r_next ?_
  | (with_reducible refine' r_ixL ?k1 ?k2 ?_; (case k1 => walk_at "look"); (case k2 => walk_at "at"))
  | (with_reducible refine' r_setL ?k1 ?k2 ?_; (case k1 => walk_at "look"); (case k2 => walk_at "at"))
  | (with_reducible refine' r_tup (SqT.of ?k1) ?k2 ?_; (case k1 => walk_at "look"); (case k2 => rfl))
  | with_reducible refine r_gcons ?_
  | with_reducible refine r_gnil ?_
  | with_reducible refine r_aug rfl ?_
  | with_reducible refine r_augS ?_
  | with_reducible refine r_ipI ?_
  | with_reducible refine r_un ?_
  | with_reducible refine r_u ?_
  | with_reducible refine r_eq rfl ?_
  | with_reducible refine r_ne rfl ?_
  | with_reducible refine r_chain ?_
  | with_reducible refine iteF ?_
  | with_reducible refine r_not ?_
  | with_reducible refine r_and ?_
  | with_reducible refine r_or ?_
  | with_reducible refine r_andV ?_
  | with_reducible refine r_orV ?_
  | with_reducible refine r_notV ?_
  | with_reducible refine r_lst ?_
  | with_reducible refine r_bm ?_
  | with_reducible refine r_bm0 ?_
  | (with_reducible refine' And.intro (r_ty ?k1) ?_; (case k1 => walk_at "look"))
  | (with_reducible refine' r_append ?k1 ?k2 ?_; (case k1 => walk_at "look"); (case k2 => walk_at "sz"))
  | (with_reducible refine' r_lenK ?k1 ?_; (case k1 => walk_at "look"))
  | (with_reducible refine' r_listOf ?k1 ?_; (case k1 => walk_at "look"))
  | (with_reducible refine' r_sortedI ?k1 ?_; (case k1 => walk_at "look"))
  | (with_reducible refine' r_sum ?k1 ?_; (case k1 => walk_at "look"))
  | with_reducible refine r_int ?_
  | (with_reducible refine' r_draw (by assumption) ?k1 ?k2 ?_; (case k1 => omega); (case k2 => omega); intro R' n' o' h' h'')
  | with_reducible refine iteT ?_
  | with_reducible refine r_revL ?_
  | with_reducible refine r_lc ?_
  | with_reducible refine r_yes ?_
  | with_reducible refine r_sl ?_
  | with_reducible refine r_noPart ?_
  | with_reducible refine r_part ?_
  | with_reducible refine r_lc2 ?_
  | with_reducible refine r_callN ?_
  | with_reducible refine r_callD ?_
  | with_reducible refine r_tupE ?_
  | with_reducible refine r_rng2 ?_
  | with_reducible refine r_i1 ?_
  | (with_reducible refine' r_slL ?k1 ?_; (case k1 => walk_at "look"))
  | with_reducible refine r_for ?_
  | with_reducible refine r_iList ?_
  | with_reducible refine r_rng1 ?_
  | with_reducible refine r_enum ?_
  | (with_reducible show Ends.nx _ _ _; dsimp only)
  | (with_reducible show Ends.rt _ _ _; dsimp only)
  | (with_reducible show Ends.ct _ _ _; dsimp only)
  | (with_reducible show Ends.bk _ _ _; dsimp only))
local macro_rules | `(tactic| walk_at "go") => `(tactic| repeat (walk_at "st"))
local macro_rules | `(tactic| walk_at "begin") => `(tactic| dsimp only [cxOf, wipe, L2.start, List.map, List.length_cons, List.length_nil, Nat.reduceAdd, Nat.reduceSub, List.replicate, List.cons_append, List.nil_append])


open Lm
/-- the drawing when i bares have their marks -/
structure Bi (T rs : List (List Int)) (n c i : Nat) : Prop where
  len : T.length = n + i
  grp : ∀ a, a < c → T[a]? = rs[a]?
  bar : ∀ j, c + j < n → ∀ r, rs[c + j]? = some r → T[c + j]? = some (if j < i then r ++ [((n + j : Nat) : Int)] else r)
  mark : ∀ j, j < i → T[n + j]? = some [((n + (n - c) : Nat) : Int), ((n + (n - c) + (c + 1 + j) : Nat) : Int)]
theorem Bi.init {rs : List (List Int)} {n c : Nat} (h : rs.length = n) : Bi rs rs n c 0 := ⟨h, fun _ _ => rfl, fun j _ r hr => by rw [if_neg (Nat.not_lt_zero _)]; exact hr, fun j hj => absurd hj (Nat.not_lt_zero _)⟩
theorem Bi.step {T rs : List (List Int)} {n c i : Nat} (B : Bi T rs n c i) (hi : c + i < n) {r : List Int} (hr : rs[c + i]? = some r) :
    Bi (T.set (c + i) (r ++ [((n + i : Nat) : Int)]) ++ [[((n + (n - c) : Nat) : Int), ((n + (n - c) + (c + 1 + i) : Nat) : Int)]]) rs n c (i + 1) := by
  have hl := B.len
  refine ⟨by rw [List.length_append, List.length_set, hl, List.length_singleton]; omega, fun a ha => ?_, fun j hj s hs => ?_, fun j hj => ?_⟩
  · rw [List.getElem?_append_left (by rw [List.length_set]; omega), List.getElem?_set_ne (by omega)]
    exact B.grp a ha
  · rw [List.getElem?_append_left (by rw [List.length_set]; omega)]
    by_cases e : j = i
    · subst e
      rw [hr] at hs; cases hs
      rw [List.getElem?_set_self (by omega), if_pos (by omega)]
    · rw [List.getElem?_set_ne (by omega), B.bar j hj s hs]
      by_cases h2 : j < i
      · rw [if_pos h2, if_pos (by omega)]
      · rw [if_neg h2, if_neg (by omega)]
  · by_cases e : j = i
    · subst e
      rw [List.getElem?_append_right (by rw [List.length_set]; omega), List.length_set, hl, Nat.sub_self]; rfl
    · rw [List.getElem?_append_left (by rw [List.length_set]; omega), List.getElem?_set_ne (by omega)]
      exact B.mark j (by omega)
/-- an own error over ValueError, without an __init__ -/
structure ExN (K : PySem.W.Frag) (mg : Str → Option Value) (x : Str) (C : Addr) : Prop where
  g : mg x = some (.ref C)
  x : PySem.W.excIn K C [.type "ValueError", .type "Exception", .type "BaseException", .type "object"] "ValueError.__new__" = true
  k : PySem.W.keepIn K (.ref C) = true
  b : PySem.W.subIn K (.ref C) (.type "BaseException") = some true
  t : PySem.W.typeIn K (.ref C) = some (.type "type")
def Stn (c : Nat) (rs : List (List Int)) (b : Bool) : Prop := ¬ Alk c rs b ∧ (b = true ∨ ∀ x, ¬ Tc (Ed rs) x x)
def spBuild (C : Addr) : Sp := fun vs H Q E => ∃ (a : Addr) (as : List Addr) (rs : List (List Int)) (n c : Nat) (b : Bool), vs = [.int (c : Int), .ref a, .bl b] ∧ H a = some (.lst (as.map V.ref)) ∧ Rw H as rs ∧ Wf n 43 rs ∧ (∀ r ∈ rs, r.Pairwise (· < ·)) ∧ c ≤ n ∧ n ≤ 60 ∧
  (¬ Stn c rs b → ∀ H', Same H H' → E (.ref C) none H') ∧
  (Stn c rs b → ∀ (H' : Hp) (q : Addr) (ts : List Addr) (T : List (List Int)) (l : Nat), Same H H' → H q = none → H' q = some (.lst (ts.map V.ref)) → Rw H' ts T → (∀ t ∈ ts, H t = none) → ts.Nodup → Wf l 60 T → (∀ r ∈ T, r.Pairwise (· < ·)) → Bd T rs n c → ((∀ x, ¬ Tc (Ed rs) x x) → ∀ x, ¬ Tc (Ed T) x x) → n ≤ l → 1 ≤ l → (l : Int) ≤ 3 * n - c + 2 → Q (.ref q) H')
section
variable {P : Program} {w : World} {K : PySem.W.Frag} {mg : Str → Option Value} {base : Heap}
theorem ok_build {f f1 CN : Addr} {fd fd1 : FuncData} (B : Blt mg) (ENotStanding : ExN K mg "NotStanding" CN) (D : DnK K mg "build_drawing" s_build_drawing ["count", "rows", "rings"] 2 ["rings"] f fd)
    (Dsketch_stands : DnK K mg "sketch_stands" s_sketch_stands ["count", "rows", "rings"] 2 ["rings"] f1 fd1) (Gsketch_stands : FnOk P w K mg base CX0 4 f1 fd1 ["count", "rows", "rings"] spStands) :
    FnOk P w K mg base (L2.CX P w) 5 f fd ["count", "rows", "rings"] (spBuild CN) := by
  refine D.F.okX sc_build_drawing (fun vs H Q E h => ?_) (fun cdv A outer s H vs Q E hr h => ?_)
  · obtain ⟨a, as, rs, n, c, b, rfl, _⟩ := h
    rfl
  · obtain ⟨a, as, rs, n, c, b, rfl, ha, hrw, hwf, hasc, hcn, hn, qe, q⟩ := h
    have hlr : rs.length = n := hwf.1
    have hla : as.length = n := by rw [hrw.1]; exact hwf.1
    refine ⟨_, (pss_cons (ps_if (pt_not (pt_val (pe_callN Gsketch_stands (hr.mono (by decide)) (by rfl) Dsketch_stands.g Dsketch_stands.F.kp Dsketch_stands.kb pass0 (pa_cons (pv 0) (pa_cons (pv 1) pa_nil)) (pk_cons (pv 2) pk_nil)))) (pss_one (ps_raise rfl (takes_of rfl rfl rfl rfl) (pmk_own PySem.F.excBase_ValueError ENotStanding.x ENotStanding.g ENotStanding.k (raises_own ENotStanding.b ENotStanding.t) (by rfl)))) pss_nil) (PSs.nox (pss_cons (ps_setLc (i := 3) (own := [("row", 9)]) rfl sc_build_drawing.nd rfl rfl (sw_true rfl rfl rfl (by decide +kernel)) (pi_listK (K := K) rfl (pv 1)) (blkOk_by (own := [("row", 9)]) (by kernel_rfl))
        (fun _ _ _ _ _ => (pg_name (i := 9) sc_build_drawing.nd rfl (.inl rfl))) (fun _ _ _ _ _ => pts_nil)
        (fun _ _ _ _ _ => (pe_callTy (call_list_ofK (K := K) rfl) (by rfl) B.m_list (by decide +kernel) (pa_cons (pv 9) pa_nil))))
      (pss_cons (ps_set (i := 4) sc_build_drawing.nd rfl (.inl rfl) (pe_op op_sub (pe_callB (call_len_seqK (K := K) rfl) (by rfl) B.m_len PySem.boot_len (pa_cons (pv 1) pa_nil)) (pv 0)))
      (C8.pss_cut (ps_if (PW.pt (pw_and (pt_cmpR op_eq (pv 4) pe_int (nomark _)) (pw_and1 (pt_cmpR op_gt (pv 0) pe_int (nomark _))))) (pss_one (ps_ret (pv 3))) pss_nil)
      (pss_cons (ps_set (i := 5) sc_build_drawing.nd rfl (.inl rfl) (pe_callB (call_len_seqK (K := K) rfl) (by rfl) B.m_len PySem.boot_len (pa_cons (pv 1) pa_nil)))
      (pss_cons (ps_set (i := 6) sc_build_drawing.nd rfl (.inl rfl) (pe_op op_add (pv 5) (pv 4)))
      (pss_cons (ps_for PassesOwn.never rfl (pi_range1 (by rfl) B.m_range (pa_cons (pv 4) pa_nil)) (pg_name (i := 7) sc_build_drawing.nd rfl (.inl rfl)) (pss_cons (ps_expr (pe_bmK (K := K) rfl PySem.F.plainAttrs_list PySem.F.slot_list_append PySem.F.type_list_append mt_append (pe_ix (ix_listK (K := K) rfl) (pv 3) (pe_op op_add (pv 0) (pv 7)) (fun _ _ => rfl)) (pa_cons (pe_op op_add (pv 5) (pv 7)) pa_nil)))
      (pss_one (ps_expr (pe_bmK (K := K) rfl PySem.F.plainAttrs_list PySem.F.slot_list_append PySem.F.type_list_append mt_append (pv 3) (pa_cons (pe_lst (pa_cons (pv 6) (pa_cons (pe_op op_add (pe_op op_add (pe_op op_add (pv 6) (pv 0)) pe_int) (pv 7)) pa_nil))) pa_nil))))))
      (pss_cons (ps_expr (pe_bmK (K := K) rfl PySem.F.plainAttrs_list PySem.F.slot_list_append PySem.F.type_list_append mt_append (pv 3) (pa_cons (pe_lst pa_nil) pa_nil)))
      (pss_cons (ps_for PassesOwn.never rfl (pi_range1 (by rfl) B.m_range (pa_cons (pe_op op_add (pv 0) (pv 4)) pa_nil)) (pg_name (i := 8) sc_build_drawing.nd rfl (.inl rfl)) (pss_one (ps_expr (pe_bmK (K := K) rfl PySem.F.plainAttrs_list PySem.F.slot_list_append PySem.F.type_list_append mt_append (pv 3) (pa_cons (pe_lst (pa_cons (pe_op op_add (pv 6) (pv 8)) pa_nil)) pa_nil)))))
      (pss_one (ps_ret (pv 3))))))))))))), ?_⟩
    walk_at "begin"
    walk_at "go"
    refine ⟨rfl, rfl, a, as, rs, n, 43, c, b, rfl, ha, hrw, hwf, hcn, by omega, by decide, fun H1 r0 hS1 hr1 => ?_⟩
    walk_at "go"
    refine r_iteB (fun hf => ?_) (fun hf => ?_)
    · exact qe (fun z => by rw [hr1.mpr z] at hf; cases hf) H1 hS1
    · have hst : Stn c rs b := hr1.mp (by revert hf; cases r0 <;> decide)
      have q := q hst
      have ha1 := hS1 _ _ ha
      walk_at "go"
      refine lcT_list topH (K := K) (s0 := ()) trivial (xs := as.map V.ref) ha1 (fun i C acc => ∃ hs : List Addr, acc = hs.map V.ref ∧ Rw C hs (rs.take i) ∧ hs.Nodup ∧ ∀ t ∈ hs, H1 t = none) ⟨[], rfl, Rw.nil, List.nodup_nil, fun t ht => nomatch ht⟩ ?_ ?_
      · rintro D7 i x _ C acc _ hD hS hx ⟨hs, rfl, hh, hnd, hfr⟩
        obtain ⟨b, r, rfl, hb1, hr1, hc1⟩ := (hrw.mono (hS1.trans hS)).at hx
        have hhl : hs.length ≤ i := by rw [hh.1, List.length_take]; omega
        have hi := (List.getElem?_eq_some_iff.mp hr1).1
        walk_at "begin"
        walk_at "go"
        refine ⟨rfl, ?_⟩
        walk_at "go"
        intro p np
        obtain ⟨e, _, hD5, n5, ne5⟩ := newTD_eq topH (s := ()) trivial hD np (.lst (r.map V.int))
        try dsimp only at e
        rw [e]
        refine lcN_put topH (s := ()) trivial hD5 (hS.trans (same_new n5)) ?_ ⟨hs ++ [p], refs_push _ _, ?_, nodup_push hnd fun hm => ?_, fun t ht => ?_⟩
        · rw [List.length_map]; omega
        · rw [tk_succ hr1]
          exact (hh.mono (same_new n5)).push upd_same
        · obtain ⟨j, hj⟩ := List.mem_iff_getElem?.mp hm
          obtain ⟨r, _, hr⟩ := hh.2 j p hj
          rw [n5] at hr; cases hr
        · rcases List.mem_append.mp ht with z | z
          · exact hfr t z
          · rw [List.mem_singleton.mp z]; exact hS.free n5
      · rintro D1 _ C acc _ hB1 hD1 hS2 ⟨hs, rfl, hh0, hnd, hfr⟩
        rw [List.length_map, hla, ← hlr, List.take_length] at hh0
        have hneD1 : ∀ t ∈ hs, t ≠ D1 := fun t ht => by
          obtain ⟨j, hj⟩ := List.mem_iff_getElem?.mp ht
          obtain ⟨r, _, hr⟩ := hh0.2 j t hj
          exact ne_of_none hr hD1
        have hS3 : Same H (upd C D1 (.lst (hs.map V.ref))) := (hS1.trans hS2).trans (same_new hD1)
        have hh := hh0.mono (same_new (o := .lst (hs.map V.ref)) hD1)
        have hd1 : upd C D1 (.lst (hs.map V.ref)) D1 = some (.lst (hs.map V.ref)) := upd_same
        have hHD : H D1 = none := hS1.free hB1
        have hHt : ∀ t ∈ hs, H t = none := fun t ht => hS1.free (hfr t ht)
        dsimp only at *
        generalize upd C D1 (.lst (hs.map V.ref)) = G at hS3 hh hd1 ⊢
        clear hh0 hD1 hS2 C
        have hhl : hs.length = n := by rw [hh.1]; exact hlr
        have ha3 := hS3 _ _ ha
        walk_at "go"
        rw [List.length_map, hla, show (n : Int) - (c : Int) = ((n - c : Nat) : Int) by omega]
        walk_at "go"
        refine ⟨fun σ HM => σ = [some (V.int ↑c), some (V.ref a), some (V.bl b), some (V.ref D1), some (V.int ↑(n - c)), none, none, none, none, none] ∧ HM = G ∧ (c < n ∨ c = 0), ?_, ?_⟩
        · have fin : c = n → 0 < c → Q (.ref D1) G := fun e h0 => q G D1 hs rs n hS3 hHD hd1 hh hHt hnd ⟨hlr, fun r hr => (hwf.2 r hr).weak (by decide)⟩ hasc ⟨hlr, hcn, fun _ _ => rfl, fun i r hi => by omega, fun i hi => by omega, fun hi => by omega, fun hi => by omega⟩ (fun h => h) (Nat.le_refl _) (by omega) (by omega)
          walk_at "go"
          refine r_ite (fun h1 => ?_) (fun h1 => ?_)
          · have h1' := V.int.inj h1
            walk_at "go"
            refine r_ite (fun h2 => ?_) (fun h2 => ?_)
            · walk_at "go"
              exact fin (by omega) (by omega)
            · walk_at "go"
              exact ⟨rfl, rfl, .inr (by omega)⟩
          · have h1' : ((n - c : Nat) : Int) ≠ 0 := fun z => h1 (by rw [z])
            walk_at "go"
            exact ⟨rfl, rfl, .inl (by omega)⟩
        · rintro σ HM ⟨rfl, rfl, hcase⟩
          walk_at "go"
          rw [List.length_map, hla, show (n : Int) + ((n - c : Nat) : Int) = ((n + (n - c) : Nat) : Int) by omega]
          walk_at "go"
          refine r_forR (n := ((n - c : Nat) : Int)) (by omega) (by omega) (fun i σ X => ∃ (ds : List Addr) (T : List (List Int)) (y7 : Option V), σ = [some (V.int ↑c), some (V.ref a), some (V.bl b), some (V.ref D1), some (V.int ↑(n - c)), some (V.int ↑n), some (V.int ↑(n + (n - c))), y7, none, none] ∧ Same H X ∧ X D1 = some (.lst (ds.map V.ref)) ∧ Rw X ds T ∧ ds.Nodup ∧
            (∀ t ∈ ds, H t = none ∧ t ≠ D1) ∧ Bi T rs n c i ∧ ∀ r ∈ T, Gd ((n + (n - c) + 1 + n : Nat) : Int) 44 r ∧ r.Pairwise (· < ·)) ?_ ?_ ?_
          · exact ⟨hs, rs, _, rfl, hS3, hd1, hh, hnd, fun t ht => ⟨hHt t ht, hneD1 t ht⟩, Bi.init hlr, fun r hr => ⟨gd_up (hwf.2 r hr) (by omega) (by decide), hasc r hr⟩⟩
          · rintro i σ X hi ⟨ds, T, y7, rfl, x1, x2, x3, x4, x5, x6, x7⟩
            rw [Int.toNat_natCast] at hi
            obtain ⟨r, hr⟩ : ∃ r, rs[c + i]? = some r := ⟨_, List.getElem?_eq_getElem (by omega)⟩
            have hTr := x6.bar i (by omega) r hr
            rw [if_neg (Nat.lt_irrefl _)] at hTr
            obtain ⟨bb, hbb1, hbb2, hbb3⟩ := Ro.get (f := V.int) x3 hTr
            have hatb : atI (ds.map V.ref) ((c : Int) + (i : Int)) = some (.ref bb) := at_i (by omega) (by rw [show ((c : Int) + (i : Int)).toNat = c + i by omega]; exact hbb2)
            have hgr := hwf.2 r (List.mem_of_getElem? hr)
            have hgl := hgr.1
            obtain ⟨hbH, hbD⟩ := x5 bb (List.mem_of_getElem? hbb1)
            have hdl : ds.length = n + i := by rw [x3.1]; exact x6.len
            walk_at "go"
            rw [show (n : Int) + (i : Int) = ((n + i : Nat) : Int) by omega, ints_push]
            have y1 : Same H (upd X bb (.lst ((r ++ [((n + i : Nat) : Int)]).map V.int))) := fun x y e => by rw [upd_ne (ne_of_none e hbH)]; exact x1 _ _ e
            have y2 : upd X bb (.lst ((r ++ [((n + i : Nat) : Int)]).map V.int)) D1 = some (.lst (ds.map V.ref)) := by rw [upd_ne hbD.symm]; exact x2
            have y3 := x3.write x4 hbb1 (r ++ [((n + i : Nat) : Int)])
            generalize upd X bb (.lst ((r ++ [((n + i : Nat) : Int)]).map V.int)) = X2 at y1 y2 y3 ⊢
            walk_at "go"
            refine ⟨by walk_at "len", fun p np => ?_⟩
            rw [show ((n + (n - c) : Nat) : Int) + (c : Int) + 1 + (i : Int) = ((n + (n - c) + (c + 1 + i) : Nat) : Int) by omega]
            have z1 := y1.trans (same_new (o := .lst [V.int ↑(n + (n - c)), V.int ↑(n + (n - c) + (c + 1 + i))]) np)
            have z2 := same_new (o := .lst [V.int ↑(n + (n - c)), V.int ↑(n + (n - c) + (c + 1 + i))]) np _ _ y2
            have z3 := (y3.mono (same_new (o := .lst [V.int ↑(n + (n - c)), V.int ↑(n + (n - c) + (c + 1 + i))]) np)).push (r := [((n + (n - c) : Nat) : Int), ((n + (n - c) + (c + 1 + i) : Nat) : Int)]) (b := p) upd_same
            have hpD : p ≠ D1 := (ne_of_none y2 np).symm
            have hpd : p ∉ ds := fun hm => by
              obtain ⟨k, hk⟩ := List.mem_iff_getElem?.mp hm
              obtain ⟨r', _, hr'⟩ := y3.2 k p hk
              rw [np] at hr'; cases hr'
            have hpH : H p = none := y1.free np
            generalize upd X2 p (.lst [V.int ↑(n + (n - c)), V.int ↑(n + (n - c) + (c + 1 + i))]) = X3 at z1 z2 z3 ⊢
            have hsz : (ds.map V.ref).length < sizeLine := small (by rw [List.length_map]; omega)
            walk_at "go"
            rw [refs_push]
            refine ⟨ds ++ [p], _, _, rfl, fun x y e => by rw [upd_ne (ne_of_none e hHD)]; exact z1 _ _ e, upd_same, Ro.keep (f := V.int) z3 (fun t ht => upd_ne ?_), nodup_push x4 hpd, fun t ht => ?_, x6.step (by omega) hr, fun r' hr' => ?_⟩
            · rcases List.mem_append.mp ht with z | z
              · exact (x5 t z).2
              · rw [List.mem_singleton.mp z]; exact hpD
            · rcases List.mem_append.mp ht with z | z
              · exact x5 t z
              · rw [List.mem_singleton.mp z]; exact ⟨hpH, hpD⟩
            · rcases List.mem_append.mp hr' with z | z
              · rcases List.mem_or_eq_of_mem_set z with y | y
                · exact x7 r' y
                · rw [y]
                  refine ⟨gd_put hgr (by omega) (by omega) (by omega), ?_⟩
                  rw [List.pairwise_append]
                  refine ⟨hasc r (List.mem_of_getElem? hr), List.pairwise_singleton _ _, fun x hx y hy => ?_⟩
                  rw [List.mem_singleton.mp hy]
                  have := (hgr.2.2 x hx).2
                  omega
              · rw [List.mem_singleton.mp z]
                refine ⟨⟨by show 2 ≤ 44; decide, ?_, fun e he => ?_⟩, ?_⟩
                · simp only [List.nodup_cons, List.mem_singleton, List.not_mem_nil, not_false_eq_true, List.nodup_nil, and_true]; omega
                · simp only [List.mem_cons, List.not_mem_nil, or_false] at he
                  rcases he with rfl | rfl <;> omega
                · simp only [List.pairwise_cons, List.mem_singleton, forall_eq, List.not_mem_nil, false_implies, implies_true, List.Pairwise.nil, and_true]; omega
          · rintro σ X ⟨ds, T, y7, rfl, x1, x2, x3, x4, x5, x6, x7⟩
            rw [Int.toNat_natCast] at x6
            have hTl : T.length = n + (n - c) := x6.len
            have hdl : ds.length = n + (n - c) := by rw [x3.1]; exact hTl
            walk_at "go"
            refine ⟨size_nil, fun p np => ?_⟩
            have z1 := x1.trans (same_new (o := .lst []) np)
            have z2 := same_new (o := .lst []) np _ _ x2
            have z3 := (x3.mono (same_new (o := .lst []) np)).push (r := []) (b := p) upd_same
            have hpD : p ≠ D1 := (ne_of_none x2 np).symm
            have hpd : p ∉ ds := fun hm => by
              obtain ⟨k, hk⟩ := List.mem_iff_getElem?.mp hm
              obtain ⟨r', _, hr'⟩ := x3.2 k p hk
              rw [np] at hr'; cases hr'
            have hpH : H p = none := x1.free np
            generalize upd X p (.lst []) = X3 at z1 z2 z3 ⊢
            have hsz : (ds.map V.ref).length < sizeLine := small (by rw [List.length_map]; omega)
            walk_at "go"
            rw [refs_push, show (c : Int) + ((n - c : Nat) : Int) = (n : Int) by omega]
            refine r_forR (n := (n : Int)) (by omega) (by omega) (fun i σ X => ∃ (ds : List Addr) (y8 : Option V), σ = [some (V.int ↑c), some (V.ref a), some (V.bl b), some (V.ref D1), some (V.int ↑(n - c)), some (V.int ↑n), some (V.int ↑(n + (n - c))), y7, y8, none] ∧ Same H X ∧ X D1 = some (.lst (ds.map V.ref)) ∧ Rw X ds (T ++ [[]] ++ (List.range i).map fun w : Nat => [((n + (n - c) + w : Nat) : Int)]) ∧ ds.Nodup ∧
              (∀ t ∈ ds, H t = none ∧ t ≠ D1)) ?_ ?_ ?_
            · refine ⟨ds ++ [p], _, rfl, fun x y e => by rw [upd_ne (ne_of_none e hHD)]; exact z1 _ _ e, upd_same, ?_, nodup_push x4 hpd, fun t ht => ?_⟩
              · rw [List.range_zero, List.map_nil, List.append_nil]
                refine Ro.keep (f := V.int) z3 (fun t ht => upd_ne ?_)
                rcases List.mem_append.mp ht with z | z
                · exact (x5 t z).2
                · rw [List.mem_singleton.mp z]; exact hpD
              · rcases List.mem_append.mp ht with z | z
                · exact x5 t z
                · rw [List.mem_singleton.mp z]; exact ⟨hpH, hpD⟩
            · rintro i σ X hi ⟨ds, y8, rfl, x1, x2, x3, x4, x5⟩
              have hdl : ds.length = n + (n - c) + 1 + i := by rw [x3.1]; simp only [List.length_append, List.length_map, List.length_range, List.length_singleton, hTl]
              walk_at "go"
              rw [show ((n + (n - c) : Nat) : Int) + (i : Int) = ((n + (n - c) + i : Nat) : Int) by omega]
              refine ⟨by walk_at "len", fun p np => ?_⟩
              have z1 := x1.trans (same_new (o := .lst [V.int ↑(n + (n - c) + i)]) np)
              have z2 := same_new (o := .lst [V.int ↑(n + (n - c) + i)]) np _ _ x2
              have z3 := (x3.mono (same_new (o := .lst [V.int ↑(n + (n - c) + i)]) np)).push (r := [((n + (n - c) + i : Nat) : Int)]) (b := p) upd_same
              have hpD : p ≠ D1 := (ne_of_none x2 np).symm
              have hpd : p ∉ ds := fun hm => by
                obtain ⟨k, hk⟩ := List.mem_iff_getElem?.mp hm
                obtain ⟨r', _, hr'⟩ := x3.2 k p hk
                rw [np] at hr'; cases hr'
              have hpH : H p = none := x1.free np
              generalize upd X p (.lst [V.int ↑(n + (n - c) + i)]) = X3 at z1 z2 z3 ⊢
              have hsz : (ds.map V.ref).length < sizeLine := small (by rw [List.length_map]; omega)
              walk_at "go"
              rw [refs_push]
              refine ⟨ds ++ [p], _, rfl, fun x y e => by rw [upd_ne (ne_of_none e hHD)]; exact z1 _ _ e, upd_same, ?_, nodup_push x4 hpd, fun t ht => ?_⟩
              · rw [List.range_succ, List.map_append (l₁ := List.range i), ← List.append_assoc]
                refine Ro.keep (f := V.int) z3 (fun t ht => upd_ne ?_)
                rcases List.mem_append.mp ht with z | z
                · exact (x5 t z).2
                · rw [List.mem_singleton.mp z]; exact hpD
              · rcases List.mem_append.mp ht with z | z
                · exact x5 t z
                · rw [List.mem_singleton.mp z]; exact ⟨hpH, hpD⟩
            · rintro σ X ⟨ds, y8, rfl, x1, x2, x3, x4, x5⟩
              rw [Int.toNat_natCast] at x3
              walk_at "go"
              have key : ∀ r ∈ (T ++ [[]] ++ (List.range n).map fun w : Nat => [((n + (n - c) + w : Nat) : Int)]), Gd ((n + (n - c) + 1 + n : Nat) : Int) 44 r ∧ r.Pairwise (· < ·) := fun r hr => by
                rcases List.mem_append.mp hr with z | z
                · rcases List.mem_append.mp z with y | y
                  · exact x7 r y
                  · rw [List.mem_singleton.mp y]; exact ⟨⟨Nat.zero_le _, List.nodup_nil, fun e he => nomatch he⟩, List.Pairwise.nil⟩
                · obtain ⟨w, hw, rfl⟩ := List.mem_map.mp z
                  have := List.mem_range.mp hw
                  exact ⟨⟨by show 1 ≤ 44; decide, nodup_le1 (Nat.le_refl 1), fun e he => by rw [List.mem_singleton.mp he]; omega⟩, List.pairwise_singleton _ _⟩
              have tl : ∀ k : Nat, k < n + (n - c) → (T ++ [[]] ++ (List.range n).map fun w : Nat => [((n + (n - c) + w : Nat) : Int)])[k]? = T[k]? := fun k hk => by
                rw [List.append_assoc, List.getElem?_append_left (by omega)]
              refine q X D1 ds _ (n + (n - c) + 1 + n) x1 hHD x2 x3 (fun t ht => (x5 t ht).1) x4 ⟨by simp only [List.length_append, List.length_map, List.length_range, List.length_singleton, hTl], fun r hr => ((key r hr).1).weak (by decide)⟩ (fun r hr => (key r hr).2) ⟨hlr, hcn, fun k hk => ?_, fun j r hj hr => ?_, fun j hj => ?_, fun _ => ?_, fun _ w hw => ?_⟩ (acyc_of (n := n) (fun k => if k < n + (n - c) then 3 * n + 5 else k - (n + (n - c))) ?_ ?_) (by omega) (by omega) (by omega)
              · rw [tl k (by omega)]; exact x6.grp k hk
              · rw [tl (c + j) (by omega), x6.bar j hj r hr, if_pos (by omega)]
              · rw [tl (n + j) (by omega)]; exact x6.mark j (by omega)
              · rw [List.append_assoc, List.getElem?_append_right (by omega), hTl, Nat.sub_self]; rfl
              · rw [List.append_assoc, List.getElem?_append_right (by omega), hTl, show n + (n - c) + (w + 1) - (n + (n - c)) = w + 1 by omega]
                show ((List.range n).map fun w : Nat => [((n + (n - c) + w : Nat) : Int)])[w]? = _
                rw [List.getElem?_map, List.getElem?_range hw]; rfl
              · rintro k e ⟨r, hr, he⟩ hk he2
                rw [tl k (by omega)] at hr
                by_cases hkc : k < c
                · rw [x6.grp k hkc] at hr; exact ⟨r, hr, he⟩
                · obtain ⟨r0, hr0⟩ : ∃ r, rs[k]? = some r := ⟨_, List.getElem?_eq_getElem (by omega)⟩
                  have := x6.bar (k - c) (by omega) r0 (by rw [show c + (k - c) = k by omega]; exact hr0)
                  rw [show c + (k - c) = k by omega, hr, if_pos (by omega)] at this
                  have := Option.some.inj this
                  subst this
                  rcases List.mem_append.mp he with z | z
                  · exact ⟨r0, hr0, z⟩
                  · have := List.mem_singleton.mp z; omega
              · rintro k e ⟨r, hr, he⟩ hk
                by_cases hkm : k < n + (n - c)
                · rw [tl k hkm] at hr
                  have := x6.mark (k - n) (by omega)
                  rw [show n + (k - n) = k by omega, hr] at this
                  have := Option.some.inj this
                  subst this
                  simp only [List.mem_cons, List.not_mem_nil, or_false] at he
                  rw [if_pos hkm, if_neg (by omega)]
                  omega
                · rw [List.append_assoc, List.getElem?_append_right (by omega), hTl] at hr
                  obtain ⟨j, hj⟩ : ∃ j, k - (n + (n - c)) = j := ⟨_, rfl⟩
                  rw [hj] at hr
                  cases j with
                  | zero => have : ([] : List Int) = r := Option.some.inj hr; subst this; exact nomatch he
                  | succ w =>
                    have hr : ((List.range n).map fun w : Nat => [((n + (n - c) + w : Nat) : Int)])[w]? = some r := hr
                    rw [List.getElem?_map] at hr
                    cases q3 : (List.range n)[w]? with
                    | none => rw [q3] at hr; cases hr
                    | some w2 =>
                      obtain ⟨hw1, hw2⟩ := List.getElem?_eq_some_iff.mp q3
                      rw [List.getElem_range] at hw2
                      subst hw2
                      rw [q3] at hr
                      have hr := Option.some.inj hr
                      subst hr
                      have := List.mem_singleton.mp he
                      rw [if_neg (by omega), if_neg (by omega)]
                      omega
end
end K40
namespace K40
open PySem PySem.Spec PyProof.Rows L2 Lw


local macro_rules | `(tactic| walk_at "look") => `(tactic| first
  | assumption
  | with_reducible exact upd_same
  | with_reducible exact rg_st
  | with_reducible exact rg_g (by assumption)
  | (with_reducible refine upd_old (by assumption) ?_; walk_at "look")
  | (with_reducible refine rg_get (by assumption) ?_; walk_at "look")
  | (with_reducible refine Same.get (by assumption) ?_; walk_at "look"))
local macro_rules | `(tactic| walk_at "cond") => `(tactic| first
  | (show _ ≠ _; omega) | exact cdivN (by omega) (by omega) | exact cmul_mod (by decide) (by decide) | exact cmulR (by omega) (by omega) | exact cmulL (by omega) (by omega) | exact cpow (by omega) (by omega) (by omega) (by omega) | (show (0:Int) ≤ _; omega))
local macro_rules | `(tactic| walk_at "at") => `(tactic| first | assumption | with_unfolding_all rfl)
local macro_rules | `(tactic| walk_at "sz") => `(tactic| first | assumption | (refine small ?_; omega) | (refine small ?_; simp only [List.length_map, List.length_append, List.length_cons, List.length_nil]; omega))
local macro_rules | `(tactic| walk_at "len") => `(tactic| first | exact size_nil | exact Nat.le_of_lt (small (by simp only [List.length_cons, List.length_nil, List.length_map]; omega)))
local macro_rules | `(tactic| walk_at "newD") => `(tactic| (refine ⟨by walk_at "len", fun p np => ?_⟩; obtain ⟨e, o', hD', n', ne'⟩ := newTD_eq (topRg _ _) (by assumption) (by assumption) np (.lst _); rw [e]; clear e))
local macro_rules | `(tactic| walk_at "new") => `(tactic| (refine ⟨by walk_at "len", fun p np => ?_⟩; obtain ⟨e, o', n'⟩ := newT_eq (topRg _ _) (by assumption) np (.lst _); rw [e]; clear e))
local macro_rules | `(tactic| walk_at "st") => `(tactic| first
  | with_reducible refine r_seq ?_
  | with_reducible refine r_var rfl ?_
  | with_reducible refine r_c ?_
  | with_reducible refine r_asg ?_
  | (with_reducible refine r_name ?_; dsimp only [List.set_cons_zero, List.set_cons_succ])
  | with_reducible refine r_sub ?_
  | with_reducible refine r_op ?_
  | with_reducible refine r_i0 ?_
  | (with_reducible refine' r_i ?k1 ?_; (case k1 => walk_at "cond"))
  | with_reducible refine r_cons ?_
  | with_reducible refine r_nil ?_
  | with_reducible refine r_cb ?_
  | with_reducible refine r_call ?_
  | with_reducible refine r_ifs ?_
  | with_reducible refine r_test ?_
  | with_reducible refine r_tB ?_
  | with_reducible refine r_bl ?_
  | with_reducible refine r_ret ?_
  | with_reducible refine r_drop ?_
  | with_reducible refine r_next ?_
  | (with_reducible refine' r_ixL ?k1 ?k2 ?_; (case k1 => walk_at "look"); (case k2 => walk_at "at"))
  | (with_reducible refine' r_setL ?k1 ?k2 ?_; (case k1 => walk_at "look"); (case k2 => walk_at "at"))
  | (with_reducible refine' r_tup (SqT.of ?k1) ?k2 ?_; (case k1 => walk_at "look"); (case k2 => rfl))
  | with_reducible refine r_gcons ?_
  | with_reducible refine r_gnil ?_
  | with_reducible refine r_aug rfl ?_
  | with_reducible refine r_augS ?_
  | with_reducible refine r_ipI ?_
  | with_reducible refine r_un ?_
  | with_reducible refine r_u ?_
  | with_reducible refine r_eq rfl ?_
  | with_reducible refine r_ne rfl ?_
  | with_reducible refine r_chain ?_
  | with_reducible refine iteF ?_
  | with_reducible refine r_not ?_
  | with_reducible refine r_and ?_
  | with_reducible refine r_or ?_
  | with_reducible refine r_andV ?_
  | with_reducible refine r_orV ?_
  | with_reducible refine r_notV ?_
  | with_reducible refine r_lst ?_
  | with_reducible refine r_bm ?_
  | with_reducible refine r_bm0 ?_
  | (with_reducible refine' And.intro (r_ty ?k1) ?_; (case k1 => walk_at "look"))
  | (with_reducible refine' r_append ?k1 ?k2 ?_; (case k1 => walk_at "look"); (case k2 => walk_at "sz"))
  | (with_reducible refine' r_lenK ?k1 ?_; (case k1 => walk_at "look"))
  | (with_reducible refine' r_listOf ?k1 ?_; (case k1 => walk_at "look"))
  | (with_reducible refine' r_sortedI ?k1 ?_; (case k1 => walk_at "look"))
  | (with_reducible refine' r_sum ?k1 ?_; (case k1 => walk_at "look"))
  | with_reducible refine r_int ?_
  | (with_reducible refine' r_draw (by assumption) ?k1 ?k2 ?_; (case k1 => omega); (case k2 => omega); intro R' n' o' h' h'')
  | with_reducible refine iteT ?_
  | with_reducible refine r_revL ?_
  | with_reducible refine r_lc ?_
  | with_reducible refine r_yes ?_
  | with_reducible refine r_sl ?_
  | with_reducible refine r_noPart ?_
  | with_reducible refine r_part ?_
  | with_reducible refine r_lc2 ?_
  | with_reducible refine r_callN ?_
  | with_reducible refine r_callD ?_
  | with_reducible refine r_tupE ?_
  | with_reducible refine r_rng2 ?_
  | with_reducible refine r_i1 ?_
  | (with_reducible refine' r_slL ?k1 ?_; (case k1 => walk_at "look"))
  | with_reducible refine r_for ?_
  | with_reducible refine r_iList ?_
  | with_reducible refine r_rng1 ?_
  | with_reducible refine r_enum ?_
  | (with_reducible show Ends.nx _ _ _; dsimp only)
  | (with_reducible show Ends.rt _ _ _; dsimp only)
  | (with_reducible show Ends.ct _ _ _; dsimp only)
  | (with_reducible show Ends.bk _ _ _; dsimp only))
local macro_rules | `(tactic| walk_at "go") => `(tactic| repeat (walk_at "st"))
local macro_rules | `(tactic| walk_at "begin") => `(tactic| dsimp only [cxOf, wipe, L2.start, List.map, List.length_cons, List.length_nil, Nat.reduceAdd, Nat.reduceSub, List.replicate, List.cons_append, List.nil_append])


open Lm
local macro_rules | `(tactic| walk_at "st") => `(tactic| first
  | with_reducible refine r_nGet ?_
  | with_reducible refine r_nIn ?_
  | with_reducible refine r_nPut ?_
  | with_reducible refine r_nNew ?_
  | (with_reducible refine' r_tupleOf ?k1 ?_; (case k1 => walk_at "look"))
  | (with_reducible refine' r_nLen ?k1 ?_; (case k1 => assumption)))
def spNumbers : Sp := fun vs H Q _ => ∃ (a : Addr) (as : List Addr) (T : List (List Int)) (l : Nat), vs = [.ref a] ∧ H a = some (.lst (as.map V.ref)) ∧ Rw H as T ∧ Wf l 60 T ∧ 1 ≤ l ∧ l ≤ 200 ∧
  ∀ (H' : Hp) (q : Addr) (N : List Int), Same H H' → H' q = some (.lst (N.map V.int)) → N.length = l → Rs l T N → Fin l T N → Q (.ref q) H'
def ky2 (l : Nat) (T : List (List Int)) (p : List Int) (a : Nat) : Int × List Int := (pAt p a, asc ((rowAt T a).map fun e => pAt p e.toNat))
section
variable {P : Program} {w : World} {K : PySem.W.Frag} {mg : Str → Option Value} {base : Heap}
theorem ok_numbers {f : Addr} {fd : FuncData} {k : Nat} (B : Blt mg) (D : Dn K mg "_law_numbers" s__law_numbers ["drawing"] f fd) : FnOk P w K mg base CX0 (k + 1) f fd ["drawing"] spNumbers := by
  refine D.F.ok sc__law_numbers (fun vs H Q E h => ?_) (fun cdv A outer s H vs Q E hr h => ?_)
  · obtain ⟨a, as, T, l, rfl, _⟩ := h
    rfl
  · obtain ⟨a, as, T, l, rfl, ha, hrw, hwf, hl1, hl2, q⟩ := h
    have hlr : T.length = l := hwf.1
    have hla : as.length = l := by rw [hrw.1]; exact hwf.1
    have hin : In T := In.of hwf
    have h0 : ∀ r ∈ T, ∀ e ∈ r, 0 ≤ e := fun r hr e he => ((hwf.2 r hr).2.2 e he).1
    have hg : ∀ {r}, r ∈ T → gp l r = r := fun {r} hr => by
      unfold gp
      rw [List.filter_eq_self]
      intro e he
      exact decide_eq_true ((hwf.2 r hr).2.2 e he).2
    have hbr : ∀ {r}, r ∈ T → br l r = [] := fun {r} hr => by
      unfold br
      rw [List.filter_eq_nil_iff]
      intro e he
      have := ((hwf.2 r hr).2.2 e he).2
      rw [decide_eq_true_eq]; omega
    refine ⟨_, (pss_cons (ps_set (i := 1) sc__law_numbers.nd rfl (.inr rfl) (pe_lc (own := [("row", 6)]) rfl sc__law_numbers.nd (pi_listK (K := K) rfl (pv 0)) (blkOk_by (own := [("row", 6)]) (by kernel_rfl))
        (fun _ _ _ _ _ => (pg_name (i := 6) sc__law_numbers.nd rfl (.inl rfl))) (fun _ _ _ _ _ => pts_nil)
        (fun _ _ _ _ _ => pe_int)))
      (pss_cons (ps_set (i := 2) sc__law_numbers.nd rfl (.inl rfl) pe_int)
      (pss_cons (ps_for PassesOwn.never rfl (pi_range1 (by rfl) B.m_range (pa_cons (pe_op op_add (pe_callB (call_len_seqK (K := K) rfl) (by rfl) B.m_len PySem.boot_len (pa_cons (pv 0) pa_nil)) pe_int) pa_nil)) (pg_name (i := 3) sc__law_numbers.nd rfl (.inl rfl)) (pss_cons (ps_set (i := 4) sc__law_numbers.nd rfl (.inl rfl) pe_nnew)
      (pss_cons (ps_set (i := 5) sc__law_numbers.nd rfl (.inl rfl) (pe_lst pa_nil))
      (pss_cons (ps_for PassesOwn.never rfl (pi_listK (K := K) rfl (pv 0)) (pg_name (i := 6) sc__law_numbers.nd rfl (.inl rfl)) (pss_cons (ps_set (i := 7) sc__law_numbers.nd rfl (.inl rfl) (pe_callB (cr_sortedSetK (w := w) rfl rfl) (by rfl) B.m_sorted (by decide +kernel) (pa_cons (pe_callTy (cr_setOf (K := K) (w := w) rfl rfl rfl) (by rfl) B.m_set (by decide +kernel) (pa_cons (pe_lc (own := [("place", 9)]) rfl sc__law_numbers.nd (pi_listK (K := K) rfl (pv 6)) (blkOk_by (own := [("place", 9)]) (by kernel_rfl))
        (fun _ _ _ _ _ => (pg_name (i := 9) sc__law_numbers.nd rfl (.inl rfl))) (fun _ _ _ _ _ => pts_nil)
        (fun _ _ _ _ _ => (pe_callTy call_int1 (by rfl) B.m_int (by decide +kernel) (pa_cons (pe_ix (ix_listK (K := K) rfl) (pv 1) (pv 9) (fun _ _ => rfl)) pa_nil)))) pa_nil)) pa_nil)))
      (pss_cons (ps_set (i := 8) sc__law_numbers.nd rfl (.inl rfl) (pe_tup (pa_cons (pe_ix (ix_listK (K := K) rfl) (pv 1) (pe_callB (call_len_seqK (K := K) rfl) (by rfl) B.m_len PySem.boot_len (pa_cons (pv 5) pa_nil)) (fun _ _ => rfl)) (pa_cons (pe_callTy (call_tuple_ofK (K := K) rfl) (by rfl) B.m_tuple (by decide +kernel) (pa_cons (pv 7) pa_nil)) pa_nil))))
      (C8.pss_cut (ps_if (pt_cmp (pc_nnotin (hu2_of hr) (pv 8) (pv 4)) (by rfl)) (pss_one (ps_nput (hu2_of hr) (pv 4) (pv 8) (pe_callB call_len_nd (by rfl) B.m_len PySem.boot_len (pa_cons (pv 4) pa_nil)) rfl)) pss_nil)
      (pss_one (ps_expr (pe_bmK (K := K) rfl PySem.F.plainAttrs_list PySem.F.slot_list_append PySem.F.type_list_append mt_append (pv 5) (pa_cons (pe_nget (hu2_of hr) (pv 4) (pv 8) (fun _ _ => rfl)) pa_nil))))))))
      (pss_cons (ps_set (i := 1) sc__law_numbers.nd rfl (.inr rfl) (pv 5))
      (pss_cons (ps_if (pt_cmpR op_eq (pe_callB call_len_nd (by rfl) B.m_len PySem.boot_len (pa_cons (pv 4) pa_nil)) (pv 2) (nomark _)) (pss_one (ps_ret (pv 1))) pss_nil)
      (pss_one (ps_set (i := 2) sc__law_numbers.nd rfl (.inl rfl) (pe_callB call_len_nd (by rfl) B.m_len PySem.boot_len (pa_cons (pv 4) pa_nil))))))))))
      (pss_one (ps_ret (pv 1)))))), ?_⟩
    walk_at "begin"
    walk_at "go"
    refine lcT_list topH (K := K) (s0 := ()) trivial (xs := as.map V.ref) ha (fun i C acc => acc = (List.replicate i (0 : Int)).map V.int) rfl ?_ ?_
    · rintro D1 i x _ C acc _ hD hS hx rfl
      have hi := (List.getElem?_eq_some_iff.mp hx).1
      rw [List.length_map] at hi
      walk_at "begin"
      walk_at "go"
      refine ⟨rfl, ?_⟩
      walk_at "go"
      refine lcN_put topH (s := ()) trivial hD hS ?_ ?_
      · rw [List.length_map, List.length_replicate]; omega
      · show _ = List.map V.int (List.replicate (i + 1) (0 : Int))
        rw [List.replicate_succ', List.map_append]; rfl
    · rintro D1 _ C acc _ hB1 hD1 hS1 rfl
      rw [List.length_map, hla]
      have hSG : Same H (upd C D1 (.lst ((List.replicate l (0 : Int)).map V.int))) := hS1.trans (same_new hD1)
      have hd1 : upd C D1 (.lst ((List.replicate l (0 : Int)).map V.int)) D1 = some (.lst ((List.replicate l (0 : Int)).map V.int)) := upd_same
      dsimp only at *
      generalize upd C D1 (.lst ((List.replicate l (0 : Int)).map V.int)) = G at hSG hd1 ⊢
      clear hS1 hD1 C
      have haG := hSG _ _ ha
      walk_at "go"
      rw [List.length_map, hla]
      refine r_forR (n := (l : Int) + 1) (by omega) (by omega) (fun t σ X => ∃ (p : List Int) (pa : Addr) (y3 y4 y5 y6 y7 y8 : Option V), σ = [some (.ref a), some (.ref pa), some (.int ((nf p : Nat) : Int)), y3, y4, y5, y6, y7, y8, none] ∧ Same H X ∧ X pa = some (.lst (p.map V.int)) ∧ Rs l T p ∧ t < nf p) ?_ ?_ ?_
      · exact ⟨_, D1, _, _, _, _, _, _, by rw [nf_zeros l hl1]; rfl, hSG, hd1, zeros_rs l T, by rw [nf_zeros l hl1]; exact Nat.zero_lt_one⟩
      · rintro t σ X ht ⟨p, pa, y3, y4, y5, y6, y7, y8, rfl, x1, x2, hp, htn⟩
        have hpl := hp.len
        walk_at "go"
        intro Dt X1 nDt c1 n1
        have hHt : H Dt = none := x1.free nDt
        have x11 : Same H X1 := fun b u e => by rw [c1 b (ne_of_none e hHt)]; exact x1 _ _ e
        have x12 : X1 pa = some (.lst (p.map V.int)) := by rw [c1 pa (ne_of_none x2 nDt)]; exact x2
        walk_at "go"
        refine ⟨by walk_at "len", fun Df nDf => ?_⟩
        have hHf : H Df = none := x11.free nDf
        have hpf : pa ≠ Df := ne_of_none x12 nDf
        have hpt : pa ≠ Dt := ne_of_none x2 nDt
        have htf : Dt ≠ Df := by
          obtain ⟨xs, e, _⟩ := n1
          exact ne_of_none e nDf
        have s2 := same_new (o := .lst []) nDf
        have x21 := x11.trans s2
        have x22 := s2 _ _ x12
        have n2 : Nd P w (upd X1 Df (.lst [])) Dt [] := n1.keep (upd_ne htf) (fun b ys e => s2 _ _ e)
        have x24 : upd X1 Df (.lst []) Df = some (.lst (([] : List Int).map V.int)) := upd_same
        generalize upd X1 Df (.lst []) = X2 at x21 x22 n2 x24 ⊢
        clear s2 n1 c1 x11 x12
        have ha2 := x21 _ _ ha
        walk_at "go"
        refine r_forL (xs := as.map V.ref) ha2 (fun j σ Y => ∃ (ks : List (Int × List Int)) (f : List Int) (y6 y7 y8 : Option V), σ = [some (.ref a), some (.ref pa), some (.int ((nf p : Nat) : Int)), some (.int t), some (.ref Dt), some (.ref Df), y6, y7, y8, none] ∧ Same H Y ∧ Y pa = some (.lst (p.map V.int)) ∧ Nd P w Y Dt (tag pk ks) ∧ Y Df = some (.lst (f.map V.int)) ∧ Fr ks f (ky2 l T p) j) ?_ ?_ ?_ ?_
        · exact ⟨[], [], _, _, _, rfl, x21, x22, n2, x24, Fr.nil⟩
        · rintro j σ Y _ ⟨ks, f, y6, y7, y8, rfl, w1, _⟩
          exact w1 _ _ ha
        · rintro j x σ Y hx ⟨ks, f, y6, y7, y8, rfl, w1, w2, w3, w4, F⟩
          obtain ⟨b, r, rfl, hb1, hr1, hb3⟩ := (hrw.mono w1).at hx
          have hj := (List.getElem?_eq_some_iff.mp hr1).1
          have hrm := List.mem_of_getElem? hr1
          have hgd := hwf.2 r hrm
          have hgl := hgd.1
          have hfl : f.length = j := F.len
          have at_p : ∀ i : Nat, i < l → atI (p.map V.int) (i : Int) = some (.int (pAt p i)) := fun i hi => at_i (by omega) (by rw [Int.toNat_natCast, List.getElem?_map, pAt_of (by omega)]; rfl)
          walk_at "go"
          refine lcT_list topH (K := K) (s0 := ()) trivial (xs := r.map V.int) hb3 (fun m C acc => acc = ((r.take m).map fun e => pAt p e.toNat).map V.int) rfl ?_ ?_
          · rintro D3 m x _ C2 acc _ hD2 hS2 hy rfl
            obtain ⟨e, rfl, he⟩ := ints_at hy
            have hm := (List.getElem?_eq_some_iff.mp he).1
            have hge := hgd.2.2 e (List.mem_of_getElem? he)
            have hate : atI (p.map V.int) e = some (.int (pAt p e.toNat)) := by
              have := at_p e.toNat (by omega)
              rwa [Int.toNat_of_nonneg hge.1] at this
            have hd12 := hS2 _ _ w2
            walk_at "begin"
            walk_at "go"
            refine ⟨rfl, ?_⟩
            walk_at "go"
            refine lcN_put topH (s := ()) trivial hD2 hS2 ?_ ?_
            · rw [List.length_map, List.length_map, List.length_take]; omega
            · rw [mp_put he, List.map_append]; rfl
          · rintro D3 _ C2 acc _ hB2 hD2 hS2 rfl
            rw [List.length_map, List.take_length]
            walk_at "go"
            refine r_setOf upd_same (by rw [List.length_map]; omega) fun cc p2 hcc np2 => ?_
            rw [List.length_map] at hcc
            walk_at "go"
            refine r_sortedSet upd_same (by omega) fun hs p3 hpw hmem hnl np3 => ?_
            have hS5 : Same Y (upd (upd (upd C2 D3 (.lst ((r.map fun e => pAt p e.toNat).map V.int))) p2 (SetO w p2 (fun j => decide (j ∈ (r.map fun e => pAt p e.toNat))) cc)) p3 (.lst (hs.map V.int))) := ((hS2.trans (same_new hD2)).trans (same_new np2)).trans (same_new np3)
            have hp3 : (upd (upd (upd C2 D3 (.lst ((r.map fun e => pAt p e.toNat).map V.int))) p2 (SetO w p2 (fun j => decide (j ∈ (r.map fun e => pAt p e.toNat))) cc)) p3 (.lst (hs.map V.int))) p3 = some (.lst (hs.map V.int)) := upd_same
            have hks : hs = asc (r.map fun e => pAt p e.toNat) := asc_of hpw fun z => by rw [hmem, decide_eq_true_eq]
            generalize upd (upd (upd C2 D3 (.lst ((r.map fun e => pAt p e.toNat).map V.int))) p2 (SetO w p2 (fun j => decide (j ∈ (r.map fun e => pAt p e.toNat))) cc)) p3 (.lst (hs.map V.int)) = Y5 at hS5 hp3 ⊢
            clear hB2 np2 np3 hD2 hS2 hnl hcc hmem C2
            have u1 := w1.trans hS5
            have u2 := hS5 _ _ w2
            have u4 := hS5 _ _ w4
            have u3 : Nd P w Y5 Dt (tag pk ks) := w3.keep (by obtain ⟨xs, e, _⟩ := w3; rw [e]; exact hS5 _ _ e) (fun b ys e => hS5 _ _ e)
            have hatj := at_p j (by omega)
            walk_at "go"
            rw [List.length_map, hfl]
            walk_at "go"
            intro p4 np4
            walk_at "go"
            refine ⟨by walk_at "len", fun p6 np6 => ?_⟩
            have s4 := same_new (o := .tup (hs.map V.int)) np4
            have s6 := same_new (o := .tup [V.int (pAt p j), .ref p4]) np6
            have v1 := (u1.trans s4).trans s6
            have v2 := s6 _ _ (s4 _ _ u2)
            have v4 := s6 _ _ (s4 _ _ u4)
            have v3 : Nd P w (upd (upd Y5 p4 (.tup (hs.map V.int))) p6 (.tup [V.int (pAt p j), .ref p4])) Dt (tag pk ks) := u3.keep (by obtain ⟨xs, e, _⟩ := u3; rw [e]; exact s6 _ _ (s4 _ _ e)) (fun b ys e => s6 _ _ (s4 _ _ e))
            have hk1 : (upd (upd Y5 p4 (.tup (hs.map V.int))) p6 (.tup [V.int (pAt p j), .ref p4])) p6 = some (.tup [V.int (pAt p j), .ref p4]) := upd_same
            have hk2 := s6 _ _ (upd_same (H := Y5) (a := p4) (o := .tup (hs.map V.int)))
            generalize upd (upd Y5 p4 (.tup (hs.map V.int))) p6 (.tup [V.int (pAt p j), .ref p4]) = Y6 at v1 v2 v3 v4 hk1 hk2 ⊢
            clear s4 s6 np6 np4 u1 u2 u3 u4 hS5 hp3
            have hkey : ky2 l T p j = (pAt p j, hs) := by unfold ky2; rw [rowAt_of hr1, hks]
            have isp : IsP Y6 (.ref p6) (pk (ky2 l T p j)) := by rw [hkey]; exact isP_of hk1 hk2
            have ndt : ∀ b ys, Y6 b = some (.tup ys) → b ≠ Dt := fun b ys e z => by
              obtain ⟨xs, e2, _⟩ := v3
              rw [← z, e] at e2
              exact nomatch (show HO.tup _ = HO.ext _ from Option.some.inj e2)
            have hfd : Df ≠ Dt := fun z => by
              obtain ⟨xs, e2, _⟩ := v3
              rw [← z, v4] at e2
              exact nomatch (show HO.lst _ = HO.ext _ from Option.some.inj e2)
            have hpd : pa ≠ Dt := fun z => by
              obtain ⟨xs, e2, _⟩ := v3
              rw [← z, v2] at e2
              exact nomatch (show HO.lst _ = HO.ext _ from Option.some.inj e2)
            have hkl : ks.length ≤ 200 := by have := F.le; omega
            walk_at "go"
            refine ⟨fun σ HM => ∃ (ks3 : List (Int × List Int)) (jj : Nat), σ = [some (.ref a), some (.ref pa), some (.int ((nf p : Nat) : Int)), some (.int t), some (.ref Dt), some (.ref Df), some (.ref b), some (.ref p3), some (.ref p6), none] ∧ Same H HM ∧ HM pa = some (.lst (p.map V.int)) ∧ Nd P w HM Dt (tag pk ks3) ∧ HM Df = some (.lst (f.map V.int)) ∧
              IsP HM (.ref p6) (pk (ky2 l T p j)) ∧ ks3[jj]? = some (ky2 l T p j) ∧ Fr ks3 (f ++ [(jj : Int)]) (ky2 l T p) (j + 1), ?_, ?_⟩
            · walk_at "go"
              by_cases hin2 : ky2 l T p j ∈ ks
              · obtain ⟨jj, hjj⟩ := List.mem_iff_getElem?.mp hin2
                refine ⟨Dt, _, _, rfl, v3, isp, ?_⟩
                rw [tag_get pk_inj F.nd hjj]
                walk_at "go"
                refine r_iteB (fun z => absurd z (by simp)) (fun _ => ?_)
                walk_at "go"
                exact ⟨ks, jj, rfl, v1, v2, v3, v4, isp, hjj, F.old hjj⟩
              · refine ⟨Dt, _, _, rfl, v3, isp, ?_⟩
                rw [tag_none pk_inj hin2]
                walk_at "go"
                refine r_iteB (fun _ => ?_) (fun z => absurd z (by simp))
                walk_at "go"
                refine ⟨Dt, _, _, rfl, v3, isp, small (by rw [tag_len]; omega), fun H4 c4 n4 => ?_⟩
                rw [tag_len, tag_put pk_inj hin2] at n4
                have g1 : Same H H4 := fun x y e => by rw [c4 x (ne_of_none e hHt)]; exact v1 _ _ e
                obtain ⟨a1, b1, e0, e1, e2⟩ := isp
                exact ⟨ks ++ [ky2 l T p j], ks.length, rfl, g1, by rw [c4 pa hpd]; exact v2, n4, by rw [c4 Df hfd]; exact v4, ⟨a1, b1, e0, by rw [c4 a1 (ndt _ _ e1)]; exact e1, by rw [c4 b1 (ndt _ _ e2)]; exact e2⟩, by rw [List.getElem?_append_right (Nat.le_refl _), Nat.sub_self]; rfl, F.new hin2⟩
            · rintro σ HM ⟨ks3, jj, rfl, t1, t2, t3, t4, isp3, hjj, F3⟩
              have hsz : (f.map V.int).length < sizeLine := small (by rw [List.length_map]; omega)
              walk_at "go"
              refine ⟨Dt, _, _, _, rfl, t3, isp3, tag_get pk_inj F3.nd hjj, ?_⟩
              walk_at "go"
              rw [ints_push]
              refine ⟨ks3, f ++ [(jj : Int)], _, _, _, rfl, fun x y e => by rw [upd_ne (ne_of_none e hHf)]; exact t1 _ _ e, by rw [upd_ne hpf]; exact t2, t3.keep (upd_ne htf) (fun b ys e => ?_), upd_same, F3⟩
              rw [upd_ne (fun z => by rw [z, t4] at e; cases e)]
              exact e
        · rintro σ Y ⟨ks, f, y6, y7, y8, rfl, w1, w2, w3, w4, F⟩
          rw [List.length_map, hla] at F
          have F3 : Fr (ks.map fun x => (x.1, x.2, ([] : List Int))) f (keyK l T p) l := (F.map (g := fun x : Int × List Int => (x.1, x.2, ([] : List Int))) (fun x y e => Prod.ext (congrArg (fun z : Int × List Int × List Int => z.1) e) (congrArg (fun z : Int × List Int × List Int => z.2.1) e))).congr fun i hi => by
            obtain ⟨r, hr1⟩ : ∃ r, T[i]? = some r := ⟨_, List.getElem?_eq_getElem (by omega)⟩
            have hrm := List.mem_of_getElem? hr1
            unfold ky2 keyK
            rw [rowAt_of hr1, hg hrm, hbr hrm]
          have ky := keyK_ky (rs := T) (p := p) hlr (Nat.le_refl l) hpl h0
          obtain ⟨Q1, R1⟩ := hp.next ky hlr (Nat.le_refl l) h0 (fun a _ => asc_pw _) F3
          walk_at "go"
          rw [tag_len]
          refine r_ite (fun he => ?_) (fun hne => ?_)
          · have heq : nf f = nf p := by have := V.int.inj he; rw [F.nf]; omega
            have f1 := R1.fin ky hlr (Nat.le_refl l) h0 fun a b ha hb e2 => (R1.still heq ha hb).mpr e2
            walk_at "go"
            exact q Y Df f w1 w4 F.len Q1 (f1.next hp Q1 R1)
          · have hne2 : nf f ≠ nf p := fun z => hne (by rw [← F.nf, z])
            have hle := R1.le
            walk_at "go"
            rw [tag_len]
            exact ⟨f, Df, _, _, _, _, _, _, by rw [F.nf], w1, w4, Q1, by omega⟩
      · rintro σ X ⟨p, pa, y3, y4, y5, y6, y7, y8, rfl, x1, x2, hp, htn⟩
        have := nf_le p
        have := hp.len
        omega
end
end K40
namespace K40
open PySem PySem.Spec PyProof.Rows L2 Lw


local macro_rules | `(tactic| walk_at "look") => `(tactic| first
  | assumption
  | with_reducible exact upd_same
  | with_reducible exact rg_st
  | with_reducible exact rg_g (by assumption)
  | (with_reducible refine upd_old (by assumption) ?_; walk_at "look")
  | (with_reducible refine rg_get (by assumption) ?_; walk_at "look")
  | (with_reducible refine Same.get (by assumption) ?_; walk_at "look"))
local macro_rules | `(tactic| walk_at "cond") => `(tactic| first
  | (show _ ≠ _; omega) | exact cdivN (by omega) (by omega) | exact cmul_mod (by decide) (by decide) | exact cmulR (by omega) (by omega) | exact cmulL (by omega) (by omega) | exact cpow (by omega) (by omega) (by omega) (by omega) | (show (0:Int) ≤ _; omega))
local macro_rules | `(tactic| walk_at "at") => `(tactic| first | assumption | with_unfolding_all rfl)
local macro_rules | `(tactic| walk_at "sz") => `(tactic| first | assumption | (refine small ?_; omega) | (refine small ?_; simp only [List.length_map, List.length_append, List.length_cons, List.length_nil]; omega))
local macro_rules | `(tactic| walk_at "len") => `(tactic| first | exact size_nil | exact Nat.le_of_lt (small (by simp only [List.length_cons, List.length_nil, List.length_map]; omega)))
local macro_rules | `(tactic| walk_at "newD") => `(tactic| (refine ⟨by walk_at "len", fun p np => ?_⟩; obtain ⟨e, o', hD', n', ne'⟩ := newTD_eq (topRg _ _) (by assumption) (by assumption) np (.lst _); rw [e]; clear e))
local macro_rules | `(tactic| walk_at "new") => `(tactic| (refine ⟨by walk_at "len", fun p np => ?_⟩; obtain ⟨e, o', n'⟩ := newT_eq (topRg _ _) (by assumption) np (.lst _); rw [e]; clear e))
local macro_rules | `(tactic| walk_at "st") => `(tactic| first
  | with_reducible refine r_seq ?_
  | with_reducible refine r_var rfl ?_
  | with_reducible refine r_c ?_
  | with_reducible refine r_asg ?_
  | (with_reducible refine r_name ?_; dsimp only [List.set_cons_zero, List.set_cons_succ])
  | with_reducible refine r_sub ?_
  | with_reducible refine r_op ?_
  | with_reducible refine r_i0 ?_
  | (with_reducible refine' r_i ?k1 ?_; (case k1 => walk_at "cond"))
  | with_reducible refine r_cons ?_
  | with_reducible refine r_nil ?_
  | with_reducible refine r_cb ?_
  | with_reducible refine r_call ?_
  | with_reducible refine r_ifs ?_
  | with_reducible refine r_test ?_
  | with_reducible refine r_tB ?_
  | with_reducible refine r_bl ?_
  | with_reducible refine r_ret ?_
  | with_reducible refine r_drop ?_
  | with_reducible refine r_next ?_
  | (with_reducible refine' r_ixL ?k1 ?k2 ?_; (case k1 => walk_at "look"); (case k2 => walk_at "at"))
  | (with_reducible refine' r_setL ?k1 ?k2 ?_; (case k1 => walk_at "look"); (case k2 => walk_at "at"))
  | (with_reducible refine' r_tup (SqT.of ?k1) ?k2 ?_; (case k1 => walk_at "look"); (case k2 => rfl))
  | with_reducible refine r_gcons ?_
  | with_reducible refine r_gnil ?_
  | with_reducible refine r_aug rfl ?_
  | with_reducible refine r_augS ?_
  | with_reducible refine r_ipI ?_
  | with_reducible refine r_un ?_
  | with_reducible refine r_u ?_
  | with_reducible refine r_eq rfl ?_
  | with_reducible refine r_ne rfl ?_
  | with_reducible refine r_chain ?_
  | with_reducible refine iteF ?_
  | with_reducible refine r_not ?_
  | with_reducible refine r_and ?_
  | with_reducible refine r_or ?_
  | with_reducible refine r_andV ?_
  | with_reducible refine r_orV ?_
  | with_reducible refine r_notV ?_
  | with_reducible refine r_lst ?_
  | with_reducible refine r_bm ?_
  | with_reducible refine r_bm0 ?_
  | (with_reducible refine' And.intro (r_ty ?k1) ?_; (case k1 => walk_at "look"))
  | (with_reducible refine' r_append ?k1 ?k2 ?_; (case k1 => walk_at "look"); (case k2 => walk_at "sz"))
  | (with_reducible refine' r_lenK ?k1 ?_; (case k1 => walk_at "look"))
  | (with_reducible refine' r_listOf ?k1 ?_; (case k1 => walk_at "look"))
  | (with_reducible refine' r_sortedI ?k1 ?_; (case k1 => walk_at "look"))
  | (with_reducible refine' r_sum ?k1 ?_; (case k1 => walk_at "look"))
  | with_reducible refine r_int ?_
  | (with_reducible refine' r_draw (by assumption) ?k1 ?k2 ?_; (case k1 => omega); (case k2 => omega); intro R' n' o' h' h'')
  | with_reducible refine iteT ?_
  | with_reducible refine r_revL ?_
  | with_reducible refine r_lc ?_
  | with_reducible refine r_yes ?_
  | with_reducible refine r_sl ?_
  | with_reducible refine r_noPart ?_
  | with_reducible refine r_part ?_
  | with_reducible refine r_lc2 ?_
  | with_reducible refine r_callN ?_
  | with_reducible refine r_callD ?_
  | with_reducible refine r_tupE ?_
  | with_reducible refine r_rng2 ?_
  | with_reducible refine r_i1 ?_
  | (with_reducible refine' r_slL ?k1 ?_; (case k1 => walk_at "look"))
  | with_reducible refine r_for ?_
  | with_reducible refine r_iList ?_
  | with_reducible refine r_rng1 ?_
  | with_reducible refine r_enum ?_
  | (with_reducible show Ends.nx _ _ _; dsimp only)
  | (with_reducible show Ends.rt _ _ _; dsimp only)
  | (with_reducible show Ends.ct _ _ _; dsimp only)
  | (with_reducible show Ends.bk _ _ _; dsimp only))
local macro_rules | `(tactic| walk_at "go") => `(tactic| repeat (walk_at "st"))
local macro_rules | `(tactic| walk_at "begin") => `(tactic| dsimp only [cxOf, wipe, L2.start, List.map, List.length_cons, List.length_nil, Nat.reduceAdd, Nat.reduceSub, List.replicate, List.cons_append, List.nil_append])


open Lm
theorem r_notInDd {K : PySem.W.Frag} {H : Hp} {Q : VK} {x y : V} {d : PyData} {ds : List PyData} (h1 : Dp K H x d) (h2 : Dp K H y (.list ds)) (s1 : SeqAt.shaped d = true) (s2 : SeqAt.shaped (.list ds) = true) (p1 : pl d = true) (p2 : plAll ds = true) (q : ∀ b : Bool, (b = true ↔ d ∉ ds) → Q (.bl b) H) : rNotInD K x y H Q := by
  refine ⟨d, ds, h1, h2, s1, s2, q _ ?_⟩
  rw [Bool.not_eq_true', ← Bool.not_eq_true, List.any_eq_true, not_congr]
  constructor
  · rintro ⟨z, hz, e⟩
    rw [eqv_iff z d (plAll_mem p2 hz) p1] at e
    rw [← e]; exact hz
  · intro hm
    exact ⟨d, hm, (eqv_iff d d p1 p1).mpr rfl⟩
theorem gp_len {n L c : Nat} {r : List Int} (h : Gd (n : Int) L r) : (gp c r).length ≤ c := by
  have h1 : (gp c r).Nodup := h.2.1.sublist List.filter_sublist
  have h2 := nat_list (n := c) h1 fun s hs => ⟨(h.2.2 s (gp_mem.mp hs).1).1, (gp_mem.mp hs).2⟩
  have := nodup_le h2.1 h2.2
  rwa [List.length_map] at this
theorem upd_swapX {H : Hp} {a b : Addr} {x y : HO} (h : a ≠ b) : upd (upd H a x) b y = upd (upd H b y) a x := by
  funext c
  by_cases h1 : c = a
  · subst h1; rw [upd_ne h, upd_same, upd_same]
  · by_cases h2 : c = b
    · subst h2; rw [upd_same, upd_ne h1, upd_same]
    · rw [upd_ne h2, upd_ne h1, upd_ne h1, upd_ne h2]
def spClasses : Sp := fun vs H Q _ => ∃ (a : Addr) (as : List Addr) (rs : List (List Int)) (n L c : Nat), vs = [.int (c : Int), .ref a] ∧ H a = some (.lst (as.map V.ref)) ∧ Rw H as rs ∧ Wf n L rs ∧ c ≤ n ∧ n ≤ 128 ∧ L ≤ 700 ∧ c ≤ 60 ∧
  ∀ (H' : Hp) (q : Addr) (p : List Int), Same H H' → H' q = some (.lst (p.map V.int)) → Rs c rs p → Fin c rs p → Q (.ref q) H'
section
variable {P : Program} {w : World} {K : PySem.W.Frag} {mg : Str → Option Value} {base : Heap}
theorem ok_classes {f : Addr} {fd : FuncData} {k : Nat} (B : Blt mg) (D : Dn K mg "_law_classes" s__law_classes ["count", "rows"] f fd) : FnOk P w K mg base CX0 (k + 1) f fd ["count", "rows"] spClasses := by
  refine D.F.ok sc__law_classes (fun vs H Q E h => ?_) (fun cdv A outer s H vs Q E hr h => ?_)
  · obtain ⟨a, as, rs, n, L, c, rfl, _⟩ := h
    rfl
  · obtain ⟨a, as, rs, n, L, c, rfl, ha, hrw, hwf, hcn, hn, hL, hc60, q⟩ := h
    have hlr : rs.length = n := hwf.1
    have hla : as.length = n := by rw [hrw.1]; exact hwf.1
    have h0 : ∀ r ∈ rs, ∀ e ∈ r, 0 ≤ e := fun r hr e he => ((hwf.2 r hr).2.2 e he).1
    refine ⟨_, (pss_cons (ps_set (i := 2) sc__law_classes.nd rfl (.inr rfl) (pe_lc (own := [("g", 6)]) rfl sc__law_classes.nd (pi_range1 (by rfl) B.m_range (pa_cons (pv 0) pa_nil)) (blkOk_by (own := [("g", 6)]) (by kernel_rfl))
        (fun _ _ _ _ _ => (pg_name (i := 6) sc__law_classes.nd rfl (.inl rfl))) (fun _ _ _ _ _ => pts_nil)
        (fun _ _ _ _ _ => pe_int)))
      (pss_cons (ps_for PassesOwn.never rfl (pi_range1 (by rfl) B.m_range (pa_cons (pv 0) pa_nil)) (pg_name (i := 3) sc__law_classes.nd rfl (.inl rfl)) (pss_cons (ps_set (i := 4) sc__law_classes.nd rfl (.inl rfl) (pe_lst pa_nil))
      (pss_cons (ps_set (i := 5) sc__law_classes.nd rfl (.inl rfl) (pe_lst pa_nil))
      (pss_cons (ps_for PassesOwn.never rfl (pi_range1 (by rfl) B.m_range (pa_cons (pv 0) pa_nil)) (pg_name (i := 6) sc__law_classes.nd rfl (.inl rfl)) (pss_cons (ps_set (i := 7) sc__law_classes.nd rfl (.inl rfl) (pe_callB (cr_sortedSetK (w := w) rfl rfl) (by rfl) B.m_sorted (by decide +kernel) (pa_cons (pe_callTy (cr_setOf (K := K) (w := w) rfl rfl rfl) (by rfl) B.m_set (by decide +kernel) (pa_cons (pe_lc (own := [("place", 9)]) rfl sc__law_classes.nd (pi_listK (K := K) rfl (pe_ix (ix_listK (K := K) rfl) (pv 1) (pv 6) (fun _ _ => rfl))) (blkOk_by (own := [("place", 9)]) (by kernel_rfl))
        (fun _ _ _ _ _ => (pg_name (i := 9) sc__law_classes.nd rfl (.inl rfl))) (fun _ _ _ _ _ => (pts_one (pt_cmpR op_lt (pv 9) (pv 0) (nomark _))))
        (fun _ _ _ _ _ => (pe_callTy call_int1 (by rfl) B.m_int (by decide +kernel) (pa_cons (pe_ix (ix_listK (K := K) rfl) (pv 2) (pv 9) (fun _ _ => rfl)) pa_nil)))) pa_nil)) pa_nil)))
      (pss_cons (ps_set (i := 8) sc__law_classes.nd rfl (.inl rfl) (pe_lst (pa_cons (pe_ix (ix_listK (K := K) rfl) (pv 2) (pv 6) (fun _ _ => rfl)) (pa_cons (pv 7) (pa_cons (pe_lc (own := [("place", 9)]) rfl sc__law_classes.nd (pi_listK (K := K) rfl (pe_ix (ix_listK (K := K) rfl) (pv 1) (pv 6) (fun _ _ => rfl))) (blkOk_by (own := [("place", 9)]) (by kernel_rfl))
        (fun _ _ _ _ _ => (pg_name (i := 9) sc__law_classes.nd rfl (.inl rfl))) (fun _ _ _ _ _ => (pts_one (pt_cmpR op_ge (pv 9) (pv 0) (nomark _))))
        (fun _ _ _ _ _ => (pv 9))) pa_nil)))))
      (C8.pss_cut (ps_if (pt_cmpR (op_notInDK (K := K) rfl (u65 hr)) (pv 8) (pv 4) (by rfl)) (pss_one (ps_expr (pe_bmK (K := K) rfl PySem.F.plainAttrs_list PySem.F.slot_list_append PySem.F.type_list_append mt_append (pv 4) (pa_cons (pv 8) pa_nil)))) pss_nil)
      (pss_one (ps_expr (pe_bmK (K := K) rfl PySem.F.plainAttrs_list PySem.F.slot_list_append PySem.F.type_list_append mt_append (pv 5) (pa_cons (pe_bmK (K := K) rfl PySem.F.plainAttrs_list PySem.F.slot_list_index PySem.F.type_list_index (mt_indexDK (K := K) rfl (u65 hr)) (pv 4) (pa_cons (pv 8) pa_nil)) pa_nil))))))))
      (pss_one (ps_set (i := 2) sc__law_classes.nd rfl (.inr rfl) (pv 5)))))))
      (pss_one (ps_ret (pv 2))))), ?_⟩
    walk_at "begin"
    walk_at "go"
    refine lcT_range topH (s0 := ()) trivial (n := c) ?_ ?_ (fun i C acc => acc = (List.replicate i (0 : Int)).map V.int) rfl ?_ ?_
    · omega
    · omega
    · rintro D1 i _ C acc _ hD hS hi rfl
      rw [Int.toNat_natCast] at hi
      walk_at "begin"
      walk_at "go"
      refine ⟨rfl, ?_⟩
      walk_at "go"
      refine lcN_put topH (s := ()) trivial hD hS ?_ ?_
      · rw [List.length_map, List.length_replicate]; omega
      · show _ = List.map V.int (List.replicate (i + 1) (0 : Int))
        rw [List.replicate_succ', List.map_append]; rfl
    · rintro D1 _ C acc _ hB1 hD1 hS1 rfl
      rw [Int.toNat_natCast]
      have hSG : Same H (upd C D1 (.lst ((List.replicate c (0 : Int)).map V.int))) := hS1.trans (same_new hD1)
      have hd1 : upd C D1 (.lst ((List.replicate c (0 : Int)).map V.int)) D1 = some (.lst ((List.replicate c (0 : Int)).map V.int)) := upd_same
      dsimp only at *
      generalize upd C D1 (.lst ((List.replicate c (0 : Int)).map V.int)) = G at hSG hd1 ⊢
      clear hS1 hD1 hB1 C
      walk_at "go"
      refine r_forR (n := (c : Int)) (by omega) (by omega) (fun t σ X => ∃ (p : List Int) (pa : Addr) (y3 y4 y5 y6 y7 y8 : Option V), σ = [some (.int c), some (.ref a), some (.ref pa), y3, y4, y5, y6, y7, y8, none] ∧ Same H X ∧ X pa = some (.lst (p.map V.int)) ∧ Rs c rs p ∧ (Fin c rs p ∨ t < nf p)) ?_ ?_ ?_
      · refine ⟨_, D1, _, _, _, _, _, _, rfl, hSG, hd1, zeros_rs c rs, ?_⟩
        rcases Nat.eq_zero_or_pos c with z | z
        · exact .inl fun a b ha => by omega
        · exact .inr (by rw [nf_zeros c z]; exact Nat.zero_lt_one)
      · rintro t σ X ht ⟨p, pa, y3, y4, y5, y6, y7, y8, rfl, x1, x2, hp, hfn⟩
        have hpl := hp.len
        walk_at "go"
        refine ⟨by walk_at "len", fun Dk nDk => ?_⟩
        walk_at "go"
        refine ⟨by walk_at "len", fun Df nDf => ?_⟩
        have hne : Dk ≠ Df := ne_of_none upd_same nDf
        have nDf2 : X Df = none := by rw [upd_ne hne.symm] at nDf; exact nDf
        walk_at "go"
        refine r_forR (n := (c : Int)) (by omega) (by omega) (fun j σ Y => ∃ (C : Hp) (kr : List Addr) (ks : List (Int × List Int × List Int)) (f : List Int) (y6 y7 y8 : Option V), σ = [some (.int c), some (.ref a), some (.ref pa), some (.int t), some (.ref Dk), some (.ref Df), y6, y7, y8, none] ∧
          Y = upd (upd C Dk (.lst (kr.map V.ref))) Df (.lst (f.map V.int)) ∧ C Dk = none ∧ C Df = none ∧ Same X C ∧ DpAll K C (kr.map V.ref) (ks.map dK) ∧ Fr ks f (keyK c rs p) j) ?_ ?_ ?_
        · exact ⟨X, [], [], [], _, _, _, rfl, rfl, nDk, nDf2, Same.refl _, .nil, Fr.nil⟩
        · rintro j σ Y hj ⟨C, kr, ks, f, y6, y7, y8, rfl, rfl, hK0, hF0, hSC, hDp, F⟩
          rw [Int.toNat_natCast] at hj
          obtain ⟨r, hr1⟩ : ∃ r, rs[j]? = some r := ⟨_, List.getElem?_eq_getElem (by omega)⟩
          have hrm := List.mem_of_getElem? hr1
          have hgd := hwf.2 r hrm
          have hgl := hgd.1
          have hfl : f.length = j := F.len
          have hkl : ks.length ≤ j := F.le
          have hkrl : kr.length = ks.length := by have := dpAll_len hDp; rwa [List.length_map, List.length_map] at this
          have hF1 : (upd C Dk (.lst (kr.map V.ref))) Df = none := by rw [upd_ne hne.symm]; exact hF0
          have hCY : Same C (upd (upd C Dk (.lst (kr.map V.ref))) Df (.lst (f.map V.int))) := (same_new hK0).trans (same_new hF1)
          have hXY := hSC.trans hCY
          obtain ⟨b, _, hb2, hb3⟩ := Ro.get (f := V.int) (hrw.mono (x1.trans hXY)) hr1
          have hatb : atI (as.map V.ref) (j : Int) = some (.ref b) := at_i (by omega) (by rw [Int.toNat_natCast]; exact hb2)
          have haY := (x1.trans hXY) _ _ ha
          have hpY := hXY _ _ x2
          have at_p : ∀ i : Nat, i < c → atI (p.map V.int) (i : Int) = some (.int (pAt p i)) := fun i hi => at_i (by omega) (by rw [Int.toNat_natCast, List.getElem?_map, pAt_of (by omega)]; rfl)
          have hatz := at_p j hj
          have hYY := Same.refl (upd (upd C Dk (.lst (kr.map V.ref))) Df (.lst (f.map V.int)))
          generalize hYe : upd (upd C Dk (.lst (kr.map V.ref))) Df (.lst (f.map V.int)) = Y at hCY hXY hb3 haY hpY hYY ⊢
          walk_at "go"
          refine lcT_list topH (K := K) (s0 := ()) trivial (xs := r.map V.int) hb3 (fun m C2 acc => acc = (((r.take m).filter (fun e => decide (e < (c : Int)))).map fun e => pAt p e.toNat).map V.int) rfl ?_ ?_
          · rintro D2 m x _ C2 acc _ hD2 hS2 hy rfl
            obtain ⟨e, rfl, he⟩ := ints_at hy
            obtain ⟨e0, e1⟩ := hgd.2.2 e (List.mem_of_getElem? he)
            have hm := (List.getElem?_eq_some_iff.mp he).1
            have hl2 : ((r.take m).filter fun e => decide (e < (c : Int))).length ≤ 1000 := Nat.le_trans (List.length_filter_le _ _) (by rw [List.length_take]; omega)
            have hN2 := hS2 _ _ hpY
            walk_at "begin"
            walk_at "go"
            refine ⟨rfl, ?_⟩
            walk_at "go"
            refine r_ite (fun hlt => ?_) (fun hlt => ?_)
            · have hate : atI (p.map V.int) e = some (.int (pAt p e.toNat)) := by
                have := at_p e.toNat (by omega)
                rwa [Int.toNat_of_nonneg e0] at this
              walk_at "go"
              refine lcN_put topH (s := ()) trivial hD2 hS2 ?_ ?_
              · rw [List.length_map, List.length_map]; omega
              · rw [fl_put he (decide_eq_true hlt), List.map_append, List.map_append]; rfl
            · refine lcN_skip (s := ()) trivial hD2 hS2 ?_
              rw [fl_skip he (decide_eq_false hlt)]
          · rintro D2 _ C2 acc _ hB2 hD2 hS2 rfl
            rw [List.length_map, List.take_length]
            have hgpl : (gp c r).length ≤ c := gp_len hgd
            walk_at "go"
            refine r_setOf upd_same (by rw [List.length_map]; show (gp c r).length ≤ 1000; omega) fun cc p2 hcc np2 => ?_
            rw [List.length_map] at hcc
            have hcc : cc ≤ (gp c r).length := hcc
            walk_at "go"
            refine r_sortedSet upd_same (by omega) fun hs p3 hpw hmem hnl np3 => ?_
            have hS5 : Same Y (upd (upd (upd C2 D2 (.lst (((r.filter (fun e => decide (e < (c : Int)))).map fun e => pAt p e.toNat).map V.int))) p2 (SetO w p2 (fun j => decide (j ∈ ((r.filter (fun e => decide (e < (c : Int)))).map fun e => pAt p e.toNat))) cc)) p3 (.lst (hs.map V.int))) := ((hS2.trans (same_new hD2)).trans (same_new np2)).trans (same_new np3)
            have hp3 : (upd (upd (upd C2 D2 (.lst (((r.filter (fun e => decide (e < (c : Int)))).map fun e => pAt p e.toNat).map V.int))) p2 (SetO w p2 (fun j => decide (j ∈ ((r.filter (fun e => decide (e < (c : Int)))).map fun e => pAt p e.toNat))) cc)) p3 (.lst (hs.map V.int))) p3 = some (.lst (hs.map V.int)) := upd_same
            have hks : hs = asc ((r.filter (fun e => decide (e < (c : Int)))).map fun e => pAt p e.toNat) := asc_of hpw fun z => by rw [hmem, decide_eq_true_eq]
            have nY3 : Y p3 = none := ((hS2.trans (same_new hD2)).trans (same_new np2)).free np3
            generalize (upd (upd (upd C2 D2 (.lst (((r.filter (fun e => decide (e < (c : Int)))).map fun e => pAt p e.toNat).map V.int))) p2 (SetO w p2 (fun j => decide (j ∈ ((r.filter (fun e => decide (e < (c : Int)))).map fun e => pAt p e.toNat))) cc)) p3 (.lst (hs.map V.int))) = H5 at hS5 hp3 ⊢
            have haH5 := hS5 _ _ haY
            have hbH5 := hS5 _ _ hb3
            have hNH5 := hS5 _ _ hpY
            clear hB2 np2 np3 hD2 hS2 hmem C2
            walk_at "go"
            refine lcT_list topH (K := K) (s0 := ()) trivial (xs := r.map V.int) hbH5 (fun m C2 acc => acc = ((r.take m).filter (fun e => decide (e ≥ (c : Int)))).map V.int) rfl ?_ ?_
            · rintro D2 m x _ C2 acc _ hD2 hS2 hy rfl
              obtain ⟨e, rfl, he⟩ := ints_at hy
              have hm := (List.getElem?_eq_some_iff.mp he).1
              have hl2 : ((r.take m).filter fun e => decide (e ≥ (c : Int))).length ≤ 1000 := Nat.le_trans (List.length_filter_le _ _) (by rw [List.length_take]; omega)
              walk_at "begin"
              walk_at "go"
              refine ⟨rfl, ?_⟩
              walk_at "go"
              refine r_ite (fun hlt => ?_) (fun hlt => ?_)
              · walk_at "go"
                refine lcN_put topH (s := ()) trivial hD2 hS2 ?_ ?_
                · rw [List.length_map]; omega
                · rw [fl_put he (decide_eq_true hlt), List.map_append]; rfl
              · refine lcN_skip (s := ()) trivial hD2 hS2 ?_
                rw [fl_skip he (decide_eq_false hlt)]
            · rintro D6 _ C6 acc _ hB6 hD6 hS6 rfl
              rw [List.length_map, List.take_length]
              walk_at "go"
              refine ⟨by walk_at "len", fun kb nkb => ?_⟩
              have hS7 : Same Y (upd (upd C6 D6 (.lst ((r.filter (fun e => decide (e ≥ (c : Int)))).map V.int))) kb (.lst [.int (pAt p j), .ref p3, .ref D6])) := ((hS5.trans hS6).trans (same_new hD6)).trans (same_new nkb)
              have w1 : (upd (upd C6 D6 (.lst ((r.filter (fun e => decide (e ≥ (c : Int)))).map V.int))) kb (.lst [.int (pAt p j), .ref p3, .ref D6])) kb = some (.lst [.int (pAt p j), .ref p3, .ref D6]) := upd_same
              have w2 : (upd (upd C6 D6 (.lst ((r.filter (fun e => decide (e ≥ (c : Int)))).map V.int))) kb (.lst [.int (pAt p j), .ref p3, .ref D6])) p3 = some (.lst (hs.map V.int)) := upd_old nkb (upd_old hD6 (hS6 _ _ hp3))
              have w3 : (upd (upd C6 D6 (.lst ((r.filter (fun e => decide (e ≥ (c : Int)))).map V.int))) kb (.lst [.int (pAt p j), .ref p3, .ref D6])) D6 = some (.lst ((r.filter (fun e => decide (e ≥ (c : Int)))).map V.int)) := upd_old nkb upd_same
              have nk : Y kb = none := ((hS5.trans hS6).trans (same_new (o := .lst ((r.filter (fun e => decide (e ≥ (c : Int)))).map V.int)) hD6)).free nkb
              have nD6 : Y D6 = none := (hS5.trans hS6).free hD6
              dsimp only at *
              generalize upd (upd C6 D6 (.lst ((r.filter (fun e => decide (e ≥ (c : Int)))).map V.int))) kb (.lst [.int (pAt p j), .ref p3, .ref D6]) = H7 at hS7 w1 w2 w3 ⊢
              have hkey : keyK c rs p j = (pAt p j, hs, br c r) := by unfold keyK; rw [rowAt_of hr1, hks]; rfl
              clear nkb hS6 hD6 hB6 hS5 hp3 haH5 hbH5 hNH5
              subst hYe
              have hYk : (upd (upd C Dk (.lst (kr.map V.ref))) Df (.lst (f.map V.int))) Dk = some (.lst (kr.map V.ref)) := by rw [upd_ne hne]; exact upd_same
              have hYf : (upd (upd C Dk (.lst (kr.map V.ref))) Df (.lst (f.map V.int))) Df = some (.lst (f.map V.int)) := upd_same
              obtain ⟨C', e1, n1, s1⟩ := lay_same hF1 hS7
              obtain ⟨C7, e2, n2, s2⟩ := lay_same hK0 s1
              have n3 : C7 Df = none := by rw [e2, upd_ne hne.symm] at n1; exact n1
              have low : ∀ x o, (upd (upd C Dk (.lst (kr.map V.ref))) Df (.lst (f.map V.int))) x = none → H7 x = some o → C7 x = some o := fun x o hx e => by
                rw [e1, upd_ne (ne_of_none hYf hx).symm, e2, upd_ne (ne_of_none hYk hx).symm] at e
                exact e
              have hdk : Dp K C7 (.ref kb) (dK (keyK c rs p j)) := by
                rw [hkey]
                exact .lst (SqL.of (low _ _ nk w1)) (.cons (.int (pAt p j)) (.cons (dpI (low _ _ nY3 w2)) (.cons (dpI (low _ _ nD6 w3)) .nil)))
              have hC7 : H7 = upd (upd C7 Dk (.lst (kr.map V.ref))) Df (.lst (f.map V.int)) := by rw [e1, e2]
              have hDp7 := dpAll_mono s2 hDp
              have lay7 : ∀ u : List V, Same C7 (upd (upd C7 Dk (.lst u)) Df (.lst (f.map V.int))) := fun u => (same_new n2).trans (same_new (by rw [upd_ne hne.symm]; exact n3))
              have hXC7 := hSC.trans s2
              subst hC7
              clear e1 e2 s1 s2 n1 hS7 w1 w2 w3 low nk nD6 nY3 hCY hXY hb3 haY hpY hYY hYk hYf
              have hK7 : ∀ u : List V, (upd (upd C7 Dk (.lst u)) Df (.lst (f.map V.int))) Dk = some (.lst u) := fun u => by rw [upd_ne hne]; exact upd_same
              have hksz : (kr.map V.ref).length < sizeLine := small (by rw [List.length_map]; omega)
              have hfsz : (f.map V.int).length < sizeLine := small (by rw [List.length_map]; omega)
              walk_at "go"
              refine ⟨fun σ HM => ∃ (kr3 : List Addr) (ks3 : List (Int × List Int × List Int)) (jj : Nat), σ = [some (.int c), some (.ref a), some (.ref pa), some (.int t), some (.ref Dk), some (.ref Df), some (.int j), some (.ref p3), some (.ref kb), none] ∧ HM = upd (upd C7 Dk (.lst (kr3.map V.ref))) Df (.lst (f.map V.int)) ∧ DpAll K C7 (kr3.map V.ref) (ks3.map dK) ∧
                ks3[jj]? = some (keyK c rs p j) ∧ Fr ks3 (f ++ [(jj : Int)]) (keyK c rs p) (j + 1), ?_, ?_⟩
              · walk_at "go"
                refine r_notInDd (dp_mono (lay7 _) hdk) (.lst (SqL.of (hK7 _)) (dpAll_mono (lay7 _) hDp7)) (shK _) (shKs ks) (plK _) (plKs ks) fun b hb => ?_
                walk_at "go"
                refine r_iteP hb (fun hin => ?_) (fun hin => ?_)
                · have hnin : keyK c rs p j ∉ ks := fun z => hin (List.mem_map.mpr ⟨_, z, rfl⟩)
                  have hKat := hK7 (kr.map V.ref)
                  walk_at "go"
                  refine ⟨kr ++ [kb], ks ++ [keyK c rs p j], ks.length, rfl, by rw [refs_push, upd_comm hne.symm, upd_upd], ?_, by rw [List.getElem?_append_right (Nat.le_refl _), Nat.sub_self]; rfl, F.new hnin⟩
                  rw [List.map_append, List.map_append]
                  exact dpAll_push hDp7 hdk
                · have hmem : keyK c rs p j ∈ ks := by
                    have := Classical.not_not.mp hin
                    obtain ⟨k2, h1, h2⟩ := List.mem_map.mp this
                    rw [← dK_inj h2]; exact h1
                  obtain ⟨jj, hjj⟩ := List.mem_iff_getElem?.mp hmem
                  walk_at "go"
                  exact ⟨kr, ks, jj, rfl, rfl, hDp7, hjj, F.old hjj⟩
              · rintro σ HM ⟨kr3, ks3, jj, rfl, rfl, hDp3, hjj, F3⟩
                have hKat := hK7 (kr3.map V.ref)
                walk_at "go"
                refine r_indexDd (ds := ks3.map dK) (d := dK (keyK c rs p j)) (j := jj) rfl (.lst (SqL.of hKat) (dpAll_mono (lay7 _) hDp3)) (dp_mono (lay7 _) hdk) (shKs ks3) (shK _) (plKs ks3) (plK _) (by rw [List.getElem?_map, hjj]; rfl) (fun m' hm' e => ?_) ?_
                · rw [List.getElem?_map] at e
                  cases e2 : ks3[m']? with
                  | none => rw [e2] at e; cases e
                  | some k2 =>
                    rw [e2] at e
                    have := dK_inj (Option.some.inj e)
                    rw [this] at e2
                    have := (List.getElem?_inj (List.getElem?_eq_some_iff.mp e2).1 F3.nd).mp (e2.trans hjj.symm)
                    omega
                · walk_at "go"
                  rw [upd_upd, ints_push]
                  exact ⟨C7, kr3, ks3, f ++ [(jj : Int)], _, _, _, rfl, rfl, n2, n3, hXC7, hDp3, F3⟩
        · rintro σ Y ⟨C, kr, ks, f, y6, y7, y8, rfl, rfl, hK0, hF0, hSC, hDp, F⟩
          rw [Int.toNat_natCast] at F
          have ky := keyK_ky (rs := rs) (p := p) hlr hcn hpl h0
          obtain ⟨Q1, R1⟩ := hp.next ky hlr hcn h0 (fun a _ => asc_pw _) F
          walk_at "go"
          have hF1 : (upd C Dk (.lst (kr.map V.ref))) Df = none := by rw [upd_ne hne.symm]; exact hF0
          exact ⟨f, Df, _, _, _, _, _, _, rfl, x1.trans (hSC.trans ((same_new hK0).trans (same_new hF1))), upd_same, Q1, Fin.or_grow hp Q1 R1 ky hlr hcn h0 hfn⟩
      · rintro σ X ⟨p, pa, y3, y4, y5, y6, y7, y8, rfl, x1, x2, hp, hfn⟩
        rw [Int.toNat_natCast] at hfn
        walk_at "go"
        refine q _ pa p x1 x2 hp (hfn.resolve_right fun z => ?_)
        have := nf_le p
        have := hp.len
        omega
end
end K40
namespace K40
open PySem PySem.Spec PyProof.Rows L2 Lw


local macro_rules | `(tactic| walk_at "look") => `(tactic| first
  | assumption
  | with_reducible exact upd_same
  | with_reducible exact rg_st
  | with_reducible exact rg_g (by assumption)
  | (with_reducible refine upd_old (by assumption) ?_; walk_at "look")
  | (with_reducible refine rg_get (by assumption) ?_; walk_at "look")
  | (with_reducible refine Same.get (by assumption) ?_; walk_at "look"))
local macro_rules | `(tactic| walk_at "cond") => `(tactic| first
  | (show _ ≠ _; omega) | exact cdivN (by omega) (by omega) | exact cmul_mod (by decide) (by decide) | exact cmulR (by omega) (by omega) | exact cmulL (by omega) (by omega) | exact cpow (by omega) (by omega) (by omega) (by omega) | (show (0:Int) ≤ _; omega))
local macro_rules | `(tactic| walk_at "at") => `(tactic| first | assumption | with_unfolding_all rfl)
local macro_rules | `(tactic| walk_at "sz") => `(tactic| first | assumption | (refine small ?_; omega) | (refine small ?_; simp only [List.length_map, List.length_append, List.length_cons, List.length_nil]; omega))
local macro_rules | `(tactic| walk_at "len") => `(tactic| first | exact size_nil | exact Nat.le_of_lt (small (by simp only [List.length_cons, List.length_nil, List.length_map]; omega)))
local macro_rules | `(tactic| walk_at "newD") => `(tactic| (refine ⟨by walk_at "len", fun p np => ?_⟩; obtain ⟨e, o', hD', n', ne'⟩ := newTD_eq (topRg _ _) (by assumption) (by assumption) np (.lst _); rw [e]; clear e))
local macro_rules | `(tactic| walk_at "new") => `(tactic| (refine ⟨by walk_at "len", fun p np => ?_⟩; obtain ⟨e, o', n'⟩ := newT_eq (topRg _ _) (by assumption) np (.lst _); rw [e]; clear e))
local macro_rules | `(tactic| walk_at "st") => `(tactic| first
  | with_reducible refine r_seq ?_
  | with_reducible refine r_var rfl ?_
  | with_reducible refine r_c ?_
  | with_reducible refine r_asg ?_
  | (with_reducible refine r_name ?_; dsimp only [List.set_cons_zero, List.set_cons_succ])
  | with_reducible refine r_sub ?_
  | with_reducible refine r_op ?_
  | with_reducible refine r_i0 ?_
  | (with_reducible refine' r_i ?k1 ?_; (case k1 => walk_at "cond"))
  | with_reducible refine r_cons ?_
  | with_reducible refine r_nil ?_
  | with_reducible refine r_cb ?_
  | with_reducible refine r_call ?_
  | with_reducible refine r_ifs ?_
  | with_reducible refine r_test ?_
  | with_reducible refine r_tB ?_
  | with_reducible refine r_bl ?_
  | with_reducible refine r_ret ?_
  | with_reducible refine r_drop ?_
  | with_reducible refine r_next ?_
  | (with_reducible refine' r_ixL ?k1 ?k2 ?_; (case k1 => walk_at "look"); (case k2 => walk_at "at"))
  | (with_reducible refine' r_setL ?k1 ?k2 ?_; (case k1 => walk_at "look"); (case k2 => walk_at "at"))
  | (with_reducible refine' r_tup (SqT.of ?k1) ?k2 ?_; (case k1 => walk_at "look"); (case k2 => rfl))
  | with_reducible refine r_gcons ?_
  | with_reducible refine r_gnil ?_
  | with_reducible refine r_aug rfl ?_
  | with_reducible refine r_augS ?_
  | with_reducible refine r_ipI ?_
  | with_reducible refine r_un ?_
  | with_reducible refine r_u ?_
  | with_reducible refine r_eq rfl ?_
  | with_reducible refine r_ne rfl ?_
  | with_reducible refine r_chain ?_
  | with_reducible refine iteF ?_
  | with_reducible refine r_not ?_
  | with_reducible refine r_and ?_
  | with_reducible refine r_or ?_
  | with_reducible refine r_andV ?_
  | with_reducible refine r_orV ?_
  | with_reducible refine r_notV ?_
  | with_reducible refine r_lst ?_
  | with_reducible refine r_bm ?_
  | with_reducible refine r_bm0 ?_
  | (with_reducible refine' And.intro (r_ty ?k1) ?_; (case k1 => walk_at "look"))
  | (with_reducible refine' r_append ?k1 ?k2 ?_; (case k1 => walk_at "look"); (case k2 => walk_at "sz"))
  | (with_reducible refine' r_lenK ?k1 ?_; (case k1 => walk_at "look"))
  | (with_reducible refine' r_listOf ?k1 ?_; (case k1 => walk_at "look"))
  | (with_reducible refine' r_sortedI ?k1 ?_; (case k1 => walk_at "look"))
  | (with_reducible refine' r_sum ?k1 ?_; (case k1 => walk_at "look"))
  | with_reducible refine r_int ?_
  | (with_reducible refine' r_draw (by assumption) ?k1 ?k2 ?_; (case k1 => omega); (case k2 => omega); intro R' n' o' h' h'')
  | with_reducible refine iteT ?_
  | with_reducible refine r_revL ?_
  | with_reducible refine r_lc ?_
  | with_reducible refine r_yes ?_
  | with_reducible refine r_sl ?_
  | with_reducible refine r_noPart ?_
  | with_reducible refine r_part ?_
  | with_reducible refine r_lc2 ?_
  | with_reducible refine r_callN ?_
  | with_reducible refine r_callD ?_
  | with_reducible refine r_tupE ?_
  | with_reducible refine r_rng2 ?_
  | with_reducible refine r_i1 ?_
  | (with_reducible refine' r_slL ?k1 ?_; (case k1 => walk_at "look"))
  | with_reducible refine r_for ?_
  | with_reducible refine r_iList ?_
  | with_reducible refine r_rng1 ?_
  | with_reducible refine r_enum ?_
  | (with_reducible show Ends.nx _ _ _; dsimp only)
  | (with_reducible show Ends.rt _ _ _; dsimp only)
  | (with_reducible show Ends.ct _ _ _; dsimp only)
  | (with_reducible show Ends.bk _ _ _; dsimp only))
local macro_rules | `(tactic| walk_at "go") => `(tactic| repeat (walk_at "st"))
local macro_rules | `(tactic| walk_at "begin") => `(tactic| dsimp only [cxOf, wipe, L2.start, List.map, List.length_cons, List.length_nil, Nat.reduceAdd, Nat.reduceSub, List.replicate, List.cons_append, List.nil_append])


open Lm
local macro_rules | `(tactic| walk_at "st") => `(tactic| first
  | (with_reducible refine' r_inI ?k1 ?_; (case k1 => walk_at "look")))
def keeps (rs : List (List Int)) (ls : List Int) (k : Int) : Bool := decide ((((rowAt rs k.toNat).filter fun e => decide (e ∈ ls)).length : Int) > 0)
theorem keeps_iff {rs : List (List Int)} {ls : List Int} {k : Int} : keeps rs ls k = true ↔ ∃ e ∈ rowAt rs k.toNat, e ∈ ls := by
  unfold keeps
  rw [decide_eq_true_eq]
  constructor
  · intro h
    obtain ⟨e, he⟩ := List.exists_mem_of_length_pos (l := (rowAt rs k.toNat).filter fun e => decide (e ∈ ls)) (by omega)
    rw [List.mem_filter, decide_eq_true_eq] at he
    exact ⟨e, he.1, he.2⟩
  · rintro ⟨e, h1, h2⟩
    have : e ∈ (rowAt rs k.toNat).filter fun e => decide (e ∈ ls) := by rw [List.mem_filter, decide_eq_true_eq]; exact ⟨h1, h2⟩
    have := List.length_pos_of_mem this
    omega
/-- what is left: all rings are in it -/
structure Lf (rs : List (List Int)) (n : Nat) (ls : List Int) : Prop where
  nd : ls.Nodup
  lt : ∀ k ∈ ls, 0 ≤ k ∧ k < (n : Int)
  ring : ∀ x : Nat, Tc (Ed rs) x x → (x : Int) ∈ ls
theorem tc_first {E : Nat → Nat → Prop} {a b : Nat} (t : Tc E a b) : ∃ c, E a c ∧ (c = b ∨ Tc E c b) := by
  induction t with
  | one e => exact ⟨_, e, .inl rfl⟩
  | more t e ih =>
    obtain ⟨c, h1, h2⟩ := ih
    refine ⟨c, h1, .inr ?_⟩
    rcases h2 with h2 | h2
    · subst h2; exact .one e
    · exact .more h2 e
theorem Lf.next {rs : List (List Int)} {n : Nat} {ls : List Int} (L : Lf rs n ls) : Lf rs n (ls.filter (keeps rs ls)) := by
  refine ⟨L.nd.sublist List.filter_sublist, fun k hk => L.lt k (List.mem_filter.mp hk).1, fun x t => ?_⟩
  rw [List.mem_filter, keeps_iff]
  refine ⟨L.ring x t, ?_⟩
  obtain ⟨c, ⟨r, hr, hc⟩, h2⟩ := tc_first t
  refine ⟨(c : Int), by rw [Int.toNat_natCast, rowAt_of hr]; exact hc, L.ring c ?_⟩
  rcases h2 with e | t2
  · subst e; exact t
  · exact .more t2 ⟨r, hr, hc⟩
theorem Lf.done {rs : List (List Int)} {n : Nat} {ls : List Int} (L : Lf rs n ls) (hn : rs.length = n) (h0 : ∀ r ∈ rs, ∀ e ∈ r, 0 ≤ e ∧ e < (n : Int)) (e : (ls.filter (keeps rs ls)).length = ls.length) : (decide ((ls.length : Int) > 0) = true ↔ ∃ x, Tc (Ed rs) x x) := by
  rw [decide_eq_true_eq]
  have hall := List.filter_eq_self.mp (List.filter_sublist.eq_of_length e)
  constructor
  · intro h
    obtain ⟨k, hk⟩ := List.exists_mem_of_length_pos (l := ls) (by omega)
    have hk2 := L.lt k hk
    obtain ⟨x, _, t⟩ := ring_of (E := Ed rs) (n := n) (U := fun a => (a : Int) ∈ ls) (fun a ha => by have := L.lt _ ha; omega) (fun a ha => by
      obtain ⟨e, h1, h2⟩ := keeps_iff.mp (hall _ ha)
      have hal := L.lt _ ha
      rw [Int.toNat_natCast] at h1
      obtain ⟨r, hr⟩ : ∃ r, rs[a]? = some r := ⟨_, List.getElem?_eq_getElem (by omega)⟩
      rw [rowAt_of hr] at h1
      have := h0 r (List.mem_of_getElem? hr) e h1
      refine ⟨e.toNat, by rw [Int.toNat_of_nonneg this.1]; exact h2, r, hr, by rw [Int.toNat_of_nonneg this.1]; exact h1⟩) (a := k.toNat) (by show ((k.toNat : Nat) : Int) ∈ ls; rw [Int.toNat_of_nonneg hk2.1]; exact hk)
    exact ⟨x, t⟩
  · rintro ⟨x, t⟩
    have := List.length_pos_of_mem (L.ring x t)
    omega
def spOnRings : Sp := fun vs H Q _ => ∃ (a : Addr) (as : List Addr) (rs : List (List Int)) (n L : Nat), vs = [.ref a] ∧ H a = some (.lst (as.map V.ref)) ∧ Rw H as rs ∧ Wf n L rs ∧ n ≤ 200 ∧ L ≤ 700 ∧
  ∀ (H' : Hp) (b : Bool), Same H H' → (b = true ↔ ∃ x, Tc (Ed rs) x x) → Q (.bl b) H'
section
variable {P : Program} {w : World} {K : PySem.W.Frag} {mg : Str → Option Value} {base : Heap}
theorem ok_onrings {f : Addr} {fd : FuncData} {k : Nat} (B : Blt mg) (D : Dn K mg "_law_on_rings" s__law_on_rings ["drawing"] f fd) : FnOk P w K mg base CX0 (k + 1) f fd ["drawing"] spOnRings := by
  refine D.F.ok sc__law_on_rings (fun vs H Q E h => ?_) (fun cdv A outer s H vs Q E hr h => ?_)
  · obtain ⟨a, as, rs, n, L, rfl, _⟩ := h
    rfl
  · obtain ⟨a, as, rs, n, L, rfl, ha, hrw, hwf, hn, hL, q⟩ := h
    have hlr : rs.length = n := hwf.1
    have hla : as.length = n := by rw [hrw.1]; exact hwf.1
    have h0 : ∀ r ∈ rs, ∀ e ∈ r, 0 ≤ e ∧ e < (n : Int) := fun r hr e he => (hwf.2 r hr).2.2 e he
    refine ⟨_, (pss_cons (ps_set (i := 1) sc__law_on_rings.nd rfl (.inr rfl) (pe_lc (own := [("k", 4)]) rfl sc__law_on_rings.nd (pi_range1 (by rfl) B.m_range (pa_cons (pe_callB (call_len_seqK (K := K) rfl) (by rfl) B.m_len PySem.boot_len (pa_cons (pv 0) pa_nil)) pa_nil)) (blkOk_by (own := [("k", 4)]) (by kernel_rfl))
        (fun _ _ _ _ _ => (pg_name (i := 4) sc__law_on_rings.nd rfl (.inl rfl))) (fun _ _ _ _ _ => pts_nil)
        (fun _ _ _ _ _ => (pv 4))))
      (pss_cons (ps_for PassesOwn.never rfl (pi_range1 (by rfl) B.m_range (pa_cons (pe_callB (call_len_seqK (K := K) rfl) (by rfl) B.m_len PySem.boot_len (pa_cons (pv 0) pa_nil)) pa_nil)) (pg_name (i := 2) sc__law_on_rings.nd rfl (.inl rfl)) (pss_cons (ps_setLc (i := 3) (own := [("k", 4)]) rfl sc__law_on_rings.nd rfl rfl (sw_true rfl rfl rfl (by decide +kernel)) (pi_listK (K := K) rfl (pv 1)) (blkOk_by (own := [("k", 4)]) (by kernel_rfl))
        (fun _ _ _ _ _ => (pg_name (i := 4) sc__law_on_rings.nd rfl (.inl rfl))) (fun _ _ _ _ _ => (pts_one (pt_cmpR op_gt (pe_callB (call_len_seqK (K := K) rfl) (by rfl) B.m_len PySem.boot_len (pa_cons (pe_lc (own := [("place", 5)]) rfl sc__law_on_rings.nd (pi_listK (K := K) rfl (pe_ix (ix_listK (K := K) rfl) (pv 0) (pv 4) (fun _ _ => rfl))) (blkOk_by (own := [("place", 5)]) (by kernel_rfl))
        (fun _ _ _ _ _ => (pg_name (i := 5) sc__law_on_rings.nd rfl (.inl rfl))) (fun _ _ _ _ _ => (pts_one (pt_cmpR (op_in_seqK (K := K) rfl) (pv 5) (pv 1) (by rfl))))
        (fun _ _ _ _ _ => (pv 5))) pa_nil)) pe_int (nomark _))))
        (fun _ _ _ _ _ => (pv 4)))
      (pss_cons (ps_if (pt_cmpR op_eq (pe_callB (call_len_seqK (K := K) rfl) (by rfl) B.m_len PySem.boot_len (pa_cons (pv 3) pa_nil)) (pe_callB (call_len_seqK (K := K) rfl) (by rfl) B.m_len PySem.boot_len (pa_cons (pv 1) pa_nil)) (nomark _)) (pss_one (ps_ret (pe_cmpR op_gt (pe_callB (call_len_seqK (K := K) rfl) (by rfl) B.m_len PySem.boot_len (pa_cons (pv 1) pa_nil)) pe_int (nomark _)))) pss_nil)
      (pss_one (ps_set (i := 1) sc__law_on_rings.nd rfl (.inr rfl) (pv 3))))))
      (pss_one (ps_ret (pe_cmpR op_gt (pe_callB (call_len_seqK (K := K) rfl) (by rfl) B.m_len PySem.boot_len (pa_cons (pv 1) pa_nil)) pe_int (nomark _)))))), ?_⟩
    walk_at "begin"
    walk_at "go"
    rw [List.length_map, hla]
    refine lcT_range topH (s0 := ()) trivial (n := (n : Int)) ?_ ?_ (fun i C acc => acc = ((List.range i).map Int.ofNat).map V.int) rfl ?_ ?_
    · omega
    · omega
    · rintro D1 i _ C acc _ hD hS hi rfl
      rw [Int.toNat_natCast] at hi
      walk_at "begin"
      walk_at "go"
      refine ⟨rfl, ?_⟩
      walk_at "go"
      refine lcN_put topH (s := ()) trivial hD hS ?_ ?_
      · rw [List.length_map, List.length_map, List.length_range]; omega
      · rw [List.range_succ, List.map_append, List.map_append]; rfl
    · rintro D1 _ C acc _ hB1 hD1 hS1 rfl
      rw [Int.toNat_natCast]
      have hSG : Same H (upd C D1 (.lst (((List.range n).map Int.ofNat).map V.int))) := hS1.trans (same_new hD1)
      have hd1 : upd C D1 (.lst (((List.range n).map Int.ofNat).map V.int)) D1 = some (.lst (((List.range n).map Int.ofNat).map V.int)) := upd_same
      have L0 : Lf rs n ((List.range n).map Int.ofNat) := ⟨nodup_map (fun x y e => Int.ofNat.inj e) List.nodup_range, fun k hk => by
        obtain ⟨m, hm, rfl⟩ := List.mem_map.mp hk
        have := List.mem_range.mp hm
        exact ⟨Int.natCast_nonneg _, by show (m : Int) < n; omega⟩, fun x t => by
        have : x < n := by
          cases t with
          | one e => rw [← hlr]; exact (In.of hwf).lt e
          | more _ e => rw [← hlr]; exact (In.of hwf).lt e
        exact List.mem_map.mpr ⟨x, List.mem_range.mpr this, rfl⟩⟩
      have hlen0 : ((List.range n).map Int.ofNat).length ≤ n - 0 := by rw [List.length_map, List.length_range]; omega
      dsimp only at *
      generalize (List.range n).map Int.ofNat = ls0 at hSG hd1 L0 hlen0 ⊢
      generalize upd C D1 (.lst (ls0.map V.int)) = G at hSG hd1 ⊢
      clear hS1 hD1 hB1 C
      have haG := hSG _ _ ha
      walk_at "go"
      rw [List.length_map, hla]
      refine r_forR (n := (n : Int)) (by omega) (by omega) (fun t σ X => ∃ (ls : List Int) (la : Addr) (y2 y3 : Option V), σ = [some (.ref a), some (.ref la), y2, y3, none, none] ∧ Same H X ∧ X la = some (.lst (ls.map V.int)) ∧ Lf rs n ls ∧ ls.length ≤ n - t) ?_ ?_ ?_
      · exact ⟨ls0, D1, _, _, rfl, hSG, hd1, L0, hlen0⟩
      · rintro t σ X ht ⟨ls, la, y2, y3, rfl, x1, x2, LL, hlen⟩
        walk_at "go"
        refine lcT_list topH (K := K) (s0 := ()) trivial (xs := ls.map V.int) x2 (fun m C acc => acc = ((ls.take m).filter (keeps rs ls)).map V.int) rfl ?_ ?_
        · rintro D2 m x _ C acc _ hD hS hy rfl
          obtain ⟨k, rfl, hk⟩ := ints_at hy
          have hm := (List.getElem?_eq_some_iff.mp hk).1
          have hkl := LL.lt k (List.mem_of_getElem? hk)
          obtain ⟨r, hr1⟩ : ∃ r, rs[k.toNat]? = some r := ⟨_, List.getElem?_eq_getElem (by omega)⟩
          have hgl := (hwf.2 r (List.mem_of_getElem? hr1)).1
          obtain ⟨b, _, hb2, hb3⟩ := Ro.get (f := V.int) (hrw.mono (x1.trans hS)) hr1
          have hatb : atI (as.map V.ref) k = some (.ref b) := at_i hkl.1 hb2
          have haC := (x1.trans hS) _ _ ha
          have hlC := hS _ _ x2
          have hl2 : ((ls.take m).filter (keeps rs ls)).length ≤ 1000 := Nat.le_trans (List.length_filter_le _ _) (by rw [List.length_take]; omega)
          walk_at "begin"
          walk_at "go"
          refine ⟨rfl, ?_⟩
          walk_at "go"
          refine lcT_list topH (K := K) (s0 := ()) trivial (xs := r.map V.int) (upd_old hD hb3) (fun i C2 acc2 => acc2 = ((r.take i).filter fun e => decide (e ∈ ls)).map V.int) rfl ?_ ?_
          · rintro D3 i x _ C2 acc2 _ hD3 hS3 hy3 rfl
            obtain ⟨e, rfl, he⟩ := ints_at hy3
            have hi := (List.getElem?_eq_some_iff.mp he).1
            have hl3 : ((r.take i).filter fun e => decide (e ∈ ls)).length ≤ 1000 := Nat.le_trans (List.length_filter_le _ _) (by rw [List.length_take]; omega)
            have hlC2 := hS3 _ _ (upd_old (x := .lst (((ls.take m).filter (keeps rs ls)).map V.int)) hD hlC)
            walk_at "begin"
            walk_at "go"
            refine ⟨rfl, ?_⟩
            walk_at "go"
            refine r_ite (fun hlt => ?_) (fun hlt => ?_)
            · walk_at "go"
              refine lcN_put topH (s := ()) trivial hD3 hS3 ?_ ?_
              · rw [List.length_map]; omega
              · rw [fl_put he (decide_eq_true hlt), List.map_append]; rfl
            · refine lcN_skip (s := ()) trivial hD3 hS3 ?_
              rw [fl_skip he (decide_eq_false hlt)]
          · rintro D3 _ C2 acc2 _ hB3 hD3 hS3 rfl
            rw [List.length_map, List.take_length]
            obtain ⟨C3, e, q1, q2, q3, q4, q5⟩ := under (y := .lst ((r.filter fun e => decide (e ∈ ls)).map V.int)) hD hB3 hS3
            try dsimp only at e
            rw [e]
            have h3 : (upd C3 D2 (.lst (((ls.take m).filter (keeps rs ls)).map V.int))) D3 = some (.lst ((r.filter fun e => decide (e ∈ ls)).map V.int)) := upd_old q1 q3
            walk_at "go"
            rw [List.length_map]
            have hke : keeps rs ls k = decide (((r.filter fun e => decide (e ∈ ls)).length : Int) > 0) := by unfold keeps; rw [rowAt_of hr1]
            refine r_ite (fun hlt => ?_) (fun hlt => ?_)
            · walk_at "go"
              refine lcN_put topH (s := ()) trivial q1 (hS.trans q2) ?_ ?_
              · rw [List.length_map]; omega
              · rw [fl_put hk (by rw [hke]; exact decide_eq_true hlt), List.map_append]; rfl
            · refine lcN_skip (s := ()) trivial q1 (hS.trans q2) ?_
              rw [fl_skip hk (by rw [hke]; exact decide_eq_false hlt)]
        · rintro D2 _ C acc _ hB2 hD2 hS2 rfl
          rw [List.length_map, List.take_length]
          have s2 := hS2.trans (same_new (o := .lst ((ls.filter (keeps rs ls)).map V.int)) hD2)
          have hd2 : upd C D2 (.lst ((ls.filter (keeps rs ls)).map V.int)) D2 = some (.lst ((ls.filter (keeps rs ls)).map V.int)) := upd_same
          have hle : (ls.filter (keeps rs ls)).length ≤ ls.length := List.length_filter_le _ _
          dsimp only at *
          generalize upd C D2 (.lst ((ls.filter (keeps rs ls)).map V.int)) = X2 at s2 hd2 ⊢
          have x3 := s2 _ _ x2
          walk_at "go"
          rw [List.length_map, List.length_map]
          refine r_ite (fun he => ?_) (fun hne => ?_)
          · walk_at "go"
            rw [List.length_map]
            exact q X2 _ (x1.trans s2) (LL.done hlr h0 (by have := V.int.inj he; omega))
          · walk_at "go"
            exact ⟨_, D2, _, _, rfl, x1.trans s2, hd2, LL.next, by
              have : (ls.filter (keeps rs ls)).length ≠ ls.length := fun z => hne (by rw [z])
              omega⟩
      · rintro σ X ⟨ls, la, y2, y3, rfl, x1, x2, LL, hlen⟩
        rw [Int.toNat_natCast] at hlen
        have hz : ls = [] := List.length_eq_zero_iff.mp (by omega)
        subst hz
        walk_at "go"
        exact q X _ x1 (LL.done hlr h0 rfl)
end
end K40
namespace K40
open PySem PySem.Spec PyProof.Rows L2 Lw


local macro_rules | `(tactic| walk_at "look") => `(tactic| first
  | assumption
  | with_reducible exact upd_same
  | with_reducible exact rg_st
  | with_reducible exact rg_g (by assumption)
  | (with_reducible refine upd_old (by assumption) ?_; walk_at "look")
  | (with_reducible refine rg_get (by assumption) ?_; walk_at "look")
  | (with_reducible refine Same.get (by assumption) ?_; walk_at "look"))
local macro_rules | `(tactic| walk_at "cond") => `(tactic| first
  | (show _ ≠ _; omega) | exact cdivN (by omega) (by omega) | exact cmul_mod (by decide) (by decide) | exact cmulR (by omega) (by omega) | exact cmulL (by omega) (by omega) | exact cpow (by omega) (by omega) (by omega) (by omega) | (show (0:Int) ≤ _; omega))
local macro_rules | `(tactic| walk_at "at") => `(tactic| first | assumption | with_unfolding_all rfl)
local macro_rules | `(tactic| walk_at "sz") => `(tactic| first | assumption | (refine small ?_; omega) | (refine small ?_; simp only [List.length_map, List.length_append, List.length_cons, List.length_nil]; omega))
local macro_rules | `(tactic| walk_at "len") => `(tactic| first | exact size_nil | exact Nat.le_of_lt (small (by simp only [List.length_cons, List.length_nil, List.length_map]; omega)))
local macro_rules | `(tactic| walk_at "newD") => `(tactic| (refine ⟨by walk_at "len", fun p np => ?_⟩; obtain ⟨e, o', hD', n', ne'⟩ := newTD_eq (topRg _ _) (by assumption) (by assumption) np (.lst _); rw [e]; clear e))
local macro_rules | `(tactic| walk_at "new") => `(tactic| (refine ⟨by walk_at "len", fun p np => ?_⟩; obtain ⟨e, o', n'⟩ := newT_eq (topRg _ _) (by assumption) np (.lst _); rw [e]; clear e))
local macro_rules | `(tactic| walk_at "st") => `(tactic| first
  | with_reducible refine r_seq ?_
  | with_reducible refine r_var rfl ?_
  | with_reducible refine r_c ?_
  | with_reducible refine r_asg ?_
  | (with_reducible refine r_name ?_; dsimp only [List.set_cons_zero, List.set_cons_succ])
  | with_reducible refine r_sub ?_
  | with_reducible refine r_op ?_
  | with_reducible refine r_i0 ?_
  | (with_reducible refine' r_i ?k1 ?_; (case k1 => walk_at "cond"))
  | with_reducible refine r_cons ?_
  | with_reducible refine r_nil ?_
  | with_reducible refine r_cb ?_
  | with_reducible refine r_call ?_
  | with_reducible refine r_ifs ?_
  | with_reducible refine r_test ?_
  | with_reducible refine r_tB ?_
  | with_reducible refine r_bl ?_
  | with_reducible refine r_ret ?_
  | with_reducible refine r_drop ?_
  | with_reducible refine r_next ?_
  | (with_reducible refine' r_ixL ?k1 ?k2 ?_; (case k1 => walk_at "look"); (case k2 => walk_at "at"))
  | (with_reducible refine' r_setL ?k1 ?k2 ?_; (case k1 => walk_at "look"); (case k2 => walk_at "at"))
  | (with_reducible refine' r_tup (SqT.of ?k1) ?k2 ?_; (case k1 => walk_at "look"); (case k2 => rfl))
  | with_reducible refine r_gcons ?_
  | with_reducible refine r_gnil ?_
  | with_reducible refine r_aug rfl ?_
  | with_reducible refine r_augS ?_
  | with_reducible refine r_ipI ?_
  | with_reducible refine r_un ?_
  | with_reducible refine r_u ?_
  | with_reducible refine r_eq rfl ?_
  | with_reducible refine r_ne rfl ?_
  | with_reducible refine r_chain ?_
  | with_reducible refine iteF ?_
  | with_reducible refine r_not ?_
  | with_reducible refine r_and ?_
  | with_reducible refine r_or ?_
  | with_reducible refine r_andV ?_
  | with_reducible refine r_orV ?_
  | with_reducible refine r_notV ?_
  | with_reducible refine r_lst ?_
  | with_reducible refine r_bm ?_
  | with_reducible refine r_bm0 ?_
  | (with_reducible refine' And.intro (r_ty ?k1) ?_; (case k1 => walk_at "look"))
  | (with_reducible refine' r_append ?k1 ?k2 ?_; (case k1 => walk_at "look"); (case k2 => walk_at "sz"))
  | (with_reducible refine' r_lenK ?k1 ?_; (case k1 => walk_at "look"))
  | (with_reducible refine' r_listOf ?k1 ?_; (case k1 => walk_at "look"))
  | (with_reducible refine' r_sortedI ?k1 ?_; (case k1 => walk_at "look"))
  | (with_reducible refine' r_sum ?k1 ?_; (case k1 => walk_at "look"))
  | with_reducible refine r_int ?_
  | (with_reducible refine' r_draw (by assumption) ?k1 ?k2 ?_; (case k1 => omega); (case k2 => omega); intro R' n' o' h' h'')
  | with_reducible refine iteT ?_
  | with_reducible refine r_revL ?_
  | with_reducible refine r_lc ?_
  | with_reducible refine r_yes ?_
  | with_reducible refine r_sl ?_
  | with_reducible refine r_noPart ?_
  | with_reducible refine r_part ?_
  | with_reducible refine r_lc2 ?_
  | with_reducible refine r_callN ?_
  | with_reducible refine r_callD ?_
  | with_reducible refine r_tupE ?_
  | with_reducible refine r_rng2 ?_
  | with_reducible refine r_i1 ?_
  | (with_reducible refine' r_slL ?k1 ?_; (case k1 => walk_at "look"))
  | with_reducible refine r_for ?_
  | with_reducible refine r_iList ?_
  | with_reducible refine r_rng1 ?_
  | with_reducible refine r_enum ?_
  | (with_reducible show Ends.nx _ _ _; dsimp only)
  | (with_reducible show Ends.rt _ _ _; dsimp only)
  | (with_reducible show Ends.ct _ _ _; dsimp only)
  | (with_reducible show Ends.bk _ _ _; dsimp only))
local macro_rules | `(tactic| walk_at "go") => `(tactic| repeat (walk_at "st"))
local macro_rules | `(tactic| walk_at "begin") => `(tactic| dsimp only [cxOf, wipe, L2.start, List.map, List.length_cons, List.length_nil, Nat.reduceAdd, Nat.reduceSub, List.replicate, List.cons_append, List.nil_append])


open Lm
def spSome : Sp := fun vs H Q _ => ∃ (st g : Addr) (R : RS) (B : Hp) (h : Nat) (d : Int), vs = [.ref st, .int (h : Int), .int d] ∧ H = rg st g R B ∧ Ok st g R B ∧ h ≤ 100 ∧ 1 ≤ d ∧ d ≤ 100 ∧
  ∀ (R' : RS) (B' : Hp) (p : Addr) (r : List Int), Ok st g R' B' → Same B B' → B p = none → B' p = some (.lst (r.map V.int)) → Pr h r → Q (.ref p) (rg st g R' B')
def spShape : Sp := fun vs H Q _ => ∃ (st g : Addr) (R : RS) (B : Hp) (a : Addr) (as : List Addr) (rs : List (List Int)) (n c : Nat), vs = [.ref st, .int (c : Int), .ref a] ∧ H = rg st g R B ∧ Ok st g R B ∧ B a = some (.lst (as.map V.ref)) ∧ Rw B as rs ∧ rs.length = n ∧ (∀ r ∈ rs, Pr n r) ∧ c ≤ n ∧ n ≤ 60 ∧
  ∀ (R' : RS) (B' : Hp) (q : Addr) (as' : List Addr) (rs' : List (List Int)), Ok st g R' B' → Same B B' → B' q = some (.lst (as'.map V.ref)) → Rw B' as' rs' → rs'.length = n → (∀ r ∈ rs', Pr n r) → Q (.ref q) (rg st g R' B')
def spPlainly : Sp := fun vs H Q _ => ∃ (a : Addr) (as : List Addr) (rs : List (List Int)) (n L c : Nat), vs = [.int (c : Int), .ref a] ∧ H a = some (.lst (as.map V.ref)) ∧ Rw H as rs ∧ Wf n L rs ∧ c ≤ n ∧ n ≤ 200 ∧ L ≤ 700 ∧
  ∀ (H' : Hp) (b : Bool), Same H H' → (b = true ↔ Stn c rs false) → Q (.bl b) H'
theorem alk_index {c n : Nat} {rs : List (List Int)} (hn : rs.length = n) (hc : c ≤ n) {F : Nat → Nat} (hF : ∀ i, i < c → F i ≤ i ∧ rs[F i]? = rs[i]? ∧ ∀ m, m < F i → rs[m]? ≠ rs[i]?) : Alk c rs false ↔ ∃ i, i < c ∧ F i < i := by
  constructor
  · rintro ⟨g, h, h1, h2, h3⟩
    simp only [Bool.false_eq_true, if_false] at h3
    obtain ⟨f1, f2, f3⟩ := hF h h2
    refine ⟨h, h2, Classical.byContradiction fun q => ?_⟩
    exact f3 g (by omega) h3
  · rintro ⟨i, hi, hl⟩
    obtain ⟨f1, f2, f3⟩ := hF i hi
    exact ⟨F i, i, hl, hi, by simpa using f2⟩
section
variable {P : Program} {w : World} {K : PySem.W.Frag} {mg : Str → Option Value} {base : Heap}
theorem ok_some {f f1 : Addr} {fd fd1 : FuncData} (B : Blt mg) (D : Dn K mg "_law_some" s__law_some ["state", "high", "dense"] f fd) (D_law_draw : Dn K mg "_law_draw" s__law_draw ["state", "many"] f1 fd1)
    (G_law_draw : FnOk P w K mg base CX0 1 f1 fd1 ["state", "many"] spDraw) : FnOk P w K mg base CX0 2 f fd ["state", "high", "dense"] spSome := by
  refine D.F.ok sc__law_some (fun vs H Q E h => ?_) (fun cdv A outer s H vs Q E hr h => ?_)
  · obtain ⟨st, g, R, B, h, d, rfl, _⟩ := h
    rfl
  · obtain ⟨st, g, R, C, h, d, rfl, rfl, o, hh, hd1, hd2, q⟩ := h
    refine ⟨_, (pss_one (ps_ret (pe_lc (own := [("place", 3)]) rfl sc__law_some.nd (pi_range1 (by rfl) B.m_range (pa_cons (pv 1) pa_nil)) (blkOk_by (own := [("place", 3)]) (by kernel_rfl))
        (fun _ _ _ _ _ => (pg_name (i := 3) sc__law_some.nd rfl (.inl rfl))) (fun _ _ _ _ _ => (pts_one (pt_cmpR op_eq (pe_call G_law_draw (hr.mono (by decide)) (by rfl) D_law_draw.g D_law_draw.F.kp D_law_draw.b .nil pass0 (pa_cons (pv 0) (pa_cons (pv 2) pa_nil))) pe_int (nomark _))))
        (fun _ _ _ _ _ => (pv 3))))), ?_⟩
    walk_at "begin"
    walk_at "go"
    refine lcT_range (topRg st g) o ?_ ?_ (fun j C acc => ∃ r : List Int, acc = r.map V.int ∧ Pr j r) ⟨[], rfl, Pr.nil⟩ ?_ ?_
    · omega
    · omega
    · rintro D2 j R5 C5 acc o5 hD5 hS5 hj ⟨r, rfl, hr1⟩
      rw [Int.toNat_natCast] at hj
      have hrl := hr1.gd.1
      walk_at "begin"
      walk_at "go"
      refine ⟨rfl, ?_⟩
      walk_at "go"
      rename_i R6 n6 o6 n60 n61
      refine r_ite (fun _ => ?_) (fun _ => ?_)
      · walk_at "go"
        refine lcN_put (topRg st g) o6 hD5 hS5 ?_ ⟨r ++ [(j : Int)], ints_push _ _, hr1.push (by omega) (by omega)⟩
        rw [List.length_map]; omega
      · exact lcN_skip o6 hD5 hS5 ⟨r, rfl, hr1.up (by omega)⟩
    · rintro D2 R6 C6 acc o6 hB6 hD6 hS6 ⟨r, rfl, hr1⟩
      rw [Int.toNat_natCast] at hr1
      exact q R6 _ D2 r o6 (hS6.trans (same_new hD6)) hB6 upd_same hr1
theorem ok_plainly {f f1 : Addr} {fd fd1 : FuncData} (B : Blt mg) (D : Dn K mg "_law_stands_plainly" s__law_stands_plainly ["count", "rows"] f fd) (D_law_on_rings : Dn K mg "_law_on_rings" s__law_on_rings ["drawing"] f1 fd1)
    (G_law_on_rings : FnOk P w K mg base CX0 1 f1 fd1 ["drawing"] spOnRings) : FnOk P w K mg base CX0 2 f fd ["count", "rows"] spPlainly := by
  refine D.F.ok sc__law_stands_plainly (fun vs H Q E h => ?_) (fun cdv A outer s H vs Q E hr h => ?_)
  · obtain ⟨a, as, rs, n, L, c, rfl, _⟩ := h
    rfl
  · obtain ⟨a, as, rs, n, L, c, rfl, ha, hrw, hwf, hcn, hn, hL, q⟩ := h
    have hlr : rs.length = n := hwf.1
    have hla : as.length = n := by rw [hrw.1]; exact hwf.1
    have first : ∀ i, ∃ j, i < n → j ≤ i ∧ rs[j]? = rs[i]? ∧ ∀ m, m < j → rs[m]? ≠ rs[i]? := fun i => by
      by_cases hi : i < n
      · obtain ⟨j, h1, h2, h3⟩ := first_of (l := rs) (i := i) (y := rs[i]'(by omega)) (List.getElem?_eq_getElem (by omega))
        refine ⟨j, fun _ => ⟨h1, ?_, ?_⟩⟩
        · rw [h2, List.getElem?_eq_getElem (show i < rs.length by omega)]
        · intro m hm; rw [List.getElem?_eq_getElem (show i < rs.length by omega)]; exact h3 m hm
      · exact ⟨0, fun z => absurd z hi⟩
    obtain ⟨F, hF⟩ := Classical.axiomOfChoice first
    refine ⟨_, (pss_cons (ps_setLc (i := 2) (own := [("g", 3)]) rfl sc__law_stands_plainly.nd rfl rfl (sw_true rfl rfl rfl (by decide +kernel)) (pi_range1 (by rfl) B.m_range (pa_cons (pv 0) pa_nil)) (blkOk_by (own := [("g", 3)]) (by kernel_rfl))
        (fun _ _ _ _ _ => (pg_name (i := 3) sc__law_stands_plainly.nd rfl (.inl rfl))) (fun _ _ _ _ _ => (pts_one (pt_cmpR op_lt (pe_bmK (K := K) rfl PySem.F.plainAttrs_list PySem.F.slot_list_index PySem.F.type_list_index (mt_indexDK (K := K) rfl (u65 hr)) (pv 1) (pa_cons (pe_ix (ix_listK (K := K) rfl) (pv 1) (pv 3) (fun _ _ => rfl)) pa_nil)) (pv 3) (nomark _))))
        (fun _ _ _ _ _ => (pv 3)))
      (pss_one (ps_ret (pe_and (pe_cmpR op_eq (pe_callB (call_len_seqK (K := K) rfl) (by rfl) B.m_len PySem.boot_len (pa_cons (pv 2) pa_nil)) pe_int (nomark _)) (pe_one (pe_not (pe_call G_law_on_rings (hr.mono (by decide)) (by rfl) D_law_on_rings.g D_law_on_rings.F.kp D_law_on_rings.b .nil pass0 (pa_cons (pv 1) pa_nil)))))))), ?_⟩
    walk_at "begin"
    walk_at "go"
    refine lcT_range topH (s0 := ()) trivial (n := (c : Int)) ?_ ?_ (fun i C acc => acc = (pick i fun k => decide (F k < k)).map V.int) rfl ?_ ?_
    · omega
    · omega
    · rintro D3 i _ C acc _ hD hS hi rfl
      rw [Int.toNat_natCast] at hi
      have hpl := pick_len i fun k => decide (F k < k)
      obtain ⟨r, hr1⟩ : ∃ r, rs[i]? = some r := ⟨_, List.getElem?_eq_getElem (by omega)⟩
      have hrwC := hrw.mono hS
      obtain ⟨b, hb1, hb2, hb3⟩ := Ro.get (f := V.int) hrwC hr1
      have hatb : atI (as.map V.ref) (i : Int) = some (.ref b) := at_i (by omega) (by rw [Int.toNat_natCast]; exact hb2)
      have haC := hS _ _ ha
      obtain ⟨f1, f2, f3⟩ := hF i (by omega)
      rw [hr1] at f2 f3
      walk_at "begin"
      walk_at "go"
      refine ⟨rfl, ?_⟩
      walk_at "go"
      have sD := same_new (o := .lst ((pick i fun k => decide (F k < k)).map V.int)) hD
      refine r_indexDd (ds := rs.map dI) (d := dI r) (j := F i) rfl (dpR (sD _ _ haC) (hrwC.mono sD)) (dpI (sD _ _ hb3)) (shR rs) (shI r) (plAll_of fun d hd => ?_) (plI r) (by rw [List.getElem?_map, f2]; rfl) (fun m hm e => ?_) ?_
      · obtain ⟨x, _, rfl⟩ := List.mem_map.mp hd; exact plI x
      · rw [List.getElem?_map] at e
        cases e2 : rs[m]? with
        | none => rw [e2] at e; cases e
        | some k2 =>
          rw [e2] at e
          have := dI_inj (Option.some.inj e)
          rw [this] at e2
          exact f3 m hm e2
      · walk_at "go"
        refine r_ite (fun t => ?_) (fun t => ?_)
        · walk_at "go"
          refine lcN_put topH (s := ()) trivial hD hS ?_ ?_
          · rw [List.length_map]; omega
          · rw [pick_succ, if_pos (decide_eq_true (by omega)), ints_push]
        · refine lcN_skip (s := ()) trivial hD hS ?_
          rw [pick_succ, if_neg (by rw [decide_eq_true_eq]; omega), List.append_nil]
    · rintro D3 _ C acc _ hB3 hD3 hS0 rfl
      rw [Int.toNat_natCast]
      have hal : (pick c fun k => decide (F k < k)).length = 0 ↔ ¬ Alk c rs false := by
        rw [alk_index hlr hcn (fun i hi => hF i (by omega))]
        unfold pick
        rw [List.length_map, List.length_eq_zero_iff, List.filter_eq_nil_iff]
        constructor
        · rintro h ⟨i, hi, hl⟩
          exact h i (List.mem_range.mpr hi) (decide_eq_true hl)
        · intro h i hi hl
          exact h ⟨i, List.mem_range.mp hi, of_decide_eq_true hl⟩
      generalize (pick c fun k => decide (F k < k)) = pd at hal ⊢
      have hS3 : Same H (upd C D3 (.lst (pd.map V.int))) := hS0.trans (same_new hD3)
      have hd3 : upd C D3 (.lst (pd.map V.int)) D3 = some (.lst (pd.map V.int)) := upd_same
      dsimp only at *
      generalize upd C D3 (.lst (pd.map V.int)) = H3 at hS3 hd3 ⊢
      clear hB3 hD3 hS0 C
      have ha3 := hS3 _ _ ha
      walk_at "go"
      rw [List.length_map]
      refine r_ite (fun he => ?_) (fun hne => ?_)
      · have hno := hal.mp (by have := V.int.inj he; omega)
        walk_at "go"
        refine ⟨a, as, rs, n, L, rfl, ha3, hrw.mono hS3, hwf, hn, hL, fun H4 b hS4 hb => ?_⟩
        walk_at "go"
        refine q H4 _ (hS3.trans hS4) ?_
        unfold Stn
        rw [Bool.not_eq_true']
        constructor
        · intro z
          exact ⟨hno, .inr fun x t => by rw [hb.mpr ⟨x, t⟩] at z; cases z⟩
        · rintro ⟨_, z⟩
          rcases z with z | z
          · cases z
          · rw [← Bool.not_eq_true, hb]
            rintro ⟨x, t⟩
            exact z x t
      · have hyes : ¬ ¬ Alk c rs false := fun z => hne (by rw [hal.mpr z]; rfl)
        refine q H3 _ hS3 ⟨fun z => absurd z Bool.false_ne_true, fun z => absurd z.1 hyes⟩
end
end K40
namespace K40
open PySem PySem.Spec PyProof.Rows L2 Lw


local macro_rules | `(tactic| walk_at "look") => `(tactic| first
  | assumption
  | with_reducible exact upd_same
  | with_reducible exact rg_st
  | with_reducible exact rg_g (by assumption)
  | (with_reducible refine upd_old (by assumption) ?_; walk_at "look")
  | (with_reducible refine rg_get (by assumption) ?_; walk_at "look")
  | (with_reducible refine Same.get (by assumption) ?_; walk_at "look"))
local macro_rules | `(tactic| walk_at "cond") => `(tactic| first
  | (show _ ≠ _; omega) | exact cdivN (by omega) (by omega) | exact cmul_mod (by decide) (by decide) | exact cmulR (by omega) (by omega) | exact cmulL (by omega) (by omega) | exact cpow (by omega) (by omega) (by omega) (by omega) | (show (0:Int) ≤ _; omega))
local macro_rules | `(tactic| walk_at "at") => `(tactic| first | assumption | with_unfolding_all rfl)
local macro_rules | `(tactic| walk_at "sz") => `(tactic| first | assumption | (refine small ?_; omega) | (refine small ?_; simp only [List.length_map, List.length_append, List.length_cons, List.length_nil]; omega))
local macro_rules | `(tactic| walk_at "len") => `(tactic| first | exact size_nil | exact Nat.le_of_lt (small (by simp only [List.length_cons, List.length_nil, List.length_map]; omega)))
local macro_rules | `(tactic| walk_at "newD") => `(tactic| (refine ⟨by walk_at "len", fun p np => ?_⟩; obtain ⟨e, o', hD', n', ne'⟩ := newTD_eq (topRg _ _) (by assumption) (by assumption) np (.lst _); rw [e]; clear e))
local macro_rules | `(tactic| walk_at "new") => `(tactic| (refine ⟨by walk_at "len", fun p np => ?_⟩; obtain ⟨e, o', n'⟩ := newT_eq (topRg _ _) (by assumption) np (.lst _); rw [e]; clear e))
local macro_rules | `(tactic| walk_at "st") => `(tactic| first
  | with_reducible refine r_seq ?_
  | with_reducible refine r_var rfl ?_
  | with_reducible refine r_c ?_
  | with_reducible refine r_asg ?_
  | (with_reducible refine r_name ?_; dsimp only [List.set_cons_zero, List.set_cons_succ])
  | with_reducible refine r_sub ?_
  | with_reducible refine r_op ?_
  | with_reducible refine r_i0 ?_
  | (with_reducible refine' r_i ?k1 ?_; (case k1 => walk_at "cond"))
  | with_reducible refine r_cons ?_
  | with_reducible refine r_nil ?_
  | with_reducible refine r_cb ?_
  | with_reducible refine r_call ?_
  | with_reducible refine r_ifs ?_
  | with_reducible refine r_test ?_
  | with_reducible refine r_tB ?_
  | with_reducible refine r_bl ?_
  | with_reducible refine r_ret ?_
  | with_reducible refine r_drop ?_
  | with_reducible refine r_next ?_
  | (with_reducible refine' r_ixL ?k1 ?k2 ?_; (case k1 => walk_at "look"); (case k2 => walk_at "at"))
  | (with_reducible refine' r_setL ?k1 ?k2 ?_; (case k1 => walk_at "look"); (case k2 => walk_at "at"))
  | (with_reducible refine' r_tup (SqT.of ?k1) ?k2 ?_; (case k1 => walk_at "look"); (case k2 => rfl))
  | with_reducible refine r_gcons ?_
  | with_reducible refine r_gnil ?_
  | with_reducible refine r_aug rfl ?_
  | with_reducible refine r_augS ?_
  | with_reducible refine r_ipI ?_
  | with_reducible refine r_un ?_
  | with_reducible refine r_u ?_
  | with_reducible refine r_eq rfl ?_
  | with_reducible refine r_ne rfl ?_
  | with_reducible refine r_chain ?_
  | with_reducible refine iteF ?_
  | with_reducible refine r_not ?_
  | with_reducible refine r_and ?_
  | with_reducible refine r_or ?_
  | with_reducible refine r_andV ?_
  | with_reducible refine r_orV ?_
  | with_reducible refine r_notV ?_
  | with_reducible refine r_lst ?_
  | with_reducible refine r_bm ?_
  | with_reducible refine r_bm0 ?_
  | (with_reducible refine' And.intro (r_ty ?k1) ?_; (case k1 => walk_at "look"))
  | (with_reducible refine' r_append ?k1 ?k2 ?_; (case k1 => walk_at "look"); (case k2 => walk_at "sz"))
  | (with_reducible refine' r_lenK ?k1 ?_; (case k1 => walk_at "look"))
  | (with_reducible refine' r_listOf ?k1 ?_; (case k1 => walk_at "look"))
  | (with_reducible refine' r_sortedI ?k1 ?_; (case k1 => walk_at "look"))
  | (with_reducible refine' r_sum ?k1 ?_; (case k1 => walk_at "look"))
  | with_reducible refine r_int ?_
  | (with_reducible refine' r_draw (by assumption) ?k1 ?k2 ?_; (case k1 => omega); (case k2 => omega); intro R' n' o' h' h'')
  | with_reducible refine iteT ?_
  | with_reducible refine r_revL ?_
  | with_reducible refine r_lc ?_
  | with_reducible refine r_yes ?_
  | with_reducible refine r_sl ?_
  | with_reducible refine r_noPart ?_
  | with_reducible refine r_part ?_
  | with_reducible refine r_lc2 ?_
  | with_reducible refine r_callN ?_
  | with_reducible refine r_callD ?_
  | with_reducible refine r_tupE ?_
  | with_reducible refine r_rng2 ?_
  | with_reducible refine r_i1 ?_
  | (with_reducible refine' r_slL ?k1 ?_; (case k1 => walk_at "look"))
  | with_reducible refine r_for ?_
  | with_reducible refine r_iList ?_
  | with_reducible refine r_rng1 ?_
  | with_reducible refine r_enum ?_
  | (with_reducible show Ends.nx _ _ _; dsimp only)
  | (with_reducible show Ends.rt _ _ _; dsimp only)
  | (with_reducible show Ends.ct _ _ _; dsimp only)
  | (with_reducible show Ends.bk _ _ _; dsimp only))
local macro_rules | `(tactic| walk_at "go") => `(tactic| repeat (walk_at "st"))
local macro_rules | `(tactic| walk_at "begin") => `(tactic| dsimp only [cxOf, wipe, L2.start, List.map, List.length_cons, List.length_nil, Nat.reduceAdd, Nat.reduceSub, List.replicate, List.cons_append, List.nil_append])


open Lm
theorem pr_ringed {n c : Nat} {r : List Int} {z : Int} (h : Pr n r) (h0 : 0 ≤ z) (h1 : z < (c : Int)) (hc : c ≤ n) : Pr n ([z] ++ r.filter fun e => decide (e ≥ (c : Int))) := by
  refine ⟨?_, fun e he => ?_⟩
  · rw [List.pairwise_append]
    refine ⟨List.pairwise_singleton _ _, h.1.sublist List.filter_sublist, fun a ha b hb => ?_⟩
    rw [List.mem_singleton.mp ha]
    have := of_decide_eq_true (List.mem_filter.mp hb).2
    omega
  · rcases List.mem_append.mp he with q | q
    · rw [List.mem_singleton.mp q]; omega
    · exact h.2 e (List.mem_filter.mp q).1
section
variable {P : Program} {w : World} {K : PySem.W.Frag} {mg : Str → Option Value} {base : Heap}
theorem ok_ringed {f f1 : Addr} {fd fd1 : FuncData} (B : Blt mg) (D : Dn K mg "_law_ringed" s__law_ringed ["state", "count", "rows"] f fd) (D_law_draw : Dn K mg "_law_draw" s__law_draw ["state", "many"] f1 fd1)
    (G_law_draw : FnOk P w K mg base CX0 1 f1 fd1 ["state", "many"] spDraw) : FnOk P w K mg base CX0 2 f fd ["state", "count", "rows"] spShape := by
  refine D.F.ok sc__law_ringed (fun vs H Q E h => ?_) (fun cdv A outer s H vs Q E hr h => ?_)
  · obtain ⟨st, g, R, B, a, as, rs, n, c, rfl, _⟩ := h
    rfl
  · obtain ⟨st, g, R, C0, a, as, rs, n, c, rfl, rfl, o, ha, hrw, hlr, hpr, hcn, hn, q⟩ := h
    have hla : as.length = n := by rw [hrw.1]; exact hlr
    refine ⟨_, (pss_cons (ps_set (i := 3) sc__law_ringed.nd rfl (.inl rfl) (pe_lst pa_nil))
      (pss_cons (ps_set (i := 4) sc__law_ringed.nd rfl (.inl rfl) pe_int)
      (pss_cons (ps_for PassesOwn.never rfl (pi_range1 (by rfl) B.m_range (pa_cons (pv 1) pa_nil)) (pg_name (i := 5) sc__law_ringed.nd rfl (.inl rfl)) (pss_cons (ps_set (i := 6) sc__law_ringed.nd rfl (.inl rfl) (pe_op op_add (pv 5) pe_int))
      (C8.pss_cut (ps_if (PW.pt (pw_or (pt_cmpR op_eq (pv 6) (pv 1) (nomark _)) (pw_or1 (pt_cmpR op_eq (pe_call G_law_draw (hr.mono (by decide)) (by rfl) D_law_draw.g D_law_draw.F.kp D_law_draw.b .nil pass0 (pa_cons (pv 0) (pa_cons pe_int pa_nil))) pe_int (nomark _))))) (pss_cons (ps_set (i := 6) sc__law_ringed.nd rfl (.inl rfl) (pv 4))
      (pss_one (ps_set (i := 4) sc__law_ringed.nd rfl (.inl rfl) (pe_op op_add (pv 5) pe_int)))) pss_nil)
      (pss_one (ps_expr (pe_bmK (K := K) rfl PySem.F.plainAttrs_list PySem.F.slot_list_append PySem.F.type_list_append mt_append (pv 3) (pa_cons (pe_op op_cat (pe_lst (pa_cons (pv 6) pa_nil)) (pe_lc (own := [("place", 7)]) rfl sc__law_ringed.nd (pi_listK (K := K) rfl (pe_ix (ix_listK (K := K) rfl) (pv 2) (pv 5) (fun _ _ => rfl))) (blkOk_by (own := [("place", 7)]) (by kernel_rfl))
        (fun _ _ _ _ _ => (pg_name (i := 7) sc__law_ringed.nd rfl (.inl rfl))) (fun _ _ _ _ _ => (pts_one (pt_cmpR op_ge (pv 7) (pv 1) (nomark _))))
        (fun _ _ _ _ _ => (pv 7)))) pa_nil)))))))
      (pss_one (ps_ret (pe_op op_cat (pv 3) (pe_slice (sl_listK (K := K) rfl) (pv 2) (po_some (pv 1)) po_none))))))), ?_⟩
    walk_at "begin"
    walk_at "go"
    refine ⟨size_nil, fun D nD => ?_⟩
    obtain ⟨e, o4, n4⟩ := newT_eq (topRg st g) o nD (.lst [])
    rw [e]
    walk_at "go"
    refine r_forR (n := (c : Int)) (by omega) (by omega) (fun i σ H => ∃ (R : RS) (C2 : Hp) (ms : List Addr) (rs2 : List (List Int)) (fi : Int) (y1 y2 : Option V), σ = [some (.ref st), some (.int (c : Int)), some (.ref a), some (.ref D), some (.int fi), y1, y2, none] ∧ H = rg st g R (upd C2 D (.lst (ms.map V.ref))) ∧ Ok st g R (upd C2 D (.lst (ms.map V.ref))) ∧ C2 D = none ∧ Same C0 C2 ∧
      Rw C2 ms rs2 ∧ ms.length = i ∧ (∀ r ∈ rs2, Pr n r) ∧ 0 ≤ fi ∧ fi ≤ (i : Int)) ?_ ?_ ?_
    · exact ⟨R, C0, [], [], 0, _, _, rfl, rfl, o4, n4, Same.refl _, Rw.nil, rfl, (fun r hr => nomatch hr), by omega, by omega⟩
    · rintro i σ H hi ⟨R4, C2, ms, rs2, fi, y1, y2, rfl, rfl, o4, hD4, hS4, hm, hml, hwf, f0, f1⟩
      rw [Int.toNat_natCast] at hi
      walk_at "go"
      refine ⟨fun σ HM => ∃ (R5 : RS) (to fi2 : Int), 0 ≤ to ∧ to < (c : Int) ∧ 0 ≤ fi2 ∧ fi2 ≤ (i : Int) + 1 ∧ σ = [some (.ref st), some (.int (c : Int)), some (.ref a), some (.ref D), some (.int fi2), some (.int i), some (.int to), none] ∧ HM = rg st g R5 (upd C2 D (.lst (ms.map V.ref))) ∧ Ok st g R5 (upd C2 D (.lst (ms.map V.ref))), ?_, ?_⟩
      · walk_at "go"
        refine r_ite (fun _ => ?_) (fun hne => ?_)
        · walk_at "go"
          exact ⟨R4, fi, (i : Int) + 1, f0, by omega, by omega, by omega, rfl, rfl, o4⟩
        · walk_at "go"
          rename_i R6 n6 o6 n60 n61
          have hne2 : (i : Int) + 1 ≠ c := fun z => hne (by rw [z])
          refine r_ite (fun _ => ?_) (fun _ => ?_)
          · walk_at "go"
            exact ⟨R6, fi, (i : Int) + 1, f0, by omega, by omega, by omega, rfl, rfl, o6⟩
          · walk_at "go"
            exact ⟨R6, (i : Int) + 1, fi, by omega, by omega, f0, by omega, rfl, rfl, o6⟩
      · rintro σ HM ⟨R5, to, fi2, t0, t1, g0, g1, rfl, rfl, o5⟩
        obtain ⟨r, hr1⟩ : ∃ r, rs[i]? = some r := ⟨_, List.getElem?_eq_getElem (by omega)⟩
        have hpi := hpr r (List.mem_of_getElem? hr1)
        have hrl := hpi.gd.1
        walk_at "go"
        refine ⟨by walk_at "len", fun p1 np1 => ?_⟩
        obtain ⟨e, o6, hD6, m6, ne6⟩ := newTD_eq (topRg st g) o5 hD4 np1 (.lst [.int to])
        try dsimp only at e
        rw [e]
        have s6 := same_new (o := .lst [V.int to]) m6
        have hS6 := hS4.trans s6
        have hm6 := hm.mono s6
        have hp6 : upd C2 p1 (.lst [.int to]) p1 = some (.lst [.int to]) := upd_same
        generalize upd C2 p1 (.lst [.int to]) = C6 at o6 hD6 hS6 hm6 hp6 ⊢
        clear s6 m6 np1 o5 hS4 hm
        obtain ⟨b, _, hb2, hb3⟩ := Ro.get (f := V.int) (hrw.mono hS6) hr1
        have hatb : atI (as.map V.ref) (i : Int) = some (.ref b) := at_i (by omega) (by rw [Int.toNat_natCast]; exact hb2)
        have ha6 := hS6 _ _ ha
        walk_at "go"
        refine lcT_list (topRg st g) (K := K) o6 (upd_old hD6 hb3) (fun j C acc => acc = ((r.take j).filter fun e => decide (e ≥ (c : Int))).map V.int) rfl ?_ ?_
        · rintro D2 j x R8 C8 acc o8 hD2 hS2 hx2 rfl
          obtain ⟨y, rfl, hy⟩ := ints_at hx2
          have hj := (List.getElem?_eq_some_iff.mp hy).1
          have hl2 : ((r.take j).filter fun e => decide (e ≥ (c : Int))).length ≤ 1000 := Nat.le_trans (List.length_filter_le _ _) (by rw [List.length_take]; omega)
          walk_at "begin"
          walk_at "go"
          refine ⟨rfl, ?_⟩
          walk_at "go"
          refine r_ite (fun hlt => ?_) (fun hlt => ?_)
          · walk_at "go"
            refine lcN_put (topRg st g) o8 hD2 hS2 ?_ ?_
            · rw [List.length_map]; omega
            · rw [fl_put hy (decide_eq_true hlt), List.map_append]; rfl
          · refine lcN_skip o8 hD2 hS2 ?_
            rw [fl_skip hy (decide_eq_false hlt)]
        · rintro D2 R8 C8 acc o8 hB2 hD2 hS2 rfl
          rw [List.length_map, List.take_length] at o8 ⊢
          have hl2 : (r.filter fun e => decide (e ≥ (c : Int))).length ≤ 1000 := Nat.le_trans (List.length_filter_le _ _) (by omega)
          obtain ⟨C9, e, q1, q2, q3, q4, q5⟩ := under (y := .lst ((r.filter fun e => decide (e ≥ (c : Int))).map V.int)) hD6 hB2 hS2
          rw [e] at o8 ⊢
          refine r_cat (rg_get o8 (upd_old q1 (q2 _ _ hp6))) (rg_get o8 (upd_old q1 q3)) (by rw [List.length_map]; simp only [List.length_cons, List.length_nil]; omega) fun p2 np2 => ?_
          obtain ⟨e, o9, hD9, m9, ne9⟩ := newTD_eq (topRg st g) o8 q1 np2 (.lst ([V.int to] ++ (r.filter fun e => decide (e ≥ (c : Int))).map V.int))
          try dsimp only at e
          rw [e]
          have s9 := same_new (o := .lst ([V.int to] ++ (r.filter fun e => decide (e ≥ (c : Int))).map V.int)) m9
          have hsz : (ms.map V.ref).length < sizeLine := small (by rw [List.length_map]; omega)
          walk_at "go"
          rw [(setTD_eq (topRg st g) o9 _).1]
          have o10 := (setTD_eq (topRg st g) o9 (.lst ((ms ++ [p2]).map V.ref))).2
          refine ⟨R8, _, ms ++ [p2], rs2 ++ [[to] ++ r.filter fun e => decide (e ≥ (c : Int))], fi2, _, _, rfl, by rw [refs_push], o10, hD9, (hS6.trans q2).trans s9, ((hm6.mono q2).mono s9).push (by rw [upd_same, List.map_append]; rfl), by rw [List.length_append, List.length_singleton, hml], fun r' hr' => ?_, g0, by omega⟩
          rcases List.mem_append.mp hr' with z | z
          · exact hwf r' z
          · rw [List.mem_singleton.mp z]; exact pr_ringed hpi t0 t1 hcn
    · rintro σ H ⟨R4, C2, ms, rs2, fi, y1, y2, rfl, rfl, o4, hD4, hS4, hm, hml, hwf, f0, f1⟩
      rw [Int.toNat_natCast] at hml
      have hd2 : upd C2 D (.lst (ms.map V.ref)) D = some (.lst (ms.map V.ref)) := upd_same
      have sD := same_new (o := .lst (ms.map V.ref)) hD4
      have hS5 := hS4.trans sD
      have hm5 := hm.mono sD
      generalize upd C2 D (.lst (ms.map V.ref)) = C3 at o4 hd2 hS5 hm5 ⊢
      have ha3 := hS5 _ _ ha
      walk_at "go"
      intro p3 np3
      rw [cut_from _ (Int.natCast_nonneg c), Int.toNat_natCast, ← List.map_drop]
      obtain ⟨e, o6, n6⟩ := newT_eq (topRg st g) o4 np3 (.lst ((as.drop c).map V.ref))
      rw [e]
      have s6 := same_new (o := .lst ((as.drop c).map V.ref)) n6
      refine r_cat (rg_get o6 (s6 _ _ hd2)) (rg_get o6 upd_same) (by rw [List.length_map, List.length_map, List.length_drop]; omega) fun p4 np4 => ?_
      obtain ⟨e, o7, n7⟩ := newT_eq (topRg st g) o6 np4 (.lst (ms.map V.ref ++ (as.drop c).map V.ref))
      rw [e]
      have s7 := same_new (o := .lst (ms.map V.ref ++ (as.drop c).map V.ref)) n7
      refine q _ _ p4 (ms ++ as.drop c) (rs2 ++ rs.drop c) o7 ((hS5.trans s6).trans s7) (by rw [upd_same, List.map_append]) (rw_append (hm5.mono (s6.trans s7)) (rw_drop (hrw.mono ((hS5.trans s6).trans s7)) c)) ?_ (fun r' hr' => ?_)
      · rw [List.length_append, List.length_drop, ← hm5.1, hml]; omega
      · rcases List.mem_append.mp hr' with z | z
        · exact hwf r' z
        · exact hpr r' (List.mem_of_mem_drop z)
theorem ok_chained {f f1 : Addr} {fd fd1 : FuncData} (B : Blt mg) (D : Dn K mg "_law_chained" s__law_chained ["state", "count", "rows"] f fd) (D_law_draw : Dn K mg "_law_draw" s__law_draw ["state", "many"] f1 fd1)
    (G_law_draw : FnOk P w K mg base CX0 1 f1 fd1 ["state", "many"] spDraw) : FnOk P w K mg base CX0 2 f fd ["state", "count", "rows"] spShape := by
  refine D.F.ok sc__law_chained (fun vs H Q E h => ?_) (fun cdv A outer s H vs Q E hr h => ?_)
  · obtain ⟨st, g, R, B, a, as, rs, n, c, rfl, _⟩ := h
    rfl
  · obtain ⟨st, g, R, C0, a, as, rs, n, c, rfl, rfl, o, ha, hrw, hlr, hpr, hcn, hn, q⟩ := h
    have hla : as.length = n := by rw [hrw.1]; exact hlr
    refine ⟨_, (pss_cons (ps_setLc (i := 3) (own := [("g", 4)]) rfl sc__law_chained.nd rfl rfl (sw_true rfl rfl rfl (by decide +kernel)) (pi_range2 (by rfl) B.m_range (pa_cons pe_int (pa_cons (pv 1) pa_nil))) (blkOk_by (own := [("g", 4)]) (by kernel_rfl))
        (fun _ _ _ _ _ => (pg_name (i := 4) sc__law_chained.nd rfl (.inl rfl))) (fun _ _ _ _ _ => pts_nil)
        (fun _ _ _ _ _ => (pe_lst (pa_cons (pe_op op_sub (pv 4) pe_int) pa_nil))))
      (C8.pss_cut (ps_if (pt_cmpR op_gt (pv 1) pe_int (nomark _)) (pss_one (ps_asg (pe_lst (pa_cons pe_int (pa_cons (pe_op op_sub (pv 1) pe_int) pa_nil))) (pg_sub (pv 3) (pe_op op_sub (pv 1) pe_int) set_list))) pss_nil)
      (C8.pss_cut (ps_if (pt_cmpR op_gt (pv 1) pe_int (nomark _)) (pss_cons (ps_set (i := 3) sc__law_chained.nd rfl (.inl rfl) (pe_op op_cat (pe_lst (pa_cons (pe_lst pa_nil) pa_nil)) (pv 3)))
      (pss_one (ps_if (pt_cmpR op_eq (pe_call G_law_draw (hr.mono (by decide)) (by rfl) D_law_draw.g D_law_draw.F.kp D_law_draw.b .nil pass0 (pa_cons (pv 0) (pa_cons pe_int pa_nil))) pe_int (nomark _)) (pss_one (ps_asg (pe_lst (pa_cons pe_int pa_nil)) (pg_sub (pv 3) pe_int set_list))) pss_nil))) pss_nil)
      (pss_one (ps_ret (pe_op op_cat (pv 3) (pe_slice (sl_listK (K := K) rfl) (pv 2) (po_some (pv 1)) po_none))))))), ?_⟩
    walk_at "begin"
    walk_at "go"
    refine lcT_range2 (topRg st g) o (by omega) (by omega) ?_ ?_ (fun i C acc => ∃ (ms : List Addr) (rs2 : List (List Int)), acc = ms.map V.ref ∧ Rw C ms rs2 ∧ ms.length = i ∧ ∀ r ∈ rs2, Pr n r) ⟨[], [], rfl, Rw.nil, rfl, fun r hr => nomatch hr⟩ ?_ ?_
    · omega
    · omega
    · rintro D1 i R3 C3 acc o4 hD hS hi ⟨ms, rs2, rfl, hm, hml, hwf⟩
      walk_at "begin"
      walk_at "go"
      refine ⟨rfl, ?_⟩
      walk_at "go"
      walk_at "newD"
      rename_i p np o5 hD4 n4 ne4
      have hm2 := hm.mono (same_new (o := .lst [V.int (1 + (i : Int) - 1)]) n4)
      refine lcN_put (topRg st g) o5 hD4 (hS.trans (same_new n4)) ?_ ⟨ms ++ [p], rs2 ++ [[1 + (i : Int) - 1]], refs_push _ _, hm2.push upd_same, by rw [List.length_append, List.length_singleton, hml], fun r' hr' => ?_⟩
      · rw [List.length_map]; omega
      · rcases List.mem_append.mp hr' with z | z
        · exact hwf r' z
        · rw [List.mem_singleton.mp z]
          exact ⟨List.pairwise_singleton _ _, fun e he => by rw [List.mem_singleton.mp he]; omega⟩
    · rintro D1 R3 C3 acc o4 hB hD1 hS2 ⟨ms, rs2, rfl, hm, hml, hwf⟩
      walk_at "go"
      refine ⟨fun σ HM => ∃ (C2 : Hp) (ms : List Addr) (rs2 : List (List Int)), σ = [some (.ref st), some (.int (c : Int)), some (.ref a), some (.ref D1), none] ∧ HM = rg st g R3 (upd C2 D1 (.lst (ms.map V.ref))) ∧ Ok st g R3 (upd C2 D1 (.lst (ms.map V.ref))) ∧ C2 D1 = none ∧ Same C0 C2 ∧ Rw C2 ms rs2 ∧ (ms.length : Int) = max ((c : Int) - 1) 0 ∧ ∀ r ∈ rs2, Pr n r, ?_, ?_⟩
      · walk_at "go"
        refine r_ite (fun hc2 => ?_) (fun _ => ?_)
        · walk_at "go"
          walk_at "newD"
          rename_i p np o5 hD4 n4 ne4
          have hix : ixN (ms.map V.ref).length ((c : Int) - 2) = some (c - 2) := by
            have := ix_i (n := (ms.map V.ref).length) (z := (c : Int) - 2) (by omega) (by rw [List.length_map]; omega)
            rwa [show ((c : Int) - 2).toNat = c - 2 by omega] at this
          walk_at "go"
          rw [(setTD_eq (topRg st g) o5 _).1, refsSet]
          have o6 := (setTD_eq (topRg st g) o5 (.lst ((ms.set (c - 2) p).map V.ref))).2
          have s4 := same_new (o := .lst [V.int 0, V.int ((c : Int) - 2)]) n4
          refine ⟨_, ms.set (c - 2) p, rs2.set (c - 2) [0, (c : Int) - 2], rfl, rfl, o6, hD4, hS2.trans s4, (hm.mono s4).set (c - 2) upd_same, by rw [List.length_set]; omega, fun r' hr' => ?_⟩
          rcases List.mem_or_eq_of_mem_set hr' with z | z
          · exact hwf r' z
          · rw [z]
            refine ⟨List.pairwise_cons.mpr ⟨fun e he => by rw [List.mem_singleton.mp he]; omega, List.pairwise_singleton _ _⟩, fun e he => ?_⟩
            rcases List.mem_cons.mp he with y | y
            · rw [y]; omega
            · rw [List.mem_singleton.mp y]; omega
        · walk_at "go"
          exact ⟨C3, ms, rs2, rfl, rfl, o4, hD1, hS2, hm, by omega, hwf⟩
      · rintro σ HM ⟨C2, ms, rs2, rfl, rfl, o5, hD2, hS5, hm, hml, hwf⟩
        clear o4 hS2 hD1 hB
        have hd2 : upd C2 D1 (.lst (ms.map V.ref)) D1 = some (.lst (ms.map V.ref)) := upd_same
        have sD := same_new (o := .lst (ms.map V.ref)) hD2
        have hS6 := hS5.trans sD
        have hm6 := hm.mono sD
        generalize upd C2 D1 (.lst (ms.map V.ref)) = C3 at o5 hd2 hS6 hm6 ⊢
        walk_at "go"
        refine ⟨fun σ HM => ∃ (R5 : RS) (C5 : Hp) (p : Addr) (ms : List Addr) (rs2 : List (List Int)), σ = [some (.ref st), some (.int (c : Int)), some (.ref a), some (.ref p), none] ∧ HM = rg st g R5 C5 ∧ Ok st g R5 C5 ∧ Same C0 C5 ∧ C5 p = some (.lst (ms.map V.ref)) ∧ Rw C5 ms rs2 ∧ ms.length = c ∧ ∀ r ∈ rs2, Pr n r, ?_, ?_⟩
        · walk_at "go"
          refine r_ite (fun hc0 => ?_) (fun hc0 => ?_)
          · walk_at "go"
            refine ⟨size_nil, fun p1 np1 => ?_⟩
            obtain ⟨e, o6, m6⟩ := newT_eq (topRg st g) o5 np1 (.lst [])
            rw [e]
            walk_at "go"
            refine ⟨by walk_at "len", fun p2 np2 => ?_⟩
            obtain ⟨e, o7, m7⟩ := newT_eq (topRg st g) o6 np2 (.lst [.ref p1])
            rw [e]
            have s7 := (same_new (o := .lst []) m6).trans (same_new (o := .lst [V.ref p1]) m7)
            have h1 : upd (upd C3 p1 (.lst [])) p2 (.lst [.ref p1]) p1 = some (.lst (([] : List Int).map V.int)) := upd_old m7 upd_same
            have h2 : upd (upd C3 p1 (.lst [])) p2 (.lst [.ref p1]) p2 = some (.lst ([p1].map V.ref)) := upd_same
            generalize upd (upd C3 p1 (.lst [])) p2 (.lst [.ref p1]) = C7 at o7 s7 h1 h2 ⊢
            walk_at "go"
            refine r_cat (rg_get o7 h2) (rg_get o7 (s7 _ _ hd2)) (by simp only [List.length_map, List.length_cons, List.length_nil]; omega) fun p3 np3 => ?_
            rw [← List.map_append]
            obtain ⟨e, o8, m8⟩ := newT_eq (topRg st g) o7 np3 (.lst (([p1] ++ ms).map V.ref))
            rw [e]
            have hm8 : Rw C7 ([p1] ++ ms) ([[]] ++ rs2) := rw_append (Rw.nil.push (r := []) (b := p1) h1) (hm6.mono s7)
            have hl8 : ([p1] ++ ms).length = c := by rw [List.length_append, List.length_singleton]; omega
            have hw8 : ∀ r ∈ ([[]] ++ rs2), Pr n r := fun r hr => by
              rcases List.mem_append.mp hr with z | z
              · rw [List.mem_singleton.mp z]; exact Pr.nil
              · exact hwf r z
            have hS8 := hS6.trans s7
            generalize [p1] ++ ms = ms8 at o8 hm8 hl8 ⊢
            generalize [[]] ++ rs2 = rs8 at hm8 hw8
            walk_at "go"
            rename_i R9 n9 o9 n90 n91
            refine r_ite (fun _ => ?_) (fun _ => ?_)
            · walk_at "go"
              walk_at "newD"
              rename_i p4 np4 o10 hD10 m10 ne10
              have hix : ixN (ms8.map V.ref).length (0 : Int) = some 0 := ix_i (n := (ms8.map V.ref).length) (z := 0) (by omega) (by rw [List.length_map]; omega)
              walk_at "go"
              rw [(setTD_eq (topRg st g) o10 _).1, refsSet]
              have o11 := (setTD_eq (topRg st g) o10 (.lst ((ms8.set 0 p4).map V.ref))).2
              have s10 := same_new (o := .lst [V.int 0]) m10
              have s11 := same_new (o := .lst ((ms8.set 0 p4).map V.ref)) hD10
              refine ⟨R9, _, p3, ms8.set 0 p4, rs8.set 0 [0], rfl, rfl, o11, (hS8.trans s10).trans s11, upd_same, ((hm8.mono s10).set 0 upd_same).mono s11, by rw [List.length_set]; exact hl8, fun r' hr' => ?_⟩
              rcases List.mem_or_eq_of_mem_set hr' with z | z
              · exact hw8 r' z
              · rw [z]
                exact ⟨List.pairwise_singleton _ _, fun e he => by rw [List.mem_singleton.mp he]; omega⟩
            · walk_at "go"
              have s8 := same_new (o := .lst (ms8.map V.ref)) m8
              exact ⟨R9, _, p3, ms8, rs8, rfl, rfl, o9, hS8.trans s8, upd_same, hm8.mono s8, hl8, hw8⟩
          · walk_at "go"
            exact ⟨R3, C3, D1, ms, rs2, rfl, rfl, o5, hS6, hd2, hm6, by omega, hwf⟩
        · rintro σ HM ⟨R5, C5, p, ms, rs2, rfl, rfl, o6, hS7, hp, hm7, hml7, hwf7⟩
          have ha3 := hS7 _ _ ha
          walk_at "go"
          intro p3 np3
          rw [cut_from _ (Int.natCast_nonneg c), Int.toNat_natCast, ← List.map_drop]
          obtain ⟨e, o7, n6⟩ := newT_eq (topRg st g) o6 np3 (.lst ((as.drop c).map V.ref))
          rw [e]
          have s6 := same_new (o := .lst ((as.drop c).map V.ref)) n6
          refine r_cat (rg_get o7 (s6 _ _ hp)) (rg_get o7 upd_same) (by rw [List.length_map, List.length_map, List.length_drop]; omega) fun p4 np4 => ?_
          obtain ⟨e, o8, n7⟩ := newT_eq (topRg st g) o7 np4 (.lst (ms.map V.ref ++ (as.drop c).map V.ref))
          rw [e]
          have s7 := same_new (o := .lst (ms.map V.ref ++ (as.drop c).map V.ref)) n7
          refine q _ _ p4 (ms ++ as.drop c) (rs2 ++ rs.drop c) o8 ((hS7.trans s6).trans s7) (by rw [upd_same, List.map_append]) (rw_append (hm7.mono (s6.trans s7)) (rw_drop (hrw.mono ((hS7.trans s6).trans s7)) c)) ?_ (fun r' hr' => ?_)
          · rw [List.length_append, List.length_drop, ← hm7.1, hml7]; omega
          · rcases List.mem_append.mp hr' with z | z
            · exact hwf7 r' z
            · exact hpr r' (List.mem_of_mem_drop z)
end
end K40
namespace K40
open PySem PySem.Spec PyProof.Rows L2 Lw


local macro_rules | `(tactic| walk_at "look") => `(tactic| first
  | assumption
  | with_reducible exact upd_same
  | with_reducible exact rg_st
  | with_reducible exact rg_g (by assumption)
  | (with_reducible refine upd_old (by assumption) ?_; walk_at "look")
  | (with_reducible refine rg_get (by assumption) ?_; walk_at "look")
  | (with_reducible refine Same.get (by assumption) ?_; walk_at "look"))
local macro_rules | `(tactic| walk_at "cond") => `(tactic| first
  | (show _ ≠ _; omega) | exact cdivN (by omega) (by omega) | exact cmul_mod (by decide) (by decide) | exact cmulR (by omega) (by omega) | exact cmulL (by omega) (by omega) | exact cpow (by omega) (by omega) (by omega) (by omega) | (show (0:Int) ≤ _; omega))
local macro_rules | `(tactic| walk_at "at") => `(tactic| first | assumption | with_unfolding_all rfl)
local macro_rules | `(tactic| walk_at "sz") => `(tactic| first | assumption | (refine small ?_; omega) | (refine small ?_; simp only [List.length_map, List.length_append, List.length_cons, List.length_nil]; omega))
local macro_rules | `(tactic| walk_at "len") => `(tactic| first | exact size_nil | exact Nat.le_of_lt (small (by simp only [List.length_cons, List.length_nil, List.length_map]; omega)))
local macro_rules | `(tactic| walk_at "newD") => `(tactic| (refine ⟨by walk_at "len", fun p np => ?_⟩; obtain ⟨e, o', hD', n', ne'⟩ := newTD_eq (topRg _ _) (by assumption) (by assumption) np (.lst _); rw [e]; clear e))
local macro_rules | `(tactic| walk_at "new") => `(tactic| (refine ⟨by walk_at "len", fun p np => ?_⟩; obtain ⟨e, o', n'⟩ := newT_eq (topRg _ _) (by assumption) np (.lst _); rw [e]; clear e))
local macro_rules | `(tactic| walk_at "st") => `(tactic| first
  | with_reducible refine r_seq ?_
  | with_reducible refine r_var rfl ?_
  | with_reducible refine r_c ?_
  | with_reducible refine r_asg ?_
  | (with_reducible refine r_name ?_; dsimp only [List.set_cons_zero, List.set_cons_succ])
  | with_reducible refine r_sub ?_
  | with_reducible refine r_op ?_
  | with_reducible refine r_i0 ?_
  | (with_reducible refine' r_i ?k1 ?_; (case k1 => walk_at "cond"))
  | with_reducible refine r_cons ?_
  | with_reducible refine r_nil ?_
  | with_reducible refine r_cb ?_
  | with_reducible refine r_call ?_
  | with_reducible refine r_ifs ?_
  | with_reducible refine r_test ?_
  | with_reducible refine r_tB ?_
  | with_reducible refine r_bl ?_
  | with_reducible refine r_ret ?_
  | with_reducible refine r_drop ?_
  | with_reducible refine r_next ?_
  | (with_reducible refine' r_ixL ?k1 ?k2 ?_; (case k1 => walk_at "look"); (case k2 => walk_at "at"))
  | (with_reducible refine' r_setL ?k1 ?k2 ?_; (case k1 => walk_at "look"); (case k2 => walk_at "at"))
  | (with_reducible refine' r_tup (SqT.of ?k1) ?k2 ?_; (case k1 => walk_at "look"); (case k2 => rfl))
  | with_reducible refine r_gcons ?_
  | with_reducible refine r_gnil ?_
  | with_reducible refine r_aug rfl ?_
  | with_reducible refine r_augS ?_
  | with_reducible refine r_ipI ?_
  | with_reducible refine r_un ?_
  | with_reducible refine r_u ?_
  | with_reducible refine r_eq rfl ?_
  | with_reducible refine r_ne rfl ?_
  | with_reducible refine r_chain ?_
  | with_reducible refine iteF ?_
  | with_reducible refine r_not ?_
  | with_reducible refine r_and ?_
  | with_reducible refine r_or ?_
  | with_reducible refine r_andV ?_
  | with_reducible refine r_orV ?_
  | with_reducible refine r_notV ?_
  | with_reducible refine r_lst ?_
  | with_reducible refine r_bm ?_
  | with_reducible refine r_bm0 ?_
  | (with_reducible refine' And.intro (r_ty ?k1) ?_; (case k1 => walk_at "look"))
  | (with_reducible refine' r_append ?k1 ?k2 ?_; (case k1 => walk_at "look"); (case k2 => walk_at "sz"))
  | (with_reducible refine' r_lenK ?k1 ?_; (case k1 => walk_at "look"))
  | (with_reducible refine' r_listOf ?k1 ?_; (case k1 => walk_at "look"))
  | (with_reducible refine' r_sortedI ?k1 ?_; (case k1 => walk_at "look"))
  | (with_reducible refine' r_sum ?k1 ?_; (case k1 => walk_at "look"))
  | with_reducible refine r_int ?_
  | (with_reducible refine' r_draw (by assumption) ?k1 ?k2 ?_; (case k1 => omega); (case k2 => omega); intro R' n' o' h' h'')
  | with_reducible refine iteT ?_
  | with_reducible refine r_revL ?_
  | with_reducible refine r_lc ?_
  | with_reducible refine r_yes ?_
  | with_reducible refine r_sl ?_
  | with_reducible refine r_noPart ?_
  | with_reducible refine r_part ?_
  | with_reducible refine r_lc2 ?_
  | with_reducible refine r_callN ?_
  | with_reducible refine r_callD ?_
  | with_reducible refine r_tupE ?_
  | with_reducible refine r_rng2 ?_
  | with_reducible refine r_i1 ?_
  | (with_reducible refine' r_slL ?k1 ?_; (case k1 => walk_at "look"))
  | with_reducible refine r_for ?_
  | with_reducible refine r_iList ?_
  | with_reducible refine r_rng1 ?_
  | with_reducible refine r_enum ?_
  | (with_reducible show Ends.nx _ _ _; dsimp only)
  | (with_reducible show Ends.rt _ _ _; dsimp only)
  | (with_reducible show Ends.ct _ _ _; dsimp only)
  | (with_reducible show Ends.bk _ _ _; dsimp only))
local macro_rules | `(tactic| walk_at "go") => `(tactic| repeat (walk_at "st"))
local macro_rules | `(tactic| walk_at "begin") => `(tactic| dsimp only [cxOf, wipe, L2.start, List.map, List.length_cons, List.length_nil, Nat.reduceAdd, Nat.reduceSub, List.replicate, List.cons_append, List.nil_append])


open Lm
theorem rg_low {st g x : Addr} {R : RS} {B : Hp} {o : HO} (h : rg st g R B x = some o) (h1 : x ≠ st) (h2 : x ≠ g) : B x = some o := by
  unfold rg at h
  rw [upd_ne h1, upd_ne h2] at h
  exact h
def spMended : Sp := fun vs H Q _ => ∃ (st g : Addr) (R : RS) (B : Hp) (a : Addr) (as : List Addr) (rs : List (List Int)) (n c : Nat), vs = [.ref st, .int (c : Int), .ref a] ∧ H = rg st g R B ∧ Ok st g R B ∧ B a = some (.lst (as.map V.ref)) ∧ Rw B as rs ∧ rs.length = n ∧ (∀ r ∈ rs, Pr n r) ∧ c ≤ n ∧ n ≤ 60 ∧ c ≤ 30 ∧
  ∀ (R' : RS) (B' : Hp) (q : Addr) (as' : List Addr) (rs' : List (List Int)) (n' : Nat), Ok st g R' B' → Same B B' → B' q = some (.lst (as'.map V.ref)) → Rw B' as' rs' → rs'.length = n' → (∀ r ∈ rs', Pr n' r) → n ≤ n' → n' ≤ n + c → Q (.ref q) (rg st g R' B')
section
variable {P : Program} {w : World} {K : PySem.W.Frag} {mg : Str → Option Value} {base : Heap}
theorem ok_mended {f f1 f2 : Addr} {fd fd1 fd2 : FuncData} (B : Blt mg) (D : Dn K mg "_law_mended" s__law_mended ["state", "count", "rows"] f fd)
    (D_law_classes : Dn K mg "_law_classes" s__law_classes ["count", "rows"] f1 fd1) (G_law_classes : FnOk P w K mg base CX0 1 f1 fd1 ["count", "rows"] spClasses)
    (D_law_some : Dn K mg "_law_some" s__law_some ["state", "high", "dense"] f2 fd2) (G_law_some : FnOk P w K mg base CX0 2 f2 fd2 ["state", "high", "dense"] spSome) :
    FnOk P w K mg base CX0 3 f fd ["state", "count", "rows"] spMended := by
  refine D.F.ok sc__law_mended (fun vs H Q E h => ?_) (fun cdv A outer s H vs Q E hr h => ?_)
  · obtain ⟨st, g, R, B, a, as, rs, n, c, rfl, _⟩ := h
    rfl
  · obtain ⟨st, g, R0, C0, a0, as0, rs0, n0, c, rfl, rfl, o, ha, hrw, hlr, hpr, hcn, hn, hc30, q⟩ := h
    refine ⟨_, (pss_cons (ps_for PassesOwn.never rfl (pi_range1 (by rfl) B.m_range (pa_cons (pv 1) pa_nil)) (pg_name (i := 3) sc__law_mended.nd rfl (.inl rfl)) (pss_cons (ps_set (i := 4) sc__law_mended.nd rfl (.inr rfl) (pe_call G_law_classes (hr.mono (by decide)) (by rfl) D_law_classes.g D_law_classes.F.kp D_law_classes.b .nil pass0 (pa_cons (pv 1) (pa_cons (pv 2) pa_nil))))
      (pss_cons (ps_setLc (i := 5) (own := [("h", 8)]) rfl sc__law_mended.nd rfl rfl (sw_true rfl rfl rfl (by decide +kernel)) (pi_range1 (by rfl) B.m_range (pa_cons (pv 1) pa_nil)) (blkOk_by (own := [("h", 8)]) (by kernel_rfl))
        (fun _ _ _ _ _ => (pg_name (i := 8) sc__law_mended.nd rfl (.inl rfl))) (fun _ _ _ _ _ => (pts_one (pt_cmpR op_lt (pe_bmK (K := K) rfl PySem.F.plainAttrs_list PySem.F.slot_list_index PySem.F.type_list_index (mt_indexK (K := K) rfl) (pv 4) (pa_cons (pe_ix (ix_listK (K := K) rfl) (pv 4) (pv 8) (fun _ _ => rfl)) pa_nil)) (pv 8) (nomark _))))
        (fun _ _ _ _ _ => (pv 8)))
      (pss_cons (ps_if (pt_cmpR op_eq (pe_callB (call_len_seqK (K := K) rfl) (by rfl) B.m_len PySem.boot_len (pa_cons (pv 5) pa_nil)) pe_int (nomark _)) (pss_one (ps_ret (pv 2))) pss_nil)
      (pss_cons (ps_setLc (i := 6) (own := [("row", 7)]) rfl sc__law_mended.nd rfl rfl (sw_true rfl rfl rfl (by decide +kernel)) (pi_listK (K := K) rfl (pv 2)) (blkOk_by (own := [("row", 7)]) (by kernel_rfl))
        (fun _ _ _ _ _ => (pg_name (i := 7) sc__law_mended.nd rfl (.inl rfl))) (fun _ _ _ _ _ => pts_nil)
        (fun _ _ _ _ _ => (pe_callTy (call_list_ofK (K := K) rfl) (by rfl) B.m_list (by decide +kernel) (pa_cons (pv 7) pa_nil))))
      (pss_cons (ps_set (i := 7) sc__law_mended.nd rfl (.inl rfl) (pe_ix (ix_listK (K := K) rfl) (pv 6) (pe_ix (ix_listK (K := K) rfl) (pv 5) pe_int (fun _ _ => rfl)) (fun _ _ => rfl)))
      (pss_cons (ps_expr (pe_bmK (K := K) rfl PySem.F.plainAttrs_list PySem.F.slot_list_append PySem.F.type_list_append mt_append (pv 7) (pa_cons (pe_callB (call_len_seqK (K := K) rfl) (by rfl) B.m_len PySem.boot_len (pa_cons (pv 2) pa_nil)) pa_nil)))
      (pss_cons (ps_expr (pe_bmK (K := K) rfl PySem.F.plainAttrs_list PySem.F.slot_list_append PySem.F.type_list_append mt_append (pv 6) (pa_cons (pe_call G_law_some (hr.mono (by decide)) (by rfl) D_law_some.g D_law_some.F.kp D_law_some.b .nil pass0 (pa_cons (pv 0) (pa_cons (pv 1) (pa_cons pe_int pa_nil)))) pa_nil)))
      (pss_one (ps_set (i := 2) sc__law_mended.nd rfl (.inl rfl) (pv 6)))))))))))
      (pss_one (ps_ret (pv 2)))), ?_⟩
    walk_at "begin"
    walk_at "go"
    refine r_forR (n := (c : Int)) (by omega) (by omega) (fun t σ H => ∃ (R : RS) (C : Hp) (a : Addr) (as : List Addr) (rs : List (List Int)) (n : Nat) (y3 y4 y5 y6 y7 : Option V), σ = [some (.ref st), some (.int (c : Int)), some (.ref a), y3, y4, y5, y6, y7, none] ∧ H = rg st g R C ∧ Ok st g R C ∧ Same C0 C ∧ C a = some (.lst (as.map V.ref)) ∧ Rw C as rs ∧ rs.length = n ∧ (∀ r ∈ rs, Pr n r) ∧ n0 ≤ n ∧ n ≤ n0 + t) ?_ ?_ ?_
    · exact ⟨R0, C0, a0, as0, rs0, n0, _, _, _, _, _, rfl, rfl, o, Same.refl _, ha, hrw, hlr, hpr, Nat.le_refl _, Nat.le_refl _⟩
    · rintro t σ H ht ⟨R, C, a, as, rs, n, y3, y4, y5, y6, y7, rfl, rfl, o1, hS, ha1, hrw1, hlr1, hpr1, hn1, hn2⟩
      rw [Int.toNat_natCast] at ht
      have hla : as.length = n := by rw [hrw1.1]; exact hlr1
      have haH := rg_get o1 ha1
      have hrwH : Rw (rg st g R C) as rs := hrw1.mono fun x y e => rg_get o1 e
      walk_at "go"
      refine ⟨a, as, rs, n, n, c, rfl, haH, hrwH, ⟨hlr1, fun r hr => (hpr1 r hr).gd⟩, by omega, by omega, by omega, by omega, fun H1 q1 p hS1 hq1 hps hfin => ?_⟩
      have hpl := hps.len
      walk_at "go"
      have first : ∀ i : Nat, ∃ j : Nat, i < c → j ≤ i ∧ p[j]? = p[i]? ∧ ∀ m, m < j → p[m]? ≠ p[i]? := fun i => by
        by_cases hi : i < c
        · obtain ⟨j, h1, h2, h3⟩ := first_of (l := p) (i := i) (y := p[i]'(by omega)) (List.getElem?_eq_getElem (by omega))
          refine ⟨j, fun _ => ⟨h1, ?_, ?_⟩⟩
          · rw [h2, List.getElem?_eq_getElem (show i < p.length by omega)]
          · intro m hm; rw [List.getElem?_eq_getElem (show i < p.length by omega)]; exact h3 m hm
        · exact ⟨0, fun z => absurd z hi⟩
      obtain ⟨F, hF⟩ := Classical.axiomOfChoice first
      refine lcT_range topH (s0 := ()) trivial (n := (c : Int)) ?_ ?_ (fun i C acc => acc = (pick i fun k => decide (F k < k)).map V.int) rfl ?_ ?_
      · omega
      · omega
      · rintro D3 i _ C3 acc _ hD hS hi rfl
        rw [Int.toNat_natCast] at hi
        have hpl2 := pick_len i fun k => decide (F k < k)
        obtain ⟨f1, f2, f3⟩ := hF i hi
        have hpi := pAt_of (p := p) (a := i) (by omega)
        rw [hpi] at f2 f3
        have hati : atI (p.map V.int) (i : Int) = some (.int (pAt p i)) := at_i (by omega) (by rw [Int.toNat_natCast, List.getElem?_map, hpi]; rfl)
        have hqC := hS _ _ hq1
        walk_at "begin"
        walk_at "go"
        refine ⟨rfl, ?_⟩
        walk_at "go"
        refine r_index (upd_old hD hqC) f2 f3 ?_
        walk_at "go"
        refine r_ite (fun t => ?_) (fun t => ?_)
        · walk_at "go"
          refine lcN_put topH (s := ()) trivial hD hS ?_ ?_
          · rw [List.length_map]; omega
          · rw [pick_succ, if_pos (decide_eq_true (by omega)), ints_push]
        · refine lcN_skip (s := ()) trivial hD hS ?_
          rw [pick_succ, if_neg (by rw [decide_eq_true_eq]; omega), List.append_nil]
      · rintro D3 _ C3 acc _ hB3 hD3 hS0 rfl
        rw [Int.toNat_natCast]
        have htw : ∀ z ∈ (pick c fun k => decide (F k < k)), 0 ≤ z ∧ z < (c : Int) := fun z hz => by
          unfold pick at hz
          obtain ⟨k, hk, rfl⟩ := List.mem_map.mp hz
          have := List.mem_range.mp (List.mem_filter.mp hk).1
          exact ⟨Int.natCast_nonneg _, by show (k : Int) < c; omega⟩
        generalize (pick c fun k => decide (F k < k)) = tw at htw ⊢
        have hS2 : Same (rg st g R C) (upd C3 D3 (.lst (tw.map V.int))) := (hS1.trans hS0).trans (same_new hD3)
        have hd2 : upd C3 D3 (.lst (tw.map V.int)) D3 = some (.lst (tw.map V.int)) := upd_same
        dsimp only at *
        generalize upd C3 D3 (.lst (tw.map V.int)) = H2 at hS2 hd2 ⊢
        clear hB3 hD3 hS0 C3
        have ha2 := hS2 _ _ haH
        walk_at "go"
        rw [List.length_map]
        refine r_ite (fun he => ?_) (fun hne => ?_)
        · walk_at "go"
          obtain ⟨B2, rfl, o2, sB⟩ := rg_same o1 hS2
          exact q R B2 a as rs n o2 (hS.trans sB) (sB _ _ ha1) (hrw1.mono sB) hlr1 hpr1 hn1 (by omega)
        · have htl : 0 < tw.length := Nat.pos_of_ne_zero fun z => hne (by rw [z]; rfl)
          obtain ⟨t0, ht0⟩ : ∃ t0, tw[0]? = some t0 := ⟨_, List.getElem?_eq_getElem htl⟩
          obtain ⟨tt0, tt1⟩ := htw t0 (List.mem_of_getElem? ht0)
          have hat0 : atI (tw.map V.int) (0 : Int) = some (.int t0) := at_i (by omega) (by show (tw.map V.int)[0]? = _; rw [List.getElem?_map, ht0]; rfl)
          walk_at "go"
          refine lcT_list topH (K := K) (s0 := ()) trivial (xs := as.map V.ref) ha2 (fun i C acc => ∃ hs : List Addr, acc = hs.map V.ref ∧ Rw C hs (rs.take i) ∧ hs.Nodup ∧ ∀ t ∈ hs, H2 t = none) ⟨[], rfl, Rw.nil, List.nodup_nil, fun t ht => nomatch ht⟩ ?_ ?_
          · rintro D7 i x _ C7 acc _ hD hS7 hx ⟨hs, rfl, hh, hnd, hfr⟩
            obtain ⟨b, r, rfl, hb1, hr1, hc1⟩ := (hrwH.mono (hS2.trans hS7)).at hx
            have hhl : hs.length ≤ i := by rw [hh.1, List.length_take]; omega
            have hi := (List.getElem?_eq_some_iff.mp hr1).1
            walk_at "begin"
            walk_at "go"
            refine ⟨rfl, ?_⟩
            walk_at "go"
            intro p np
            obtain ⟨e, _, hD5, n5, ne5⟩ := newTD_eq topH (s := ()) trivial hD np (.lst (r.map V.int))
            try dsimp only at e
            rw [e]
            refine lcN_put topH (s := ()) trivial hD5 (hS7.trans (same_new n5)) ?_ ⟨hs ++ [p], refs_push _ _, ?_, nodup_push hnd fun hm => ?_, fun t ht => ?_⟩
            · rw [List.length_map]; omega
            · rw [tk_succ hr1]
              exact (hh.mono (same_new n5)).push upd_same
            · obtain ⟨j, hj⟩ := List.mem_iff_getElem?.mp hm
              obtain ⟨r, _, hr⟩ := hh.2 j p hj
              rw [n5] at hr; cases hr
            · rcases List.mem_append.mp ht with z | z
              · exact hfr t z
              · rw [List.mem_singleton.mp z]; exact hS7.free n5
          · rintro Dm _ C7 acc _ hB7 hD7 hS7 ⟨hs, rfl, hh0, hnd, hfr⟩
            rw [List.length_map, hla, ← hlr1, List.take_length] at hh0
            have hneD : ∀ t ∈ hs, t ≠ Dm := fun t ht => by
              obtain ⟨j, hj⟩ := List.mem_iff_getElem?.mp ht
              obtain ⟨r, _, hr⟩ := hh0.2 j t hj
              exact ne_of_none hr hD7
            have hS8 : Same H2 (upd C7 Dm (.lst (hs.map V.ref))) := hS7.trans (same_new hD7)
            have hh8 := hh0.mono (same_new (o := .lst (hs.map V.ref)) hD7)
            have hd8 : upd C7 Dm (.lst (hs.map V.ref)) Dm = some (.lst (hs.map V.ref)) := upd_same
            have hHD : H2 Dm = none := hB7
            dsimp only at *
            generalize upd C7 Dm (.lst (hs.map V.ref)) = H8 at hS8 hh8 hd8 ⊢
            clear hh0 hB7 hD7 hS7 C7
            have hhl : hs.length = n := by rw [hh8.1]; exact hlr1
            have hd38 := hS8 _ _ hd2
            have ha8 := hS8 _ _ ha2
            obtain ⟨r, hr1⟩ : ∃ r, rs[t0.toNat]? = some r := ⟨_, List.getElem?_eq_getElem (by omega)⟩
            obtain ⟨b, hb1, hb2, hb3⟩ := Ro.get (f := V.int) hh8 hr1
            have hpi := hpr1 r (List.mem_of_getElem? hr1)
            have hrl := hpi.gd.1
            have hatb : atI (hs.map V.ref) t0 = some (.ref b) := at_i tt0 hb2
            have hbm := List.mem_of_getElem? hb1
            walk_at "go"
            rw [List.length_map, hla]
            walk_at "go"
            have hS9 : Same H2 (upd H8 b (.lst (r.map V.int ++ [V.int (n : Int)]))) := fun x y e => by rw [upd_ne (ne_of_none e (hfr b hbm))]; exact hS8 _ _ e
            have hd9 : upd H8 b (.lst (r.map V.int ++ [V.int (n : Int)])) Dm = some (.lst (hs.map V.ref)) := by rw [upd_ne (hneD b hbm).symm]; exact hd8
            have hh9 : Rw (upd H8 b (.lst (r.map V.int ++ [V.int (n : Int)]))) hs (rs.set t0.toNat (r ++ [(n : Int)])) := by
              have := Ro.write (f := V.int) hh8 hnd hb1 (r ++ [(n : Int)])
              rw [List.map_append] at this
              exact this
            generalize upd H8 b (.lst (r.map V.int ++ [V.int (n : Int)])) = H9 at hS9 hd9 hh9 ⊢
            obtain ⟨B9, rfl, o9, sB9⟩ := rg_same o1 (hS2.trans hS9)
            have nst : ∀ x, H2 x = none → x ≠ st ∧ x ≠ g := fun x hx => by
              have := rg_none (hS2.free hx)
              exact ⟨this.1, this.2.1⟩
            have hdB : B9 Dm = some (.lst (hs.map V.ref)) := rg_low hd9 (nst _ hHD).1 (nst _ hHD).2
            have hhB : Rw B9 hs (rs.set t0.toNat (r ++ [(n : Int)])) := ⟨hh9.1, fun i x hx => by
              obtain ⟨y, h1, h2⟩ := hh9.2 i x hx
              have hx2 := nst x (hfr x (List.mem_of_getElem? hx))
              exact ⟨y, h1, rg_low h2 hx2.1 hx2.2⟩⟩
            have hCD : C Dm = none := (rg_none (hS2.free hHD)).2.2
            have hC0D : C0 Dm = none := hS.free hCD
            have hdR9 := rg_get o9 hdB
            walk_at "go"
            refine ⟨st, g, R, B9, c, 3, rfl, rfl, o9, by omega, by omega, by omega, fun R' B' p1 r1 o10 sB10 np1 hp1 hr1' => ?_⟩
            have hd10 := sB10 _ _ hdB
            have hdR := rg_get o10 hd10
            have hsz : (hs.map V.ref).length < sizeLine := small (by rw [List.length_map]; omega)
            walk_at "go"
            obtain ⟨e, o11⟩ := rg_write (o := .lst ((hs ++ [p1]).map V.ref)) o10 hd10
            rw [refs_push, e]
            have hpD : p1 ≠ Dm := fun z => by rw [z, hdB] at np1; cases np1
            refine ⟨R', _, Dm, hs ++ [p1], rs.set t0.toNat (r ++ [(n : Int)]) ++ [r1], n + 1, _, _, _, _, _, rfl, rfl, o11, fun x y e => by rw [upd_ne (ne_of_none e hC0D)]; exact (hS.trans (sB9.trans sB10)) _ _ e, upd_same, ?_, ?_, fun r' hr' => ?_, by omega, by omega⟩
            · refine Ro.keep (f := V.int) ((hhB.mono sB10).push (r := r1) (b := p1) hp1) (fun t ht => upd_ne ?_)
              rcases List.mem_append.mp ht with z | z
              · exact hneD t z
              · rw [List.mem_singleton.mp z]; exact hpD
            · rw [List.length_append, List.length_set, hlr1]; rfl
            · rcases List.mem_append.mp hr' with z | z
              · rcases List.mem_or_eq_of_mem_set z with y | y
                · exact (hpr1 r' y).up (by omega)
                · rw [y]; exact hpi.push (by omega) (by omega)
              · rw [List.mem_singleton.mp z]; exact hr1'.up (by omega)
    · rintro σ H ⟨R, C, a, as, rs, n, y3, y4, y5, y6, y7, rfl, rfl, o1, hS, ha1, hrw1, hlr1, hpr1, hn1, hn2⟩
      rw [Int.toNat_natCast] at hn2
      walk_at "go"
      exact q R C a as rs n o1 hS ha1 hrw1 hlr1 hpr1 hn1 hn2
end
end K40
namespace K40
open PySem PySem.Spec PyProof.Rows L2 Lw


local macro_rules | `(tactic| walk_at "look") => `(tactic| first
  | assumption
  | with_reducible exact upd_same
  | with_reducible exact rg_st
  | with_reducible exact rg_g (by assumption)
  | (with_reducible refine upd_old (by assumption) ?_; walk_at "look")
  | (with_reducible refine rg_get (by assumption) ?_; walk_at "look")
  | (with_reducible refine Same.get (by assumption) ?_; walk_at "look"))
local macro_rules | `(tactic| walk_at "cond") => `(tactic| first
  | (show _ ≠ _; omega) | exact cdivN (by omega) (by omega) | exact cmul_mod (by decide) (by decide) | exact cmulR (by omega) (by omega) | exact cmulL (by omega) (by omega) | exact cpow (by omega) (by omega) (by omega) (by omega) | (show (0:Int) ≤ _; omega))
local macro_rules | `(tactic| walk_at "at") => `(tactic| first | assumption | with_unfolding_all rfl)
local macro_rules | `(tactic| walk_at "sz") => `(tactic| first | assumption | (refine small ?_; omega) | (refine small ?_; simp only [List.length_map, List.length_append, List.length_cons, List.length_nil]; omega))
local macro_rules | `(tactic| walk_at "len") => `(tactic| first | exact size_nil | exact Nat.le_of_lt (small (by simp only [List.length_cons, List.length_nil, List.length_map]; omega)))
local macro_rules | `(tactic| walk_at "newD") => `(tactic| (refine ⟨by walk_at "len", fun p np => ?_⟩; obtain ⟨e, o', hD', n', ne'⟩ := newTD_eq (topRg _ _) (by assumption) (by assumption) np (.lst _); rw [e]; clear e))
local macro_rules | `(tactic| walk_at "new") => `(tactic| (refine ⟨by walk_at "len", fun p np => ?_⟩; obtain ⟨e, o', n'⟩ := newT_eq (topRg _ _) (by assumption) np (.lst _); rw [e]; clear e))
local macro_rules | `(tactic| walk_at "st") => `(tactic| first
  | with_reducible refine r_seq ?_
  | with_reducible refine r_var rfl ?_
  | with_reducible refine r_c ?_
  | with_reducible refine r_asg ?_
  | (with_reducible refine r_name ?_; dsimp only [List.set_cons_zero, List.set_cons_succ])
  | with_reducible refine r_sub ?_
  | with_reducible refine r_op ?_
  | with_reducible refine r_i0 ?_
  | (with_reducible refine' r_i ?k1 ?_; (case k1 => walk_at "cond"))
  | with_reducible refine r_cons ?_
  | with_reducible refine r_nil ?_
  | with_reducible refine r_cb ?_
  | with_reducible refine r_call ?_
  | with_reducible refine r_ifs ?_
  | with_reducible refine r_test ?_
  | with_reducible refine r_tB ?_
  | with_reducible refine r_bl ?_
  | with_reducible refine r_ret ?_
  | with_reducible refine r_drop ?_
  | with_reducible refine r_next ?_
  | (with_reducible refine' r_ixL ?k1 ?k2 ?_; (case k1 => walk_at "look"); (case k2 => walk_at "at"))
  | (with_reducible refine' r_setL ?k1 ?k2 ?_; (case k1 => walk_at "look"); (case k2 => walk_at "at"))
  | (with_reducible refine' r_tup (SqT.of ?k1) ?k2 ?_; (case k1 => walk_at "look"); (case k2 => rfl))
  | with_reducible refine r_gcons ?_
  | with_reducible refine r_gnil ?_
  | with_reducible refine r_aug rfl ?_
  | with_reducible refine r_augS ?_
  | with_reducible refine r_ipI ?_
  | with_reducible refine r_un ?_
  | with_reducible refine r_u ?_
  | with_reducible refine r_eq rfl ?_
  | with_reducible refine r_ne rfl ?_
  | with_reducible refine r_chain ?_
  | with_reducible refine iteF ?_
  | with_reducible refine r_not ?_
  | with_reducible refine r_and ?_
  | with_reducible refine r_or ?_
  | with_reducible refine r_andV ?_
  | with_reducible refine r_orV ?_
  | with_reducible refine r_notV ?_
  | with_reducible refine r_lst ?_
  | with_reducible refine r_bm ?_
  | with_reducible refine r_bm0 ?_
  | (with_reducible refine' And.intro (r_ty ?k1) ?_; (case k1 => walk_at "look"))
  | (with_reducible refine' r_append ?k1 ?k2 ?_; (case k1 => walk_at "look"); (case k2 => walk_at "sz"))
  | (with_reducible refine' r_lenK ?k1 ?_; (case k1 => walk_at "look"))
  | (with_reducible refine' r_listOf ?k1 ?_; (case k1 => walk_at "look"))
  | (with_reducible refine' r_sortedI ?k1 ?_; (case k1 => walk_at "look"))
  | (with_reducible refine' r_sum ?k1 ?_; (case k1 => walk_at "look"))
  | with_reducible refine r_int ?_
  | (with_reducible refine' r_draw (by assumption) ?k1 ?k2 ?_; (case k1 => omega); (case k2 => omega); intro R' n' o' h' h'')
  | with_reducible refine iteT ?_
  | with_reducible refine r_revL ?_
  | with_reducible refine r_lc ?_
  | with_reducible refine r_yes ?_
  | with_reducible refine r_sl ?_
  | with_reducible refine r_noPart ?_
  | with_reducible refine r_part ?_
  | with_reducible refine r_lc2 ?_
  | with_reducible refine r_callN ?_
  | with_reducible refine r_callD ?_
  | with_reducible refine r_tupE ?_
  | with_reducible refine r_rng2 ?_
  | with_reducible refine r_i1 ?_
  | (with_reducible refine' r_slL ?k1 ?_; (case k1 => walk_at "look"))
  | with_reducible refine r_for ?_
  | with_reducible refine r_iList ?_
  | with_reducible refine r_rng1 ?_
  | with_reducible refine r_enum ?_
  | (with_reducible show Ends.nx _ _ _; dsimp only)
  | (with_reducible show Ends.rt _ _ _; dsimp only)
  | (with_reducible show Ends.ct _ _ _; dsimp only)
  | (with_reducible show Ends.bk _ _ _; dsimp only))
local macro_rules | `(tactic| walk_at "go") => `(tactic| repeat (walk_at "st"))
local macro_rules | `(tactic| walk_at "begin") => `(tactic| dsimp only [cxOf, wipe, L2.start, List.map, List.length_cons, List.length_nil, Nat.reduceAdd, Nat.reduceSub, List.replicate, List.cons_append, List.nil_append])


open Lm
def spSketch : Sp := fun vs H Q _ => ∃ (st g : Addr) (R : RS) (B : Hp), vs = [.ref st] ∧ H = rg st g R B ∧ Ok st g R B ∧
  ∀ (R' : RS) (B' : Hp) (sk a : Addr) (as : List Addr) (rs : List (List Int)) (n c : Nat), Ok st g R' B' → Same B B' → B' sk = some (.lst [.int (c : Int), .ref a]) → B' a = some (.lst (as.map V.ref)) → Rw B' as rs → rs.length = n → (∀ r ∈ rs, Pr n r) → c ≤ n → n ≤ 42 → c ≤ 12 → Q (.ref sk) (rg st g R' B')
section
variable {P : Program} {w : World} {K : PySem.W.Frag} {mg : Str → Option Value} {base : Heap}
theorem ok_sketch {f f1 f2 f3 f4 f5 : Addr} {fd fd1 fd2 fd3 fd4 fd5 : FuncData} (B : Blt mg) (D : Dn K mg "_law_sketch" s__law_sketch ["state"] f fd)
    (D_law_draw : Dn K mg "_law_draw" s__law_draw ["state", "many"] f1 fd1) (G_law_draw : FnOk P w K mg base CX0 1 f1 fd1 ["state", "many"] spDraw)
    (D_law_some : Dn K mg "_law_some" s__law_some ["state", "high", "dense"] f2 fd2) (G_law_some : FnOk P w K mg base CX0 2 f2 fd2 ["state", "high", "dense"] spSome)
    (D_law_ringed : Dn K mg "_law_ringed" s__law_ringed ["state", "count", "rows"] f3 fd3) (G_law_ringed : FnOk P w K mg base CX0 2 f3 fd3 ["state", "count", "rows"] spShape)
    (D_law_chained : Dn K mg "_law_chained" s__law_chained ["state", "count", "rows"] f4 fd4) (G_law_chained : FnOk P w K mg base CX0 2 f4 fd4 ["state", "count", "rows"] spShape)
    (D_law_mended : Dn K mg "_law_mended" s__law_mended ["state", "count", "rows"] f5 fd5) (G_law_mended : FnOk P w K mg base CX0 3 f5 fd5 ["state", "count", "rows"] spMended) :
    FnOk P w K mg base CX0 4 f fd ["state"] spSketch := by
  refine D.F.ok sc__law_sketch (fun vs H Q E h => ?_) (fun cdv A outer s H vs Q E hr h => ?_)
  · obtain ⟨st, g, R, B, rfl, _⟩ := h
    rfl
  · obtain ⟨st, g, R0, C0, rfl, rfl, o, q⟩ := h
    refine ⟨_, (pss_cons (ps_set (i := 1) sc__law_sketch.nd rfl (.inl rfl) (pe_call G_law_draw (hr.mono (by decide)) (by rfl) D_law_draw.g D_law_draw.F.kp D_law_draw.b .nil pass0 (pa_cons (pv 0) (pa_cons pe_int pa_nil))))
      (pss_cons (ps_set (i := 2) sc__law_sketch.nd rfl (.inl rfl) (pe_call G_law_draw (hr.mono (by decide)) (by rfl) D_law_draw.g D_law_draw.F.kp D_law_draw.b .nil pass0 (pa_cons (pv 0) (pa_cons pe_int pa_nil))))
      (pss_cons (ps_set (i := 3) sc__law_sketch.nd rfl (.inl rfl) (pe_call G_law_draw (hr.mono (by decide)) (by rfl) D_law_draw.g D_law_draw.F.kp D_law_draw.b .nil pass0 (pa_cons (pv 0) (pa_cons pe_int pa_nil))))
      (C8.pss_cut (ps_if (pt_cmpR op_eq (pv 1) pe_int (nomark _)) (pss_cons (ps_set (i := 2) sc__law_sketch.nd rfl (.inl rfl) (pe_call G_law_draw (hr.mono (by decide)) (by rfl) D_law_draw.g D_law_draw.F.kp D_law_draw.b .nil pass0 (pa_cons (pv 0) (pa_cons pe_int pa_nil))))
      (pss_one (ps_set (i := 3) sc__law_sketch.nd rfl (.inl rfl) (pe_call G_law_draw (hr.mono (by decide)) (by rfl) D_law_draw.g D_law_draw.F.kp D_law_draw.b .nil pass0 (pa_cons (pv 0) (pa_cons pe_int pa_nil)))))) pss_nil)
      (pss_cons (ps_set (i := 4) sc__law_sketch.nd rfl (.inl rfl) (pe_op op_add pe_int (pe_call G_law_draw (hr.mono (by decide)) (by rfl) D_law_draw.g D_law_draw.F.kp D_law_draw.b .nil pass0 (pa_cons (pv 0) (pa_cons pe_int pa_nil)))))
      (pss_cons (ps_set (i := 5) sc__law_sketch.nd rfl (.inl rfl) (pe_lst pa_nil))
      (pss_cons (ps_for PassesOwn.never rfl (pi_range1 (by rfl) B.m_range (pa_cons (pv 2) pa_nil)) (pg_name (i := 6) sc__law_sketch.nd rfl (.inl rfl)) (pss_one (ps_expr (pe_bmK (K := K) rfl PySem.F.plainAttrs_list PySem.F.slot_list_append PySem.F.type_list_append mt_append (pv 5) (pa_cons (pe_call G_law_some (hr.mono (by decide)) (by rfl) D_law_some.g D_law_some.F.kp D_law_some.b .nil pass0 (pa_cons (pv 0) (pa_cons (pe_op op_add (pv 2) (pv 3)) (pa_cons (pv 4) pa_nil)))) pa_nil)))))
      (pss_cons (ps_for PassesOwn.never rfl (pi_range1 (by rfl) B.m_range (pa_cons (pv 3) pa_nil)) (pg_name (i := 7) sc__law_sketch.nd rfl (.inl rfl)) (pss_one (ps_expr (pe_bmK (K := K) rfl PySem.F.plainAttrs_list PySem.F.slot_list_append PySem.F.type_list_append mt_append (pv 5) (pa_cons (pe_call G_law_some (hr.mono (by decide)) (by rfl) D_law_some.g D_law_some.F.kp D_law_some.b .nil pass0 (pa_cons (pv 0) (pa_cons (pv 2) (pa_cons (pv 4) pa_nil)))) pa_nil)))))
      (C8.pss_cut (ps_if (pt_cmpR op_lt (pv 1) pe_int (nomark _)) (pss_one (ps_set (i := 5) sc__law_sketch.nd rfl (.inl rfl) (pe_call G_law_ringed (hr.mono (by decide)) (by rfl) D_law_ringed.g D_law_ringed.F.kp D_law_ringed.b .nil pass0 (pa_cons (pv 0) (pa_cons (pv 2) (pa_cons (pv 5) pa_nil)))))) (pss_one (ps_if (pt_cmpR op_lt (pv 1) pe_int (nomark _)) (pss_one (ps_set (i := 5) sc__law_sketch.nd rfl (.inl rfl) (pe_call G_law_chained (hr.mono (by decide)) (by rfl) D_law_chained.g D_law_chained.F.kp D_law_chained.b .nil pass0 (pa_cons (pv 0) (pa_cons (pv 2) (pa_cons (pv 5) pa_nil)))))) pss_nil)))
      (C8.pss_cut (ps_if (pt_cmpR op_eq (pe_op op_modN (pe_callTy call_int1 (by rfl) B.m_int (by decide +kernel) (pa_cons (pv 1) pa_nil)) pe_int) pe_int (nomark _)) (pss_one (ps_set (i := 5) sc__law_sketch.nd rfl (.inl rfl) (pe_call G_law_mended (hr.mono (by decide)) (by rfl) D_law_mended.g D_law_mended.F.kp D_law_mended.b .nil pass0 (pa_cons (pv 0) (pa_cons (pv 2) (pa_cons (pv 5) pa_nil)))))) pss_nil)
      (pss_one (ps_ret (pe_lst (pa_cons (pv 2) (pa_cons (pv 5) pa_nil))))))))))))))), ?_⟩
    walk_at "begin"
    walk_at "go"
    rename_i R1 n1 o1 n10 n11 R2 n2 o2 n20 n21 R3 n3 o3 n30 n31
    refine ⟨fun σ HM => ∃ (R : RS) (c b : Nat), c ≤ 12 ∧ b ≤ 30 ∧ (n1 ≠ 11 → c ≤ 5 ∧ b ≤ 3) ∧ σ = [some (.ref st), some (.int n1), some (.int (c : Int)), some (.int (b : Int)), none, none, none, none] ∧ HM = rg st g R C0 ∧ Ok st g R C0, ?_, ?_⟩
    · walk_at "go"
      refine r_ite (fun he => ?_) (fun hne => ?_)
      · walk_at "go"
        rename_i R4 n4 o4 n40 n41 R5 n5 o5 n50 n51
        refine ⟨R5, n4.toNat, n5.toNat, by omega, by omega, fun z => absurd (V.int.inj he) z, ?_, rfl, o5⟩
        rw [Int.toNat_of_nonneg n40, Int.toNat_of_nonneg n50]
      · walk_at "go"
        refine ⟨R3, n2.toNat, n3.toNat, by omega, by omega, fun _ => ⟨by omega, by omega⟩, ?_, rfl, o3⟩
        rw [Int.toNat_of_nonneg n20, Int.toNat_of_nonneg n30]
    · rintro σ HM ⟨R4, c, b, hc, hb, hsm, rfl, rfl, o4⟩
      clear o1 o2 o3
      walk_at "go"
      rename_i R5 n5 o5 n50 n51
      refine ⟨size_nil, fun D nD => ?_⟩
      obtain ⟨e, o6, n6⟩ := newT_eq (topRg st g) o5 nD (.lst [])
      rw [e]
      walk_at "go"
      refine r_forR (n := (c : Int)) (by omega) (by omega) (fun i σ H => ∃ (R : RS) (C2 : Hp) (ms : List Addr) (rs2 : List (List Int)) (y1 : Option V), σ = [some (.ref st), some (.int n1), some (.int (c : Int)), some (.int (b : Int)), some (.int (2 + n5)), some (.ref D), y1, none] ∧ H = rg st g R (upd C2 D (.lst (ms.map V.ref))) ∧ Ok st g R (upd C2 D (.lst (ms.map V.ref))) ∧ C2 D = none ∧ Same C0 C2 ∧
        Rw C2 ms rs2 ∧ ms.length = i ∧ ∀ r ∈ rs2, Pr (c + b) r) ?_ ?_ ?_
      · exact ⟨R5, C0, [], [], _, rfl, rfl, o6, n6, Same.refl _, Rw.nil, rfl, fun r hr => nomatch hr⟩
      · rintro i σ H hi ⟨R7, C2, ms, rs2, y1, rfl, rfl, o7, hD7, hS7, hm, hml, hwf⟩
        walk_at "go"
        rw [show ((c : Int) + (b : Int)) = ((c + b : Nat) : Int) by omega]
        refine ⟨st, g, R7, _, c + b, 2 + n5, rfl, rfl, o7, by omega, by omega, by omega, fun R' B' p1 r1 o8 sB np1 hp1 hr1 => ?_⟩
        obtain ⟨C', rfl, hD', sC⟩ := lay_same hD7 sB
        have hpD : p1 ≠ D := fun z => by rw [z, upd_same] at np1; cases np1
        have hp1' : C' p1 = some (.lst (r1.map V.int)) := by rw [upd_ne hpD] at hp1; exact hp1
        have hsz : (ms.map V.ref).length < sizeLine := small (by rw [List.length_map]; omega)
        walk_at "go"
        rw [(setTD_eq (topRg st g) o8 _).1]
        have o9 := (setTD_eq (topRg st g) o8 (.lst ((ms ++ [p1]).map V.ref))).2
        refine ⟨R', C', ms ++ [p1], rs2 ++ [r1], _, rfl, by rw [refs_push], o9, hD', hS7.trans sC, (hm.mono sC).push hp1', by rw [List.length_append, List.length_singleton, hml], fun r' hr' => ?_⟩
        rcases List.mem_append.mp hr' with z | z
        · exact hwf r' z
        · rw [List.mem_singleton.mp z]; exact hr1
      · rintro σ H ⟨R7, C2, ms, rs2, y1, rfl, rfl, o7, hD7, hS7, hm, hml, hwf⟩
        rw [Int.toNat_natCast] at hml
        walk_at "go"
        refine r_forR (n := (b : Int)) (by omega) (by omega) (fun i σ H => ∃ (R : RS) (C2 : Hp) (ms : List Addr) (rs2 : List (List Int)) (y2 : Option V), σ = [some (.ref st), some (.int n1), some (.int (c : Int)), some (.int (b : Int)), some (.int (2 + n5)), some (.ref D), y1, y2] ∧ H = rg st g R (upd C2 D (.lst (ms.map V.ref))) ∧ Ok st g R (upd C2 D (.lst (ms.map V.ref))) ∧ C2 D = none ∧ Same C0 C2 ∧
          Rw C2 ms rs2 ∧ ms.length = c + i ∧ ∀ r ∈ rs2, Pr (c + b) r) ?_ ?_ ?_
        · exact ⟨R7, C2, ms, rs2, _, rfl, rfl, o7, hD7, hS7, hm, hml, hwf⟩
        · rintro i σ H hi ⟨R7, C2, ms, rs2, y2, rfl, rfl, o7, hD7, hS7, hm, hml, hwf⟩
          walk_at "go"
          refine ⟨st, g, R7, _, c, 2 + n5, rfl, rfl, o7, by omega, by omega, by omega, fun R' B' p1 r1 o8 sB np1 hp1 hr1 => ?_⟩
          obtain ⟨C', rfl, hD', sC⟩ := lay_same hD7 sB
          have hpD : p1 ≠ D := fun z => by rw [z, upd_same] at np1; cases np1
          have hp1' : C' p1 = some (.lst (r1.map V.int)) := by rw [upd_ne hpD] at hp1; exact hp1
          have hsz : (ms.map V.ref).length < sizeLine := small (by rw [List.length_map]; omega)
          walk_at "go"
          rw [(setTD_eq (topRg st g) o8 _).1]
          have o9 := (setTD_eq (topRg st g) o8 (.lst ((ms ++ [p1]).map V.ref))).2
          refine ⟨R', C', ms ++ [p1], rs2 ++ [r1], _, rfl, by rw [refs_push], o9, hD', hS7.trans sC, (hm.mono sC).push hp1', by rw [List.length_append, List.length_singleton, hml]; rfl, fun r' hr' => ?_⟩
          rcases List.mem_append.mp hr' with z | z
          · exact hwf r' z
          · rw [List.mem_singleton.mp z]; exact hr1.up (by omega)
        · rintro σ H ⟨R7, C2, ms, rs2, y2, rfl, rfl, o7, hD7, hS7, hm, hml, hwf⟩
          rw [Int.toNat_natCast] at hml
          have hd2 : upd C2 D (.lst (ms.map V.ref)) D = some (.lst (ms.map V.ref)) := upd_same
          have sD := same_new (o := .lst (ms.map V.ref)) hD7
          have hS8 := hS7.trans sD
          have hm8 := hm.mono sD
          have hlr : rs2.length = c + b := by rw [← hm.1, hml]
          clear hm hS7
          generalize upd C2 D (.lst (ms.map V.ref)) = C8 at o7 hd2 hS8 hm8 ⊢
          walk_at "go"
          refine ⟨fun σ HM => ∃ (R5 : RS) (C5 : Hp) (a : Addr) (as : List Addr) (rs : List (List Int)), σ = [some (.ref st), some (.int n1), some (.int (c : Int)), some (.int (b : Int)), some (.int (2 + n5)), some (.ref a), y1, y2] ∧ HM = rg st g R5 C5 ∧ Ok st g R5 C5 ∧ Same C0 C5 ∧ C5 a = some (.lst (as.map V.ref)) ∧ Rw C5 as rs ∧ rs.length = c + b ∧ ∀ r ∈ rs, Pr (c + b) r, ?_, ?_⟩
          · walk_at "go"
            refine r_ite (fun _ => ?_) (fun _ => ?_)
            · walk_at "go"
              refine ⟨st, g, R7, C8, D, ms, rs2, c + b, c, rfl, rfl, o7, hd2, hm8, hlr, hwf, by omega, by omega, fun R' B' q' as' rs' o8 sB hq hr hl hp => ?_⟩
              walk_at "go"
              exact ⟨R', B', q', as', rs', rfl, rfl, o8, hS8.trans sB, hq, hr, hl, hp⟩
            · walk_at "go"
              refine r_ite (fun _ => ?_) (fun _ => ?_)
              · walk_at "go"
                refine ⟨st, g, R7, C8, D, ms, rs2, c + b, c, rfl, rfl, o7, hd2, hm8, hlr, hwf, by omega, by omega, fun R' B' q' as' rs' o8 sB hq hr hl hp => ?_⟩
                walk_at "go"
                exact ⟨R', B', q', as', rs', rfl, rfl, o8, hS8.trans sB, hq, hr, hl, hp⟩
              · walk_at "go"
                exact ⟨R7, C8, D, ms, rs2, rfl, rfl, o7, hS8, hd2, hm8, hlr, hwf⟩
          · rintro σ HM ⟨R9, C9, a, as, rs, rfl, rfl, o9, hS9, ha9, hm9, hl9, hp9⟩
            walk_at "go"
            refine ⟨fun σ HM => ∃ (R5 : RS) (C5 : Hp) (a : Addr) (as : List Addr) (rs : List (List Int)) (n : Nat), σ = [some (.ref st), some (.int n1), some (.int (c : Int)), some (.int (b : Int)), some (.int (2 + n5)), some (.ref a), y1, y2] ∧ HM = rg st g R5 C5 ∧ Ok st g R5 C5 ∧ Same C0 C5 ∧ C5 a = some (.lst (as.map V.ref)) ∧ Rw C5 as rs ∧ rs.length = n ∧ (∀ r ∈ rs, Pr n r) ∧ c ≤ n ∧ n ≤ 42, ?_, ?_⟩
            · walk_at "go"
              refine r_ite (fun he => ?_) (fun _ => ?_)
              · have he2 := V.int.inj he
                have hsm2 := hsm (fun z => by rw [z] at he2; revert he2; decide)
                walk_at "go"
                refine ⟨st, g, R9, C9, a, as, rs, c + b, c, rfl, rfl, o9, ha9, hm9, hl9, hp9, by omega, by omega, by omega, fun R' B' q' as' rs' n' o8 sB hq hr hl hp h1 h2 => ?_⟩
                walk_at "go"
                exact ⟨R', B', q', as', rs', n', rfl, rfl, o8, hS9.trans sB, hq, hr, hl, hp, by omega, by omega⟩
              · walk_at "go"
                exact ⟨R9, C9, a, as, rs, c + b, rfl, rfl, o9, hS9, ha9, hm9, hl9, hp9, by omega, by omega⟩
            · rintro σ HM ⟨RA, CA, a, as, rs, n, rfl, rfl, oA, hSA, haA, hmA, hlA, hpA, k1, k2⟩
              walk_at "go"
              refine ⟨by walk_at "len", fun sk nsk => ?_⟩
              obtain ⟨e, oB, nB⟩ := newT_eq (topRg st g) oA nsk (.lst [.int (c : Int), .ref a])
              rw [e]
              have s1 := same_new (o := .lst [V.int (c : Int), V.ref a]) nB
              exact q RA _ sk a as rs n c oB (hSA.trans s1) upd_same (s1 _ _ haA) (hmA.mono s1) hlA hpA k1 k2 hc
end
end K40
namespace K40
open PySem PySem.Spec PyProof.Rows L2 Lw


local macro_rules | `(tactic| walk_at "look") => `(tactic| first
  | assumption
  | with_reducible exact upd_same
  | with_reducible exact rg_st
  | with_reducible exact rg_g (by assumption)
  | (with_reducible refine upd_old (by assumption) ?_; walk_at "look")
  | (with_reducible refine rg_get (by assumption) ?_; walk_at "look")
  | (with_reducible refine Same.get (by assumption) ?_; walk_at "look"))
local macro_rules | `(tactic| walk_at "cond") => `(tactic| first
  | (show _ ≠ _; omega) | exact cdivN (by omega) (by omega) | exact cmul_mod (by decide) (by decide) | exact cmulR (by omega) (by omega) | exact cmulL (by omega) (by omega) | exact cpow (by omega) (by omega) (by omega) (by omega) | (show (0:Int) ≤ _; omega))
local macro_rules | `(tactic| walk_at "at") => `(tactic| first | assumption | with_unfolding_all rfl)
local macro_rules | `(tactic| walk_at "sz") => `(tactic| first | assumption | (refine small ?_; omega) | (refine small ?_; simp only [List.length_map, List.length_append, List.length_cons, List.length_nil]; omega))
local macro_rules | `(tactic| walk_at "len") => `(tactic| first | exact size_nil | exact Nat.le_of_lt (small (by simp only [List.length_cons, List.length_nil, List.length_map]; omega)))
local macro_rules | `(tactic| walk_at "newD") => `(tactic| (refine ⟨by walk_at "len", fun p np => ?_⟩; obtain ⟨e, o', hD', n', ne'⟩ := newTD_eq (topRg _ _) (by assumption) (by assumption) np (.lst _); rw [e]; clear e))
local macro_rules | `(tactic| walk_at "new") => `(tactic| (refine ⟨by walk_at "len", fun p np => ?_⟩; obtain ⟨e, o', n'⟩ := newT_eq (topRg _ _) (by assumption) np (.lst _); rw [e]; clear e))
local macro_rules | `(tactic| walk_at "st") => `(tactic| first
  | with_reducible refine r_seq ?_
  | with_reducible refine r_var rfl ?_
  | with_reducible refine r_c ?_
  | with_reducible refine r_asg ?_
  | (with_reducible refine r_name ?_; dsimp only [List.set_cons_zero, List.set_cons_succ])
  | with_reducible refine r_sub ?_
  | with_reducible refine r_op ?_
  | with_reducible refine r_i0 ?_
  | (with_reducible refine' r_i ?k1 ?_; (case k1 => walk_at "cond"))
  | with_reducible refine r_cons ?_
  | with_reducible refine r_nil ?_
  | with_reducible refine r_cb ?_
  | with_reducible refine r_call ?_
  | with_reducible refine r_ifs ?_
  | with_reducible refine r_test ?_
  | with_reducible refine r_tB ?_
  | with_reducible refine r_bl ?_
  | with_reducible refine r_ret ?_
  | with_reducible refine r_drop ?_
  | with_reducible refine r_next ?_
  | (with_reducible refine' r_ixL ?k1 ?k2 ?_; (case k1 => walk_at "look"); (case k2 => walk_at "at"))
  | (with_reducible refine' r_setL ?k1 ?k2 ?_; (case k1 => walk_at "look"); (case k2 => walk_at "at"))
  | (with_reducible refine' r_tup (SqT.of ?k1) ?k2 ?_; (case k1 => walk_at "look"); (case k2 => rfl))
  | with_reducible refine r_gcons ?_
  | with_reducible refine r_gnil ?_
  | with_reducible refine r_aug rfl ?_
  | with_reducible refine r_augS ?_
  | with_reducible refine r_ipI ?_
  | with_reducible refine r_un ?_
  | with_reducible refine r_u ?_
  | with_reducible refine r_eq rfl ?_
  | with_reducible refine r_ne rfl ?_
  | with_reducible refine r_chain ?_
  | with_reducible refine iteF ?_
  | with_reducible refine r_not ?_
  | with_reducible refine r_and ?_
  | with_reducible refine r_or ?_
  | with_reducible refine r_andV ?_
  | with_reducible refine r_orV ?_
  | with_reducible refine r_notV ?_
  | with_reducible refine r_lst ?_
  | with_reducible refine r_bm ?_
  | with_reducible refine r_bm0 ?_
  | (with_reducible refine' And.intro (r_ty ?k1) ?_; (case k1 => walk_at "look"))
  | (with_reducible refine' r_append ?k1 ?k2 ?_; (case k1 => walk_at "look"); (case k2 => walk_at "sz"))
  | (with_reducible refine' r_lenK ?k1 ?_; (case k1 => walk_at "look"))
  | (with_reducible refine' r_listOf ?k1 ?_; (case k1 => walk_at "look"))
  | (with_reducible refine' r_sortedI ?k1 ?_; (case k1 => walk_at "look"))
  | (with_reducible refine' r_sum ?k1 ?_; (case k1 => walk_at "look"))
  | with_reducible refine r_int ?_
  | (with_reducible refine' r_draw (by assumption) ?k1 ?k2 ?_; (case k1 => omega); (case k2 => omega); intro R' n' o' h' h'')
  | with_reducible refine iteT ?_
  | with_reducible refine r_revL ?_
  | with_reducible refine r_lc ?_
  | with_reducible refine r_yes ?_
  | with_reducible refine r_sl ?_
  | with_reducible refine r_noPart ?_
  | with_reducible refine r_part ?_
  | with_reducible refine r_lc2 ?_
  | with_reducible refine r_callN ?_
  | with_reducible refine r_callD ?_
  | with_reducible refine r_tupE ?_
  | with_reducible refine r_rng2 ?_
  | with_reducible refine r_i1 ?_
  | (with_reducible refine' r_slL ?k1 ?_; (case k1 => walk_at "look"))
  | with_reducible refine r_for ?_
  | with_reducible refine r_iList ?_
  | with_reducible refine r_rng1 ?_
  | with_reducible refine r_enum ?_
  | (with_reducible show Ends.nx _ _ _; dsimp only)
  | (with_reducible show Ends.rt _ _ _; dsimp only)
  | (with_reducible show Ends.ct _ _ _; dsimp only)
  | (with_reducible show Ends.bk _ _ _; dsimp only))
local macro_rules | `(tactic| walk_at "go") => `(tactic| repeat (walk_at "st"))
local macro_rules | `(tactic| walk_at "begin") => `(tactic| dsimp only [cxOf, wipe, L2.start, List.map, List.length_cons, List.length_nil, Nat.reduceAdd, Nat.reduceSub, List.replicate, List.cons_append, List.nil_append])


open Lm
/-- what the classes tell of an error of NotStanding -/
structure ExF (K : PySem.W.Frag) (mg : Str → Option Value) (CN cH cO cT cE : Addr) : Prop where
  c : ExcC K CN
  self : PySem.W.exmOne K (.ref CN) (.ref CN) = some true
  g_HasRing : mg "HasRing" = some (.ref cH)
  g_NotOpen : mg "NotOpen" = some (.ref cO)
  g_TooGreat : mg "TooGreat" = some (.ref cT)
  g_SetnestsError : mg "SetnestsError" = some (.ref cE)
  m_ValueError : mg "ValueError" = none
  kH : PySem.W.kitOne K (.ref CN) (.ref cH) = some false
  kO : PySem.W.kitOne K (.ref CN) (.ref cO) = some false
  kT : PySem.W.kitOne K (.ref CN) (.ref cT) = some false
  kE : PySem.W.kitOne K (.ref CN) (.ref cE) = some true
  kV : PySem.W.kitOne K (.ref CN) (.type "ValueError") = some true
/-- what is told where it stands -/
def Tds (H H' : Hp) (rs : List (List Int)) (n c : Nat) (x : V) : Prop := ∃ (u : Addr) (ts : List Addr) (T : List (List Int)) (l : Nat), x = .ref u ∧ H u = none ∧ H' u = some (.lst (ts.map V.ref)) ∧ Rw H' ts T ∧ (∀ t ∈ ts, H t = none) ∧ ts.Nodup ∧ Wf l 60 T ∧ (∀ r ∈ T, r.Pairwise (· < ·)) ∧ Bd T rs n c ∧ ((∀ x, ¬ Tc (Ed rs) x x) → ∀ x, ¬ Tc (Ed T) x x) ∧ n ≤ l ∧ 1 ≤ l ∧ (l : Int) ≤ 3 * n - c + 2
/-- what is told, or that it is refused -/
def Told (H H' : Hp) (rs : List (List Int)) (n c : Nat) (b : Bool) (x : V) : Prop := (¬ Stn c rs b ∧ ∃ q, x = .ref q ∧ H' q = some (.tup [.str "refused", .bl true])) ∨ (Stn c rs b ∧ Tds H H' rs n c x)
def spBuilt : Sp := fun vs H Q _ => ∃ (a : Addr) (as : List Addr) (rs : List (List Int)) (n c : Nat) (b b2 : Bool), vs = [.int (c : Int), .ref a, .bl b, .bl b2] ∧ H a = some (.lst (as.map V.ref)) ∧ Rw H as rs ∧ Wf n 43 rs ∧ (∀ r ∈ rs, r.Pairwise (· < ·)) ∧ c ≤ n ∧ n ≤ 60 ∧ (b2 = false → b = false) ∧
  ∀ (H' : Hp) (x : V), Same H H' → Told H H' rs n c b x → Q x H'
section
variable {P : Program} {w : World} {K : PySem.W.Frag} {mg : Str → Option Value} {base : Heap}
theorem ok_built {f f1 CN cH cO cT cE : Addr} {fd fd1 : FuncData} (B : Blt mg) (ENotStanding : ExN K mg "NotStanding" CN) (Z : ExF K mg CN cH cO cT cE) (D : Dn K mg "_law_built" s__law_built ["count", "handed", "ringed", "keyed"] f fd)
    (Dbuild_drawing : DnKD K mg "build_drawing" s_build_drawing ["count", "rows", "rings"] 2 ["rings"] [.bl false] f1 fd1) (Gbuild_drawing : FnOk P w K mg base (L2.CX P w) 5 f1 fd1 ["count", "rows", "rings"] (spBuild CN)) :
    FnOk P w K mg base CX0 6 f fd ["count", "handed", "ringed", "keyed"] spBuilt := by
  refine D.F.ok sc__law_built (fun vs H Q E h => ?_) (fun cdv A outer s H vs Q E hr h => ?_)
  · obtain ⟨a, as, rs, n, c, b, b2, rfl, _⟩ := h
    rfl
  · obtain ⟨a, as, rs, n, c, b, b2, rfl, ha, hrw, hwf, hasc, hcn, hn, hbb2, q⟩ := h
    obtain ⟨ds, hdd, hbb⟩ := Dbuild_drawing.d
    refine ⟨_, (pss_cons (ps_set (i := 4) sc__law_built.nd rfl (.inl rfl) pe_non) (pss_cons (ps_try_as (i := 5) (Wout := fun _ _ _ _ => False) rfl rfl sc__law_built.nd rfl rfl ⟨rfl, by decide, .inl ENotStanding.g⟩ takes0 (fun W pn xe tk _ => pss_one (ps_if (by exact (pt_val (pv 3))) (by exact (pss_one (ps_set (i := 4) sc__law_built.nd rfl (.inl rfl) (by exact (pe_callNS Gbuild_drawing (hr.mono (by decide)) (by rfl) Dbuild_drawing.g Dbuild_drawing.F.kp Dbuild_drawing.kb (fun σ => passAt tk σ) (by exact (pa_cons (pv 0) (pa_cons (pv 1) pa_nil))) (by exact (pk_cons (pv 2) pk_nil))))))) (by exact (pss_one (ps_set (i := 4) sc__law_built.nd rfl (.inl rfl) (by exact (pe_callSD Gbuild_drawing (hr.mono (by decide)) (by rfl) Dbuild_drawing.g Dbuild_drawing.F.kp hbb hdd (fun σ => passAt tk σ) (by exact (pa_cons (pv 0) (pa_cons (pv 1) pa_nil))))))))))
      (fun a oe cls d pn hz hf => pss_when (P := cls = .ref CN ∧ d = none) fun e => by exact (pss_cons (ps_set (i := 6) sc__law_built.nd rfl (.inl rfl) (pe_or (pe_callB (call_isE Z.c (zc_at e hz) hf) (by rfl) B.m_isinstance (by decide +kernel) (pa_cons (pv 5) (pa_cons (pe_glob (v := .ref cH) rfl Z.g_HasRing rfl) pa_nil))) (pe_or (pe_callB (call_isE Z.c (zc_at e hz) hf) (by rfl) B.m_isinstance (by decide +kernel) (pa_cons (pv 5) (pa_cons (pe_glob (v := .ref cO) rfl Z.g_NotOpen rfl) pa_nil))) (pe_one (pe_callB (call_isE Z.c (zc_at e hz) hf) (by rfl) B.m_isinstance (by decide +kernel) (pa_cons (pv 5) (pa_cons (pe_glob (v := .ref cT) rfl Z.g_TooGreat rfl) pa_nil)))))))
      (pss_one (ps_set (i := 4) sc__law_built.nd rfl (.inl rfl) (pe_tup (pa_cons pe_str (pa_cons (pe_and (pe_callB (call_isE Z.c (zc_at e hz) hf) (by rfl) B.m_isinstance (by decide +kernel) (pa_cons (pv 5) (pa_cons (pe_glob (v := .ref cE) rfl Z.g_SetnestsError rfl) pa_nil))) (pe_and (pe_callB (call_isE Z.c (zc_at e hz) hf) (by rfl) B.m_isinstance (by decide +kernel) (pa_cons (pv 5) (pa_cons (pe_bltn (v := .ty "ValueError") (by rfl) Z.m_ValueError (by decide +kernel) rfl) pa_nil))) (pe_one (pe_not (pv 6))))) pa_nil))))))))
      (pss_one (ps_ret (pv 4))))), ?_⟩
    walk_at "begin"
    walk_at "go"
    have fin : Stn c rs b → ∀ (H1 : Hp) (u : Addr) (ts : List Addr) (T : List (List Int)) (l : Nat), Same H H1 → H u = none → H1 u = some (.lst (ts.map V.ref)) → Rw H1 ts T → (∀ t ∈ ts, H t = none) → ts.Nodup → Wf l 60 T → (∀ r ∈ T, r.Pairwise (· < ·)) → Bd T rs n c → ((∀ x, ¬ Tc (Ed rs) x x) → ∀ x, ¬ Tc (Ed T) x x) → n ≤ l → 1 ≤ l → (l : Int) ≤ 3 * n - c + 2 → Q (.ref u) H1 :=
      fun hst H1 u ts T l hS1 hu hu1 hT hfr hnd hwT haT BD hac h1 h2 h3 => q H1 _ hS1 (.inr ⟨hst, u, ts, T, l, rfl, hu, hu1, hT, hfr, hnd, hwT, haT, BD, hac, h1, h2, h3⟩)
    cases b2 with
    | true =>
      rw [if_pos rfl]
      walk_at "go"
      refine r_callNS ?_
      walk_at "go"
      refine ⟨rfl, rfl, a, as, rs, n, c, b, rfl, ha, hrw, hwf, hasc, hcn, hn, fun hns H1 hS1 => ?_, fun hst H1 u ts T l hS1 hu hu1 hT hfr hnd hwT haT BD hac h1 h2 h3 => ?_⟩
      · refine ⟨true, Z.self, fun _ a0 ha0 => ⟨⟨rfl, rfl⟩, ?_⟩, fun z => Bool.noConfusion z⟩
        dsimp only [List.set_cons_zero, List.set_cons_succ]
        walk_at "go"
        refine ⟨_, .ref cH, false, rfl, fun u hu => hu, Z.kH, ?_⟩
        refine ⟨false, rfl, ?_⟩
        rw [if_neg Bool.false_ne_true]
        walk_at "go"
        refine ⟨_, .ref cO, false, rfl, fun u hu => hu, Z.kO, ?_⟩
        refine ⟨false, rfl, ?_⟩
        rw [if_neg Bool.false_ne_true]
        walk_at "go"
        refine ⟨_, .ref cT, false, rfl, fun u hu => hu, Z.kT, ?_⟩
        walk_at "go"
        refine ⟨_, .ref cE, true, rfl, fun u hu => hu, Z.kE, ?_⟩
        refine ⟨true, rfl, ?_⟩
        rw [if_pos rfl]
        walk_at "go"
        refine ⟨_, .type "ValueError", true, rfl, fun u hu => hu, Z.kV, ?_⟩
        refine ⟨true, rfl, ?_⟩
        rw [if_pos rfl]
        walk_at "go"
        refine ⟨by walk_at "len", fun p3 np3 => ?_⟩
        walk_at "go"
        exact q _ _ (hS1.trans (same_new np3)) (.inl ⟨hns, p3, rfl, upd_same⟩)
      · walk_at "go"
        exact fin hst H1 u ts T l hS1 hu hu1 hT hfr hnd hwT haT BD hac h1 h2 h3
    | false =>
      have hb0 := hbb2 rfl
      subst hb0
      rw [if_neg Bool.false_ne_true]
      walk_at "go"
      refine r_callSD ?_
      walk_at "go"
      refine ⟨a, as, rs, n, c, false, rfl, ha, hrw, hwf, hasc, hcn, hn, fun hns H1 hS1 => ?_, fun hst H1 u ts T l hS1 hu hu1 hT hfr hnd hwT haT BD hac h1 h2 h3 => ?_⟩
      · refine ⟨true, Z.self, fun _ a0 ha0 => ⟨⟨rfl, rfl⟩, ?_⟩, fun z => Bool.noConfusion z⟩
        dsimp only [List.set_cons_zero, List.set_cons_succ]
        walk_at "go"
        refine ⟨_, .ref cH, false, rfl, fun u hu => hu, Z.kH, ?_⟩
        refine ⟨false, rfl, ?_⟩
        rw [if_neg Bool.false_ne_true]
        walk_at "go"
        refine ⟨_, .ref cO, false, rfl, fun u hu => hu, Z.kO, ?_⟩
        refine ⟨false, rfl, ?_⟩
        rw [if_neg Bool.false_ne_true]
        walk_at "go"
        refine ⟨_, .ref cT, false, rfl, fun u hu => hu, Z.kT, ?_⟩
        walk_at "go"
        refine ⟨_, .ref cE, true, rfl, fun u hu => hu, Z.kE, ?_⟩
        refine ⟨true, rfl, ?_⟩
        rw [if_pos rfl]
        walk_at "go"
        refine ⟨_, .type "ValueError", true, rfl, fun u hu => hu, Z.kV, ?_⟩
        refine ⟨true, rfl, ?_⟩
        rw [if_pos rfl]
        walk_at "go"
        refine ⟨by walk_at "len", fun p3 np3 => ?_⟩
        walk_at "go"
        exact q _ _ (hS1.trans (same_new np3)) (.inl ⟨hns, p3, rfl, upd_same⟩)
      · walk_at "go"
        exact fin hst H1 u ts T l hS1 hu hu1 hT hfr hnd hwT haT BD hac h1 h2 h3
end
end K40
namespace K40
open PySem PySem.Spec PyProof.Rows L2 Lw


local macro_rules | `(tactic| walk_at "look") => `(tactic| first
  | assumption
  | with_reducible exact upd_same
  | with_reducible exact rg_st
  | with_reducible exact rg_g (by assumption)
  | (with_reducible refine upd_old (by assumption) ?_; walk_at "look")
  | (with_reducible refine rg_get (by assumption) ?_; walk_at "look")
  | (with_reducible refine Same.get (by assumption) ?_; walk_at "look"))
local macro_rules | `(tactic| walk_at "cond") => `(tactic| first
  | (show _ ≠ _; omega) | exact cdivN (by omega) (by omega) | exact cmul_mod (by decide) (by decide) | exact cmulR (by omega) (by omega) | exact cmulL (by omega) (by omega) | exact cpow (by omega) (by omega) (by omega) (by omega) | (show (0:Int) ≤ _; omega))
local macro_rules | `(tactic| walk_at "at") => `(tactic| first | assumption | with_unfolding_all rfl)
local macro_rules | `(tactic| walk_at "sz") => `(tactic| first | assumption | (refine small ?_; omega) | (refine small ?_; simp only [List.length_map, List.length_append, List.length_cons, List.length_nil]; omega))
local macro_rules | `(tactic| walk_at "len") => `(tactic| first | exact size_nil | exact Nat.le_of_lt (small (by simp only [List.length_cons, List.length_nil, List.length_map]; omega)))
local macro_rules | `(tactic| walk_at "newD") => `(tactic| (refine ⟨by walk_at "len", fun p np => ?_⟩; obtain ⟨e, o', hD', n', ne'⟩ := newTD_eq (topRg _ _) (by assumption) (by assumption) np (.lst _); rw [e]; clear e))
local macro_rules | `(tactic| walk_at "new") => `(tactic| (refine ⟨by walk_at "len", fun p np => ?_⟩; obtain ⟨e, o', n'⟩ := newT_eq (topRg _ _) (by assumption) np (.lst _); rw [e]; clear e))
local macro_rules | `(tactic| walk_at "st") => `(tactic| first
  | with_reducible refine r_seq ?_
  | with_reducible refine r_var rfl ?_
  | with_reducible refine r_c ?_
  | with_reducible refine r_asg ?_
  | (with_reducible refine r_name ?_; dsimp only [List.set_cons_zero, List.set_cons_succ])
  | with_reducible refine r_sub ?_
  | with_reducible refine r_op ?_
  | with_reducible refine r_i0 ?_
  | (with_reducible refine' r_i ?k1 ?_; (case k1 => walk_at "cond"))
  | with_reducible refine r_cons ?_
  | with_reducible refine r_nil ?_
  | with_reducible refine r_cb ?_
  | with_reducible refine r_call ?_
  | with_reducible refine r_ifs ?_
  | with_reducible refine r_test ?_
  | with_reducible refine r_tB ?_
  | with_reducible refine r_bl ?_
  | with_reducible refine r_ret ?_
  | with_reducible refine r_drop ?_
  | with_reducible refine r_next ?_
  | (with_reducible refine' r_ixL ?k1 ?k2 ?_; (case k1 => walk_at "look"); (case k2 => walk_at "at"))
  | (with_reducible refine' r_setL ?k1 ?k2 ?_; (case k1 => walk_at "look"); (case k2 => walk_at "at"))
  | (with_reducible refine' r_tup (SqT.of ?k1) ?k2 ?_; (case k1 => walk_at "look"); (case k2 => rfl))
  | with_reducible refine r_gcons ?_
  | with_reducible refine r_gnil ?_
  | with_reducible refine r_aug rfl ?_
  | with_reducible refine r_augS ?_
  | with_reducible refine r_ipI ?_
  | with_reducible refine r_un ?_
  | with_reducible refine r_u ?_
  | with_reducible refine r_eq rfl ?_
  | with_reducible refine r_ne rfl ?_
  | with_reducible refine r_chain ?_
  | with_reducible refine iteF ?_
  | with_reducible refine r_not ?_
  | with_reducible refine r_and ?_
  | with_reducible refine r_or ?_
  | with_reducible refine r_andV ?_
  | with_reducible refine r_orV ?_
  | with_reducible refine r_notV ?_
  | with_reducible refine r_lst ?_
  | with_reducible refine r_bm ?_
  | with_reducible refine r_bm0 ?_
  | (with_reducible refine' And.intro (r_ty ?k1) ?_; (case k1 => walk_at "look"))
  | (with_reducible refine' r_append ?k1 ?k2 ?_; (case k1 => walk_at "look"); (case k2 => walk_at "sz"))
  | (with_reducible refine' r_lenK ?k1 ?_; (case k1 => walk_at "look"))
  | (with_reducible refine' r_listOf ?k1 ?_; (case k1 => walk_at "look"))
  | (with_reducible refine' r_sortedI ?k1 ?_; (case k1 => walk_at "look"))
  | (with_reducible refine' r_sum ?k1 ?_; (case k1 => walk_at "look"))
  | with_reducible refine r_int ?_
  | (with_reducible refine' r_draw (by assumption) ?k1 ?k2 ?_; (case k1 => omega); (case k2 => omega); intro R' n' o' h' h'')
  | with_reducible refine iteT ?_
  | with_reducible refine r_revL ?_
  | with_reducible refine r_lc ?_
  | with_reducible refine r_yes ?_
  | with_reducible refine r_sl ?_
  | with_reducible refine r_noPart ?_
  | with_reducible refine r_part ?_
  | with_reducible refine r_lc2 ?_
  | with_reducible refine r_callN ?_
  | with_reducible refine r_callD ?_
  | with_reducible refine r_tupE ?_
  | with_reducible refine r_rng2 ?_
  | with_reducible refine r_i1 ?_
  | (with_reducible refine' r_slL ?k1 ?_; (case k1 => walk_at "look"))
  | with_reducible refine r_for ?_
  | with_reducible refine r_iList ?_
  | with_reducible refine r_rng1 ?_
  | with_reducible refine r_enum ?_
  | (with_reducible show Ends.nx _ _ _; dsimp only)
  | (with_reducible show Ends.rt _ _ _; dsimp only)
  | (with_reducible show Ends.ct _ _ _; dsimp only)
  | (with_reducible show Ends.bk _ _ _; dsimp only))
local macro_rules | `(tactic| walk_at "go") => `(tactic| repeat (walk_at "st"))
local macro_rules | `(tactic| walk_at "begin") => `(tactic| dsimp only [cxOf, wipe, L2.start, List.map, List.length_cons, List.length_nil, Nat.reduceAdd, Nat.reduceSub, List.replicate, List.cons_append, List.nil_append])


open Lm
theorem r_lenSetI {K : PySem.W.Frag} {σ : L2.St} {H : Hp} {Q : VK} {ta : TE} (h : ta σ H fun x H1 => ∃ (l : Addr) (ns : List Int), x = .ref l ∧ SqL K H1 l (ns.map V.int) ∧ ns.Nodup ∧ ns.length ≤ 4000 ∧ Q (.int (ns.length : Nat)) H1) : RZ.tLenSetI K ta σ H Q := h
local macro_rules | `(tactic| walk_at "st") => `(tactic| first
  | with_reducible refine r_lenSetI ?_
  | (with_reducible refine' r_inI ?k1 ?_; (case k1 => walk_at "look")))
theorem tc_mono {E F : Nat → Nat → Prop} (h : ∀ a b, E a b → F a b) {a b : Nat} (t : Tc E a b) : Tc F a b := by
  induction t with
  | one e => exact .one (h _ _ e)
  | more _ e ih => exact .more ih (h _ _ e)
theorem bd_ed {T rs : List (List Int)} {n c : Nat} (B : Bd T rs n c) {a b : Nat} (e : Ed rs a b) : Ed T a b := by
  obtain ⟨r, hr, hb⟩ := e
  have ha : a < n := by rw [← B.len]; exact (List.getElem?_eq_some_iff.mp hr).1
  rcases Nat.lt_or_ge a c with q | q
  · exact ⟨r, by rw [B.grp a q]; exact hr, hb⟩
  · have := B.bar (a - c) r (by omega) (by rw [show c + (a - c) = a by omega]; exact hr)
    rw [show c + (a - c) = a by omega] at this
    exact ⟨_, this, List.mem_append_left _ hb⟩
/-- what is told, as it is due -/
def Due (H : Hp) (rs : List (List Int)) (n c : Nat) (b : Bool) (x : V) : Prop := (b = false ∧ ∃ q, x = .ref q ∧ H q = some (.tup [.str "refused", .bl true])) ∨
  (b = true ∧ ∃ (u : Addr) (ts : List Addr) (T : List (List Int)) (l : Nat), x = .ref u ∧ H u = some (.lst (ts.map V.ref)) ∧ Rw H ts T ∧ Wf l 60 T ∧ (∀ r ∈ T, r.Pairwise (· < ·)) ∧ Bd T rs n c ∧ (∀ g h, Bs c rs g h → g = h) ∧ ((∀ x, ¬ Tc (Ed rs) x x) → ∀ x, ¬ Tc (Ed T) x x) ∧ n ≤ l ∧ 1 ≤ l ∧ (l : Int) ≤ 3 * n - c + 2)
def spRight : Sp := fun vs H Q _ => ∃ (a : Addr) (as : List Addr) (rs : List (List Int)) (n c : Nat) (b : Bool) (x : V), vs = [.int (c : Int), .ref a, x, .bl b] ∧ H a = some (.lst (as.map V.ref)) ∧ Rw H as rs ∧ Wf n 43 rs ∧ (∀ r ∈ rs, r.Pairwise (· < ·)) ∧ c ≤ n ∧ n ≤ 60 ∧ Due H rs n c b x ∧
  ∀ H' : Hp, Same H H' → Q (.bl true) H'
section
variable {P : Program} {w : World} {K : PySem.W.Frag} {mg : Str → Option Value} {base : Heap}
theorem ok_right {f f1 f2 f3 : Addr} {fd fd1 fd2 fd3 : FuncData} (B : Blt mg) (D : Dn K mg "_law_right" s__law_right ["count", "rows", "told", "due"] f fd)
    (D_law_is_drawing : Dn K mg "_law_is_drawing" s__law_is_drawing ["drawing", "most"] f1 fd1) (G_law_is_drawing : FnOk P w K mg base CX0 1 f1 fd1 ["drawing", "most"] spIsDr)
    (D_law_numbers : Dn K mg "_law_numbers" s__law_numbers ["drawing"] f2 fd2) (G_law_numbers : FnOk P w K mg base CX0 1 f2 fd2 ["drawing"] spNumbers)
    (D_law_on_rings : Dn K mg "_law_on_rings" s__law_on_rings ["drawing"] f3 fd3) (G_law_on_rings : FnOk P w K mg base CX0 1 f3 fd3 ["drawing"] spOnRings) :
    FnOk P w K mg base CX0 2 f fd ["count", "rows", "told", "due"] spRight := by
  refine D.F.ok sc__law_right (fun vs H Q E h => ?_) (fun cdv A outer s H vs Q E hr h => ?_)
  · obtain ⟨a, as, rs, n, c, b, x, rfl, _⟩ := h
    rfl
  · obtain ⟨a, as, rs, n, c, b, x, rfl, ha, hrw, hwf, hasc, hcn, hn, hdue, q⟩ := h
    have hlr : rs.length = n := hwf.1
    have hla : as.length = n := by rw [hrw.1]; exact hwf.1
    have hin : In rs := In.of hwf
    refine ⟨_, (pss_cons (ps_if (pt_not (pt_val (pv 3))) (pss_one (ps_ret (pe_cmpR (op_eqDK (K := K) rfl hr.units) (pv 2) (pe_tup (pa_cons pe_str (pa_cons pe_bl pa_nil))) (nomark _)))) pss_nil)
      (pss_cons (ps_set (i := 4) sc__law_right.nd rfl (.inl rfl) (pe_callB (call_len_seqK (K := K) rfl) (by rfl) B.m_len PySem.boot_len (pa_cons (pv 1) pa_nil)))
      (C8.pss_cut (ps_if (PW.pt (pw_or (pt_not (pt_val (pe_call G_law_is_drawing (hr.mono (by decide)) (by rfl) D_law_is_drawing.g D_law_is_drawing.F.kp D_law_is_drawing.b .nil pass0 (pa_cons (pv 2) (pa_cons (pe_op op_add (pe_op op_add (pe_op op_mul pe_int (pv 0)) (pe_op op_mul pe_int (pe_op op_sub (pv 4) (pv 0)))) pe_int) pa_nil))))) (pw_or1 (pt_cmpR op_lt (pe_callB (call_len_seqK (K := K) rfl) (by rfl) B.m_len PySem.boot_len (pa_cons (pv 2) pa_nil)) (pv 4) (nomark _))))) (pss_one (ps_ret pe_bl)) pss_nil)
      (pss_cons (ps_set (i := 5) sc__law_right.nd rfl (.inr rfl) (pe_call G_law_numbers (hr.mono (by decide)) (by rfl) D_law_numbers.g D_law_numbers.F.kp D_law_numbers.b .nil pass0 (pa_cons (pv 2) pa_nil)))
      (pss_cons (ps_if (pt_cmpR op_ne (RZ.pe_lenSetI (by rfl) B.m_len (by rfl) B.m_set (pe_slice (sl_listK (K := K) rfl) (pv 5) po_none (po_some (pv 4)))) (pv 4) (nomark _)) (pss_one (ps_ret pe_bl)) pss_nil)
      (pss_cons (ps_for PassesOwn.never rfl (pi_range1 (by rfl) B.m_range (pa_cons (pv 4) pa_nil)) (pg_name (i := 6) sc__law_right.nd rfl (.inl rfl)) (pss_cons (ps_setLc (i := 7) (own := [("place", 9)]) rfl sc__law_right.nd rfl rfl (sw_true rfl rfl rfl (by decide +kernel)) (pi_listK (K := K) rfl (pe_ix (ix_listK (K := K) rfl) (pv 2) (pv 6) (fun _ _ => rfl))) (blkOk_by (own := [("place", 9)]) (by kernel_rfl))
        (fun _ _ _ _ _ => (pg_name (i := 9) sc__law_right.nd rfl (.inl rfl))) (fun _ _ _ _ _ => pts_nil)
        (fun _ _ _ _ _ => (pe_ix (ix_listK (K := K) rfl) (pv 5) (pv 9) (fun _ _ => rfl))))
      (pss_one (ps_for PassesOwn.never rfl (pi_range1 (by rfl) B.m_range (pa_cons (pv 4) pa_nil)) (pg_name (i := 8) sc__law_right.nd rfl (.inl rfl)) (pss_one (ps_if (pt_cmpR op_ne (pe_cmpR (op_in_seqK (K := K) rfl) (pe_ix (ix_listK (K := K) rfl) (pv 5) (pv 8) (fun _ _ => rfl)) (pv 7) (by rfl)) (pe_cmpR (op_in_seqK (K := K) rfl) (pv 8) (pe_ix (ix_listK (K := K) rfl) (pv 1) (pv 6) (fun _ _ => rfl)) (by rfl)) (nomark _)) (pss_one (ps_ret pe_bl)) pss_nil))))))
      (pss_one (ps_ret (pe_cmpR op_eq (pe_call G_law_on_rings (hr.mono (by decide)) (by rfl) D_law_on_rings.g D_law_on_rings.F.kp D_law_on_rings.b .nil pass0 (pa_cons (pv 2) pa_nil)) (pe_call G_law_on_rings (hr.mono (by decide)) (by rfl) D_law_on_rings.g D_law_on_rings.F.kp D_law_on_rings.b .nil pass0 (pa_cons (pv 1) pa_nil)) (nomark _)))))))))), ?_⟩
    walk_at "begin"
    walk_at "go"
    rcases hdue with ⟨rfl, p, rfl, hp⟩ | ⟨rfl, u, ts, T, l, rfl, hu, hT, hwT, haT, BD, hal, hac, hnl, hl1, hlm⟩
    · refine r_iteB (fun _ => ?_) (fun z => absurd z (by decide))
      walk_at "go"
      refine ⟨by walk_at "len", fun p2 np2 => ?_⟩
      walk_at "go"
      refine ⟨.tuple [.str "refused", .bool true], .tuple [.str "refused", .bool true], .tup (SqT.of (same_new np2 _ _ hp)) (.cons (.str _) (.cons (.bl _) .nil)), .tup (SqT.of upd_same) (.cons (.str _) (.cons (.bl _) .nil)), by decide +kernel, by decide +kernel, ?_⟩
      rw [show PyData.eqv (.tuple [.str "refused", .bool true]) (.tuple [.str "refused", .bool true]) = true by decide +kernel]
      exact q _ (same_new np2)
    · refine r_iteB (fun z => absurd z (by decide)) (fun _ => ?_)
      have hlT : T.length = l := hwT.1
      have hlt : ts.length = l := by rw [hT.1]; exact hwT.1
      have hinT : In T := In.of hwT
      walk_at "go"
      rw [List.length_map, hla]
      walk_at "go"
      refine ⟨fun σ HM => σ = [some (.int c), some (.ref a), some (.ref u), some (.bl true), some (.int (n : Int)), none, none, none, none, none] ∧ HM = H, ?_, ?_⟩
      · walk_at "go"
        refine ⟨u, ts, T, l, _, rfl, hu, hT, ⟨hwT.1, fun r hr => (hwT.2 r hr).weak (by decide)⟩, haT, hl1, by omega, ?_⟩
        walk_at "go"
        refine r_iteB (fun z => absurd z (by decide)) (fun _ => ?_)
        walk_at "go"
        rw [List.length_map, hlt]
        refine r_ite (fun z => absurd z (by omega)) (fun _ => ?_)
        walk_at "go"
        exact ⟨rfl, rfl⟩
      · rintro σ HM ⟨rfl, rfl⟩
        walk_at "go"
        refine ⟨u, ts, T, l, rfl, hu, hT, hwT, hl1, by omega, fun H1 q1 N hS1 hq1 hNl hRs hFin => ?_⟩
        have X : Ext T (pAt N) := ext_of hlT hNl hinT hRs hFin
        have ha1 := hS1 _ _ ha
        have hu1 := hS1 _ _ hu
        have at_k : ∀ k : Nat, k < l → atI (N.map V.int) (k : Int) = some (.int (pAt N k)) := fun k hk => at_i (by omega) (by rw [Int.toNat_natCast, List.getElem?_map, pAt_of (by omega)]; rfl)
        walk_at "go"
        intro p np
        rw [cut_to _ (Int.natCast_nonneg n), Int.toNat_natCast, ← List.map_take]
        have hnd : (N.take n).Nodup := by
          rw [List.Nodup, List.pairwise_iff_getElem]
          intro i j hi hj hij e
          rw [List.length_take] at hi hj
          rw [List.getElem_take, List.getElem_take] at e
          have e1 := pAt_of (p := N) (a := i) (by omega)
          have e2 := pAt_of (p := N) (a := j) (by omega)
          rw [List.getElem?_eq_getElem (by omega)] at e1 e2
          have := BD.inj X hin hasc hal (p := i) (q := j) (by omega) (by omega) (by rw [← Option.some.inj e1, ← Option.some.inj e2]; exact e)
          omega
        refine ⟨p, N.take n, rfl, SqL.of upd_same, hnd, by rw [List.length_take]; omega, ?_⟩
        have hS2 := same_new (o := .lst ((N.take n).map V.int)) np
        walk_at "go"
        rw [List.length_take, hNl, Nat.min_eq_left hnl]
        refine r_iten (fun z => absurd rfl z) (fun _ => ?_)
        have hS12 := hS1.trans hS2
        have ha2 := hS12 _ _ ha
        have hu2 := hS12 _ _ hu
        have hq2 := hS2 _ _ hq1
        generalize upd H1 p (.lst ((N.take n).map V.int)) = H2 at hS2 hS12 ha2 hu2 hq2 ⊢
        clear np
        walk_at "go"
        refine r_forR (n := (n : Int)) (by omega) (by omega) (fun i σ X => ∃ (y6 y7 y8 : Option V), σ = [some (.int c), some (.ref a), some (.ref u), some (.bl true), some (.int (n : Int)), some (.ref q1), y6, y7, y8, none] ∧ Same H2 X) ⟨_, _, _, rfl, Same.refl _⟩ ?_ ?_
        · rintro i σ X3 hi ⟨y6, y7, y8, rfl, x1⟩
          rw [Int.toNat_natCast] at hi
          have hS3 := hS12.trans x1
          have hq3 := x1 _ _ hq2
          obtain ⟨tt, htt⟩ : ∃ r, T[i]? = some r := ⟨_, List.getElem?_eq_getElem (by omega)⟩
          obtain ⟨bt, _, bt2, bt3⟩ := Ro.get (f := V.int) (hT.mono hS3) htt
          have hatt : atI (ts.map V.ref) (i : Int) = some (.ref bt) := at_i (by omega) (by rw [Int.toNat_natCast]; exact bt2)
          have hgt := hwT.2 tt (List.mem_of_getElem? htt)
          have hgtl := hgt.1
          have hu3 := hS3 _ _ hu
          obtain ⟨r, hr1⟩ : ∃ r, rs[i]? = some r := ⟨_, List.getElem?_eq_getElem (by omega)⟩
          walk_at "go"
          refine lcT_list topH (K := K) (s0 := ()) trivial (xs := tt.map V.int) bt3 (fun j C acc => acc = ((tt.take j).map fun e => pAt N e.toNat).map V.int) rfl ?_ ?_
          · rintro D2 j x _ C acc _ hD hS hx rfl
            obtain ⟨e, rfl, he⟩ := ints_at hx
            have hj := (List.getElem?_eq_some_iff.mp he).1
            have hge := hgt.2.2 e (List.mem_of_getElem? he)
            have hate : atI (N.map V.int) e = some (.int (pAt N e.toNat)) := by
              have := at_k e.toNat (by omega)
              rwa [Int.toNat_of_nonneg hge.1] at this
            have hq4 := hS _ _ hq3
            walk_at "begin"
            walk_at "go"
            refine ⟨rfl, ?_⟩
            walk_at "go"
            refine lcN_put topH (s := ()) trivial hD hS ?_ ?_
            · rw [List.length_map, List.length_map, List.length_take]; omega
            · rw [mp_put he, List.map_append]; rfl
          · rintro Dh _ C acc _ hB hD hS rfl
            rw [List.length_map, List.take_length]
            have hS4 := hS.trans (same_new (o := .lst ((tt.map fun e => pAt N e.toNat).map V.int)) hD)
            have hdh : upd C Dh (.lst ((tt.map fun e => pAt N e.toNat).map V.int)) Dh = some (.lst ((tt.map fun e => pAt N e.toNat).map V.int)) := upd_same
            generalize upd C Dh (.lst ((tt.map fun e => pAt N e.toNat).map V.int)) = X4 at hS4 hdh ⊢
            clear hB hD hS C
            walk_at "go"
            refine r_forR (n := (n : Int)) (by omega) (by omega) (fun m σ X => ∃ (y8 : Option V), σ = [some (.int c), some (.ref a), some (.ref u), some (.bl true), some (.int (n : Int)), some (.ref q1), some (.int (i : Int)), some (.ref Dh), y8, none] ∧ X = X4) ⟨_, rfl, rfl⟩ ?_ ?_
            · rintro m σ X5 hm ⟨y8, rfl, rfl⟩
              rw [Int.toNat_natCast] at hm
              have hq4 := hS4 _ _ hq3
              have ha4 := (hS3.trans hS4) _ _ ha
              obtain ⟨b, _, b2, b3⟩ := Ro.get (f := V.int) (hrw.mono (hS3.trans hS4)) hr1
              have hatr : atI (as.map V.ref) (i : Int) = some (.ref b) := at_i (by omega) (by rw [Int.toNat_natCast]; exact b2)
              have hatk := at_k m (by omega)
              have key : pAt N m ∈ (tt.map fun e => pAt N e.toNat) ↔ (m : Int) ∈ r := by
                rw [List.mem_map]
                exact BD.mem X hin hasc hal (a := i) (k := m) (by omega) (by omega) hr1 htt
              walk_at "go"
              refine r_iten (fun z => absurd ?_ z) (fun _ => ?_)
              · simp only [Bool.false_eq_true, if_false]
                exact congrArg V.bl (decide_eq_decide.mpr key)
              · walk_at "go"
                exact ⟨_, rfl, rfl⟩
            · rintro σ X5 ⟨y8, rfl, rfl⟩
              walk_at "go"
              exact ⟨_, _, _, rfl, x1.trans hS4⟩
        · rintro σ X3 ⟨y6, y7, y8, rfl, x1⟩
          have hS3 := hS12.trans x1
          walk_at "go"
          refine ⟨u, ts, T, l, 60, rfl, hS3 _ _ hu, hT.mono hS3, hwT, by omega, by decide, fun H4 b1 hS4 hb1 => ?_⟩
          have hS5 := hS3.trans hS4
          walk_at "go"
          refine ⟨a, as, rs, n, 43, rfl, hS5 _ _ ha, hrw.mono hS5, hwf, by omega, by decide, fun H6 b2 hS6 hb2 => ?_⟩
          have hbb : b1 = b2 := by
            rw [Bool.eq_iff_iff, hb1, hb2]
            constructor
            · rintro ⟨x, t⟩
              exact Classical.byContradiction fun no => hac (fun y ty => no ⟨y, ty⟩) x t
            · rintro ⟨x, t⟩
              exact ⟨x, tc_mono (fun _ _ e => bd_ed BD e) t⟩
          subst hbb
          refine r_eq rfl ?_
          rw [decide_eq_true rfl]
          exact q _ (hS5.trans hS6)
end
end K40
namespace K40
open PySem PySem.Spec PyProof.Rows L2 Lw


local macro_rules | `(tactic| walk_at "look") => `(tactic| first
  | assumption
  | with_reducible exact upd_same
  | with_reducible exact rg_st
  | with_reducible exact rg_g (by assumption)
  | (with_reducible refine upd_old (by assumption) ?_; walk_at "look")
  | (with_reducible refine rg_get (by assumption) ?_; walk_at "look")
  | (with_reducible refine Same.get (by assumption) ?_; walk_at "look"))
local macro_rules | `(tactic| walk_at "cond") => `(tactic| first
  | (show _ ≠ _; omega) | exact cdivN (by omega) (by omega) | exact cmul_mod (by decide) (by decide) | exact cmulR (by omega) (by omega) | exact cmulL (by omega) (by omega) | exact cpow (by omega) (by omega) (by omega) (by omega) | (show (0:Int) ≤ _; omega))
local macro_rules | `(tactic| walk_at "at") => `(tactic| first | assumption | with_unfolding_all rfl)
local macro_rules | `(tactic| walk_at "sz") => `(tactic| first | assumption | (refine small ?_; omega) | (refine small ?_; simp only [List.length_map, List.length_append, List.length_cons, List.length_nil]; omega))
local macro_rules | `(tactic| walk_at "len") => `(tactic| first | exact size_nil | exact Nat.le_of_lt (small (by simp only [List.length_cons, List.length_nil, List.length_map]; omega)))
local macro_rules | `(tactic| walk_at "newD") => `(tactic| (refine ⟨by walk_at "len", fun p np => ?_⟩; obtain ⟨e, o', hD', n', ne'⟩ := newTD_eq (topRg _ _) (by assumption) (by assumption) np (.lst _); rw [e]; clear e))
local macro_rules | `(tactic| walk_at "new") => `(tactic| (refine ⟨by walk_at "len", fun p np => ?_⟩; obtain ⟨e, o', n'⟩ := newT_eq (topRg _ _) (by assumption) np (.lst _); rw [e]; clear e))
local macro_rules | `(tactic| walk_at "st") => `(tactic| first
  | with_reducible refine r_seq ?_
  | with_reducible refine r_var rfl ?_
  | with_reducible refine r_c ?_
  | with_reducible refine r_asg ?_
  | (with_reducible refine r_name ?_; dsimp only [List.set_cons_zero, List.set_cons_succ])
  | with_reducible refine r_sub ?_
  | with_reducible refine r_op ?_
  | with_reducible refine r_i0 ?_
  | (with_reducible refine' r_i ?k1 ?_; (case k1 => walk_at "cond"))
  | with_reducible refine r_cons ?_
  | with_reducible refine r_nil ?_
  | with_reducible refine r_cb ?_
  | with_reducible refine r_call ?_
  | with_reducible refine r_ifs ?_
  | with_reducible refine r_test ?_
  | with_reducible refine r_tB ?_
  | with_reducible refine r_bl ?_
  | with_reducible refine r_ret ?_
  | with_reducible refine r_drop ?_
  | with_reducible refine r_next ?_
  | (with_reducible refine' r_ixL ?k1 ?k2 ?_; (case k1 => walk_at "look"); (case k2 => walk_at "at"))
  | (with_reducible refine' r_setL ?k1 ?k2 ?_; (case k1 => walk_at "look"); (case k2 => walk_at "at"))
  | (with_reducible refine' r_tup (SqT.of ?k1) ?k2 ?_; (case k1 => walk_at "look"); (case k2 => rfl))
  | with_reducible refine r_gcons ?_
  | with_reducible refine r_gnil ?_
  | with_reducible refine r_aug rfl ?_
  | with_reducible refine r_augS ?_
  | with_reducible refine r_ipI ?_
  | with_reducible refine r_un ?_
  | with_reducible refine r_u ?_
  | with_reducible refine r_eq rfl ?_
  | with_reducible refine r_ne rfl ?_
  | with_reducible refine r_chain ?_
  | with_reducible refine iteF ?_
  | with_reducible refine r_not ?_
  | with_reducible refine r_and ?_
  | with_reducible refine r_or ?_
  | with_reducible refine r_andV ?_
  | with_reducible refine r_orV ?_
  | with_reducible refine r_notV ?_
  | with_reducible refine r_lst ?_
  | with_reducible refine r_bm ?_
  | with_reducible refine r_bm0 ?_
  | (with_reducible refine' And.intro (r_ty ?k1) ?_; (case k1 => walk_at "look"))
  | (with_reducible refine' r_append ?k1 ?k2 ?_; (case k1 => walk_at "look"); (case k2 => walk_at "sz"))
  | (with_reducible refine' r_lenK ?k1 ?_; (case k1 => walk_at "look"))
  | (with_reducible refine' r_listOf ?k1 ?_; (case k1 => walk_at "look"))
  | (with_reducible refine' r_sortedI ?k1 ?_; (case k1 => walk_at "look"))
  | (with_reducible refine' r_sum ?k1 ?_; (case k1 => walk_at "look"))
  | with_reducible refine r_int ?_
  | (with_reducible refine' r_draw (by assumption) ?k1 ?k2 ?_; (case k1 => omega); (case k2 => omega); intro R' n' o' h' h'')
  | with_reducible refine iteT ?_
  | with_reducible refine r_revL ?_
  | with_reducible refine r_lc ?_
  | with_reducible refine r_yes ?_
  | with_reducible refine r_sl ?_
  | with_reducible refine r_noPart ?_
  | with_reducible refine r_part ?_
  | with_reducible refine r_lc2 ?_
  | with_reducible refine r_callN ?_
  | with_reducible refine r_callD ?_
  | with_reducible refine r_tupE ?_
  | with_reducible refine r_rng2 ?_
  | with_reducible refine r_i1 ?_
  | (with_reducible refine' r_slL ?k1 ?_; (case k1 => walk_at "look"))
  | with_reducible refine r_for ?_
  | with_reducible refine r_iList ?_
  | with_reducible refine r_rng1 ?_
  | with_reducible refine r_enum ?_
  | (with_reducible show Ends.nx _ _ _; dsimp only)
  | (with_reducible show Ends.rt _ _ _; dsimp only)
  | (with_reducible show Ends.ct _ _ _; dsimp only)
  | (with_reducible show Ends.bk _ _ _; dsimp only))
local macro_rules | `(tactic| walk_at "go") => `(tactic| repeat (walk_at "st"))
local macro_rules | `(tactic| walk_at "begin") => `(tactic| dsimp only [cxOf, wipe, L2.start, List.map, List.length_cons, List.length_nil, Nat.reduceAdd, Nat.reduceSub, List.replicate, List.cons_append, List.nil_append])

open Lm
theorem alk_true {c : Nat} {rs : List (List Int)} : ¬ Alk c rs true ↔ ∀ g h, Bs c rs g h → g = h := by
  constructor
  · intro hn g h b
    obtain ⟨_, _, h1, h2, _⟩ := Bs.isB g h b
    rcases Nat.lt_trichotomy g h with z | z | z
    · exact absurd ⟨g, h, z, h2, by simpa using b⟩ hn
    · exact z
    · exact absurd ⟨h, g, z, h1, by simpa using b.symm⟩ hn
  · rintro hb ⟨g, h, h1, h2, h3⟩
    have := hb g h (by simpa using h3)
    omega


local macro_rules | `(tactic| walk_at "st") => `(tactic| first
  | (with_reducible refine' r_setOf ?k1 ?k2 ?_; (case k1 => walk_at "look"); (case k2 => walk_at "lim")))
theorem alike_of {n c : Nat} {rs : List (List Int)} {b : Bool} (hn : rs.length = n) (hc : c ≤ n) (h0 : ∀ r ∈ rs, ∀ e ∈ r, 0 ≤ e) (ha : ∀ r ∈ rs, r.Pairwise (· < ·)) (h : Stn c rs b) : ∀ g h, Bs c rs g h → g = h := by
  cases b with
  | true => exact alk_true.mp h.1
  | false =>
    intro g k hb
    refine Classical.byContradiction fun e => ?_
    obtain ⟨x, y, k1, k2, k3⟩ := Bs.doubled hn hc h0 ha (h.2.resolve_left Bool.false_ne_true) hb e
    exact h.1 ⟨x, y, k1, k2, by rw [if_neg Bool.false_ne_true]; exact k3⟩
theorem Told.due {H H1 H2 : Hp} {n c : Nat} {rs : List (List Int)} {b sb : Bool} {x : V} (hn : rs.length = n) (hc : c ≤ n) (h0 : ∀ r ∈ rs, ∀ e ∈ r, 0 ≤ e) (ha : ∀ r ∈ rs, r.Pairwise (· < ·)) (t : Told H H1 rs n c b x) (hs : sb = true ↔ Stn c rs b)
    (tr : ∀ y o, (H y = none ∨ ∃ xs, o = .tup xs) → H1 y = some o → H2 y = some o) : Due H2 rs n c sb x := by
  rcases t with ⟨hns, q, rfl, hq⟩ | ⟨hst, u, ts, T, l, rfl, hu, hu1, hT, hfr, hnd, hwT, haT, BD, hac, h1, h2, h3⟩
  · refine .inl ⟨?_, q, rfl, tr _ _ (.inr ⟨_, rfl⟩) hq⟩
    cases sb with
    | false => rfl
    | true => exact absurd (hs.mp rfl) hns
  · exact .inr ⟨hs.mpr hst, u, ts, T, l, rfl, tr _ _ (.inl hu) hu1, ⟨hT.1, fun i y hy => by
      obtain ⟨r, e1, e2⟩ := hT.2 i y hy
      exact ⟨r, e1, tr _ _ (.inl (hfr y (List.mem_of_getElem? hy))) e2⟩⟩, hwT, haT, BD, alike_of hn hc h0 ha hst, hac, h1, h2, h3⟩
def spLaw (K : PySem.W.Frag) : Sp := fun vs H Q _ => ∃ (a : Addr) (ns : List Int), vs = [.ref a] ∧ SqL K H a (ns.map V.int) ∧ ns.length ≤ 63 ∧ ∀ H' : Hp, Q (.bl true) H'
section
variable {P : Program} {w : World} {K : PySem.W.Frag} {mg : Str → Option Value} {base : Heap}
theorem ok_law {f f1 f2 f3 f4 f5 f6 f7 : Addr} {fd fd1 fd2 fd3 fd4 fd5 fd6 fd7 : FuncData} (B : Blt mg) (D : Dn K mg "law" s_law ["script"] f fd)
    (D_law_start : Dn K mg "_law_start" s__law_start ["script"] f1 fd1) (G_law_start : FnOk P w K mg base CX0 1 f1 fd1 ["script"] (spStart K))
    (D_law_draw : Dn K mg "_law_draw" s__law_draw ["state", "many"] f2 fd2) (G_law_draw : FnOk P w K mg base CX0 1 f2 fd2 ["state", "many"] spDraw)
    (D_law_sketch : Dn K mg "_law_sketch" s__law_sketch ["state"] f3 fd3) (G_law_sketch : FnOk P w K mg base CX0 4 f3 fd3 ["state"] spSketch)
    (D_law_classes : Dn K mg "_law_classes" s__law_classes ["count", "rows"] f4 fd4) (G_law_classes : FnOk P w K mg base CX0 1 f4 fd4 ["count", "rows"] spClasses)
    (D_law_built : Dn K mg "_law_built" s__law_built ["count", "handed", "ringed", "keyed"] f5 fd5) (G_law_built : FnOk P w K mg base CX0 6 f5 fd5 ["count", "handed", "ringed", "keyed"] spBuilt)
    (D_law_right : Dn K mg "_law_right" s__law_right ["count", "rows", "told", "due"] f6 fd6) (G_law_right : FnOk P w K mg base CX0 2 f6 fd6 ["count", "rows", "told", "due"] spRight)
    (D_law_stands_plainly : Dn K mg "_law_stands_plainly" s__law_stands_plainly ["count", "rows"] f7 fd7) (G_law_stands_plainly : FnOk P w K mg base CX0 2 f7 fd7 ["count", "rows"] spPlainly) :
    FnAt P w K mg base callerA f fd ["script"] (spLaw K) := by
  refine Fun.okAt (k := 7) ⟨rfl, by decide, by decide⟩ D.F sc_law (fun vs H Q E h => ?_) (fun cdv outer s H vs Q E hr h => ?_)
  · obtain ⟨a, ns, rfl, _⟩ := h
    rfl
  · obtain ⟨sa, ns, rfl, hS, hl, q⟩ := h
    have hgd : (callerA.deeper (envOfC "law" (defScope s_law) s.heap.objs.size f cdv)).guards = some [] := deeper_guards rfl
    refine ⟨_, (pss_cons (ps_set (i := 1) sc_law.nd rfl (.inl rfl) (pe_call G_law_start (hr.mono (by decide)) (by rfl) D_law_start.g D_law_start.F.kp D_law_start.b .nil pass0 (pa_cons (pv 0) pa_nil)))
      (pss_cons (ps_set (i := 2) sc_law.nd rfl (.inl rfl) (pe_call G_law_sketch (hr.mono (by decide)) (by rfl) D_law_sketch.g D_law_sketch.F.kp D_law_sketch.b .nil pass0 (pa_cons (pv 1) pa_nil)))
      (pss_cons (ps_set (i := 3) sc_law.nd rfl (.inl rfl) (pe_ix (ix_listK (K := K) rfl) (pv 2) pe_int (fun _ _ => rfl)))
      (pss_cons (ps_set (i := 4) sc_law.nd rfl (.inl rfl) (pe_ix (ix_listK (K := K) rfl) (pv 2) pe_int (fun _ _ => rfl)))
      (pss_cons (ps_set (i := 5) sc_law.nd rfl (.inl rfl) (pe_cmpR op_eq (pe_callB (call_len_setO (w := w) rfl) (by rfl) B.m_len PySem.boot_len (pa_cons (pe_callTy (cr_setOf (K := K) (w := w) rfl rfl rfl) (by rfl) B.m_set (by decide +kernel) (pa_cons (pe_call G_law_classes (hr.mono (by decide)) (by rfl) D_law_classes.g D_law_classes.F.kp D_law_classes.b .nil pass0 (pa_cons (pv 3) (pa_cons (pv 4) pa_nil))) pa_nil)) pa_nil)) (pv 3) (nomark _)))
      (pss_cons (ps_setLc (i := 6) (own := [("row", 8)]) rfl sc_law.nd rfl rfl (sw_true rfl rfl rfl (by decide +kernel)) (pi_listK (K := K) rfl (pv 4)) (blkOk_by (own := [("row", 8)]) (by kernel_rfl))
        (fun _ _ _ _ _ => (pg_name (i := 8) sc_law.nd rfl (.inl rfl))) (fun _ _ _ _ _ => pts_nil)
        (fun _ _ _ _ _ => (pe_callTy (call_list_ofK (K := K) rfl) (by rfl) B.m_list (by decide +kernel) (pa_cons (pv 8) pa_nil))))
      (pss_cons (ps_set (i := 7) sc_law.nd rfl (.inl rfl) (pe_call G_law_built (hr.mono (by decide)) (by rfl) D_law_built.g D_law_built.F.kp D_law_built.b .nil pass0 (pa_cons (pv 3) (pa_cons (pv 6) (pa_cons pe_bl (pa_cons pe_bl pa_nil))))))
      (pss_cons (ps_if (pt_not (pt_val (pe_call G_law_right (hr.mono (by decide)) (by rfl) D_law_right.g D_law_right.F.kp D_law_right.b .nil pass0 (pa_cons (pv 3) (pa_cons (pv 4) (pa_cons (pv 7) (pa_cons (pv 5) pa_nil))))))) (pss_one (ps_ret pe_bl)) pss_nil)
      (C8.pss_cut (ps_if (pt_val (pv 5)) (pss_cons (ps_set (i := 8) sc_law.nd rfl (.inl rfl) (pe_ix (ix_listK (K := K) rfl) (pv 7) pe_int (fun _ _ => rfl)))
      (pss_cons (ps_expr (pe_bmK (K := K) rfl PySem.F.plainAttrs_list PySem.F.slot_list_append PySem.F.type_list_append mt_append (pv 8) (pa_cons pe_int pa_nil)))
      (pss_one (ps_expr (pe_bmK (K := K) rfl PySem.F.plainAttrs_list PySem.F.slot_list_append PySem.F.type_list_append mt_append (pv 7) (pa_cons (pe_lst (pa_cons pe_int pa_nil)) pa_nil)))))) pss_nil)
      (pss_cons (ps_set (i := 9) sc_law.nd rfl (.inl rfl) (pe_call G_law_built (hr.mono (by decide)) (by rfl) D_law_built.g D_law_built.F.kp D_law_built.b .nil pass0 (pa_cons (pv 3) (pa_cons (pv 6) (pa_cons pe_bl (pa_cons pe_bl pa_nil))))))
      (pss_cons (ps_set (i := 10) sc_law.nd rfl (.inl rfl) (pe_call G_law_built (hr.mono (by decide)) (by rfl) D_law_built.g D_law_built.F.kp D_law_built.b .nil pass0 (pa_cons (pv 3) (pa_cons (pv 6) (pa_cons pe_bl (pa_cons (pe_cmpR op_eq (pe_call G_law_draw (hr.mono (by decide)) (by rfl) D_law_draw.g D_law_draw.F.kp D_law_draw.b .nil pass0 (pa_cons (pv 1) (pa_cons pe_int pa_nil))) pe_int (nomark _)) pa_nil))))))
      (C8.pss_cut (ps_if (PW.pt (pw_or (pt_cmpR op_ne (pe_callB (call_reprD (K := K) rfl (by exact hgd) (u65 hr)) (by rfl) B.m_repr (by decide +kernel) (pa_cons (pv 6) pa_nil)) (pe_callB (call_reprD (K := K) rfl (by exact hgd) (u65 hr)) (by rfl) B.m_repr (by decide +kernel) (pa_cons (pv 4) pa_nil)) (nomark _)) (pw_or1 (pt_not (pt_val (pe_call G_law_right (hr.mono (by decide)) (by rfl) D_law_right.g D_law_right.F.kp D_law_right.b .nil pass0 (pa_cons (pv 3) (pa_cons (pv 4) (pa_cons (pv 9) (pa_cons (pv 5) pa_nil)))))))))) (pss_one (ps_ret pe_bl)) pss_nil)
      (pss_one (ps_ret (pe_call G_law_right (hr.mono (by decide)) (by rfl) D_law_right.g D_law_right.F.kp D_law_right.b .nil pass0 (pa_cons (pv 3) (pa_cons (pv 4) (pa_cons (pv 10) (pa_cons (pe_call G_law_stands_plainly (hr.mono (by decide)) (by rfl) D_law_stands_plainly.g D_law_stands_plainly.F.kp D_law_stands_plainly.b .nil pass0 (pa_cons (pv 3) (pa_cons (pv 4) pa_nil))) pa_nil))))))))))))))))))), ?_⟩
    walk_at "begin"
    walk_at "go"
    refine ⟨sa, ns, rfl, hS, hl, fun st g R o => ?_⟩
    walk_at "go"
    refine ⟨st, g, R, H, rfl, rfl, o, fun R1 B1 sk a as rs n c o1 hS1 hsk ha hrw hlr hpr hcn hn hc => ?_⟩
    have ats0 : atI [V.int (c : Int), V.ref a] 0 = some (.int c) := rfl
    have ats : atI [V.int (c : Int), V.ref a] 1 = some (.ref a) := rfl
    have hla : as.length = n := by rw [hrw.1]; exact hlr
    have hasc : ∀ r ∈ rs, r.Pairwise (· < ·) := fun r hr => (hpr r hr).1
    have h0 : ∀ r ∈ rs, ∀ e ∈ r, 0 ≤ e := fun r hr e he => ((hpr r hr).2 e he).1
    have hwf43 : Wf n 43 rs := ⟨hlr, fun r hr => ((hpr r hr).gd).weak (by omega)⟩
    have hsh : ∀ r ∈ rs, r.length ≤ 100 ∧ ∀ e ∈ r, 0 ≤ e ∧ e < 1000 := fun r hr => ⟨by have := ((hpr r hr).gd).1; omega, fun e he => by have := (hpr r hr).2 e he; omega⟩
    walk_at "go"
    have haH := rg_get o1 ha
    have hrwH : Rw (rg st g R1 B1) as rs := hrw.mono fun x y e => rg_get o1 e
    refine ⟨a, as, rs, n, n, c, rfl, haH, hrwH, ⟨hlr, fun r hr => (hpr r hr).gd⟩, hcn, by omega, by omega, by omega, fun H2 q2 p hS2 hq2 hps hfin => ?_⟩
    have hpl := hps.len
    walk_at "go"
    refine r_setOf hq2 (by omega) fun cc p3 hcc np3 => ?_
    walk_at "go"
    refine r_lenSet upd_same fun l1 l2 => ?_
    have hS3 := hS2.trans (same_new (o := SetO w p3 (fun j => decide (j ∈ p)) cc) np3)
    generalize upd H2 p3 (SetO w p3 (fun j => decide (j ∈ p)) cc) = H3 at hS3 ⊢
    walk_at "go"
    generalize hsbe : decide (V.int (cc : Int) = V.int (c : Int)) = sb
    have hsb : sb = true ↔ Stn c rs true := by
      rw [← hsbe, decide_eq_true_eq, int_eq]
      have e1 : (cc : Int) = c ↔ cc = p.length := by omega
      rw [e1, l2]
      unfold Stn
      rw [alk_true]
      constructor
      · intro nd
        refine ⟨fun x y hb => ?_, .inl rfl⟩
        obtain ⟨_, _, k1, k2, _⟩ := Bs.isB x y hb
        exact (List.getElem?_inj (by omega) nd).mp (hps.bs x y hb)
      · rintro ⟨h1, _⟩
        rw [List.Nodup, List.pairwise_iff_getElem]
        intro i j hi hj hij e
        have := h1 i j (hfin i j (by omega) (by omega) (by rw [List.getElem?_eq_getElem hi, List.getElem?_eq_getElem hj, e]))
        omega
    clear hsbe
    have ha3 := hS3 _ _ haH
    walk_at "go"
    refine lcT_list topH (K := K) (s0 := ()) trivial (xs := as.map V.ref) ha3 (fun i C acc => ∃ hs : List Addr, acc = hs.map V.ref ∧ Rw C hs (rs.take i) ∧ ∀ t ∈ hs, H3 t = none) ⟨[], rfl, Rw.nil, fun t ht => nomatch ht⟩ ?_ ?_
    · rintro D7 i x _ C acc _ hD hS hx ⟨hs, rfl, hh, hfr⟩
      obtain ⟨b, r, rfl, hb1, hr1, hc1⟩ := (hrwH.mono (hS3.trans hS)).at hx
      have hhl : hs.length ≤ i := by rw [hh.1, List.length_take]; omega
      have hi := (List.getElem?_eq_some_iff.mp hr1).1
      walk_at "begin"
      walk_at "go"
      refine ⟨rfl, ?_⟩
      walk_at "go"
      intro p np
      obtain ⟨e, _, hD5, n5, ne5⟩ := newTD_eq topH (s := ()) trivial hD np (.lst (r.map V.int))
      try dsimp only at e
      rw [e]
      refine lcN_put topH (s := ()) trivial hD5 (hS.trans (same_new n5)) ?_ ⟨hs ++ [p], refs_push _ _, ?_, fun t ht => ?_⟩
      · rw [List.length_map]; omega
      · rw [tk_succ hr1]
        exact (hh.mono (same_new n5)).push upd_same
      · rcases List.mem_append.mp ht with z | z
        · exact hfr t z
        · rw [List.mem_singleton.mp z]; exact hS.free n5
    · rintro D7 _ C acc _ hB7 hD7 hS7 ⟨hs, rfl, hh0, hfr⟩
      rw [List.length_map, hla, ← hlr, List.take_length] at hh0
      have hS4 : Same H3 (upd C D7 (.lst (hs.map V.ref))) := hS7.trans (same_new hD7)
      have hh4 := hh0.mono (same_new (o := .lst (hs.map V.ref)) hD7)
      have hd4 : upd C D7 (.lst (hs.map V.ref)) D7 = some (.lst (hs.map V.ref)) := upd_same
      dsimp only at *
      generalize upd C D7 (.lst (hs.map V.ref)) = H4 at hS4 hh4 hd4 ⊢
      clear hh0 hD7 hS7 C
      have hS14 := hS3.trans hS4
      have nst : ∀ x, H3 x = none → x ≠ st ∧ x ≠ g := fun x hx => by
        have := rg_none (hS3.free hx)
        exact ⟨this.1, this.2.1⟩
      walk_at "go"
      refine ⟨D7, hs, rs, n, c, true, true, rfl, hd4, hh4, hwf43, hasc, hcn, by omega, (fun z => by cases z), fun H5 x hS5 htold => ?_⟩
      have hS15 := hS14.trans hS5
      walk_at "go"
      refine ⟨a, as, rs, n, c, sb, x, rfl, hS15 _ _ haH, hrwH.mono hS15, hwf43, hasc, hcn, by omega, htold.due hlr hcn h0 hasc hsb (fun y o _ e => e), fun H6 hS6 => ?_⟩
      have hS46 := hS5.trans hS6
      walk_at "go"
      refine r_iteB (fun z => absurd z (by decide)) (fun _ => ?_)
      walk_at "go"
      refine ⟨fun σ HM => ∃ y8, σ = [some (.ref sa), some (.ref st), some (.ref sk), some (.int (c : Int)), some (.ref a), some (.bl sb), some (.ref D7), some x, y8, none, none] ∧ Same H4 HM, ?_, ?_⟩
      · walk_at "go"
        cases sb with
        | false =>
          rw [if_neg Bool.false_ne_true]
          walk_at "go"
          exact ⟨_, rfl, hS46⟩
        | true =>
          rw [if_pos rfl]
          rcases htold with ⟨z, _⟩ | ⟨hst, u, ts, T, l, rfl, hu, hu1, hT, hfr5, hnd, hwT, haT, BD, hac, h1, h2, h3⟩
          · exact absurd (hsb.mp rfl) z
          · have hu6 := hS6 _ _ hu1
            have hT6 := hT.mono hS6
            have hlt : ts.length = l := by rw [hT.1]; exact hwT.1
            obtain ⟨b0, hb0⟩ : ∃ b, ts[0]? = some b := ⟨_, List.getElem?_eq_getElem (by omega)⟩
            obtain ⟨r0, hr0, hr1⟩ := hT6.2 0 b0 hb0
            have hbm := List.mem_of_getElem? hb0
            have hub : u ≠ b0 := fun e => by
              rw [e, hr1] at hu6
              have := HO.lst.inj (Option.some.inj hu6)
              cases ts with
              | nil => exact nomatch hbm
              | cons z zs => cases r0 with
                | nil => cases this
                | cons y ys => cases this
            have hat0 : atI (ts.map V.ref) (0 : Int) = some (.ref b0) := at_i (by omega) (by show (ts.map V.ref)[0]? = _; rw [List.getElem?_map, hb0]; rfl)
            have hrl := (hwT.2 r0 (List.mem_of_getElem? hr0)).1
            walk_at "go"
            have hu7 : (upd H6 b0 (.lst (r0.map V.int ++ [V.int 0]))) u = some (.lst (ts.map V.ref)) := by rw [upd_ne hub]; exact hu6
            have hS47 : Same H4 (upd H6 b0 (.lst (r0.map V.int ++ [V.int 0]))) := fun y o e => by rw [upd_ne (ne_of_none e (hfr5 b0 hbm))]; exact hS46 _ _ e
            generalize upd H6 b0 (.lst (r0.map V.int ++ [V.int 0])) = H7 at hu7 hS47 ⊢
            walk_at "go"
            refine ⟨by walk_at "len", fun p8 np8 => ?_⟩
            have hu8 := same_new (o := .lst [V.int 0]) np8 _ _ hu7
            have hS48 := hS47.trans (same_new (o := .lst [V.int 0]) np8)
            generalize upd H7 p8 (.lst [V.int 0]) = H8 at hu8 hS48 ⊢
            have hsz : (ts.map V.ref).length < sizeLine := small (by rw [List.length_map]; omega)
            walk_at "go"
            exact ⟨_, rfl, fun y o e => by rw [upd_ne (ne_of_none e hu)]; exact hS48 _ _ e⟩
      · rintro σ HM ⟨y8, rfl, hSM⟩
        clear htold hS5 hS6 hS46 hS15
        have hdM := hSM _ _ hd4
        walk_at "go"
        refine ⟨D7, hs, rs, n, c, true, true, rfl, hdM, hh4.mono hSM, hwf43, hasc, hcn, by omega, (fun z => by cases z), fun H8 x2 hS8 htold2 => ?_⟩
        have hS18 := (hS14.trans hSM).trans hS8
        obtain ⟨B8, rfl, o8, sB8⟩ := rg_same o1 hS18
        have hd8 := hS8 _ _ hdM
        have hh8 := (hh4.mono hSM).mono hS8
        have hDn := nst D7 hB7
        have hdB : B8 D7 = some (.lst (hs.map V.ref)) := rg_low hd8 hDn.1 hDn.2
        have hhB : Rw B8 hs rs := ⟨hh8.1, fun i y hy => by
          obtain ⟨r, e1, e2⟩ := hh8.2 i y hy
          have := nst y (hfr y (List.mem_of_getElem? hy))
          exact ⟨r, e1, rg_low e2 this.1 this.2⟩⟩
        walk_at "go"
        rename_i R9 n9 o9 n90 n91
        have hd9 := rg_get o9 hdB
        have hh9 : Rw (rg st g R9 B8) hs rs := hhB.mono fun x y e => rg_get o9 e
        have ha9 := rg_get o9 (sB8 _ _ ha)
        have hrw9 : Rw (rg st g R9 B8) as rs := (hrw.mono sB8).mono fun x y e => rg_get o9 e
        refine ⟨D7, hs, rs, n, c, false, _, rfl, hd9, hh9, hwf43, hasc, hcn, by omega, fun _ => rfl, fun H10 x3 hS10 htold3 => ?_⟩
        have hd10 := hS10 _ _ hd9
        have ha10 := hS10 _ _ ha9
        walk_at "go"
        refine ⟨fun σ HM => σ = [some (.ref sa), some (.ref st), some (.ref sk), some (.int (c : Int)), some (.ref a), some (.bl sb), some (.ref D7), some x, y8, some x2, some x3] ∧ Same H10 HM, ?_, ?_⟩
        · walk_at "go"
          refine r_reprR hd10 (hh9.mono hS10) (by omega) hsh ?_
          walk_at "go"
          refine r_reprR ha10 (hrw9.mono hS10) (by omega) hsh ?_
          walk_at "go"
          refine r_iten (fun z => absurd rfl z) (fun _ => ?_)
          walk_at "go"
          refine ⟨a, as, rs, n, c, sb, x2, rfl, ha10, hrw9.mono hS10, hwf43, hasc, hcn, by omega, htold2.due hlr hcn h0 hasc hsb (fun y o hy e => ?_), fun H11 hS11 => ?_⟩
          · have hne : y ≠ st ∧ y ≠ g := by
              rcases hy with z | ⟨xs, rfl⟩
              · have := rg_none ((hS14.trans hSM).free z)
                exact ⟨this.1, this.2.1⟩
              · constructor
                · intro z
                  rw [z, rg_st] at e
                  cases e
                · intro z
                  rw [z, rg_g o8] at e
                  cases e
            exact hS10 _ _ (rg_get o9 (rg_low e hne.1 hne.2))
          · walk_at "go"
            refine r_iteB (fun z => absurd z (by decide)) (fun _ => ?_)
            walk_at "go"
            exact ⟨rfl, hS11⟩
        · rintro σ H11 ⟨rfl, hS11⟩
          have hS911 := hS10.trans hS11
          walk_at "go"
          refine ⟨a, as, rs, n, 43, c, rfl, hS911 _ _ ha9, hrw9.mono hS911, hwf43, hcn, by omega, by decide, fun H12 b3 hS12 hb3 => ?_⟩
          have hS912 := hS911.trans hS12
          walk_at "go"
          exact ⟨a, as, rs, n, c, b3, x3, rfl, hS912 _ _ ha9, hrw9.mono hS912, hwf43, hasc, hcn, by omega, htold3.due hlr hcn h0 hasc hb3 (fun y o _ e => (hS11.trans hS12) _ _ e), fun H13 _ => q _⟩
end
end K40
namespace K40
open PySem PySem.Spec PyProof.Rows L2 Lw
theorem all_mk {P : Program} {w : World} {K : PySem.W.Frag} {h : Heap} {mg : Str → Option Value} {fa f1 f2 f3 f4 f5 f6 f7 f8 f9 f10 f11 f12 f13 f14 f15 f16 f17 f18 f19 f20 f21 : Addr} (X : K.In h) (G : h.Ns mainGlobals mg) (hfa : mg "law" = some (.ref fa))
    {od1 od2 od3 od4 od5 od6 od7 od8 od9 od10 od11 od12 od13 od14 od15 od16 od17 od18 od19 od20 od21 an1 an2 an3 an4 an5 an6 an7 an8 an9 an10 an11 an12 an13 an14 an15 an16 an17 an18 an19 an20 an21 : Option Addr} {sl1 sl2 sl3 sl4 sl5 sl6 sl7 sl8 sl9 sl10 sl11 sl12 sl13 sl14 sl15 sl16 sl17 sl18 sl19 sl20 sl21 : Array (Option Value)} {oc1 oc2 oc3 oc4 oc5 oc6 oc7 oc8 oc9 oc10 oc11 oc12 oc13 oc14 oc15 oc16 oc17 oc18 oc19 oc20 oc21 dc1 dc2 dc3 dc4 dc5 dc6 dc7 dc8 dc9 dc10 dc11 dc12 dc13 dc14 dc15 dc16 dc17 dc18 dc19 dc20 dc21 pm1 pm2 pm3 pm4 pm5 pm6 pm7 pm8 pm9 pm10 pm11 pm12 pm13 pm14 pm15 pm16 pm17 pm18 pm19 pm20 pm21 cd1 cd2 cd3 cd4 cd5 cd6 cd7 cd8 cd9 cd10 cd11 cd12 cd13 cd14 cd15 cd16 cd17 cd18 cd19 cd20 cd21 ct1 ct2 ct3 ct4 ct5 ct6 ct7 ct8 ct9 ct10 ct11 ct12 ct13 ct14 ct15 ct16 ct17 ct18 ct19 ct20 ct21 kV1 kV2 kV3 kV4 kV5 kV8 kV10 kV11 kV12 kV13 kV14 kV15 kV16 kV17 kV18 kV19 kV20 kV21 : Value}
    {kD6 : Addr}
    {kD7 : Addr}
    {kD9 : Addr}
    (a1 : PySem.W.nsIn K mainGlobals "_law_draw" = some (some (.ref f1))) (l1 : K.lookup f1 = some ⟨oc1, od1, .func (PySem.W.fnOf "_law_draw" "_law_draw" (defArgs s__law_draw) (defBody s__law_draw) (defScope s__law_draw) .none kV1 dc1 pm1 an1 cd1 ct1), sl1⟩) (c1 : PySem.W.codeIn K cd1 "_law_draw" = true) (k1 : PySem.W.keepIn K (.ref f1) = true)
    (a2 : PySem.W.nsIn K mainGlobals "_law_start" = some (some (.ref f2))) (l2 : K.lookup f2 = some ⟨oc2, od2, .func (PySem.W.fnOf "_law_start" "_law_start" (defArgs s__law_start) (defBody s__law_start) (defScope s__law_start) .none kV2 dc2 pm2 an2 cd2 ct2), sl2⟩) (c2 : PySem.W.codeIn K cd2 "_law_start" = true) (k2 : PySem.W.keepIn K (.ref f2) = true)
    (a3 : PySem.W.nsIn K mainGlobals "settled_places" = some (some (.ref f3))) (l3 : K.lookup f3 = some ⟨oc3, od3, .func (PySem.W.fnOf "settled_places" "settled_places" (defArgs s_settled_places) (defBody s_settled_places) (defScope s_settled_places) .none kV3 dc3 pm3 an3 cd3 ct3), sl3⟩) (c3 : PySem.W.codeIn K cd3 "settled_places" = true) (k3 : PySem.W.keepIn K (.ref f3) = true)
    (a4 : PySem.W.nsIn K mainGlobals "are_matched" = some (some (.ref f4))) (l4 : K.lookup f4 = some ⟨oc4, od4, .func (PySem.W.fnOf "are_matched" "are_matched" (defArgs s_are_matched) (defBody s_are_matched) (defScope s_are_matched) .none kV4 dc4 pm4 an4 cd4 ct4), sl4⟩) (c4 : PySem.W.codeIn K cd4 "are_matched" = true) (k4 : PySem.W.keepIn K (.ref f4) = true)
    (a5 : PySem.W.nsIn K mainGlobals "greatest_likeness" = some (some (.ref f5))) (l5 : K.lookup f5 = some ⟨oc5, od5, .func (PySem.W.fnOf "greatest_likeness" "greatest_likeness" (defArgs s_greatest_likeness) (defBody s_greatest_likeness) (defScope s_greatest_likeness) .none kV5 dc5 pm5 an5 cd5 ct5), sl5⟩) (c5 : PySem.W.codeIn K cd5 "greatest_likeness" = true) (k5 : PySem.W.keepIn K (.ref f5) = true)
    (a6 : PySem.W.nsIn K mainGlobals "pairs_alike" = some (some (.ref f6))) (l6 : K.lookup f6 = some ⟨oc6, od6, .func (PySem.W.fnOf "pairs_alike" "pairs_alike" (defArgs s_pairs_alike) (defBody s_pairs_alike) (defScope s_pairs_alike) .none (.ref kD6) dc6 pm6 an6 cd6 ct6), sl6⟩) (c6 : PySem.W.codeIn K cd6 "pairs_alike" = true) (k6 : PySem.W.keepIn K (.ref f6) = true)
    (a7 : PySem.W.nsIn K mainGlobals "sketch_stands" = some (some (.ref f7))) (l7 : K.lookup f7 = some ⟨oc7, od7, .func (PySem.W.fnOf "sketch_stands" "sketch_stands" (defArgs s_sketch_stands) (defBody s_sketch_stands) (defScope s_sketch_stands) .none (.ref kD7) dc7 pm7 an7 cd7 ct7), sl7⟩) (c7 : PySem.W.codeIn K cd7 "sketch_stands" = true) (k7 : PySem.W.keepIn K (.ref f7) = true)
    (q7_0 : PySem.W.nsIn K kD7 "rings" = some (some (.bool false)))
    (a8 : PySem.W.nsIn K mainGlobals "_law_is_drawing" = some (some (.ref f8))) (l8 : K.lookup f8 = some ⟨oc8, od8, .func (PySem.W.fnOf "_law_is_drawing" "_law_is_drawing" (defArgs s__law_is_drawing) (defBody s__law_is_drawing) (defScope s__law_is_drawing) .none kV8 dc8 pm8 an8 cd8 ct8), sl8⟩) (c8 : PySem.W.codeIn K cd8 "_law_is_drawing" = true) (k8 : PySem.W.keepIn K (.ref f8) = true)
    (a9 : PySem.W.nsIn K mainGlobals "build_drawing" = some (some (.ref f9))) (l9 : K.lookup f9 = some ⟨oc9, od9, .func (PySem.W.fnOf "build_drawing" "build_drawing" (defArgs s_build_drawing) (defBody s_build_drawing) (defScope s_build_drawing) .none (.ref kD9) dc9 pm9 an9 cd9 ct9), sl9⟩) (c9 : PySem.W.codeIn K cd9 "build_drawing" = true) (k9 : PySem.W.keepIn K (.ref f9) = true)
    (q9_0 : PySem.W.nsIn K kD9 "rings" = some (some (.bool false)))
    (a10 : PySem.W.nsIn K mainGlobals "_law_numbers" = some (some (.ref f10))) (l10 : K.lookup f10 = some ⟨oc10, od10, .func (PySem.W.fnOf "_law_numbers" "_law_numbers" (defArgs s__law_numbers) (defBody s__law_numbers) (defScope s__law_numbers) .none kV10 dc10 pm10 an10 cd10 ct10), sl10⟩) (c10 : PySem.W.codeIn K cd10 "_law_numbers" = true) (k10 : PySem.W.keepIn K (.ref f10) = true)
    (a11 : PySem.W.nsIn K mainGlobals "_law_classes" = some (some (.ref f11))) (l11 : K.lookup f11 = some ⟨oc11, od11, .func (PySem.W.fnOf "_law_classes" "_law_classes" (defArgs s__law_classes) (defBody s__law_classes) (defScope s__law_classes) .none kV11 dc11 pm11 an11 cd11 ct11), sl11⟩) (c11 : PySem.W.codeIn K cd11 "_law_classes" = true) (k11 : PySem.W.keepIn K (.ref f11) = true)
    (a12 : PySem.W.nsIn K mainGlobals "_law_on_rings" = some (some (.ref f12))) (l12 : K.lookup f12 = some ⟨oc12, od12, .func (PySem.W.fnOf "_law_on_rings" "_law_on_rings" (defArgs s__law_on_rings) (defBody s__law_on_rings) (defScope s__law_on_rings) .none kV12 dc12 pm12 an12 cd12 ct12), sl12⟩) (c12 : PySem.W.codeIn K cd12 "_law_on_rings" = true) (k12 : PySem.W.keepIn K (.ref f12) = true)
    (a13 : PySem.W.nsIn K mainGlobals "_law_some" = some (some (.ref f13))) (l13 : K.lookup f13 = some ⟨oc13, od13, .func (PySem.W.fnOf "_law_some" "_law_some" (defArgs s__law_some) (defBody s__law_some) (defScope s__law_some) .none kV13 dc13 pm13 an13 cd13 ct13), sl13⟩) (c13 : PySem.W.codeIn K cd13 "_law_some" = true) (k13 : PySem.W.keepIn K (.ref f13) = true)
    (a14 : PySem.W.nsIn K mainGlobals "_law_stands_plainly" = some (some (.ref f14))) (l14 : K.lookup f14 = some ⟨oc14, od14, .func (PySem.W.fnOf "_law_stands_plainly" "_law_stands_plainly" (defArgs s__law_stands_plainly) (defBody s__law_stands_plainly) (defScope s__law_stands_plainly) .none kV14 dc14 pm14 an14 cd14 ct14), sl14⟩) (c14 : PySem.W.codeIn K cd14 "_law_stands_plainly" = true) (k14 : PySem.W.keepIn K (.ref f14) = true)
    (a15 : PySem.W.nsIn K mainGlobals "_law_ringed" = some (some (.ref f15))) (l15 : K.lookup f15 = some ⟨oc15, od15, .func (PySem.W.fnOf "_law_ringed" "_law_ringed" (defArgs s__law_ringed) (defBody s__law_ringed) (defScope s__law_ringed) .none kV15 dc15 pm15 an15 cd15 ct15), sl15⟩) (c15 : PySem.W.codeIn K cd15 "_law_ringed" = true) (k15 : PySem.W.keepIn K (.ref f15) = true)
    (a16 : PySem.W.nsIn K mainGlobals "_law_chained" = some (some (.ref f16))) (l16 : K.lookup f16 = some ⟨oc16, od16, .func (PySem.W.fnOf "_law_chained" "_law_chained" (defArgs s__law_chained) (defBody s__law_chained) (defScope s__law_chained) .none kV16 dc16 pm16 an16 cd16 ct16), sl16⟩) (c16 : PySem.W.codeIn K cd16 "_law_chained" = true) (k16 : PySem.W.keepIn K (.ref f16) = true)
    (a17 : PySem.W.nsIn K mainGlobals "_law_mended" = some (some (.ref f17))) (l17 : K.lookup f17 = some ⟨oc17, od17, .func (PySem.W.fnOf "_law_mended" "_law_mended" (defArgs s__law_mended) (defBody s__law_mended) (defScope s__law_mended) .none kV17 dc17 pm17 an17 cd17 ct17), sl17⟩) (c17 : PySem.W.codeIn K cd17 "_law_mended" = true) (k17 : PySem.W.keepIn K (.ref f17) = true)
    (a18 : PySem.W.nsIn K mainGlobals "_law_sketch" = some (some (.ref f18))) (l18 : K.lookup f18 = some ⟨oc18, od18, .func (PySem.W.fnOf "_law_sketch" "_law_sketch" (defArgs s__law_sketch) (defBody s__law_sketch) (defScope s__law_sketch) .none kV18 dc18 pm18 an18 cd18 ct18), sl18⟩) (c18 : PySem.W.codeIn K cd18 "_law_sketch" = true) (k18 : PySem.W.keepIn K (.ref f18) = true)
    (a19 : PySem.W.nsIn K mainGlobals "_law_built" = some (some (.ref f19))) (l19 : K.lookup f19 = some ⟨oc19, od19, .func (PySem.W.fnOf "_law_built" "_law_built" (defArgs s__law_built) (defBody s__law_built) (defScope s__law_built) .none kV19 dc19 pm19 an19 cd19 ct19), sl19⟩) (c19 : PySem.W.codeIn K cd19 "_law_built" = true) (k19 : PySem.W.keepIn K (.ref f19) = true)
    (a20 : PySem.W.nsIn K mainGlobals "_law_right" = some (some (.ref f20))) (l20 : K.lookup f20 = some ⟨oc20, od20, .func (PySem.W.fnOf "_law_right" "_law_right" (defArgs s__law_right) (defBody s__law_right) (defScope s__law_right) .none kV20 dc20 pm20 an20 cd20 ct20), sl20⟩) (c20 : PySem.W.codeIn K cd20 "_law_right" = true) (k20 : PySem.W.keepIn K (.ref f20) = true)
    (a21 : PySem.W.nsIn K mainGlobals "law" = some (some (.ref f21))) (l21 : K.lookup f21 = some ⟨oc21, od21, .func (PySem.W.fnOf "law" "law" (defArgs s_law) (defBody s_law) (defScope s_law) .none kV21 dc21 pm21 an21 cd21 ct21), sl21⟩) (c21 : PySem.W.codeIn K cd21 "law" = true) (k21 : PySem.W.keepIn K (.ref f21) = true)
    (z0 : PySem.W.nsIn K mainGlobals "abs" = some none)
    (z1 : PySem.W.nsIn K mainGlobals "any" = some none)
    (z2 : PySem.W.nsIn K mainGlobals "bool" = some none)
    (z3 : PySem.W.nsIn K mainGlobals "enumerate" = some none)
    (z4 : PySem.W.nsIn K mainGlobals "int" = some none)
    (z5 : PySem.W.nsIn K mainGlobals "isinstance" = some none)
    (z6 : PySem.W.nsIn K mainGlobals "len" = some none)
    (z7 : PySem.W.nsIn K mainGlobals "list" = some none)
    (z8 : PySem.W.nsIn K mainGlobals "range" = some none)
    (z9 : PySem.W.nsIn K mainGlobals "repr" = some none)
    (z10 : PySem.W.nsIn K mainGlobals "set" = some none)
    (z11 : PySem.W.nsIn K mainGlobals "sorted" = some none)
    (z12 : PySem.W.nsIn K mainGlobals "tuple" = some none)
    {CN cH cO cT cE : Addr}
    (x_eg : PySem.W.nsIn K mainGlobals "NotStanding" = some (some (.ref CN)))
    (x_ex : PySem.W.excIn K CN [.type "ValueError", .type "Exception", .type "BaseException", .type "object"] "ValueError.__new__" = true)
    (x_ek : PySem.W.keepIn K (.ref CN) = true)
    (x_eb : PySem.W.subIn K (.ref CN) (.type "BaseException") = some true)
    (x_et : PySem.W.typeIn K (.ref CN) = some (.type "type"))
    (x_c1 : PySem.W.findIn K (.ref CN) "__getattribute__" = some (some (.builtin "BaseException.__getattribute__")))
    (x_c2 : PySem.W.findIn K (.ref CN) "__getattr__" = some none)
    (x_c3 : PySem.W.hasDictIn K CN = true)
    (x_c4 : PySem.W.findIn K (.ref CN) "__class__" = some (some (.builtin "object.__class__")))
    (x_c5 : PySem.W.specialIn K (.builtin "object.__class__") "__get__" = some (some (.builtin "getset_descriptor.__get__")))
    (x_c6 : PySem.W.takesIn K (.builtin "object.__class__") = some true)
    (x_c7 : PySem.W.mroIn K CN (.type "object") = some true)
    (x_es : PySem.W.exmOne K (.ref CN) (.ref CN) = some true)
    (x_g2 : PySem.W.nsIn K mainGlobals "HasRing" = some (some (.ref cH)))
    (x_g4 : PySem.W.nsIn K mainGlobals "NotOpen" = some (some (.ref cO)))
    (x_g5 : PySem.W.nsIn K mainGlobals "TooGreat" = some (some (.ref cT)))
    (x_g6 : PySem.W.nsIn K mainGlobals "SetnestsError" = some (some (.ref cE)))
    (x_g7 : PySem.W.nsIn K mainGlobals "ValueError" = some none)
    (x_h1 : PySem.W.kitOne K (.ref CN) (.ref cH) = some false)
    (x_h2 : PySem.W.kitOne K (.ref CN) (.ref cO) = some false)
    (x_h3 : PySem.W.kitOne K (.ref CN) (.ref cT) = some false)
    (x_hE : PySem.W.kitOne K (.ref CN) (.ref cE) = some true)
    (x_hV : PySem.W.kitOne K (.ref CN) (.type "ValueError") = some true)
    : ∃ fd : FuncData, (∀ (s : Shared) (v : Value), BindsTo s fd ⟨[v], []⟩ [("script", v)]) ∧ ∀ base : Heap, K.In base → base.Ns mainGlobals mg → FnAt P w K mg base callerA fa fd ["script"] (spLaw K) := by
  have e := hfa.symm.trans (PySem.W.mg_of X G a21)
  cases e
  have B : Blt mg := ⟨PySem.W.mg_none_of X G z0, PySem.W.mg_none_of X G z1, PySem.W.mg_none_of X G z2, PySem.W.mg_none_of X G z3, PySem.W.mg_none_of X G z4, PySem.W.mg_none_of X G z5, PySem.W.mg_none_of X G z6, PySem.W.mg_none_of X G z7, PySem.W.mg_none_of X G z8, PySem.W.mg_none_of X G z9, PySem.W.mg_none_of X G z10, PySem.W.mg_none_of X G z11, PySem.W.mg_none_of X G z12⟩
  have EN : ExN K mg "NotStanding" CN := ⟨PySem.W.mg_of X G x_eg, x_ex, x_ek, x_eb, x_et⟩
  have Z : ExF K mg CN cH cO cT cE := ⟨⟨x_c1, x_c2, x_eb, x_c3, x_c4, x_c5, x_c6, x_c7⟩, x_es, PySem.W.mg_of X G x_g2, PySem.W.mg_of X G x_g4, PySem.W.mg_of X G x_g5, PySem.W.mg_of X G x_g6, PySem.W.mg_none_of X G x_g7, x_h1, x_h2, x_h3, x_hE, x_hV⟩
  have F1 := fun_mk (st := s__law_draw) l1 c1 k1
  have D1 : Dn K mg "_law_draw" s__law_draw ["state", "many"] f1 _ := ⟨F1, F1.binds (ps := ["state", "many"]) fun _ _ _ _ _ _ us hl => match us, hl with | [_, _], _ => rfl, PySem.W.mg_of X G a1⟩
  have F2 := fun_mk (st := s__law_start) l2 c2 k2
  have D2 : Dn K mg "_law_start" s__law_start ["script"] f2 _ := ⟨F2, F2.binds (ps := ["script"]) fun _ _ _ _ _ _ us hl => match us, hl with | [_], _ => rfl, PySem.W.mg_of X G a2⟩
  have F3 := fun_mk (st := s_settled_places) l3 c3 k3
  have D3 : Dn K mg "settled_places" s_settled_places ["rows"] f3 _ := ⟨F3, F3.binds (ps := ["rows"]) fun _ _ _ _ _ _ us hl => match us, hl with | [_], _ => rfl, PySem.W.mg_of X G a3⟩
  have F4 := fun_mk (st := s_are_matched) l4 c4 k4
  have D4 : Dn K mg "are_matched" s_are_matched ["first", "second", "related"] f4 _ := ⟨F4, F4.binds (ps := ["first", "second", "related"]) fun _ _ _ _ _ _ us hl => match us, hl with | [_, _, _], _ => rfl, PySem.W.mg_of X G a4⟩
  have F5 := fun_mk (st := s_greatest_likeness) l5 c5 k5
  have D5 : Dn K mg "greatest_likeness" s_greatest_likeness ["count", "rows"] f5 _ := ⟨F5, F5.binds (ps := ["count", "rows"]) fun _ _ _ _ _ _ us hl => match us, hl with | [_, _], _ => rfl, PySem.W.mg_of X G a5⟩
  have F6 := fun_mk (st := s_pairs_alike) l6 c6 k6
  have D6 : DnK K mg "pairs_alike" s_pairs_alike ["count", "rows", "rings"] 2 ["rings"] f6 _ := ⟨F6, kb_all F6 2 ["rings"] fun _ _ _ _ _ _ us ws h1 h2 => match us, ws, h1, h2 with | [_, _], [_], _, _ => rfl, PySem.W.mg_of X G a6⟩
  have F7 := fun_mk (st := s_sketch_stands) l7 c7 k7
  have D7 : DnK K mg "sketch_stands" s_sketch_stands ["count", "rows", "rings"] 2 ["rings"] f7 _ := ⟨F7, kb_all F7 2 ["rings"] fun _ _ _ _ _ _ us ws h1 h2 => match us, ws, h1, h2 with | [_, _], [_], _, _ => rfl, PySem.W.mg_of X G a7⟩
  have FD7 : FunD K "sketch_stands" "sketch_stands" (defArgs s_sketch_stands) (defBody s_sketch_stands) (defScope s_sketch_stands) [] [("rings", .bl false)] f7 _ := ⟨⟨oc7, od7, .none, .ref kD7, dc7, pm7, an7, cd7, ct7, sl7, rfl, l7, c7, .inl ⟨rfl, rfl⟩, .inr ⟨kD7, rfl, fun q hq => by rw [List.mem_singleton.mp hq]; exact ⟨_, q7_0, rfl⟩⟩⟩, k7⟩
  have DD7 : DnKD K mg "sketch_stands" s_sketch_stands ["count", "rows", "rings"] 2 ["rings"] [.bl false] f7 _ := ⟨D7, FD7.binds0 (ps := ["count", "rows", "rings"]) 2 (by decide) rfl fun _ _ _ _ _ _ us ks h1 h2 => match us, ks, h1, h2 with | [_, _], [_], _, _ => ⟨_, _, _, _, _, _, rfl, rfl, rfl⟩⟩
  have F8 := fun_mk (st := s__law_is_drawing) l8 c8 k8
  have D8 : Dn K mg "_law_is_drawing" s__law_is_drawing ["drawing", "most"] f8 _ := ⟨F8, F8.binds (ps := ["drawing", "most"]) fun _ _ _ _ _ _ us hl => match us, hl with | [_, _], _ => rfl, PySem.W.mg_of X G a8⟩
  have F9 := fun_mk (st := s_build_drawing) l9 c9 k9
  have D9 : DnK K mg "build_drawing" s_build_drawing ["count", "rows", "rings"] 2 ["rings"] f9 _ := ⟨F9, kb_all F9 2 ["rings"] fun _ _ _ _ _ _ us ws h1 h2 => match us, ws, h1, h2 with | [_, _], [_], _, _ => rfl, PySem.W.mg_of X G a9⟩
  have FD9 : FunD K "build_drawing" "build_drawing" (defArgs s_build_drawing) (defBody s_build_drawing) (defScope s_build_drawing) [] [("rings", .bl false)] f9 _ := ⟨⟨oc9, od9, .none, .ref kD9, dc9, pm9, an9, cd9, ct9, sl9, rfl, l9, c9, .inl ⟨rfl, rfl⟩, .inr ⟨kD9, rfl, fun q hq => by rw [List.mem_singleton.mp hq]; exact ⟨_, q9_0, rfl⟩⟩⟩, k9⟩
  have DD9 : DnKD K mg "build_drawing" s_build_drawing ["count", "rows", "rings"] 2 ["rings"] [.bl false] f9 _ := ⟨D9, FD9.binds0 (ps := ["count", "rows", "rings"]) 2 (by decide) rfl fun _ _ _ _ _ _ us ks h1 h2 => match us, ks, h1, h2 with | [_, _], [_], _, _ => ⟨_, _, _, _, _, _, rfl, rfl, rfl⟩⟩
  have F10 := fun_mk (st := s__law_numbers) l10 c10 k10
  have D10 : Dn K mg "_law_numbers" s__law_numbers ["drawing"] f10 _ := ⟨F10, F10.binds (ps := ["drawing"]) fun _ _ _ _ _ _ us hl => match us, hl with | [_], _ => rfl, PySem.W.mg_of X G a10⟩
  have F11 := fun_mk (st := s__law_classes) l11 c11 k11
  have D11 : Dn K mg "_law_classes" s__law_classes ["count", "rows"] f11 _ := ⟨F11, F11.binds (ps := ["count", "rows"]) fun _ _ _ _ _ _ us hl => match us, hl with | [_, _], _ => rfl, PySem.W.mg_of X G a11⟩
  have F12 := fun_mk (st := s__law_on_rings) l12 c12 k12
  have D12 : Dn K mg "_law_on_rings" s__law_on_rings ["drawing"] f12 _ := ⟨F12, F12.binds (ps := ["drawing"]) fun _ _ _ _ _ _ us hl => match us, hl with | [_], _ => rfl, PySem.W.mg_of X G a12⟩
  have F13 := fun_mk (st := s__law_some) l13 c13 k13
  have D13 : Dn K mg "_law_some" s__law_some ["state", "high", "dense"] f13 _ := ⟨F13, F13.binds (ps := ["state", "high", "dense"]) fun _ _ _ _ _ _ us hl => match us, hl with | [_, _, _], _ => rfl, PySem.W.mg_of X G a13⟩
  have F14 := fun_mk (st := s__law_stands_plainly) l14 c14 k14
  have D14 : Dn K mg "_law_stands_plainly" s__law_stands_plainly ["count", "rows"] f14 _ := ⟨F14, F14.binds (ps := ["count", "rows"]) fun _ _ _ _ _ _ us hl => match us, hl with | [_, _], _ => rfl, PySem.W.mg_of X G a14⟩
  have F15 := fun_mk (st := s__law_ringed) l15 c15 k15
  have D15 : Dn K mg "_law_ringed" s__law_ringed ["state", "count", "rows"] f15 _ := ⟨F15, F15.binds (ps := ["state", "count", "rows"]) fun _ _ _ _ _ _ us hl => match us, hl with | [_, _, _], _ => rfl, PySem.W.mg_of X G a15⟩
  have F16 := fun_mk (st := s__law_chained) l16 c16 k16
  have D16 : Dn K mg "_law_chained" s__law_chained ["state", "count", "rows"] f16 _ := ⟨F16, F16.binds (ps := ["state", "count", "rows"]) fun _ _ _ _ _ _ us hl => match us, hl with | [_, _, _], _ => rfl, PySem.W.mg_of X G a16⟩
  have F17 := fun_mk (st := s__law_mended) l17 c17 k17
  have D17 : Dn K mg "_law_mended" s__law_mended ["state", "count", "rows"] f17 _ := ⟨F17, F17.binds (ps := ["state", "count", "rows"]) fun _ _ _ _ _ _ us hl => match us, hl with | [_, _, _], _ => rfl, PySem.W.mg_of X G a17⟩
  have F18 := fun_mk (st := s__law_sketch) l18 c18 k18
  have D18 : Dn K mg "_law_sketch" s__law_sketch ["state"] f18 _ := ⟨F18, F18.binds (ps := ["state"]) fun _ _ _ _ _ _ us hl => match us, hl with | [_], _ => rfl, PySem.W.mg_of X G a18⟩
  have F19 := fun_mk (st := s__law_built) l19 c19 k19
  have D19 : Dn K mg "_law_built" s__law_built ["count", "handed", "ringed", "keyed"] f19 _ := ⟨F19, F19.binds (ps := ["count", "handed", "ringed", "keyed"]) fun _ _ _ _ _ _ us hl => match us, hl with | [_, _, _, _], _ => rfl, PySem.W.mg_of X G a19⟩
  have F20 := fun_mk (st := s__law_right) l20 c20 k20
  have D20 : Dn K mg "_law_right" s__law_right ["count", "rows", "told", "due"] f20 _ := ⟨F20, F20.binds (ps := ["count", "rows", "told", "due"]) fun _ _ _ _ _ _ us hl => match us, hl with | [_, _, _, _], _ => rfl, PySem.W.mg_of X G a20⟩
  have F21 := fun_mk (st := s_law) l21 c21 k21
  have D21 : Dn K mg "law" s_law ["script"] fa _ := ⟨F21, F21.binds (ps := ["script"]) fun _ _ _ _ _ _ us hl => match us, hl with | [_], _ => rfl, PySem.W.mg_of X G a21⟩
  refine ⟨PySem.W.fnOf "law" "law" (defArgs s_law) (defBody s_law) (defScope s_law) .none kV21 dc21 pm21 an21 cd21 ct21, fun s v => .of_eq rfl, fun base _ _ => ?_⟩
  have G2_1 := ok_start (P := P) (w := w) (base := base) (k := 0) B D2 
  have G1_1 := ok_draw (P := P) (w := w) (base := base) (k := 0) B D1 
  have G13_2 := ok_some (P := P) (w := w) (base := base) B D13 D1 G1_1
  have G15_2 := ok_ringed (P := P) (w := w) (base := base) B D15 D1 G1_1
  have G16_2 := ok_chained (P := P) (w := w) (base := base) B D16 D1 G1_1
  have G11_1 := ok_classes (P := P) (w := w) (base := base) (k := 0) B D11 
  have G17_3 := ok_mended (P := P) (w := w) (base := base) B D17 D11 G11_1 D13 G13_2
  have G18_4 := ok_sketch (P := P) (w := w) (base := base) B D18 D1 G1_1 D13 G13_2 D15 G15_2 D16 G16_2 D17 G17_3
  have G4_1 := ok_matched (P := P) (w := w) (base := base) (k := 0) B D4 
  have G5_2 := ok_great (P := P) (w := w) (base := base) B D5 D4 G4_1
  have G6_3 := ok_pairs (P := P) (w := w) (base := base) B D6 D5 G5_2
  have G3_1 := ok_settled (P := P) (w := w) (base := base) (k := 0) B D3 
  have G7_4 := ok_stands (P := P) (w := w) (base := base) B D7 D6 G6_3 D3 G3_1
  have G9_5 := ok_build (P := P) (w := w) (base := base) B EN D9 D7 G7_4
  have G19_6 := ok_built (P := P) (w := w) (base := base) B EN Z D19 DD9 G9_5
  have G8_1 := ok_isdr (P := P) (w := w) (base := base) (k := 0) B D8 
  have G10_1 := ok_numbers (P := P) (w := w) (base := base) (k := 0) B D10 
  have G12_1 := ok_onrings (P := P) (w := w) (base := base) (k := 0) B D12 
  have G20_2 := ok_right (P := P) (w := w) (base := base) B D20 D8 G8_1 D10 G10_1 D12 G12_1
  have G14_2 := ok_plainly (P := P) (w := w) (base := base) B D14 D12 G12_1
  have G21_99 := ok_law (P := P) (w := w) (base := base) B D21 D2 G2_1 D1 G1_1 D18 G18_4 D11 G11_1 D19 G19_6 D20 G20_2 D14 G14_2
  exact G21_99
end K40
open PySem PySem.W PyProof.Rows
set_option maxHeartbeats 0 in
theorem PySem.Challenge.cw_setnests_k40_whole_built_with_rings_holds : PySem.Challenge.rw_setnests_k40_whole_built_with_rings.Holds := by
  w_on; o_law; k_head; (case hw => w_witness2)
  k_fill
  refine L2.walk_at_caller (l := PySem.Challenge.rw_setnests_k40_whole_built_with_rings) (n := 63) (x := "script") (sp := fun w => K40.spLaw _) rfl (by decide) rfl (fun w h Y => PySem.W.kIn_of Y) ?F (fun _ _ a ns hl _ hS => ⟨a, ns, rfl, hS, hl, fun _ => rfl⟩)
  case F =>
    intro w mg fa h KX G hmg
    refine' K40.all_mk KX G hmg ?a1 ?l1 ?c1 ?k1 ?a2 ?l2 ?c2 ?k2 ?a3 ?l3 ?c3 ?k3 ?a4 ?l4 ?c4 ?k4 ?a5 ?l5 ?c5 ?k5 ?a6 ?l6 ?c6 ?k6 ?a7 ?l7 ?c7 ?k7 ?q7_0 ?a8 ?l8 ?c8 ?k8 ?a9 ?l9 ?c9 ?k9 ?q9_0 ?a10 ?l10 ?c10 ?k10 ?a11 ?l11 ?c11 ?k11 ?a12 ?l12 ?c12 ?k12 ?a13 ?l13 ?c13 ?k13 ?a14 ?l14 ?c14 ?k14 ?a15 ?l15 ?c15 ?k15 ?a16 ?l16 ?c16 ?k16 ?a17 ?l17 ?c17 ?k17 ?a18 ?l18 ?c18 ?k18 ?a19 ?l19 ?c19 ?k19 ?a20 ?l20 ?c20 ?k20 ?a21 ?l21 ?c21 ?k21 ?z0 ?z1 ?z2 ?z3 ?z4 ?z5 ?z6 ?z7 ?z8 ?z9 ?z10 ?z11 ?z12 ?x_eg ?x_ex ?x_ek ?x_eb ?x_et ?x_c1 ?x_c2 ?x_c3 ?x_c4 ?x_c5 ?x_c6 ?x_c7 ?x_es ?x_g2 ?x_g4 ?x_g5 ?x_g6 ?x_g7 ?x_h1 ?x_h2 ?x_h3 ?x_hE ?x_hV
    (case a1 => k_is); (case l1 => k_is); (case c1 => k_is); (case k1 => k_is); (case a2 => k_is); (case l2 => k_is); (case c2 => k_is); (case k2 => k_is); (case a3 => k_is); (case l3 => k_is); (case c3 => k_is); (case k3 => k_is); (case a4 => k_is); (case l4 => k_is); (case c4 => k_is); (case k4 => k_is); (case a5 => k_is); (case l5 => k_is); (case c5 => k_is); (case k5 => k_is); (case a6 => k_is); (case l6 => k_is); (case c6 => k_is); (case k6 => k_is); (case a7 => k_is); (case l7 => k_is); (case c7 => k_is); (case k7 => k_is); (case q7_0 => k_is); (case a8 => k_is); (case l8 => k_is); (case c8 => k_is); (case k8 => k_is); (case a9 => k_is); (case l9 => k_is); (case c9 => k_is); (case k9 => k_is); (case q9_0 => k_is); (case a10 => k_is); (case l10 => k_is); (case c10 => k_is); (case k10 => k_is); (case a11 => k_is); (case l11 => k_is); (case c11 => k_is); (case k11 => k_is); (case a12 => k_is); (case l12 => k_is); (case c12 => k_is); (case k12 => k_is); (case a13 => k_is); (case l13 => k_is); (case c13 => k_is); (case k13 => k_is); (case a14 => k_is); (case l14 => k_is); (case c14 => k_is); (case k14 => k_is); (case a15 => k_is); (case l15 => k_is); (case c15 => k_is); (case k15 => k_is); (case a16 => k_is); (case l16 => k_is); (case c16 => k_is); (case k16 => k_is); (case a17 => k_is); (case l17 => k_is); (case c17 => k_is); (case k17 => k_is); (case a18 => k_is); (case l18 => k_is); (case c18 => k_is); (case k18 => k_is); (case a19 => k_is); (case l19 => k_is); (case c19 => k_is); (case k19 => k_is); (case a20 => k_is); (case l20 => k_is); (case c20 => k_is); (case k20 => k_is); (case a21 => k_is); (case l21 => k_is); (case c21 => k_is); (case k21 => k_is); (case z0 => k_is); (case z1 => k_is); (case z2 => k_is); (case z3 => k_is); (case z4 => k_is); (case z5 => k_is); (case z6 => k_is); (case z7 => k_is); (case z8 => k_is); (case z9 => k_is); (case z10 => k_is); (case z11 => k_is); (case z12 => k_is); (case x_eg => first | k_is | k_exc | kit_is | kts_exm); (case x_ex => first | k_is | k_exc | kit_is | kts_exm); (case x_ek => first | k_is | k_exc | kit_is | kts_exm); (case x_eb => first | k_is | k_exc | kit_is | kts_exm); (case x_et => first | k_is | k_exc | kit_is | kts_exm); (case x_c1 => first | k_is | k_exc | kit_is | kts_exm); (case x_c2 => first | k_is | k_exc | kit_is | kts_exm); (case x_c3 => first | k_is | k_exc | kit_is | kts_exm); (case x_c4 => first | k_is | k_exc | kit_is | kts_exm); (case x_c5 => first | k_is | k_exc | kit_is | kts_exm); (case x_c6 => first | k_is | k_exc | kit_is | kts_exm); (case x_c7 => first | k_is | k_exc | kit_is | kts_exm); (case x_es => first | k_is | k_exc | kit_is | kts_exm); (case x_g2 => first | k_is | k_exc | kit_is | kts_exm); (case x_g4 => first | k_is | k_exc | kit_is | kts_exm); (case x_g5 => first | k_is | k_exc | kit_is | kts_exm); (case x_g6 => first | k_is | k_exc | kit_is | kts_exm); (case x_g7 => first | k_is | k_exc | kit_is | kts_exm); (case x_h1 => first | k_is | k_exc | kit_is | kts_exm); (case x_h2 => first | k_is | k_exc | kit_is | kts_exm); (case x_h3 => first | k_is | k_exc | kit_is | kts_exm); (case x_hE => first | k_is | k_exc | kit_is | kts_exm); (case x_hV => first | k_is | k_exc | kit_is | kts_exm)
