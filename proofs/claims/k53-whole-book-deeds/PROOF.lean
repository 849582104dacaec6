import PyProof.Rows.All
import Wide.All
import OpenK.AllK
import Wide.FinOn
import HandS.ForMost
import HandS.Style
import HandS.IsInst
import HandS.SortInts
import HandS.More
import HandS.Codes
import HandS.Strs
import HandS.SetFor
import HandS.Deep
import HandS.Defaults
import HandS.Dict
import HandS.TupLen
import HandS.ForExc
import HandS.ExcIs
import HandS.CallSlots
import HandS.ClsMeth
import HandS.Property
import HandS.ListItems
import HandS.CallLocal
import HandS.MakeKwOnly
import HandS.Walk
import KE.RegKIsAll
import KE.RegKTryMore
import PySem.Challenge.RW_setnests_k53_whole_book_deeds
set_option Elab.async false
set_option linter.all false
set_option maxRecDepth 100000
set_option maxHeartbeats 4000000
/-! my own base: layered heaps, readings as lemmas, a stepping tactic -/
namespace Lw
open PySem PySem.Spec PyProof.Rows L2

/-! ### heaps in layers -/
theorem upd_old {H : Hp} {p a : Addr} {x o : HO} (hp : H p = none) (h : H a = some o) : upd H p x a = some o := by
  rw [upd_ne (ne_of_none h hp)]; exact h
theorem Same.get {H H' : Hp} {a : Addr} {o : HO} (s : Same H H') (h : H a = some o) : H' a = some o := s a o h
theorem same_new {H : Hp} {p : Addr} {o : HO} (h : H p = none) : Same H (upd H p o) := fun b x e => upd_old h e
/-- the draws' state: two lists above the rest -/
structure RS where
  ns : List Int
  i : Int
  m : Int
  c : Int
structure RS.Ok (R : RS) : Prop where
  i0 : 0 ≤ R.i
  i1 : R.i ≤ R.ns.length
  pos : ∀ n ∈ R.ns, 0 ≤ n
  len : R.ns.length ≤ 63
def rg (st g : Addr) (R : RS) (B : Hp) : Hp := upd (upd B g (.lst (R.ns.map V.int))) st (.lst [.ref g, .int R.i, .int R.m, .int R.c])
structure Ok (st g : Addr) (R : RS) (B : Hp) : Prop where
  ne : st ≠ g
  ok : R.Ok
  bst : B st = none
  bg : B g = none
theorem Ok.low {st g : Addr} {R : RS} {B : Hp} (o : Ok st g R B) : (upd B g (.lst (R.ns.map V.int))) st = none := by
  rw [upd_ne o.ne]; exact o.bst
theorem rg_get {st g a : Addr} {R : RS} {B : Hp} {o : HO} (k : Ok st g R B) (h : B a = some o) : rg st g R B a = some o :=
  upd_old k.low (upd_old k.bg h)
theorem rg_st {st g : Addr} {R : RS} {B : Hp} : rg st g R B st = some (.lst [.ref g, .int R.i, .int R.m, .int R.c]) := upd_same
theorem rg_g {st g : Addr} {R : RS} {B : Hp} (k : Ok st g R B) : rg st g R B g = some (.lst (R.ns.map V.int)) := by
  unfold rg; rw [upd_ne k.ne.symm, upd_same]
theorem upd_comm {H : Hp} {a b : Addr} {x y : HO} (h : a ≠ b) : upd (upd H a x) b y = upd (upd H b y) a x := by
  funext c
  by_cases h1 : c = b
  · subst h1; rw [upd_same, upd_ne h.symm, upd_same]
  · rw [upd_ne h1]
    by_cases h2 : c = a
    · subst h2; rw [upd_same, upd_same]
    · rw [upd_ne h2, upd_ne h2, upd_ne h1]
theorem upd_none {H : Hp} {a b : Addr} {x : HO} (h : upd H a x b = none) : b ≠ a ∧ H b = none := by
  by_cases e : b = a
  · subst e; rw [upd_same] at h; cases h
  · rw [upd_ne e] at h; exact ⟨e, h⟩
theorem rg_none {st g b : Addr} {R : RS} {B : Hp} (h : rg st g R B b = none) : b ≠ st ∧ b ≠ g ∧ B b = none := by
  obtain ⟨h1, h2⟩ := upd_none h
  obtain ⟨h3, h4⟩ := upd_none h2
  exact ⟨h1, h3, h4⟩
theorem rg_upd {st g b : Addr} {R : RS} {B : Hp} {o : HO} (h1 : b ≠ st) (h2 : b ≠ g) : upd (rg st g R B) b o = rg st g R (upd B b o) := by
  unfold rg; rw [upd_comm h1.symm, upd_comm h2.symm]
theorem Ok.upd {st g b : Addr} {R : RS} {B : Hp} {o : HO} (k : Ok st g R B) (h1 : b ≠ st) (h2 : b ≠ g) : Ok st g R (upd B b o) :=
  ⟨k.ne, k.ok, by rw [upd_ne h1.symm]; exact k.bst, by rw [upd_ne h2.symm]; exact k.bg⟩
/-- a new object below the draws' state -/
theorem rg_new {st g : Addr} {R : RS} {B : Hp} {o : HO} {Q : Addr → Hp → Prop} (k : Ok st g R B)
    (h : ∀ p, B p = none → p ≠ st → p ≠ g → Ok st g R (upd B p o) → Q p (rg st g R (upd B p o))) : ∀ p, rg st g R B p = none → Q p (upd (rg st g R B) p o) := fun p hp => by
  obtain ⟨h1, h2, h3⟩ := rg_none hp
  rw [rg_upd h1 h2]
  exact h p h3 h1 h2 (k.upd h1 h2)
/-- an object written below the draws' state -/
theorem rg_write {st g b : Addr} {R : RS} {B : Hp} {o o' : HO} (k : Ok st g R B) (h : B b = some o') : upd (rg st g R B) b o = rg st g R (upd B b o) ∧ Ok st g R (upd B b o) := by
  have h1 := ne_of_none h k.bst
  have h2 := ne_of_none h k.bg
  exact ⟨rg_upd h1 h2, k.upd h1 h2⟩
/-- behind a call that keeps all that was -/
theorem rg_same {st g : Addr} {R : RS} {B H : Hp} (k : Ok st g R B) (s : Same (rg st g R B) H) : ∃ B', H = rg st g R B' ∧ Ok st g R B' ∧ Same B B' := by
  refine ⟨fun b => if b = st ∨ b = g then none else H b, ?_, ⟨k.ne, k.ok, if_pos (.inl rfl), if_pos (.inr rfl)⟩, fun b o e => ?_⟩
  · funext b
    by_cases h1 : b = st
    · subst h1; rw [rg_st]; exact s _ _ rg_st
    · by_cases h2 : b = g
      · subst h2
        rw [show rg st b R (fun c => if c = st ∨ c = b then none else H c) b = some (.lst (R.ns.map V.int)) by unfold rg; rw [upd_ne h1, upd_same]]
        exact s _ _ (rg_g k)
      · unfold rg
        rw [upd_ne h1, upd_ne h2, if_neg (by intro z; rcases z with z | z; exact h1 z; exact h2 z)]
  · have h1 := ne_of_none e k.bst
    have h2 := ne_of_none e k.bg
    show (if b = st ∨ b = g then none else H b) = some o
    rw [if_neg (by intro z; rcases z with z | z; exact h1 z; exact h2 z)]
    exact s _ _ (rg_get k e)
/-- a list that is under way lies above the rest -/
theorem lay_new {C : Hp} {D : Addr} {x o : HO} {Q : Addr → Hp → Prop} (k : C D = none)
    (h : ∀ p, C p = none → p ≠ D → (upd C p o) D = none → Q p (upd (upd C p o) D x)) : ∀ p, upd C D x p = none → Q p (upd (upd C D x) p o) := fun p hp => by
  obtain ⟨h1, h2⟩ := upd_none hp
  rw [upd_comm h1.symm]
  exact h p h2 h1 (by rw [upd_ne h1.symm]; exact k)
theorem lay_same {C H : Hp} {D : Addr} {x : HO} (k : C D = none) (s : Same (upd C D x) H) : ∃ C', H = upd C' D x ∧ C' D = none ∧ Same C C' := by
  refine ⟨fun b => if b = D then none else H b, ?_, if_pos rfl, fun b o e => ?_⟩
  · funext b
    by_cases h1 : b = D
    · subst h1; rw [upd_same]; exact s _ _ upd_same
    · rw [upd_ne h1, if_neg h1]
  · have h1 := ne_of_none e k
    show (if b = D then none else H b) = some o
    rw [if_neg h1]
    exact s _ _ (upd_old k e)

/-! ### readings as lemmas -/
section
variable {K : PySem.W.Frag} {σ : L2.St} {H : Hp} {Q : VK} {D : Ends}
theorem r_seq {t u : TS} (h : t { D with nx := u D } σ H) : tSeq t u D σ H := h
theorem r_ifs {c : TT} {t u : TS} (h : c σ H fun b H1 => if b = true then t D σ H1 else u D σ H1) : tIfS c t u D σ H := h
theorem r_next (h : D.nx σ H) : tNext D σ H := h
theorem r_asg {te : TE} {g : TG} (h : te σ H fun x H1 => g x σ H1 D.nx) : tAsg te g D σ H := h
theorem r_ret {te : TE} (h : te σ H D.rt) : tRet te D σ H := h
theorem r_drop {te : TE} (h : te σ H fun _ H1 => D.nx σ H1) : tDrop te D σ H := h
theorem r_for {wi : TI} {g : TG} {tb : TS} (h : wi σ H fun J H1 => ∃ W : Nat → Nat → L2.St → Hp → Prop, (∃ m, W 0 m σ H1) ∧ ∀ i m σ H, W i m σ H →
  (J.stop i H ∧ D.nx σ H) ∨ (J.go i H ∧ ∃ N : L2.St → Hp → Prop, (∀ σ' H', N σ' H' → ∃ m', m' < m ∧ W (i + 1) m' σ' H') ∧ ∀ x H', J.yld i H x H' → g x σ H' fun σ2 H2 => tb { D with nx := N, ct := N, bk := D.nx } σ2 H2)) : tFor wi g tb D σ H := h
theorem r_name {i : Nat} {v : V} {q : L2.St → Hp → Prop} (h : q (σ.set i (some v)) H) : gName i v σ H q := h
theorem r_sub {to ti : TE} {t : TSet} {v : V} {q : L2.St → Hp → Prop} (h : to σ H fun o H1 => ti σ H1 fun i H2 => t o i v H2 fun H3 => q σ H3) : gSub to ti t v σ H q := h
theorem r_tup {n : Nat} {t : TGs} {a : Addr} {xs : List V} {q : L2.St → Hp → Prop} (h : SqT K H a xs) (e : xs.length = n) (h2 : t xs σ H q) : gTup K n t (.ref a) σ H q := ⟨a, xs, rfl, h, e, h2⟩
theorem r_gcons {t : TG} {u : TGs} {v : V} {r : List V} {q : L2.St → Hp → Prop} (h : t v σ H fun σ' H' => u r σ' H' q) : gCons t u (v :: r) σ H q := ⟨v, r, rfl, h⟩
theorem r_gnil {q : L2.St → Hp → Prop} (h : q σ H) : gNil [] σ H q := ⟨rfl, h⟩
theorem r_aug {i : Nat} {te : TE} {ti : TIp} {x : V} (e : σ[i]? = some (some x)) (h : te σ H fun y H1 => ti x y H1 fun z H2 => D.nx (σ.set i (some z)) H2) : tAug i te ti D σ H := ⟨x, e, h⟩
theorem r_augS {to ti te : TE} {tget : V → V → Hp → VK → Prop} {tip : TIp} {tset : TSet} (h : to σ H fun o H1 => ti σ H1 fun i H2 => tget o i H2 fun x H3 => te σ H3 fun y H4 => tip x y H4 fun z H5 => tset o i z H5 fun H6 => D.nx σ H6) : tAugS to ti te tget tip tset D σ H := h
theorem r_ipI {f : Int → Int → Int} {i j : Int} (h : Q (.int (f i j)) H) : ipI f (.int i) (.int j) H Q := ⟨i, j, rfl, rfl, h⟩
theorem r_test {t : TE} {q : Bool → Hp → Prop} (h : t σ H fun x H' => ∃ k, x = .bl k ∧ q k H') : tTest t σ H q := h
theorem r_tB {t : TE} {q : Bool → Hp → Prop} (h : t σ H fun x H' => ∃ k, x = .bl k ∧ q k H') : tB t σ H q := h
theorem r_bl {b : Bool} {q : Bool → Prop} (h : q b) : ∃ k, V.bl b = .bl k ∧ q k := ⟨b, rfl, h⟩
theorem r_not {t : TT} {q : Bool → Hp → Prop} (h : t σ H fun c H1 => q (!c) H1) : tNot t σ H q := h
theorem r_and {t u : TT} {q : Bool → Hp → Prop} (h : t σ H fun c H1 => if c = true then u σ H1 q else q false H1) : tAnd t u σ H q := h
theorem r_or {t u : TT} {q : Bool → Hp → Prop} (h : t σ H fun c H1 => if c = true then q true H1 else u σ H1 q) : tOr t u σ H q := h
theorem r_andV {ta tb : TE} (h : ta σ H fun x H1 => ∃ c, x = .bl c ∧ if c = true then tb σ H1 Q else Q (.bl false) H1) : tAndV ta tb σ H Q := h
theorem r_orV {ta tb : TE} (h : ta σ H fun x H1 => ∃ c, x = .bl c ∧ if c = true then Q (.bl true) H1 else tb σ H1 Q) : tOrV ta tb σ H Q := h
theorem r_notV {ta : TE} (h : ta σ H fun x H1 => ∃ c, x = .bl c ∧ Q (.bl (!c)) H1) : tNotV ta σ H Q := h
theorem r_if {t : TT} {ta tb : TE} (h : t σ H fun c H1 => if c = true then ta σ H1 Q else tb σ H1 Q) : tIf t ta tb σ H Q := h
theorem r_var {i : Nat} {v : V} (e : σ[i]? = some (some v)) (h : Q v H) : tVar i σ H Q := ⟨v, e, h⟩
theorem r_c {v : V} (h : Q v H) : tC v σ H Q := h
theorem r_op {r : R2} {ta tb : TE} (h : ta σ H fun x H1 => tb σ H1 fun y H2 => r x y H2 Q) : tOp r ta tb σ H Q := h
theorem r_un {r : V → Hp → VK → Prop} {ta : TE} (h : ta σ H fun x H1 => r x H1 Q) : tUn r ta σ H Q := h
theorem r_i0 {g : Int → Int → V} {i j : Int} (h : Q (g i j) H) : rI0 g (.int i) (.int j) H Q := ⟨i, j, rfl, rfl, h⟩
theorem r_i {C : Int → Int → Prop} {g : Int → Int → V} {i j : Int} (c : C i j) (h : Q (g i j) H) : rI C g (.int i) (.int j) H Q := ⟨i, j, rfl, rfl, c, h⟩
theorem r_u {g : Int → V} {i : Int} (h : Q (g i) H) : rU g (.int i) H Q := ⟨i, rfl, h⟩
theorem r_eq {x y : V} (e : scal x y = true) (h : Q (.bl (decide (x = y))) H) : rEq x y H Q := ⟨e, h⟩
theorem r_ne {x y : V} (e : scal x y = true) (h : Q (.bl (!decide (x = y))) H) : rNe x y H Q := ⟨e, h⟩
theorem r_chain {r r' : R2} {ta tb tc : TE} (h : ta σ H fun x H1 => tb σ H1 fun y H2 => r x y H2 fun z H3 => ∃ k, z = .bl k ∧ (if k = true then tc σ H3 fun w' H4 => r' y w' H4 Q else Q (.bl false) H3)) : tChain r r' ta tb tc σ H Q := h
theorem r_nil {q : List V → Hp → Prop} (h : q [] H) : tNil σ H q := h
theorem r_cons {ta : TE} {tr : TA} {q : List V → Hp → Prop} (h : ta σ H fun x H1 => tr σ H1 fun xs H2 => q (x :: xs) H2) : tCons ta tr σ H q := h
theorem r_cb {r : List V → Hp → VK → Prop} {t : TA} (h : t σ H fun vs H1 => r vs H1 Q) : tCB r t σ H Q := h
theorem r_call {sp : Sp} {E : XK} {t : TA} (h : t σ H fun vs H1 => sp (vs ++ []) H1 Q E) : tCall sp [] E t σ H Q := h
theorem r_lst {t : TA} (h : t σ H fun xs H1 => xs.length ≤ sizeLine ∧ ∀ p, H1 p = none → Q (.ref p) (upd H1 p (.lst xs))) : tLst t σ H Q := h
theorem r_tupE {t : TA} (h : t σ H fun xs H1 => xs.length ≤ sizeLine ∧ ∀ p, H1 p = none → Q (.ref p) (upd H1 p (.tup xs))) : tTup t σ H Q := h
theorem r_ixL {p : Addr} {xs : List V} {i : Int} {v : V} (h : H p = some (.lst xs)) (a : atI xs i = some v) (q : Q v H) : rIxL K (.ref p) (.int i) H Q := ⟨p, xs, i, v, rfl, rfl, SqL.of h, a, q⟩
theorem r_ixT {p : Addr} {xs : List V} {i : Int} {v : V} (h : H p = some (.tup xs)) (a : atI xs i = some v) (q : Q v H) : rIxT K (.ref p) (.int i) H Q := ⟨p, xs, i, v, rfl, rfl, SqT.of h, a, q⟩
theorem r_setL {p : Addr} {xs : List V} {k : Int} {j : Nat} {v : V} {q : Hp → Prop} (h : H p = some (.lst xs)) (a : ixN xs.length k = some j) (hq : q (upd H p (.lst (xs.set j v)))) : rSetL (.ref p) (.int k) v H q := ⟨p, xs, k, j, rfl, rfl, h, a, hq⟩
theorem r_len {a : Addr} {xs : List V} {F : List V → Prop} (h : H a = some (.lst xs)) (q : F xs) : ∃ p ys, [V.ref a] = [V.ref p] ∧ (SqL K H p ys ∨ SqT K H p ys) ∧ F ys := ⟨a, xs, rfl, .inl (SqL.of h), q⟩
theorem r_bm {T : String} {r : V → List V → Hp → VK → Prop} {to : TE} {t : TA} (h : to σ H fun x H1 => tyV K T x H1 ∧ t σ H1 fun xs H2 => r x xs H2 Q) : tBM K T r to t σ H Q := h
theorem r_bm0 {T : String} {r : V → List V → Hp → VK → Prop} {to : TE} (h : to σ H fun x H1 => tyV K T x H1 ∧ r x [] H1 Q) : tBM0 K T r to σ H Q := h
theorem r_ty {p : Addr} {xs : List V} (h : H p = some (.lst xs)) : tyV K "list" (.ref p) H := .inl ⟨rfl, _, SqL.of h⟩
theorem r_append {l : Addr} {xs : List V} {y : V} (h : H l = some (.lst xs)) (z : xs.length < sizeLine) (q : Q .non (upd H l (.lst (xs ++ [y])))) : rAppend (.ref l) [y] H Q := ⟨l, xs, y, rfl, rfl, h, z, q⟩
theorem r_pop {l : Addr} {xs : List V} {y : V} (h : H l = some (.lst xs)) (z : xs[xs.length - 1]? = some y) (q : Q y (upd H l (.lst xs.dropLast))) : rPop (.ref l) [] H Q := ⟨l, xs, y, rfl, rfl, h, z, q⟩
theorem r_iList {tl : TE} {R : It → Hp → Prop} (h : tl σ H fun x H1 => ∃ a, x = .ref a ∧ (∃ xs, SqL K H1 a xs) ∧ R (Itl K a) H1) : iList K tl σ H R := h
theorem r_isL {a : Addr} {xs : List V} {q : Addr → Prop} (h : H a = some (.lst xs)) (hq : q a) : ∃ b, V.ref a = .ref b ∧ (∃ xs, SqL K H b xs) ∧ q b := ⟨a, rfl, ⟨xs, SqL.of h⟩, hq⟩
theorem r_rng1 {ta : TA} {R : It → Hp → Prop} (h : ta σ H fun vs H1 => ∃ j : Int, vs = [.int j] ∧ -(2 ^ 62) ≤ j ∧ j < 2 ^ 62 ∧ R (Itr 0 j.toNat) H1) : iRng1 ta σ H R := h
theorem r_isR {j : Int} {R : It → Hp → Prop} (h1 : -(2 ^ 62) ≤ j) (h2 : j < 2 ^ 62) (hq : R (Itr 0 j.toNat) H) : ∃ k : Int, [V.int j] = [.int k] ∧ -(2 ^ 62) ≤ k ∧ k < 2 ^ 62 ∧ R (Itr 0 k.toNat) H := ⟨j, rfl, h1, h2, hq⟩
theorem r_enum {ta : TA} {R : It → Hp → Prop} (h : ta σ H fun vs H1 => ∃ a xs, vs = [.ref a] ∧ SqL K H1 a xs ∧ R (Ite K a) H1) : iEnum K ta σ H R := h
theorem r_isE {a : Addr} {xs : List V} {q : Addr → Prop} (h : H a = some (.lst xs)) (hq : q a) : ∃ b ys, [V.ref a] = [.ref b] ∧ SqL K H b ys ∧ q b := ⟨a, xs, rfl, SqL.of h, hq⟩
theorem r_abs {j : Int} {F : Int → Prop} (q : F j) : ∃ i, [V.int j] = [V.int i] ∧ F i := ⟨j, rfl, q⟩
theorem r_int {j : Int} {F : Int → Prop} {G : Prop} (q : F j) : (∃ i, [V.int j] = [V.int i] ∧ F i) ∨ G := .inl ⟨j, rfl, q⟩
theorem r_ite {p : Prop} [Decidable p] {A B : Prop} (h1 : p → A) (h2 : ¬p → B) : if decide p = true then A else B := by
  by_cases h : p
  · rw [if_pos (decide_eq_true h)]; exact h1 h
  · rw [if_neg (by rw [decide_eq_false h]; exact Bool.false_ne_true)]; exact h2 h
theorem r_iten {p : Prop} [Decidable p] {A B : Prop} (h1 : ¬p → A) (h2 : p → B) : if (!decide p) = true then A else B := by
  by_cases h : p
  · rw [if_neg (by rw [decide_eq_true h]; exact Bool.false_ne_true)]; exact h2 h
  · rw [if_pos (by rw [decide_eq_false h]; rfl)]; exact h1 h
theorem int_eq {i j : Int} : (V.int i = V.int j) ↔ i = j := ⟨fun h => V.int.inj h, fun h => by rw [h]⟩
theorem small {n : Nat} (h : n ≤ 100000) : n < sizeLine := Nat.lt_of_le_of_lt h (by decide)
end
end Lw
namespace Lw
open PySem PySem.Spec PyProof.Rows L2
theorem rg_set_st {st g : Addr} {R : RS} {B : Hp} {i m c : Int} : upd (rg st g R B) st (.lst [.ref g, .int i, .int m, .int c]) = rg st g ⟨R.ns, i, m, c⟩ B := by
  unfold rg; rw [upd_upd]
theorem rg_set_g {st g : Addr} {R : RS} {B : Hp} {ns : List Int} (k : Ok st g R B) : upd (rg st g R B) g (.lst (ns.map V.int)) = rg st g ⟨ns, R.i, R.m, R.c⟩ B := by
  unfold rg; rw [upd_comm k.ne, upd_upd]
theorem Ok.re {st g : Addr} {R R' : RS} {B : Hp} (k : Ok st g R B) (h : R'.Ok) : Ok st g R' B := ⟨k.ne, h, k.bst, k.bg⟩
theorem Ok.base {st g : Addr} {R : RS} {B C : Hp} (k : Ok st g R B) (h1 : C st = none) (h2 : C g = none) : Ok st g R C := ⟨k.ne, k.ok, h1, h2⟩
theorem at_i {xs : List V} {z : Int} {v : V} (h0 : 0 ≤ z) (h : xs[z.toNat]? = some v) : atI xs z = some v := at_of (j := z.toNat) (by omega) h
theorem ix_i {n : Nat} {z : Int} (h0 : 0 ≤ z) (h : z < n) : ixN n z = some z.toNat := by unfold ixN; rw [if_pos h0, if_pos h]
theorem setMap (l : List Int) (j : Nat) (x : Int) : (l.map V.int).set j (.int x) = (l.set j x).map V.int := by rw [List.map_set]
/-- a draw -/
def spDraw : Sp := fun vs H Q _ => ∃ (st g : Addr) (R : RS) (B : Hp) (many : Int), vs = [.ref st, .int many] ∧ H = rg st g R B ∧ Ok st g R B ∧ 1 ≤ many ∧ many < 1073741824 ∧
  ∀ R' n, RS.Ok R' → 0 ≤ n → n < many → Q (.int n) (rg st g R' B)
def spStart (K : PySem.W.Frag) : Sp := fun vs H Q _ => ∃ (a : Addr) (ns : List Int), vs = [.ref a] ∧ SqL K H a (ns.map V.int) ∧ ns.length ≤ 63 ∧
  ∀ st g R, Ok st g R H → Q (.ref st) (rg st g R H)
theorem r_draw {st g : Addr} {R : RS} {B : Hp} {many : Int} {Q : VK} {E : XK} (k : Ok st g R B) (h1 : 1 ≤ many) (h2 : many < 1073741824) (q : ∀ R' n, Ok st g R' B → 0 ≤ n → n < many → Q (.int n) (rg st g R' B)) :
    spDraw ([.ref st, .int many] ++ []) (rg st g R B) Q E := ⟨st, g, R, B, many, rfl, rfl, k, h1, h2, fun R' n h => q R' n (k.re h)⟩
end Lw
namespace Lw
open PySem PySem.Spec PyProof.Rows L2
theorem cmul_mod {x y m : Int} (h : 0 < m) (h2 : m ≤ 4294967296) : CMul (x.fmod m) y := by
  have a := Int.fmod_nonneg_of_pos x h
  have b := Int.fmod_lt_of_pos x h
  exact .inl ⟨by omega, by omega⟩
end Lw
namespace Lw
open PySem PySem.Spec PyProof.Rows L2
theorem cdivN {i j : Int} (h : 0 < j) (h2 : j < 1073741824) : CDivN i j := ⟨by omega, by omega⟩
end Lw
namespace Lw
open PySem PySem.Spec PyProof.Rows L2
theorem cmulL {i j : Int} (h : -18446744073709551616 < i) (h2 : i < 18446744073709551616) : CMul i j := .inl ⟨h, h2⟩
theorem cmulR {i j : Int} (h : -18446744073709551616 < j) (h2 : j < 18446744073709551616) : CMul i j := .inr ⟨h, h2⟩
theorem cpow {i j : Int} (h : 0 ≤ j) (h2 : j ≤ 1000000) (h3 : -18446744073709551616 < i) (h4 : i < 18446744073709551616) : CPow i j := ⟨h, h2, by
  show i.natAbs < 18446744073709551616
  omega⟩
end Lw
namespace Lw
open PySem PySem.Spec PyProof.Rows L2
section
variable {K : PySem.W.Frag} {σ : L2.St} {H : Hp} {D : Ends} {g : TG} {tb : TS}
/-- for x in a list -/
theorem r_forS {a : Addr} {xs : List V} (hx : SqL K H a xs) (Pv : Nat → L2.St → Hp → Prop) (h0 : Pv 0 σ H) (hl : ∀ i σ H, i ≤ xs.length → Pv i σ H → SqL K H a xs)
    (hs : ∀ i x σ H, xs[i]? = some x → Pv i σ H → g x σ H fun σ2 H2 => tb { D with nx := Pv (i + 1), ct := Pv (i + 1), bk := D.nx } σ2 H2) (hd : ∀ σ H, Pv xs.length σ H → D.nx σ H) :
    ∃ b, V.ref a = .ref b ∧ (∃ xs, SqL K H b xs) ∧ ∃ W : Nat → Nat → L2.St → Hp → Prop, (∃ m, W 0 m σ H) ∧ ∀ i m σ H, W i m σ H →
      ((Itl K b).stop i H ∧ D.nx σ H) ∨ ((Itl K b).go i H ∧ ∃ N : L2.St → Hp → Prop, (∀ σ' H', N σ' H' → ∃ m', m' < m ∧ W (i + 1) m' σ' H') ∧ ∀ x H', (Itl K b).yld i H x H' → g x σ H' fun σ2 H2 => tb { D with nx := N, ct := N, bk := D.nx } σ2 H2) :=
  ⟨a, rfl, ⟨xs, hx⟩, for_list Pv h0 hl hs hd⟩
theorem r_forL {a : Addr} {xs : List V} (hx : H a = some (.lst xs)) (Pv : Nat → L2.St → Hp → Prop) (h0 : Pv 0 σ H) (hl : ∀ i σ H, i ≤ xs.length → Pv i σ H → H a = some (.lst xs))
    (hs : ∀ i x σ H, xs[i]? = some x → Pv i σ H → g x σ H fun σ2 H2 => tb { D with nx := Pv (i + 1), ct := Pv (i + 1), bk := D.nx } σ2 H2) (hd : ∀ σ H, Pv xs.length σ H → D.nx σ H) :
    ∃ b, V.ref a = .ref b ∧ (∃ xs, SqL K H b xs) ∧ ∃ W : Nat → Nat → L2.St → Hp → Prop, (∃ m, W 0 m σ H) ∧ ∀ i m σ H, W i m σ H →
      ((Itl K b).stop i H ∧ D.nx σ H) ∨ ((Itl K b).go i H ∧ ∃ N : L2.St → Hp → Prop, (∀ σ' H', N σ' H' → ∃ m', m' < m ∧ W (i + 1) m' σ' H') ∧ ∀ x H', (Itl K b).yld i H x H' → g x σ H' fun σ2 H2 => tb { D with nx := N, ct := N, bk := D.nx } σ2 H2) :=
  r_forS (SqL.of hx) Pv h0 (fun i σ H h1 h2 => SqL.of (hl i σ H h1 h2)) hs hd
/-- for k in range(n) -/
theorem r_forR {n : Int} (h1 : -4611686018427387904 ≤ n) (h2 : n < 4611686018427387904) (Pv : Nat → L2.St → Hp → Prop) (h0 : Pv 0 σ H)
    (hs : ∀ i σ H, i < n.toNat → Pv i σ H → g (.int i) σ H fun σ2 H2 => tb { D with nx := Pv (i + 1), ct := Pv (i + 1), bk := D.nx } σ2 H2) (hd : ∀ σ H, Pv n.toNat σ H → D.nx σ H) :
    ∃ j : Int, [V.int n] = [.int j] ∧ -(2 ^ 62) ≤ j ∧ j < 2 ^ 62 ∧ ∃ W : Nat → Nat → L2.St → Hp → Prop, (∃ m, W 0 m σ H) ∧ ∀ i m σ H, W i m σ H →
      ((Itr 0 j.toNat).stop i H ∧ D.nx σ H) ∨ ((Itr 0 j.toNat).go i H ∧ ∃ N : L2.St → Hp → Prop, (∀ σ' H', N σ' H' → ∃ m', m' < m ∧ W (i + 1) m' σ' H') ∧ ∀ x H', (Itr 0 j.toNat).yld i H x H' → g x σ H' fun σ2 H2 => tb { D with nx := N, ct := N, bk := D.nx } σ2 H2) :=
  ⟨n, rfl, h1, h2, for_range Pv h0 (fun i σ H hi hp => by rw [Int.zero_add]; exact hs i σ H hi hp) hd⟩
end
theorem size_nil : ([] : List V).length ≤ sizeLine := Nat.zero_le _
theorem size_le {xs : List V} {n : Nat} (e : xs.length = n) (h : n ≤ 1000) : xs.length ≤ sizeLine := by rw [e]; exact Nat.le_of_lt (small (by omega))
end Lw
namespace Lw
open PySem PySem.Spec PyProof.Rows L2
/-! ### what lies above the growing heap -/
structure TopOk {S : Type} (F : S → Hp → Hp) (ok : S → Hp → Prop) : Prop where
  new : ∀ s C p, ok s C → F s C p = none → C p = none ∧ ∀ o, upd (F s C) p o = F s (upd C p o) ∧ ok s (upd C p o)
  write : ∀ s C b o o', ok s C → C b = some o' → upd (F s C) b o = F s (upd C b o) ∧ ok s (upd C b o)
  get : ∀ s C a o, ok s C → C a = some o → F s C a = some o
theorem topRg (st g : Addr) : TopOk (rg st g) (Ok st g) where
  new := fun R C p k h => by
    obtain ⟨h1, h2, h3⟩ := rg_none h
    exact ⟨h3, fun o => ⟨rg_upd h1 h2, k.upd h1 h2⟩⟩
  write := fun R C b o o' k h => rg_write k h
  get := fun R C a o k h => rg_get k h
theorem topH : TopOk (fun (_ : Unit) (C : Hp) => C) (fun _ _ => True) where
  new := fun _ C p _ h => ⟨h, fun o => ⟨rfl, trivial⟩⟩
  write := fun _ C b o o' _ h => ⟨rfl, trivial⟩
  get := fun _ C a o _ h => h
section
variable {S : Type} {F : S → Hp → Hp} {ok : S → Hp → Prop} (T : TopOk F ok)
include T
theorem newT {s : S} {C : Hp} {o : HO} {Q : Addr → Hp → Prop} (k : ok s C) (h : ∀ p, C p = none → ok s (upd C p o) → Q p (F s (upd C p o))) : ∀ p, F s C p = none → Q p (upd (F s C) p o) := fun p hp => by
  obtain ⟨h1, h2⟩ := T.new s C p k hp
  rw [(h2 o).1]
  exact h p h1 (h2 o).2
/-- a new object below a list that is under way -/
theorem newTD {s : S} {C : Hp} {D : Addr} {x o : HO} {Q : Addr → Hp → Prop} (k : ok s (upd C D x)) (hD : C D = none)
    (h : ∀ p, C p = none → p ≠ D → ok s (upd (upd C p o) D x) → (upd C p o) D = none → Q p (F s (upd (upd C p o) D x))) : ∀ p, F s (upd C D x) p = none → Q p (upd (F s (upd C D x)) p o) := fun p hp => by
  obtain ⟨h1, h2⟩ := T.new s (upd C D x) p k hp
  obtain ⟨h3, h4⟩ := upd_none h1
  have e := h2 o
  rw [upd_comm h3.symm] at e
  rw [e.1]
  exact h p h4 h3 e.2 (by rw [upd_ne h3.symm]; exact hD)
/-- what a turn of a comprehension is to reach -/
def LcN (F : S → Hp → Hp) (ok : S → Hp → Prop) (B : Hp) (D : Addr) (Pv : Hp → List V → Prop) : Hp → Prop := fun H' => ∃ s C acc, H' = F s (upd C D (.lst acc)) ∧ ok s (upd C D (.lst acc)) ∧ C D = none ∧ Same B C ∧ Pv C acc
omit T in
theorem lcN_skip {s : S} {B C : Hp} {D : Addr} {acc : List V} {Pv : Hp → List V → Prop} (k : ok s (upd C D (.lst acc))) (hD : C D = none) (hS : Same B C) (h : Pv C acc) : LcN F ok B D Pv (F s (upd C D (.lst acc))) := ⟨s, C, acc, rfl, k, hD, hS, h⟩
theorem lcN_put {s : S} {B C : Hp} {D : Addr} {acc : List V} {y : V} {Pv : Hp → List V → Prop} (k : ok s (upd C D (.lst acc))) (hD : C D = none) (hS : Same B C) (hz : acc.length ≤ 100000) (h : Pv C (acc ++ [y])) :
    ∃ acc', (F s (upd C D (.lst acc))) D = some (.lst acc') ∧ acc'.length < sizeLine ∧ LcN F ok B D Pv (upd (F s (upd C D (.lst acc))) D (.lst (acc' ++ [y]))) := by
  obtain ⟨e1, e2⟩ := T.write s _ D (.lst (acc ++ [y])) (.lst acc) k upd_same
  rw [upd_upd] at e1 e2
  exact ⟨acc, T.get _ _ _ _ k upd_same, small hz, s, C, acc ++ [y], e1, e2, hD, hS, h⟩
variable {σ : L2.St} {g : TG} {tt : TT} {te : TE} {vs : List Nat} {Q : Addr → Hp → Prop}
theorem lcT_range {s0 : S} {B : Hp} (k : ok s0 B) {n : Int} (h1 : -4611686018427387904 ≤ n) (h2 : n < 4611686018427387904) (Pv : Nat → Hp → List V → Prop) (h0 : Pv 0 B [])
    (hs : ∀ D i s C acc, ok s (upd C D (.lst acc)) → C D = none → Same B C → i < n.toNat → Pv i C acc → g (.int i) (wipe σ vs) (F s (upd C D (.lst acc))) fun σ2 H2 => wipe σ2 vs = wipe σ vs ∧ tt σ2 H2 fun b H3 =>
      if b = true then te σ2 H3 fun y H4 => ∃ acc', H4 D = some (.lst acc') ∧ acc'.length < sizeLine ∧ LcN F ok B D (Pv (i + 1)) (upd H4 D (.lst (acc' ++ [y]))) else LcN F ok B D (Pv (i + 1)) H3)
    (hd : ∀ D s C acc, ok s (upd C D (.lst acc)) → B D = none → C D = none → Same B C → Pv n.toNat C acc → Q D (F s (upd C D (.lst acc)))) :
    ∃ j : Int, [V.int n] = [.int j] ∧ -(2 ^ 62) ≤ j ∧ j < 2 ^ 62 ∧ ∀ D, (F s0 B) D = none → ∃ W : Nat → Nat → Hp → Prop, (∃ m, W 0 m (upd (F s0 B) D (.lst []))) ∧ ∀ i m H, W i m H →
      ((Itr 0 j.toNat).stop i H ∧ Q D H) ∨ ((Itr 0 j.toNat).go i H ∧ ∃ Nx : Hp → Prop, (∀ H', Nx H' → ∃ m', m' < m ∧ W (i + 1) m' H') ∧ ∀ x H', (Itr 0 j.toNat).yld i H x H' → g x (wipe σ vs) H' fun σ2 H2 => wipe σ2 vs = wipe σ vs ∧ tt σ2 H2 fun b H3 =>
        if b = true then te σ2 H3 fun y H4 => ∃ acc, H4 D = some (.lst acc) ∧ acc.length < sizeLine ∧ Nx (upd H4 D (.lst (acc ++ [y]))) else Nx H3) := by
  refine ⟨n, rfl, h1, h2, fun D hD => ?_⟩
  obtain ⟨hB, hn⟩ := T.new s0 B D k hD
  refine lc_range (fun i H => LcN F ok B D (Pv i) H) ?_ ?_ ?_
  · rw [(hn _).1]
    exact ⟨s0, B, [], rfl, (hn _).2, hB, Same.refl B, h0⟩
  · rintro i H hi ⟨s, C, acc, rfl, k', hD', hS, hp⟩
    rw [Int.zero_add]
    exact hs D i s C acc k' hD' hS hi hp
  · rintro H ⟨s, C, acc, rfl, k', hD', hS, hp⟩
    exact hd D s C acc k' hB hD' hS hp
theorem lcT_list {K : PySem.W.Frag} {s0 : S} {B : Hp} (k : ok s0 B) {a : Addr} {xs : List V} (ha : B a = some (.lst xs)) (Pv : Nat → Hp → List V → Prop) (h0 : Pv 0 B [])
    (hs : ∀ D i x s C acc, ok s (upd C D (.lst acc)) → C D = none → Same B C → xs[i]? = some x → Pv i C acc → g x (wipe σ vs) (F s (upd C D (.lst acc))) fun σ2 H2 => wipe σ2 vs = wipe σ vs ∧ tt σ2 H2 fun b H3 =>
      if b = true then te σ2 H3 fun y H4 => ∃ acc', H4 D = some (.lst acc') ∧ acc'.length < sizeLine ∧ LcN F ok B D (Pv (i + 1)) (upd H4 D (.lst (acc' ++ [y]))) else LcN F ok B D (Pv (i + 1)) H3)
    (hd : ∀ D s C acc, ok s (upd C D (.lst acc)) → B D = none → C D = none → Same B C → Pv xs.length C acc → Q D (F s (upd C D (.lst acc)))) :
    ∃ b, V.ref a = .ref b ∧ (∃ xs, SqL K (F s0 B) b xs) ∧ ∀ D, (F s0 B) D = none → ∃ W : Nat → Nat → Hp → Prop, (∃ m, W 0 m (upd (F s0 B) D (.lst []))) ∧ ∀ i m H, W i m H →
      ((Itl K b).stop i H ∧ Q D H) ∨ ((Itl K b).go i H ∧ ∃ Nx : Hp → Prop, (∀ H', Nx H' → ∃ m', m' < m ∧ W (i + 1) m' H') ∧ ∀ x H', (Itl K b).yld i H x H' → g x (wipe σ vs) H' fun σ2 H2 => wipe σ2 vs = wipe σ vs ∧ tt σ2 H2 fun b H3 =>
        if b = true then te σ2 H3 fun y H4 => ∃ acc, H4 D = some (.lst acc) ∧ acc.length < sizeLine ∧ Nx (upd H4 D (.lst (acc ++ [y]))) else Nx H3) := by
  refine ⟨a, rfl, ⟨xs, SqL.of (T.get _ _ _ _ k ha)⟩, fun D hD => ?_⟩
  obtain ⟨hB, hn⟩ := T.new s0 B D k hD
  refine lc_list (xs := xs) (fun i H => LcN F ok B D (Pv i) H) ?_ ?_ ?_ ?_
  · rw [(hn _).1]
    exact ⟨s0, B, [], rfl, (hn _).2, hB, Same.refl B, h0⟩
  · rintro i H _ ⟨s, C, acc, rfl, k', hD', hS, hp⟩
    exact SqL.of (T.get _ _ _ _ k' (upd_old hD' (hS _ _ ha)))
  · rintro i x H hx ⟨s, C, acc, rfl, k', hD', hS, hp⟩
    exact hs D i x s C acc k' hD' hS hx hp
  · rintro H ⟨s, C, acc, rfl, k', hD', hS, hp⟩
    exact hd D s C acc k' hB hD' hS hp
end
section
variable {σ : L2.St} {H : Hp} {Q : VK}
theorem r_lc {wi : TI} {g : TG} {tt : TT} {te : TE} {vs : List Nat} (h : wi σ H fun J H1 => ∀ D, H1 D = none → ∃ W : Nat → Nat → Hp → Prop, (∃ m, W 0 m (upd H1 D (.lst []))) ∧ ∀ i m H, W i m H →
  (J.stop i H ∧ Q (.ref D) H) ∨ (J.go i H ∧ ∃ Nx : Hp → Prop, (∀ H', Nx H' → ∃ m', m' < m ∧ W (i + 1) m' H') ∧ ∀ x H', J.yld i H x H' → g x (wipe σ vs) H' fun σ2 H2 => wipe σ2 vs = wipe σ vs ∧ tt σ2 H2 fun b H3 =>
    if b = true then te σ2 H3 fun y H4 => ∃ acc, H4 D = some (.lst acc) ∧ acc.length < sizeLine ∧ Nx (upd H4 D (.lst (acc ++ [y]))) else Nx H3)) : tLc wi g tt te vs σ H Q := h
theorem r_yes {q : Bool → Hp → Prop} (h : q true H) : tYes σ H q := h
end
/-! ### rows of ints -/
def Rw (C : Hp) (as : List Addr) (rs : List (List Int)) : Prop := as.length = rs.length ∧ ∀ (i : Nat) (b : Addr), as[i]? = some b → ∃ r, rs[i]? = some r ∧ C b = some (.lst (r.map V.int))
theorem Rw.nil {C : Hp} : Rw C [] [] := ⟨rfl, fun i b h => by simp at h⟩
theorem Rw.mono {C C' : Hp} {as : List Addr} {rs : List (List Int)} (h : Rw C as rs) (s : Same C C') : Rw C' as rs :=
  ⟨h.1, fun i b e => by obtain ⟨r, h1, h2⟩ := h.2 i b e; exact ⟨r, h1, s _ _ h2⟩⟩
theorem Rw.push {C : Hp} {as : List Addr} {rs : List (List Int)} {b : Addr} {r : List Int} (h : Rw C as rs) (e : C b = some (.lst (r.map V.int))) : Rw C (as ++ [b]) (rs ++ [r]) := by
  refine ⟨by rw [List.length_append, List.length_append, h.1]; rfl, fun i c hc => ?_⟩
  by_cases hi : i < as.length
  · rw [List.getElem?_append_left hi] at hc
    obtain ⟨r', h1, h2⟩ := h.2 i c hc
    exact ⟨r', by rw [List.getElem?_append_left (by rw [← h.1]; exact hi)]; exact h1, h2⟩
  · have h3 := (List.getElem?_eq_some_iff.mp hc).1
    rw [List.length_append, List.length_singleton] at h3
    have e2 : i = as.length := by omega
    rw [e2, List.getElem?_append_right (Nat.le_refl _), Nat.sub_self] at hc
    have e3 : b = c := Option.some.inj hc
    refine ⟨r, ?_, e3 ▸ e⟩
    rw [e2, h.1, List.getElem?_append_right (Nat.le_refl _), Nat.sub_self]; rfl
theorem Rw.set {C : Hp} {as : List Addr} {rs : List (List Int)} {b : Addr} {r : List Int} (h : Rw C as rs) (j : Nat) (e : C b = some (.lst (r.map V.int))) : Rw C (as.set j b) (rs.set j r) := by
  refine ⟨by rw [List.length_set, List.length_set, h.1], fun i c hc => ?_⟩
  rw [List.getElem?_set] at hc
  split at hc
  · rename_i hj
    split at hc
    · rename_i hl
      refine ⟨r, ?_, (Option.some.inj hc) ▸ e⟩
      rw [List.getElem?_set, if_pos hj, if_pos (by rw [← h.1]; exact hl)]
    · cases hc
  · rename_i hj
    obtain ⟨r', h1, h2⟩ := h.2 i c hc
    exact ⟨r', by rw [List.getElem?_set, if_neg hj]; exact h1, h2⟩
/-- a row of places below n, at most L of them, each once -/
def Gd (n : Int) (L : Nat) (r : List Int) : Prop := r.length ≤ L ∧ r.Nodup ∧ ∀ e ∈ r, 0 ≤ e ∧ e < n
def Wf (n L : Nat) (rs : List (List Int)) : Prop := rs.length = n ∧ ∀ r ∈ rs, Gd (n : Int) L r
end Lw
namespace Lw
open PySem PySem.Spec PyProof.Rows L2
/-- a list that was made (y at D2) below one that is under way (x at D1) -/
theorem under {C1 C2 : Hp} {D1 D2 : Addr} {x y : HO} (h1 : C1 D1 = none) (h2 : (upd C1 D1 x) D2 = none) (hS : Same (upd C1 D1 x) C2) :
    ∃ C3, upd C2 D2 y = upd C3 D1 x ∧ C3 D1 = none ∧ Same C1 C3 ∧ C3 D2 = some y ∧ C1 D2 = none ∧ D2 ≠ D1 := by
  obtain ⟨n1, n2⟩ := upd_none h2
  obtain ⟨C3, e, e1, e2⟩ := lay_same h1 hS
  refine ⟨upd C3 D2 y, ?_, by rw [upd_ne n1.symm]; exact e1, fun b o hb => ?_, upd_same, n2, n1⟩
  · rw [e, upd_comm n1.symm]
  · rw [upd_ne (ne_of_none hb n2)]; exact e2 _ _ hb
theorem ints_push (r : List Int) (z : Int) : r.map V.int ++ [.int z] = (r ++ [z]).map V.int := by rw [List.map_append]; rfl
theorem refs_push (r : List Addr) (z : Addr) : r.map V.ref ++ [.ref z] = (r ++ [z]).map V.ref := by rw [List.map_append]; rfl
theorem wf_push {n : Int} {L : Nat} {rs : List (List Int)} {r : List Int} (h : ∀ r ∈ rs, Gd n L r) (h1 : Gd n L r) : ∀ r' ∈ rs ++ [r], Gd n L r' := fun r' hr => by
  rcases List.mem_append.mp hr with e | e
  · exact h r' e
  · rw [List.mem_singleton.mp e]; exact h1
/-- a row that is grown by something greater -/
def Up (n : Int) (j : Nat) (r : List Int) : Prop := r.length ≤ j ∧ r.Nodup ∧ (∀ e ∈ r, 0 ≤ e ∧ e < n) ∧ ∀ e ∈ r, e < (j : Int)
theorem Up.nil {n : Int} : Up n 0 [] := ⟨Nat.le_refl _, List.nodup_nil, (fun e he => nomatch he), (fun e he => nomatch he)⟩
theorem Up.skip {n : Int} {j : Nat} {r : List Int} (h : Up n j r) : Up n (j + 1) r := ⟨by have := h.1; omega, h.2.1, h.2.2.1, fun e he => by have := h.2.2.2 e he; omega⟩
theorem nodup_push {α : Type} {r : List α} {z : α} (h : r.Nodup) (hz : z ∉ r) : (r ++ [z]).Nodup := by
  rw [List.nodup_append]
  exact ⟨h, by simp, fun a ha b hb e => hz (by rw [← List.mem_singleton.mp hb, ← e]; exact ha)⟩
theorem Up.push {n : Int} {j : Nat} {r : List Int} (h : Up n j r) (hj : (j : Int) < n) : Up n (j + 1) (r ++ [(j : Int)]) := by
  refine ⟨by rw [List.length_append, List.length_singleton]; have := h.1; omega, nodup_push h.2.1 fun hm => ?_, fun e he => ?_, fun e he => ?_⟩
  · have := h.2.2.2 _ hm; omega
  · rcases List.mem_append.mp he with q | q
    · exact h.2.2.1 e q
    · rw [List.mem_singleton.mp q]; omega
  · rcases List.mem_append.mp he with q | q
    · have := h.2.2.2 e q; omega
    · rw [List.mem_singleton.mp q]; omega
theorem Up.gd {n : Int} {j L : Nat} {r : List Int} (h : Up n j r) (hj : j ≤ L) : Gd n L r := ⟨by have := h.1; omega, h.2.1, h.2.2.1⟩
theorem Gd.weak {n : Int} {L L' : Nat} {r : List Int} (h : Gd n L r) (hl : L ≤ L') : Gd n L' r := ⟨Nat.le_trans h.1 hl, h.2⟩
theorem all_push {P : Int → Prop} {r : List Int} {z : Int} (h : ∀ e ∈ r, P e) (hz : P z) : ∀ e ∈ r ++ [z], P e := fun e he => by
  rcases List.mem_append.mp he with q | q
  · exact h e q
  · rw [List.mem_singleton.mp q]; exact hz
end Lw
namespace Lw
open PySem PySem.Spec PyProof.Rows L2
section
variable {S : Type} {F : S → Hp → Hp} {ok : S → Hp → Prop} (T : TopOk F ok)
include T
theorem newT_eq {s : S} {C : Hp} {p : Addr} (k : ok s C) (hp : F s C p = none) (o : HO) : upd (F s C) p o = F s (upd C p o) ∧ ok s (upd C p o) ∧ C p = none := by
  obtain ⟨h1, h2⟩ := T.new s C p k hp
  exact ⟨(h2 o).1, (h2 o).2, h1⟩
theorem newTD_eq {s : S} {C : Hp} {D p : Addr} {x : HO} (k : ok s (upd C D x)) (hD : C D = none) (hp : F s (upd C D x) p = none) (o : HO) :
    upd (F s (upd C D x)) p o = F s (upd (upd C p o) D x) ∧ ok s (upd (upd C p o) D x) ∧ (upd C p o) D = none ∧ C p = none ∧ p ≠ D := by
  obtain ⟨h1, h2⟩ := T.new s (upd C D x) p k hp
  obtain ⟨h3, h4⟩ := upd_none h1
  have e := h2 o
  rw [upd_comm h3.symm] at e
  exact ⟨e.1, e.2, by rw [upd_ne h3.symm]; exact hD, h4, h3⟩
theorem setTD_eq {s : S} {C : Hp} {D : Addr} {x : HO} (k : ok s (upd C D x)) (y : HO) : upd (F s (upd C D x)) D y = F s (upd C D y) ∧ ok s (upd C D y) := by
  have e := T.write s _ D y x k upd_same
  rw [upd_upd] at e
  exact e
end
theorem refsSet (l : List Addr) (j : Nat) (x : Addr) : (l.map V.ref).set j (.ref x) = (l.set j x).map V.ref := by rw [List.map_set]
theorem refsRev (l : List Addr) : (l.map V.ref).reverse = l.reverse.map V.ref := by rw [List.map_reverse]
theorem Rw.rev {C : Hp} {as : List Addr} {rs : List (List Int)} (h : Rw C as rs) : Rw C as.reverse rs.reverse := by
  refine ⟨by rw [List.length_reverse, List.length_reverse, h.1], fun i b e => ?_⟩
  have hi := (List.getElem?_eq_some_iff.mp e).1
  rw [List.length_reverse] at hi
  rw [List.getElem?_reverse hi] at e
  obtain ⟨r, h1, h2⟩ := h.2 _ b e
  exact ⟨r, by rw [List.getElem?_reverse (by rw [← h.1]; exact hi), ← h.1]; exact h1, h2⟩
theorem Rw.at {C : Hp} {as : List Addr} {rs : List (List Int)} {i : Nat} {x : V} (h : Rw C as rs) (e : (as.map V.ref)[i]? = some x) : ∃ b r, x = .ref b ∧ as[i]? = some b ∧ rs[i]? = some r ∧ C b = some (.lst (r.map V.int)) := by
  rw [List.getElem?_map] at e
  cases q : as[i]? with
  | none => rw [q] at e; cases e
  | some b =>
    rw [q] at e
    obtain ⟨r, h1, h2⟩ := h.2 i b q
    exact ⟨b, r, (Option.some.inj e).symm, rfl, h1, h2⟩
theorem ints_at {r : List Int} {i : Nat} {x : V} (e : (r.map V.int)[i]? = some x) : ∃ z, x = .int z ∧ r[i]? = some z := by
  rw [List.getElem?_map] at e
  cases q : r[i]? with
  | none => rw [q] at e; cases e
  | some z => rw [q] at e; exact ⟨z, (Option.some.inj e).symm, rfl⟩
theorem r_revL {K : PySem.W.Frag} {σ : L2.St} {H : Hp} {Q : VK} {te : TE} (h : te σ H fun x H1 => ∃ a xs, x = .ref a ∧ SqL K H1 a xs ∧ ∀ p, H1 p = none → Q (.ref p) (upd H1 p (.lst xs.reverse))) : tRevL K te σ H Q := h
theorem r_isrev {K : PySem.W.Frag} {H : Hp} {a : Addr} {xs : List V} {q : List V → Prop} (h : H a = some (.lst xs)) (hq : q xs) : ∃ b ys, V.ref a = .ref b ∧ SqL K H b ys ∧ q ys := ⟨a, xs, rfl, SqL.of h, hq⟩
end Lw
namespace Lw
open PySem PySem.Spec PyProof.Rows L2
/-! ### the rules with the written part named (so that they stand within a comprehension's block) -/
section
variable {X : Cx} {K : PySem.W.Frag} {tg : Expr}
theorem pi_listK (h : X.K = K) {l : Expr} {tl : TE} (hl : PE X l tl) : PI X tg l (iList K tl) := by subst h; exact pi_list hl
theorem pi_tupK (h : X.K = K) {l : Expr} {tl : TE} (hl : PE X l tl) : PI X tg l (iTup K tl) := by subst h; exact pi_tup hl
theorem pi_enumK (h : X.K = K) {e : Expr} {ta : TA} {p pos tpos : Pos} {elts : List Expr} {kk : Nat} (hg : Gl X "enumerate") (hm : X.mg "enumerate" = none) (ha : PA X [e] ta) (hs : starEach [e] X.env = [(false, eval e X.env)] := by rfl) :
    PI X (.Tuple elts kk tpos) (.Call (.Name "enumerate" p) [e] [] pos) (iEnum K ta) := by subst h; exact pi_enum hg hm ha hs
theorem pi_zipK (h : X.K = K) {e e2 : Expr} {ta : TA} {p pos tpos : Pos} {elts : List Expr} {kk : Nat} (hg : Gl X "zip") (hm : X.mg "zip" = none) (ha : PA X [e, e2] ta)
    (hs : starEach [e, e2] X.env = (false, eval e X.env) :: starEach [e2] X.env := by rfl) (hpl : (backTo pos (starEach [e2] X.env)).any (·.1) = false := by rfl) :
    PI X (.Tuple elts kk tpos) (.Call (.Name "zip" p) [e, e2] [] pos) (iZip K ta) := by subst h; exact pi_zip hg hm ha hs hpl
theorem pi_reversedK (h : X.K = K) {e : Expr} {ta : TA} {p pos : Pos} (hg : Gl X "reversed") (hm : X.mg "reversed" = none) (ha : PA X [e] ta) (hs : starEach [e] X.env = [(false, eval e X.env)] := by rfl) : PI X tg (.Call (.Name "reversed" p) [e] [] pos) (iRev K ta) := by subst h; exact pi_reversed hg hm ha hs
theorem ix_listK (h : X.K = K) : IxR X (rIxL K) := by subst h; exact ix_list
theorem ix_tupK (h : X.K = K) : IxR X (rIxT K) := by subst h; exact ix_tup
theorem sl_listK (h : X.K = K) : SlR X (rSlL K) := by subst h; exact sl_list
theorem sl_tupK (h : X.K = K) : SlR X (rSlT K) := by subst h; exact sl_tup
theorem op_in_seqK (h : X.K = K) : OpR X (compareOp .In) (rIn K false) := by subst h; exact op_in_seq
theorem op_notIn_seqK (h : X.K = K) : OpR X (compareOp .NotIn) (rIn K true) := by subst h; exact op_notIn_seq
theorem op_eqDK (h : X.K = K) (hu : X.A.units + 64 < cLine) : OpR X (compareOp .Eq) (rEqD K) := by subst h; exact op_eqD hu
theorem op_neDK (h : X.K = K) (hu : X.A.units + 64 < cLine) : OpR X (compareOp .NotEq) (rNeD K) := by subst h; exact op_neD hu
theorem op_catTK (h : X.K = K) : OpR X (binaryOp .Add) (rCatT K) := by subst h; exact op_catT
def rLen (K : PySem.W.Frag) : List V → Hp → VK → Prop := fun xs H Q => ∃ p ys, xs = [V.ref p] ∧ (SqL K H p ys ∨ SqT K H p ys) ∧ Q (.int ys.length) H
theorem call_len_seqK (h : X.K = K) : CallR X (.builtin "len") (rLen K) := by subst h; exact call_len_seq
def rListOf (K : PySem.W.Frag) : List V → Hp → VK → Prop := fun xs H Q => ∃ p ys, xs = [V.ref p] ∧ (SqL K H p ys ∨ SqT K H p ys) ∧ ∀ l, H l = none → Q (.ref l) (upd H l (.lst ys))
theorem call_list_ofK (h : X.K = K) : CallR X (.type "list") (rListOf K) := by subst h; exact call_list_of
theorem cr_sumK (h : X.K = K) (hc : X.calm = true) : CallR X (.builtin "sum") (rSum K) := by subst h; exact cr_sum hc
theorem cr_maxK (h : X.K = K) (hc : X.calm = true) : CallR X (.builtin "max") (rMax K) := by subst h; exact cr_max hc
theorem cr_minK (h : X.K = K) (hc : X.calm = true) : CallR X (.builtin "min") (rMin K) := by subst h; exact cr_min hc
theorem cr_sortedK (h : X.K = K) : CallR X (.builtin "sorted") (rSortedI K) := by subst h; exact cr_sortedI
theorem cr_sortedSK (h : X.K = K) : CallR X (.builtin "sorted") (rSortedS K) := by subst h; exact cr_sortedS
theorem cr_anyK (h : X.K = K) (hc : X.calm = true) : CallR X (.builtin "any") (rAny K) := by subst h; exact cr_any hc
theorem cr_allK (h : X.K = K) (hc : X.calm = true) : CallR X (.builtin "all") (rAll K) := by subst h; exact cr_all hc
theorem call_isiK' (h : X.K = K) : CallR X (.builtin "isinstance") (rIsi K) := by subst h; exact call_isi
theorem mt_indexK (h : X.K = K) : MtR X "list.index" (rIndex K) := by subst h; exact mt_index
def rInsert : V → List V → Hp → VK → Prop := fun x vs H Q => ∃ (l : Addr) (xs : List V) (i : Int) (y : V), x = .ref l ∧ vs = [.int i, y] ∧ H l = some (.lst xs) ∧ xs.length < sizeLine ∧ 0 ≤ i ∧ i < 2 ^ 63 ∧
    Q .non (upd H l (.lst (xs.take i.toNat ++ [y] ++ xs.drop i.toNat)))
theorem mt_insert' : MtR X "list.insert" rInsert := mt_insert
theorem pg_tupK (h : X.K = K) {pos : Pos} {es : List Expr} {k : Nat} {t : TGs} {n : Nat} (hc : X.calm = true) (hp : PGs X es t)
    (hn : (assignEach es X.env).length = n := by rfl) (hst : (assignEach es X.env).findIdx? (·.1) = none := by rfl) : PG X (.Tuple es k pos) (gTup K n t) := by subst h; exact pg_tup hc hp hn hst
theorem pe_revLK (h : X.K = K) {e : Expr} {te : TE} {k : Nat} {p1 p2 p3 pos : Pos} (he : PE X e te) : PE X (.Subscript e (.Slice none none (some (.UnaryOp .USub (.Constant (.int 1) k p1) p2)) p3) pos) (tRevL K te) := by subst h; exact pe_revL he
theorem pt_truthK (h : X.K = K) {a : Expr} {ta : TE} (ha : PE X a ta) (he : ∀ whole, isTrue a X.env whole = (do let v ← whole; standAt a.pos; holding [v] (truthy v))) :
    PT X a (fun σ H Q => ta σ H fun x H1 => ∃ k, TruV K x H1 k ∧ Q k H1) := by subst h; exact pt_truth ha he
/-- xs[i] read for xs[i] op= e -/
theorem get_listK (h : X.K = K) : PGet X (rIxL K) := by
  subst h
  intro pins s σ H o i ov iv Q I rx ry h
  obtain ⟨p, xs, i, z, rfl, rfl, hq, he, q⟩ := h
  cases rx
  obtain ⟨t, rfl⟩ := ry
  obtain ⟨its, r, pl, hz⟩ := I.list hq
  obtain ⟨j, h1, h2, h3, h4, h5⟩ := atI_get he
  obtain ⟨w, ew, rw'⟩ := r.get h2
  have hl := r.length
  have hn := line63
  have fin : EP X pins σ Q w s := ⟨z, H, I, rw', q⟩
  by_cases h0 : 0 ≤ i
  · have hj : i.toNat = j := by
      rw [seqIndex_of h0 h5] at h1
      exact Option.some.inj h1
    exact wpAny_getItem_list pl.isList h0 (by omega) (by rw [hj]; simpa using ew) fin
  · have hj : (i + (its.toArray.size : Int)).toNat = j := by
      rw [seqIndex_neg (by omega) h4] at h1
      rw [List.size_toArray, ← hl]
      exact Option.some.inj h1
    exact wpAny_getItem_list_neg pl.isList (by omega) (by rw [List.size_toArray] <;> omega) (by omega) (by rw [hj]; simpa using ew) fin
theorem pe_bm0K (h : X.K = K) {o : Expr} {to : TE} {name : Str} {apos cpos : Pos} {T id : String} {r : V → List V → Hp → VK → Prop} (pa : PlainAttrs T) (slot : Slot T name id) (hty : typeOf (.builtin id) = pure (.type "method_descriptor")) (hm : MtR X id r) (ho : PE X o to)
    (hbase : attributeBase o name X.env (eval o X.env) = eval o X.env := by rfl) (hline : (apos.endLine == cpos.line) = true := by rfl) : PE X (.Call (.Attribute o name apos) [] [] cpos) (tBM0 K T r to) := by subst h; exact pe_bm0 pa slot hty hm ho hbase hline
theorem pe_bmK (h : X.K = K) {o e : Expr} {es : List Expr} {to : TE} {t : TA} {name : Str} {apos cpos : Pos} {T id : String} {r : V → List V → Hp → VK → Prop} (pa : PlainAttrs T) (slot : Slot T name id) (hty : typeOf (.builtin id) = pure (.type "method_descriptor")) (hm : MtR X id r) (ho : PE X o to) (ha : PA X (e :: es) t)
    (hbase : attributeBase o name X.env (eval o X.env) = eval o X.env := by rfl)
    (hfew : ((backTo cpos (starEach (e :: es) X.env)).all (fun x => !x.1) && (backToKw cpos (keywordEach [] X.env)).all (fun x => x.1.isSome)
      && decide ((e :: es).length + ([] : List Keyword).length + (if ([] : List Keyword).isEmpty then 0 else 1) < 30)) = true := by rfl)
    (hline : (apos.endLine == cpos.line) = true := by rfl) (hs : starEach (e :: es) X.env = (false, eval e X.env) :: starEach es X.env := by rfl) (hplain : (backTo cpos (starEach es X.env)).any (·.1) = false := by rfl) :
    PE X (.Call (.Attribute o name apos) (e :: es) [] cpos) (tBM K T r to t) := by subst h; exact pe_bm pa slot hty hm ho ha hbase hfew hline hs hplain
end
section
variable {K : PySem.W.Frag} {H : Hp} {Q : VK}
theorem r_lenK {a : Addr} {xs : List V} (h : H a = some (.lst xs)) (q : Q (.int xs.length) H) : rLen K [.ref a] H Q := ⟨a, xs, rfl, .inl (SqL.of h), q⟩
theorem r_lenT {a : Addr} {xs : List V} (h : H a = some (.tup xs)) (q : Q (.int xs.length) H) : rLen K [.ref a] H Q := ⟨a, xs, rfl, .inr (SqT.of h), q⟩
theorem r_listOf {a : Addr} {xs : List V} (h : H a = some (.lst xs)) (q : ∀ l, H l = none → Q (.ref l) (upd H l (.lst xs))) : rListOf K [.ref a] H Q := ⟨a, xs, rfl, .inl (SqL.of h), q⟩
theorem r_sortedI {a : Addr} {ns : List Int} (h : H a = some (.lst (ns.map V.int))) (q : ∀ (ns' : List Int) (p : Addr), ns'.Perm ns → ns'.Pairwise (· ≤ ·) → H p = none → Q (.ref p) (upd H p (.lst (ns'.map V.int)))) : rSortedI K [.ref a] H Q := ⟨a, ns, rfl, SqL.of h, q⟩
theorem r_sum {a : Addr} {ns : List Int} (h : H a = some (.lst (ns.map V.int))) (q : Q (.int ns.sum) H) : rSum K [.ref a] H Q := ⟨a, ns, rfl, SqL.of h, q⟩
theorem r_insert {l : Addr} {xs : List V} {i : Int} {y : V} (h : H l = some (.lst xs)) (hz : xs.length < sizeLine) (h0 : 0 ≤ i) (h1 : i < 9223372036854775808) (q : Q .non (upd H l (.lst (xs.take i.toNat ++ [y] ++ xs.drop i.toNat)))) : rInsert (.ref l) [.int i, y] H Q := ⟨l, xs, i, y, rfl, rfl, h, hz, h0, h1, q⟩
end
end Lw
namespace Lw
theorem nodup_le1 {α : Type} {r : List α} (h : r.length ≤ 1) : r.Nodup := by
  match r, h with
  | [], _ => exact List.nodup_nil
  | [x], _ => simp
theorem nodup_of_map {α β : Type} {f : α → β} {l : List α} (h : (l.map f).Nodup) : l.Nodup := by
  induction l with
  | nil => exact List.nodup_nil
  | cons a r ih =>
    rw [List.map_cons, List.nodup_cons] at h
    exact List.nodup_cons.mpr ⟨fun hm => h.1 (List.mem_map.mpr ⟨a, hm, rfl⟩), ih h.2⟩
theorem nodup_map {α β : Type} {f : α → β} (hf : ∀ x y, f x = f y → x = y) {l : List α} (h : l.Nodup) : (l.map f).Nodup := by
  induction l with
  | nil => exact List.nodup_nil
  | cons a r ih =>
    rw [List.nodup_cons] at h
    rw [List.map_cons, List.nodup_cons]
    refine ⟨fun hm => ?_, ih h.2⟩
    obtain ⟨b, hb, e⟩ := List.mem_map.mp hm
    exact h.1 (hf _ _ e ▸ hb)
theorem nodup_lt {l : List Int} (h : l.Pairwise (· < ·)) : l.Nodup := h.imp fun {a b} q => Int.ne_of_lt q
theorem nodup_take {α : Type} {l : List α} (n : Nat) (h : l.Nodup) : (l.take n).Nodup := h.sublist (List.take_sublist n l)
end Lw
/-! lists of ints and lists of lists of ints as data, for == -/
namespace Lw
open PySem PySem.Spec PyProof.Rows L2
def dI (xs : List Int) : PyData := .list (xs.map PyData.int)
def dR (rs : List (List Int)) : PyData := .list (rs.map dI)
section
variable {K : PySem.W.Frag} {H : Hp}
theorem dpAllI : ∀ xs : List Int, DpAll K H (xs.map V.int) (xs.map PyData.int)
  | [] => .nil
  | x :: r => .cons (.int x) (dpAllI r)
theorem dpI {a : Addr} {xs : List Int} (h : H a = some (.lst (xs.map V.int))) : Dp K H (.ref a) (dI xs) := .lst (SqL.of h) (dpAllI xs)
theorem dpAllR : ∀ {as : List Addr} {rs : List (List Int)}, Rw H as rs → DpAll K H (as.map V.ref) (rs.map dI)
  | [], [], _ => .nil
  | [], _ :: _, h => by have := h.1; simp at this
  | _ :: _, [], h => by have := h.1; simp at this
  | a :: as, r :: rs, h => by
    obtain ⟨r', h1, h2⟩ := h.2 0 a rfl
    have e : r = r' := Option.some.inj h1
    refine .cons (dpI (by rw [e]; exact h2)) (dpAllR ⟨by have := h.1; simpa using this, fun i b hb => ?_⟩)
    obtain ⟨r2, h3, h4⟩ := h.2 (i + 1) b hb
    exact ⟨r2, h3, h4⟩
theorem dpR {a : Addr} {as : List Addr} {rs : List (List Int)} (h : H a = some (.lst (as.map V.ref))) (hr : Rw H as rs) : Dp K H (.ref a) (dR rs) := .lst (SqL.of h) (dpAllR hr)
end
theorem layI : ∀ xs : List Int, PyData.canLayAll0 (xs.map PyData.int) = true
  | [] => rfl
  | x :: r => by
    show (true && PyData.canLayAll0 (r.map PyData.int)) = true
    rw [layI r]; rfl
theorem layR : ∀ rs : List (List Int), PyData.canLayAll0 (rs.map dI) = true
  | [] => rfl
  | x :: r => by
    show (PyData.canLay0 (dI x) && PyData.canLayAll0 (r.map dI)) = true
    rw [layR r]
    show (PyData.canLayAll0 (x.map PyData.int) && true) = true
    rw [layI x]; rfl
theorem eqI : ∀ xs ys : List Int, PyData.eqvAll (xs.map PyData.int) (ys.map PyData.int) = decide (xs = ys)
  | [], [] => by simp [PyData.eqvAll]
  | [], _ :: _ => by simp [PyData.eqvAll]
  | _ :: _, [] => by simp [PyData.eqvAll]
  | x :: xs, y :: ys => by
    rw [List.map_cons, List.map_cons, PyData.eqvAll, eqI xs ys, PyData.eqv]
    by_cases h : x = y <;> by_cases h2 : xs = ys <;> simp [h, h2]
theorem eqR : ∀ xs ys : List (List Int), PyData.eqvAll (xs.map dI) (ys.map dI) = decide (xs = ys)
  | [], [] => by simp [PyData.eqvAll]
  | [], _ :: _ => by simp [PyData.eqvAll]
  | _ :: _, [] => by simp [PyData.eqvAll]
  | x :: xs, y :: ys => by
    rw [List.map_cons, List.map_cons, PyData.eqvAll, eqR xs ys, show PyData.eqv (dI x) (dI y) = decide (x = y) from by unfold dI; rw [PyData.eqv, eqI]]
    by_cases h : x = y <;> by_cases h2 : xs = ys <;> simp [h, h2]
end Lw
namespace Lw
open PySem PySem.Spec PyProof.Rows L2
theorem depI : ∀ xs : List Int, PyData.depthAll (xs.map PyData.int) = 0
  | [] => by simp [PyData.depthAll]
  | x :: r => by rw [List.map_cons, PyData.depthAll, depI r, PyData.depth]; rfl
theorem depR : ∀ rs : List (List Int), PyData.depthAll (rs.map dI) ≤ 1
  | [] => by simp [PyData.depthAll]
  | x :: r => by
    rw [List.map_cons, PyData.depthAll, show PyData.depth (dI x) = 1 from by unfold dI; rw [PyData.depth, depI]]
    exact Nat.max_le.mpr ⟨Nat.le_refl 1, depR r⟩
theorem shI (xs : List Int) : SeqAt.shaped (dI xs) = true := by
  unfold SeqAt.shaped
  rw [show PyData.canLay0 (dI xs) = true from by unfold dI; rw [PyData.canLay0]; exact layI xs, show PyData.depth (dI xs) = 1 from by unfold dI; rw [PyData.depth, depI]]
  rfl
theorem shR (rs : List (List Int)) : SeqAt.shaped (dR rs) = true := by
  unfold SeqAt.shaped
  rw [show PyData.canLay0 (dR rs) = true from by unfold dR; rw [PyData.canLay0]; exact layR rs]
  have h : PyData.depth (dR rs) ≤ 64 := by unfold dR; rw [PyData.depth]; have := depR rs; omega
  rw [decide_eq_true h]; rfl
section
variable {K : PySem.W.Frag} {σ : L2.St} {H : Hp} {Q : VK} {D : Ends}
theorem r_eqI {a b : Addr} {xs ys : List Int} (h1 : H a = some (.lst (xs.map V.int))) (h2 : H b = some (.lst (ys.map V.int))) (q : Q (.bl (decide (xs = ys))) H) : rEqD K (.ref a) (.ref b) H Q :=
  ⟨dI xs, dI ys, dpI h1, dpI h2, shI xs, shI ys, by unfold dI; rw [PyData.eqv, eqI]; exact q⟩
theorem r_neI {a b : Addr} {xs ys : List Int} (h1 : H a = some (.lst (xs.map V.int))) (h2 : H b = some (.lst (ys.map V.int))) (q : Q (.bl (!decide (xs = ys))) H) : rNeD K (.ref a) (.ref b) H Q :=
  ⟨dI xs, dI ys, dpI h1, dpI h2, shI xs, shI ys, by unfold dI; rw [PyData.eqv, eqI]; exact q⟩
theorem r_eqR {a b : Addr} {as bs : List Addr} {xs ys : List (List Int)} (h1 : H a = some (.lst (as.map V.ref))) (h2 : H b = some (.lst (bs.map V.ref))) (r1 : Rw H as xs) (r2 : Rw H bs ys) (q : Q (.bl (decide (xs = ys))) H) : rEqD K (.ref a) (.ref b) H Q :=
  ⟨dR xs, dR ys, dpR h1 r1, dpR h2 r2, shR xs, shR ys, by unfold dR; rw [PyData.eqv, eqR]; exact q⟩
theorem r_while {c : TT} {tb : TS} (Pv : Nat → L2.St → Hp → Prop) (h0 : ∃ m, Pv m σ H) (hs : ∀ m σ H, Pv m σ H → c σ H fun b H1 => if b = true then ∃ N : L2.St → Hp → Prop, (∀ σ' H', N σ' H' → ∃ m', m' < m ∧ Pv m' σ' H') ∧ tb { D with nx := N, ct := N, bk := D.nx } σ H1 else D.nx σ H1) : tWhile c tb D σ H := ⟨Pv, h0, hs⟩
end
end Lw
/-! enumerate: loops and comprehensions; rows that are written -/
namespace Lw
open PySem PySem.Spec PyProof.Rows L2
section
variable {K : PySem.W.Frag} {σ : L2.St} {H : Hp} {D : Ends} {g : TG} {tb : TS}
theorem r_forE {a : Addr} {xs : List V} (hx : H a = some (.lst xs)) (Pv : Nat → L2.St → Hp → Prop) (h0 : Pv 0 σ H) (hl : ∀ i σ H, i ≤ xs.length → Pv i σ H → H a = some (.lst xs))
    (hs : ∀ i x σ H t, xs[i]? = some x → Pv i σ H → H t = none → g (.ref t) σ (upd H t (.tup [.int (i : Nat), x])) fun σ2 H2 => tb { D with nx := Pv (i + 1), ct := Pv (i + 1), bk := D.nx } σ2 H2) (hd : ∀ σ H, Pv xs.length σ H → D.nx σ H) :
    ∃ b ys, [V.ref a] = [.ref b] ∧ SqL K H b ys ∧ ∃ W : Nat → Nat → L2.St → Hp → Prop, (∃ m, W 0 m σ H) ∧ ∀ i m σ H, W i m σ H →
      ((Ite K b).stop i H ∧ D.nx σ H) ∨ ((Ite K b).go i H ∧ ∃ N : L2.St → Hp → Prop, (∀ σ' H', N σ' H' → ∃ m', m' < m ∧ W (i + 1) m' σ' H') ∧ ∀ x H', (Ite K b).yld i H x H' → g x σ H' fun σ2 H2 => tb { D with nx := N, ct := N, bk := D.nx } σ2 H2) := by
  refine ⟨a, xs, rfl, SqL.of hx, fun i m σ H => m = xs.length - i ∧ i ≤ xs.length ∧ Pv i σ H, ⟨xs.length, by simp, Nat.zero_le _, h0⟩, ?_⟩
  rintro i m σ H ⟨rfl, hi, p⟩
  have q := hl i σ H hi p
  by_cases hlt : i < xs.length
  · refine .inr ⟨⟨xs, xs[i], SqL.of q, by simp [hlt]⟩, Pv (i + 1), fun σ' H' p' => ⟨xs.length - (i + 1), by omega, rfl, hlt, p'⟩, fun x H' y => ?_⟩
    obtain ⟨t, x', rfl, nt, rfl, y⟩ := y
    exact hs i x' σ H t (y xs (SqL.of q)) p nt
  · have e : i = xs.length := by omega
    subst e
    exact .inl ⟨⟨xs, SqL.of q, Nat.le_refl _⟩, hd σ H p⟩
end
section
variable {S : Type} {F : S → Hp → Hp} {ok : S → Hp → Prop} (T : TopOk F ok) {σ : L2.St} {g : TG} {tt : TT} {te : TE} {vs : List Nat} {Q : Addr → Hp → Prop}
include T
theorem lcT_enum {K : PySem.W.Frag} {s0 : S} {B : Hp} (k : ok s0 B) {a : Addr} {xs : List V} (ha : B a = some (.lst xs)) (Pv : Nat → Hp → List V → Prop) (mono : ∀ i C C' acc, Same C C' → Pv i C acc → Pv i C' acc) (h0 : Pv 0 B [])
    (hs : ∀ D i x s C acc t, ok s (upd C D (.lst acc)) → C D = none → Same B C → xs[i]? = some x → C t = some (.tup [.int (i : Nat), x]) → Pv i C acc → g (.ref t) (wipe σ vs) (F s (upd C D (.lst acc))) fun σ2 H2 => wipe σ2 vs = wipe σ vs ∧ tt σ2 H2 fun b H3 =>
      if b = true then te σ2 H3 fun y H4 => ∃ acc', H4 D = some (.lst acc') ∧ acc'.length < sizeLine ∧ LcN F ok B D (Pv (i + 1)) (upd H4 D (.lst (acc' ++ [y]))) else LcN F ok B D (Pv (i + 1)) H3)
    (hd : ∀ D s C acc, ok s (upd C D (.lst acc)) → B D = none → C D = none → Same B C → Pv xs.length C acc → Q D (F s (upd C D (.lst acc)))) :
    ∃ b ys, [V.ref a] = [.ref b] ∧ SqL K (F s0 B) b ys ∧ ∀ D, (F s0 B) D = none → ∃ W : Nat → Nat → Hp → Prop, (∃ m, W 0 m (upd (F s0 B) D (.lst []))) ∧ ∀ i m H, W i m H →
      ((Ite K b).stop i H ∧ Q D H) ∨ ((Ite K b).go i H ∧ ∃ Nx : Hp → Prop, (∀ H', Nx H' → ∃ m', m' < m ∧ W (i + 1) m' H') ∧ ∀ x H', (Ite K b).yld i H x H' → g x (wipe σ vs) H' fun σ2 H2 => wipe σ2 vs = wipe σ vs ∧ tt σ2 H2 fun b H3 =>
        if b = true then te σ2 H3 fun y H4 => ∃ acc, H4 D = some (.lst acc) ∧ acc.length < sizeLine ∧ Nx (upd H4 D (.lst (acc ++ [y]))) else Nx H3) := by
  refine ⟨a, xs, rfl, SqL.of (T.get _ _ _ _ k ha), fun D hD => ?_⟩
  obtain ⟨hB, hn⟩ := T.new s0 B D k hD
  refine ⟨fun i m H => m = xs.length - i ∧ i ≤ xs.length ∧ LcN F ok B D (Pv i) H, ⟨xs.length, by simp, Nat.zero_le _, ?_⟩, ?_⟩
  · rw [(hn _).1]
    exact ⟨s0, B, [], rfl, (hn _).2, hB, Same.refl B, h0⟩
  · rintro i m H ⟨rfl, hi, s, C, acc, rfl, k', hD', hS, hp⟩
    have hA : SqL K (F s (upd C D (.lst acc))) a xs := SqL.of (T.get _ _ _ _ k' (upd_old hD' (hS _ _ ha)))
    by_cases hlt : i < xs.length
    · refine .inr ⟨⟨xs, xs[i], hA, by simp [hlt]⟩, fun H' => LcN F ok B D (Pv (i + 1)) H', fun H' p' => ⟨xs.length - (i + 1), by omega, rfl, hlt, p'⟩, fun x H' y => ?_⟩
      obtain ⟨t, x', rfl, nt, rfl, y⟩ := y
      obtain ⟨e, k2, hD2, n2, ne2⟩ := newTD_eq T k' hD' nt (.tup [.int (i : Nat), x'])
      rw [e]
      exact hs D i x' s _ acc t k2 hD2 (hS.trans (same_new n2)) (y xs hA) upd_same (mono _ _ _ _ (same_new n2) hp)
    · have e : i = xs.length := by omega
      subst e
      exact .inl ⟨⟨xs, hA, Nat.le_refl _⟩, hd D s C acc k' hB hD' hS hp⟩
end
theorem Rw.write {C : Hp} {as : List Addr} {rs : List (List Int)} (h : Rw C as rs) (hn : as.Nodup) {k : Nat} {b : Addr} (hb : as[k]? = some b) (r' : List Int) : Rw (upd C b (.lst (r'.map V.int))) as (rs.set k r') := by
  refine ⟨by rw [List.length_set, h.1], fun i c hc => ?_⟩
  by_cases e : k = i
  · subst e
    rw [hb] at hc
    cases hc
    have hk := (List.getElem?_eq_some_iff.mp hb).1
    exact ⟨r', List.getElem?_set_self (by rw [← h.1]; exact hk), upd_same⟩
  · obtain ⟨r, h1, h2⟩ := h.2 i c hc
    have hne : c ≠ b := fun q => by
      rw [q] at hc
      exact e (nd_ix hn hb hc)
    exact ⟨r, by rw [List.getElem?_set_ne e]; exact h1, by rw [upd_ne hne]; exact h2⟩
theorem r_enumE {K : PySem.W.Frag} {σ : L2.St} {H : Hp} {ta : TA} {R : It → Hp → Prop} (h : ta σ H fun vs H1 => ∃ a xs, vs = [.ref a] ∧ SqL K H1 a xs ∧ R (Ite K a) H1) : iEnum K ta σ H R := h
end Lw
namespace Lw
open PySem PySem.Spec PyProof.Rows L2
theorem r_isi {K : PySem.W.Frag} {H : Hp} {Q : VK} {x : V} {a b : String} {r : Bool} (ty : TyX K H x (.type a)) (k : kitB a b = some r) (q : Q (.bl r) H) : rIsi K [x, .ty b] H Q := ⟨x, .ty b, .type a, .type b, r, rfl, .ty b, ty, kit_ty k, q⟩
end Lw
/-! set(xs) of a list of ints -/
namespace Lw
open PySem PySem.Spec PyProof.Rows L2
section
variable {P : Program} {w : World} {A : Around} {E : Value → Shared → Prop} {s : Shared}
set_option maxHeartbeats 3200000 in
theorem mk_set_of_list {l : Addr} {its : Array Value} (ns : List Int) {Q : Value → Shared → Prop} (hA : A.handled = none) (hL : s.heap.IsList l its) (hI : IntsAre its.toList ns) (room : ns.length + 1 < scanBound)
    (fin : ∀ (h2 : Heap) (tk c : Nat), SetR w h2 s.heap.objs.size (fun j => decide (j ∈ ns)) c → c ≤ ns.length → (∀ b o, s.heap.get? b = some o → h2.get? b = some o) → Q (.ref s.heap.objs.size) { s with heap := h2, toks := tk }) :
    wpAny (model P w) A (call (.type "set") [.ref l]) Q E s := by
  have len : its.size = ns.length := by rw [← Array.length_toList]; exact IntsAre.length hI
  obtain ⟨c0, t0, mro⟩ := PySem.F.called_set.mro
  have u1 := PySem.F.called_set.made
  have u2 := PySem.F.called_set.sub
  have u3 := PySem.F.called_set.notType
  have u4 := PySem.F.called_set.canCreate
  have u5 := PySem.F.typeCall_set_1 (.ref l)
  refine wpAny_call (codeAny_of_tree ?_)
  show wpAny _ _ (callAny (.type "set") _) _ _ _
  refine wpAny_pure ⟨Code.quiet_builtin _ (by decide +kernel), codeAny_builtin PySem.F.entry_type_call ?_⟩
  rw [Around.under_plain (weight_type_call_type "set" [.ref l] []) rfl]
  repeat (any_goals (first | assumption | wp_step))
  -- the empty set is laid
  generalize hN : ({ cls := .type "set", dict := none, data := .set #[] 0 (.fresh 0 0 (!w.params.followText "set-order")) } : Obj) = N
  refine codeAny_mono (code_set_led1 (.ref l) (E := E) (Q₁ := fun x z => x = .ref s.heap.objs.size ∧ z = { s with heap := s.heap.push N }) ⟨rfl, by rw [hN]⟩) fun r z hr => ?_
  match r, hr with
  | .error e, hr => exact hr
  | .ok .next, hr => exact hr.elim
  | .ok .brk, hr => exact hr.elim
  | .ok .cont, hr => exact hr.elim
  | .ok (.ret x), hr =>
    obtain ⟨rfl, rfl⟩ := hr
    have at0 : (s.heap.push N).get? s.heap.objs.size = some N := Heap.get?_push_size _ (by rw [← hN]; rfl)
    have isSet : Shared.TypeIs { s with heap := s.heap.push N } (.ref s.heap.objs.size) "set" := ⟨_, at0, by rw [← hN]⟩
    have v1 := PySem.F.called_set.init.lookup
    have v2 := PySem.F.called_set.init.bind (.ref s.heap.objs.size)
    repeat (any_goals (first | assumption | wp_step))
    refine codeAny_mono (codeAny_call_builtin (R := wants (fun r z => r = .none ∧ ∃ h2 tk c, z = { s with heap := h2, toks := tk } ∧ SetR w h2 s.heap.objs.size (fun j => decide (j ∈ ns)) c ∧ c ≤ ns.length ∧ ∀ b o, s.heap.get? b = some o → h2.get? b = some o) E)
      PySem.F.called_set.init.plain PySem.F.entry_set_init (check_set_init_1 isSet ?_)) fun r z hr => ?_
    · -- the items are laid in, one by one
      subst hN
      obtain ⟨⟨ocl, odi, oda, osl⟩, at1, e1, n1, e2⟩ := id hL
      simp only at e1 e2
      subst e1; subst e2
      have at2 : (s.heap.push { cls := .type "set", dict := none, data := .set #[] 0 (.fresh 0 0 (!w.params.followText "set-order")) }).get? l = some { cls := .type "list", dict := odi, data := .seq its n1, slots := osl } := Heap.get?_push_of_some _ at1
      have x1 := PySem.F.sub_list_set
      have x2 := PySem.F.sub_list_frozenset
      have x3 : (Value.type "list" == Value.type "dict") = false := by decide
      have lst1 : (s.heap.push { cls := .type "set", dict := none, data := .set #[] 0 (.fresh 0 0 (!w.params.followText "set-order")) }).IsList l its := ⟨_, at2, rfl, n1, rfl⟩
      unfold Builtin.«set.__init__» noKeywords Builtin.Frozenset.updateFrom
      generalize hp : pyIter = pit
      wp_walk
      subst hp
      refine wpAny_pyIter_list lst1 ?_
      refine wpAny_bind (wpAny_runValue ?_)
      have below : l < s.heap.objs.size := Heap.lt_size at1
      have size1 : ∀ o, (s.heap.push o).objs.size = s.heap.objs.size + 1 := fun o => Heap.size_push ..
      have nl : ∀ o, l ≠ (s.heap.push o).objs.size := fun o => by rw [size1]; exact Nat.ne_of_lt (Nat.lt_succ_of_lt below)
      have nS : ∀ o, s.heap.objs.size ∉ [(s.heap.push o).objs.size, l] := fun o z => by
        rcases List.mem_cons.mp z with z | z
        · rw [size1] at z; exact absurd z (Nat.ne_of_lt (Nat.lt_succ_self _))
        · exact absurd (List.mem_singleton.mp z) (Nat.ne_of_gt below)
      have vals : ∀ (i : Nat) (v : Value), its[i]? = some v → ∃ k t, ns[i]? = some k ∧ v = .int k t := fun i v hv => by
        have hi : i < ns.length := by rw [← len]; exact (Array.getElem?_eq_some_iff.mp hv).1
        obtain ⟨t, e⟩ := PyProof.Rows.IntsAre.int_at hI i v (by rw [Array.getElem?_toList]; exact hv)
        exact ⟨ns[i], t, List.getElem?_eq_getElem hi, by rw [e, List.getD_eq_getElem?_getD, List.getElem?_eq_getElem hi]; rfl⟩
      refine set_update_ints ((Walks.list (by simp [hA]) _ l (nl _) its).toS) s.heap.objs.size (nS _) ns len room vals (its.size - 0) 0 _ (by omega) (Nat.zero_le _) ⟨⟨_, Heap.get?_push_size _ rfl, rfl, rfl⟩, lst1.push _⟩ ?_ ?_
      · refine ⟨0, Nat.le_refl 0, setR_new_at ?_⟩
        exact Heap.get?_push_of_some _ at0
      · rintro ⟨h3, g3, d3, t3, o3⟩ c mv hc hS
        have q1 : g3 = s.gens := mv.gens
        have q2 : d3 = s.drawn := mv.drawn
        have q3 : o3 = s.os := mv.os
        subst q1 q2 q3
        show wpAny _ _ _ _ _ _
        refine wpAny_pure ?_
        show wpAny _ _ (ret Value.none) _ _ _
        refine wpAny_pure ⟨rfl, h3, t3, c, rfl, hS, by rw [← len]; exact hc, fun b o e => ?_⟩
        have hb := Heap.lt_size e
        refine mv.heap b o (fun z => ?_) (Heap.get?_push_of_some _ (Heap.get?_push_of_some _ e))
        rcases List.mem_cons.mp z with z | z
        · exact absurd z (Nat.ne_of_lt hb)
        · rw [List.mem_singleton.mp z, size1] at hb
          exact absurd hb (Nat.not_lt_of_le (Nat.le_succ _))
    · match r, hr with
      | .error e, hr => exact hr
      | .ok .next, hr => exact hr.elim
      | .ok .brk, hr => exact hr.elim
      | .ok .cont, hr => exact hr.elim
      | .ok (.ret x), hr =>
        obtain ⟨rfl, h3, t3, c, rfl, hS, hc, hk⟩ := hr
        repeat (any_goals (first | assumption | wp_step))
        exact fin _ _ _ hS hc hk
end
/-- set(xs) -/
def rSetOf (w : World) (K : PySem.W.Frag) : List V → Hp → VK → Prop := fun vs H Q => ∃ (a : Addr) (ns : List Int), vs = [V.ref a] ∧ SqL K H a (ns.map V.int) ∧ ns.length ≤ 1000 ∧
  ∀ (c : Nat) (p : Addr), c ≤ ns.length → H p = none → Q (.ref p) (upd H p (SetO w p (fun j => decide (j ∈ ns)) c))
section
variable {X : Cx} {K : PySem.W.Frag} {w : World}
theorem cr_setOf (h : X.K = K) (hw : X.w = w) (hc : X.calm = true) : CallR X (.type "set") (rSetOf w K) := by
  subst h hw
  intro pins s σ H xs us Q I r hq
  obtain ⟨a, ns, rfl, hS, hl, q⟩ := hq
  rw [Vals.ref1 r]
  obtain ⟨its, rv, pl, hz⟩ := I.list hS
  refine mk_set_of_list ns (I.ok.hd hc) pl.isList (by simpa using Vals.ints rv) (by unfold scanBound; omega) fun h2 tk c R hcn keep => ?_
  have hn : H s.heap.objs.size = none := I.hok.fresh (Nat.le_refl _)
  exact ⟨.ref _, upd H s.heap.objs.size (SetO X.w s.heap.objs.size (fun j => decide (j ∈ ns)) c), I.laid (t' := tk) keep (Nat.le_refl _) (setO_new R), rfl, q c _ hcn hn⟩
theorem cr_sortedSetK (hw : X.w = w) (hc : X.calm = true) : CallR X (.builtin "sorted") (rSortedSet w) := by subst hw; exact cr_sortedSet hc
end
end Lw
namespace Lw
open PySem PySem.Spec PyProof.Rows L2
section
variable {K : PySem.W.Frag} {w : World} {H : Hp} {Q : VK}
theorem r_setOf {a : Addr} {ns : List Int} (h : H a = some (.lst (ns.map V.int))) (hl : ns.length ≤ 1000) (q : ∀ (c : Nat) (p : Addr), c ≤ ns.length → H p = none → Q (.ref p) (upd H p (SetO w p (fun j => decide (j ∈ ns)) c))) : rSetOf w K [.ref a] H Q := ⟨a, ns, rfl, SqL.of h, hl, q⟩
theorem r_sortedSet {a : Addr} {S : Int → Bool} {n : Nat} (h : H a = some (SetO w a S n)) (hl : n < 64) (q : ∀ (ns : List Int) (p : Addr), ns.Pairwise (· < ·) → (∀ k : Int, k ∈ ns ↔ S k = true) → ns.length = n → H p = none → Q (.ref p) (upd H p (.lst (ns.map V.int)))) : rSortedSet w [.ref a] H Q := ⟨a, S, n, rfl, h, hl, q⟩
theorem r_index {a : Addr} {ns : List Int} {y : Int} {j : Nat} (h : H a = some (.lst (ns.map V.int))) (h1 : ns[j]? = some y) (h2 : ∀ m, m < j → ns[m]? ≠ some y) (q : Q (.int j) H) : rIndex K (.ref a) [.int y] H Q := by
  refine ⟨a, ns.map V.int, .int y, j, .int y, rfl, rfl, SqL.of h, rfl, ?_, by rw [List.getElem?_map, h1]; rfl, by simp [eqV], fun m z' hm hz => ?_, q⟩
  · rw [List.all_map]; exact List.all_eq_true.mpr fun x _ => rfl
  · rw [List.getElem?_map] at hz
    cases e : ns[m]? with
    | none => rw [e] at hz; cases hz
    | some x =>
      rw [e] at hz
      rw [← Option.some.inj hz]
      have hne : x ≠ y := fun z => h2 m hm (by rw [e, z])
      simp [eqV, hne]
end
theorem first_at {ns : List Int} {y : Int} (h : y ∈ ns) : ∃ j : Nat, ns[j]? = some y ∧ (∀ m, m < j → ns[m]? ≠ some y) ∧ j < ns.length := by
  induction ns with
  | nil => cases h
  | cons a r ih =>
    by_cases e : a = y
    · exact ⟨0, by rw [e]; rfl, fun m hm => absurd hm (Nat.not_lt_zero _), Nat.succ_pos _⟩
    · have h2 : y ∈ r := by
        rcases List.mem_cons.mp h with q | q
        · exact absurd q.symm e
        · exact q
      obtain ⟨j, h3, h4, h5⟩ := ih h2
      refine ⟨j + 1, h3, fun m hm => ?_, Nat.succ_lt_succ h5⟩
      cases m with
      | zero => exact fun q => e (Option.some.inj q)
      | succ m => exact h4 m (Nat.lt_of_succ_lt_succ hm)
end Lw
namespace Lw
theorem perm_ins {α : Type} (r : List α) (n : Nat) (k : α) : (r.take n ++ [k] ++ r.drop n).Perm (r ++ [k]) := by
  rw [List.append_assoc]
  have h := (List.perm_append_comm (l₁ := [k]) (l₂ := r.drop n)).append_left (r.take n)
  have e : r.take n ++ (r.drop n ++ [k]) = r ++ [k] := by rw [← List.append_assoc, List.take_append_drop]
  rw [e] at h
  exact h
end Lw
namespace Lw
open PySem PySem.Spec PyProof.Rows L2
section
variable {K : PySem.W.Frag} {H : Hp} {Q : VK}
theorem r_inI {neg : Bool} {a : Addr} {ns : List Int} {z : Int} (h : H a = some (.lst (ns.map V.int))) (q : Q (.bl (if neg then !decide (z ∈ ns) else decide (z ∈ ns))) H) : rIn K neg (.int z) (.ref a) H Q := by
  have e : inV (.int z) (ns.map V.int) = decide (z ∈ ns) := by
    unfold inV
    rw [List.any_map]
    by_cases h : z ∈ ns
    · rw [decide_eq_true h]; exact List.any_eq_true.mpr ⟨z, h, by simp [eqV]⟩
    · rw [decide_eq_false h]
      refine List.any_eq_false.mpr fun x hx => ?_
      have hne : x ≠ z := fun e => h (e ▸ hx)
      simp [eqV, hne]
  refine ⟨a, ns.map V.int, rfl, .inl (SqL.of h), rfl, ?_, ?_⟩
  · rw [List.all_map]; exact List.all_eq_true.mpr fun x _ => rfl
  · rw [e]; exact q
theorem r_cat {a b : Addr} {xs ys : List V} (h1 : H a = some (.lst xs)) (h2 : H b = some (.lst ys)) (hz : xs.length + ys.length ≤ 100000) (q : ∀ p, H p = none → Q (.ref p) (upd H p (.lst (xs ++ ys)))) : rCat (.ref a) (.ref b) H Q := ⟨a, b, xs, ys, rfl, rfl, h1, h2, Nat.le_of_lt (small hz), q⟩
theorem r_iteB {b : Bool} {A B : Prop} (h1 : b = true → A) (h2 : b = false → B) : if b = true then A else B := by
  cases b
  · rw [if_neg (by decide)]; exact h2 rfl
  · rw [if_pos rfl]; exact h1 rfl
end
end Lw
/-! rows of any kind, tuples in lists, comprehensions with two fors, deep `in` and `index`, defs with keyword-only parameters -/
namespace Lw
open PySem PySem.Spec PyProof.Rows L2
/-! ### rows of any kind -/
def Ro {α : Type} (f : α → V) (C : Hp) (as : List Addr) (rs : List (List α)) : Prop := as.length = rs.length ∧ ∀ (i : Nat) (b : Addr), as[i]? = some b → ∃ r, rs[i]? = some r ∧ C b = some (.lst (r.map f))
section
variable {α : Type} {f : α → V}
theorem Ro.nil {C : Hp} : Ro f C [] [] := ⟨rfl, fun i b h => by simp at h⟩
theorem Ro.mono {C C' : Hp} {as : List Addr} {rs : List (List α)} (h : Ro f C as rs) (s : Same C C') : Ro f C' as rs :=
  ⟨h.1, fun i b e => by obtain ⟨r, h1, h2⟩ := h.2 i b e; exact ⟨r, h1, s _ _ h2⟩⟩
theorem Ro.push {C : Hp} {as : List Addr} {rs : List (List α)} {b : Addr} {r : List α} (h : Ro f C as rs) (e : C b = some (.lst (r.map f))) : Ro f C (as ++ [b]) (rs ++ [r]) := by
  refine ⟨by rw [List.length_append, List.length_append, h.1]; rfl, fun i c hc => ?_⟩
  by_cases hi : i < as.length
  · rw [List.getElem?_append_left hi] at hc
    obtain ⟨r', h1, h2⟩ := h.2 i c hc
    exact ⟨r', by rw [List.getElem?_append_left (by rw [← h.1]; exact hi)]; exact h1, h2⟩
  · rw [List.getElem?_append_right (by omega)] at hc
    have h0 : i - as.length = 0 := by
      have := (List.getElem?_eq_some_iff.mp hc).1
      rw [List.length_singleton] at this; omega
    rw [h0] at hc
    cases hc
    exact ⟨r, by rw [List.getElem?_append_right (by rw [← h.1]; omega), ← h.1, h0]; rfl, e⟩
theorem Ro.at {C : Hp} {as : List Addr} {rs : List (List α)} {i : Nat} {x : V} (h : Ro f C as rs) (e : (as.map V.ref)[i]? = some x) : ∃ b r, x = .ref b ∧ as[i]? = some b ∧ rs[i]? = some r ∧ C b = some (.lst (r.map f)) := by
  rw [List.getElem?_map] at e
  cases q : as[i]? with
  | none => rw [q] at e; cases e
  | some b =>
    rw [q] at e
    obtain ⟨r, h1, h2⟩ := h.2 i b q
    exact ⟨b, r, (Option.some.inj e).symm, rfl, h1, h2⟩
theorem Ro.get {C : Hp} {as : List Addr} {rs : List (List α)} {i : Nat} {r : List α} (h : Ro f C as rs) (e : rs[i]? = some r) : ∃ b, as[i]? = some b ∧ (as.map V.ref)[i]? = some (.ref b) ∧ C b = some (.lst (r.map f)) := by
  have hi : i < as.length := by rw [h.1]; exact (List.getElem?_eq_some_iff.mp e).1
  obtain ⟨r', h1, h2⟩ := h.2 i _ (List.getElem?_eq_getElem hi)
  rw [e] at h1; cases h1
  exact ⟨_, List.getElem?_eq_getElem hi, by rw [List.getElem?_map, List.getElem?_eq_getElem hi]; rfl, h2⟩
theorem Ro.write {C : Hp} {as : List Addr} {rs : List (List α)} (h : Ro f C as rs) (hn : as.Nodup) {k : Nat} {b : Addr} (hb : as[k]? = some b) (r' : List α) : Ro f (upd C b (.lst (r'.map f))) as (rs.set k r') := by
  refine ⟨by rw [List.length_set, h.1], fun i c hc => ?_⟩
  by_cases e : k = i
  · subst e
    rw [hb] at hc
    cases hc
    exact ⟨r', List.getElem?_set_self (by rw [← h.1]; exact (List.getElem?_eq_some_iff.mp hb).1), upd_same⟩
  · obtain ⟨r, h1, h2⟩ := h.2 i c hc
    refine ⟨r, by rw [List.getElem?_set_ne e]; exact h1, ?_⟩
    rw [upd_ne]
    · exact h2
    · intro z
      subst z
      obtain ⟨h3, e3⟩ := List.getElem?_eq_some_iff.mp hb
      obtain ⟨h4, e4⟩ := List.getElem?_eq_some_iff.mp hc
      exact e ((List.getElem_inj hn).mp (e3.trans e4.symm))
theorem Ro.isRw {C : Hp} {as : List Addr} {rs : List (List Int)} : Ro V.int C as rs ↔ Rw C as rs := Iff.rfl
theorem bls_at {r : List Bool} {i : Nat} {x : V} (e : (r.map V.bl)[i]? = some x) : ∃ z, x = .bl z ∧ r[i]? = some z := by
  rw [List.getElem?_map] at e
  cases q : r[i]? with
  | none => rw [q] at e; cases e
  | some z => rw [q] at e; exact ⟨z, (Option.some.inj e).symm, rfl⟩
theorem map_at {r : List α} {i : Nat} {z : α} (e : r[i]? = some z) : (r.map f)[i]? = some (f z) := by rw [List.getElem?_map, e]; rfl
end
/-! ### pairs of ints in a list -/
def Tp (C : Hp) (ts : List Addr) (qs : List (Int × Int)) : Prop := ts.length = qs.length ∧ ∀ (i : Nat) (b : Addr), ts[i]? = some b → ∃ q, qs[i]? = some q ∧ C b = some (.tup [.int q.1, .int q.2])
theorem Tp.nil {C : Hp} : Tp C [] [] := ⟨rfl, fun i b h => by simp at h⟩
theorem Tp.mono {C C' : Hp} {ts : List Addr} {qs : List (Int × Int)} (h : Tp C ts qs) (s : Same C C') : Tp C' ts qs :=
  ⟨h.1, fun i b e => by obtain ⟨r, h1, h2⟩ := h.2 i b e; exact ⟨r, h1, s _ _ h2⟩⟩
theorem Tp.push {C : Hp} {ts : List Addr} {qs : List (Int × Int)} {b : Addr} {q : Int × Int} (h : Tp C ts qs) (e : C b = some (.tup [.int q.1, .int q.2])) : Tp C (ts ++ [b]) (qs ++ [q]) := by
  refine ⟨by rw [List.length_append, List.length_append, h.1]; rfl, fun i c hc => ?_⟩
  by_cases hi : i < ts.length
  · rw [List.getElem?_append_left hi] at hc
    obtain ⟨r', h1, h2⟩ := h.2 i c hc
    exact ⟨r', by rw [List.getElem?_append_left (by rw [← h.1]; exact hi)]; exact h1, h2⟩
  · rw [List.getElem?_append_right (by omega)] at hc
    have h0 : i - ts.length = 0 := by
      have := (List.getElem?_eq_some_iff.mp hc).1
      rw [List.length_singleton] at this; omega
    rw [h0] at hc
    cases hc
    exact ⟨q, by rw [List.getElem?_append_right (by rw [← h.1]; omega), ← h.1, h0]; rfl, e⟩
theorem Tp.at {C : Hp} {ts : List Addr} {qs : List (Int × Int)} {i : Nat} {x : V} (h : Tp C ts qs) (e : (ts.map V.ref)[i]? = some x) : ∃ b q, x = .ref b ∧ ts[i]? = some b ∧ qs[i]? = some q ∧ C b = some (.tup [.int q.1, .int q.2]) := by
  rw [List.getElem?_map] at e
  cases q : ts[i]? with
  | none => rw [q] at e; cases e
  | some b =>
    rw [q] at e
    obtain ⟨r, h1, h2⟩ := h.2 i b q
    exact ⟨b, r, (Option.some.inj e).symm, rfl, h1, h2⟩
theorem Tp.keep {C C' : Hp} {ts : List Addr} {qs : List (Int × Int)} (h : Tp C ts qs) (s : ∀ t ∈ ts, C' t = C t) : Tp C' ts qs :=
  ⟨h.1, fun i b e => by obtain ⟨r, h1, h2⟩ := h.2 i b e; exact ⟨r, h1, by rw [s b (List.mem_of_getElem? e)]; exact h2⟩⟩
theorem Ro.keep {α : Type} {f : α → V} {C C' : Hp} {as : List Addr} {rs : List (List α)} (h : Ro f C as rs) (s : ∀ t ∈ as, C' t = C t) : Ro f C' as rs :=
  ⟨h.1, fun i b e => by obtain ⟨r, h1, h2⟩ := h.2 i b e; exact ⟨r, h1, by rw [s b (List.mem_of_getElem? e)]; exact h2⟩⟩
/-! ### a filter, turn by turn -/
theorem fl_put {α : Type} {p : α → Bool} {r : List α} {i : Nat} {x : α} (hx : r[i]? = some x) (hp : p x = true) : (r.take (i + 1)).filter p = (r.take i).filter p ++ [x] := by
  rw [List.take_add_one, hx, List.filter_append]; simp [hp]
theorem fl_skip {α : Type} {p : α → Bool} {r : List α} {i : Nat} {x : α} (hx : r[i]? = some x) (hp : p x = false) : (r.take (i + 1)).filter p = (r.take i).filter p := by
  rw [List.take_add_one, hx, List.filter_append]; simp [hp]
theorem mp_put {α β : Type} {p : α → β} {r : List α} {i : Nat} {x : α} (hx : r[i]? = some x) : (r.take (i + 1)).map p = (r.take i).map p ++ [p x] := by
  rw [List.take_add_one, hx, List.map_append]; rfl
/-! ### two fors in a comprehension -/
section
variable {S : Type} {F : S → Hp → Hp} {ok : S → Hp → Prop} (T : TopOk F ok) {σ σ2 : L2.St} {g g1 : TG} {tt tt1 : TT} {te : TE} {vs vs1 : List Nat} {wi1 : TI} {Q : Addr → Hp → Prop}
def Lin (vs1 : List Nat) (g1 : TG) (tt1 : TT) (te : TE) (σ2 : L2.St) (D : Addr) (Nx : Hp → Prop) : It → Hp → Prop := fun J1 H4 => ∃ W1 : Nat → Nat → Hp → Prop, (∃ m, W1 0 m H4) ∧ ∀ j k H, W1 j k H →
  (J1.stop j H ∧ Nx H) ∨ (J1.go j H ∧ ∃ Nx1 : Hp → Prop, (∀ H', Nx1 H' → ∃ k', k' < k ∧ W1 (j + 1) k' H') ∧ ∀ x H', J1.yld j H x H' → g1 x (wipe σ2 vs1) H' fun σ3 H5 => wipe σ3 vs1 = wipe σ2 vs1 ∧ tt1 σ3 H5 fun b H6 =>
    if b = true then te σ3 H6 fun y H7 => ∃ acc, H7 D = some (.lst acc) ∧ acc.length < sizeLine ∧ Nx1 (upd H7 D (.lst (acc ++ [y]))) else Nx1 H6)
include T
theorem lcT2_range {s0 : S} {B : Hp} (k : ok s0 B) {n : Int} (h1 : -4611686018427387904 ≤ n) (h2 : n < 4611686018427387904) (Pv : Nat → Hp → List V → Prop) (h0 : Pv 0 B [])
    (hs : ∀ D i s C acc, ok s (upd C D (.lst acc)) → C D = none → Same B C → i < n.toNat → Pv i C acc → g (.int i) (wipe σ vs) (F s (upd C D (.lst acc))) fun σ2 H2 => wipe σ2 vs = wipe σ vs ∧ tt σ2 H2 fun b H3 =>
      if b = true then wi1 σ2 H3 (Lin vs1 g1 tt1 te σ2 D (LcN F ok B D (Pv (i + 1)))) else LcN F ok B D (Pv (i + 1)) H3)
    (hd : ∀ D s C acc, ok s (upd C D (.lst acc)) → B D = none → C D = none → Same B C → Pv n.toNat C acc → Q D (F s (upd C D (.lst acc)))) :
    ∃ j : Int, [V.int n] = [.int j] ∧ -(2 ^ 62) ≤ j ∧ j < 2 ^ 62 ∧ ∀ D, (F s0 B) D = none → ∃ W : Nat → Nat → Hp → Prop, (∃ m, W 0 m (upd (F s0 B) D (.lst []))) ∧ ∀ i m H, W i m H →
      ((Itr 0 j.toNat).stop i H ∧ Q D H) ∨ ((Itr 0 j.toNat).go i H ∧ ∃ Nx : Hp → Prop, (∀ H', Nx H' → ∃ m', m' < m ∧ W (i + 1) m' H') ∧ ∀ x H', (Itr 0 j.toNat).yld i H x H' → g x (wipe σ vs) H' fun σ2 H2 => wipe σ2 vs = wipe σ vs ∧ tt σ2 H2 fun b H3 =>
        if b = true then wi1 σ2 H3 fun J1 H4 => ∃ W1 : Nat → Nat → Hp → Prop, (∃ m, W1 0 m H4) ∧ ∀ j k H, W1 j k H →
          (J1.stop j H ∧ Nx H) ∨ (J1.go j H ∧ ∃ Nx1 : Hp → Prop, (∀ H', Nx1 H' → ∃ k', k' < k ∧ W1 (j + 1) k' H') ∧ ∀ x H', J1.yld j H x H' → g1 x (wipe σ2 vs1) H' fun σ3 H5 => wipe σ3 vs1 = wipe σ2 vs1 ∧ tt1 σ3 H5 fun b H6 =>
            if b = true then te σ3 H6 fun y H7 => ∃ acc, H7 D = some (.lst acc) ∧ acc.length < sizeLine ∧ Nx1 (upd H7 D (.lst (acc ++ [y]))) else Nx1 H6)
        else Nx H3) := by
  refine ⟨n, rfl, h1, h2, fun D hD => ?_⟩
  obtain ⟨hB, hn⟩ := T.new s0 B D k hD
  refine ⟨fun i m H => m = n.toNat - i ∧ i ≤ n.toNat ∧ LcN F ok B D (Pv i) H, ⟨n.toNat, by simp, Nat.zero_le _, ?_⟩, ?_⟩
  · rw [(hn _).1]
    exact ⟨s0, B, [], rfl, (hn _).2, hB, Same.refl B, h0⟩
  · rintro i m H ⟨rfl, hi, s, C, acc, rfl, k', hD', hS, hp⟩
    by_cases hlt : i < n.toNat
    · refine .inr ⟨hlt, fun H' => LcN F ok B D (Pv (i + 1)) H', fun H' p' => ⟨n.toNat - (i + 1), by omega, rfl, hlt, p'⟩, fun x H' y => ?_⟩
      obtain ⟨rfl, rfl⟩ := y
      rw [Int.zero_add]
      exact hs D i s C acc k' hD' hS hlt hp
    · have e : i = n.toNat := by omega
      subst e
      exact .inl ⟨Nat.le_refl _, hd D s C acc k' hB hD' hS hp⟩
omit T in
theorem lin_range {B : Hp} {lo : Int} {m : Nat} {D : Addr} {Pn : Hp → List V → Prop} (Pw : Nat → Hp → List V → Prop) {s0 : S} {C0 : Hp} {acc0 : List V} (k : ok s0 (upd C0 D (.lst acc0))) (hD : C0 D = none) (hS : Same B C0) (h0 : Pw 0 C0 acc0)
    (hs : ∀ j s C acc, ok s (upd C D (.lst acc)) → C D = none → Same B C → j < m → Pw j C acc → g1 (.int (lo + j)) (wipe σ2 vs1) (F s (upd C D (.lst acc))) fun σ3 H5 => wipe σ3 vs1 = wipe σ2 vs1 ∧ tt1 σ3 H5 fun b H6 =>
      if b = true then te σ3 H6 fun y H7 => ∃ acc, H7 D = some (.lst acc) ∧ acc.length < sizeLine ∧ LcN F ok B D (Pw (j + 1)) (upd H7 D (.lst (acc ++ [y]))) else LcN F ok B D (Pw (j + 1)) H6)
    (hd : ∀ C acc, Pw m C acc → Pn C acc) : Lin vs1 g1 tt1 te σ2 D (LcN F ok B D Pn) (Itr lo m) (F s0 (upd C0 D (.lst acc0))) := by
  refine ⟨fun j q H => q = m - j ∧ j ≤ m ∧ LcN F ok B D (Pw j) H, ⟨m, by simp, Nat.zero_le _, s0, C0, acc0, rfl, k, hD, hS, h0⟩, ?_⟩
  rintro j q H ⟨rfl, hj, s, C, acc, rfl, k', hD', hS', hp⟩
  by_cases hlt : j < m
  · refine .inr ⟨hlt, fun H' => LcN F ok B D (Pw (j + 1)) H', fun H' p' => ⟨m - (j + 1), by omega, rfl, hlt, p'⟩, fun x H' y => ?_⟩
    obtain ⟨rfl, rfl⟩ := y
    exact hs j s C acc k' hD' hS' hlt hp
  · have e : j = m := by omega
    subst e
    exact .inl ⟨Nat.le_refl _, s, C, acc, rfl, k', hD', hS', hd C acc hp⟩
end
section
variable {σ : L2.St} {H : Hp} {Q : VK}
theorem r_lc2 {wi : TI} {g : TG} {tt : TT} {wi1 : TI} {g1 : TG} {tt1 : TT} {te : TE} {vs vs1 : List Nat} (h : wi σ H fun J H1 => ∀ D, H1 D = none → ∃ W : Nat → Nat → Hp → Prop, (∃ m, W 0 m (upd H1 D (.lst []))) ∧ ∀ i m H, W i m H →
  (J.stop i H ∧ Q (.ref D) H) ∨ (J.go i H ∧ ∃ Nx : Hp → Prop, (∀ H', Nx H' → ∃ m', m' < m ∧ W (i + 1) m' H') ∧ ∀ x H', J.yld i H x H' → g x (wipe σ vs) H' fun σ2 H2 => wipe σ2 vs = wipe σ vs ∧ tt σ2 H2 fun b H3 =>
    if b = true then wi1 σ2 H3 fun J1 H4 => ∃ W1 : Nat → Nat → Hp → Prop, (∃ m, W1 0 m H4) ∧ ∀ j k H, W1 j k H →
      (J1.stop j H ∧ Nx H) ∨ (J1.go j H ∧ ∃ Nx1 : Hp → Prop, (∀ H', Nx1 H' → ∃ k', k' < k ∧ W1 (j + 1) k' H') ∧ ∀ x H', J1.yld j H x H' → g1 x (wipe σ2 vs1) H' fun σ3 H5 => wipe σ3 vs1 = wipe σ2 vs1 ∧ tt1 σ3 H5 fun b H6 =>
        if b = true then te σ3 H6 fun y H7 => ∃ acc, H7 D = some (.lst acc) ∧ acc.length < sizeLine ∧ Nx1 (upd H7 D (.lst (acc ++ [y]))) else Nx1 H6)
    else Nx H3)) : tLc2 wi g tt wi1 g1 tt1 te vs vs1 σ H Q := h
theorem r_rng2 {ta : TA} {R : It → Hp → Prop} (h : ta σ H fun vs H1 => ∃ i j : Int, vs = [.int i, .int j] ∧ (-(2 ^ 62) ≤ i ∧ i < 2 ^ 62 ∧ -(2 ^ 62) ≤ j ∧ j < 2 ^ 62) ∧ R (Itr i (j - i).toNat) H1) : iRng2 ta σ H R := h
theorem r_isR2 {i j : Int} {R : It → Hp → Prop} (h1 : -4611686018427387904 ≤ i) (h2 : i < 4611686018427387904) (h3 : -4611686018427387904 ≤ j) (h4 : j < 4611686018427387904) (hq : R (Itr i (j - i).toNat) H) : ∃ a b : Int, [V.int i, .int j] = [.int a, .int b] ∧ (-(2 ^ 62) ≤ a ∧ a < 2 ^ 62 ∧ -(2 ^ 62) ≤ b ∧ b < 2 ^ 62) ∧ R (Itr a (b - a).toNat) H := ⟨i, j, rfl, ⟨h1, h2, h3, h4⟩, hq⟩
theorem r_any {K : PySem.W.Frag} {a : Addr} {bs : List Bool} (h : H a = some (.lst (bs.map V.bl))) (q : Q (.bl (bs.any id)) H) : rAny K [.ref a] H Q := ⟨a, bs, rfl, SqL.of h, q⟩
theorem r_callN {n m : Nat} {sp : Sp} {gV : List V → List V → List V} {E : XK} {t tk : TA} (h : t σ H fun vs H1 => tk σ H1 fun zs H2 => vs.length = n ∧ zs.length = m ∧ sp (gV vs zs) H2 Q E) : tCallN n m sp gV E t tk σ H Q := h
theorem r_callD {sp : Sp} {ds : List V} {E : XK} {t : TA} (h : t σ H fun vs H1 => sp (vs ++ ds) H1 Q E) : tCall sp ds E t σ H Q := h
end
/-! ### deep data -/
section
variable {X : Cx} {K : PySem.W.Frag}
theorem u65 {k : Nat} {A : Around} (r : Room k A) : A.units + 65 < cLine := by have := r.un; omega
theorem op_inDK (h : X.K = K) (hu : X.A.units + 65 < cLine) : OpR X (compareOp .In) (rInD K) := by subst h; exact op_inD hu
theorem op_notInDK (h : X.K = K) (hu : X.A.units + 65 < cLine) : OpR X (compareOp .NotIn) (rNotInD K) := by subst h; exact op_notInD hu
theorem mt_indexDK (h : X.K = K) (hu : X.A.units + 65 < cLine) : MtR X "list.index" (rIndexD K) := by subst h; exact mt_indexD hu
end
section
variable {K : PySem.W.Frag} {H : Hp} {Q : VK}
theorem eqI1 (xs ys : List Int) : PyData.eqv (dI xs) (dI ys) = decide (xs = ys) := eqI xs ys
theorem r_inR {a b : Addr} {as : List Addr} {rs : List (List Int)} {xs : List Int} (h1 : H a = some (.lst (xs.map V.int))) (h2 : H b = some (.lst (as.map V.ref))) (hr : Rw H as rs) (q : Q (.bl (decide (xs ∈ rs))) H) : rInD K (.ref a) (.ref b) H Q := by
  refine ⟨dI xs, rs.map dI, dpI h1, dpR h2 hr, shI xs, shR rs, ?_⟩
  have e : (rs.map dI).any (fun z => PyData.eqv z (dI xs)) = decide (xs ∈ rs) := by
    rw [Bool.eq_iff_iff, List.any_eq_true, decide_eq_true_eq]
    constructor
    · rintro ⟨z, hz, e⟩
      obtain ⟨r, hr, rfl⟩ := List.mem_map.mp hz
      rw [eqI1, decide_eq_true_eq] at e
      rw [← e]; exact hr
    · intro hx
      exact ⟨dI xs, List.mem_map.mpr ⟨xs, hx, rfl⟩, by rw [eqI1]; exact decide_eq_true rfl⟩
  rw [e]; exact q
end
/-! ### keyword-only parameters -/
section
variable {K : PySem.W.Frag} {x qual : Str} {st : Stmt} {f : Addr} {fd : FuncData} {ps : List Str}
/-- f(e, .., k = v, ..) where all keyword-only parameters are written -/
theorem kb_all (F : Fun K x qual st f fd) (n : Nat) (ks : List Str)
    (h : ∀ (kV doc pm : Value) (an : Option Addr) (cdv ct : Value) (us ws : List Value), us.length = n → ws.length = ks.length → bindArgs (PySem.W.fnOf x qual (defArgs st) (defBody st) (defScope st) .none kV doc pm an cdv ct) ⟨us, ks.zip ws⟩ = pure (ps.zip (us ++ ws))) :
    KBn K fd ps n ks (fun us ws => us ++ ws) (fun vs zs => vs ++ zs) := by
  obtain ⟨oc, od, kV, doc, pm, an, cdv, ct, osl, rfl, lk, hcd⟩ := F.ex
  exact ⟨fun s us ws _ l1 l2 => .of_eq (h kV doc pm an cdv ct us ws l1 l2), fun r1 r2 => r1.append r2⟩
end
def pick (n : Nat) (f : Nat → Bool) : List Int := ((List.range n).filter f).map Int.ofNat
theorem pick_succ (n : Nat) (f : Nat → Bool) : pick (n + 1) f = pick n f ++ if f n then [(n : Int)] else [] := by
  unfold pick
  rw [List.range_succ, List.filter_append, List.map_append]
  congr 1
  rw [List.filter_cons]
  split <;> rfl
theorem pick_len (n : Nat) (f : Nat → Bool) : (pick n f).length ≤ n := by
  unfold pick
  rw [List.length_map]
  exact Nat.le_trans (List.length_filter_le _ _) (by rw [List.length_range]; exact Nat.le_refl _)
theorem pick_congr {n : Nat} {f f' : Nat → Bool} (h : ∀ i, i < n → f i = f' i) : pick n f = pick n f' := by
  unfold pick
  rw [List.filter_congr fun i hi => h i (List.mem_range.mp hi)]
end Lw
namespace K53
open PySem PySem.Spec PyProof.Rows L2 Lw

def topS (i : Nat) : Stmt := PySem.Challenge.pw_setnests_k53_whole_book_deeds.main.body.getD i (.Pass ⟨0, 0, 0, 0⟩)
abbrev s__wall : Stmt := topS 0
theorem sc__wall : FnScope ["k"] ["k"] (defScope s__wall) := ⟨rfl, rfl, rfl, by decide +kernel, rfl, by decide +kernel, by decide +kernel⟩

abbrev s__law_start : Stmt := topS 8
theorem sc__law_start : FnScope ["script", "great", "mixed", "cell"] ["script"] (defScope s__law_start) := ⟨rfl, rfl, rfl, by decide +kernel, rfl, by decide +kernel, by decide +kernel⟩

abbrev s__law_draw : Stmt := topS 9
theorem sc__law_draw : FnScope ["state", "many", "rest", "one", "two", "three"] ["state", "many"] (defScope s__law_draw) := ⟨rfl, rfl, rfl, by decide +kernel, rfl, by decide +kernel, by decide +kernel⟩

abbrev s__law_names : Stmt := topS 10
theorem sc__law_names : FnScope ["state", "many", "letters", "ends", "way", "first", "last", "names", "k"] ["state", "many"] (defScope s__law_names) := ⟨rfl, rfl, rfl, by decide +kernel, rfl, by decide +kernel, by decide +kernel⟩

abbrev s__law_size : Stmt := topS 11
theorem sc__law_size : FnScope ["tree", "total", "part"] ["tree"] (defScope s__law_size) := ⟨rfl, rfl, rfl, by decide +kernel, rfl, by decide +kernel, by decide +kernel⟩

abbrev s__law_pick : Stmt := topS 12
theorem sc__law_pick : FnScope ["state", "row"] ["state", "row"] (defScope s__law_pick) := ⟨rfl, rfl, rfl, by decide +kernel, rfl, by decide +kernel, by decide +kernel⟩

abbrev s__law_terms : Stmt := topS 13
theorem sc__law_terms : FnScope ["state", "names", "many", "terms", "k", "kind", "one", "two", "made", "name"] ["state", "names", "many"] (defScope s__law_terms) := ⟨rfl, rfl, rfl, by decide +kernel, rfl, by decide +kernel, by decide +kernel⟩

abbrev s__law_body : Stmt := topS 14
theorem sc__law_body : FnScope ["state", "terms", "one", "two", "kind"] ["state", "terms"] (defScope s__law_body) := ⟨rfl, rfl, rfl, by decide +kernel, rfl, by decide +kernel, by decide +kernel⟩

abbrev s__law_fact : Stmt := topS 15
theorem sc__law_fact : FnScope ["state", "terms", "one", "two", "kind"] ["state", "terms"] (defScope s__law_fact) := ⟨rfl, rfl, rfl, by decide +kernel, rfl, by decide +kernel, by decide +kernel⟩

abbrev s__law_piece : Stmt := topS 16
theorem sc__law_piece : FnScope ["state", "terms", "made"] ["state", "terms"] (defScope s__law_piece) := ⟨rfl, rfl, rfl, by decide +kernel, rfl, by decide +kernel, by decide +kernel⟩

abbrev s__law_is_number : Stmt := topS 17
theorem sc__law_is_number : FnScope ["told", "due"] ["told", "due"] (defScope s__law_is_number) := ⟨rfl, rfl, rfl, by decide +kernel, rfl, by decide +kernel, by decide +kernel⟩

abbrev s__law_is_saying : Stmt := topS 18
theorem sc__law_is_saying : FnScope ["told", "due"] ["told", "due"] (defScope s__law_is_saying) := ⟨rfl, rfl, rfl, by decide +kernel, rfl, by decide +kernel, by decide +kernel⟩

abbrev s__law_lists : Stmt := topS 19
theorem sc__law_lists : FnScope ["told", "kept", "numbers", "k", "number"] ["told", "kept"] (defScope s__law_lists) := ⟨rfl, rfl, rfl, by decide +kernel, rfl, by decide +kernel, by decide +kernel⟩

abbrev s__law_looked : Stmt := topS 20
theorem sc__law_looked : FnScope ["row", "book", "told"] ["row"] (defScope s__law_looked) := ⟨rfl, rfl, rfl, by decide +kernel, rfl, by decide +kernel, by decide +kernel⟩

abbrev s__law_tell : Stmt := topS 21
theorem sc__law_tell : FnScope ["row", "saying", "full", "book", "number", "e", "kept"] ["row", "saying"] (defScope s__law_tell) := ⟨rfl, rfl, rfl, by decide +kernel, rfl, by decide +kernel, by decide +kernel⟩

abbrev s__law_drop : Stmt := topS 22
theorem sc__law_drop : FnScope ["row", "number", "kept", "there", "book", "saying", "e"] ["row", "number"] (defScope s__law_drop) := ⟨rfl, rfl, rfl, by decide +kernel, rfl, by decide +kernel, by decide +kernel⟩

abbrev s__law_made_of : Stmt := topS 23
theorem sc__law_made_of : FnScope ["row", "sayings", "handed", "book", "e", "kept", "k"] ["row", "sayings"] (defScope s__law_made_of) := ⟨rfl, rfl, rfl, by decide +kernel, rfl, by decide +kernel, by decide +kernel⟩

abbrev s__law_number : Stmt := topS 24
theorem sc__law_number : FnScope ["state", "row", "numbers", "gone", "number"] ["state", "row"] (defScope s__law_number) := ⟨rfl, rfl, rfl, by decide +kernel, rfl, by decide +kernel, by decide +kernel⟩

abbrev s__law_deed : Stmt := topS 25
theorem sc__law_deed : FnScope ["state", "row", "terms", "last", "kind", "saying", "k"] ["state", "row", "terms", "last"] (defScope s__law_deed) := ⟨rfl, rfl, rfl, by decide +kernel, rfl, by decide +kernel, by decide +kernel⟩

abbrev s_law : Stmt := topS 26
theorem sc_law : FnScope ["script", "state", "names", "terms", "rows", "last", "turn", "row"] ["script"] (defScope s_law) := ⟨rfl, rfl, rfl, by decide +kernel, rfl, by decide +kernel, by decide +kernel⟩

structure Blt (mg : Str → Option Value) : Prop where
  m_abs : mg "abs" = none
  m_bool : mg "bool" = none
  m_int : mg "int" = none
  m_isinstance : mg "isinstance" = none
  m_len : mg "len" = none
  m_list : mg "list" = none
  m_range : mg "range" = none
  m_set : mg "set" = none
  m_sorted : mg "sorted" = none
  m_tuple : mg "tuple" = none
/-- a def stands at f -/
structure Dn (K : PySem.W.Frag) (mg : Str → Option Value) (x : Str) (st : Stmt) (ps : List Str) (f : Addr) (fd : FuncData) : Prop where
  F : Fun K x x st f fd
  b : Binds K fd ps []
  g : mg x = some (.ref f)
end K53
namespace K53
open PySem PySem.Spec PyProof.Rows L2 Lw


local macro_rules | `(tactic| walk_at "look") => `(tactic| first
  | assumption
  | with_reducible exact upd_same
  | with_reducible exact rg_st
  | with_reducible exact rg_g (by assumption)
  | (with_reducible refine upd_old (by assumption) ?_; walk_at "look")
  | (with_reducible refine rg_get (by assumption) ?_; walk_at "look")
  | (with_reducible refine Same.get (by assumption) ?_; walk_at "look"))
local macro_rules | `(tactic| walk_at "cond") => `(tactic| first
  | (show _ ≠ _; omega) | exact cdivN (by omega) (by omega) | exact cmul_mod (by decide) (by decide) | exact cmulR (by omega) (by omega) | exact cmulL (by omega) (by omega) | exact cpow (by omega) (by omega) (by omega) (by omega) | (show (0:Int) ≤ _; omega))
local macro_rules | `(tactic| walk_at "at") => `(tactic| first | assumption | with_unfolding_all rfl)
local macro_rules | `(tactic| walk_at "sz") => `(tactic| first | assumption | (refine small ?_; omega) | (refine small ?_; simp only [List.length_map, List.length_append, List.length_cons, List.length_nil]; omega))
local macro_rules | `(tactic| walk_at "len") => `(tactic| first | exact size_nil | exact Nat.le_of_lt (small (by simp only [List.length_cons, List.length_nil, List.length_map]; omega)))
local macro_rules | `(tactic| walk_at "newD") => `(tactic| (refine ⟨by walk_at "len", fun p np => ?_⟩; obtain ⟨e, o', hD', n', ne'⟩ := newTD_eq (topRg _ _) (by assumption) (by assumption) np (.lst _); rw [e]; clear e))
local macro_rules | `(tactic| walk_at "new") => `(tactic| (refine ⟨by walk_at "len", fun p np => ?_⟩; obtain ⟨e, o', n'⟩ := newT_eq (topRg _ _) (by assumption) np (.lst _); rw [e]; clear e))
local macro_rules | `(tactic| walk_at "st") => `(tactic| first
  | with_reducible refine r_seq ?_
  | with_reducible refine r_var rfl ?_
  | with_reducible refine r_c ?_
  | with_reducible refine r_asg ?_
  | (with_reducible refine r_name ?_; dsimp only [List.set_cons_zero, List.set_cons_succ])
  | with_reducible refine r_sub ?_
  | with_reducible refine r_op ?_
  | with_reducible refine r_i0 ?_
  | (with_reducible refine' r_i ?k1 ?_; (case k1 => walk_at "cond"))
  | with_reducible refine r_cons ?_
  | with_reducible refine r_nil ?_
  | with_reducible refine r_cb ?_
  | with_reducible refine r_call ?_
  | with_reducible refine r_ifs ?_
  | with_reducible refine r_test ?_
  | with_reducible refine r_tB ?_
  | with_reducible refine r_bl ?_
  | with_reducible refine r_ret ?_
  | with_reducible refine r_drop ?_
  | with_reducible refine r_next ?_
  | (with_reducible refine' r_ixL ?k1 ?k2 ?_; (case k1 => walk_at "look"); (case k2 => walk_at "at"))
  | (with_reducible refine' r_setL ?k1 ?k2 ?_; (case k1 => walk_at "look"); (case k2 => walk_at "at"))
  | with_reducible refine r_aug rfl ?_
  | with_reducible refine r_augS ?_
  | with_reducible refine r_ipI ?_
  | with_reducible refine r_un ?_
  | with_reducible refine r_u ?_
  | with_reducible refine r_eq rfl ?_
  | with_reducible refine r_ne rfl ?_
  | with_reducible refine r_chain ?_
  | with_reducible refine iteF ?_
  | with_reducible refine r_not ?_
  | with_reducible refine r_and ?_
  | with_reducible refine r_or ?_
  | with_reducible refine r_andV ?_
  | with_reducible refine r_orV ?_
  | with_reducible refine r_notV ?_
  | with_reducible refine r_lst ?_
  | with_reducible refine r_bm ?_
  | with_reducible refine r_bm0 ?_
  | (with_reducible refine' And.intro (r_ty ?k1) ?_; (case k1 => walk_at "look"))
  | (with_reducible refine' r_append ?k1 ?k2 ?_; (case k1 => walk_at "look"); (case k2 => walk_at "sz"))
  | (with_reducible refine' r_lenK ?k1 ?_; (case k1 => walk_at "look"))
  | (with_reducible refine' r_listOf ?k1 ?_; (case k1 => walk_at "look"))
  | (with_reducible refine' r_sortedI ?k1 ?_; (case k1 => walk_at "look"))
  | (with_reducible refine' r_sum ?k1 ?_; (case k1 => walk_at "look"))
  | with_reducible refine r_int ?_
  | (with_reducible refine' r_draw (by assumption) ?k1 ?k2 ?_; (case k1 => omega); (case k2 => omega); intro R' n' o' h' h'')
  | with_reducible refine iteT ?_
  | with_reducible refine r_revL ?_
  | with_reducible refine r_lc ?_
  | with_reducible refine r_yes ?_
  | with_reducible refine r_for ?_
  | with_reducible refine r_iList ?_
  | with_reducible refine r_rng1 ?_
  | with_reducible refine r_enum ?_
  | (with_reducible show Ends.nx _ _ _; dsimp only)
  | (with_reducible show Ends.rt _ _ _; dsimp only)
  | (with_reducible show Ends.ct _ _ _; dsimp only)
  | (with_reducible show Ends.bk _ _ _; dsimp only))
local macro_rules | `(tactic| walk_at "go") => `(tactic| repeat (walk_at "st"))
local macro_rules | `(tactic| walk_at "begin") => `(tactic| dsimp only [cxOf, wipe, L2.start, List.map, List.length_cons, List.length_nil, Nat.reduceAdd, Nat.reduceSub, List.replicate, List.cons_append, List.nil_append])

local macro_rules | `(tactic| walk_at "st") => `(tactic| with_reducible refine r_abs ?_)
section
variable {P : Program} {w : World} {K : PySem.W.Frag} {mg : Str → Option Value} {base : Heap}
theorem ok_start {f : Addr} {fd : FuncData} {k : Nat} (B : Blt mg) (D : Dn K mg "_law_start" s__law_start ["script"] f fd) : FnOk P w K mg base CX0 (k + 1) f fd ["script"] (spStart K) := by
  refine D.F.ok sc__law_start (fun vs H Q E h => ?_) (fun cdv A outer s H vs Q E hr h => ?_)
  · obtain ⟨a, ns, rfl, _⟩ := h
    rfl
  · obtain ⟨a, ns, rfl, hS, hl, q⟩ := h
    refine ⟨_, (pss_cons (ps_set (i := 1) sc__law_start.nd rfl (.inl rfl) (pe_lst pa_nil))
      (pss_cons (ps_set (i := 2) sc__law_start.nd rfl (.inl rfl) pe_int)
      (pss_cons (ps_for PassesOwn.never rfl (pi_listK (K := K) rfl (pv 0)) (pg_name (i := 3) sc__law_start.nd rfl (.inl rfl)) (pss_cons (ps_if (pt_cmpR op_ge (pe_callB call_abs (by rfl) B.m_abs (by decide +kernel) (pa_cons (pv 3) pa_nil)) (pe_op op_pow pe_int pe_int) (nomark _)) (pss_one (ps_expr (pe_bmK (K := K) rfl PySem.F.plainAttrs_list PySem.F.slot_list_append PySem.F.type_list_append mt_append (pv 1) (pa_cons (pe_callB call_abs (by rfl) B.m_abs (by decide +kernel) (pa_cons (pv 3) pa_nil)) pa_nil)))) pss_nil)
      (pss_one (ps_set (i := 2) sc__law_start.nd rfl (.inl rfl) (pe_op op_modN (pe_callTy call_int1 (by rfl) B.m_int (by decide +kernel) (pa_cons (pe_op op_add (pe_op op_add (pe_op op_mul (pv 2) pe_int) (pe_callB call_abs (by rfl) B.m_abs (by decide +kernel) (pa_cons (pv 3) pa_nil))) pe_int) pa_nil)) pe_int)))))
      (pss_one (ps_ret (pe_lst (pa_cons (pv 1) (pa_cons pe_int (pa_cons (pv 2) (pa_cons pe_int pa_nil)))))))))), ?_⟩
    walk_at "begin"
    walk_at "go"
    refine ⟨size_nil, fun p np => ?_⟩
    walk_at "go"
    refine r_forS (xs := ns.map V.int) (Same.seq (same_new np) hS) (fun i σ H' => ∃ (gs : List Int) (m : Int) (y : Option V), σ = [some (.ref a), some (.ref p), some (.int m), y] ∧ H' = upd H p (.lst (gs.map V.int)) ∧ gs.length ≤ i ∧ (∀ n ∈ gs, 0 ≤ n) ∧ 0 ≤ m ∧ m < 2147483647) ?_ ?_ ?_ ?_
    · exact ⟨[], 1, none, rfl, rfl, Nat.le_refl _, (fun n hn => nomatch hn), by decide, by decide⟩
    · rintro i σ H' _ ⟨gs, m, y, _, rfl, _⟩
      exact Same.seq (same_new np) hS
    · rintro i x σ H' hx ⟨gs, m, y, rfl, rfl, h1, h2, h3, h4⟩
      obtain ⟨z, rfl⟩ : ∃ z : Int, x = .int z := by
        rw [List.getElem?_map] at hx
        cases e : ns[i]? with
        | none => rw [e] at hx; cases hx
        | some z => rw [e] at hx; exact ⟨z, (Option.some.inj hx).symm⟩
      have hi : i < 63 := by
        have := (List.getElem?_eq_some_iff.mp hx).1
        rw [List.length_map] at this
        omega
      walk_at "go"
      have fm : ∀ t : Int, 0 ≤ t.fmod 2147483647 ∧ t.fmod 2147483647 < 2147483647 := fun t => ⟨Int.fmod_nonneg_of_pos _ (by decide), Int.fmod_lt_of_pos _ (by decide)⟩
      refine r_ite (fun _ => ?_) (fun _ => ?_)
      · walk_at "go"
        refine ⟨gs ++ [if z < 0 then -z else z], _, _, rfl, by rw [upd_upd, List.map_append]; rfl, by rw [List.length_append, List.length_singleton]; omega, fun n hn => ?_, (fm _).1, (fm _).2⟩
        rcases List.mem_append.mp hn with e | e
        · exact h2 n e
        · rw [List.mem_singleton.mp e]; split <;> omega
      · walk_at "go"
        exact ⟨gs, _, _, rfl, rfl, by omega, h2, (fm _).1, (fm _).2⟩
    · rintro σ H' ⟨gs, m, y, rfl, rfl, h1, h2, h3, h4⟩
      walk_at "go"
      refine ⟨size_le (n := 4) rfl (by decide), fun st ns' => ?_⟩
      have hne : st ≠ p := (upd_none ns').1
      rw [List.length_map] at h1
      exact q st p ⟨gs, 0, m, 0⟩ ⟨hne, ⟨Int.le_refl _, by show (0:Int) ≤ (gs.length : Int); omega, h2, by show gs.length ≤ 63; omega⟩, (upd_none ns').2, np⟩
end
end K53
/-! slices of lists -/
namespace Lw
open PySem PySem.Spec PyProof.Rows L2
theorem cut_to (xs : List V) {c : Int} (h : 0 ≤ c) : cutV xs none (some c) = xs.take c.toNat := by
  obtain ⟨n, rfl⟩ : ∃ n : Nat, c = n := ⟨c.toNat, by omega⟩
  unfold cutV
  rw [HT.sIx_none, HT.sIx_nat, List.drop_zero, Nat.sub_zero, Int.toNat_natCast]
  by_cases hn : n ≤ xs.length
  · rw [Nat.min_eq_left hn]
  · rw [Nat.min_eq_right (by omega), List.take_length, List.take_of_length_le (by omega)]
theorem cut_from (xs : List V) {c : Int} (h : 0 ≤ c) : cutV xs (some c) none = xs.drop c.toNat := by
  obtain ⟨n, rfl⟩ : ∃ n : Nat, c = n := ⟨c.toNat, by omega⟩
  unfold cutV
  rw [HT.sIx_none, HT.sIx_nat, Int.toNat_natCast, List.take_of_length_le (by rw [List.length_drop]; omega)]
  by_cases hn : n ≤ xs.length
  · rw [Nat.min_eq_left hn]
  · rw [Nat.min_eq_right (by omega), List.drop_length, List.drop_of_length_le (by omega)]
section
variable {K : PySem.W.Frag} {σ : L2.St} {H : Hp} {Q : VK}
theorem r_sl {r : V → Option Int → Option Int → Hp → VK → Prop} {te : TE} {tl th : TO} (h : te σ H fun x H1 => tl σ H1 fun l H2 => th σ H2 fun u H3 => r x l u H3 Q) : L2.tSl r te tl th σ H Q := h
theorem r_noPart {q : Option Int → Hp → Prop} (h : q none H) : tNoPart σ H q := h
theorem r_part {t : TE} {q : Option Int → Hp → Prop} (h : t σ H fun x H1 => ∃ i, x = .int i ∧ q (some i) H1) : tPart t σ H q := h
theorem r_i1 {j : Int} {F : Int → Prop} (h : F j) : ∃ i, V.int j = .int i ∧ F i := ⟨j, rfl, h⟩
theorem r_slL {a : Addr} {xs : List V} {lo hi : Option Int} (h : H a = some (.lst xs)) (q : ∀ p, H p = none → Q (.ref p) (upd H p (.lst (cutV xs lo hi)))) : rSlL K (.ref a) lo hi H Q := ⟨a, xs, rfl, SqL.of h, q⟩
end
theorem take_at {α : Type} {xs : List α} {c i : Nat} {x : α} (h : (xs.take c)[i]? = some x) : i < c ∧ xs[i]? = some x := by
  by_cases hi : i < c
  · rw [List.getElem?_take_of_lt hi] at h; exact ⟨hi, h⟩
  · rw [List.getElem?_eq_none (by rw [List.length_take]; omega)] at h; cases h
theorem tk_succ {α : Type} {l : List α} {i : Nat} {x : α} (h : l[i]? = some x) : l.take (i + 1) = l.take i ++ [x] := by rw [List.take_add_one, h]; rfl
end Lw
/-! deep data: equal exactly if the same (no bools, no dicts) -/
namespace Lw
open PySem PySem.Spec PyProof.Rows L2
mutual
def pl : PyData → Bool
  | .none => true
  | .bool _ => false
  | .int _ => true
  | .str _ => true
  | .list xs => plAll xs
  | .tuple xs => plAll xs
  | .dict _ => false
def plAll : List PyData → Bool
  | [] => true
  | x :: r => pl x && plAll r
end
mutual
theorem eqv_iff : ∀ a b : PyData, pl a = true → pl b = true → (PyData.eqv a b = true ↔ a = b)
  | .none, b, _, hb => by cases b <;> simp [PyData.eqv]
  | .bool _, _, ha, _ => by simp [pl] at ha
  | .int i, b, _, hb => by cases b <;> simp [PyData.eqv, pl] at hb ⊢
  | .str s, b, _, hb => by cases b <;> simp [PyData.eqv, pl] at hb ⊢
  | .list xs, b, ha, hb => by
    cases b with
    | list ys =>
      rw [PyData.eqv, eqvAll_iff xs ys (by simpa [pl] using ha) (by simpa [pl] using hb)]
      exact ⟨fun h => by rw [h], fun h => by cases h; rfl⟩
    | _ => simp [PyData.eqv]
  | .tuple xs, b, ha, hb => by
    cases b with
    | tuple ys =>
      rw [PyData.eqv, eqvAll_iff xs ys (by simpa [pl] using ha) (by simpa [pl] using hb)]
      exact ⟨fun h => by rw [h], fun h => by cases h; rfl⟩
    | _ => simp [PyData.eqv]
  | .dict _, _, ha, _ => by simp [pl] at ha
theorem eqvAll_iff : ∀ a b : List PyData, plAll a = true → plAll b = true → (PyData.eqvAll a b = true ↔ a = b)
  | [], [], _, _ => by simp [PyData.eqvAll]
  | [], _ :: _, _, _ => by simp [PyData.eqvAll]
  | _ :: _, [], _, _ => by simp [PyData.eqvAll]
  | x :: xs, y :: ys, ha, hb => by
    simp only [plAll, Bool.and_eq_true] at ha hb
    rw [PyData.eqvAll, Bool.and_eq_true, eqv_iff x y ha.1 hb.1, eqvAll_iff xs ys ha.2 hb.2]
    exact ⟨fun h => by rw [h.1, h.2], fun h => by cases h; exact ⟨rfl, rfl⟩⟩
end
section
variable {K : PySem.W.Frag} {H H' : Hp}
mutual
theorem dp_mono (s : Same H H') : ∀ {v : V} {d : PyData}, Dp K H v d → Dp K H' v d
  | _, _, .non => .non
  | _, _, .bl b => .bl b
  | _, _, .int i => .int i
  | _, _, .str x => .str x
  | _, _, .lst h a => .lst (s.seq h) (dpAll_mono s a)
  | _, _, .tup h a => .tup (h.imp (fun h => h.imp (fun h => s _ _ h) (fun ⟨o, h⟩ => ⟨o, s _ _ h⟩)) id) (dpAll_mono s a)
theorem dpAll_mono (s : Same H H') : ∀ {vs : List V} {ds : List PyData}, DpAll K H vs ds → DpAll K H' vs ds
  | _, _, .nil => .nil
  | _, _, .cons h a => .cons (dp_mono s h) (dpAll_mono s a)
end
theorem dpAll_push : ∀ {vs : List V} {ds : List PyData} {v : V} {d : PyData}, DpAll K H vs ds → Dp K H v d → DpAll K H (vs ++ [v]) (ds ++ [d])
  | _, _, _, _, .nil, e => .cons e .nil
  | _, _, _, _, .cons h a, e => .cons h (dpAll_push a e)
theorem dpAll_len : ∀ {vs : List V} {ds : List PyData}, DpAll K H vs ds → vs.length = ds.length
  | _, _, .nil => rfl
  | _, _, .cons _ a => congrArg Nat.succ (dpAll_len a)
theorem dpAll_at : ∀ {vs : List V} {ds : List PyData} {i : Nat} {v : V}, DpAll K H vs ds → vs[i]? = some v → ∃ d, ds[i]? = some d ∧ Dp K H v d
  | _, _, _, _, .nil, e => by simp at e
  | _, _, 0, _, .cons h a, e => by cases e; exact ⟨_, rfl, h⟩
  | _, _, i + 1, v, .cons h a, e => dpAll_at (i := i) (v := v) a (by simpa using e)
theorem dpAll_get : ∀ {vs : List V} {ds : List PyData} {i : Nat} {d : PyData}, DpAll K H vs ds → ds[i]? = some d → ∃ v, vs[i]? = some v ∧ Dp K H v d
  | _, _, _, _, .nil, e => by simp at e
  | _, _, 0, _, .cons h a, e => by cases e; exact ⟨_, rfl, h⟩
  | _, _, i + 1, d, .cons h a, e => dpAll_get (i := i) (d := d) a (by simpa using e)
end
section
variable {K : PySem.W.Frag} {H : Hp} {Q : VK}
theorem r_eqDd {x y : V} {d e : PyData} (h1 : Dp K H x d) (h2 : Dp K H y e) (s1 : SeqAt.shaped d = true) (s2 : SeqAt.shaped e = true) (p1 : pl d = true) (p2 : pl e = true) (q : ∀ b : Bool, (b = true ↔ d = e) → Q (.bl b) H) : rEqD K x y H Q :=
  ⟨d, e, h1, h2, s1, s2, q _ (eqv_iff d e p1 p2)⟩
theorem r_neDd {x y : V} {d e : PyData} (h1 : Dp K H x d) (h2 : Dp K H y e) (s1 : SeqAt.shaped d = true) (s2 : SeqAt.shaped e = true) (p1 : pl d = true) (p2 : pl e = true) (q : ∀ b : Bool, (b = true ↔ ¬ d = e) → Q (.bl b) H) : rNeD K x y H Q :=
  ⟨d, e, h1, h2, s1, s2, q _ (by rw [Bool.not_eq_true', ← eqv_iff d e p1 p2, Bool.not_eq_true])⟩
theorem plAll_mem : ∀ {ds : List PyData} {d : PyData}, plAll ds = true → d ∈ ds → pl d = true
  | [], _, _, h => absurd h List.not_mem_nil
  | x :: r, d, h, hm => by
    simp only [plAll, Bool.and_eq_true] at h
    rcases List.mem_cons.mp hm with e | e
    · rw [e]; exact h.1
    · exact plAll_mem h.2 e
theorem r_inDd {x y : V} {d : PyData} {ds : List PyData} (h1 : Dp K H x d) (h2 : Dp K H y (.list ds)) (s1 : SeqAt.shaped d = true) (s2 : SeqAt.shaped (.list ds) = true) (p1 : pl d = true) (p2 : plAll ds = true) (q : ∀ b : Bool, (b = true ↔ d ∈ ds) → Q (.bl b) H) : rInD K x y H Q := by
  refine ⟨d, ds, h1, h2, s1, s2, q _ ?_⟩
  rw [List.any_eq_true]
  constructor
  · rintro ⟨z, hz, e⟩
    rw [eqv_iff z d (plAll_mem p2 hz) p1] at e
    rw [← e]; exact hz
  · intro hm
    exact ⟨d, hm, (eqv_iff d d p1 p1).mpr rfl⟩
theorem r_indexDd {a : Addr} {x y : V} {d : PyData} {ds : List PyData} {j : Nat} (hx : x = .ref a) (h1 : Dp K H x (.list ds)) (h2 : Dp K H y d) (s1 : SeqAt.shaped (.list ds) = true) (s2 : SeqAt.shaped d = true) (p1 : plAll ds = true) (p2 : pl d = true)
    (hj : ds[j]? = some d) (hm : ∀ m, m < j → ds[m]? ≠ some d) (q : Q (.int j) H) : rIndexD K x [y] H Q := by
  subst hx
  refine ⟨a, y, d, ds, j, d, rfl, rfl, h1, h2, s1, s2, hj, (eqv_iff d d p2 p2).mpr rfl, fun m z hmj hz => ?_, q⟩
  rw [Bool.eq_false_iff]
  intro e
  rw [eqv_iff z d (plAll_mem p1 (List.mem_of_getElem? hz)) p2] at e
  rw [e] at hz
  exact hm m hmj hz
end
theorem r_iteP {b : Bool} {p : Prop} (h : b = true ↔ p) {A B : Prop} (h1 : p → A) (h2 : ¬ p → B) : if b = true then A else B := by
  cases b with
  | true => exact h1 (h.mp rfl)
  | false => exact h2 fun z => Bool.noConfusion (h.mpr z)
theorem first_of {α : Type} : ∀ {l : List α} {i : Nat} {y : α}, l[i]? = some y → ∃ j, j ≤ i ∧ l[j]? = some y ∧ ∀ m, m < j → l[m]? ≠ some y
  | [], i, y, h => by simp at h
  | x :: l, 0, y, h => ⟨0, Nat.le_refl _, h, fun m hm => absurd hm (Nat.not_lt_zero _)⟩
  | x :: l, i + 1, y, h => by
    by_cases e : (x :: l)[0]? = some y
    · exact ⟨0, Nat.zero_le _, e, fun m hm => absurd hm (Nat.not_lt_zero _)⟩
    · rw [List.getElem?_cons_succ] at h
      obtain ⟨j, h1, h2, h3⟩ := first_of h
      refine ⟨j + 1, by omega, by rw [List.getElem?_cons_succ]; exact h2, fun m hm => ?_⟩
      cases m with
      | zero => exact e
      | succ m => rw [List.getElem?_cons_succ]; exact h3 m (by omega)
/-! shapes -/
theorem sh_list {ds : List PyData} (h : ∀ d ∈ ds, PyData.canLay0 d = true ∧ PyData.depth d ≤ 63) : SeqAt.shaped (.list ds) = true := by
  unfold SeqAt.shaped
  have h1 : ∀ ds : List PyData, (∀ d ∈ ds, PyData.canLay0 d = true ∧ PyData.depth d ≤ 63) → PyData.canLayAll0 ds = true ∧ PyData.depthAll ds ≤ 63 := fun ds => by
    induction ds with
    | nil => intro _; exact ⟨by rw [PyData.canLayAll0], by rw [PyData.depthAll]; omega⟩
    | cons x r ih =>
      intro h
      obtain ⟨e1, e2⟩ := ih fun d hd => h d (List.mem_cons_of_mem _ hd)
      obtain ⟨e3, e4⟩ := h x List.mem_cons_self
      exact ⟨by rw [PyData.canLayAll0, e1, e3]; rfl, by rw [PyData.depthAll]; exact Nat.max_le.mpr ⟨e4, e2⟩⟩
  obtain ⟨e1, e2⟩ := h1 ds h
  rw [PyData.canLay0, e1, PyData.depth]
  exact decide_eq_true (by omega)
theorem plAll_of : ∀ {ds : List PyData}, (∀ d ∈ ds, pl d = true) → plAll ds = true
  | [], _ => rfl
  | x :: r, h => by
    show (pl x && plAll r) = true
    rw [h x List.mem_cons_self, plAll_of fun d hd => h d (List.mem_cons_of_mem _ hd)]; rfl
theorem plI (xs : List Int) : pl (dI xs) = true := plAll_of fun d hd => by
  obtain ⟨i, _, rfl⟩ := List.mem_map.mp hd; rfl
theorem dI_inj {xs ys : List Int} (h : dI xs = dI ys) : xs = ys := by
  have h2 : xs.map PyData.int = ys.map PyData.int := by unfold dI at h; injection h
  exact (List.map_inj_right (fun a b e => by cases e; rfl)).mp h2
/-! keys: a number and two rows -/
def dK (k : Int × List Int × List Int) : PyData := .list [.int k.1, dI k.2.1, dI k.2.2]
theorem dK_inj {x y : Int × List Int × List Int} (h : dK x = dK y) : x = y := by
  unfold dK at h
  injection h with h
  injection h with h1 h
  injection h with h2 h
  injection h with h3 h
  injection h1 with h1
  exact Prod.ext h1 (Prod.ext (dI_inj h2) (dI_inj h3))
theorem plK (k : Int × List Int × List Int) : pl (dK k) = true := by
  unfold dK
  rw [pl]
  refine plAll_of fun d hd => ?_
  rcases List.mem_cons.mp hd with e | hd
  · rw [e]; rfl
  · rcases List.mem_cons.mp hd with e | hd
    · rw [e]; exact plI _
    · rw [List.mem_singleton.mp hd]; exact plI _
theorem layI1 (xs : List Int) : PyData.canLay0 (dI xs) = true := by unfold dI; rw [PyData.canLay0]; exact layI xs
theorem depI1 (xs : List Int) : PyData.depth (dI xs) = 1 := by unfold dI; rw [PyData.depth, depI]
theorem kItems (k : Int × List Int × List Int) : ∀ d ∈ [PyData.int k.1, dI k.2.1, dI k.2.2], PyData.canLay0 d = true ∧ PyData.depth d ≤ 1 := fun d hd => by
  rcases List.mem_cons.mp hd with e | hd
  · rw [e]; exact ⟨by rw [PyData.canLay0], by rw [PyData.depth]; omega⟩
  · rcases List.mem_cons.mp hd with e | hd
    · rw [e]; exact ⟨layI1 _, by rw [depI1]; omega⟩
    · rw [List.mem_singleton.mp hd]; exact ⟨layI1 _, by rw [depI1]; omega⟩
theorem shK (k : Int × List Int × List Int) : SeqAt.shaped (dK k) = true := sh_list fun d hd => ⟨(kItems k d hd).1, by have := (kItems k d hd).2; omega⟩
theorem layK (k : Int × List Int × List Int) : PyData.canLay0 (dK k) = true ∧ PyData.depth (dK k) ≤ 2 := by
  unfold dK
  refine ⟨?_, ?_⟩
  · have := SeqAt.canLay_of_shaped (shK k); unfold dK at this; exact this
  · rw [PyData.depth, PyData.depthAll, PyData.depthAll, PyData.depthAll, PyData.depthAll, depI1, depI1, PyData.depth]; decide
theorem shKs (ks : List (Int × List Int × List Int)) : SeqAt.shaped (.list (ks.map dK)) = true := sh_list fun d hd => by
  obtain ⟨k, _, rfl⟩ := List.mem_map.mp hd
  exact ⟨(layK k).1, by have := (layK k).2; omega⟩
theorem plKs (ks : List (Int × List Int × List Int)) : plAll (ks.map dK) = true := plAll_of fun d hd => by
  obtain ⟨k, _, rfl⟩ := List.mem_map.mp hd; exact plK k
/-! pairs -/
def dT (q : Int × Int) : PyData := .tuple [.int q.1, .int q.2]
theorem Tp.dp {K : PySem.W.Frag} {C : Hp} : ∀ {ts : List Addr} {qs : List (Int × Int)}, Tp C ts qs → DpAll K C (ts.map V.ref) (qs.map dT)
  | [], [], _ => .nil
  | [], _ :: _, h => by have := h.1; simp at this
  | _ :: _, [], h => by have := h.1; simp at this
  | a :: as, r :: rs, h => by
    obtain ⟨r', h1, h2⟩ := h.2 0 a rfl
    have e : r = r' := Option.some.inj h1
    refine .cons (.tup (SqT.of (by rw [e]; exact h2)) (.cons (.int _) (.cons (.int _) .nil))) (Tp.dp ⟨by have := h.1; simpa using this, fun i b hb => ?_⟩)
    obtain ⟨r2, h3, h4⟩ := h.2 (i + 1) b hb
    exact ⟨r2, h3, h4⟩
theorem layT (q : Int × Int) : PyData.canLay0 (dT q) = true ∧ PyData.depth (dT q) ≤ 2 := by
  unfold dT
  exact ⟨rfl, by rw [PyData.depth, PyData.depthAll, PyData.depthAll, PyData.depthAll, PyData.depth, PyData.depth]; decide⟩
theorem shTs (qs : List (Int × Int)) : SeqAt.shaped (.list (qs.map dT)) = true := sh_list fun d hd => by
  obtain ⟨k, _, rfl⟩ := List.mem_map.mp hd
  exact ⟨(layT k).1, by have := (layT k).2; omega⟩
theorem plTs (qs : List (Int × Int)) : plAll (qs.map dT) = true := plAll_of fun d hd => by
  obtain ⟨k, _, rfl⟩ := List.mem_map.mp hd; rfl
theorem r_neNil {K : PySem.W.Frag} {H : Hp} {Q : VK} {a b : Addr} {ts : List Addr} {qs : List (Int × Int)} (h1 : H a = some (.lst (ts.map V.ref))) (ht : Tp H ts qs) (h2 : H b = some (.lst [])) (q : ∀ z : Bool, (z = true ↔ ts ≠ []) → Q (.bl z) H) : rNeD K (.ref a) (.ref b) H Q := by
  refine r_neDd (d := .list (qs.map dT)) (e := .list []) (.lst (SqL.of h1) ht.dp) (.lst (SqL.of h2) .nil) (shTs qs) rfl (plTs qs) rfl fun z hz => q z ?_
  rw [hz]
  constructor
  · intro h e
    have := ht.1
    rw [e] at this
    exact h (by rw [List.length_eq_zero_iff.mp this.symm]; rfl)
  · intro h e
    injection e with e
    rw [List.map_eq_nil_iff] at e
    have := ht.1
    rw [e] at this
    exact h (List.length_eq_zero_iff.mp this)
end Lw
/-! a table: rows of ints as tuple keys, each with its place as value -/
namespace Lw
open PySem PySem.Spec PyProof.Rows L2
def tkey (k : List Int) : List Key := k.map Sum.inl
theorem tkey_inj {k l : List Int} (h : tkey k = tkey l) : k = l := (List.map_inj_right (fun a b e => by cases e; rfl)).mp h
theorem tkey_kV (k : List Int) : (tkey k).map kV = k.map V.int := by
  unfold tkey; rw [List.map_map]; rfl
def tabF (i : Nat) : List (List Int) → List (List Key × V)
  | [] => []
  | k :: r => (tkey k, .int (i : Int)) :: tabF (i + 1) r
def tab (ks : List (List Int)) : List (List Key × V) := tabF 0 ks
theorem tabF_len : ∀ (ks : List (List Int)) (i : Nat), (tabF i ks).length = ks.length
  | [], _ => rfl
  | _ :: r, i => congrArg Nat.succ (tabF_len r (i + 1))
theorem tab_len (ks : List (List Int)) : (tab ks).length = ks.length := tabF_len ks 0
theorem tabF_get : ∀ (ks : List (List Int)) (i : Nat) {j : Nat} {k : List Int}, ks.Nodup → ks[j]? = some k → valV (tabF i ks) (tkey k) = some (.int ((i + j : Nat) : Int))
  | [], _, _, _, _, h => by simp at h
  | x :: r, i, j, k, hn, h => by
    rw [List.nodup_cons] at hn
    unfold valV tabF
    by_cases e : x = k
    · have hj : j = 0 := by
        cases j with
        | zero => rfl
        | succ j => rw [List.getElem?_cons_succ] at h; exact absurd (e ▸ List.mem_of_getElem? h) hn.1
      subst hj e
      rw [List.find?_cons_of_pos (by simp)]; rfl
    · rw [List.find?_cons_of_neg (by simp only [decide_eq_true_eq]; exact fun z => e (tkey_inj z))]
      cases j with
      | zero => simp at h; exact absurd h e
      | succ j =>
        rw [List.getElem?_cons_succ] at h
        have := tabF_get r (i + 1) hn.2 h
        unfold valV at this
        rw [this]
        congr 2
        omega
theorem tabF_none : ∀ (ks : List (List Int)) (i : Nat) {k : List Int}, k ∉ ks → valV (tabF i ks) (tkey k) = none
  | [], _, _, _ => rfl
  | x :: r, i, k, h => by
    unfold valV tabF
    rw [List.find?_cons_of_neg (by simp only [decide_eq_true_eq]; exact fun z => h (by rw [← tkey_inj z]; exact List.mem_cons_self))]
    have := tabF_none r (i + 1) (k := k) fun z => h (List.mem_cons_of_mem _ z)
    unfold valV at this
    exact this
theorem tab_get {ks : List (List Int)} {j : Nat} {k : List Int} (hn : ks.Nodup) (h : ks[j]? = some k) : valV (tab ks) (tkey k) = some (.int (j : Int)) := by
  have := tabF_get ks 0 hn h
  rw [Nat.zero_add] at this; exact this
theorem tab_none {ks : List (List Int)} {k : List Int} (h : k ∉ ks) : valV (tab ks) (tkey k) = none := tabF_none ks 0 h
theorem tabF_push : ∀ (ks : List (List Int)) (i : Nat) (k : List Int), tabF i ks ++ [(tkey k, .int ((i + ks.length : Nat) : Int))] = tabF i (ks ++ [k])
  | [], _, _ => rfl
  | x :: r, i, k => by
    show (tkey x, V.int (i : Int)) :: (tabF (i + 1) r ++ _) = (tkey x, V.int (i : Int)) :: tabF (i + 1) (r ++ [k])
    rw [← tabF_push r (i + 1) k, show i + (x :: r).length = i + 1 + r.length by rw [List.length_cons]; omega]
theorem tabF_any : ∀ (ks : List (List Int)) (i : Nat) {k : List Int}, k ∉ ks → (tabF i ks).any (fun kv => decide (kv.1 = tkey k)) = false
  | [], _, _, _ => rfl
  | x :: r, i, k, h => by
    show (decide (tkey x = tkey k) || (tabF (i + 1) r).any _) = false
    rw [tabF_any r (i + 1) fun z => h (List.mem_cons_of_mem _ z), decide_eq_false (fun z => h (by rw [← tkey_inj z]; exact List.mem_cons_self))]; rfl
theorem tab_put {ks : List (List Int)} {k : List Int} (h : k ∉ ks) : putK (tab ks) (tkey k) (.int (ks.length : Int)) = tab (ks ++ [k]) := by
  unfold putK tab
  rw [tabF_any ks 0 h]
  simp only [Bool.false_eq_true, if_false]
  have := tabF_push ks 0 k
  rw [Nat.zero_add] at this
  exact this
end Lw
namespace Lw
open PySem PySem.Spec PyProof.Rows L2
section
variable {X : Cx}
def rTupleOf (K : PySem.W.Frag) : List V → Hp → VK → Prop := fun xs H Q => ∃ p ys, xs = [.ref p] ∧ ((SqL K H p ys ∧ ∀ l, H l = none → Q (.ref l) (upd H l (.tup ys))) ∨ (SqT K H p ys ∧ Q (.ref p) H))
theorem call_tuple_ofK {K : PySem.W.Frag} (h : X.K = K) : CallR X (.type "tuple") (rTupleOf K) := by subst h; exact call_tuple_of
end
section
variable {K : PySem.W.Frag} {σ : L2.St} {H : Hp} {Q : VK} {D : Ends}
theorem r_tupleOf {a : Addr} {xs : List V} (h : H a = some (.lst xs)) (q : ∀ l, H l = none → Q (.ref l) (upd H l (.tup xs))) : rTupleOf K [.ref a] H Q := ⟨a, xs, rfl, .inl ⟨SqL.of h, q⟩⟩
theorem r_lenTb {a : Addr} {kvs : List (List Key × V)} (h : H a = some (.dT kvs)) (q : Q (.int kvs.length) H) : L2.rLenT [.ref a] H Q := ⟨a, kvs, rfl, h, q⟩
theorem r_dget {td ty : TE} (h : td σ H fun x H1 => ty σ H1 fun y H2 => ∃ a v, x = .ref a ∧ DGet H2 a y (some v) ∧ Q v H2) : tDGet td ty σ H Q := h
theorem r_dnot {td ty : TE} (h : ty σ H fun y H1 => td σ H1 fun x H2 => ∃ a o, x = .ref a ∧ DGet H2 a y o ∧ Q (.bl (!o.isSome)) H2) : tDNotIn ty td σ H Q := h
theorem r_dput {td ty tv : TE} (h : tv σ H fun v H1 => td σ H1 fun x H2 => ty σ H2 fun y H3 => ∃ a H4, x = .ref a ∧ DPut H3 a y v H4 ∧ D.nx σ H4) : sDPut td ty tv D σ H := h
theorem r_dnewT (h : ∀ p, H p = none → Q (.ref p) (upd H p (.dT []))) : tDNewT σ H Q := h
end
end Lw
/-! dicts whose keys are pairs: an int (or a text) and a tuple of ints (and texts) -/
namespace PySem
open Sem (wp)
section
variable {prog : Program} {w : World} {K : Type} [DecidableEq K] (knd : KeyKind prog w K)
def IsPairKey (h : Heap) (k : K × List K) (a : Addr) : Prop := ∃ o v b n, h.get? a = some o ∧ o.cls = .type "tuple" ∧ o.data = .seq #[v, .ref b] n ∧ knd.is k.1 v = true ∧ IsTupleKey knd h k.2 b
variable {knd}
theorem IsPairKey.typeIs {s : Shared} {k : K × List K} {a : Addr} (x : IsPairKey knd s.heap k a) : s.TypeIs (.ref a) "tuple" := let ⟨o, _, _, _, ho, hc, _⟩ := x; ⟨o, ho, hc⟩
theorem IsPairKey.inj {h : Heap} {a : Addr} {x y : K × List K} (hx : IsPairKey knd h x a) (hy : IsPairKey knd h y a) : x = y := by
  obtain ⟨o, v, b, n, ho, _, hd, h1, h2⟩ := hx
  obtain ⟨o', v', b', n', ho', _, hd', h1', h2'⟩ := hy
  obtain rfl : o = o' := Option.some.inj (ho.symm.trans ho')
  rw [hd] at hd'
  injection hd' with q _
  have q2 := congrArg Array.toList q
  simp only [List.cons.injEq, Value.ref.injEq, and_true] at q2
  obtain ⟨rfl, rfl⟩ := q2
  exact Prod.ext (knd.inj _ _ _ h1 h1') (h2.inj h2')
theorem IsPairKey.keeps {h h' : Heap} {k : K × List K} {a d : Addr} {o : Obj} {es ep} (x : IsPairKey knd h k a) (ho : h.get? d = some o) (hd : o.data = .dict es ep) (hs : Heap.SameBut d h h') : IsPairKey knd h' k a := by
  obtain ⟨o', v, b, n, ho', hc, hd', h1, h2⟩ := x
  have hne : a ≠ d := by
    rintro rfl
    obtain rfl : o' = o := Option.some.inj (ho'.symm.trans ho)
    rw [hd] at hd'; exact nomatch hd'
  exact ⟨o', v, b, n, (hs.2 a hne).trans ho', hc, hd', h1, h2.keeps ho hd hs⟩
def pairKeyHash (knd : KeyKind prog w K) (k : K × List K) : Int := reduceHash (Builtin.Tuple.tupleHashOf [knd.hash k.1, tupleKeyHash knd k.2])
variable {A : Around} {E : Value → Shared → Prop} {s : Shared}
theorem wpAny_pyHash_pair {k : K × List K} {a : Addr} {Q : Int → Shared → Prop} (hu : A.units + 1 < cLine) (hk : IsPairKey knd s.heap k a) (h : Q (pairKeyHash knd k) { s with toks := s.toks + (k.2.length + 3) }) :
    wpAny (model prog w) A (pyHash (.ref a)) Q E s := by
  have hT := hk.typeIs
  obtain ⟨o, v, b', n, ho, _, hd, h1, h2⟩ := hk
  unfold pyHash
  first | unfold pyHashByItsType | skip
  first | refine wpAny_bind (wpAny_cRoomFor_or (.inr (by omega)) ?_) | skip
  refine wpAny_bind (wpAny_specialOf hT F.slot_tuple_hash.lookup ?_)
  show wpAny _ _ (if (some (Value.builtin "tuple.__hash__") == some Value.none) = true then _ else _) Q E s
  rw [if_neg (by rw [beq_builtin_none]; exact Bool.false_ne_true)]
  refine wpAny_bind (wpAny_specialOf hT F.slot_tuple_hash.lookup ?_)
  show wpAny _ _ (callSpecialIfBoundUnlessNone? (.ref a) "__hash__" _ >>= _) Q E s
  refine wpAny_bind (wpAny_callSpecialIfBoundUnlessNone?_slot hT F.slot_tuple_hash (wpAny_call_entry F.slot_tuple_hash hT F.entry_tuple_hash ?_ (F.args_tuple_hash_1 _)))
  show wpAny _ _ (Builtin.Tuple.tupleItemsOf (.ref a) >>= _) _ _ s
  refine wpAny_bind (wpAny_tupleItemsOf ho hd ?_)
  refine wpAny_bind ?_
  rw [← Array.forIn_toList]
  refine wpAny_forIn_list _
    (fun rest (b : Array Int) s' => (rest = [v, .ref b'] ∧ b.toList = [] ∧ s' = s) ∨ (rest = [.ref b'] ∧ b.toList = [knd.hash k.1] ∧ s' = { s with toks := s.toks + 1 }) ∨
      (rest = [] ∧ b.toList = [knd.hash k.1, tupleKeyHash knd k.2] ∧ s' = { s with toks := s.toks + (k.2.length + 2) }))
    _ ?_ ?_ _ _ (.inl ⟨rfl, rfl, rfl⟩)
  · rintro x rest b s' (⟨hr, hb, rfl⟩ | ⟨hr, hb, rfl⟩ | ⟨hr, _, _⟩)
    · obtain ⟨rfl, rfl⟩ := List.cons.inj hr
      refine wpAny_bind (knd.pyHash h1 ?_)
      first
        | exact wpAny_pure (.inr (.inl ⟨rfl, by simp [hb], rfl⟩))
        | exact wpAny_bind (wpAny_pure (wpAny_pure (.inr (.inl ⟨rfl, by simp [hb], rfl⟩))))
    · obtain ⟨rfl, rfl⟩ := List.cons.inj hr
      refine wpAny_bind (wpAny_pyHash_tuple (s := { s with toks := s.toks + 1 }) ?_ h2 ?_)
      · exact hu
      · first
          | exact wpAny_pure (.inr (.inr ⟨rfl, by simp [hb], by simp; omega⟩))
          | exact wpAny_bind (wpAny_pure (wpAny_pure (.inr (.inr ⟨rfl, by simp [hb], by simp; omega⟩))))
    · cases hr
  · rintro b s' (⟨hr, _⟩ | ⟨hr, _⟩ | ⟨_, hb, rfl⟩)
    · cases hr
    · cases hr
    · show wpAny _ _ (retInt (Builtin.Tuple.tupleHashOf b.toList)) _ _ _
      rw [hb]
      refine wpAny_ret_mkInt ?_
      show wpAny _ _ (if (decide (-(2 : Int) ^ 63 ≤ Builtin.Tuple.tupleHashOf [knd.hash k.1, tupleKeyHash knd k.2]) && decide (Builtin.Tuple.tupleHashOf [knd.hash k.1, tupleKeyHash knd k.2] < 2 ^ 63)) = true then _ else _) Q E _
      unfold pairKeyHash reduceHash at h
      by_cases hr : (decide (-(2 : Int) ^ 63 ≤ Builtin.Tuple.tupleHashOf [knd.hash k.1, tupleKeyHash knd k.2]) && decide (Builtin.Tuple.tupleHashOf [knd.hash k.1, tupleKeyHash knd k.2] < 2 ^ 63)) = true
      · rw [if_pos hr]
        rw [if_pos hr] at h
        exact wpAny_pure (by simpa [Nat.add_assoc] using h)
      · rw [if_neg hr]
        rw [if_neg hr] at h
        exact wpAny_bind (wpAny_rule (wpAny_pure (by simpa [Nat.add_assoc] using h)))

theorem wpAny_eqIsQuiet_tup {ks : List K} {a : Addr} {m : Nat} {Q : Bool → Shared → Prop} (hk : IsTupleKey knd s.heap ks a) (h : Q true s) : wpAny (model prog w) A (eqIsQuiet (m + 1) (.ref a)) Q E s := by
  have hT := hk.typeIs
  obtain ⟨o, items, n, ho, _, hd, hi⟩ := hk
  unfold eqIsQuiet
  refine wpAny_bind (wpAny_specialOf hT F.slot_tuple_eq.lookup ?_)
  show wpAny _ _ (isInstance (.ref a) (.type "tuple") >>= _) _ _ s
  refine wpAny_bind (wpAny_isInstance hT isSubtype_tuple_tuple ?_)
  simp only [Bool.not_true, Bool.false_eq_true, if_false]
  refine wpAny_bind (wpAny_seqItems ho hd ?_)
  refine wpAny_bind ?_
  show wpAny _ _ (forIn items _ _) _ _ s
  rw [← Array.forIn_toList]
  refine wpAny_forIn_list _ (fun rest r s' => r.1 = none ∧ s' = s ∧ ∀ v ∈ rest, carriedByValue v = true) _ ?_ ?_ _ _ ⟨rfl, rfl, hi.byValue⟩
  · rintro v rest r s' ⟨hr, rfl, hall⟩
    rw [eqIsQuiet_byValue _ (hall v List.mem_cons_self)]
    refine wpAny_bind (wpAny_pure ?_)
    simp only [Bool.not_true, Bool.false_eq_true, if_false]
    exact wpAny_pure ⟨rfl, rfl, fun u hu' => hall u (List.mem_cons_of_mem _ hu')⟩
  · rintro ⟨r1, r2⟩ s' ⟨hr, rfl, _⟩
    simp only at hr
    subst hr
    exact wpAny_pure h
theorem wpAny_eqIsQuiet_pair {k : K × List K} {a : Addr} {Q : Bool → Shared → Prop} (hk : IsPairKey knd s.heap k a) (h : Q true s) : wpAny (model prog w) A (eqIsQuiet 8 (.ref a)) Q E s := by
  have hT := hk.typeIs
  obtain ⟨o, v, b', n, ho, _, hd, h1, h2⟩ := hk
  unfold eqIsQuiet
  refine wpAny_bind (wpAny_specialOf hT F.slot_tuple_eq.lookup ?_)
  show wpAny _ _ (isInstance (.ref a) (.type "tuple") >>= _) _ _ s
  refine wpAny_bind (wpAny_isInstance hT isSubtype_tuple_tuple ?_)
  simp only [Bool.not_true, Bool.false_eq_true, if_false]
  refine wpAny_bind (wpAny_seqItems ho hd ?_)
  refine wpAny_bind ?_
  show wpAny _ _ (forIn #[v, Value.ref b'] _ _) _ _ s
  rw [← Array.forIn_toList]
  refine wpAny_forIn_list _ (fun rest r s' => r.1 = none ∧ s' = s ∧ ∀ u ∈ rest, u = v ∨ u = .ref b') _ ?_ ?_ _ _ ⟨rfl, rfl, fun u hu => by simpa using hu⟩
  · rintro u rest r s' ⟨hr, rfl, hall⟩
    have hnext : ∀ u ∈ rest, u = v ∨ u = .ref b' := fun u hu' => hall u (List.mem_cons_of_mem _ hu')
    rcases hall u List.mem_cons_self with e | e
    · subst e
      rw [eqIsQuiet_byValue _ (knd.byValue _ _ h1)]
      refine wpAny_bind (wpAny_pure ?_)
      simp only [Bool.not_true, Bool.false_eq_true, if_false]
      exact wpAny_pure ⟨rfl, rfl, hnext⟩
    · subst e
      refine wpAny_bind (wpAny_eqIsQuiet_tup (m := 6) h2 ?_)
      simp only [Bool.not_true, Bool.false_eq_true, if_false]
      exact wpAny_pure ⟨rfl, rfl, hnext⟩
  · rintro ⟨r1, r2⟩ s' ⟨hr, rfl, _⟩
    simp only at hr
    subst hr
    exact wpAny_pure h
theorem pair_eq_tree {x y : K × List K} {a b : Addr} {P : Fin → Shared → Prop} (hu : A.units < cLine) (hx : IsPairKey knd s.heap x a) (hy : IsPairKey knd s.heap y b) (h : P (.done (.ret (.bool (decide (x = y))))) s) :
    wpAny (model prog w) A (Builtin.«tuple.__eq__» ⟨[.ref a, .ref b], []⟩) P E s := by
  have hTb := hy.typeIs
  obtain ⟨oa, va, ba, na, hoa, _, hda, hia, hja⟩ := hx
  obtain ⟨ob, vb, bb, nb, hob, _, hdb, hib, hjb⟩ := hy
  show wpAny _ _ (isInstance (.ref b) (.type "tuple") >>= _) _ _ s
  refine wpAny_bind (wpAny_isInstance hTb isSubtype_tuple_tuple ?_)
  simp only [Bool.not_true, Bool.false_eq_true, if_false]
  refine wpAny_bind (wpAny_tupleItemsOf hoa hda ?_)
  refine wpAny_bind (wpAny_tupleItemsOf hob hdb ?_)
  refine wpAny_bind ?_
  refine wpAny_forIn_list _
    (fun rest r s' => r.1 = none ∧ s' = s ∧ ((rest = [(va, vb), (.ref ba, .ref bb)]) ∨ (rest = [(.ref ba, .ref bb)] ∧ x.1 = y.1) ∨ (rest = [] ∧ x.1 = y.1 ∧ x.2 = y.2)))
    _ ?_ ?_ _ _ ⟨rfl, rfl, .inl rfl⟩
  · rintro ⟨u, v⟩ rest r s' ⟨hr, rfl, (hz | ⟨hz, e1⟩ | ⟨hz, _⟩)⟩
    · obtain ⟨e, rfl⟩ := List.cons.inj hz
      obtain ⟨rfl, rfl⟩ := Prod.mk.inj e
      refine wpAny_bind (knd.eqBool (a := x.1) (b := y.1) hia hib ?_)
      by_cases hk : x.1 = y.1
      · rw [decide_eq_true hk]
        simp only [Bool.not_true, Bool.false_eq_true, if_false]
        exact wpAny_pure ⟨by first | trivial | rfl, by first | trivial | rfl, .inr (.inl ⟨by first | trivial | rfl, hk⟩)⟩
      · rw [decide_eq_false hk]
        simp only [Bool.not_false, if_true]
        have hf : decide (x = y) = false := by simp [Prod.ext_iff, hk]
        rw [hf] at h
        exact wpAny_bind (wpAny_pure (wpAny_pure (wpAny_pure h)))
    · obtain ⟨e, rfl⟩ := List.cons.inj hz
      obtain ⟨rfl, rfl⟩ := Prod.mk.inj e
      refine wpAny_bind (wpAny_eqBool_tuple hu hja hjb ?_)
      by_cases hk : x.2 = y.2
      · rw [decide_eq_true hk]
        simp only [Bool.not_true, Bool.false_eq_true, if_false]
        exact wpAny_pure ⟨by first | trivial | rfl, by first | trivial | rfl, .inr (.inr ⟨by first | trivial | rfl, e1, hk⟩)⟩
      · rw [decide_eq_false hk]
        simp only [Bool.not_false, if_true]
        have hf : decide (x = y) = false := by simp [Prod.ext_iff, hk]
        rw [hf] at h
        exact wpAny_bind (wpAny_pure (wpAny_pure (wpAny_pure h)))
    · cases hz
  · rintro ⟨r1, r2⟩ s' ⟨hr, rfl, (hz | ⟨hz, _⟩ | ⟨_, e1, e2⟩)⟩
    · cases hz
    · cases hz
    · simp only at hr
      subst hr
      refine wpAny_pure ?_
      have hfin : decide (x = y) = true := decide_eq_true (Prod.ext e1 e2)
      rw [hfin] at h
      exact h
theorem wpAny_eqBool_pair {x y : K × List K} {a b : Addr} {Q : Bool → Shared → Prop} (hu : A.units + 1 < cLine) (hx : IsPairKey knd s.heap x a) (hy : IsPairKey knd s.heap y b) (h : Q (decide (x = y)) s) :
    wpAny (model prog w) A (eqBool (.ref a) (.ref b)) Q E s := by
  unfold eqBool
  try with_reducible refine wpAny_holding ?_
  show wpAny _ _ (if (Value.ref a == Value.ref b) = true then _ else _) Q E s
  by_cases hab : (Value.ref a == Value.ref b) = true
  · rw [if_pos hab]
    have e : a = b := by have := eq_of_beq hab; injection this
    subst e
    obtain rfl := hx.inj hy
    exact wpAny_bind (wpAny_rule (wpAny_pure (by simpa using h)))
  · rw [if_neg hab]
    exact wpAny_bind (wpAny_richCompare_same_room (op := .Eq) hx.typeIs hy.typeIs F.slot_tuple_eq
      (wpAny_call_entry F.slot_tuple_eq hx.typeIs F.entry_tuple_eq (pair_eq_tree (by first | exact hu | (show _ < _; omega)) hx hy ⟨_, rfl, (fun e => nomatch e), wpAny_truthy_bool h⟩) (F.args_tuple_eq_2 _ _)) (by omega))
end
def pairKind {prog : Program} {w : World} {K : Type} [DecidableEq K] (knd : KeyKind prog w K) : HeapKind prog w (K × List K) where
  is := IsPairKey knd
  hash := pairKeyHash knd
  draws := fun k => k.2.length + 3
  room := fun A => A.units + 1 < cLine
  inj := fun hx hy => hx.inj hy
  keeps := fun x ho hd hs => x.keeps ho hd hs
  pyHash := fun hu hk h => wpAny_pyHash_pair hu hk h
  eqBool := fun hu hx hy h => wpAny_eqBool_pair hu hx hy h
  quiet := fun hk h => wpAny_eqIsQuiet_pair hk h
end PySem

namespace L2
open PySem PySem.Spec PyProof.Rows
abbrev PKey := Key × List Key
/-- the dict at d, its entries told -/
def NdO (P : Program) (w : World) (d : Addr) (xs : List (PKey × Addr × Value)) : HO := .ext fun h => (d == sysModules) = false ∧ xs.length ≤ sizeLine ∧ ∃ o es ep, h.get? d = some o ∧ o.ExactDict ∧ o.data = .dict es ep ∧ es.toList = xs.map (entryOfKey (pairKind (mixKind P w))) ∧ (xs.map (·.1)).Nodup
abbrev KN (H : Hp) : List (PKey × V) → List (PKey × Addr × Value) → Prop := Paired fun p q => p.1 = q.1 ∧ (∃ b, H q.2.1 = some (.tup [kV p.1.1, .ref b]) ∧ H b = some (.tup (p.1.2.map kV))) ∧ RelV p.2 q.2.2
theorem KN.val {H : Hp} {kvs : List (PKey × V)} {xs : List (PKey × Addr × Value)} (r : KN H kvs xs) (k : PKey) : RelO (valV kvs k) ((atKey xs k).map (·.2)) := by
  induction r with
  | nil => exact True.intro
  | @cons p q ps qs h t ih =>
    obtain ⟨k1, v⟩ := p
    obtain ⟨k2, b, u⟩ := q
    obtain ⟨e, _, rv⟩ := h
    cases (show k1 = k2 from e)
    by_cases hk : k1 = k
    · subst hk; simpa [valV, atKey, List.find?_cons, RelO] using rv
    · have e1 : valV ((k1, v) :: ps) k = valV ps k := by simp [valV, List.find?_cons, hk]
      have e2 : (atKey ((k1, b, u) :: qs) k).map (·.2) = (atKey qs k).map (·.2) := by simp [atKey, List.find?_cons, hk]
      rw [e1, e2]; exact ih
theorem KN.repl {H : Hp} {kvs : List (PKey × V)} {xs : List (PKey × Addr × Value)} (r : KN H kvs xs) (k : PKey) {y : V} {u : Value} (ry : RelV y u) :
    KN H (kvs.map fun kv => if kv.1 = k then (kv.1, y) else kv) (xs.map (putAt k u)) := by
  induction r with
  | nil => exact .nil
  | @cons p q ps qs h t ih =>
    obtain ⟨k1, v⟩ := p
    obtain ⟨k2, b, u0⟩ := q
    obtain ⟨e, hb, rv⟩ := h
    cases (show k1 = k2 from e)
    by_cases hk : k1 = k
    · simp only [List.map_cons, putAt, hk, if_true]
      exact .cons ⟨rfl, by subst hk; exact hb, ry⟩ ih
    · simp only [List.map_cons, putAt, hk, if_false]
      exact .cons ⟨rfl, hb, rv⟩ ih
theorem KN.snoc {H : Hp} : ∀ {kvs : List (PKey × V)} {xs : List (PKey × Addr × Value)}, KN H kvs xs → ∀ {p : PKey × V} {q : PKey × Addr × Value}, (p.1 = q.1 ∧ (∃ b, H q.2.1 = some (.tup [kV p.1.1, .ref b]) ∧ H b = some (.tup (p.1.2.map kV))) ∧ RelV p.2 q.2.2) → KN H (kvs ++ [p]) (xs ++ [q])
  | _, _, .nil, _, _, h => .cons h .nil
  | _, _, .cons r t, _, _, h => .cons r (KN.snoc t h)
theorem KN.put {H : Hp} {kvs : List (PKey × V)} {xs : List (PKey × Addr × Value)} (r : KN H kvs xs) (k : PKey) {a b : Addr} {y : V} {u : Value} (ha : H a = some (.tup [kV k.1, .ref b])) (hb : H b = some (.tup (k.2.map kV))) (ry : RelV y u) :
    KN H (putK kvs k y) (storedH xs k a u) := by
  have hv := r.val k
  have hs := hv.isSome_eq
  rw [Option.isSome_map] at hs
  unfold putK storedH
  rw [valV_any, hs]
  by_cases q : (atKey xs k).isSome = true
  · rw [if_pos q, if_pos q]; exact r.repl k ry
  · rw [if_neg q, if_neg q]
    exact r.snoc ⟨rfl, ⟨b, ha, hb⟩, ry⟩
theorem KN.keeps {H H' : Hp} {kvs : List (PKey × V)} {xs : List (PKey × Addr × Value)} (r : KN H kvs xs) (ht : ∀ b ys, H b = some (.tup ys) → H' b = some (.tup ys)) : KN H' kvs xs :=
  Paired.mapP r fun p q z => ⟨z.1, let ⟨b, h1, h2⟩ := z.2.1; ⟨b, ht _ _ h1, ht _ _ h2⟩, z.2.2⟩
/-- the dict at d holds these pairs -/
def Nd (P : Program) (w : World) (H : Hp) (d : Addr) (kvs : List (PKey × V)) : Prop := ∃ xs, H d = some (NdO P w d xs) ∧ KN H kvs xs
theorem Nd.keep {P : Program} {w : World} {H H' : Hp} {d : Addr} {kvs : List (PKey × V)} (n : Nd P w H d kvs) (hd : H' d = H d) (ht : ∀ b ys, H b = some (.tup ys) → H' b = some (.tup ys)) : Nd P w H' d kvs :=
  let ⟨xs, h1, h2⟩ := n; ⟨xs, hd.trans h1, h2.keeps ht⟩
section
variable {P : Program} {w : World} {H : Hp} {h : Heap} {a b d : Addr}
theorem pair_of {k : PKey} (ok : HOk P w H h) (e : H a = some (.tup [kV k.1, .ref b])) (eb : H b = some (.tup (k.2.map kV))) : (pairKind (mixKind P w)).is h k a := by
  obtain ⟨_, its, r, o, h1, h2, n, h3⟩ := (show ObjOk P w H h a (.tup [kV k.1, .ref b]) from ok a _ e)
  cases r with
  | cons r1 r => cases r with
    | cons r2 r => cases r; cases r2; exact ⟨o, _, b, n, h1, h2, h3, kV_is r1, key_of ok eb⟩
theorem nd_of {kvs : List (PKey × V)} (ok : HOk P w H h) (n : Nd P w H d kvs) : kvs.length ≤ sizeLine ∧ (d == sysModules) = false ∧ ∃ xs, H d = some (NdO P w d xs) ∧ KN H kvs xs ∧ h.DictOfH (pairKind (mixKind P w)) d xs := by
  obtain ⟨xs, e, r⟩ := n
  obtain ⟨⟨hd, z, o, es, ep, h1, h2, h3, h4, h5⟩, _, _⟩ := (show ObjOk P w H h d (NdO P w d xs) from ok d _ e)
  refine ⟨by rw [Paired.length r]; exact z, hd, xs, e, r, o, es, ep, h1, h2, h3, h4, fun x hx => ?_, h5⟩
  have all : ∀ {l : List (PKey × V)} {m : List (PKey × Addr × Value)}, KN H l m → ∀ x ∈ m, (pairKind (mixKind P w)).is h x.1 x.2.1 := by
    intro l m q
    induction q with
    | nil => intro x hx; exact nomatch hx
    | @cons p q ps qs hq t ih =>
      intro x hx
      rcases List.mem_cons.mp hx with e | hx
      · subst e
        obtain ⟨b, e1, e2⟩ := hq.2.1
        rw [hq.1] at e1 e2
        exact pair_of ok e1 e2
      · exact ih x hx
  exact all r x hx
theorem ndO_ok {xs : List (PKey × Addr × Value)} {H' : Hp} (hd : (d == sysModules) = false) (z : xs.length ≤ sizeLine) (e : h.DictOfH (pairKind (mixKind P w)) d xs) : ObjOk P w H' h d (NdO P w d xs) := by
  obtain ⟨o, es, ep, h1, h2, h3, h4, _, h5⟩ := e
  exact ⟨⟨hd, z, o, es, ep, h1, h2, h3, h4, h5⟩, ⟨o, h1⟩, fun g1 g2 ⟨x1, x2, o, es, ep, y1, y2⟩ k => ⟨x1, x2, o, es, ep, k _ y1, y2⟩⟩
end
section
variable {X : Cx} {pins : List (Addr × Obj)} {σ : St} {H : Hp} {s : Shared} {a b d : Addr} {k : PKey} {kvs : List (PKey × V)} {v : V} {r : Value} {A : Around} {E : Value → Shared → Prop}
/-- y is the pair k -/
def IsP (H : Hp) (y : V) (k : PKey) : Prop := ∃ a b, y = .ref a ∧ H a = some (.tup [kV k.1, .ref b]) ∧ H b = some (.tup (k.2.map kV))
theorem n_getItem {y : V} {u : Value} {Q : Value → Shared → Prop} (hu : A.units + 2 < cLine) (I : Inv X pins σ H s) (n : Nd X.prog X.w H d kvs) (hp : IsP H y k) (l : valV kvs k = some v) (ry : RelV y u) (h : ∀ w' s', Inv X pins σ H s' → RelV v w' → Q w' s') :
    wpAny (model X.prog X.w) A (getItem (.ref d) u) Q E s := by
  obtain ⟨a, b, rfl, ea, eb⟩ := hp
  cases (show u = Value.ref a from ry)
  obtain ⟨z, hd, xs, _, rel, dd⟩ := nd_of I.hok n
  obtain ⟨w', hw, rw'⟩ := RelO.some_of (v := v) (o := (atKey xs k).map (·.2)) (by rw [← l]; exact rel.val k)
  obtain ⟨p, hp, hp2⟩ := Option.map_eq_some_iff.mp hw
  refine wpAny_getItem_heap (knd := pairKind (mixKind X.prog X.w)) hu (pair_of I.hok ea eb) dd hp ?_
  rw [hp2]
  exact h w' _ (I.tok _) rw'
theorem n_in {y : V} {u : Value} {Q : Value → Shared → Prop} (hu : A.units + 2 < cLine) (I : Inv X pins σ H s) (n : Nd X.prog X.w H d kvs) (hp : IsP H y k) (ry : RelV y u) (h : ∀ s', Inv X pins σ H s' → Q (.bool (valV kvs k).isSome) s') :
    wpAny (model X.prog X.w) A (compareOp .In u (.ref d)) Q E s := by
  obtain ⟨a, b, rfl, ea, eb⟩ := hp
  cases (show u = Value.ref a from ry)
  obtain ⟨z, hd, xs, _, rel, dd⟩ := nd_of I.hok n
  refine wpAny_in_heap (knd := pairKind (mixKind X.prog X.w)) hu (pair_of I.hok ea eb) hd dd ?_
  have q := (rel.val k).isSome_eq
  rw [Option.isSome_map] at q
  rw [← q]
  exact h _ (I.tok _)
theorem n_notIn {y : V} {u : Value} {Q : Value → Shared → Prop} (hu : A.units + 2 < cLine) (I : Inv X pins σ H s) (n : Nd X.prog X.w H d kvs) (hp : IsP H y k) (ry : RelV y u) (h : ∀ s', Inv X pins σ H s' → Q (.bool (!(valV kvs k).isSome)) s') :
    wpAny (model X.prog X.w) A (compareOp .NotIn u (.ref d)) Q E s := by
  obtain ⟨a, b, rfl, ea, eb⟩ := hp
  cases (show u = Value.ref a from ry)
  obtain ⟨z, hd, xs, _, rel, dd⟩ := nd_of I.hok n
  refine wpAny_notIn_heap (knd := pairKind (mixKind X.prog X.w)) hu (pair_of I.hok ea eb) hd dd ?_
  have q := (rel.val k).isSome_eq
  rw [Option.isSome_map] at q
  rw [← q]
  exact h _ (I.tok _)
theorem n_setItem {y : V} {u : Value} {Q : Unit → Shared → Prop} (hu : A.units + 2 < cLine) (I : Inv X pins σ H s) (n : Nd X.prog X.w H d kvs) (hp : IsP H y k) (hl : kvs.length < sizeLine) (ry : RelV y u) (rv : RelV v r)
    (h : ∀ H' s', (∀ c, c ≠ d → H' c = H c) → Nd X.prog X.w H' d (putK kvs k v) → Inv X pins σ H' s' → Q () s') :
    wpAny (model X.prog X.w) A (setItem (.ref d) u r) Q E s := by
  obtain ⟨a, b, rfl, ea, eb⟩ := hp
  cases (show u = Value.ref a from ry)
  obtain ⟨z, hd, xs, e, rel, dd⟩ := nd_of I.hok n
  have hz : xs.length ≤ sizeLine := by rw [← Paired.length rel]; exact z
  have hl2 : (putK kvs k v).length ≤ sizeLine := by have := length_putK kvs k v; omega
  have rel2 := rel.put k ea eb rv
  have hz2 : (storedH xs k a r).length ≤ sizeLine := by rw [← Paired.length rel2]; exact hl2
  refine wpAny_setItem_heap (hsz := hz) (knd := pairKind (mixKind X.prog X.w)) hu (pair_of I.hok ea eb) dd fun h' dd' hs => ?_
  have he : ∃ q, h'.get? d = some q := let ⟨q, _, _, hq, _⟩ := dd'; ⟨q, hq⟩
  refine h (upd H d (NdO X.prog X.w d (storedH xs k a r))) _ (fun c hc => upd_ne hc) ⟨_, upd_same, rel2.keeps fun c ys ec => ?_⟩ (d_write I (by rw [e]; exact True.intro) hs he (ndO_ok hd hz2 dd'))
  rw [upd_ne (ne_of ec e (fun z => nomatch z))]
  exact ec
end
/-- d[y] -/
def tNGet (P : Program) (w : World) (td ty : TE) : TE := fun σ H Q => td σ H fun x H1 => ty σ H1 fun y H2 => ∃ a kvs k v, x = .ref a ∧ Nd P w H2 a kvs ∧ IsP H2 y k ∧ valV kvs k = some v ∧ Q v H2
def tNIn (P : Program) (w : World) (neg : Bool) (ty td : TE) : TE := fun σ H Q => ty σ H fun y H1 => td σ H1 fun x H2 => ∃ a kvs k, x = .ref a ∧ Nd P w H2 a kvs ∧ IsP H2 y k ∧ Q (.bl (if neg then !(valV kvs k).isSome else (valV kvs k).isSome)) H2
def sNPut (P : Program) (w : World) (td ty tv : TE) : TS := fun D σ H => tv σ H fun v H1 => td σ H1 fun x H2 => ty σ H2 fun y H3 => ∃ a kvs k, x = .ref a ∧ Nd P w H3 a kvs ∧ IsP H3 y k ∧ kvs.length < sizeLine ∧
  ∀ H4, (∀ c, c ≠ a → H4 c = H3 c) → Nd P w H4 a (putK kvs k v) → D.nx σ H4
def tNNew (P : Program) (w : World) : TE := fun _ H Q => ∀ p H', H p = none → (∀ c, c ≠ p → H' c = H c) → Nd P w H' p [] → Q (.ref p) H'
def rNLen (P : Program) (w : World) : List V → Hp → VK → Prop := fun xs H Q => ∃ (p : Addr) (kvs : List (PKey × V)), xs = [.ref p] ∧ Nd P w H p kvs ∧ Q (.int ((kvs.length : Nat) : Int)) H
section
variable {X : Cx} {o i e value : Expr} {pos pos' tpos : Pos} {td ty tv : TE}
theorem nd_typeIs {pins : List (Addr × Obj)} {σ : St} {H : Hp} {s : Shared} {a : Addr} {kvs : List (PKey × V)} (I : Inv X pins σ H s) (n : Nd X.prog X.w H a kvs) : s.TypeIs (.ref a) "dict" := by
  obtain ⟨_, _, xs, _, _, dd⟩ := nd_of I.hok n
  exact dd.typeIs
theorem pe_nget (hu : X.A.units + 2 < cLine) (ho : PE X o td) (hi : PE X i ty) (hs : NoSl i) : PE X (.Subscript o i pos) (tNGet X.prog X.w td ty) := by
  refine ⟨fun pins s σ H Q I h => ?_⟩
  refine subD_of PySem.F.slot_dict_getitem.lookup hs (thn (ho.run pins s σ H _ I h) fun u s1 ⟨x, H1, I1, rx, q1⟩ => thn (hi.run pins s1 σ H1 _ I1 q1) fun iv s2 ⟨y, H2, I2, ry, a, kvs, k, v, ex, n, hp, l, q2⟩ => ?_)
  subst ex
  obtain rfl : u = Value.ref a := rx
  exact ⟨nd_typeIs I2 n, n_getItem hu I2 n hp l ry fun w' s3 I3 rw' => ⟨v, H2, I3, rw', q2⟩⟩
theorem pc_nin (hu : X.A.units + 2 < cLine) (hi : PE X i ty) (ho : PE X o td) : PC X .In i o (tNIn X.prog X.w false ty td) := by
  refine ⟨fun pins s σ H Q I h => ?_⟩
  refine thn (hi.run pins s σ H _ I h) fun iv s1 ⟨y, H1, I1, ry, q1⟩ => thn (ho.run pins s1 σ H1 _ I1 q1) fun u s2 ⟨x, H2, I2, rx, a, kvs, k, ex, n, hp, q2⟩ => ?_
  subst ex
  obtain rfl : u = Value.ref a := rx
  exact n_in hu I2 n hp ry fun s3 I3 => ⟨.bl (valV kvs k).isSome, H2, I3, rfl, q2⟩
theorem pc_nnotin (hu : X.A.units + 2 < cLine) (hi : PE X i ty) (ho : PE X o td) : PC X .NotIn i o (tNIn X.prog X.w true ty td) := by
  refine ⟨fun pins s σ H Q I h => ?_⟩
  refine thn (hi.run pins s σ H _ I h) fun iv s1 ⟨y, H1, I1, ry, q1⟩ => thn (ho.run pins s1 σ H1 _ I1 q1) fun u s2 ⟨x, H2, I2, rx, a, kvs, k, ex, n, hp, q2⟩ => ?_
  subst ex
  obtain rfl : u = Value.ref a := rx
  exact n_notIn hu I2 n hp ry fun s3 I3 => ⟨.bl (!(valV kvs k).isSome), H2, I3, rfl, q2⟩
theorem ps_nput (hu : X.A.units + 2 < cLine) (ho : PE X o td) (hi : PE X i ty) (hv : PE X value tv) (hs : swapsWith value (some (.Subscript o i pos')) pos.line X.env = pure false) :
    PS X (.Assign [.Subscript o i pos'] value pos) (sNPut X.prog X.w td ty tv) := by
  refine ⟨fun pins s σ H D I h => ?_⟩
  refine wpAny_Assign_Subscript (thn (hv.run pins s σ H _ I h) fun r s1 ⟨v, H1, I1, rv, q1⟩ => thn (ho.run pins s1 σ H1 _ I1 q1) fun u s2 ⟨x, H2, I2, rx, q2⟩ => thn (hi.run pins s2 σ H2 _ I2 q2) fun iv s3 ⟨y, H3, I3, ry, a, kvs, k, ex, n, hp, hl, q3⟩ => ?_) hs
  subst ex
  obtain rfl : u = Value.ref a := rx
  exact n_setItem hu I3 n hp hl ry rv fun H4 s4 c4 n4 I4 => ⟨σ, H4, I4, q3 H4 c4 n4⟩
theorem pe_nnew : PE X (.Dict [] [] pos) (tNNew X.prog X.w) := ⟨fun pins s σ H Q I h =>
  have hn : H s.heap.objs.size = none := I.hok.fresh (Nat.le_refl _)
  wpAny_Dict_empty ⟨.ref s.heap.objs.size, _, I.laid (a := s.heap.objs.size) (o := NdO X.prog X.w s.heap.objs.size []) (t' := s.toks) (fun _ _ q => Heap.get?_push_of_some _ q) (Nat.le_refl _)
    (ndO_ok (beq_eq_false_iff_ne.mpr (Ne.symm (Nat.ne_of_lt I.big))) (Nat.zero_le _) (Heap.DictOfH.new s.heap)), rfl, h _ _ hn (fun c hc => upd_ne hc) ⟨[], upd_same, .nil⟩⟩⟩
theorem call_len_nd : CallR X (.builtin "len") (rNLen X.prog X.w) := by
  intro pins s σ H xs us Q I r h
  obtain ⟨p, kvs, rfl, hp, q⟩ := h
  obtain ⟨u, rfl, rx⟩ := vals1 r
  obtain rfl : u = .ref p := rx
  obtain ⟨z, hd, ys, _, rel, dd⟩ := nd_of I.hok hp
  have hl : kvs.length = ys.length := Paired.length rel
  refine call_len_dictH hd dd (by rw [← hl]; rw [sizeLine_eq] at z; omega) ?_
  rw [← hl]
  exact ⟨.int ((kvs.length : Nat) : Int), H, I.tok _, ⟨_, rfl⟩, q⟩
end
end L2
/-! plain mathematics: drawings as relations; no program in sight -/
namespace Lm
/-- places in order, each once, below n: at most n of them -/
theorem nodup_le {n : Nat} : ∀ {l : List Nat}, l.Nodup → (∀ x ∈ l, x < n) → l.length ≤ n := by
  induction n with
  | zero =>
    intro l _ h
    match l, h with
    | [], _ => exact Nat.le_refl _
    | x :: _, h => exact absurd (h x List.mem_cons_self) (Nat.not_lt_zero _)
  | succ n ih =>
    intro l hn h
    have h1 : (l.erase n).length ≤ n := ih (hn.erase n) fun x hx => by
      have h2 := (List.Nodup.mem_erase_iff hn).mp hx
      have := h x h2.2
      have h3 := h2.1
      omega
    have h2 : l.length ≤ (l.erase n).length + 1 := by
      by_cases hm : n ∈ l
      · rw [List.length_erase_of_mem hm]; omega
      · rw [List.erase_of_not_mem hm]; omega
    omega
theorem nodup_all {n : Nat} {l : List Nat} (hn : l.Nodup) (h : ∀ x ∈ l, x < n) (hl : l.length = n) : ∀ x, x < n → x ∈ l := fun x hx => by
  by_cases hm : x ∈ l
  · exact hm
  · have h1 : (x :: l).length ≤ n := nodup_le (List.nodup_cons.mpr ⟨hm, hn⟩) fun y hy => by
      rcases List.mem_cons.mp hy with e | e
      · rw [e]; exact hx
      · exact h y e
    rw [List.length_cons] at h1
    omega
/-- a walk of n + 1 places below n meets one twice -/
theorem twice {n : Nat} (f : Nat → Nat) (h : ∀ i, i ≤ n → f i < n) : ∃ i j, i < j ∧ j ≤ n ∧ f i = f j := by
  refine Classical.byContradiction fun hc => ?_
  have nd : ((List.range (n + 1)).map f).Nodup := by
    rw [List.Nodup, List.pairwise_map]
    refine List.Pairwise.imp_of_mem (fun {a b} ha hb hab => ?_) List.pairwise_lt_range
    exact fun e => hc ⟨a, b, hab, by have := List.mem_range.mp hb; omega, e⟩
  have h1 := nodup_le nd fun x hx => by
    obtain ⟨i, hi, rfl⟩ := List.mem_map.mp hx
    exact h i (by have := List.mem_range.mp hi; omega)
  rw [List.length_map, List.length_range] at h1
  omega
/-! ### paths -/
variable (E : Nat → Nat → Prop)
/-- by one step or more -/
inductive Tc : Nat → Nat → Prop
  | one {a b : Nat} : E a b → Tc a b
  | more {a b c : Nat} : Tc a b → E b c → Tc a c
/-- by any number of steps -/
def Rc (a b : Nat) : Prop := a = b ∨ Tc E a b
variable {E}
theorem Tc.trans {a b c : Nat} (h : Tc E a b) (h2 : Tc E b c) : Tc E a c := by
  induction h2 with
  | one e => exact .more h e
  | more _ e ih => exact .more ih e
theorem Tc.front {a b c : Nat} (e : E a b) (h : Tc E b c) : Tc E a c := Tc.trans (.one e) h
theorem Rc.step {a b c : Nat} (h : Rc E a b) (e : E b c) : Rc E a c := by
  rcases h with rfl | h
  · exact .inr (.one e)
  · exact .inr (.more h e)
/-- what is closed and holds the start holds all that is reached -/
theorem Rc.closed {P : Nat → Prop} {a b : Nat} (h : Rc E a b) (ha : P a) (hc : ∀ x y, P x → E x y → P y) : P b := by
  rcases h with rfl | h
  · exact ha
  · induction h with
    | one e => exact hc _ _ ha e
    | more _ e ih => exact hc _ _ ih e
/-- a measure that falls along each step: no ring -/
theorem no_ring {μ : Nat → Nat} (h : ∀ a b, E a b → μ b < μ a) {a b : Nat} (t : Tc E a b) : μ b < μ a := by
  induction t with
  | one e => exact h _ _ e
  | more _ e ih => exact Nat.lt_trans (h _ _ e) ih
/-- where each place of U leads on into U there is a ring -/
theorem ring_of {n : Nat} {U : Nat → Prop} (hb : ∀ a, U a → a < n) (hs : ∀ a, U a → ∃ b, U b ∧ E a b) {a : Nat} (ha : U a) : ∃ k, U k ∧ Tc E k k := by
  have ch1 : ∀ x, ∃ y, U x → U y ∧ E x y := fun x => by
    by_cases h : U x
    · obtain ⟨y, hy⟩ := hs x h
      exact ⟨y, fun _ => hy⟩
    · exact ⟨0, fun q => absurd q h⟩
  have ch : ∃ g : Nat → Nat, ∀ x, U x → U (g x) ∧ E x (g x) := ⟨fun x => Classical.choose (ch1 x), fun x => Classical.choose_spec (ch1 x)⟩
  obtain ⟨g, hg⟩ := ch
  have hf : ∀ i, U (Nat.rec (motive := fun _ => Nat) a (fun _ x => g x) i) := by
    intro i
    induction i with
    | zero => exact ha
    | succ i ih => exact (hg _ ih).1
  generalize hF : (fun i => (Nat.rec (motive := fun _ => Nat) a (fun _ x => g x) i : Nat)) = F at *
  have hF0 : ∀ i, U (F i) := fun i => by rw [← hF]; exact hf i
  have hF1 : ∀ i, E (F i) (F (i + 1)) := fun i => by
    have := (hg (F i) (hF0 i)).2
    rw [← hF] at this ⊢
    exact this
  obtain ⟨i, j, hij, _, e⟩ := twice (n := n) F fun i _ => hb _ (hF0 i)
  have path : ∀ d, Tc E (F i) (F (i + d + 1)) := fun d => by
    induction d with
    | zero => exact .one (hF1 i)
    | succ d ih => exact .more ih (hF1 (i + d + 1))
  have h2 := path (j - i - 1)
  rw [show i + (j - i - 1) + 1 = j by omega, ← e] at h2
  exact ⟨F i, hF0 i, h2⟩
/-! ### the closure, place by place -/
/-- a path whose inner places are below k -/
inductive Via (E : Nat → Nat → Prop) (k : Nat) : Nat → Nat → Prop
  | one {a b : Nat} : E a b → Via E k a b
  | more {a b c : Nat} : Via E k a b → b < k → E b c → Via E k a c
theorem Via.tc {k a b : Nat} (h : Via E k a b) : Tc E a b := by
  induction h with
  | one e => exact .one e
  | more _ _ e ih => exact .more ih e
theorem Via.mono {k l a b : Nat} (h : Via E k a b) (hl : k ≤ l) : Via E l a b := by
  induction h with
  | one e => exact .one e
  | more _ h e ih => exact .more ih (Nat.lt_of_lt_of_le h hl) e
theorem Via.of {n a b : Nat} (hn : ∀ a b, E a b → b < n) (h : Tc E a b) : Via E n a b := by
  induction h with
  | one e => exact .one e
  | @more b c h e ih =>
    refine .more ih ?_ e
    cases h with
    | one e' => exact hn _ _ e'
    | more _ e' => exact hn _ _ e'
theorem Via.app {k a b c : Nat} (h : Via E k a b) (hb : b < k) (h2 : Via E k b c) : Via E k a c := by
  induction h2 with
  | one e => exact .more h hb e
  | more _ hk e ih => exact .more ih hk e
/-- a path by places below k + 1 is one below k, or goes by k -/
theorem Via.split {k a c : Nat} (h : Via E (k + 1) a c) : Via E k a c ∨ (Via E k a k ∧ Via E k k c) := by
  induction h with
  | one e => exact .inl (.one e)
  | @more b c h hb e ih =>
    by_cases hk : b = k
    · subst hk
      refine .inr ⟨?_, .one e⟩
      rcases ih with q | q
      · exact q
      · exact q.1
    · rcases ih with q | q
      · exact .inl (.more q (by omega) e)
      · exact .inr ⟨q.1, .more q.2 (by omega) e⟩
theorem Via.join {k a c : Nat} (h : Via E k a k) (h2 : Via E k k c) : Via E (k + 1) a c := (h.mono (Nat.le_succ k)).app (Nat.lt_succ_self k) (h2.mono (Nat.le_succ k))
end Lm
namespace Lm
/-! ### rows of places -/
/-- place b stands in the row of place a -/
def Ed (rs : List (List Int)) (a b : Nat) : Prop := ∃ r, rs[a]? = some r ∧ (b : Int) ∈ r
/-- every place in a row is one of the rows' own -/
def In (rs : List (List Int)) : Prop := ∀ r ∈ rs, ∀ e ∈ r, 0 ≤ e ∧ e < (rs.length : Int)
theorem In.lt {rs : List (List Int)} (h : In rs) {a b : Nat} (e : Ed rs a b) : b < rs.length := by
  obtain ⟨r, hr, hb⟩ := e
  have := (h r (List.mem_of_getElem? hr) _ hb).2
  omega
theorem In.gt {rs : List (List Int)} {a b : Nat} (e : Ed rs a b) : a < rs.length := by
  obtain ⟨r, hr, _⟩ := e
  exact (List.getElem?_eq_some_iff.mp hr).1
/-! ### all that is reached -/
structure Ds (rs : List (List Int)) (p : Nat) (bs : List Bool) (ws : List Int) (X : Nat → Prop) : Prop where
  len : bs.length = rs.length
  start : bs[p]? = some true
  reach : ∀ i : Nat, bs[i]? = some true → Rc (Ed rs) p i
  wait : ∀ w ∈ ws, 0 ≤ w ∧ w < (rs.length : Int) ∧ bs[w.toNat]? = some true
  closed : ∀ i : Nat, bs[i]? = some true → (i : Int) ∈ ws ∨ X i ∨ ∀ c, Ed rs i c → bs[c]? = some true
section
variable {rs : List (List Int)} {p : Nat} {bs : List Bool} {ws : List Int} {X : Nat → Prop}
theorem Ds.init {n : Nat} (hn : rs.length = n) (hp : p < n) : Ds rs p ((List.replicate n false).set p true) [(p : Int)] (fun _ => False) := by
  refine ⟨by rw [List.length_set, List.length_replicate, hn], ?_, fun i hi => ?_, fun w hw => ?_, fun i hi => ?_⟩
  · rw [List.getElem?_set_self (by rw [List.length_replicate]; exact hp)]
  · by_cases e : p = i
    · exact .inl e
    · rw [List.getElem?_set_ne e, List.getElem?_replicate] at hi
      split at hi <;> cases hi
  · rw [List.mem_singleton.mp hw]
    refine ⟨by omega, by omega, ?_⟩
    rw [Int.toNat_natCast, List.getElem?_set_self (by rw [List.length_replicate]; exact hp)]
  · by_cases e : p = i
    · exact .inl (by rw [e]; exact List.mem_singleton.mpr rfl)
    · rw [List.getElem?_set_ne e, List.getElem?_replicate] at hi
      split at hi <;> cases hi
theorem Ds.pop {w : Int} (d : Ds rs p bs ws (fun _ => False)) (hw : ws[ws.length - 1]? = some w) : Ds rs p bs ws.dropLast (fun i => i = w.toNat) := by
  have hne : ws ≠ [] := fun e => by rw [e] at hw; simp at hw
  have e1 : ws = ws.dropLast ++ [w] := by
    have h2 := List.dropLast_concat_getLast hne
    have h3 : ws.getLast hne = w := by
      rw [List.getLast_eq_getElem]
      exact (List.getElem?_eq_some_iff.mp hw).2
    rw [h3] at h2
    exact h2.symm
  refine ⟨d.len, d.start, d.reach, fun x hx => d.wait x ?_, fun i hi => ?_⟩
  · rw [e1]; exact List.mem_append_left _ hx
  · rcases d.closed i hi with q | q | q
    · rw [e1] at q
      rcases List.mem_append.mp q with z | z
      · exact .inl z
      · exact .inr (.inl (by have := List.mem_singleton.mp z; omega))
    · exact q.elim
    · exact .inr (.inr q)
theorem Ds.mark {cur h : Nat} (d : Ds rs p bs ws X) (hc : bs[cur]? = some true) (e : Ed rs cur h) (hi : h < rs.length) : Ds rs p (bs.set h true) (ws ++ [(h : Int)]) X := by
  have hl : h < bs.length := by rw [d.len]; exact hi
  have keep : ∀ i : Nat, bs[i]? = some true → (bs.set h true)[i]? = some true := fun i q => by
    by_cases z : h = i
    · rw [← z, List.getElem?_set_self hl]
    · rw [List.getElem?_set_ne z]; exact q
  refine ⟨by rw [List.length_set]; exact d.len, keep _ d.start, fun i q => ?_, fun w hw => ?_, fun i q => ?_⟩
  · by_cases z : h = i
    · rw [← z]; exact (d.reach cur hc).step e
    · rw [List.getElem?_set_ne z] at q; exact d.reach i q
  · rcases List.mem_append.mp hw with z | z
    · exact ⟨(d.wait w z).1, (d.wait w z).2.1, keep _ (d.wait w z).2.2⟩
    · rw [List.mem_singleton.mp z]
      exact ⟨by omega, by omega, by rw [Int.toNat_natCast, List.getElem?_set_self hl]⟩
  · by_cases z : h = i
    · exact .inl (by rw [← z]; exact List.mem_append_right _ (List.mem_singleton.mpr rfl))
    · rw [List.getElem?_set_ne z] at q
      rcases d.closed i q with y | y | y
      · exact .inl (List.mem_append_left _ y)
      · exact .inr (.inl y)
      · exact .inr (.inr fun c hc => keep c (y c hc))
theorem Ds.done {cur : Nat} (d : Ds rs p bs ws (fun i => i = cur)) (h : ∀ c, Ed rs cur c → bs[c]? = some true) : Ds rs p bs ws (fun _ => False) :=
  ⟨d.len, d.start, d.reach, d.wait, fun i hi => by
    rcases d.closed i hi with q | q | q
    · exact .inl q
    · exact .inr (.inr (by rw [q]; exact h))
    · exact .inr (.inr q)⟩
theorem Ds.final (d : Ds rs p bs [] (fun _ => False)) (i : Nat) : bs[i]? = some true ↔ Rc (Ed rs) p i := by
  refine ⟨d.reach i, fun h => h.closed (P := fun i => bs[i]? = some true) d.start fun x y hx e => ?_⟩
  rcases d.closed x hx with q | q | q
  · exact absurd q List.not_mem_nil
  · exact q.elim
  · exact q y e
theorem count_set {bs : List Bool} {h : Nat} (e : bs[h]? = some false) : (bs.set h true).count false + 1 = bs.count false := by
  induction bs generalizing h with
  | nil => simp at e
  | cons b r ih =>
    cases h with
    | zero =>
      have : b = false := Option.some.inj e
      subst this
      simp
    | succ h =>
      have h2 := ih (h := h) e
      rw [List.set_cons_succ, List.count_cons, List.count_cons]
      omega
end
/-! ### settled places -/
/-- how many of a row's places are not among those -/
def miss (S : List Int) (r : List Int) : Nat := r.countP fun h => decide (h ∉ S)
theorem miss_zero {S r : List Int} : miss S r = 0 ↔ ∀ h ∈ r, h ∈ S := by
  unfold miss
  rw [List.countP_eq_zero]
  constructor
  · intro q h hr
    have := q h hr
    simpa using this
  · intro q h hr
    have := q h hr
    simpa using this
theorem miss_push {S r : List Int} {l : Int} (hl : l ∉ S) : miss S r = miss (S ++ [l]) r + r.count l := by
  unfold miss
  induction r with
  | nil => rfl
  | cons a r ih =>
    rw [List.countP_cons, List.countP_cons, List.count_cons, ih]
    by_cases e : a = l
    · subst e
      simp [hl]; omega
    · by_cases h : a ∈ S
      · simp [h, e]
      · simp [h, e]; omega
theorem miss_nil {r : List Int} : miss [] r = r.length := by
  unfold miss
  rw [List.countP_eq_length.mpr]
  intro a _
  simp
end Lm

namespace Lm
theorem nodup_miss {n : Nat} : ∀ {l : List Nat}, l.Nodup → (∀ x ∈ l, x < n) → l.length < n → ∃ x, x < n ∧ x ∉ l := by
  induction n with
  | zero => intro l _ _ h; exact absurd h (Nat.not_lt_zero _)
  | succ n ih =>
    intro l hn h hl
    by_cases hm : n ∈ l
    · have e := List.length_erase_of_mem hm
      have hp := List.length_pos_of_mem hm
      obtain ⟨x, hx, hx2⟩ := ih (hn.erase n) (fun x hx => by
        have h2 := (List.Nodup.mem_erase_iff hn).mp hx
        have := h x h2.2
        have h3 := h2.1
        omega) (by omega)
      exact ⟨x, by omega, fun q => hx2 ((List.Nodup.mem_erase_iff hn).mpr ⟨by omega, q⟩)⟩
    · exact ⟨n, Nat.lt_succ_self n, hm⟩
theorem nat_list {ss : List Int} {n : Nat} (hn : ss.Nodup) (h : ∀ s ∈ ss, 0 ≤ s ∧ s < (n : Int)) : (ss.map Int.toNat).Nodup ∧ ∀ x ∈ ss.map Int.toNat, x < n := by
  constructor
  · rw [List.Nodup, List.pairwise_map]
    refine List.Pairwise.imp_of_mem (fun {a b} ha hb hab e => ?_) hn
    have := h a ha
    have := h b hb
    exact hab (by omega)
  · intro x hx
    obtain ⟨s, hs, rfl⟩ := List.mem_map.mp hx
    have := h s hs
    omega
theorem at_inj {α : Type} {l : List α} (hn : l.Nodup) {i j : Nat} {x : α} (hi : l[i]? = some x) (hj : l[j]? = some x) : i = j := by
  obtain ⟨h1, e1⟩ := List.getElem?_eq_some_iff.mp hi
  obtain ⟨h2, e2⟩ := List.getElem?_eq_some_iff.mp hj
  exact (List.getElem_inj hn).mp (e1.trans e2.symm)
/-- who holds whom -/
def Hd (rs hs : List (List Int)) : Prop := hs.length = rs.length ∧ (∀ l ∈ hs, ∀ e ∈ l, 0 ≤ e ∧ e < (rs.length : Int)) ∧
  ∀ (l p : Nat) hl r, hs[l]? = some hl → rs[p]? = some r → hl.count (p : Int) = r.count (l : Int)
structure Kn (rs : List (List Int)) (ms ss : List Int) (q : Nat) : Prop where
  nd : ss.Nodup
  rng : ∀ s ∈ ss, 0 ≤ s ∧ s < (rs.length : Int)
  le : q ≤ ss.length
  len : ms.length = rs.length
  val : ∀ (p : Nat) r, rs[p]? = some r → ms[p]? = some ((miss (ss.take q) r : Nat) : Int)
  zero : ∀ (p : Nat) r, rs[p]? = some r → ((p : Int) ∈ ss ↔ miss (ss.take q) r = 0)
  ord : ∀ (i : Nat) s r, ss[i]? = some s → rs[s.toNat]? = some r → ∀ h ∈ r, ∃ j, j < i ∧ ss[j]? = some h
/-- within a turn: l is the settled place at q, done are those of its holders -/
structure Km (rs : List (List Int)) (ms ss : List Int) (q : Nat) (l : Int) (done : List Int) : Prop where
  nd : ss.Nodup
  rng : ∀ s ∈ ss, 0 ≤ s ∧ s < (rs.length : Int)
  cur : ss[q]? = some l
  len : ms.length = rs.length
  val : ∀ (p : Nat) r, rs[p]? = some r → ∃ v : Nat, ms[p]? = some (v : Int) ∧ v + done.count (p : Int) = miss (ss.take q) r ∧ ((p : Int) ∈ ss ↔ v = 0)
  ord : ∀ (i : Nat) s r, ss[i]? = some s → rs[s.toNat]? = some r → ∀ h ∈ r, ∃ j, j < i ∧ ss[j]? = some h
section
variable {rs hs : List (List Int)} {ms ss : List Int} {q : Nat} {l : Int}
theorem Kn.lt (k : Kn rs ms ss q) : ss.length ≤ rs.length := by
  obtain ⟨h1, h2⟩ := nat_list k.nd k.rng
  have := nodup_le h1 h2
  rwa [List.length_map] at this
theorem Km.lt {done : List Int} (k : Km rs ms ss q l done) : ss.length ≤ rs.length := by
  obtain ⟨h1, h2⟩ := nat_list k.nd k.rng
  have := nodup_le h1 h2
  rwa [List.length_map] at this
theorem Kn.open (k : Kn rs ms ss q) (h : ss[q]? = some l) : Km rs ms ss q l [] :=
  ⟨k.nd, k.rng, h, k.len, fun p r hr => ⟨_, k.val p r hr, by rw [List.count_nil]; rfl, k.zero p r hr⟩, k.ord⟩
theorem not_before (nd : ss.Nodup) (h : ss[q]? = some l) : l ∉ ss.take q := fun hm => by
  obtain ⟨i, hi⟩ := List.mem_iff_getElem?.mp hm
  have hi2 := (List.getElem?_eq_some_iff.mp hi).1
  rw [List.length_take] at hi2
  rw [List.getElem?_take_of_lt (by omega)] at hi
  have := at_inj nd hi h
  omega
theorem take_succ_of (h : ss[q]? = some l) : ss.take (q + 1) = ss.take q ++ [l] := by rw [List.take_add_one, h]; rfl
theorem Km.count {done rest : List Int} (k : Km rs ms ss q l done) (hd : Hd rs hs) (hl0 : 0 ≤ l) (hl : hs[l.toNat]? = some (done ++ rest)) {p : Nat} {r : List Int} (hr : rs[p]? = some r) :
    miss (ss.take q) r = miss (ss.take (q + 1)) r + done.count (p : Int) + rest.count (p : Int) := by
  have h1 := hd.2.2 _ _ _ _ hl hr
  rw [List.count_append, show ((l.toNat : Nat) : Int) = l by omega] at h1
  rw [take_succ_of k.cur, miss_push (r := r) (not_before k.nd k.cur), ← h1]
  omega
/-- one holder more -/
theorem Km.step {done rest : List Int} {h : Int} (k : Km rs ms ss q l done) (hd : Hd rs hs) (hl0 : 0 ≤ l) (hl : hs[l.toNat]? = some (done ++ h :: rest)) :
    ∃ v : Nat, 0 ≤ h ∧ h < (rs.length : Int) ∧ ms[h.toNat]? = some ((v + 1 : Nat) : Int) ∧
      (v ≠ 0 → Km rs (ms.set h.toNat (v : Int)) ss q l (done ++ [h])) ∧ (v = 0 → Km rs (ms.set h.toNat 0) (ss ++ [h]) q l (done ++ [h])) := by
  have hrg := hd.2.1 _ (List.mem_of_getElem? hl) h (List.mem_append_right _ List.mem_cons_self)
  have eh : ((h.toNat : Nat) : Int) = h := by omega
  have hlt : h.toNat < rs.length := by omega
  have hr : rs[h.toNat]? = some rs[h.toNat] := List.getElem?_eq_getElem hlt
  obtain ⟨v, hv1, hv2, hv3⟩ := k.val _ _ hr
  have hc := k.count hd hl0 hl hr
  rw [eh] at hc hv2 hv3
  rw [List.count_cons_self] at hc
  obtain ⟨u, rfl⟩ : ∃ u, v = u + 1 := ⟨v - 1, by omega⟩
  have hns : h ∉ ss := fun hm => by have := hv3.mp hm; omega
  have hq : q < ss.length := (List.getElem?_eq_some_iff.mp k.cur).1
  have cnt : ∀ p : Nat, p ≠ h.toNat → (done ++ [h]).count (p : Int) = done.count (p : Int) := fun p hp => by
    rw [List.count_append, List.count_singleton]
    have : ¬ h = (p : Int) := by omega
    simp [this]
  have cnt2 : (done ++ [h]).count h = done.count h + 1 := by rw [List.count_append, List.count_singleton_self]
  have hml : h.toNat < ms.length := by rw [k.len]; exact hlt
  refine ⟨u, hrg.1, hrg.2, hv1, fun hu => ?_, fun hu => ?_⟩
  · refine ⟨k.nd, k.rng, k.cur, by rw [List.length_set]; exact k.len, fun p r hp => ?_, k.ord⟩
    by_cases e : p = h.toNat
    · subst e
      rw [hp] at hr
      cases hr
      rw [eh]
      refine ⟨u, List.getElem?_set_self hml, by rw [cnt2]; omega, fun hm => absurd hm hns, fun z => absurd z hu⟩
    · rw [List.getElem?_set_ne (Ne.symm e), cnt p e]
      exact k.val p r hp
  · subst hu
    have et : (ss ++ [h]).take q = ss.take q := List.take_append_of_le_length (Nat.le_of_lt hq)
    refine ⟨?_, fun s hs => ?_, by rw [List.getElem?_append_left hq]; exact k.cur, by rw [List.length_set]; exact k.len, fun p r hp => ?_, fun i s r hi hs x hx => ?_⟩
    · rw [List.nodup_append]
      exact ⟨k.nd, by simp, fun a ha b hb e => hns (by rw [← List.mem_singleton.mp hb, ← e]; exact ha)⟩
    · rcases List.mem_append.mp hs with z | z
      · exact k.rng s z
      · rw [List.mem_singleton.mp z]; exact hrg
    · rw [et]
      by_cases e : p = h.toNat
      · subst e
        rw [hp] at hr
        cases hr
        rw [eh]
        exact ⟨0, List.getElem?_set_self hml, by rw [cnt2]; omega, fun _ => rfl, fun _ => List.mem_append_right _ (List.mem_singleton.mpr rfl)⟩
      · rw [List.getElem?_set_ne (Ne.symm e), cnt p e]
        obtain ⟨v, a1, a2, a3⟩ := k.val p r hp
        refine ⟨v, a1, a2, ?_⟩
        rw [← a3]
        constructor
        · intro hm
          rcases List.mem_append.mp hm with z | z
          · exact z
          · have := List.mem_singleton.mp z
            omega
        · exact fun hm => List.mem_append_left _ hm
    · by_cases hil : i < ss.length
      · rw [List.getElem?_append_left hil] at hi
        obtain ⟨j, hj, hj2⟩ := k.ord i s r hi hs x hx
        exact ⟨j, hj, by rw [List.getElem?_append_left (by omega)]; exact hj2⟩
      · have h3 := (List.getElem?_eq_some_iff.mp hi).1
        rw [List.length_append, List.length_singleton] at h3
        have ei : i = ss.length := by omega
        rw [ei, List.getElem?_append_right (Nat.le_refl _), Nat.sub_self] at hi
        have es : h = s := Option.some.inj hi
        rw [← es, hr] at hs
        have er := Option.some.inj hs
        have hz : miss (ss.take (q + 1)) rs[h.toNat] = 0 := by omega
        have hm := miss_zero.mp hz x (by rw [er]; exact hx)
        obtain ⟨j, hj⟩ := List.mem_iff_getElem?.mp hm
        have hj2 := (List.getElem?_eq_some_iff.mp hj).1
        rw [List.length_take] at hj2
        rw [List.getElem?_take_of_lt (by omega)] at hj
        exact ⟨j, by omega, by rw [List.getElem?_append_left (by omega)]; exact hj⟩
/-- the turn's end -/
theorem Km.close {done : List Int} (k : Km rs ms ss q l done) (hd : Hd rs hs) (hl0 : 0 ≤ l) (hl : hs[l.toNat]? = some done) : Kn rs ms ss (q + 1) := by
  have hq : q < ss.length := (List.getElem?_eq_some_iff.mp k.cur).1
  refine ⟨k.nd, k.rng, hq, k.len, fun p r hr => ?_, fun p r hr => ?_, k.ord⟩
  · obtain ⟨v, a1, a2, a3⟩ := k.val p r hr
    have hc := k.count (rest := []) hd hl0 (by rw [List.append_nil]; exact hl) hr
    rw [List.count_nil] at hc
    rw [a1]
    congr 2
    omega
  · obtain ⟨v, a1, a2, a3⟩ := k.val p r hr
    have hc := k.count (rest := []) hd hl0 (by rw [List.append_nil]; exact hl) hr
    rw [List.count_nil] at hc
    rw [a3]
    omega
theorem Kn.final (k : Kn rs ms ss q) (hq : ss.length ≤ q) (hin : In rs) : ss.length = rs.length ↔ ∀ x, ¬ Tc (Ed rs) x x := by
  have et : ss.take q = ss := List.take_of_length_le hq
  constructor
  · intro hl x t
    have path : ∀ {a b : Nat}, Tc (Ed rs) a b → ∀ i : Nat, ss[i]? = some (a : Int) → ∃ j, j < i ∧ ss[j]? = some (b : Int) := by
      intro a b t
      induction t with
      | one e =>
        intro i hi
        obtain ⟨r, hr, hb⟩ := e
        exact k.ord i _ r hi (by rw [Int.toNat_natCast]; exact hr) _ hb
      | more _ e ih =>
        intro i hi
        obtain ⟨j, hj, hj2⟩ := ih i hi
        obtain ⟨r, hr, hb⟩ := e
        obtain ⟨m, hm, hm2⟩ := k.ord j _ r hj2 (by rw [Int.toNat_natCast]; exact hr) _ hb
        exact ⟨m, Nat.lt_trans hm hj, hm2⟩
    have hx : x < rs.length := by
      cases t with
      | one e => exact In.gt e
      | more t e => exact hin.lt e
    obtain ⟨h1, h2⟩ := nat_list k.nd k.rng
    have hm := nodup_all h1 h2 (by rw [List.length_map]; exact hl) x hx
    obtain ⟨s, hs, es⟩ := List.mem_map.mp hm
    have hr := k.rng s hs
    have e2 : s = (x : Int) := by omega
    rw [e2] at hs
    obtain ⟨i, hi⟩ := List.mem_iff_getElem?.mp hs
    obtain ⟨j, hj, hj2⟩ := path t i hi
    have := at_inj k.nd hi hj2
    omega
  · intro hno
    refine Classical.byContradiction fun hl => ?_
    have hlt : ss.length < rs.length := Nat.lt_of_le_of_ne k.lt hl
    obtain ⟨h1, h2⟩ := nat_list k.nd k.rng
    obtain ⟨x, hx, hx2⟩ := nodup_miss h1 h2 (by rw [List.length_map]; exact hlt)
    have hU : (x : Int) ∉ ss := fun hm => hx2 (List.mem_map.mpr ⟨_, hm, Int.toNat_natCast x⟩)
    obtain ⟨y, _, hy⟩ := ring_of (E := Ed rs) (n := rs.length) (U := fun v => v < rs.length ∧ (v : Int) ∉ ss) (fun a h => h.1) (fun a ha => by
      have hr : rs[a]? = some rs[a] := List.getElem?_eq_getElem ha.1
      have hz : miss ss rs[a] ≠ 0 := fun z => ha.2 ((k.zero a _ hr).mpr (by rw [et]; exact z))
      obtain ⟨h, hh, hns⟩ : ∃ h, h ∈ rs[a] ∧ h ∉ ss := Classical.byContradiction fun hc => hz (miss_zero.mpr fun h hh => Classical.byContradiction fun q => hc ⟨h, hh, q⟩)
      have hg := hin _ (List.mem_of_getElem? hr) h hh
      have eh : ((h.toNat : Nat) : Int) = h := by omega
      exact ⟨h.toNat, ⟨by omega, by rw [eh]; exact hns⟩, rs[a], hr, by rw [eh]; exact hh⟩) ⟨hx, hU⟩
    exact hno y hy
end
end Lm
namespace Lm
/-! ### bits -/
theorem tb_add {i : Nat} : ∀ {x j : Nat}, x.testBit i = false → (2 ^ i + x).testBit j = (decide (i = j) || x.testBit j) := by
  induction i with
  | zero =>
    intro x j h
    have h0 : x % 2 = 0 := by
      rw [Nat.testBit_zero] at h
      have := of_decide_eq_false h
      omega
    cases j with
    | zero =>
      rw [Nat.testBit_zero]
      have : (2 ^ 0 + x) % 2 = 1 := by show (1 + x) % 2 = 1; omega
      rw [this]
      simp
    | succ j =>
      rw [Nat.testBit_succ, Nat.testBit_succ]
      have : (2 ^ 0 + x) / 2 = x / 2 := by show (1 + x) / 2 = x / 2; omega
      rw [this]
      simp
  | succ i ih =>
    intro x j h
    rw [Nat.testBit_succ] at h
    have e1 : (2 ^ (i + 1) + x) / 2 = 2 ^ i + x / 2 := by
      rw [Nat.pow_succ]; omega
    cases j with
    | zero =>
      rw [Nat.testBit_zero, Nat.testBit_zero]
      have : (2 ^ (i + 1) + x) % 2 = x % 2 := by rw [Nat.pow_succ]; omega
      rw [this]
      simp
    | succ j =>
      rw [Nat.testBit_succ, Nat.testBit_succ, e1, ih h]
      congr 1
      simp
/-- the mask of a row -/
def mask : List Int → Nat
  | [] => 0
  | e :: r => 2 ^ e.toNat + mask r
theorem mask_bit : ∀ {r : List Int}, r.Nodup → (∀ e ∈ r, 0 ≤ e) → ∀ b : Nat, (mask r).testBit b = true ↔ (b : Int) ∈ r
  | [], _, _, b => by simp [mask]
  | e :: r, hn, h0, b => by
    obtain ⟨hn1, hn2⟩ := List.nodup_cons.mp hn
    have h1 := h0 e List.mem_cons_self
    have ih := mask_bit hn2 (fun x hx => h0 x (List.mem_cons_of_mem _ hx))
    have hz : (mask r).testBit e.toNat = false := by
      cases q : (mask r).testBit e.toNat with
      | false => rfl
      | true =>
        have := (ih e.toNat).mp q
        rw [show ((e.toNat : Nat) : Int) = e by omega] at this
        exact absurd this hn1
    show (2 ^ e.toNat + mask r).testBit b = true ↔ _
    rw [tb_add hz, Bool.or_eq_true, decide_eq_true_eq, ih b, List.mem_cons]
    constructor
    · rintro (q | q)
      · exact .inl (by omega)
      · exact .inr q
    · rintro (q | q)
      · exact .inl (by omega)
      · exact .inr q
theorem mask_sum : ∀ r : List Int, ((mask r : Nat) : Int) = (r.map fun e => 1 * (2 : Int) ^ e.toNat).sum
  | [] => rfl
  | e :: r => by
    rw [List.map_cons, List.sum_cons, ← mask_sum r, Int.one_mul]
    show (((2 ^ e.toNat + mask r : Nat)) : Int) = _
    rw [Int.natCast_add, Int.natCast_pow]
    rfl
/-- masks in the stage k, those below a done -/
def Ms (rs : List (List Int)) (k a : Nat) (ms : List Nat) : Prop := ms.length = rs.length ∧
  ∀ (c m : Nat), ms[c]? = some m → ∀ b, m.testBit b = true ↔ (c < a ∧ Via (Ed rs) (k + 1) c b) ∨ (a ≤ c ∧ Via (Ed rs) k c b)
theorem via0 {rs : List (List Int)} {a b : Nat} : Via (Ed rs) 0 a b ↔ Ed rs a b := by
  constructor
  · intro h
    cases h with
    | one e => exact e
    | more _ h _ => exact absurd h (Nat.not_lt_zero _)
  · exact .one
theorem Ms.init {rs : List (List Int)} (hn : ∀ r ∈ rs, r.Nodup) (hin : In rs) : Ms rs 0 0 (rs.map mask) := by
  refine ⟨List.length_map .., fun c m hm b => ?_⟩
  rw [List.getElem?_map] at hm
  cases hr : rs[c]? with
  | none => rw [hr] at hm; cases hm
  | some r =>
    rw [hr] at hm
    rw [← Option.some.inj hm, mask_bit (hn r (List.mem_of_getElem? hr)) (fun e he => (hin r (List.mem_of_getElem? hr) e he).1)]
    constructor
    · exact fun h => .inr ⟨Nat.zero_le _, via0.mpr ⟨r, hr, h⟩⟩
    · rintro (⟨h, _⟩ | ⟨_, h⟩)
      · exact absurd h (Nat.not_lt_zero _)
      · obtain ⟨r', hr', hb⟩ := via0.mp h
        rw [hr] at hr'
        rw [Option.some.inj hr']; exact hb
/-- the mask at k is alike in both stages -/
theorem Ms.own {rs : List (List Int)} {k a : Nat} {ms : List Nat} (h : Ms rs k a ms) {m : Nat} (hm : ms[k]? = some m) (b : Nat) : m.testBit b = true ↔ Via (Ed rs) k k b := by
  rw [h.2 k m hm b]
  constructor
  · rintro (⟨_, q⟩ | ⟨_, q⟩)
    · rcases q.split with z | z
      · exact z
      · exact z.2
    · exact q
  · intro q
    by_cases hk : k < a
    · exact .inl ⟨hk, q.mono (Nat.le_succ k)⟩
    · exact .inr ⟨by omega, q⟩
theorem Ms.next {rs : List (List Int)} {k a : Nat} {ms : List Nat} (h : Ms rs k a ms) {x : Nat} (hx : ∀ b, x.testBit b = true ↔ Via (Ed rs) (k + 1) a b) (ha : a < rs.length) : Ms rs k (a + 1) (ms.set a x) := by
  refine ⟨by rw [List.length_set]; exact h.1, fun c m hm b => ?_⟩
  by_cases e : a = c
  · subst e
    rw [List.getElem?_set_self (by rw [h.1]; exact ha)] at hm
    rw [← Option.some.inj hm, hx b]
    constructor
    · exact fun q => .inl ⟨Nat.lt_succ_self _, q⟩
    · rintro (⟨_, q⟩ | ⟨q, _⟩)
      · exact q
      · omega
  · rw [List.getElem?_set_ne e] at hm
    rw [h.2 c m hm b]
    constructor
    · rintro (⟨q, v⟩ | ⟨q, v⟩)
      · exact .inl ⟨by omega, v⟩
      · exact .inr ⟨by omega, v⟩
    · rintro (⟨q, v⟩ | ⟨q, v⟩)
      · exact .inl ⟨by omega, v⟩
      · exact .inr ⟨by omega, v⟩
theorem Ms.yes {rs : List (List Int)} {k a : Nat} {ms : List Nat} (h : Ms rs k a ms) {x y : Nat} (hx : ms[a]? = some x) (hy : ms[k]? = some y) (t : x.testBit k = true) : Ms rs k (a + 1) (ms.set a (x ||| y)) := by
  have ha : a < rs.length := by rw [← h.1]; exact (List.getElem?_eq_some_iff.mp hx).1
  have hx2 : ∀ b, x.testBit b = true ↔ Via (Ed rs) k a b := fun b => by
    rw [h.2 a x hx b]
    constructor
    · rintro (⟨q, _⟩ | ⟨_, q⟩)
      · omega
      · exact q
    · exact fun q => .inr ⟨Nat.le_refl _, q⟩
  have hak := (hx2 k).mp t
  refine h.next (fun b => ?_) ha
  rw [Nat.testBit_or, Bool.or_eq_true, hx2 b, h.own hy b]
  constructor
  · rintro (q | q)
    · exact q.mono (Nat.le_succ k)
    · exact hak.join q
  · intro q
    rcases q.split with z | z
    · exact .inl z
    · exact .inr z.2
theorem Ms.no {rs : List (List Int)} {k a : Nat} {ms : List Nat} (h : Ms rs k a ms) {x : Nat} (hx : ms[a]? = some x) (t : x.testBit k = false) : Ms rs k (a + 1) ms := by
  have ha : a < rs.length := by rw [← h.1]; exact (List.getElem?_eq_some_iff.mp hx).1
  have hx2 : ∀ b, x.testBit b = true ↔ Via (Ed rs) k a b := fun b => by
    rw [h.2 a x hx b]
    constructor
    · rintro (⟨q, _⟩ | ⟨_, q⟩)
      · omega
      · exact q
    · exact fun q => .inr ⟨Nat.le_refl _, q⟩
  have h2 := h.next (x := x) (fun b => by
    rw [hx2 b]
    constructor
    · exact fun q => q.mono (Nat.le_succ k)
    · intro q
      rcases q.split with z | z
      · exact z
      · have := (hx2 k).mpr z.1
        rw [t] at this
        cases this) ha
  have e : ms.set a x = ms := by
    obtain ⟨hl, e⟩ := List.getElem?_eq_some_iff.mp hx
    rw [← e, List.set_getElem_self]
  rw [e] at h2
  exact h2
theorem Ms.turn {rs : List (List Int)} {k : Nat} {ms : List Nat} (h : Ms rs k rs.length ms) : Ms rs (k + 1) 0 ms := by
  refine ⟨h.1, fun c m hm b => ?_⟩
  have hc : c < rs.length := by rw [← h.1]; exact (List.getElem?_eq_some_iff.mp hm).1
  rw [h.2 c m hm b]
  constructor
  · rintro (⟨_, q⟩ | ⟨q, _⟩)
    · exact .inr ⟨Nat.zero_le _, q⟩
    · omega
  · rintro (⟨q, _⟩ | ⟨_, q⟩)
    · omega
    · exact .inl ⟨hc, q⟩
theorem Ms.final {rs : List (List Int)} {ms : List Nat} (h : Ms rs rs.length 0 ms) (hin : In rs) {c m : Nat} (hm : ms[c]? = some m) (b : Nat) : m.testBit b = true ↔ Tc (Ed rs) c b := by
  rw [h.2 c m hm b]
  constructor
  · rintro (⟨q, _⟩ | ⟨_, q⟩)
    · omega
    · exact q.tc
  · exact fun q => .inr ⟨Nat.zero_le _, Via.of (fun _ _ e => hin.lt e) q⟩
end Lm
namespace Lm
/-! ### the holders, row by row -/
def Hpt (rs hs : List (List Int)) (i : Nat) (done : List Int) : Prop := hs.length = rs.length ∧ (∀ l ∈ hs, ∀ e ∈ l, 0 ≤ e ∧ e < (rs.length : Int)) ∧
  ∀ (l p : Nat) hl, hs[l]? = some hl → hl.count (p : Int) = if p < i then (rs.getD p []).count (l : Int) else if p = i then done.count (l : Int) else 0
theorem Hpt.init (rs : List (List Int)) : Hpt rs (List.replicate rs.length []) 0 [] := by
  refine ⟨List.length_replicate, fun l hl e he => ?_, fun l p hl h => ?_⟩
  · rw [(List.mem_replicate.mp hl).2] at he; exact nomatch he
  · rw [List.getElem?_replicate] at h
    split at h
    · rw [← Option.some.inj h]; simp
    · cases h
theorem Hpt.step {rs hs : List (List Int)} {i : Nat} {done : List Int} (k : Hpt rs hs i done) (hi : i < rs.length) {h : Int} (h0 : 0 ≤ h) {hl : List Int} (e : hs[h.toNat]? = some hl) : Hpt rs (hs.set h.toNat (hl ++ [(i : Int)])) i (done ++ [h]) := by
  have hlt := (List.getElem?_eq_some_iff.mp e).1
  refine ⟨by rw [List.length_set]; exact k.1, fun l hm x hx => ?_, fun l p hl' hp => ?_⟩
  · rcases List.mem_or_eq_of_mem_set hm with q | q
    · exact k.2.1 l q x hx
    · rw [q] at hx
      rcases List.mem_append.mp hx with z | z
      · exact k.2.1 hl (List.mem_of_getElem? e) x z
      · rw [List.mem_singleton.mp z]; omega
  · rw [List.getElem?_set] at hp
    by_cases q : h.toNat = l
    · rw [if_pos q, if_pos hlt] at hp
      have c := k.2.2 l p hl (by rw [← q]; exact e)
      rw [← Option.some.inj hp, List.count_append, c, List.count_append]
      have el : h = (l : Int) := by omega
      rw [el]
      by_cases a : p < i
      · have t : ¬ i = p := by omega
        have t2 : ¬ (i : Int) = (p : Int) := by omega
        rw [List.count_singleton, if_pos a, if_pos a]
        simp [t, t2]
      · by_cases b : p = i
        · subst b; simp
        · have t : ¬ i = p := by omega
          have t2 : ¬ (i : Int) = (p : Int) := by omega
          rw [List.count_singleton, if_neg a, if_neg a, if_neg b, if_neg b]
          simp [t, t2]
    · rw [if_neg q] at hp
      have el : ¬ h = (l : Int) := by omega
      rw [k.2.2 l p hl' hp, List.count_append]
      simp [el]
theorem Hpt.row {rs hs : List (List Int)} {i : Nat} {r : List Int} (k : Hpt rs hs i r) (hr : rs[i]? = some r) : Hpt rs hs (i + 1) [] := by
  refine ⟨k.1, k.2.1, fun l p hl h => ?_⟩
  rw [k.2.2 l p hl h]
  by_cases a : p < i
  · rw [if_pos a, if_pos (by omega)]
  · by_cases b : p = i
    · subst b
      rw [if_neg a, if_pos rfl, if_pos (by omega), List.getD_eq_getElem?_getD, hr]; rfl
    · rw [if_neg a, if_neg b, if_neg (by omega)]; simp
theorem Hpt.final {rs hs : List (List Int)} (k : Hpt rs hs rs.length []) : Hd rs hs := by
  refine ⟨k.1, k.2.1, fun l p hl r h1 h2 => ?_⟩
  have hp := (List.getElem?_eq_some_iff.mp h2).1
  rw [k.2.2 l p hl h1, if_pos hp, List.getD_eq_getElem?_getD, h2]; rfl
/-- the start: the places of empty rows -/
theorem Kn.init {rs : List (List Int)} {ss : List Int} (nd : ss.Nodup) (h : ∀ p : Int, p ∈ ss ↔ 0 ≤ p ∧ rs[p.toNat]? = some []) : Kn rs (rs.map fun r => (r.length : Int)) ss 0 := by
  refine ⟨nd, fun s hs => ?_, Nat.zero_le _, List.length_map .., fun p r hr => ?_, fun p r hr => ?_, fun i s r hi hr x hx => ?_⟩
  · obtain ⟨h0, h1⟩ := (h s).mp hs
    have := (List.getElem?_eq_some_iff.mp h1).1
    omega
  · rw [List.getElem?_map, hr, List.take_zero, miss_nil]; rfl
  · rw [List.take_zero, miss_nil, h, Int.toNat_natCast, hr]
    constructor
    · rintro ⟨_, e⟩; rw [Option.some.inj e]; rfl
    · intro e
      exact ⟨by omega, by rw [List.length_eq_zero_iff.mp e]⟩
  · obtain ⟨_, h1⟩ := (h s).mp (List.mem_of_getElem? hi)
    rw [hr] at h1
    rw [Option.some.inj h1] at hx
    exact nomatch hx
end Lm
/-! plain maths: likeness of groups, as the greatest relation and as a partition -/
namespace Lm
def gp (c : Nat) (r : List Int) : List Int := r.filter fun e => decide (e < (c : Int))
def br (c : Nat) (r : List Int) : List Int := r.filter fun e => decide (e ≥ (c : Int))
def Mt (R : Nat → Nat → Prop) (xs ys : List Int) : Prop := (∀ e ∈ xs, ∃ f ∈ ys, R e.toNat f.toNat) ∧ (∀ f ∈ ys, ∃ e ∈ xs, R e.toNat f.toNat)
theorem Mt.mono {R S : Nat → Nat → Prop} {xs ys : List Int} (h : Mt R xs ys) (hs : ∀ a b, R a b → S a b) : Mt S xs ys :=
  ⟨fun e he => by obtain ⟨f, hf, r⟩ := h.1 e he; exact ⟨f, hf, hs _ _ r⟩, fun f hf => by obtain ⟨e, he, r⟩ := h.2 f hf; exact ⟨e, he, hs _ _ r⟩⟩
def IsB (c : Nat) (rs : List (List Int)) (R : Nat → Nat → Prop) : Prop := ∀ g h, R g h → ∃ r s, g < c ∧ h < c ∧ rs[g]? = some r ∧ rs[h]? = some s ∧ br c r = br c s ∧ Mt R (gp c r) (gp c s)
def Bs (c : Nat) (rs : List (List Int)) (g h : Nat) : Prop := ∃ R, IsB c rs R ∧ R g h
theorem Bs.isB {c : Nat} {rs : List (List Int)} : IsB c rs (Bs c rs) := by
  rintro g h ⟨R, hR, r⟩
  obtain ⟨a, b, h1, h2, h3, h4, h5, h6⟩ := hR g h r
  exact ⟨a, b, h1, h2, h3, h4, h5, h6.mono fun x y q => ⟨R, hR, q⟩⟩
theorem Bs.symm {c : Nat} {rs : List (List Int)} {g h : Nat} (b : Bs c rs g h) : Bs c rs h g := by
  obtain ⟨R, hR, r⟩ := b
  refine ⟨fun x y => R y x, fun x y q => ?_, r⟩
  obtain ⟨a, b, h1, h2, h3, h4, h5, h6⟩ := hR y x q
  exact ⟨b, a, h2, h1, h4, h3, h5.symm, h6.2, h6.1⟩
theorem gp_mem {c : Nat} {r : List Int} {e : Int} : e ∈ gp c r ↔ e ∈ r ∧ e < (c : Int) := by
  unfold gp; rw [List.mem_filter, decide_eq_true_eq]
theorem br_mem {c : Nat} {r : List Int} {e : Int} : e ∈ br c r ↔ e ∈ r ∧ e ≥ (c : Int) := by
  unfold br; rw [List.mem_filter, decide_eq_true_eq]
/-- two equal rows are alike -/
theorem Bs.of_eq {n c : Nat} {rs : List (List Int)} (hn : rs.length = n) (hc : c ≤ n) (h0 : ∀ r ∈ rs, ∀ e ∈ r, 0 ≤ e) {g h : Nat} (hg : g < c) (hh : h < c) (e : rs[g]? = rs[h]?) : Bs c rs g h := by
  refine ⟨fun x y => (x < c ∧ x = y) ∨ (x = g ∧ y = h), fun x y q => ?_, .inr ⟨rfl, rfl⟩⟩
  have refl : ∀ x, x < c → ∃ r, rs[x]? = some r ∧ Mt (fun x y => (x < c ∧ x = y) ∨ (x = g ∧ y = h)) (gp c r) (gp c r) := fun x hx => by
    refine ⟨_, List.getElem?_eq_getElem (by omega), fun e he => ⟨e, he, .inl ⟨?_, rfl⟩⟩, fun e he => ⟨e, he, .inl ⟨?_, rfl⟩⟩⟩
    all_goals
      have h1 := gp_mem.mp he
      have h2 := h0 _ (List.getElem_mem _) e h1.1
      omega
  rcases q with ⟨hx, rfl⟩ | ⟨rfl, rfl⟩
  · obtain ⟨r, h1, h2⟩ := refl x hx
    exact ⟨r, r, hx, hx, h1, h1, rfl, h2⟩
  · obtain ⟨r, h1, h2⟩ := refl x hg
    exact ⟨r, r, hg, hh, h1, by rw [← e]; exact h1, rfl, h2⟩
/-- lists that ascend and have the same members are the same -/
theorem asc_eq : ∀ {xs ys : List Int}, xs.Pairwise (· < ·) → ys.Pairwise (· < ·) → (∀ e, e ∈ xs ↔ e ∈ ys) → xs = ys
  | [], [], _, _, _ => rfl
  | [], y :: ys, _, _, h => absurd ((h y).mpr List.mem_cons_self) List.not_mem_nil
  | x :: xs, [], _, _, h => absurd ((h x).mp List.mem_cons_self) List.not_mem_nil
  | x :: xs, y :: ys, h1, h2, h => by
    rw [List.pairwise_cons] at h1 h2
    have e : x = y := by
      rcases List.mem_cons.mp ((h x).mp List.mem_cons_self) with e | e
      · exact e
      · rcases List.mem_cons.mp ((h y).mpr List.mem_cons_self) with e2 | e2
        · exact e2.symm
        · have := h2.1 x e; have := h1.1 y e2; omega
    subst e
    congr 1
    refine asc_eq h1.2 h2.2 fun z => ⟨fun hz => ?_, fun hz => ?_⟩
    · rcases List.mem_cons.mp ((h z).mp (List.mem_cons_of_mem _ hz)) with q | q
      · subst q; have := h1.1 z hz; omega
      · exact q
    · rcases List.mem_cons.mp ((h z).mpr (List.mem_cons_of_mem _ hz)) with q | q
      · subst q; have := h2.1 z hz; omega
      · exact q
/-- without rings: where two unlike places are alike, two of the rows are equal -/
theorem Bs.doubled {n c : Nat} {rs : List (List Int)} (hn : rs.length = n) (hc : c ≤ n) (h0 : ∀ r ∈ rs, ∀ e ∈ r, 0 ≤ e) (ha : ∀ r ∈ rs, r.Pairwise (· < ·)) (hr : ∀ x, ¬ Tc (Ed rs) x x) {g h : Nat} (b : Bs c rs g h) (hgh : g ≠ h) :
    ∃ x y, x < y ∧ y < c ∧ rs[x]? = rs[y]? := by
  refine Classical.byContradiction fun hno => ?_
  have U : ∀ a, (∃ b, Bs c rs a b ∧ a ≠ b) → ∃ b, (∃ d, Bs c rs b d ∧ b ≠ d) ∧ Ed rs a b := by
    rintro a ⟨b, hb, hab⟩
    obtain ⟨r, s, a1, a2, a3, a4, a5, a6⟩ := Bs.isB a b hb
    refine Classical.byContradiction fun hn2 => ?_
    have key : ∀ e f, e ∈ gp c r → f ∈ gp c s → Bs c rs e.toNat f.toNat → e = f := fun e f he hf q => by
      refine Classical.byContradiction fun hne => hn2 ⟨e.toNat, ⟨f.toNat, q, fun z => hne ?_⟩, r, a3, ?_⟩
      · have := h0 r (List.mem_of_getElem? a3) e (gp_mem.mp he).1
        have := h0 s (List.mem_of_getElem? a4) f (gp_mem.mp hf).1
        omega
      · have := h0 r (List.mem_of_getElem? a3) e (gp_mem.mp he).1
        rw [show ((e.toNat : Nat) : Int) = e by omega]; exact (gp_mem.mp he).1
    have same : ∀ e, e ∈ r ↔ e ∈ s := fun e => by
      by_cases hlt : e < (c : Int)
      · constructor
        · intro he
          obtain ⟨f, hf, q⟩ := a6.1 e (gp_mem.mpr ⟨he, hlt⟩)
          rw [key e f (gp_mem.mpr ⟨he, hlt⟩) hf q]; exact (gp_mem.mp hf).1
        · intro he
          obtain ⟨f, hf, q⟩ := a6.2 e (gp_mem.mpr ⟨he, hlt⟩)
          rw [← key f e hf (gp_mem.mpr ⟨he, hlt⟩) q]; exact (gp_mem.mp hf).1
      · have h1 : e ∈ br c r ↔ e ∈ br c s := by rw [a5]
        rw [br_mem, br_mem] at h1
        constructor
        · intro he; exact (h1.mp ⟨he, by omega⟩).1
        · intro he; exact (h1.mpr ⟨he, by omega⟩).1
    have e : r = s := asc_eq (ha r (List.mem_of_getElem? a3)) (ha s (List.mem_of_getElem? a4)) same
    rcases Nat.lt_or_gt_of_ne hab with q | q
    · exact hno ⟨a, b, q, a2, by rw [a3, a4, e]⟩
    · exact hno ⟨b, a, q, a1, by rw [a3, a4, e]⟩
  obtain ⟨k, _, t⟩ := ring_of (E := Ed rs) (n := n) (U := fun a => ∃ b, Bs c rs a b ∧ a ≠ b) (fun a ⟨b, hb, _⟩ => by obtain ⟨_, _, h1, _⟩ := Bs.isB a b hb; omega) U ⟨h, b, hgh⟩
  exact hr k t
/-! ### the table of bools -/
def tr (M : List (List Bool)) (g h : Nat) : Prop := ∃ r, M[g]? = some r ∧ r[h]? = some true
structure Gl (c : Nat) (rs : List (List Int)) (M : List (List Bool)) : Prop where
  len : M.length = c
  row : ∀ r ∈ M, r.length = c
  has : ∀ g h, Bs c rs g h → tr M g h
  bare : ∀ g h, tr M g h → ∃ r s, g < c ∧ h < c ∧ rs[g]? = some r ∧ rs[h]? = some s ∧ br c r = br c s
theorem Gl.init {n c : Nat} {rs : List (List Int)} (hn : rs.length = n) (hc : c ≤ n) {bs : List (List Int)} (hb : bs = (rs.take c).map (br c)) : Gl c rs (bs.map fun x => bs.map fun y => decide (x = y)) := by
  have hl : bs.length = c := by rw [hb, List.length_map, List.length_take]; omega
  have hg : ∀ g, g < c → ∃ r, rs[g]? = some r ∧ bs[g]? = some (br c r) := fun g hg => by
    obtain ⟨r, hr⟩ : ∃ r, rs[g]? = some r := ⟨_, List.getElem?_eq_getElem (by omega)⟩
    refine ⟨r, hr, ?_⟩
    rw [hb, List.getElem?_map, List.getElem?_take_of_lt hg, hr]; rfl
  refine ⟨by rw [List.length_map, hl], fun r hr => ?_, fun g h b => ?_, fun g h ⟨r, h1, h2⟩ => ?_⟩
  · obtain ⟨x, _, rfl⟩ := List.mem_map.mp hr
    rw [List.length_map, hl]
  · obtain ⟨r, s, a1, a2, a3, a4, a5, _⟩ := Bs.isB g h b
    obtain ⟨r', b1, b2⟩ := hg g a1
    obtain ⟨s', d1, d2⟩ := hg h a2
    rw [a3] at b1; cases b1
    rw [a4] at d1; cases d1
    refine ⟨_, by rw [List.getElem?_map, b2]; rfl, ?_⟩
    rw [List.getElem?_map, d2]
    show some (decide _) = _
    rw [a5, decide_eq_true rfl]
  · rw [List.getElem?_map] at h1
    cases q : bs[g]? with
    | none => rw [q] at h1; cases h1
    | some x =>
      rw [q] at h1
      cases h1
      rw [List.getElem?_map] at h2
      cases q2 : bs[h]? with
      | none => rw [q2] at h2; cases h2
      | some y =>
        rw [q2] at h2
        have e : x = y := of_decide_eq_true (Option.some.inj h2)
        have g1 : g < c := by rw [← hl]; exact (List.getElem?_eq_some_iff.mp q).1
        have g2 : h < c := by rw [← hl]; exact (List.getElem?_eq_some_iff.mp q2).1
        obtain ⟨r', b1, b2⟩ := hg g g1
        obtain ⟨s', d1, d2⟩ := hg h g2
        rw [q] at b2; rw [q2] at d2
        exact ⟨r', s', g1, g2, b1, d1, by rw [← Option.some.inj b2, ← Option.some.inj d2]; exact e⟩
theorem tr_set {M : List (List Bool)} {f s : Nat} {r : List Bool} (hr : M[f]? = some r) {g h : Nat} : tr (M.set f (r.set s false)) g h ↔ tr M g h ∧ ¬ (g = f ∧ h = s) := by
  have hf := (List.getElem?_eq_some_iff.mp hr).1
  unfold tr
  by_cases e : f = g
  · subst e
    rw [List.getElem?_set_self hf, hr]
    constructor
    · rintro ⟨r', h1, h2⟩
      cases h1
      by_cases e2 : s = h
      · subst e2
        have : s < r.length := by
          have := (List.getElem?_eq_some_iff.mp h2).1; rwa [List.length_set] at this
        rw [List.getElem?_set_self this] at h2; cases h2
      · rw [List.getElem?_set_ne e2] at h2
        exact ⟨⟨r, rfl, h2⟩, fun z => e2 z.2.symm⟩
    · rintro ⟨⟨r', h1, h2⟩, hn⟩
      cases h1
      exact ⟨_, rfl, by rw [List.getElem?_set_ne (fun z => hn ⟨rfl, z.symm⟩)]; exact h2⟩
  · rw [List.getElem?_set_ne e]
    exact ⟨fun q => ⟨q, fun z => e z.1.symm⟩, fun q => q.1⟩
theorem Gl.fall {c : Nat} {rs : List (List Int)} {M : List (List Bool)} (G : Gl c rs M) {f s : Nat} {r : List Bool} (hr : M[f]? = some r) {x y : List Int} (hx : rs[f]? = some x) (hy : rs[s]? = some y) (hn : ¬ Mt (tr M) (gp c x) (gp c y)) :
    Gl c rs (M.set f (r.set s false)) := by
  refine ⟨by rw [List.length_set]; exact G.len, fun r' h' => ?_, fun g h b => ?_, fun g h t => ?_⟩
  · rcases List.mem_or_eq_of_mem_set h' with q | q
    · exact G.row r' q
    · rw [q, List.length_set]; exact G.row r (List.mem_of_getElem? hr)
  · refine (tr_set hr).mpr ⟨G.has g h b, ?_⟩
    rintro ⟨rfl, rfl⟩
    obtain ⟨r', s', _, _, a3, a4, _, a6⟩ := Bs.isB g h b
    rw [hx] at a3; cases a3
    rw [hy] at a4; cases a4
    exact hn (a6.mono fun a b q => G.has a b q)
  · exact G.bare g h ((tr_set hr).mp t).1
/-- no pair falls any more -/
theorem Gl.final {c : Nat} {rs : List (List Int)} {M : List (List Bool)} (G : Gl c rs M) (h : ∀ g k x y, tr M g k → rs[g]? = some x → rs[k]? = some y → Mt (tr M) (gp c x) (gp c y)) (g k : Nat) : tr M g k ↔ Bs c rs g k := by
  refine ⟨fun t => ⟨tr M, fun a b q => ?_, t⟩, G.has g k⟩
  obtain ⟨r, s, a1, a2, a3, a4, a5⟩ := G.bare a b q
  exact ⟨r, s, a1, a2, a3, a4, a5, h a b r s q a3 a4⟩
def trues (M : List (List Bool)) : Nat := (M.map fun r => r.countP id).sum
theorem count_false {r : List Bool} : ∀ {s : Nat}, r[s]? = some true → (r.set s false).countP id + 1 = r.countP id := by
  induction r with
  | nil => intro s h; simp at h
  | cons b r ih =>
    intro s h
    cases s with
    | zero => simp at h; subst h; simp [List.countP_cons]
    | succ s =>
      rw [List.getElem?_cons_succ] at h
      rw [List.set_cons_succ, List.countP_cons, List.countP_cons, ← ih h]; omega
theorem trues_fall {M : List (List Bool)} : ∀ {f s : Nat} {r : List Bool}, M[f]? = some r → r[s]? = some true → trues (M.set f (r.set s false)) + 1 = trues M := by
  induction M with
  | nil => intro f s r h; simp at h
  | cons a M ih =>
    intro f s r h h2
    cases f with
    | zero =>
      simp at h; subst h
      have := count_false h2
      simp only [trues, List.set_cons_zero, List.map_cons, List.sum_cons]; omega
    | succ f =>
      rw [List.getElem?_cons_succ] at h
      have := ih h h2
      simp only [trues] at this
      simp only [trues, List.set_cons_succ, List.map_cons, List.sum_cons]; omega
/-! ### the partition by rounds -/
/-- where a list's first entry of a kind stands -/
structure Can (p : List Int) (c : Nat) : Prop where
  len : p.length = c
  fix : ∀ (a : Nat) (z : Int), p[a]? = some z → 0 ≤ z ∧ z ≤ a ∧ p[z.toNat]? = some z
def fixed (p : List Int) (c : Nat) : Nat := (List.range c).countP fun a : Nat => decide (p[a]? = some (a : Int))
theorem fixed_le (p : List Int) (c : Nat) : fixed p c ≤ c := by
  unfold fixed
  have := List.countP_le_length (p := fun a : Nat => decide (p[a]? = some (a : Int))) (l := List.range c)
  rwa [List.length_range] at this
theorem countP_lt {α : Type} {P Q : α → Bool} : ∀ {l : List α}, (∀ x ∈ l, P x = true → Q x = true) → (∃ x ∈ l, Q x = true ∧ P x = false) → l.countP P < l.countP Q
  | [], _, ⟨x, hx, _⟩ => absurd hx List.not_mem_nil
  | y :: l, h, ⟨x, hx, hq, hp⟩ => by
    have mono : l.countP P ≤ l.countP Q := List.countP_mono_left fun z hz => h z (List.mem_cons_of_mem _ hz)
    rcases List.mem_cons.mp hx with e | e
    · subst e
      rw [List.countP_cons_of_pos hq, List.countP_cons_of_neg (by rw [hp]; decide)]; omega
    · have ih := countP_lt (l := l) (fun z hz => h z (List.mem_cons_of_mem _ hz)) ⟨x, e, hq, hp⟩
      by_cases hy : P y = true
      · rw [List.countP_cons_of_pos hy, List.countP_cons_of_pos (h y List.mem_cons_self hy)]; omega
      · rw [List.countP_cons_of_neg hy]
        by_cases hy2 : Q y = true
        · rw [List.countP_cons_of_pos hy2]; omega
        · rw [List.countP_cons_of_neg hy2]; exact ih
/-- one round: q numbers the keys that refine p's numbers -/
structure Rd {κ : Type} (p q : List Int) (key : Nat → κ) (c : Nat) : Prop where
  len : q.length = c
  first : ∀ a, a < c → ∃ b : Nat, q[a]? = some (b : Int) ∧ b ≤ a ∧ key b = key a ∧ ∀ d, d < b → key d ≠ key a
  ref : ∀ a b, a < c → b < c → key a = key b → p[a]? = p[b]?
theorem Rd.can {κ : Type} {p q : List Int} {key : Nat → κ} {c : Nat} (R : Rd p q key c) : Can q c := by
  refine ⟨R.len, fun a z hz => ?_⟩
  have ha : a < c := by rw [← R.len]; exact (List.getElem?_eq_some_iff.mp hz).1
  obtain ⟨b, h1, h2, h3, h4⟩ := R.first a ha
  rw [h1] at hz; cases hz
  refine ⟨by omega, by omega, ?_⟩
  obtain ⟨d, k1, k2, k3, k4⟩ := R.first b (by omega)
  rw [Int.toNat_natCast, k1]
  have : d = b := by
    rcases Nat.lt_or_ge d b with q | q
    · exact absurd (k3.trans h3) (h4 d q)
    · omega
  rw [this]
theorem Rd.same {κ : Type} {p q : List Int} {key : Nat → κ} {c : Nat} (R : Rd p q key c) {a b : Nat} (ha : a < c) (hb : b < c) : q[a]? = q[b]? ↔ key a = key b := by
  obtain ⟨x, h1, h2, h3, h4⟩ := R.first a ha
  obtain ⟨y, k1, k2, k3, k4⟩ := R.first b hb
  rw [h1, k1]
  constructor
  · intro e
    have : x = y := by have := Option.some.inj e; omega
    subst this
    exact h3.symm.trans k3
  · intro e
    have : x = y := by
      rcases Nat.lt_trichotomy x y with z | z | z
      · exact absurd (h3.trans e) (k4 x z)
      · exact z
      · exact absurd (k3.trans e.symm) (h4 y z)
    rw [this]
theorem Rd.grow {κ : Type} {p q : List Int} {key : Nat → κ} {c : Nat} (R : Rd p q key c) (P : Can p c) (hne : q ≠ p) : fixed p c < fixed q c := by
  have Q := R.can
  have up : ∀ (a : Nat) (z w : Int), p[a]? = some z → q[a]? = some w → z ≤ w ∧ p[w.toNat]? = some z := fun a z w hz hw => by
    have ha : a < c := by rw [← P.len]; exact (List.getElem?_eq_some_iff.mp hz).1
    obtain ⟨b, h1, h2, h3, h4⟩ := R.first a ha
    rw [h1] at hw; cases hw
    have e := R.ref b a (by omega) ha h3
    rw [hz] at e
    obtain ⟨e0, e1, e2⟩ := P.fix b z e
    exact ⟨e1, by rw [Int.toNat_natCast]; exact e⟩
  refine countP_lt (fun a ha h => ?_) ?_
  · have ha := List.mem_range.mp ha
    have hp : p[a]? = some (a : Int) := of_decide_eq_true h
    obtain ⟨b, h1, h2, h3, h4⟩ := R.first a ha
    have := (up a _ _ hp h1).1
    have e : b = a := by omega
    rw [e] at h1
    exact decide_eq_true h1
  · obtain ⟨a, ha, hne2⟩ : ∃ a, a < c ∧ q[a]? ≠ p[a]? := by
      refine Classical.byContradiction fun hn => hne (List.ext_getElem? fun a => ?_)
      by_cases ha : a < c
      · exact Classical.byContradiction fun z => hn ⟨a, ha, z⟩
      · rw [List.getElem?_eq_none (by rw [R.len]; omega), List.getElem?_eq_none (by rw [P.len]; omega)]
    obtain ⟨b, h1, h2, h3, h4⟩ := R.first a ha
    obtain ⟨z, hz⟩ : ∃ z, p[a]? = some z := ⟨_, List.getElem?_eq_getElem (by rw [P.len]; exact ha)⟩
    obtain ⟨u1, u2⟩ := up a z b hz h1
    rw [Int.toNat_natCast] at u2
    refine ⟨b, List.mem_range.mpr (by omega), ?_, ?_⟩
    · have := (Q.fix a b h1).2.2
      rw [Int.toNat_natCast] at this
      exact decide_eq_true this
    · refine decide_eq_false fun e => hne2 ?_
      rw [u2] at e
      rw [h1, hz, ← Option.some.inj e]
theorem zeros_can (c : Nat) : Can (List.replicate c 0) c := by
  refine ⟨List.length_replicate, fun a z hz => ?_⟩
  rw [List.getElem?_replicate] at hz
  by_cases h : a < c
  · rw [if_pos h] at hz
    cases hz
    exact ⟨by omega, by omega, by rw [List.getElem?_replicate, if_pos (by show (0 : Int).toNat < c; simp; omega)]⟩
  · rw [if_neg h] at hz; cases hz
/-- a key of a place: its number, the numbers it holds, what it holds beside -/
structure Ky (c : Nat) (rs : List (List Int)) (p : List Int) (key : Nat → Int × List Int × List Int) : Prop where
  val : ∀ (a : Nat) r, a < c → rs[a]? = some r → (key a).2.2 = br c r ∧ p[a]? = some (key a).1 ∧ (∀ z, z ∈ (key a).2.1 ↔ ∃ e ∈ gp c r, p[e.toNat]? = some z)
theorem Ky.keep {n c : Nat} {rs : List (List Int)} {p : List Int} {key : Nat → Int × List Int × List Int} (k : Ky c rs p key) (hn : rs.length = n) (hc : c ≤ n) (hp : p.length = c) (h0 : ∀ r ∈ rs, ∀ e ∈ r, 0 ≤ e)
    (hasc : ∀ a, a < c → (key a).2.1.Pairwise (· < ·)) (hb : ∀ g h, Bs c rs g h → p[g]? = p[h]?) {g h : Nat} (b : Bs c rs g h) : key g = key h := by
  obtain ⟨r, s, a1, a2, a3, a4, a5, a6⟩ := Bs.isB g h b
  obtain ⟨k1, k2, k3⟩ := k.val g r a1 a3
  obtain ⟨l1, l2, l3⟩ := k.val h s a2 a4
  have e1 : (key g).1 = (key h).1 := by
    have := hb g h b
    rw [k2, l2] at this
    exact Option.some.inj this
  have e2 : (key g).2.1 = (key h).2.1 := by
    refine asc_eq (hasc g a1) (hasc h a2) fun z => ?_
    rw [k3, l3]
    constructor
    · rintro ⟨e, he, hz⟩
      obtain ⟨f, hf, q⟩ := a6.1 e he
      exact ⟨f, hf, by rw [← hb _ _ q]; exact hz⟩
    · rintro ⟨f, hf, hz⟩
      obtain ⟨e, he, q⟩ := a6.2 f hf
      exact ⟨e, he, by rw [hb _ _ q]; exact hz⟩
  have e3 : (key g).2.2 = (key h).2.2 := by rw [k1, l1, a5]
  exact Prod.ext e1 (Prod.ext e2 e3)
/-- a numbering that a round leaves as it is -/
theorem Ky.stable {n c : Nat} {rs : List (List Int)} {p : List Int} {key : Nat → Int × List Int × List Int} (k : Ky c rs p key) (hn : rs.length = n) (hc : c ≤ n) (R : Rd p p key c) (h0 : ∀ r ∈ rs, ∀ e ∈ r, 0 ≤ e)
    {g h : Nat} (hg : g < c) (hh : h < c) (e : p[g]? = p[h]?) : Bs c rs g h := by
  refine ⟨fun x y => x < c ∧ y < c ∧ p[x]? = p[y]?, ?_, hg, hh, e⟩
  rintro x y ⟨hx, hy, e⟩
  have ek := (R.same hx hy).mp e
  obtain ⟨r, hr⟩ : ∃ r, rs[x]? = some r := ⟨_, List.getElem?_eq_getElem (by omega)⟩
  obtain ⟨s, hs⟩ : ∃ s, rs[y]? = some s := ⟨_, List.getElem?_eq_getElem (by omega)⟩
  obtain ⟨k1, k2, k3⟩ := k.val x r hx hr
  obtain ⟨l1, l2, l3⟩ := k.val y s hy hs
  have lt : ∀ {r e}, r ∈ rs → e ∈ gp c r → e.toNat < c := fun {r e} hr he => by
    have := gp_mem.mp he
    have := h0 r hr e this.1
    omega
  have has : ∀ a, a < c → ∃ z, p[a]? = some z := fun a ha => ⟨_, List.getElem?_eq_getElem (by rw [R.len]; exact ha)⟩
  refine ⟨r, s, hx, hy, hr, hs, by rw [← k1, ← l1, ek], fun e he => ?_, fun f hf => ?_⟩
  · have h1 := lt (List.mem_of_getElem? hr) he
    obtain ⟨z, hz⟩ := has _ h1
    have : z ∈ (key y).2.1 := by rw [← ek]; exact (k3 z).mpr ⟨e, he, hz⟩
    obtain ⟨f, hf, hz2⟩ := (l3 z).mp this
    exact ⟨f, hf, h1, lt (List.mem_of_getElem? hs) hf, by rw [hz, hz2]⟩
  · have h1 := lt (List.mem_of_getElem? hs) hf
    obtain ⟨z, hz⟩ := has _ h1
    have : z ∈ (key x).2.1 := by rw [ek]; exact (l3 z).mpr ⟨f, hf, hz⟩
    obtain ⟨e, he, hz2⟩ := (k3 z).mp this
    exact ⟨e, he, lt (List.mem_of_getElem? hr) he, h1, by rw [hz2, hz]⟩
theorem Can.id_iff {p : List Int} {c : Nat} (P : Can p c) : p = (List.range c).map (fun k : Nat => (k : Int)) ↔ ∀ g h, g < c → h < c → p[g]? = p[h]? → g = h := by
  constructor
  · intro e g h hg hh q
    rw [e, List.getElem?_map, List.getElem?_map, List.getElem?_range hg, List.getElem?_range hh] at q
    simp only [Option.map_some, Option.some.injEq] at q
    omega
  · intro hi
    refine List.ext_getElem? fun a => ?_
    by_cases ha : a < c
    · obtain ⟨z, hz⟩ : ∃ z, p[a]? = some z := ⟨_, List.getElem?_eq_getElem (by rw [P.len]; exact ha)⟩
      obtain ⟨z0, z1, z2⟩ := P.fix a z hz
      have := hi z.toNat a (by omega) ha (by rw [z2, hz])
      rw [hz, List.getElem?_map, List.getElem?_range ha]
      simp only [Option.map_some, Option.some.injEq]
      omega
    · rw [List.getElem?_eq_none (by rw [P.len]; omega), List.getElem?_eq_none (by rw [List.length_map, List.length_range]; omega)]
end Lm
/-! plain maths: numberings that tell the sets, and the drawing built of a sketch -/
namespace Lm
/-- equal numbers exactly at places with the same members' numbers -/
def Ext (T : List (List Int)) (N : Nat → Int) : Prop := ∀ (a b : Nat) r s, T[a]? = some r → T[b]? = some s → (N a = N b ↔ ∀ z, (∃ e ∈ r, N e.toNat = z) ↔ (∃ e ∈ s, N e.toNat = z))
/-- the drawing T built of the rows rs, c of them groups -/
structure Bd (T rs : List (List Int)) (n c : Nat) : Prop where
  len : rs.length = n
  cn : c ≤ n
  grp : ∀ a, a < c → T[a]? = rs[a]?
  bar : ∀ (i : Nat) r, c + i < n → rs[c + i]? = some r → T[c + i]? = some (r ++ [((n + i : Nat) : Int)])
  mark : ∀ i, c + i < n → T[n + i]? = some [((n + (n - c) : Nat) : Int), ((n + (n - c) + (c + 1 + i) : Nat) : Int)]
  zero : c < n → T[n + (n - c)]? = some []
  wrap : c < n → ∀ w, w < n → T[n + (n - c) + (w + 1)]? = some [((n + (n - c) + w : Nat) : Int)]
section
variable {T rs : List (List Int)} {n c : Nat} {N : Nat → Int}
theorem Bd.z_inj (B : Bd T rs n c) (X : Ext T N) (h : c < n) : ∀ j k, j ≤ n → k ≤ n → N (n + (n - c) + j) = N (n + (n - c) + k) → j = k := by
  intro j
  induction j with
  | zero =>
    intro k _ hk e
    cases k with
    | zero => rfl
    | succ k =>
      have := (X _ _ _ _ (B.zero h) (B.wrap h k (by omega))).mp e (N (n + (n - c) + k))
      obtain ⟨e, he, _⟩ := this.mpr ⟨_, List.mem_singleton.mpr rfl, by rw [Int.toNat_natCast]⟩
      exact nomatch he
  | succ j ih =>
    intro k hj hk e
    cases k with
    | zero =>
      have := (X _ _ _ _ (B.wrap h j (by omega)) (B.zero h)).mp e (N (n + (n - c) + j))
      obtain ⟨e, he, _⟩ := this.mp ⟨_, List.mem_singleton.mpr rfl, by rw [Int.toNat_natCast]⟩
      exact nomatch he
    | succ k =>
      have := (X _ _ _ _ (B.wrap h j (by omega)) (B.wrap h k (by omega))).mp e (N (n + (n - c) + j))
      obtain ⟨e, he, e2⟩ := this.mp ⟨_, List.mem_singleton.mpr rfl, by rw [Int.toNat_natCast]⟩
      rw [List.mem_singleton.mp he, Int.toNat_natCast] at e2
      rw [ih k (by omega) (by omega) e2.symm]
/-- a place with the number of j nested braces -/
theorem Bd.z_zero (B : Bd T rs n c) (X : Ext T N) (h : c < n) {a : Nat} {r : List Int} (hr : T[a]? = some r) (e : N a = N (n + (n - c) + 0)) : r = [] := by
  cases r with
  | nil => rfl
  | cons x r =>
    have := (X _ _ _ _ hr (B.zero h)).mp e (N x.toNat)
    obtain ⟨e, he, _⟩ := this.mp ⟨x, List.mem_cons_self, rfl⟩
    exact nomatch he
theorem Bd.z_succ (B : Bd T rs n c) (X : Ext T N) (h : c < n) {a : Nat} {r : List Int} (hr : T[a]? = some r) {j : Nat} (hj : j < n) (e : N a = N (n + (n - c) + (j + 1))) : (∀ x ∈ r, N x.toNat = N (n + (n - c) + j)) ∧ ∃ x, x ∈ r := by
  have key := (X _ _ _ _ hr (B.wrap h j hj)).mp e
  constructor
  · intro x hx
    obtain ⟨y, hy, e2⟩ := (key (N x.toNat)).mp ⟨x, hx, rfl⟩
    rw [List.mem_singleton.mp hy, Int.toNat_natCast] at e2
    exact e2.symm
  · obtain ⟨x, hx, _⟩ := (key (N (n + (n - c) + j))).mpr ⟨_, List.mem_singleton.mpr rfl, by rw [Int.toNat_natCast]⟩
    exact ⟨x, hx⟩
theorem Bd.mark_z (B : Bd T rs n c) (X : Ext T N) {i : Nat} (hi : c + i < n) {j : Nat} (hj : j ≤ n) : N (n + i) ≠ N (n + (n - c) + j) := by
  intro e
  have h : c < n := by omega
  cases j with
  | zero => have := B.z_zero X h (B.mark i hi) e; cases this
  | succ j =>
    obtain ⟨k1, _⟩ := B.z_succ X h (B.mark i hi) (by omega) e
    have e1 := k1 _ (List.mem_cons_self)
    have e2 := k1 _ (List.mem_cons_of_mem _ (List.mem_singleton.mpr rfl))
    rw [Int.toNat_natCast] at e1 e2
    have h1 := B.z_inj X h 0 j (by omega) (by omega) e1
    have h2 := B.z_inj X h (c + 1 + i) j (by omega) (by omega) e2
    omega
theorem Bd.bare_row (B : Bd T rs n c) {i : Nat} (hi : c + i < n) : ∃ r, rs[c + i]? = some r ∧ T[c + i]? = some (r ++ [((n + i : Nat) : Int)]) := by
  obtain ⟨r, hr⟩ : ∃ r, rs[c + i]? = some r := ⟨_, List.getElem?_eq_getElem (by rw [B.len]; exact hi)⟩
  exact ⟨r, hr, B.bar i r hi hr⟩
theorem Bd.bare_z (B : Bd T rs n c) (X : Ext T N) {i : Nat} (hi : c + i < n) {j : Nat} (hj : j ≤ n) : N (c + i) ≠ N (n + (n - c) + j) := by
  intro e
  have h : c < n := by omega
  obtain ⟨r, _, hr⟩ := B.bare_row hi
  cases j with
  | zero => have := B.z_zero X h hr e; simp at this
  | succ j =>
    obtain ⟨k1, _⟩ := B.z_succ X h hr (by omega) e
    have e1 := k1 _ (List.mem_append_right _ (List.mem_singleton.mpr rfl))
    rw [Int.toNat_natCast] at e1
    exact B.mark_z X hi (by omega) e1
/-- a place below n with the number of j nested braces is the end of a chain of j + 1 groups -/
theorem Bd.chain (B : Bd T rs n c) (X : Ext T N) (hin : In rs) (h : c < n) : ∀ j, j ≤ n → ∀ p, p < n → N p = N (n + (n - c) + j) → ∃ f : Nat → Nat, ∀ k, k ≤ j → f k < c ∧ N (f k) = N (n + (n - c) + k) := by
  intro j
  induction j with
  | zero =>
    intro hj p hp e
    refine ⟨fun _ => p, fun k hk => ?_⟩
    have : k = 0 := by omega
    subst this
    refine ⟨?_, e⟩
    rcases Nat.lt_or_ge p c with q | q
    · exact q
    · have := B.bare_z X (i := p - c) (by omega) (j := 0) (by omega)
      rw [show c + (p - c) = p by omega] at this
      exact absurd e this
  | succ j ih =>
    intro hj p hp e
    have hpc : p < c := by
      rcases Nat.lt_or_ge p c with q | q
      · exact q
      · have := B.bare_z X (i := p - c) (by omega) hj
        rw [show c + (p - c) = p by omega] at this
        exact absurd e this
    obtain ⟨r, hr⟩ : ∃ r, rs[p]? = some r := ⟨_, List.getElem?_eq_getElem (by rw [B.len]; exact hp)⟩
    have hT : T[p]? = some r := by rw [B.grp p hpc]; exact hr
    obtain ⟨k1, x, hx⟩ := B.z_succ X h hT (by omega) e
    have hx2 := hin r (List.mem_of_getElem? hr) x hx
    rw [B.len] at hx2
    obtain ⟨f, hf⟩ := ih (by omega) x.toNat (by omega) (k1 x hx)
    refine ⟨fun k => if k = j + 1 then p else f k, fun k hk => ?_⟩
    by_cases hk2 : k = j + 1
    · subst hk2; simp only [if_pos]; exact ⟨hpc, e⟩
    · simp only [if_neg hk2]; exact hf k (by omega)
theorem Bd.low (B : Bd T rs n c) (X : Ext T N) (hin : In rs) (h : c < n) {j : Nat} (hj : j ≤ n) {p : Nat} (hp : p < n) (e : N p = N (n + (n - c) + j)) : j < c := by
  obtain ⟨f, hf⟩ := B.chain X hin h j hj p hp e
  have nd : ((List.range (j + 1)).map f).Nodup := by
    rw [List.Nodup, List.pairwise_map]
    refine List.Pairwise.imp_of_mem (fun {a b} ha hb hab e2 => ?_) (List.nodup_range (n := j + 1))
    have h1 := List.mem_range.mp ha
    have h2 := List.mem_range.mp hb
    have e3 := (hf a (by omega)).2
    have e4 := (hf b (by omega)).2
    rw [e2] at e3
    exact hab (B.z_inj X h a b (by omega) (by omega) (e3.symm.trans e4))
  have := nodup_le (n := c) nd fun x hx => by
    obtain ⟨k, hk, rfl⟩ := List.mem_map.mp hx
    exact (hf k (by have := List.mem_range.mp hk; omega)).1
  rw [List.length_map, List.length_range] at this
  omega
/-- no place below n is a mark's set -/
theorem Bd.no_mark (B : Bd T rs n c) (X : Ext T N) (hin : In rs) {i : Nat} (hi : c + i < n) {p : Nat} (hp : p < n) : N p ≠ N (n + i) := by
  intro e
  have h : c < n := by omega
  have key : ∀ r, T[p]? = some r → ∃ x ∈ r, N x.toNat = N (n + (n - c) + (c + 1 + i)) := fun r hr => by
    refine ((X _ _ _ _ hr (B.mark i hi)).mp e _).mpr ⟨_, List.mem_cons_of_mem _ (List.mem_singleton.mpr rfl), by rw [Int.toNat_natCast]⟩
  obtain ⟨r, hr⟩ : ∃ r, rs[p]? = some r := ⟨_, List.getElem?_eq_getElem (by rw [B.len]; exact hp)⟩
  have low : ∀ x ∈ r, N x.toNat ≠ N (n + (n - c) + (c + 1 + i)) := fun x hx e2 => by
    have hx2 := hin r (List.mem_of_getElem? hr) x hx
    rw [B.len] at hx2
    have := B.low X hin h (j := c + 1 + i) (by omega) (p := x.toNat) (by omega) e2
    omega
  rcases Nat.lt_or_ge p c with q | q
  · obtain ⟨x, hx, e2⟩ := key r (by rw [B.grp p q]; exact hr)
    exact low x hx e2
  · have hb := B.bar (p - c) r (by omega) (by rw [show c + (p - c) = p by omega]; exact hr)
    rw [show c + (p - c) = p by omega] at hb
    obtain ⟨x, hx, e2⟩ := key _ hb
    rcases List.mem_append.mp hx with z | z
    · exact low x z e2
    · rw [List.mem_singleton.mp z, Int.toNat_natCast] at e2
      exact B.mark_z X (i := p - c) (by omega) (j := c + 1 + i) (by omega) e2
theorem Bd.mark_in (B : Bd T rs n c) (X : Ext T N) {i : Nat} (hi : c + i < n) {p : Nat} {r : List Int} (hr : T[p]? = some r) (e : N (c + i) = N p) : ∃ x ∈ r, N x.toNat = N (n + i) := by
  obtain ⟨r0, _, h0⟩ := B.bare_row hi
  exact ((X _ _ _ _ h0 hr).mp e _).mp ⟨_, List.mem_append_right _ (List.mem_singleton.mpr rfl), by rw [Int.toNat_natCast]⟩
theorem Bd.bare_inj (B : Bd T rs n c) (X : Ext T N) (hin : In rs) {i k : Nat} (hi : c + i < n) (hk : c + k < n) (e : N (c + i) = N (c + k)) : i = k := by
  have h : c < n := by omega
  obtain ⟨r, hr0, hr⟩ := B.bare_row hk
  obtain ⟨x, hx, e2⟩ := B.mark_in X hi hr e
  rcases List.mem_append.mp hx with z | z
  · have hx2 := hin r (List.mem_of_getElem? hr0) x z
    rw [B.len] at hx2
    exact absurd e2 (B.no_mark X hin hi (by omega))
  · rw [List.mem_singleton.mp z, Int.toNat_natCast] at e2
    have := (X _ _ _ _ (B.mark k hk) (B.mark i hi)).mp e2 (N (n + (n - c) + (c + 1 + i)))
    obtain ⟨y, hy, e3⟩ := this.mpr ⟨_, List.mem_cons_of_mem _ (List.mem_singleton.mpr rfl), by rw [Int.toNat_natCast]⟩
    rcases List.mem_cons.mp hy with w | w
    · rw [w, Int.toNat_natCast] at e3
      have := B.z_inj X h 0 (c + 1 + i) (by omega) (by omega) e3
      omega
    · rw [List.mem_singleton.mp w, Int.toNat_natCast] at e3
      have := B.z_inj X h (c + 1 + k) (c + 1 + i) (by omega) (by omega) e3
      omega
theorem Bd.bare_grp (B : Bd T rs n c) (X : Ext T N) (hin : In rs) {i g : Nat} (hi : c + i < n) (hg : g < c) : N (c + i) ≠ N g := by
  intro e
  obtain ⟨r, hr⟩ : ∃ r, rs[g]? = some r := ⟨_, List.getElem?_eq_getElem (by rw [B.len]; omega)⟩
  obtain ⟨x, hx, e2⟩ := B.mark_in X hi (show T[g]? = some r by rw [B.grp g hg]; exact hr) e
  have hx2 := hin r (List.mem_of_getElem? hr) x hx
  rw [B.len] at hx2
  exact absurd e2 (B.no_mark X hin hi (by omega))
/-- equal numbers of two groups: alike as the sketch has it -/
theorem Bd.isB (B : Bd T rs n c) (X : Ext T N) (hin : In rs) (hasc : ∀ r ∈ rs, r.Pairwise (· < ·)) {g h : Nat} (hg : g < c) (hh : h < c) (e : N g = N h) : Bs c rs g h := by
  refine ⟨fun x y => x < c ∧ y < c ∧ N x = N y, ?_, hg, hh, e⟩
  rintro x y ⟨hx, hy, e⟩
  obtain ⟨r, hr⟩ : ∃ r, rs[x]? = some r := ⟨_, List.getElem?_eq_getElem (by rw [B.len]; have := B.cn; omega)⟩
  obtain ⟨s, hs⟩ : ∃ s, rs[y]? = some s := ⟨_, List.getElem?_eq_getElem (by rw [B.len]; have := B.cn; omega)⟩
  have key := (X _ _ r s (by rw [B.grp x hx]; exact hr) (by rw [B.grp y hy]; exact hs)).mp e
  have hi : ∀ {t}, t ∈ rs → ∀ z ∈ t, 0 ≤ z ∧ z < (n : Int) := fun {t} ht z hz => by have := hin t ht z hz; rw [B.len] at this; exact this
  have hrm := List.mem_of_getElem? hr
  have hsm := List.mem_of_getElem? hs
  -- a member's partner is of its own kind
  have part : ∀ {a b : Int}, 0 ≤ a → a < (n : Int) → 0 ≤ b → b < (n : Int) → N a.toNat = N b.toNat → (a < (c : Int) ↔ b < (c : Int)) ∧ (¬ a < (c : Int) → a = b) := fun {a b} a0 a1 b0 b1 e => by
    by_cases ha : a < (c : Int)
    · by_cases hb : b < (c : Int)
      · exact ⟨⟨fun _ => hb, fun _ => ha⟩, fun z => absurd ha z⟩
      · have := B.bare_grp X hin (i := b.toNat - c) (g := a.toNat) (by omega) (by omega)
        rw [show c + (b.toNat - c) = b.toNat by omega] at this
        exact absurd e.symm this
    · by_cases hb : b < (c : Int)
      · have := B.bare_grp X hin (i := a.toNat - c) (g := b.toNat) (by omega) (by omega)
        rw [show c + (a.toNat - c) = a.toNat by omega] at this
        exact absurd e this
      · have := B.bare_inj X hin (i := a.toNat - c) (k := b.toNat - c) (by omega) (by omega) (by rw [show c + (a.toNat - c) = a.toNat by omega, show c + (b.toNat - c) = b.toNat by omega]; exact e)
        exact ⟨⟨fun z => absurd z ha, fun z => absurd z hb⟩, fun _ => by omega⟩
  have go : ∀ a ∈ r, ∃ b ∈ s, N a.toNat = N b.toNat := fun a ha => by
    obtain ⟨b, hb, e2⟩ := (key (N a.toNat)).mp ⟨a, ha, rfl⟩
    exact ⟨b, hb, e2.symm⟩
  have back : ∀ b ∈ s, ∃ a ∈ r, N a.toNat = N b.toNat := fun b hb => by
    obtain ⟨a, ha, e2⟩ := (key (N b.toNat)).mpr ⟨b, hb, rfl⟩
    exact ⟨a, ha, e2⟩
  refine ⟨r, s, hx, hy, hr, hs, ?_, fun a ha => ?_, fun b hb => ?_⟩
  · refine asc_eq ((hasc r hrm).filter _) ((hasc s hsm).filter _) fun z => ?_
    show z ∈ br c r ↔ z ∈ br c s
    rw [br_mem, br_mem]
    constructor
    · rintro ⟨hz, hz2⟩
      obtain ⟨b, hb, e2⟩ := go z hz
      have := (part (hi hrm z hz).1 (hi hrm z hz).2 (hi hsm b hb).1 (hi hsm b hb).2 e2).2 (by omega)
      rw [this] at hz2 ⊢; exact ⟨hb, hz2⟩
    · rintro ⟨hz, hz2⟩
      obtain ⟨a, ha, e2⟩ := back z hz
      have := (part (hi hsm z hz).1 (hi hsm z hz).2 (hi hrm a ha).1 (hi hrm a ha).2 e2.symm).2 (by omega)
      rw [this] at hz2 ⊢; exact ⟨ha, hz2⟩
  · obtain ⟨ha1, ha2⟩ := gp_mem.mp ha
    obtain ⟨b, hb, e2⟩ := go a ha1
    have a3 := hi hrm a ha1
    have b3 := hi hsm b hb
    have := ((part a3.1 a3.2 b3.1 b3.2 e2).1).mp ha2
    exact ⟨b, gp_mem.mpr ⟨hb, this⟩, by omega, by omega, e2⟩
  · obtain ⟨hb1, hb2⟩ := gp_mem.mp hb
    obtain ⟨a, ha, e2⟩ := back b hb1
    have a3 := hi hrm a ha
    have b3 := hi hsm b hb1
    have := ((part a3.1 a3.2 b3.1 b3.2 e2).1).mpr hb2
    exact ⟨a, gp_mem.mpr ⟨ha, this⟩, by omega, by omega, e2⟩
/-- where no two groups are alike, the places below n have different numbers, and the rows tell the members -/
theorem Bd.inj (B : Bd T rs n c) (X : Ext T N) (hin : In rs) (hasc : ∀ r ∈ rs, r.Pairwise (· < ·)) (hs : ∀ g h, Bs c rs g h → g = h) {p q : Nat} (hp : p < n) (hq : q < n) (e : N p = N q) : p = q := by
  rcases Nat.lt_or_ge p c with a | a
  · rcases Nat.lt_or_ge q c with b | b
    · exact hs p q (B.isB X hin hasc a b e)
    · have := B.bare_grp X hin (i := q - c) (g := p) (by omega) a
      rw [show c + (q - c) = q by omega] at this
      exact absurd e.symm this
  · rcases Nat.lt_or_ge q c with b | b
    · have := B.bare_grp X hin (i := p - c) (g := q) (by omega) b
      rw [show c + (p - c) = p by omega] at this
      exact absurd e this
    · have := B.bare_inj X hin (i := p - c) (k := q - c) (by omega) (by omega) (by rw [show c + (p - c) = p by omega, show c + (q - c) = q by omega]; exact e)
      omega
theorem Bd.mem (B : Bd T rs n c) (X : Ext T N) (hin : In rs) (hasc : ∀ r ∈ rs, r.Pairwise (· < ·)) (hs : ∀ g h, Bs c rs g h → g = h) {a k : Nat} (ha : a < n) (hk : k < n) {r t : List Int} (hr : rs[a]? = some r) (ht : T[a]? = some t) :
    (∃ e ∈ t, N e.toNat = N k) ↔ (k : Int) ∈ r := by
  have low : ∀ e ∈ r, N e.toNat = N k → e = (k : Int) := fun e he e2 => by
    have h1 := hin r (List.mem_of_getElem? hr) e he
    rw [B.len] at h1
    have := B.inj X hin hasc hs (p := e.toNat) (q := k) (by omega) hk e2
    omega
  rcases Nat.lt_or_ge a c with q | q
  · rw [B.grp a q, hr] at ht
    cases ht
    exact ⟨fun ⟨e, he, e2⟩ => by rw [← low e he e2]; exact he, fun h => ⟨_, h, by rw [Int.toNat_natCast]⟩⟩
  · have hb := B.bar (a - c) r (by omega) (by rw [show c + (a - c) = a by omega]; exact hr)
    rw [show c + (a - c) = a by omega, ht] at hb
    cases hb
    constructor
    · rintro ⟨e, he, e2⟩
      rcases List.mem_append.mp he with z | z
      · rw [← low e z e2]; exact z
      · rw [List.mem_singleton.mp z, Int.toNat_natCast] at e2
        exact absurd e2.symm (B.no_mark X hin (i := a - c) (by omega) hk)
    · intro h
      exact ⟨_, List.mem_append_left _ h, by rw [Int.toNat_natCast]⟩
end
end Lm
/-! plain maths: a partition refined by rounds ends at the greatest likeness -/
namespace Lm
/-- how many different ones -/
def nf (p : List Int) : Nat := (List.range p.length).countP fun a => decide (∀ b, b < a → p[b]? ≠ p[a]?)
theorem nf_le (p : List Int) : nf p ≤ p.length := by
  unfold nf
  have := List.countP_le_length (p := fun a : Nat => decide (∀ b, b < a → p[b]? ≠ p[a]?)) (l := List.range p.length)
  rwa [List.length_range] at this
theorem nf_push (p : List Int) (z : Int) : nf (p ++ [z]) = nf p + if z ∈ p then 0 else 1 := by
  unfold nf
  rw [List.length_append, List.length_singleton, List.range_succ, List.countP_append]
  congr 1
  · refine List.countP_congr fun a ha => ?_
    have ha := List.mem_range.mp ha
    rw [decide_eq_true_eq, decide_eq_true_eq]
    constructor
    · intro h b hb
      have := h b hb
      rwa [List.getElem?_append_left (by omega), List.getElem?_append_left ha] at this
    · intro h b hb
      rw [List.getElem?_append_left (by omega), List.getElem?_append_left ha]
      exact h b hb
  · have e : (p ++ [z])[p.length]? = some z := by rw [List.getElem?_append_right (Nat.le_refl _), Nat.sub_self]; rfl
    by_cases hz : z ∈ p
    · rw [if_pos hz, List.countP_cons_of_neg, List.countP_nil]
      rw [decide_eq_true_eq]
      intro h
      obtain ⟨b, hb⟩ := List.mem_iff_getElem?.mp hz
      have hbl := (List.getElem?_eq_some_iff.mp hb).1
      refine h b hbl ?_
      rw [e, List.getElem?_append_left hbl, hb]
    · rw [if_neg hz, List.countP_cons_of_pos, List.countP_nil]
      rw [decide_eq_true_eq]
      intro b hb
      rw [e, List.getElem?_append_left hb]
      intro q
      exact hz (List.mem_of_getElem? q)
/-- one round: q tells the keys, which refine p -/
structure Rn {κ : Type} (p q : List Int) (key : Nat → κ) (c : Nat) : Prop where
  lp : p.length = c
  lq : q.length = c
  same : ∀ a b, a < c → b < c → (q[a]? = q[b]? ↔ key a = key b)
  ref : ∀ a b, a < c → b < c → key a = key b → p[a]? = p[b]?
theorem least_of {P : Nat → Prop} : ∀ {a : Nat}, P a → ∃ m, m ≤ a ∧ P m ∧ ∀ b, b < m → ¬ P b := by
  intro a
  induction a using Nat.strongRecOn with
  | ind a ih =>
    intro h
    by_cases q : ∃ b, b < a ∧ P b
    · obtain ⟨b, hb, pb⟩ := q
      obtain ⟨m, h1, h2, h3⟩ := ih b hb pb
      exact ⟨m, by omega, h2, h3⟩
    · exact ⟨a, Nat.le_refl _, h, fun b hb pb => q ⟨b, hb, pb⟩⟩
section
variable {κ : Type} {p q : List Int} {key : Nat → κ} {c : Nat}
theorem Rn.le (R : Rn p q key c) : nf p ≤ nf q := by
  unfold nf
  rw [R.lp, R.lq]
  refine List.countP_mono_left fun a ha h => ?_
  have ha := List.mem_range.mp ha
  rw [decide_eq_true_eq] at h ⊢
  intro b hb e
  exact h b hb (R.ref b a (by omega) ha ((R.same b a (by omega) ha).mp e))
theorem Rn.grow (R : Rn p q key c) {a b : Nat} (ha : a < c) (hb : b < c) (e : p[a]? = p[b]?) (hne : q[a]? ≠ q[b]?) : nf p < nf q := by
  unfold nf
  rw [R.lp, R.lq]
  obtain ⟨x, x1, x2, x3⟩ := least_of (P := fun m => q[m]? = q[a]?) (a := a) rfl
  obtain ⟨y, y1, y2, y3⟩ := least_of (P := fun m => q[m]? = q[b]?) (a := b) rfl
  have px : p[x]? = p[a]? := R.ref x a (by omega) ha ((R.same x a (by omega) ha).mp x2)
  have py : p[y]? = p[b]? := R.ref y b (by omega) hb ((R.same y b (by omega) hb).mp y2)
  have hxy : x ≠ y := fun z => hne (by rw [← x2, ← y2, z])
  have key1 : ∀ u v, u < v → v < c → p[u]? = p[v]? → (∀ b, b < v → q[b]? ≠ q[v]?) → (List.range c).countP (fun a => decide (∀ b, b < a → p[b]? ≠ p[a]?)) < (List.range c).countP fun a => decide (∀ b, b < a → q[b]? ≠ q[a]?) := fun u v huv hv e1 h1 => by
    refine countP_lt (fun a ha h => ?_) ⟨v, List.mem_range.mpr hv, decide_eq_true h1, decide_eq_false fun h => h u huv e1⟩
    have ha := List.mem_range.mp ha
    rw [decide_eq_true_eq] at h ⊢
    intro b hb e
    exact h b hb (R.ref b a (by omega) ha ((R.same b a (by omega) ha).mp e))
  rcases Nat.lt_or_gt_of_ne hxy with z | z
  · exact key1 x y z (by omega) (by rw [px, py, e]) fun b hb q1 => y3 b hb (q1.trans y2)
  · exact key1 y x z (by omega) (by rw [px, py, e]) fun b hb q1 => x3 b hb (q1.trans x2)
theorem Rn.still (R : Rn p q key c) (e : nf q = nf p) {a b : Nat} (ha : a < c) (hb : b < c) : q[a]? = q[b]? ↔ p[a]? = p[b]? := by
  constructor
  · intro h
    exact R.ref a b ha hb ((R.same a b ha hb).mp h)
  · intro h
    refine Classical.byContradiction fun hn => ?_
    have := R.grow ha hb h hn
    omega
end
/-- the table of one round: ks the different keys in order, f their places -/
structure Fr {κ : Type} (ks : List κ) (f : List Int) (key : Nat → κ) (j : Nat) : Prop where
  len : f.length = j
  nd : ks.Nodup
  at_ : ∀ i, i < j → ∃ m : Nat, f[i]? = some (m : Int) ∧ ks[m]? = some (key i)
  used : ∀ m, m < ks.length → (m : Int) ∈ f
  nf : nf f = ks.length
section
variable {κ : Type} {ks : List κ} {f : List Int} {key : Nat → κ} {j : Nat}
theorem Fr.nil : Fr ([] : List κ) [] key 0 := ⟨rfl, List.nodup_nil, fun i hi => absurd hi (Nat.not_lt_zero _), fun m hm => absurd hm (Nat.not_lt_zero _), rfl⟩
theorem Fr.lt (F : Fr ks f key j) {z : Int} (hz : z ∈ f) : 0 ≤ z ∧ z < (ks.length : Int) := by
  obtain ⟨i, hi⟩ := List.mem_iff_getElem?.mp hz
  obtain ⟨m, h1, h2⟩ := F.at_ i (by rw [← F.len]; exact (List.getElem?_eq_some_iff.mp hi).1)
  rw [h1] at hi; cases hi
  have := (List.getElem?_eq_some_iff.mp h2).1
  omega
theorem Fr.le (F : Fr ks f key j) : ks.length ≤ j := by
  have := nf_le f
  rw [F.nf, F.len] at this
  exact this
theorem Fr.old (F : Fr ks f key j) {m : Nat} (h : ks[m]? = some (key j)) : Fr ks (f ++ [(m : Int)]) key (j + 1) := by
  have hm := (List.getElem?_eq_some_iff.mp h).1
  refine ⟨by rw [List.length_append, F.len]; rfl, F.nd, fun i hi => ?_, fun k hk => List.mem_append_left _ (F.used k hk), by rw [nf_push, if_pos (F.used m hm), F.nf]; rfl⟩
  by_cases e : i = j
  · subst e
    exact ⟨m, by rw [List.getElem?_append_right (by rw [F.len]; exact Nat.le_refl _), F.len, Nat.sub_self]; rfl, h⟩
  · obtain ⟨k, h1, h2⟩ := F.at_ i (by omega)
    exact ⟨k, by rw [List.getElem?_append_left (by rw [F.len]; omega)]; exact h1, h2⟩
theorem Fr.new (F : Fr ks f key j) (h : key j ∉ ks) : Fr (ks ++ [key j]) (f ++ [(ks.length : Int)]) key (j + 1) := by
  have hn : (ks.length : Int) ∉ f := fun z => by have := (F.lt z).2; omega
  refine ⟨by rw [List.length_append, F.len]; rfl, ?_, fun i hi => ?_, fun k hk => ?_, by rw [nf_push, if_neg hn, F.nf, List.length_append]; rfl⟩
  · rw [List.nodup_append]
    refine ⟨F.nd, List.nodup_cons.mpr ⟨List.not_mem_nil, List.nodup_nil⟩, fun a ha b hb => ?_⟩
    rw [List.mem_singleton.mp hb]
    exact fun e => h (e ▸ ha)
  · by_cases e : i = j
    · subst e
      exact ⟨ks.length, by rw [List.getElem?_append_right (by rw [F.len]; exact Nat.le_refl _), F.len, Nat.sub_self]; rfl, by rw [List.getElem?_append_right (Nat.le_refl _), Nat.sub_self]; rfl⟩
    · obtain ⟨k, h1, h2⟩ := F.at_ i (by omega)
      exact ⟨k, by rw [List.getElem?_append_left (by rw [F.len]; omega)]; exact h1, by rw [List.getElem?_append_left (List.getElem?_eq_some_iff.mp h2).1]; exact h2⟩
  · by_cases e : k = ks.length
    · subst e; exact List.mem_append_right _ (List.mem_singleton.mpr rfl)
    · rw [List.length_append, List.length_singleton] at hk
      exact List.mem_append_left _ (F.used k (by omega))
theorem Fr.same (F : Fr ks f key j) {a b : Nat} (ha : a < j) (hb : b < j) : f[a]? = f[b]? ↔ key a = key b := by
  obtain ⟨m, h1, h2⟩ := F.at_ a ha
  obtain ⟨k, h3, h4⟩ := F.at_ b hb
  rw [h1, h3]
  constructor
  · intro e
    have : m = k := by have := Option.some.inj e; omega
    subst this
    rw [h2] at h4
    exact Option.some.inj h4
  · intro e
    rw [← e] at h4
    have : m = k := (List.getElem?_inj (List.getElem?_eq_some_iff.mp h2).1 F.nd).mp (h2.trans h4.symm)
    rw [this]
end
/-- the rounds so far: p -/
structure Rs (c : Nat) (rs : List (List Int)) (p : List Int) : Prop where
  len : p.length = c
  bs : ∀ a b, Bs c rs a b → p[a]? = p[b]?
def Fin (c : Nat) (rs : List (List Int)) (p : List Int) : Prop := ∀ a b, a < c → b < c → p[a]? = p[b]? → Bs c rs a b
theorem zeros_rs (c : Nat) (rs : List (List Int)) : Rs c rs (List.replicate c 0) := ⟨List.length_replicate, fun a b h => by
  obtain ⟨_, _, h1, h2, _⟩ := Bs.isB a b h
  rw [List.getElem?_replicate, List.getElem?_replicate, if_pos h1, if_pos h2]⟩
section
variable {n c : Nat} {rs : List (List Int)} {p q : List Int} {key : Nat → Int × List Int × List Int}
theorem Rs.next (P : Rs c rs p) (k : Ky c rs p key) (hn : rs.length = n) (hc : c ≤ n) (h0 : ∀ r ∈ rs, ∀ e ∈ r, 0 ≤ e) (hasc : ∀ a, a < c → (key a).2.1.Pairwise (· < ·)) {ks : List (Int × List Int × List Int)} (F : Fr ks q key c) : Rs c rs q ∧ Rn p q key c := by
  refine ⟨⟨F.len, fun a b h => ?_⟩, P.len, F.len, fun a b ha hb => F.same ha hb, fun a b ha hb e => ?_⟩
  · obtain ⟨_, _, h1, h2, _⟩ := Bs.isB a b h
    exact (F.same h1 h2).mpr (k.keep hn hc P.len h0 hasc P.bs h)
  · obtain ⟨r, hr⟩ : ∃ r, rs[a]? = some r := ⟨_, List.getElem?_eq_getElem (by omega)⟩
    obtain ⟨s, hs⟩ : ∃ s, rs[b]? = some s := ⟨_, List.getElem?_eq_getElem (by omega)⟩
    rw [(k.val a r ha hr).2.1, (k.val b s hb hs).2.1, e]
/-- where a round parts nothing -/
theorem Rn.fin (R : Rn p q key c) (k : Ky c rs p key) (hn : rs.length = n) (hc : c ≤ n) (h0 : ∀ r ∈ rs, ∀ e ∈ r, 0 ≤ e) (e : ∀ a b, a < c → b < c → p[a]? = p[b]? → q[a]? = q[b]?) : Fin c rs p := by
  intro g h hg hh eg
  refine ⟨fun x y => x < c ∧ y < c ∧ p[x]? = p[y]?, ?_, hg, hh, eg⟩
  rintro x y ⟨hx, hy, exy⟩
  have ek := (R.same x y hx hy).mp (e x y hx hy exy)
  obtain ⟨r, hr⟩ : ∃ r, rs[x]? = some r := ⟨_, List.getElem?_eq_getElem (by omega)⟩
  obtain ⟨s, hs⟩ : ∃ s, rs[y]? = some s := ⟨_, List.getElem?_eq_getElem (by omega)⟩
  obtain ⟨k1, k2, k3⟩ := k.val x r hx hr
  obtain ⟨l1, l2, l3⟩ := k.val y s hy hs
  have lt : ∀ {r e}, r ∈ rs → e ∈ gp c r → e.toNat < c := fun {r e} hr he => by
    have := gp_mem.mp he
    have := h0 r hr e this.1
    omega
  have has : ∀ a, a < c → ∃ z, p[a]? = some z := fun a ha => ⟨_, List.getElem?_eq_getElem (by rw [R.lp]; exact ha)⟩
  refine ⟨r, s, hx, hy, hr, hs, by rw [← k1, ← l1, ek], fun e he => ?_, fun f hf => ?_⟩
  · have h1 := lt (List.mem_of_getElem? hr) he
    obtain ⟨z, hz⟩ := has _ h1
    have := (k3 z).mpr ⟨e, he, hz⟩
    rw [ek] at this
    obtain ⟨f, hf, hz2⟩ := (l3 z).mp this
    exact ⟨f, hf, h1, lt (List.mem_of_getElem? hs) hf, by rw [hz, hz2]⟩
  · have h1 := lt (List.mem_of_getElem? hs) hf
    obtain ⟨z, hz⟩ := has _ h1
    have := (l3 z).mpr ⟨f, hf, hz⟩
    rw [← ek] at this
    obtain ⟨e, he, hz2⟩ := (k3 z).mp this
    exact ⟨e, he, lt (List.mem_of_getElem? hr) he, h1, by rw [hz, hz2]⟩
/-- a numbering that is done stays so -/
theorem Fin.next (f : Fin c rs p) (P : Rs c rs p) (Q : Rs c rs q) (R : Rn p q key c) : Fin c rs q := fun a b ha hb e => f a b ha hb (R.ref a b ha hb ((R.same a b ha hb).mp e))
theorem Fin.or_grow (P : Rs c rs p) (Q : Rs c rs q) (R : Rn p q key c) (k : Ky c rs p key) (hn : rs.length = n) (hc : c ≤ n) (h0 : ∀ r ∈ rs, ∀ e ∈ r, 0 ≤ e) {t : Nat} (h : Fin c rs p ∨ t < nf p) : Fin c rs q ∨ t + 1 < nf q := by
  rcases h with h | h
  · exact .inl (h.next P Q R)
  · by_cases e : nf q = nf p
    · have f := R.fin k hn hc h0 fun a b ha hb e2 => (R.still e ha hb).mpr e2
      exact .inl (f.next P Q R)
    · have := R.le
      exact .inr (by omega)
end
/-- all places groups: a numbering by the greatest likeness tells the sets -/
theorem ext_of {T : List (List Int)} {N : List Int} {l : Nat} (hl : T.length = l) (hN : N.length = l) (hin : In T) (h1 : Rs l T N) (h2 : Fin l T N) : Ext T (fun a => (N[a]?).getD 0) := by
  have hg : ∀ {r}, r ∈ T → gp l r = r := fun {r} hr => by
    unfold gp
    rw [List.filter_eq_self]
    intro e he
    have := (hin r hr e he).2
    rw [hl] at this
    exact decide_eq_true this
  have hb : ∀ {r}, r ∈ T → br l r = [] := fun {r} hr => by
    unfold br
    rw [List.filter_eq_nil_iff]
    intro e he
    have := (hin r hr e he).2
    rw [hl] at this
    rw [decide_eq_true_eq]
    omega
  have dec : ∀ {x y : Nat}, x < l → y < l → ((N[x]?).getD 0 = (N[y]?).getD 0 ↔ N[x]? = N[y]?) := fun {x y} hx hy => by
    rw [List.getElem?_eq_getElem (show x < N.length by omega), List.getElem?_eq_getElem (show y < N.length by omega)]
    exact ⟨fun h => by rw [show N[x] = N[y] from h], fun h => Option.some.inj h⟩
  have lt : ∀ {r e}, r ∈ T → e ∈ r → e.toNat < l := fun {r e} hr he => by have := hin r hr e he; omega
  intro a b r s hr hs
  have ha : a < l := by rw [← hl]; exact (List.getElem?_eq_some_iff.mp hr).1
  have hbl : b < l := by rw [← hl]; exact (List.getElem?_eq_some_iff.mp hs).1
  have hrm := List.mem_of_getElem? hr
  have hsm := List.mem_of_getElem? hs
  rw [dec ha hbl]
  constructor
  · intro e
    obtain ⟨r', s', _, _, e1, e2, _, m1, m2⟩ := Bs.isB a b (h2 a b ha hbl e)
    rw [hr] at e1; cases e1
    rw [hs] at e2; cases e2
    rw [hg hrm, hg hsm] at m1 m2
    intro z
    constructor
    · rintro ⟨x, hx, rfl⟩
      obtain ⟨y, hy, q⟩ := m1 x hx
      exact ⟨y, hy, (congrArg (fun o : Option Int => o.getD 0) (h1.bs _ _ q)).symm⟩
    · rintro ⟨y, hy, rfl⟩
      obtain ⟨x, hx, q⟩ := m2 y hy
      exact ⟨x, hx, congrArg (fun o : Option Int => o.getD 0) (h1.bs _ _ q)⟩
  · intro h
    refine h1.bs a b ⟨fun x y => Bs l T x y ∨ (x = a ∧ y = b), ?_, .inr ⟨rfl, rfl⟩⟩
    rintro x y (q | ⟨rfl, rfl⟩)
    · obtain ⟨r', s', k1, k2, k3, k4, k5, k6, k7⟩ := Bs.isB x y q
      exact ⟨r', s', k1, k2, k3, k4, k5, fun e he => let ⟨f, hf, z⟩ := k6 e he; ⟨f, hf, .inl z⟩, fun f hf => let ⟨e, he, z⟩ := k7 f hf; ⟨e, he, .inl z⟩⟩
    · refine ⟨r, s, ha, hbl, hr, hs, by rw [hb hrm, hb hsm], fun e he => ?_, fun f hf => ?_⟩
      · rw [hg hrm] at he
        obtain ⟨f, hf, z⟩ := (h _).mp ⟨e, he, rfl⟩
        exact ⟨f, by rw [hg hsm]; exact hf, .inl (h2 _ _ (lt hrm he) (lt hsm hf) ((dec (lt hrm he) (lt hsm hf)).mp z.symm))⟩
      · rw [hg hsm] at hf
        obtain ⟨e, he, z⟩ := (h _).mpr ⟨f, hf, rfl⟩
        exact ⟨e, by rw [hg hrm]; exact he, .inl (h2 _ _ (lt hrm he) (lt hsm hf) ((dec (lt hrm he) (lt hsm hf)).mp z)) ⟩
/-! ### the keys -/
def insA (z : Int) : List Int → List Int
  | [] => [z]
  | x :: r => if z < x then z :: x :: r else if z = x then x :: r else x :: insA z r
theorem insA_mem {z w : Int} : ∀ {l : List Int}, w ∈ insA z l ↔ w = z ∨ w ∈ l
  | [] => by simp [insA]
  | x :: r => by
    unfold insA
    split
    · simp
    · split
      · next h => subst h; simp
      · rw [List.mem_cons, insA_mem, List.mem_cons]
        constructor
        · rintro (h | h | h)
          · exact .inr (.inl h)
          · exact .inl h
          · exact .inr (.inr h)
        · rintro (h | h | h)
          · exact .inr (.inl h)
          · exact .inl h
          · exact .inr (.inr h)
theorem insA_asc {z : Int} : ∀ {l : List Int}, l.Pairwise (· < ·) → (insA z l).Pairwise (· < ·)
  | [], _ => List.pairwise_singleton _ _
  | x :: r, h => by
    have h1 := (List.pairwise_cons.mp h).1
    have h2 := (List.pairwise_cons.mp h).2
    unfold insA
    split
    · next q =>
      refine List.pairwise_cons.mpr ⟨fun w hw => ?_, h⟩
      rcases List.mem_cons.mp hw with e | e
      · rw [e]; exact q
      · have := h1 w e; omega
    · split
      · exact h
      · next q1 q2 =>
        refine List.pairwise_cons.mpr ⟨fun w hw => ?_, insA_asc h2⟩
        rcases insA_mem.mp hw with e | e
        · rw [e]; omega
        · exact h1 w e
def asc (l : List Int) : List Int := l.foldr insA []
theorem asc_mem {w : Int} : ∀ {l : List Int}, w ∈ asc l ↔ w ∈ l
  | [] => Iff.rfl
  | x :: r => by
    show w ∈ insA x (asc r) ↔ _
    rw [insA_mem, asc_mem, List.mem_cons]
theorem asc_pw : ∀ l : List Int, (asc l).Pairwise (· < ·)
  | [] => List.Pairwise.nil
  | _ :: r => insA_asc (asc_pw r)
theorem asc_of {l s : List Int} (h : s.Pairwise (· < ·)) (hm : ∀ z, z ∈ s ↔ z ∈ l) : s = asc l := asc_eq h (asc_pw l) fun z => (hm z).trans asc_mem.symm
def pAt (p : List Int) (a : Nat) : Int := (p[a]?).getD 0
theorem pAt_of {p : List Int} {a : Nat} (h : a < p.length) : p[a]? = some (pAt p a) := by unfold pAt; rw [List.getElem?_eq_getElem h]; rfl
def rowAt (rs : List (List Int)) (a : Nat) : List Int := (rs[a]?).getD []
theorem rowAt_of {rs : List (List Int)} {a : Nat} {r : List Int} (h : rs[a]? = some r) : rowAt rs a = r := by unfold rowAt; rw [h]; rfl
def keyK (c : Nat) (rs : List (List Int)) (p : List Int) (a : Nat) : Int × List Int × List Int := (pAt p a, asc ((gp c (rowAt rs a)).map fun e => pAt p e.toNat), br c (rowAt rs a))
theorem keyK_ky {n c : Nat} {rs : List (List Int)} {p : List Int} (hn : rs.length = n) (hc : c ≤ n) (hp : p.length = c) (h0 : ∀ r ∈ rs, ∀ e ∈ r, 0 ≤ e) : Ky c rs p (keyK c rs p) := ⟨fun a r ha hr => by
  unfold keyK
  rw [rowAt_of hr]
  refine ⟨rfl, pAt_of (by omega), fun z => ?_⟩
  have lt : ∀ e ∈ gp c r, e.toNat < p.length := fun e he => by
    have h1 := gp_mem.mp he
    have := h0 r (List.mem_of_getElem? hr) e h1.1
    omega
  rw [asc_mem, List.mem_map]
  constructor
  · rintro ⟨e, he, rfl⟩
    exact ⟨e, he, pAt_of (lt e he)⟩
  · rintro ⟨e, he, q⟩
    exact ⟨e, he, Option.some.inj ((pAt_of (lt e he)).symm.trans q)⟩⟩
theorem Fr.congr {κ : Type} {ks : List κ} {f : List Int} {key key' : Nat → κ} {j : Nat} (F : Fr ks f key j) (h : ∀ i, i < j → key i = key' i) : Fr ks f key' j :=
  ⟨F.len, F.nd, fun i hi => by rw [← h i hi]; exact F.at_ i hi, F.used, F.nf⟩
theorem Fr.map {κ μ : Type} {ks : List κ} {f : List Int} {key : Nat → κ} {j : Nat} (F : Fr ks f key j) {g : κ → μ} (hg : ∀ x y, g x = g y → x = y) : Fr (ks.map g) f (fun i => g (key i)) j := by
  refine ⟨F.len, ?_, fun i hi => ?_, fun m hm => F.used m (by rwa [List.length_map] at hm), by rw [F.nf, List.length_map]⟩
  · rw [List.Nodup, List.pairwise_map]
    exact F.nd.imp fun h e => h (hg _ _ e)
  · obtain ⟨m, h1, h2⟩ := F.at_ i hi
    exact ⟨m, h1, by rw [List.getElem?_map, h2]; rfl⟩
theorem nf_zeros : ∀ l : Nat, 1 ≤ l → nf (List.replicate l 0) = 1
  | 0, h => absurd h (by decide)
  | 1, _ => by decide
  | l + 2, _ => by
    rw [show List.replicate (l + 2) (0 : Int) = List.replicate (l + 1) 0 ++ [0] from List.replicate_succ', nf_push, nf_zeros (l + 1) (by omega), if_pos (List.mem_replicate.mpr ⟨by omega, rfl⟩)]
end Lm
/-! a table: keys by an injection, each with its place as value -/
namespace Lw
open PySem PySem.Spec PyProof.Rows L2
section
variable {α κ : Type} [DecidableEq κ]
def tagF (g : α → κ) (i : Nat) : List α → List (κ × V)
  | [] => []
  | k :: r => (g k, .int (i : Int)) :: tagF g (i + 1) r
def tag (g : α → κ) (ks : List α) : List (κ × V) := tagF g 0 ks
variable {g : α → κ}
theorem tagF_len : ∀ (ks : List α) (i : Nat), (tagF g i ks).length = ks.length
  | [], _ => rfl
  | _ :: r, i => congrArg Nat.succ (tagF_len r (i + 1))
theorem tag_len (ks : List α) : (tag g ks).length = ks.length := tagF_len ks 0
theorem tagF_get (hg : ∀ x y, g x = g y → x = y) : ∀ (ks : List α) (i : Nat) {j : Nat} {k : α}, ks.Nodup → ks[j]? = some k → valV (tagF g i ks) (g k) = some (.int ((i + j : Nat) : Int))
  | [], _, _, _, _, h => by simp at h
  | x :: r, i, j, k, hn, h => by
    rw [List.nodup_cons] at hn
    unfold valV tagF
    by_cases e : x = k
    · have hj : j = 0 := by
        cases j with
        | zero => rfl
        | succ j => rw [List.getElem?_cons_succ] at h; exact absurd (e ▸ List.mem_of_getElem? h) hn.1
      subst hj e
      rw [List.find?_cons_of_pos (by simp)]; rfl
    · rw [List.find?_cons_of_neg (by simp only [decide_eq_true_eq]; exact fun z => e (hg _ _ z))]
      cases j with
      | zero => simp at h; exact absurd h e
      | succ j =>
        rw [List.getElem?_cons_succ] at h
        have := tagF_get hg r (i + 1) hn.2 h
        unfold valV at this
        rw [this]
        congr 2
        omega
theorem tagF_none (hg : ∀ x y, g x = g y → x = y) : ∀ (ks : List α) (i : Nat) {k : α}, k ∉ ks → valV (tagF g i ks) (g k) = none
  | [], _, _, _ => rfl
  | x :: r, i, k, h => by
    unfold valV tagF
    rw [List.find?_cons_of_neg (by simp only [decide_eq_true_eq]; exact fun z => h (by rw [← hg _ _ z]; exact List.mem_cons_self))]
    have := tagF_none hg r (i + 1) (k := k) fun z => h (List.mem_cons_of_mem _ z)
    unfold valV at this
    exact this
theorem tag_get (hg : ∀ x y, g x = g y → x = y) {ks : List α} {j : Nat} {k : α} (hn : ks.Nodup) (h : ks[j]? = some k) : valV (tag g ks) (g k) = some (.int (j : Int)) := by
  have := tagF_get hg ks 0 hn h
  rw [Nat.zero_add] at this; exact this
theorem tag_none (hg : ∀ x y, g x = g y → x = y) {ks : List α} {k : α} (h : k ∉ ks) : valV (tag g ks) (g k) = none := tagF_none hg ks 0 h
theorem tagF_push : ∀ (ks : List α) (i : Nat) (k : α), tagF g i ks ++ [(g k, .int ((i + ks.length : Nat) : Int))] = tagF g i (ks ++ [k])
  | [], _, _ => rfl
  | x :: r, i, k => by
    show (g x, V.int (i : Int)) :: (tagF g (i + 1) r ++ _) = (g x, V.int (i : Int)) :: tagF g (i + 1) (r ++ [k])
    rw [← tagF_push r (i + 1) k, show i + (x :: r).length = i + 1 + r.length by rw [List.length_cons]; omega]
theorem tag_put (hg : ∀ x y, g x = g y → x = y) {ks : List α} {k : α} (h : k ∉ ks) : putK (tag g ks) (g k) (.int (ks.length : Int)) = tag g (ks ++ [k]) := by
  rw [putK_new _ (tag_none hg h)]
  have := tagF_push (g := g) ks 0 k
  rw [Nat.zero_add] at this
  exact this
end
/-- a pair as a key -/
def pk (k : Int × List Int) : PKey := (Sum.inl k.1, tkey k.2)
theorem pk_inj (x y : Int × List Int) (h : pk x = pk y) : x = y := by
  have h1 := congrArg Prod.fst h
  have h2 := congrArg Prod.snd h
  exact Prod.ext (Sum.inl.inj h1) (tkey_inj h2)
theorem isP_of {H : Hp} {a b : Addr} {k : Int × List Int} (h1 : H a = some (.tup [.int k.1, .ref b])) (h2 : H b = some (.tup (k.2.map V.int))) : IsP H (.ref a) (pk k) := ⟨a, b, rfl, h1, by
  show H b = some (.tup ((tkey k.2).map kV))
  rw [tkey_kV]; exact h2⟩
section
variable {P : Program} {w : World} {σ : L2.St} {H : Hp} {Q : VK} {D : Ends}
theorem r_nIn {neg : Bool} {ty td : TE} (h : ty σ H fun y H1 => td σ H1 fun x H2 => ∃ a kvs k, x = .ref a ∧ Nd P w H2 a kvs ∧ IsP H2 y k ∧ Q (.bl (if neg then !(valV kvs k).isSome else (valV kvs k).isSome)) H2) : tNIn P w neg ty td σ H Q := h
theorem r_nGet {td ty : TE} (h : td σ H fun x H1 => ty σ H1 fun y H2 => ∃ a kvs k v, x = .ref a ∧ Nd P w H2 a kvs ∧ IsP H2 y k ∧ valV kvs k = some v ∧ Q v H2) : tNGet P w td ty σ H Q := h
theorem r_nPut {td ty tv : TE} (h : tv σ H fun v H1 => td σ H1 fun x H2 => ty σ H2 fun y H3 => ∃ a kvs k, x = .ref a ∧ Nd P w H3 a kvs ∧ IsP H3 y k ∧ kvs.length < sizeLine ∧
  ∀ H4, (∀ c, c ≠ a → H4 c = H3 c) → Nd P w H4 a (putK kvs k v) → D.nx σ H4) : sNPut P w td ty tv D σ H := h
theorem r_nNew (h : ∀ p H', H p = none → (∀ c, c ≠ p → H' c = H c) → Nd P w H' p [] → Q (.ref p) H') : tNNew P w σ H Q := h
theorem r_nLen {p : Addr} {kvs : List (PKey × V)} (n : Nd P w H p kvs) (q : Q (.int ((kvs.length : Nat) : Int)) H) : rNLen P w [.ref p] H Q := ⟨p, kvs, rfl, n, q⟩
end
theorem gd_up {n n' : Int} {L L' : Nat} {r : List Int} (h : Gd n L r) (hn : n ≤ n') (hl : L ≤ L') : Gd n' L' r := ⟨Nat.le_trans h.1 hl, h.2.1, fun e he => by have := h.2.2 e he; omega⟩
theorem gd_put {n n' : Int} {L : Nat} {r : List Int} {z : Int} (h : Gd n L r) (h0 : 0 ≤ z) (h1 : n ≤ z) (h2 : z < n') : Gd n' (L + 1) (r ++ [z]) := by
  refine ⟨by rw [List.length_append, List.length_singleton]; have := h.1; omega, nodup_push h.2.1 fun hm => ?_, fun e he => ?_⟩
  · have := (h.2.2 z hm).2; omega
  · rcases List.mem_append.mp he with q | q
    · have := h.2.2 e q; omega
    · rw [List.mem_singleton.mp q]; omega
theorem gd_len {n : Nat} {L : Nat} {r : List Int} (h : Gd (n : Int) L r) : r.length ≤ n := by
  have := Lm.nat_list h.2.1 h.2.2
  have h2 := Lm.nodup_le this.1 this.2
  rwa [List.length_map] at h2
theorem hu2_of {A : Around} {k : Nat} (hr : Room k A) : A.units + 2 < cLine := Nat.lt_of_le_of_lt (Nat.add_le_add_left (by decide : 2 ≤ 64) _) hr.units
section
variable {S : Type} {F : S → Hp → Hp} {ok : S → Hp → Prop} (T : TopOk F ok) {σ σ2 : L2.St} {g : TG} {tt : TT} {te : TE} {vs : List Nat} {Q : Addr → Hp → Prop}
include T
theorem lcT_range2 {s0 : S} {B : Hp} (k : ok s0 B) {lo n : Int} (h0' : -4611686018427387904 ≤ lo) (h0'' : lo < 4611686018427387904) (h1 : -4611686018427387904 ≤ n) (h2 : n < 4611686018427387904) (Pv : Nat → Hp → List V → Prop) (h0 : Pv 0 B [])
    (hs : ∀ D i s C acc, ok s (upd C D (.lst acc)) → C D = none → Same B C → i < (n - lo).toNat → Pv i C acc → g (.int (lo + i)) (wipe σ vs) (F s (upd C D (.lst acc))) fun σ2 H2 => wipe σ2 vs = wipe σ vs ∧ tt σ2 H2 fun b H3 =>
      if b = true then te σ2 H3 fun y H4 => ∃ acc', H4 D = some (.lst acc') ∧ acc'.length < sizeLine ∧ LcN F ok B D (Pv (i + 1)) (upd H4 D (.lst (acc' ++ [y]))) else LcN F ok B D (Pv (i + 1)) H3)
    (hd : ∀ D s C acc, ok s (upd C D (.lst acc)) → B D = none → C D = none → Same B C → Pv (n - lo).toNat C acc → Q D (F s (upd C D (.lst acc)))) :
    ∃ i j : Int, [V.int lo, V.int n] = [.int i, .int j] ∧ (-(2 ^ 62) ≤ i ∧ i < 2 ^ 62 ∧ -(2 ^ 62) ≤ j ∧ j < 2 ^ 62) ∧ ∀ D, (F s0 B) D = none → ∃ W : Nat → Nat → Hp → Prop, (∃ m, W 0 m (upd (F s0 B) D (.lst []))) ∧ ∀ m0 m H, W m0 m H →
      ((Itr i (j - i).toNat).stop m0 H ∧ Q D H) ∨ ((Itr i (j - i).toNat).go m0 H ∧ ∃ Nx : Hp → Prop, (∀ H', Nx H' → ∃ m', m' < m ∧ W (m0 + 1) m' H') ∧ ∀ x H', (Itr i (j - i).toNat).yld m0 H x H' → g x (wipe σ vs) H' fun σ2 H2 => wipe σ2 vs = wipe σ vs ∧ tt σ2 H2 fun b H3 =>
        if b = true then te σ2 H3 fun y H4 => ∃ acc, H4 D = some (.lst acc) ∧ acc.length < sizeLine ∧ Nx (upd H4 D (.lst (acc ++ [y]))) else Nx H3) := by
  refine ⟨lo, n, rfl, ⟨h0', h0'', h1, h2⟩, fun D hD => ?_⟩
  obtain ⟨hB, hn⟩ := T.new s0 B D k hD
  refine lc_range (fun i H => LcN F ok B D (Pv i) H) ?_ ?_ ?_
  · rw [(hn _).1]
    exact ⟨s0, B, [], rfl, (hn _).2, hB, Same.refl B, h0⟩
  · rintro i H hi ⟨s, C, acc, rfl, k', hD', hS, hp⟩
    exact hs D i s C acc k' hD' hS hi hp
  · rintro H ⟨s, C, acc, rfl, k', hD', hS, hp⟩
    exact hd D s C acc k' hB hD' hS hp
end
/-- an ascending row of places -/
def Pr (n : Nat) (r : List Int) : Prop := r.Pairwise (· < ·) ∧ ∀ e ∈ r, 0 ≤ e ∧ e < (n : Int)
theorem Pr.gd {n : Nat} {r : List Int} (h : Pr n r) : Gd (n : Int) n r := by
  have nd := nodup_lt h.1
  have h1 := Lm.nat_list nd h.2
  have h2 := Lm.nodup_le h1.1 h1.2
  rw [List.length_map] at h2
  exact ⟨h2, nd, h.2⟩
theorem Pr.up {n m : Nat} {r : List Int} (h : Pr n r) (hm : n ≤ m) : Pr m r := ⟨h.1, fun e he => by have := h.2 e he; omega⟩
theorem Pr.nil {n : Nat} : Pr n [] := ⟨List.Pairwise.nil, fun e he => nomatch he⟩
theorem Pr.push {n m : Nat} {r : List Int} {z : Int} (h : Pr n r) (h1 : (n : Int) ≤ z) (h2 : z < (m : Int)) : Pr m (r ++ [z]) := by
  refine ⟨?_, fun e he => ?_⟩
  · rw [List.pairwise_append]
    refine ⟨h.1, List.pairwise_singleton _ _, fun a ha b hb => ?_⟩
    rw [List.mem_singleton.mp hb]
    have := (h.2 a ha).2
    omega
  · rcases List.mem_append.mp he with q | q
    · have := h.2 e q; omega
    · rw [List.mem_singleton.mp q]; omega
theorem rw_append {C : Hp} {as bs : List Addr} {rs ss : List (List Int)} (h : Rw C as rs) (h2 : Rw C bs ss) : Rw C (as ++ bs) (rs ++ ss) := by
  refine ⟨by rw [List.length_append, List.length_append, h.1, h2.1], fun i b e => ?_⟩
  by_cases hi : i < as.length
  · rw [List.getElem?_append_left hi] at e
    obtain ⟨r, h3, h4⟩ := h.2 i b e
    exact ⟨r, by rw [List.getElem?_append_left (by rw [← h.1]; exact hi)]; exact h3, h4⟩
  · rw [List.getElem?_append_right (by omega)] at e
    obtain ⟨r, h3, h4⟩ := h2.2 _ b e
    exact ⟨r, by rw [List.getElem?_append_right (by rw [← h.1]; omega), ← h.1]; exact h3, h4⟩
theorem rw_drop {C : Hp} {as : List Addr} {rs : List (List Int)} (h : Rw C as rs) (c : Nat) : Rw C (as.drop c) (rs.drop c) := by
  refine ⟨by rw [List.length_drop, List.length_drop, h.1], fun i b e => ?_⟩
  rw [List.getElem?_drop] at e
  obtain ⟨r, h3, h4⟩ := h.2 _ b e
  exact ⟨r, by rw [List.getElem?_drop]; exact h3, h4⟩
theorem rw_take {C : Hp} {as : List Addr} {rs : List (List Int)} (h : Rw C as rs) (i : Nat) : Rw C (as.take i) (rs.take i) := by
  refine ⟨by rw [List.length_take, List.length_take, h.1], fun j b e => ?_⟩
  obtain ⟨h1, h2⟩ := take_at e
  obtain ⟨r, h3, h4⟩ := h.2 j b h2
  exact ⟨r, by rw [List.getElem?_take_of_lt h1]; exact h3, h4⟩
end Lw
/-! trees: tuples of a word and parts -/
/-- a term, a body, a saying: a name, or a word with its parts -/
inductive Tre where
  | nm (x : PySem.Str)
  | nd (k : PySem.Str) (ps : List Tre)
namespace Tre
mutual
def size : Tre → Nat
  | .nm _ => 1
  | .nd _ ps => 1 + sizeAll ps
def sizeAll : List Tre → Nat
  | [] => 0
  | t :: r => size t + sizeAll r
end
mutual
def deep : Tre → Nat
  | .nm _ => 1
  | .nd _ ps => 1 + deepAll ps
def deepAll : List Tre → Nat
  | [] => 0
  | t :: r => max (deep t) (deepAll r)
end
theorem deepAll_mem : ∀ {ps : List Tre} {t : Tre}, t ∈ ps → deep t ≤ deepAll ps
  | [], _, h => nomatch h
  | x :: r, t, h => by
    show deep t ≤ max (deep x) (deepAll r)
    rcases List.mem_cons.mp h with e | e
    · subst e; exact Nat.le_max_left _ _
    · exact Nat.le_trans (deepAll_mem e) (Nat.le_max_right _ _)
theorem deep_pos : ∀ t : Tre, 1 ≤ deep t
  | .nm _ => Nat.le_refl _
  | .nd _ ps => by show 1 ≤ 1 + deepAll ps; omega
mutual
theorem deep_le_size : ∀ t : Tre, deep t ≤ size t
  | .nm _ => Nat.le_refl _
  | .nd _ ps => by
    have := deepAll_le_size ps
    show 1 + deepAll ps ≤ 1 + sizeAll ps
    omega
theorem deepAll_le_size : ∀ ps : List Tre, deepAll ps ≤ sizeAll ps
  | [] => Nat.le_refl _
  | t :: r => by
    have h1 := deep_le_size t
    have h2 := deepAll_le_size r
    show max (deep t) (deepAll r) ≤ size t + sizeAll r
    omega
end
theorem sizeAll_push : ∀ (ps : List Tre) (t : Tre), sizeAll (ps ++ [t]) = sizeAll ps + size t
  | [], t => by show size t + 0 = 0 + size t; omega
  | x :: r, t => by
    show size x + sizeAll (r ++ [t]) = size x + sizeAll r + size t
    rw [sizeAll_push r t]; omega
open PySem
mutual
def data : Tre → PyData
  | .nm x => .tuple [.str "name", .str x]
  | .nd k ps => .tuple (.str k :: dataAll ps)
def dataAll : List Tre → List PyData
  | [] => []
  | t :: r => data t :: dataAll r
end
theorem data_ne_str (t : Tre) (x : Str) : data t ≠ .str x := by cases t <;> (intro h; cases h)
mutual
theorem data_inj : ∀ {t u : Tre}, data t = data u → t = u
  | .nm x, .nm y, h => by
    have h : PyData.tuple [.str "name", .str x] = PyData.tuple [.str "name", .str y] := h
    simp only [PyData.tuple.injEq, List.cons.injEq, PyData.str.injEq, and_true, true_and] at h
    rw [h]
  | .nm x, .nd k ps, h => by
    have h : PyData.tuple [.str "name", .str x] = PyData.tuple (.str k :: dataAll ps) := h
    simp only [PyData.tuple.injEq, List.cons.injEq] at h
    cases ps with
    | nil => exact absurd h.2 (by intro z; cases z)
    | cons t r =>
      have h2 : PyData.str x = data t := by
        have := h.2
        have : [PyData.str x] = data t :: dataAll r := this
        exact (List.cons.inj this).1
      exact absurd h2.symm (data_ne_str _ _)
  | .nd k ps, .nm x, h => by
    have h : PyData.tuple (.str k :: dataAll ps) = PyData.tuple [.str "name", .str x] := h
    simp only [PyData.tuple.injEq, List.cons.injEq] at h
    cases ps with
    | nil => exact absurd h.2 (by intro z; cases z)
    | cons t r =>
      have h2 : data t = PyData.str x := by
        have : data t :: dataAll r = [PyData.str x] := h.2
        exact (List.cons.inj this).1
      exact absurd h2 (data_ne_str _ _)
  | .nd k ps, .nd l qs, h => by
    have h : PyData.tuple (.str k :: dataAll ps) = PyData.tuple (.str l :: dataAll qs) := h
    simp only [PyData.tuple.injEq, List.cons.injEq, PyData.str.injEq] at h
    rw [h.1, dataAll_inj h.2]
theorem dataAll_inj : ∀ {ps qs : List Tre}, dataAll ps = dataAll qs → ps = qs
  | [], [], _ => rfl
  | [], _ :: _, h => nomatch h
  | _ :: _, [], h => nomatch h
  | t :: r, u :: s, h => by
    have h : data t :: dataAll r = data u :: dataAll s := h
    have h1 := List.cons.inj h
    rw [data_inj h1.1, dataAll_inj h1.2]
end
end Tre
namespace Lw
open PySem PySem.Spec PyProof.Rows L2
mutual
/-- the tree t at the value v -/
def Tat (H : Hp) : V → Tre → Prop
  | v, .nm x => ∃ a, v = .ref a ∧ H a = some (.tup [.str "name", .str x]) ∧ PyData.strOk x = true
  | v, .nd k ps => ∃ a vs, v = .ref a ∧ H a = some (.tup (.str k :: vs)) ∧ TatAll H vs ps ∧ PyData.strOk k = true
def TatAll (H : Hp) : List V → List Tre → Prop
  | vs, [] => vs = []
  | vs, t :: r => ∃ v ws, vs = v :: ws ∧ Tat H v t ∧ TatAll H ws r
end
/-- what keeps all tuples -/
def KT (H H' : Hp) : Prop := ∀ b ys, H b = some (.tup ys) → H' b = some (.tup ys)
theorem KT.of {H H' : Hp} (s : Same H H') : KT H H' := fun b ys e => s _ _ e
theorem KT.refl (H : Hp) : KT H H := fun _ _ e => e
theorem KT.trans {H1 H2 H3 : Hp} (a : KT H1 H2) (b : KT H2 H3) : KT H1 H3 := fun x ys e => b _ _ (a _ _ e)
mutual
theorem Tat.keep {H H' : Hp} (k : KT H H') : ∀ {t : Tre} {v : V}, Tat H v t → Tat H' v t
  | .nm _, _, h => by
    obtain ⟨a, e, h, hs⟩ := h
    exact ⟨a, e, k _ _ h, hs⟩
  | .nd _ _, _, h => by
    obtain ⟨a, vs, e, h, h2, hs⟩ := h
    exact ⟨a, vs, e, k _ _ h, TatAll.keep k h2, hs⟩
theorem TatAll.keep {H H' : Hp} (k : KT H H') : ∀ {ps : List Tre} {vs : List V}, TatAll H vs ps → TatAll H' vs ps
  | [], _, h => h
  | _ :: _, _, h => by
    obtain ⟨v, ws, e, h1, h2⟩ := h
    exact ⟨v, ws, e, Tat.keep k h1, TatAll.keep k h2⟩
end
theorem Tat.ref {H : Hp} {v : V} {t : Tre} (h : Tat H v t) : ∃ a, v = .ref a := by
  cases t with
  | nm x => obtain ⟨a, e, _⟩ := h; exact ⟨a, e⟩
  | nd k ps => obtain ⟨a, _, e, _⟩ := h; exact ⟨a, e⟩
theorem TatAll.len {H : Hp} : ∀ {ps : List Tre} {vs : List V}, TatAll H vs ps → vs.length = ps.length
  | [], _, h => by rw [h]; rfl
  | _ :: _, _, h => by
    obtain ⟨v, ws, rfl, _, h2⟩ := h
    rw [List.length_cons, List.length_cons, h2.len]
theorem TatAll.at {H : Hp} : ∀ {ps : List Tre} {vs : List V} {i : Nat} {v : V}, TatAll H vs ps → vs[i]? = some v → ∃ t, ps[i]? = some t ∧ Tat H v t
  | [], _, _, _, h, e => by rw [h] at e; simp at e
  | t :: r, _, 0, v, h, e => by
    obtain ⟨v', ws, rfl, h1, h2⟩ := h
    simp at e; subst e
    exact ⟨t, rfl, h1⟩
  | t :: r, _, i + 1, v, h, e => by
    obtain ⟨v', ws, rfl, h1, h2⟩ := h
    rw [List.getElem?_cons_succ] at e ⊢
    exact h2.at e
mutual
theorem Tat.dp {K : PySem.W.Frag} {H : Hp} : ∀ {t : Tre} {v : V}, Tat H v t → Dp K H v t.data
  | .nm x, _, h => by
    obtain ⟨a, rfl, h, _⟩ := h
    exact .tup (SqT.of h) (.cons (.str _) (.cons (.str _) .nil))
  | .nd k ps, _, h => by
    obtain ⟨a, vs, rfl, h, h2, _⟩ := h
    exact .tup (SqT.of h) (.cons (.str _) (TatAll.dp h2))
theorem TatAll.dp {K : PySem.W.Frag} {H : Hp} : ∀ {ps : List Tre} {vs : List V}, TatAll H vs ps → DpAll K H vs (Tre.dataAll ps)
  | [], _, h => by rw [h]; exact .nil
  | t :: r, _, h => by
    obtain ⟨v, ws, rfl, h1, h2⟩ := h
    exact .cons (Tat.dp h1) (TatAll.dp h2)
end
mutual
theorem Tat.lay {H : Hp} : ∀ {t : Tre} {v : V}, Tat H v t → PyData.canLay0 t.data = true
  | .nm x, _, h => by
    obtain ⟨a, _, _, hs⟩ := h
    show PyData.canLay0 (.tuple [.str "name", .str x]) = true
    rw [PyData.canLay0, PyData.canLayAll0, PyData.canLayAll0, PyData.canLayAll0, PyData.canLay0, PyData.canLay0, hs]
    decide +kernel
  | .nd k ps, _, h => by
    obtain ⟨a, vs, _, _, h2, hs⟩ := h
    show PyData.canLay0 (.tuple (.str k :: Tre.dataAll ps)) = true
    rw [PyData.canLay0, PyData.canLayAll0, PyData.canLay0, hs, TatAll.lay h2]
    rfl
theorem TatAll.lay {H : Hp} : ∀ {ps : List Tre} {vs : List V}, TatAll H vs ps → PyData.canLayAll0 (Tre.dataAll ps) = true
  | [], _, _ => by show PyData.canLayAll0 [] = true; rw [PyData.canLayAll0]
  | t :: r, _, h => by
    obtain ⟨v, ws, _, h1, h2⟩ := h
    show PyData.canLayAll0 (t.data :: Tre.dataAll r) = true
    rw [PyData.canLayAll0, Tat.lay h1, TatAll.lay h2]
    rfl
end
mutual
theorem pl_data : ∀ t : Tre, pl t.data = true
  | .nm x => rfl
  | .nd k ps => by
    show (pl (.str k) && plAll (Tre.dataAll ps)) = true
    rw [plAll_data ps]; rfl
theorem plAll_data : ∀ ps : List Tre, plAll (Tre.dataAll ps) = true
  | [] => rfl
  | t :: r => by
    show (pl t.data && plAll (Tre.dataAll r)) = true
    rw [pl_data t, plAll_data r]; rfl
end
mutual
theorem depth_data : ∀ t : Tre, PyData.depth t.data ≤ t.deep
  | .nm x => Nat.le_refl 1
  | .nd k ps => by
    have := depthAll_data ps
    show max (PyData.depth (.str k)) (PyData.depthAll (Tre.dataAll ps)) + 1 ≤ 1 + Tre.deepAll ps
    have h0 : PyData.depth (.str k) = 0 := rfl
    omega
theorem depthAll_data : ∀ ps : List Tre, PyData.depthAll (Tre.dataAll ps) ≤ Tre.deepAll ps
  | [] => Nat.le_refl _
  | t :: r => by
    have h1 := depth_data t
    have h2 := depthAll_data r
    show max (PyData.depth t.data) (PyData.depthAll (Tre.dataAll r)) ≤ max t.deep (Tre.deepAll r)
    omega
end
/-- the same tree is equal, another one not -/
theorem Tat.sh {H : Hp} {t : Tre} {v : V} (h : Tat H v t) (hd : t.deep ≤ 60) : SeqAt.shaped t.data = true := by
  unfold SeqAt.shaped
  rw [h.lay]
  have := depth_data t
  exact decide_eq_true (by omega)
theorem r_eqT {K : PySem.W.Frag} {H : Hp} {Q : VK} {x y : V} {t u : Tre} (h1 : Tat H x t) (h2 : Tat H y u) (d1 : t.deep ≤ 60) (d2 : u.deep ≤ 60) (q : ∀ b : Bool, (b = true ↔ t = u) → Q (.bl b) H) : rEqD K x y H Q :=
  r_eqDd h1.dp h2.dp (h1.sh d1) (h2.sh d2) (pl_data t) (pl_data u) fun b hb => q b (hb.trans ⟨fun e => Tre.data_inj e, fun e => by rw [e]⟩)
end Lw
namespace Lw
open PySem PySem.Spec PyProof.Rows L2
section
variable {K : PySem.W.Frag} {σ : L2.St} {H : Hp} {D : Ends} {g : TG} {tb : TS} {Q : VK}
theorem r_slT {a : Addr} {xs : List V} {n : Int} (h : H a = some (.tup xs)) (hn : 1 ≤ n) (hl : 1 ≤ xs.length) (q : ∀ p, H p = none → Q (.ref p) (upd H p (.tup (xs.drop n.toNat)))) : rSlT K (.ref a) (some n) none H Q := by
  refine ⟨a, xs, rfl, SqT.of h, fun z => ?_, fun p hp => ?_⟩
  · have h1 := z.1
    unfold HT.sIx at h1
    simp only at h1
    split at h1 <;> omega
  · rw [cut_from _ (by omega)]
    exact q p hp
theorem r_iTup {tl : TE} {R : It → Hp → Prop} (h : tl σ H fun x H1 => ∃ a, x = .ref a ∧ (∃ xs, SqT K H1 a xs) ∧ R (Itt K a) H1) : iTup K tl σ H R := h
theorem r_forT {a : Addr} {xs : List V} (hx : H a = some (.tup xs)) (Pv : Nat → L2.St → Hp → Prop) (h0 : Pv 0 σ H) (hl : ∀ i σ H, i ≤ xs.length → Pv i σ H → H a = some (.tup xs))
    (hs : ∀ i x σ H, xs[i]? = some x → Pv i σ H → g x σ H fun σ2 H2 => tb { D with nx := Pv (i + 1), ct := Pv (i + 1), bk := D.nx } σ2 H2) (hd : ∀ σ H, Pv xs.length σ H → D.nx σ H) :
    ∃ b, V.ref a = .ref b ∧ (∃ xs, SqT K H b xs) ∧ ∃ W : Nat → Nat → L2.St → Hp → Prop, (∃ m, W 0 m σ H) ∧ ∀ i m σ H, W i m σ H →
      ((Itt K b).stop i H ∧ D.nx σ H) ∨ ((Itt K b).go i H ∧ ∃ N : L2.St → Hp → Prop, (∀ σ' H', N σ' H' → ∃ m', m' < m ∧ W (i + 1) m' σ' H') ∧ ∀ x H', (Itt K b).yld i H x H' → g x σ H' fun σ2 H2 => tb { D with nx := N, ct := N, bk := D.nx } σ2 H2) :=
  ⟨a, rfl, ⟨xs, SqT.of hx⟩, for_tup Pv h0 (fun i σ H h1 h2 => SqT.of (hl i σ H h1 h2)) hs hd⟩
theorem r_ixS {z : Str} {i : Int} {c : Nat} (h : z.length ≤ sizeLine) (a : atI z.cps.toList i = some c) (q : Q (.str ⟨#[c]⟩) H) : rIxS (.str z) (.int i) H Q := ⟨z, i, c, rfl, rfl, h, a, q⟩
end
end Lw
namespace Tre
theorem sizeAll_take {ps : List Tre} {i : Nat} {t : Tre} (h : ps[i]? = some t) : sizeAll (ps.take (i + 1)) = sizeAll (ps.take i) + size t := by
  rw [List.take_add_one, h]
  exact sizeAll_push _ _
theorem sizeAll_take_le : ∀ (ps : List Tre) (i : Nat), sizeAll (ps.take i) ≤ sizeAll ps
  | [], i => by rw [List.take_nil]; exact Nat.le_refl _
  | t :: r, 0 => Nat.zero_le _
  | t :: r, i + 1 => by
    have := sizeAll_take_le r i
    show size t + sizeAll (r.take i) ≤ size t + sizeAll r
    omega
end Tre
namespace K53
open PySem PySem.Spec PyProof.Rows L2 Lw


local macro_rules | `(tactic| walk_at "look") => `(tactic| first
  | assumption
  | with_reducible exact upd_same
  | with_reducible exact rg_st
  | with_reducible exact rg_g (by assumption)
  | (with_reducible refine upd_old (by assumption) ?_; walk_at "look")
  | (with_reducible refine rg_get (by assumption) ?_; walk_at "look")
  | (with_reducible refine Same.get (by assumption) ?_; walk_at "look"))
local macro_rules | `(tactic| walk_at "cond") => `(tactic| first
  | (show _ ≠ _; omega) | exact cdivN (by omega) (by omega) | exact cmul_mod (by decide) (by decide) | exact cmulR (by omega) (by omega) | exact cmulL (by omega) (by omega) | exact cpow (by omega) (by omega) (by omega) (by omega) | (show (0:Int) ≤ _; omega))
local macro_rules | `(tactic| walk_at "at") => `(tactic| first | assumption | with_unfolding_all rfl)
local macro_rules | `(tactic| walk_at "sz") => `(tactic| first | assumption | (refine small ?_; omega) | (refine small ?_; simp only [List.length_map, List.length_append, List.length_cons, List.length_nil]; omega))
local macro_rules | `(tactic| walk_at "len") => `(tactic| first | exact size_nil | exact Nat.le_of_lt (small (by simp only [List.length_cons, List.length_nil, List.length_map]; omega)))
local macro_rules | `(tactic| walk_at "newD") => `(tactic| (refine ⟨by walk_at "len", fun p np => ?_⟩; obtain ⟨e, o', hD', n', ne'⟩ := newTD_eq (topRg _ _) (by assumption) (by assumption) np (.lst _); rw [e]; clear e))
local macro_rules | `(tactic| walk_at "new") => `(tactic| (refine ⟨by walk_at "len", fun p np => ?_⟩; obtain ⟨e, o', n'⟩ := newT_eq (topRg _ _) (by assumption) np (.lst _); rw [e]; clear e))
local macro_rules | `(tactic| walk_at "st") => `(tactic| first
  | with_reducible refine r_seq ?_
  | with_reducible refine r_var rfl ?_
  | with_reducible refine r_c ?_
  | with_reducible refine r_asg ?_
  | (with_reducible refine r_name ?_; dsimp only [List.set_cons_zero, List.set_cons_succ])
  | with_reducible refine r_sub ?_
  | with_reducible refine r_op ?_
  | with_reducible refine r_i0 ?_
  | (with_reducible refine' r_i ?k1 ?_; (case k1 => walk_at "cond"))
  | with_reducible refine r_cons ?_
  | with_reducible refine r_nil ?_
  | with_reducible refine r_cb ?_
  | with_reducible refine r_call ?_
  | with_reducible refine r_ifs ?_
  | with_reducible refine r_test ?_
  | with_reducible refine r_tB ?_
  | with_reducible refine r_bl ?_
  | with_reducible refine r_ret ?_
  | with_reducible refine r_drop ?_
  | with_reducible refine r_next ?_
  | (with_reducible refine' r_ixL ?k1 ?k2 ?_; (case k1 => walk_at "look"); (case k2 => walk_at "at"))
  | (with_reducible refine' r_setL ?k1 ?k2 ?_; (case k1 => walk_at "look"); (case k2 => walk_at "at"))
  | (with_reducible refine' r_tup (SqT.of ?k1) ?k2 ?_; (case k1 => walk_at "look"); (case k2 => rfl))
  | with_reducible refine r_gcons ?_
  | with_reducible refine r_gnil ?_
  | with_reducible refine r_aug rfl ?_
  | with_reducible refine r_augS ?_
  | with_reducible refine r_ipI ?_
  | with_reducible refine r_un ?_
  | with_reducible refine r_u ?_
  | with_reducible refine r_eq rfl ?_
  | with_reducible refine r_ne rfl ?_
  | with_reducible refine r_chain ?_
  | with_reducible refine iteF ?_
  | with_reducible refine r_not ?_
  | with_reducible refine r_and ?_
  | with_reducible refine r_or ?_
  | with_reducible refine r_andV ?_
  | with_reducible refine r_orV ?_
  | with_reducible refine r_notV ?_
  | with_reducible refine r_lst ?_
  | with_reducible refine r_bm ?_
  | with_reducible refine r_bm0 ?_
  | (with_reducible refine' And.intro (r_ty ?k1) ?_; (case k1 => walk_at "look"))
  | (with_reducible refine' r_append ?k1 ?k2 ?_; (case k1 => walk_at "look"); (case k2 => walk_at "sz"))
  | (with_reducible refine' r_lenK ?k1 ?_; (case k1 => walk_at "look"))
  | (with_reducible refine' r_listOf ?k1 ?_; (case k1 => walk_at "look"))
  | (with_reducible refine' r_sortedI ?k1 ?_; (case k1 => walk_at "look"))
  | (with_reducible refine' r_sum ?k1 ?_; (case k1 => walk_at "look"))
  | with_reducible refine r_int ?_
  | (with_reducible refine' r_draw (by assumption) ?k1 ?k2 ?_; (case k1 => omega); (case k2 => omega); intro R' n' o' h' h'')
  | with_reducible refine iteT ?_
  | with_reducible refine r_revL ?_
  | with_reducible refine r_lc ?_
  | with_reducible refine r_yes ?_
  | with_reducible refine r_sl ?_
  | with_reducible refine r_noPart ?_
  | with_reducible refine r_part ?_
  | with_reducible refine r_lc2 ?_
  | with_reducible refine r_callN ?_
  | with_reducible refine r_callD ?_
  | with_reducible refine r_tupE ?_
  | with_reducible refine r_rng2 ?_
  | with_reducible refine r_i1 ?_
  | (with_reducible refine' r_slL ?k1 ?_; (case k1 => walk_at "look"))
  | with_reducible refine r_for ?_
  | with_reducible refine r_iList ?_
  | with_reducible refine r_rng1 ?_
  | with_reducible refine r_enum ?_
  | (with_reducible show Ends.nx _ _ _; dsimp only)
  | (with_reducible show Ends.rt _ _ _; dsimp only)
  | (with_reducible show Ends.ct _ _ _; dsimp only)
  | (with_reducible show Ends.bk _ _ _; dsimp only))
local macro_rules | `(tactic| walk_at "go") => `(tactic| repeat (walk_at "st"))
local macro_rules | `(tactic| walk_at "begin") => `(tactic| dsimp only [cxOf, wipe, L2.start, List.map, List.length_cons, List.length_nil, Nat.reduceAdd, Nat.reduceSub, List.replicate, List.cons_append, List.nil_append])


local macro_rules | `(tactic| walk_at "st") => `(tactic| first
  | with_reducible refine r_iTup ?_
  | (with_reducible refine' r_isi (r := true) (.base (.tup ?k1)) ?k2 ?_; (case k1 => walk_at "look"); (case k2 => decide +kernel))
  | (with_reducible refine' r_isi (r := false) (.base (.str _)) ?k2 ?_; (case k2 => decide +kernel)))
def spSize (d : Nat) : Sp := fun vs H Q _ => ∃ (v : V) (t : Tre), vs = [v] ∧ Tat H v t ∧ t.deep ≤ d ∧ ∀ H' : Hp, Same H H' → Q (.int (t.size : Int)) H'
def spPick : Sp := fun vs H Q _ => ∃ (st g : Addr) (R : RS) (B : Hp) (r : Addr) (xs : List V), vs = [.ref st, .ref r] ∧ H = rg st g R B ∧ Ok st g R B ∧ B r = some (.lst xs) ∧ 1 ≤ xs.length ∧ xs.length ≤ 100000 ∧
  ∀ (R' : RS) (i : Nat) (v : V), Ok st g R' B → xs[i]? = some v → Q v (rg st g R' B)
section
variable {P : Program} {w : World} {K : PySem.W.Frag} {mg : Str → Option Value} {base : Heap}
theorem size_step {f : Addr} {fd : FuncData} {d : Nat} (B : Blt mg) (D : Dn K mg "_law_size" s__law_size ["tree"] f fd) (G : FnOk P w K mg base CX0 (d + 1) f fd ["tree"] (spSize d)) : FnOk P w K mg base CX0 (d + 1 + 1) f fd ["tree"] (spSize (d + 1)) := by
  refine D.F.ok sc__law_size (fun vs H Q E h => ?_) (fun cdv A outer s H vs Q E hr h => ?_)
  · obtain ⟨v, t, rfl, _⟩ := h
    rfl
  · obtain ⟨v, t, rfl, hT, hd, q⟩ := h
    refine ⟨_, (pss_cons (ps_set (i := 1) sc__law_size.nd rfl (.inl rfl) pe_int)
      (pss_cons (ps_for PassesOwn.never rfl (pi_tupK (K := K) rfl (pe_slice (sl_tupK (K := K) rfl) (pv 0) (po_some pe_int) po_none)) (pg_name (i := 2) sc__law_size.nd rfl (.inl rfl)) (pss_one (ps_if (pt_val (pe_callB (call_isiK' (K := K) rfl) (by rfl) B.m_isinstance (by decide +kernel) (pa_cons (pv 2) (pa_cons (pe_bltn (v := .ty "tuple") (by rfl) B.m_tuple (by decide +kernel) rfl) pa_nil)))) (pss_one (ps_set (i := 1) sc__law_size.nd rfl (.inl rfl) (pe_op op_add (pv 1) (pe_call G (hr.mono (Nat.le_refl _)) (by rfl) D.g D.F.kp D.b .nil pass0 (pa_cons (pv 2) pa_nil))))) pss_nil)))
      (pss_one (ps_ret (pv 1))))), ?_⟩
    walk_at "begin"
    walk_at "go"
    cases t with
    | nm x =>
      obtain ⟨a, rfl, ha, _⟩ := hT
      refine r_slT ha (by decide) (by rw [List.length_cons]; omega) fun p np => ?_
      have hp : upd H p (.tup (List.drop (1 : Int).toNat [V.str "name", V.str x])) p = some (.tup [.str x]) := upd_same
      have hS := same_new (o := .tup (List.drop (1 : Int).toNat [V.str "name", V.str x])) np
      generalize upd H p (.tup (List.drop (1 : Int).toNat [V.str "name", V.str x])) = H1 at hp hS ⊢
      refine r_forT hp (fun i σ X => ∃ y, σ = [some (.ref a), some (.int 1), y] ∧ X = H1) ⟨_, rfl, rfl⟩ ?_ ?_ ?_
      · rintro i σ X _ ⟨y, rfl, rfl⟩
        exact hp
      · rintro i x' σ X hx ⟨y, rfl, rfl⟩
        have : x' = .str x := by
          have := List.mem_of_getElem? hx
          exact List.mem_singleton.mp this
        subst this
        walk_at "go"
        exact ⟨_, rfl, rfl⟩
      · rintro σ X ⟨y, rfl, rfl⟩
        walk_at "go"
        exact q _ hS
    | nd k ps =>
      obtain ⟨a, vs, rfl, ha, hps, _⟩ := hT
      have hdp : Tre.deepAll ps ≤ d := by
        have : Tre.deep (.nd k ps) = 1 + Tre.deepAll ps := rfl
        omega
      refine r_slT ha (by decide) (by rw [List.length_cons]; omega) fun p np => ?_
      have hp : upd H p (.tup (List.drop (1 : Int).toNat (V.str k :: vs))) p = some (.tup vs) := upd_same
      have hS := same_new (o := .tup (List.drop (1 : Int).toNat (V.str k :: vs))) np
      generalize upd H p (.tup (List.drop (1 : Int).toNat (V.str k :: vs))) = H1 at hp hS ⊢
      refine r_forT hp (fun i σ X => ∃ y, σ = [some (.ref a), some (.int (1 + (Tre.sizeAll (ps.take i) : Int))), y] ∧ Same H1 X) ⟨_, rfl, Same.refl _⟩ ?_ ?_ ?_
      · rintro i σ X _ ⟨y, rfl, x1⟩
        exact x1 _ _ hp
      · rintro i x' σ X hx ⟨y, rfl, x1⟩
        obtain ⟨t, ht, hT⟩ := (hps.keep (KT.of (hS.trans x1))).at hx
        have hdt := Tre.deepAll_mem (List.mem_of_getElem? ht)
        have go : ∀ b xs, x' = .ref b → X b = some (.tup xs) → True := fun _ _ _ _ => trivial
        obtain ⟨b, xs, rfl, hb⟩ : ∃ b xs, x' = .ref b ∧ X b = some (.tup xs) := by
          cases t with
          | nm x => obtain ⟨b, e, hb, _⟩ := hT; exact ⟨b, _, e, hb⟩
          | nd k2 ps2 => obtain ⟨b, vs2, e, hb, _⟩ := hT; exact ⟨b, _, e, hb⟩
        walk_at "go"
        refine ⟨_, t, rfl, hT, by omega, fun H2 hS2 => ?_⟩
        walk_at "go"
        refine ⟨some (.ref b), ?_, x1.trans hS2⟩
        rw [Tre.sizeAll_take ht, show (1 : Int) + ((Tre.sizeAll (ps.take i) + t.size : Nat) : Int) = 1 + (Tre.sizeAll (ps.take i) : Int) + (t.size : Int) by omega]
      · rintro σ X ⟨y, rfl, x1⟩
        walk_at "go"
        rw [hps.len, List.take_length]
        have e : Tre.size (.nd k ps) = 1 + Tre.sizeAll ps := rfl
        rw [show (1 : Int) + (Tre.sizeAll ps : Int) = ((Tre.size (.nd k ps) : Nat) : Int) by rw [e]; omega]
        exact q _ (hS.trans x1)
theorem size_all {f : Addr} {fd : FuncData} (B : Blt mg) (D : Dn K mg "_law_size" s__law_size ["tree"] f fd) : ∀ d : Nat, FnOk P w K mg base CX0 (d + 1) f fd ["tree"] (spSize d)
  | 0 => ⟨fun vs H Q E ⟨v, t, _, _, h, _⟩ => by have := t.deep_pos; omega, fun A outer s H args us vs Q E _ _ _ _ ⟨v, t, _, _, h, _⟩ => by have := t.deep_pos; omega⟩
  | d + 1 => size_step B D (size_all B D d)
theorem ok_size {f : Addr} {fd : FuncData} (B : Blt mg) (D : Dn K mg "_law_size" s__law_size ["tree"] f fd) : FnOk P w K mg base CX0 31 f fd ["tree"] (spSize 30) := by
  exact size_all B D 30
theorem ok_pick {f f1 : Addr} {fd fd1 : FuncData} (B : Blt mg) (D : Dn K mg "_law_pick" s__law_pick ["state", "row"] f fd) (D_law_draw : Dn K mg "_law_draw" s__law_draw ["state", "many"] f1 fd1)
    (G_law_draw : FnOk P w K mg base CX0 1 f1 fd1 ["state", "many"] spDraw) : FnOk P w K mg base CX0 2 f fd ["state", "row"] spPick := by
  refine D.F.ok sc__law_pick (fun vs H Q E h => ?_) (fun cdv A outer s H vs Q E hr h => ?_)
  · obtain ⟨st, g, R, B, r, xs, rfl, _⟩ := h
    rfl
  · obtain ⟨st, g, R, C, r, xs, rfl, rfl, o, hr1, h1, h2, q⟩ := h
    refine ⟨_, (pss_one (ps_ret (pe_ix (ix_listK (K := K) rfl) (pv 1) (pe_call G_law_draw (hr.mono (by decide)) (by rfl) D_law_draw.g D_law_draw.F.kp D_law_draw.b .nil pass0 (pa_cons (pv 0) (pa_cons (pe_callB (call_len_seqK (K := K) rfl) (by rfl) B.m_len PySem.boot_len (pa_cons (pv 1) pa_nil)) pa_nil))) (fun _ _ => rfl)))), ?_⟩
    walk_at "begin"
    walk_at "go"
    rename_i R1 n1 o1 n10 n11
    obtain ⟨v, hv⟩ : ∃ v, xs[n1.toNat]? = some v := ⟨_, List.getElem?_eq_getElem (by omega)⟩
    have hat : atI xs n1 = some v := at_i n10 hv
    have hr2 := rg_get o1 hr1
    walk_at "go"
    exact q R1 n1.toNat v o1 hv
end
end K53
/-! isinstance of a caught own error, asked of a tuple of classes -/
namespace Lw
open PySem PySem.Spec PyProof.Rows L2
def rIsET (K : PySem.W.Frag) (D a : Addr) : List V → Hp → VK → Prop := fun xs H Q => ∃ (tp : Addr) (cs : List Addr) (b : Bool), xs = [.ref a, .ref tp] ∧ H tp = some (.tup (cs.map V.ref)) ∧ PySem.W.kitAny K (.ref D) (cs.map Value.ref) = some b ∧ Q (.bl b) H
theorem vals_refs : ∀ {cs : List Addr} {us : List Value}, Vals (cs.map V.ref) us → us = cs.map Value.ref
  | [], _, .nil => rfl
  | c :: cs, _, .cons r t => by
    have h : _ = Value.ref c := r
    rw [h, vals_refs t]; rfl
theorem call_isET {X : Cx} {a D : Addr} {oe : Obj} {pn : List (Addr × Obj)} (C : ExcC X.K D) (hz : Zc (.ref D) none oe) (hf : ∃ vs, oe.data = .fields vs) : CallR (X.suite a ((a, oe) :: pn)) (.builtin "isinstance") (rIsET X.K D a) := by
  intro pins s σ H xs us Q I r h
  obtain ⟨tp, cs, b, rfl, ht, e, q⟩ := h
  cases r with
  | cons rx rr =>
    cases rr with
    | cons rt rr =>
      cases rr
      cases rx
      cases rt
      obtain ⟨hget, _⟩ := I.pin (a, oe) (List.mem_append.mpr (.inl List.mem_cons_self))
      obtain ⟨vs, hv⟩ := hf
      have J : PySem.W.InstAt s.heap a oe D none := by
        obtain ⟨oc, od, oda, osl⟩ := oe
        obtain ⟨h1, h2⟩ := hz
        dsimp only at h1 h2 hv
        subst h1 h2 hv
        exact ⟨hget, rfl, rfl, trivial⟩
      obtain ⟨its, rv, pl, hz2⟩ := I.tuple (SqT.of ht)
      obtain ⟨o, ho, hc, n, hd⟩ := pl
      obtain ⟨oc, od, oda, osl⟩ := o
      simp only at hc hd
      subst hc hd
      rw [vals_refs rv] at ho
      exact PySem.W.kia_tup (PySem.W.handS_kitx_exc C.hg C.hk C.hs C.hd C.ha C.hn C.ht C.hm) I.kIn J ho e (fun z => nomatch z) fun tk => ⟨.bl b, H, I.kept (t' := tk) fun _ _ z => z, rfl, q⟩
end Lw
/-! f(e, .., k = v) where what is raised is wished for at the caller's slots; a suite for one class; repr of nested lists -/
namespace L2
open PySem PySem.Spec PyProof.Rows
def tCallNS (n m : Nat) (sp : Sp) (gV : List V → List V → List V) (E : St → XK) (t tk : TA) : TE := fun σ H Q => t σ H fun vs H1 => tk σ H1 fun zs H2 => vs.length = n ∧ zs.length = m ∧ sp (gV vs zs) H2 Q (E σ)
section
variable {X : Cx} {CX : CXT} {k n : Nat} {f : Addr} {fd : FuncData} {ps ks : List Str} {sp : Sp} {E : St → XK} {x : Str} {p pos : Pos} {e : Expr} {es : List Expr} {kws : List Keyword} {t tk : TA} {g : List Value → List Value → List Value} {gV : List V → List V → List V}
theorem pe_callNS (F : FnOk X.prog X.w X.K X.mg X.base CX k f fd ps sp) (hr : Room k X.A) (hg : Gl X x) (hm : X.mg x = some (.ref f)) (hk : PySem.W.keepIn X.K (.ref f) = true) (hb : KBn X.K fd ps n ks g gV) (hx : ∀ σ, PassesAt CX X σ (E σ))
    (ha : PA X (e :: es) t) (hkw : PK X kws tk) (hall : (backToKw pos (keywordEach kws X.env)).all (·.1.isSome) = true := by rfl) (hks : (backToKw pos (keywordEach kws X.env)).filterMap (·.1) = ks := by rfl)
    (hdb : (x == ("__debug__" : Str)) = false := by decide) (he : starEach (e :: es) X.env = (false, eval e X.env) :: starEach es X.env := by rfl)
    (hpl : ((backTo pos (starEach (e :: es) X.env)).any (·.1) || (backToKw pos (keywordEach kws X.env)).any (·.1.isNone)) = false := by rfl) :
    PE X (.Call (.Name x p) (e :: es) kws pos) (tCallNS n ks.length sp gV E t tk) := by
  refine ⟨fun pins s σ H Q I h => wpAny_Call_Name_kw (ld_glob I hg hm (PySem.W.callWith_KW (h₀ := X.base) I.ok.mod.kin hk hall (thn (ha.run pos pins s σ H _ I h) fun us s1 ⟨vs, H1, I1, r, q⟩ => thn (hkw.run pos pins s1 σ H1 _ I1 q) fun ws s2 ⟨zs, H2, I2, rz, l1, l2, q2⟩ => ⟨I2.kIn, ?_⟩) hpl he) hdb)⟩
  rw [hks]
  have go := F.run X.A X.stack s2 H2 ⟨us, ks.zip ws⟩ (g us ws) (gV vs zs) Q (E σ) hr I2.env0 (hb.to s2 us ws I2.kIn (r.length.symm.trans l1) (rz.length.symm.trans l2)) (hb.rel r rz) q2
  refine wpAny_call (codeAny_mono go fun res s' hq => ?_)
  match res, hq with
  | .error e, hq => exact hx σ pins H2 s2 e s' I2 hq
  | .ok (.ret u), hq => exact I2.after hq
  | .ok .next, hq => exact hq.elim
  | .ok .brk, hq => exact hq.elim
  | .ok .cont, hq => exact hq.elim
end
end L2
namespace Lw
open PySem PySem.Spec PyProof.Rows L2
theorem r_callNS {n m : Nat} {sp : Sp} {gV : List V → List V → List V} {E : L2.St → XK} {t tk : TA} {σ : L2.St} {H : Hp} {Q : VK} (h : t σ H fun vs H1 => tk σ H1 fun zs H2 => vs.length = n ∧ zs.length = m ∧ sp (gV vs zs) H2 Q (E σ)) : tCallNS n m sp gV E t tk σ H Q := h
theorem r_callSD {sp : Sp} {dvs : List V} {E : L2.St → XK} {t : TA} {σ : L2.St} {H : Hp} {Q : VK} (h : t σ H fun vs H1 => sp (vs ++ dvs) H1 Q (E σ)) : tCallSD sp dvs E t σ H Q := h
theorem pss_when {X : Cx} {b : List Stmt} {t : TS} {P : Prop} (h : P → PSs X b t) : PSs X b (fun D σ H => P ∧ t D σ H) := ⟨fun pins s σ H D I hh => (h hh.1).run pins s σ H D I hh.2⟩
theorem zc_at {cls : Value} {d : Option Addr} {CN : Addr} {oe : Obj} (e : cls = .ref CN ∧ d = none) (h : Zc cls d oe) : Zc (.ref CN) none oe := by rw [← e.1, ← e.2]; exact h
end Lw
/-! len(set(a list of ints)); repr of nested lists -/
namespace Lm
theorem nodup_sub_len : ∀ {ks ns : List Int}, ks.Nodup → (∀ k ∈ ks, k ∈ ns) → ks.length ≤ ns.length
  | [], _, _, _ => Nat.zero_le _
  | k :: r, ns, hn, h => by
    have h1 := List.nodup_cons.mp hn
    have hk := h k List.mem_cons_self
    have ih := nodup_sub_len (ks := r) (ns := ns.erase k) h1.2 fun x hx => (List.mem_erase_of_ne (fun e => h1.1 (by rw [← e]; exact hx))).mpr (h x (List.mem_cons_of_mem _ hx))
    rw [List.length_erase_of_mem hk] at ih
    have := List.length_pos_of_mem hk
    rw [List.length_cons]; omega
theorem insA_len {z : Int} : ∀ {l : List Int}, l.Pairwise (· < ·) → (insA z l).length = l.length + if z ∈ l then 0 else 1
  | [], _ => rfl
  | x :: r, h => by
    have h1 := (List.pairwise_cons.mp h).1
    have h2 := (List.pairwise_cons.mp h).2
    unfold insA
    by_cases q : z < x
    · rw [if_pos q, if_neg (fun hm => by
        rcases List.mem_cons.mp hm with e | e
        · omega
        · have := h1 z e; omega)]
      rfl
    · rw [if_neg q]
      by_cases q2 : z = x
      · rw [if_pos q2, if_pos (by rw [q2]; exact List.mem_cons_self)]; rfl
      · rw [if_neg q2, List.length_cons, insA_len h2, List.length_cons]
        by_cases q3 : z ∈ r
        · rw [if_pos q3, if_pos (List.mem_cons_of_mem _ q3)]
        · rw [if_neg q3, if_neg (fun hm => by
            rcases List.mem_cons.mp hm with e | e
            · exact q2 e
            · exact q3 e)]
theorem asc_len : ∀ l : List Int, (asc l).length ≤ l.length ∧ ((asc l).length = l.length ↔ l.Nodup)
  | [] => ⟨Nat.le_refl _, fun _ => List.nodup_nil, fun _ => rfl⟩
  | x :: r => by
    obtain ⟨ih1, ih2⟩ := asc_len r
    have e : (asc (x :: r)).length = (asc r).length + if x ∈ asc r then 0 else 1 := insA_len (asc_pw r)
    rw [e, List.length_cons, List.nodup_cons]
    by_cases q : x ∈ r
    · rw [if_pos (asc_mem.mpr q)]
      exact ⟨by omega, fun h => by omega, fun h => absurd q h.1⟩
    · rw [if_neg (fun z => q (asc_mem.mp z))]
      exact ⟨by omega, fun h => ⟨q, ih2.mp (by omega)⟩, fun h => by have := ih2.mpr h.2; omega⟩
theorem set_len {ks ns : List Int} (h1 : ks.Nodup) (h2 : ∀ k, k ∈ ks ↔ k ∈ ns) : ks.length ≤ ns.length ∧ (ks.length = ns.length ↔ ns.Nodup) := by
  have a1 : ks.length ≤ (asc ns).length := nodup_sub_len h1 fun k hk => asc_mem.mpr ((h2 k).mp hk)
  have a2 : (asc ns).length ≤ ks.length := nodup_sub_len ((asc_pw ns).imp fun {a b} q => Int.ne_of_lt q) fun k hk => (h2 k).mpr (asc_mem.mp hk)
  have e : ks.length = (asc ns).length := by omega
  rw [e]
  exact asc_len ns
end Lm
namespace Lw
open PySem PySem.Spec PyProof.Rows L2
def rLenSet (w : World) : List V → Hp → VK → Prop := fun xs H Q => ∃ (p : Addr) (S : Int → Bool) (n : Nat), xs = [.ref p] ∧ H p = some (SetO w p S n) ∧ ∀ ks : List Int, ks.Nodup → (∀ k, k ∈ ks ↔ S k = true) → ks.length = n → Q (.int (n : Nat)) H
theorem call_len_setO {X : Cx} {w : World} (hw : X.w = w) : CallR X (.builtin "len") (rLenSet w) := by
  subst hw
  intro pins s σ H xs us Q I r h
  obtain ⟨p, S, n, rfl, hp, q⟩ := h
  obtain ⟨u, rfl, rx⟩ := vals1 r
  obtain rfl : u = .ref p := rx
  have R := setO_get I hp
  have R2 := R
  obtain ⟨o, es, ep, t, ho, hex, hd, hgood, hnd, hmem, hsz, hfit, hn, _⟩ := R2
  have q2 := q (es.toList.map keyOf) hnd (fun k => (hmem k).symm) (by rw [List.length_map, Array.length_toList, hn])
  exact call_len_set ho hex hd hfit (by rw [hn]; have : n < scanBound := by rw [← hn]; exact hsz
                                        unfold scanBound at this; omega) ⟨.int n, H, I.tok _, ⟨_, by rw [hn]⟩, q2⟩
theorem r_lenSet {w : World} {p : Addr} {ns : List Int} {n : Nat} {H : Hp} {Q : VK} (h : H p = some (SetO w p (fun j => decide (j ∈ ns)) n)) (q : n ≤ ns.length → (n = ns.length ↔ ns.Nodup) → Q (.int (n : Nat)) H) : rLenSet w [.ref p] H Q :=
  ⟨p, _, n, rfl, h, fun ks h1 h2 h3 => by
    have := Lm.set_len h1 (ns := ns) fun k => by rw [h2, decide_eq_true_eq]
    rw [h3] at this
    exact q this.1 this.2⟩
end Lw
/-! texts put together; lists of trees -/
namespace Lw
open PySem PySem.Spec PyProof.Rows L2
def rCatS : R2 := fun x y H Q => ∃ i j, x = .str i ∧ y = .str j ∧ i.length + j.length ≤ sizeLine ∧ Q (.str (i ++ j)) H
theorem op_catS {X : Cx} : OpR X (binaryOp .Add) rCatS := op_add_str
theorem r_catS {x y : Str} {H : Hp} {Q : VK} (h : x.length + y.length ≤ sizeLine) (q : Q (.str (x ++ y)) H) : rCatS (.str x) (.str y) H Q := ⟨x, y, rfl, rfl, h, q⟩
/-- each of these is a tree of at most n parts -/
def Tms (H : Hp) (n : Nat) (vs : List V) : Prop := ∀ v ∈ vs, ∃ t, Tat H v t ∧ t.size ≤ n
theorem Tms.keep {H H' : Hp} {n : Nat} {vs : List V} (k : KT H H') (h : Tms H n vs) : Tms H' n vs := fun v hv => by
  obtain ⟨t, h1, h2⟩ := h v hv
  exact ⟨t, h1.keep k, h2⟩
theorem Tms.push {H : Hp} {n : Nat} {vs : List V} {v : V} {t : Tre} (h : Tms H n vs) (h1 : Tat H v t) (h2 : t.size ≤ n) : Tms H n (vs ++ [v]) := fun x hx => by
  rcases List.mem_append.mp hx with e | e
  · exact h x e
  · rw [List.mem_singleton.mp e]; exact ⟨t, h1, h2⟩
theorem Tms.append {H : Hp} {n : Nat} {vs ws : List V} (h : Tms H n vs) (h1 : Tms H n ws) : Tms H n (vs ++ ws) := fun x hx => by
  rcases List.mem_append.mp hx with e | e
  · exact h x e
  · exact h1 x e
theorem Tms.at {H : Hp} {n i : Nat} {vs : List V} {v : V} (h : Tms H n vs) (e : vs[i]? = some v) : ∃ t, Tat H v t ∧ t.size ≤ n := h v (List.mem_of_getElem? e)
theorem Tms.nil {H : Hp} {n : Nat} : Tms H n [] := fun _ h => nomatch h
theorem tat0 {H : Hp} {p : Addr} {k : Str} (h : H p = some (.tup [.str k])) (ok : PyData.strOk k = true := by decide +kernel) : Tat H (.ref p) (.nd k []) := ⟨p, [], rfl, h, rfl, ok⟩
theorem tat1 {H : Hp} {p : Addr} {k : Str} {v : V} {t : Tre} (h : H p = some (.tup [.str k, v])) (h1 : Tat H v t) (ok : PyData.strOk k = true := by decide +kernel) : Tat H (.ref p) (.nd k [t]) := ⟨p, [v], rfl, h, ⟨v, [], rfl, h1, rfl⟩, ok⟩
theorem tat2 {H : Hp} {p : Addr} {k : Str} {v x : V} {t u : Tre} (h : H p = some (.tup [.str k, v, x])) (h1 : Tat H v t) (h2 : Tat H x u) (ok : PyData.strOk k = true := by decide +kernel) : Tat H (.ref p) (.nd k [t, u]) := ⟨p, [v, x], rfl, h, ⟨v, [x], rfl, h1, x, [], rfl, h2, rfl⟩, ok⟩
theorem strOk_app {x y : Str} (h1 : PyData.strOk x = true) (h2 : PyData.strOk y = true) : PyData.strOk (x ++ y) = true := by
  unfold PyData.strOk at h1 h2 ⊢
  show (x.cps ++ y.cps).all _ = true
  rw [Array.all_append, h1, h2]; rfl
theorem strOk_1 {c : Nat} (h : c < 0x110000) : PyData.strOk ⟨#[c]⟩ = true := by
  unfold PyData.strOk
  simp [h]
/-- one of a list of texts -/
theorem str_at {xs : List Str} {z : Int} (h0 : 0 ≤ z) (h1 : z < xs.length) : ∃ x, x ∈ xs ∧ atI (xs.map V.str) z = some (.str x) := by
  obtain ⟨x, hx⟩ : ∃ x, xs[z.toNat]? = some x := ⟨_, List.getElem?_eq_getElem (by omega)⟩
  exact ⟨x, List.mem_of_getElem? hx, at_i h0 (by rw [List.getElem?_map, hx]; rfl)⟩
theorem cp_at {x : Str} {z : Int} (h0 : 0 ≤ z) (h1 : z < x.cps.toList.length) : ∃ c, c ∈ x.cps.toList ∧ atI x.cps.toList z = some c := by
  obtain ⟨c, hx⟩ : ∃ c, x.cps.toList[z.toNat]? = some c := ⟨_, List.getElem?_eq_getElem (by omega)⟩
  refine ⟨c, List.mem_of_getElem? hx, ?_⟩
  have e : z = (z.toNat : Int) := by omega
  rw [e]
  exact atI_nat hx
end Lw
namespace Lw
open PySem PySem.Spec PyProof.Rows L2
theorem kt_lst {C : Hp} {t : Addr} {xs : List V} : KT (upd C t (.lst xs)) C := fun b ys h => by
  by_cases e : b = t
  · subst e; rw [upd_same] at h; cases h
  · rwa [upd_ne e] at h
theorem kt_rg {st g : Addr} {R : RS} {B : Hp} : KT (rg st g R B) B := fun b ys h => kt_lst _ _ (kt_lst _ _ h)
theorem kt_new {C : Hp} {p : Addr} {x : HO} (h : C p = none) : KT C (upd C p x) := KT.of (same_new h)
theorem kt_put {C : Hp} {p : Addr} {x : HO} {xs : List V} (h : C p = some (.lst xs)) : KT C (upd C p x) := fun b ys e => by
  have : b ≠ p := fun z => by rw [z, h] at e; cases e
  rw [upd_ne this]; exact e
end Lw
namespace Lw
open PySem PySem.Spec PyProof.Rows L2
theorem newX {st g : Addr} {R : RS} {C X : Hp} {p : Addr} {x : HO} (k : Ok st g R C) (np : rg st g R C p = none) (e : upd (rg st g R C) p x = X) : ∃ C1, X = rg st g R C1 ∧ Ok st g R C1 ∧ Same C C1 ∧ C1 p = some x ∧ C p = none := by
  obtain ⟨e1, o1, n1⟩ := newT_eq (topRg st g) k np x
  exact ⟨_, by rw [← e, e1], o1, same_new n1, upd_same, n1⟩
theorem newXH {C X : Hp} {p : Addr} {x : HO} (np : C p = none) (e : upd C p x = X) : Same C X ∧ X p = some x := by
  rw [← e]
  exact ⟨same_new np, upd_same⟩
end Lw
namespace K53
open PySem PySem.Spec PyProof.Rows L2 Lw


local macro_rules | `(tactic| walk_at "look") => `(tactic| first
  | assumption
  | with_reducible exact upd_same
  | with_reducible exact rg_st
  | with_reducible exact rg_g (by assumption)
  | (with_reducible refine upd_old (by assumption) ?_; walk_at "look")
  | (with_reducible refine rg_get (by assumption) ?_; walk_at "look")
  | (with_reducible refine Same.get (by assumption) ?_; walk_at "look"))
local macro_rules | `(tactic| walk_at "cond") => `(tactic| first
  | (show _ ≠ _; omega) | exact cdivN (by omega) (by omega) | exact cmul_mod (by decide) (by decide) | exact cmulR (by omega) (by omega) | exact cmulL (by omega) (by omega) | exact cpow (by omega) (by omega) (by omega) (by omega) | (show (0:Int) ≤ _; omega))
local macro_rules | `(tactic| walk_at "at") => `(tactic| first | assumption | with_unfolding_all rfl)
local macro_rules | `(tactic| walk_at "sz") => `(tactic| first | assumption | (refine small ?_; omega) | (refine small ?_; simp only [List.length_map, List.length_append, List.length_cons, List.length_nil]; omega))
local macro_rules | `(tactic| walk_at "len") => `(tactic| first | exact size_nil | exact Nat.le_of_lt (small (by simp only [List.length_cons, List.length_nil, List.length_map]; omega)))
local macro_rules | `(tactic| walk_at "newD") => `(tactic| (refine ⟨by walk_at "len", fun p np => ?_⟩; obtain ⟨e, o', hD', n', ne'⟩ := newTD_eq (topRg _ _) (by assumption) (by assumption) np (.lst _); rw [e]; clear e))
local macro_rules | `(tactic| walk_at "new") => `(tactic| (refine ⟨by walk_at "len", fun p np => ?_⟩; obtain ⟨e, o', n'⟩ := newT_eq (topRg _ _) (by assumption) np (.lst _); rw [e]; clear e))
local macro_rules | `(tactic| walk_at "st") => `(tactic| first
  | with_reducible refine r_seq ?_
  | with_reducible refine r_var rfl ?_
  | with_reducible refine r_c ?_
  | with_reducible refine r_asg ?_
  | (with_reducible refine r_name ?_; dsimp only [List.set_cons_zero, List.set_cons_succ])
  | with_reducible refine r_sub ?_
  | with_reducible refine r_op ?_
  | with_reducible refine r_i0 ?_
  | (with_reducible refine' r_i ?k1 ?_; (case k1 => walk_at "cond"))
  | with_reducible refine r_cons ?_
  | with_reducible refine r_nil ?_
  | with_reducible refine r_cb ?_
  | with_reducible refine r_call ?_
  | with_reducible refine r_ifs ?_
  | with_reducible refine r_test ?_
  | with_reducible refine r_tB ?_
  | with_reducible refine r_bl ?_
  | with_reducible refine r_ret ?_
  | with_reducible refine r_drop ?_
  | with_reducible refine r_next ?_
  | (with_reducible refine' r_ixL ?k1 ?k2 ?_; (case k1 => walk_at "look"); (case k2 => walk_at "at"))
  | (with_reducible refine' r_setL ?k1 ?k2 ?_; (case k1 => walk_at "look"); (case k2 => walk_at "at"))
  | (with_reducible refine' r_tup (SqT.of ?k1) ?k2 ?_; (case k1 => walk_at "look"); (case k2 => rfl))
  | with_reducible refine r_gcons ?_
  | with_reducible refine r_gnil ?_
  | with_reducible refine r_aug rfl ?_
  | with_reducible refine r_augS ?_
  | with_reducible refine r_ipI ?_
  | with_reducible refine r_un ?_
  | with_reducible refine r_u ?_
  | with_reducible refine r_eq rfl ?_
  | with_reducible refine r_ne rfl ?_
  | with_reducible refine r_chain ?_
  | with_reducible refine iteF ?_
  | with_reducible refine r_not ?_
  | with_reducible refine r_and ?_
  | with_reducible refine r_or ?_
  | with_reducible refine r_andV ?_
  | with_reducible refine r_orV ?_
  | with_reducible refine r_notV ?_
  | with_reducible refine r_lst ?_
  | with_reducible refine r_bm ?_
  | with_reducible refine r_bm0 ?_
  | (with_reducible refine' And.intro (r_ty ?k1) ?_; (case k1 => walk_at "look"))
  | (with_reducible refine' r_append ?k1 ?k2 ?_; (case k1 => walk_at "look"); (case k2 => walk_at "sz"))
  | (with_reducible refine' r_lenK ?k1 ?_; (case k1 => walk_at "look"))
  | (with_reducible refine' r_listOf ?k1 ?_; (case k1 => walk_at "look"))
  | (with_reducible refine' r_sortedI ?k1 ?_; (case k1 => walk_at "look"))
  | (with_reducible refine' r_sum ?k1 ?_; (case k1 => walk_at "look"))
  | with_reducible refine r_int ?_
  | (with_reducible refine' r_draw (by assumption) ?k1 ?k2 ?_; (case k1 => omega); (case k2 => omega); intro R' n' o' h' h'')
  | with_reducible refine iteT ?_
  | with_reducible refine r_revL ?_
  | with_reducible refine r_lc ?_
  | with_reducible refine r_yes ?_
  | with_reducible refine r_sl ?_
  | with_reducible refine r_noPart ?_
  | with_reducible refine r_part ?_
  | with_reducible refine r_lc2 ?_
  | with_reducible refine r_callN ?_
  | with_reducible refine r_callD ?_
  | with_reducible refine r_tupE ?_
  | with_reducible refine r_rng2 ?_
  | with_reducible refine r_i1 ?_
  | (with_reducible refine' r_slL ?k1 ?_; (case k1 => walk_at "look"))
  | with_reducible refine r_for ?_
  | with_reducible refine r_iList ?_
  | with_reducible refine r_rng1 ?_
  | with_reducible refine r_enum ?_
  | (with_reducible show Ends.nx _ _ _; dsimp only)
  | (with_reducible show Ends.rt _ _ _; dsimp only)
  | (with_reducible show Ends.ct _ _ _; dsimp only)
  | (with_reducible show Ends.bk _ _ _; dsimp only))
local macro_rules | `(tactic| walk_at "go") => `(tactic| repeat (walk_at "st"))
local macro_rules | `(tactic| walk_at "begin") => `(tactic| dsimp only [cxOf, wipe, L2.start, List.map, List.length_cons, List.length_nil, Nat.reduceAdd, Nat.reduceSub, List.replicate, List.cons_append, List.nil_append])


abbrev lets : Str := "abcdefghijklmnopqrstuvwxyz"
abbrev endz : List Str := ["", "0", "7", "99", "10", "00", "98", "1"]
theorem lets_len : lets.cps.toList.length = 26 := by decide +kernel
theorem lets_ok : ∀ c ∈ lets.cps.toList, c < 0x110000 := by decide +kernel
theorem endz_ok : ∀ x ∈ endz, PyData.strOk x = true := by decide +kernel
theorem endz_len : ∀ x ∈ endz, x.length ≤ 2 := by decide +kernel
def spNames : Sp := fun vs H Q _ => ∃ (st g : Addr) (R : RS) (B : Hp) (many : Nat), vs = [.ref st, .int (many : Int)] ∧ H = rg st g R B ∧ Ok st g R B ∧ many ≤ 100 ∧
  ∀ (R' : RS) (B' : Hp) (r : Addr) (xs : List Str), Ok st g R' B' → Same B B' → B' r = some (.lst (xs.map V.str)) → xs.length = many → (∀ x ∈ xs, PyData.strOk x = true) → Q (.ref r) (rg st g R' B')
section
variable {P : Program} {w : World} {K : PySem.W.Frag} {mg : Str → Option Value} {base : Heap}
theorem ok_names {f f1 : Addr} {fd fd1 : FuncData} (B : Blt mg) (D : Dn K mg "_law_names" s__law_names ["state", "many"] f fd) (D_law_draw : Dn K mg "_law_draw" s__law_draw ["state", "many"] f1 fd1)
    (G_law_draw : FnOk P w K mg base CX0 1 f1 fd1 ["state", "many"] spDraw) : FnOk P w K mg base CX0 2 f fd ["state", "many"] spNames := by
  refine D.F.ok sc__law_names (fun vs H Q E h => ?_) (fun cdv A outer s H vs Q E hr h => ?_)
  · obtain ⟨st, g, R, B, many, rfl, _⟩ := h
    rfl
  · obtain ⟨st, g, R, C, many, rfl, rfl, o, h1, q⟩ := h
    refine ⟨_, (pss_cons (ps_set (i := 2) sc__law_names.nd rfl (.inl rfl) pe_str)
      (pss_cons (ps_set (i := 3) sc__law_names.nd rfl (.inl rfl) (pe_lst (pa_cons pe_str (pa_cons pe_str (pa_cons pe_str (pa_cons pe_str (pa_cons pe_str (pa_cons pe_str (pa_cons pe_str (pa_cons pe_str pa_nil))))))))))
      (pss_cons (ps_set (i := 4) sc__law_names.nd rfl (.inl rfl) (pe_call G_law_draw (hr.mono (by decide)) (by rfl) D_law_draw.g D_law_draw.F.kp D_law_draw.b .nil pass0 (pa_cons (pv 0) (pa_cons pe_int pa_nil))))
      (pss_cons (ps_set (i := 5) sc__law_names.nd rfl (.inl rfl) (pe_call G_law_draw (hr.mono (by decide)) (by rfl) D_law_draw.g D_law_draw.F.kp D_law_draw.b .nil pass0 (pa_cons (pv 0) (pa_cons pe_int pa_nil))))
      (pss_cons (ps_set (i := 6) sc__law_names.nd rfl (.inl rfl) (pe_call G_law_draw (hr.mono (by decide)) (by rfl) D_law_draw.g D_law_draw.F.kp D_law_draw.b .nil pass0 (pa_cons (pv 0) (pa_cons pe_int pa_nil))))
      (pss_cons (ps_set (i := 7) sc__law_names.nd rfl (.inl rfl) (pe_lst pa_nil))
      (pss_cons (ps_for PassesOwn.never rfl (pi_range1 (by rfl) B.m_range (pa_cons (pv 1) pa_nil)) (pg_name (i := 8) sc__law_names.nd rfl (.inl rfl)) (pss_one (ps_if (pt_cmpR op_eq (pv 4) pe_int (nomark _)) (pss_one (ps_expr (pe_bmK (K := K) rfl PySem.F.plainAttrs_list PySem.F.slot_list_append PySem.F.type_list_append mt_append (pv 7) (pa_cons (pe_ix ix_str (pv 2) (pe_op op_modN (pe_callTy call_int1 (by rfl) B.m_int (by decide +kernel) (pa_cons (pe_op op_add (pv 5) (pe_op op_mul (pv 8) pe_int)) pa_nil)) pe_int) (fun _ _ => rfl)) pa_nil)))) (pss_one (ps_if (pt_cmpR op_eq (pv 4) pe_int (nomark _)) (pss_one (ps_expr (pe_bmK (K := K) rfl PySem.F.plainAttrs_list PySem.F.slot_list_append PySem.F.type_list_append mt_append (pv 7) (pa_cons (pe_op op_catS (pe_ix ix_str (pv 2) (pv 5) (fun _ _ => rfl)) (pe_ix (ix_listK (K := K) rfl) (pv 3) (pe_op op_modN (pe_callTy call_int1 (by rfl) B.m_int (by decide +kernel) (pa_cons (pe_op op_add (pv 6) (pe_op op_mul (pv 8) pe_int)) pa_nil)) pe_int) (fun _ _ => rfl))) pa_nil)))) (pss_one (ps_expr (pe_bmK (K := K) rfl PySem.F.plainAttrs_list PySem.F.slot_list_append PySem.F.type_list_append mt_append (pv 7) (pa_cons (pe_op op_catS (pe_ix ix_str (pv 2) (pe_op op_modN (pe_callTy call_int1 (by rfl) B.m_int (by decide +kernel) (pa_cons (pe_op op_add (pv 5) (pe_op op_mul (pv 8) pe_int)) pa_nil)) pe_int) (fun _ _ => rfl)) (pe_ix (ix_listK (K := K) rfl) (pv 3) (pe_op op_modN (pe_callTy call_int1 (by rfl) B.m_int (by decide +kernel) (pa_cons (pe_op op_add (pv 6) (pv 8)) pa_nil)) pe_int) (fun _ _ => rfl))) pa_nil)))))))))
      (pss_one (ps_ret (pv 7)))))))))), ?_⟩
    walk_at "begin"
    walk_at "go"
    refine ⟨by walk_at "len", fun p np => ?_⟩
    obtain ⟨e, o1, n1⟩ := newT_eq (topRg _ _) o np (.lst _)
    rw [e]
    clear e np
    obtain ⟨C1, hp, hS, hC1⟩ : ∃ C1, C1 p = some (.lst (endz.map V.str)) ∧ Same C C1 ∧ upd C p (.lst (endz.map V.str)) = C1 := ⟨_, upd_same, same_new n1, rfl⟩
    have eC : upd C p (.lst [V.str "", V.str "0", V.str "7", V.str "99", V.str "10", V.str "00", V.str "98", V.str "1"]) = C1 := hC1
    rw [eC] at o1 ⊢
    clear eC hC1 n1
    walk_at "go"
    rename_i R3 last o4 l1 l2
    rename_i R2 first o3 f1 f2
    rename_i R1 way o2 w1 w2
    refine ⟨size_nil, fun l nl => ?_⟩
    obtain ⟨e, o5, n5⟩ := newT_eq (topRg _ _) o4 nl (.lst [])
    rw [e]
    clear e
    walk_at "go"
    have hpl : p ≠ l := fun z => by rw [z, n5] at hp; cases hp
    have hfin : ∀ ys : List Str, Same C (upd C1 l (.lst (ys.map V.str))) := fun ys => hS.trans (same_new n5)
    refine r_forR (by omega) (by omega) (fun i σ X => ∃ (xs : List Str) (y : Option V), σ = [some (.ref st), some (.int many), some (.str lets), some (.ref p), some (.int way), some (.int first), some (.int last), some (.ref l), y] ∧ X = rg st g R3 (upd C1 l (.lst (xs.map V.str))) ∧ Ok st g R3 (upd C1 l (.lst (xs.map V.str))) ∧ xs.length = i ∧ ∀ x ∈ xs, PyData.strOk x = true) ⟨[], none, rfl, rfl, o5, rfl, fun x hx => nomatch hx⟩ ?_ ?_
    · rintro i σ X hi ⟨xs, y, rfl, rfl, o6, hx, hok⟩
      have hl : upd C1 l (.lst (xs.map V.str)) l = some (.lst (xs.map V.str)) := upd_same
      have hp2 : upd C1 l (.lst (xs.map V.str)) p = some (.lst (endz.map V.str)) := by rw [upd_ne hpl]; exact hp
      have hsz : (xs.map V.str).length < sizeLine := small (by rw [List.length_map]; omega)
      have fin : ∀ z : Str, PyData.strOk z = true → ∃ xs' y', [some (V.ref st), some (.int many), some (.str lets), some (.ref p), some (.int way), some (.int first), some (.int last), some (.ref l), some (.int (i : Int))] = [some (V.ref st), some (.int many), some (.str lets), some (.ref p), some (.int way), some (.int first), some (.int last), some (.ref l), y'] ∧ upd (rg st g R3 (upd C1 l (.lst (xs.map V.str)))) l (.lst (xs.map V.str ++ [V.str z])) = rg st g R3 (upd C1 l (.lst (List.map V.str xs'))) ∧ Ok st g R3 (upd C1 l (.lst (List.map V.str xs'))) ∧ xs'.length = i + 1 ∧ ∀ x ∈ xs', PyData.strOk x = true := fun z hz => by
        have e := rg_write (o := .lst (xs.map V.str ++ [V.str z])) o6 hl
        rw [upd_upd] at e
        have e2 : xs.map V.str ++ [V.str z] = (xs ++ [z]).map V.str := by rw [List.map_append]; rfl
        rw [e2] at e ⊢
        refine ⟨xs ++ [z], _, rfl, e.1, e.2, by rw [List.length_append, hx]; rfl, fun x hm => ?_⟩
        rcases List.mem_append.mp hm with e | e
        · exact hok x e
        · rw [List.mem_singleton.mp e]; exact hz
      have fmL : ∀ t : Int, 0 ≤ t.fmod 26 ∧ t.fmod 26 < lets.cps.toList.length := fun t => by rw [lets_len]; exact ⟨Int.fmod_nonneg_of_pos _ (by decide), Int.fmod_lt_of_pos _ (by decide)⟩
      have fmE : ∀ t : Int, 0 ≤ t.fmod 8 ∧ t.fmod 8 < endz.length := fun t => ⟨Int.fmod_nonneg_of_pos _ (by decide), Int.fmod_lt_of_pos _ (by decide)⟩
      have lL : lets.length ≤ sizeLine := by decide +kernel
      have l2 : ∀ (c : Nat) (x : Str), x ∈ endz → (⟨#[c]⟩ : Str).length + x.length ≤ sizeLine := fun c x hx => by
        have := endz_len x hx
        have e : (⟨#[c]⟩ : Str).length = 1 := rfl
        rw [e]
        exact Nat.le_trans (Nat.add_le_add_left this 1) (by decide)
      walk_at "go"
      refine r_ite (fun _ => ?_) (fun _ => ?_)
      · walk_at "go"
        obtain ⟨c, hcm, hc⟩ := cp_at (fmL (first + (i : Int) * 3)).1 (fmL _).2
        refine r_ixS lL hc ?_
        walk_at "go"
        exact fin _ (strOk_1 (lets_ok c hcm))
      · walk_at "go"
        refine r_ite (fun _ => ?_) (fun _ => ?_)
        · walk_at "go"
          obtain ⟨c, hcm, hc⟩ := cp_at (x := lets) f1 (by rw [lets_len]; exact f2)
          refine r_ixS lL hc ?_
          obtain ⟨x, hxe, hx2⟩ := str_at (fmE (last + (i : Int) * 3)).1 (fmE _).2
          walk_at "go"
          refine r_catS (l2 c x hxe) ?_
          walk_at "go"
          exact fin _ (strOk_app (strOk_1 (lets_ok c hcm)) (endz_ok x hxe))
        · walk_at "go"
          obtain ⟨c, hcm, hc⟩ := cp_at (fmL (first + (i : Int) * 5)).1 (fmL _).2
          refine r_ixS lL hc ?_
          obtain ⟨x, hxe, hx2⟩ := str_at (fmE (last + (i : Int))).1 (fmE _).2
          walk_at "go"
          refine r_catS (l2 c x hxe) ?_
          walk_at "go"
          exact fin _ (strOk_app (strOk_1 (lets_ok c hcm)) (endz_ok x hxe))
    · rintro σ X ⟨xs, y, rfl, rfl, o6, hx, hok⟩
      walk_at "go"
      exact q _ _ l xs o6 (hfin xs) upd_same (by omega) hok

end
end K53
namespace K53
open PySem PySem.Spec PyProof.Rows L2 Lw


local macro_rules | `(tactic| walk_at "look") => `(tactic| first
  | assumption
  | with_reducible exact upd_same
  | with_reducible exact rg_st
  | with_reducible exact rg_g (by assumption)
  | (with_reducible refine upd_old (by assumption) ?_; walk_at "look")
  | (with_reducible refine rg_get (by assumption) ?_; walk_at "look")
  | (with_reducible refine Same.get (by assumption) ?_; walk_at "look"))
local macro_rules | `(tactic| walk_at "cond") => `(tactic| first
  | (show _ ≠ _; omega) | exact cdivN (by omega) (by omega) | exact cmul_mod (by decide) (by decide) | exact cmulR (by omega) (by omega) | exact cmulL (by omega) (by omega) | exact cpow (by omega) (by omega) (by omega) (by omega) | (show (0:Int) ≤ _; omega))
local macro_rules | `(tactic| walk_at "at") => `(tactic| first | assumption | with_unfolding_all rfl)
local macro_rules | `(tactic| walk_at "sz") => `(tactic| first | assumption | (refine small ?_; omega) | (refine small ?_; simp only [List.length_map, List.length_append, List.length_cons, List.length_nil]; omega))
local macro_rules | `(tactic| walk_at "len") => `(tactic| first | exact size_nil | exact Nat.le_of_lt (small (by simp only [List.length_cons, List.length_nil, List.length_map]; omega)))
local macro_rules | `(tactic| walk_at "newD") => `(tactic| (refine ⟨by walk_at "len", fun p np => ?_⟩; obtain ⟨e, o', hD', n', ne'⟩ := newTD_eq (topRg _ _) (by assumption) (by assumption) np (.lst _); rw [e]; clear e))
local macro_rules | `(tactic| walk_at "new") => `(tactic| (refine ⟨by walk_at "len", fun p np => ?_⟩; obtain ⟨e, o', n'⟩ := newT_eq (topRg _ _) (by assumption) np (.lst _); rw [e]; clear e))
local macro_rules | `(tactic| walk_at "st") => `(tactic| first
  | with_reducible refine r_seq ?_
  | with_reducible refine r_var rfl ?_
  | with_reducible refine r_c ?_
  | with_reducible refine r_asg ?_
  | (with_reducible refine r_name ?_; dsimp only [List.set_cons_zero, List.set_cons_succ])
  | with_reducible refine r_sub ?_
  | with_reducible refine r_op ?_
  | with_reducible refine r_i0 ?_
  | (with_reducible refine' r_i ?k1 ?_; (case k1 => walk_at "cond"))
  | with_reducible refine r_cons ?_
  | with_reducible refine r_nil ?_
  | with_reducible refine r_cb ?_
  | with_reducible refine r_call ?_
  | with_reducible refine r_ifs ?_
  | with_reducible refine r_test ?_
  | with_reducible refine r_tB ?_
  | with_reducible refine r_bl ?_
  | with_reducible refine r_ret ?_
  | with_reducible refine r_drop ?_
  | with_reducible refine r_next ?_
  | (with_reducible refine' r_ixL ?k1 ?k2 ?_; (case k1 => walk_at "look"); (case k2 => walk_at "at"))
  | (with_reducible refine' r_setL ?k1 ?k2 ?_; (case k1 => walk_at "look"); (case k2 => walk_at "at"))
  | (with_reducible refine' r_tup (SqT.of ?k1) ?k2 ?_; (case k1 => walk_at "look"); (case k2 => rfl))
  | with_reducible refine r_gcons ?_
  | with_reducible refine r_gnil ?_
  | with_reducible refine r_aug rfl ?_
  | with_reducible refine r_augS ?_
  | with_reducible refine r_ipI ?_
  | with_reducible refine r_un ?_
  | with_reducible refine r_u ?_
  | with_reducible refine r_eq rfl ?_
  | with_reducible refine r_ne rfl ?_
  | with_reducible refine r_chain ?_
  | with_reducible refine iteF ?_
  | with_reducible refine r_not ?_
  | with_reducible refine r_and ?_
  | with_reducible refine r_or ?_
  | with_reducible refine r_andV ?_
  | with_reducible refine r_orV ?_
  | with_reducible refine r_notV ?_
  | with_reducible refine r_lst ?_
  | with_reducible refine r_bm ?_
  | with_reducible refine r_bm0 ?_
  | (with_reducible refine' And.intro (r_ty ?k1) ?_; (case k1 => walk_at "look"))
  | (with_reducible refine' r_append ?k1 ?k2 ?_; (case k1 => walk_at "look"); (case k2 => walk_at "sz"))
  | (with_reducible refine' r_lenK ?k1 ?_; (case k1 => walk_at "look"))
  | (with_reducible refine' r_listOf ?k1 ?_; (case k1 => walk_at "look"))
  | (with_reducible refine' r_sortedI ?k1 ?_; (case k1 => walk_at "look"))
  | (with_reducible refine' r_sum ?k1 ?_; (case k1 => walk_at "look"))
  | with_reducible refine r_int ?_
  | (with_reducible refine' r_draw (by assumption) ?k1 ?k2 ?_; (case k1 => omega); (case k2 => omega); intro R' n' o' h' h'')
  | with_reducible refine iteT ?_
  | with_reducible refine r_revL ?_
  | with_reducible refine r_lc ?_
  | with_reducible refine r_yes ?_
  | with_reducible refine r_sl ?_
  | with_reducible refine r_noPart ?_
  | with_reducible refine r_part ?_
  | with_reducible refine r_lc2 ?_
  | with_reducible refine r_callN ?_
  | with_reducible refine r_callD ?_
  | with_reducible refine r_tupE ?_
  | with_reducible refine r_rng2 ?_
  | with_reducible refine r_i1 ?_
  | (with_reducible refine' r_slL ?k1 ?_; (case k1 => walk_at "look"))
  | with_reducible refine r_for ?_
  | with_reducible refine r_iList ?_
  | with_reducible refine r_rng1 ?_
  | with_reducible refine r_enum ?_
  | (with_reducible show Ends.nx _ _ _; dsimp only)
  | (with_reducible show Ends.rt _ _ _; dsimp only)
  | (with_reducible show Ends.ct _ _ _; dsimp only)
  | (with_reducible show Ends.bk _ _ _; dsimp only))
local macro_rules | `(tactic| walk_at "go") => `(tactic| repeat (walk_at "st"))
local macro_rules | `(tactic| walk_at "begin") => `(tactic| dsimp only [cxOf, wipe, L2.start, List.map, List.length_cons, List.length_nil, Nat.reduceAdd, Nat.reduceSub, List.replicate, List.cons_append, List.nil_append])


def spTerms : Sp := fun vs H Q _ => ∃ (st g : Addr) (R : RS) (B : Hp) (r : Addr) (xs : List Str) (many : Int), vs = [.ref st, .ref r, .int many] ∧ H = rg st g R B ∧ Ok st g R B ∧ B r = some (.lst (xs.map V.str)) ∧ 1 ≤ xs.length ∧ xs.length ≤ 100 ∧ (∀ x ∈ xs, PyData.strOk x = true) ∧ 0 ≤ many ∧ many ≤ 100 ∧
  ∀ (R' : RS) (B' : Hp) (r' : Addr) (vs : List V), Ok st g R' B' → Same B B' → B' r' = some (.lst vs) → Tms B' 9 vs → 2 ≤ vs.length → vs.length ≤ 300 → Q (.ref r') (rg st g R' B')
theorem pmk_ok : ∀ x ∈ (["plus", "meet", "less"] : List Str), PyData.strOk x = true := by decide +kernel
section
variable {P : Program} {w : World} {K : PySem.W.Frag} {mg : Str → Option Value} {base : Heap}
theorem ok_terms {f f1 f2 f3 : Addr} {fd fd1 fd2 fd3 : FuncData} (B : Blt mg) (D : Dn K mg "_law_terms" s__law_terms ["state", "names", "many"] f fd) (D_law_draw : Dn K mg "_law_draw" s__law_draw ["state", "many"] f1 fd1)
    (G_law_draw : FnOk P w K mg base CX0 1 f1 fd1 ["state", "many"] spDraw) (D_law_pick : Dn K mg "_law_pick" s__law_pick ["state", "row"] f2 fd2) (G_law_pick : FnOk P w K mg base CX0 2 f2 fd2 ["state", "row"] spPick)
    (D_law_size : Dn K mg "_law_size" s__law_size ["tree"] f3 fd3) (G_law_size : FnOk P w K mg base CX0 31 f3 fd3 ["tree"] (spSize 30)) : FnOk P w K mg base CX0 32 f fd ["state", "names", "many"] spTerms := by
  refine D.F.ok sc__law_terms (fun vs H Q E h => ?_) (fun cdv A outer s H vs Q E hr h => ?_)
  · obtain ⟨st, g, R, B, r, xs, many, rfl, _⟩ := h
    rfl
  · obtain ⟨st, g, R, C, r, xs, many, rfl, rfl, o, ha, h1, h1', hok, h2, h3, q⟩ := h
    refine ⟨_, (pss_cons (ps_set (i := 3) sc__law_terms.nd rfl (.inl rfl) (pe_op op_cat (pe_lc (own := [("name", 9)]) rfl sc__law_terms.nd (pi_listK (K := K) rfl (pv 1)) (blkOk_by (own := [("name", 9)]) (by kernel_rfl))
        (fun _ _ _ _ _ => (pg_name (i := 9) sc__law_terms.nd rfl (.inl rfl))) (fun _ _ _ _ _ => pts_nil)
        (fun _ _ _ _ _ => (pe_tup (pa_cons pe_str (pa_cons (pv 9) pa_nil))))) (pe_lst (pa_cons (pe_tup (pa_cons pe_str pa_nil)) pa_nil))))
      (pss_cons (ps_for PassesOwn.never rfl (pi_range1 (by rfl) B.m_range (pa_cons (pv 2) pa_nil)) (pg_name (i := 4) sc__law_terms.nd rfl (.inl rfl)) (pss_cons (ps_set (i := 5) sc__law_terms.nd rfl (.inl rfl) (pe_call G_law_draw (hr.mono (by decide)) (by rfl) D_law_draw.g D_law_draw.F.kp D_law_draw.b .nil pass0 (pa_cons (pv 0) (pa_cons pe_int pa_nil))))
      (pss_cons (ps_set (i := 6) sc__law_terms.nd rfl (.inl rfl) (pe_call G_law_pick (hr.mono (by decide)) (by rfl) D_law_pick.g D_law_pick.F.kp D_law_pick.b .nil pass0 (pa_cons (pv 0) (pa_cons (pv 3) pa_nil))))
      (pss_cons (ps_set (i := 7) sc__law_terms.nd rfl (.inl rfl) (pe_call G_law_pick (hr.mono (by decide)) (by rfl) D_law_pick.g D_law_pick.F.kp D_law_pick.b .nil pass0 (pa_cons (pv 0) (pa_cons (pv 3) pa_nil))))
      (C8.pss_cut (ps_if (pt_cmpR op_lt (pv 5) pe_int (nomark _)) (pss_one (ps_set (i := 8) sc__law_terms.nd rfl (.inl rfl) (pe_tup (pa_cons pe_str (pa_cons (pv 6) pa_nil))))) (pss_one (ps_if (pt_cmpR op_lt (pv 5) pe_int (nomark _)) (pss_one (ps_set (i := 8) sc__law_terms.nd rfl (.inl rfl) (pe_tup (pa_cons (pe_ix (ix_listK (K := K) rfl) (pe_lst (pa_cons pe_str (pa_cons pe_str (pa_cons pe_str pa_nil)))) (pe_op op_sub (pv 5) pe_int) (fun _ _ => rfl)) (pa_cons (pv 6) (pa_cons (pv 7) pa_nil)))))) (pss_one (ps_if (pt_cmpR op_eq (pv 5) pe_int (nomark _)) (pss_one (ps_set (i := 8) sc__law_terms.nd rfl (.inl rfl) (pe_tup (pa_cons pe_str (pa_cons (pe_tup (pa_cons pe_str (pa_cons (pv 6) pa_nil))) (pa_cons (pe_tup (pa_cons pe_str (pa_cons (pv 7) pa_nil))) pa_nil)))))) (pss_one (ps_set (i := 8) sc__law_terms.nd rfl (.inl rfl) (pe_tup (pa_cons pe_str (pa_cons (pv 6) (pa_cons (pe_tup (pa_cons pe_str (pa_cons (pv 7) pa_nil))) pa_nil)))))))))))
      (pss_one (ps_if (pt_cmpR op_le (pe_call G_law_size (hr.mono (by decide)) (by rfl) D_law_size.g D_law_size.F.kp D_law_size.b .nil pass0 (pa_cons (pv 8) pa_nil)) pe_int (nomark _)) (pss_one (ps_expr (pe_bmK (K := K) rfl PySem.F.plainAttrs_list PySem.F.slot_list_append PySem.F.type_list_append mt_append (pv 3) (pa_cons (pv 8) pa_nil)))) pss_nil)))))))
      (pss_one (ps_ret (pv 3))))), ?_⟩
    walk_at "begin"
    walk_at "go"
    refine lcT_list (topRg st g) o ha (fun i C acc => Tms C 9 acc ∧ acc.length = i) ⟨Tms.nil, rfl⟩ ?_ ?_
    · rintro D2 i x R4 C4 acc o4 hD4 hS4 hx ⟨ht, hl⟩
      obtain ⟨z, rfl, hz⟩ : ∃ z, x = V.str z ∧ xs[i]? = some z := by
        rw [List.getElem?_map] at hx
        cases e : xs[i]? with
        | none => rw [e] at hx; cases hx
        | some z => rw [e] at hx; exact ⟨z, (Option.some.inj hx).symm, rfl⟩
      have hi : i < xs.length := (List.getElem?_eq_some_iff.mp hz).1
      walk_at "begin"
      walk_at "go"
      refine ⟨rfl, ?_⟩
      walk_at "go"
      refine ⟨by walk_at "len", fun p np => ?_⟩
      obtain ⟨e, o5, hD5, n5, ne5⟩ := newTD_eq (topRg st g) o4 hD4 np (.tup [.str "name", .str z])
      rw [e]
      refine lcN_put (topRg st g) o5 hD5 (hS4.trans (same_new n5)) (by omega) ⟨?_, by rw [List.length_append, hl]; rfl⟩
      exact (ht.keep (KT.of (same_new n5))).push (t := .nm z) ⟨p, rfl, upd_same, hok z (List.mem_of_getElem? hz)⟩ (show 1 ≤ 9 by decide)
    · rintro D2 R4 C4 acc o4 hB4 hD4 hS4 ⟨ht, hl⟩
      rw [List.length_map] at hl
      walk_at "go"
      refine ⟨by walk_at "len", fun p np => ?_⟩
      obtain ⟨e, o5, n5⟩ := newT_eq (topRg st g) o4 np (.tup [.str "none"])
      rw [e]
      clear e np
      walk_at "go"
      have hp : upd (upd C4 D2 (.lst acc)) p (.tup [.str "none"]) p = some (.tup [.str "none"]) := upd_same
      have hS5 := same_new (o := .tup [.str "none"]) n5
      have hD5 : upd (upd C4 D2 (.lst acc)) p (.tup [.str "none"]) D2 = some (.lst acc) := upd_old n5 upd_same
      have hSC := (hS4.trans (same_new (o := .lst acc) hD4)).trans hS5
      have ht5 : Tms (upd (upd C4 D2 (.lst acc)) p (.tup [.str "none"])) 9 acc := (ht.keep (KT.of (same_new hD4))).keep (KT.of hS5)
      generalize upd (upd C4 D2 (.lst acc)) p (.tup [.str "none"]) = C5 at hp hS5 hD5 hSC ht5 o5 ⊢
      refine ⟨by walk_at "len", fun l nl => ?_⟩
      obtain ⟨e, o6, n6⟩ := newT_eq (topRg st g) o5 nl (.lst [.ref p])
      rw [e]
      clear e nl
      have hl6 : upd C5 l (.lst [.ref p]) l = some (.lst [.ref p]) := upd_same
      have hS6 := same_new (o := .lst [.ref p]) n6
      generalize upd C5 l (.lst [.ref p]) = C6 at hl6 hS6 o6 ⊢
      refine r_cat (rg_get o6 (hS6 _ _ hD5)) (rg_get o6 hl6) (by rw [hl, List.length_singleton]; omega) fun t nt => ?_
      have ht6 : Tms C6 9 (acc ++ [.ref p]) := (ht5.keep (KT.of hS6)).push (tat0 (hS6 _ _ hp)) (show 1 + 0 ≤ 9 by decide)
      have hl2 : (acc ++ [V.ref p]).length = xs.length + 1 := by rw [List.length_append, hl]; rfl
      obtain ⟨e, o7, n7⟩ := newT_eq (topRg st g) o6 nt (.lst (acc ++ [.ref p]))
      rw [e]
      clear e nt
      generalize acc ++ [V.ref p] = ws at ht6 hl2 o7 ⊢
      replace hSC := hSC.trans hS6
      clear hD5 hp hS5 hS6 hl6 ht5 n6 n5 hD4 hS4 ht o4 o5
      walk_at "go"
      refine r_forR (by omega) (by omega) (fun i σ X => ∃ (R5 : RS) (C7 : Hp) (us : List V) (y1 y2 y3 y4 y5 : Option V), σ = [some (.ref st), some (.ref r), some (.int many), some (.ref t), y1, y2, y3, y4, y5, none] ∧ X = rg st g R5 (upd C7 t (.lst us)) ∧ Ok st g R5 (upd C7 t (.lst us)) ∧ C7 t = none ∧ Same C6 C7 ∧ Tms C7 9 us ∧ 2 ≤ us.length ∧ us.length ≤ 101 + i) ?_ ?_ ?_
      · exact ⟨_, C6, ws, none, none, none, none, none, rfl, rfl, o7, n7, Same.refl _, ht6, by omega, by omega⟩
      · rintro i σ X hi ⟨R5, C7, us, y1, y2, y3, y4, y5, rfl, rfl, o8, n8, hS8, ht8, hu1, hu2⟩
        walk_at "go"
        rename_i R6 kind o9 k1 k2
        refine ⟨st, g, R6, _, t, us, rfl, rfl, o9, upd_same, by omega, by omega, fun R7 i1 v1 o10 e1 => ?_⟩
        walk_at "go"
        refine ⟨st, g, R7, _, t, us, rfl, rfl, o10, upd_same, by omega, by omega, fun R8 i2 v2 o11 e2 => ?_⟩
        walk_at "go"
        obtain ⟨t1, hv1, hs1⟩ := ht8.at e1
        obtain ⟨t2, hv2, hs2⟩ := ht8.at e2
        have kX : KT C7 (rg st g R8 (upd C7 t (.lst us))) := fun b ys e => rg_get o11 (upd_old n8 e)
        replace hv1 := hv1.keep kX
        replace hv2 := hv2.keep kX
        generalize hX0 : rg st g R8 (upd C7 t (.lst us)) = X0 at hv1 hv2 ⊢
        refine ⟨fun σ HM => ∃ (v : V) (u : Tre), σ = [some (.ref st), some (.ref r), some (.int many), some (.ref t), some (.int i), some (.int kind), some v1, some v2, some v, none] ∧ Same X0 HM ∧ Tat HM v u ∧ u.deep ≤ 30, ?_, ?_⟩
        · have mk1 : ∀ {H : Hp} {v : V} {u : Tre}, Same X0 H → Tat H v u → ∀ p : Addr, H p = none → Tat (upd H p (.tup [.str "just", v])) (.ref p) (.nd "just" [u]) := fun _ hv p np => tat1 upd_same (hv.keep (kt_new np))
          have dj : ∀ {t : Tre}, t.size ≤ 9 → t.deep ≤ 9 := fun {t} h => Nat.le_trans t.deep_le_size h
          have d1 : ∀ (k : Str) (t : Tre) (n : Nat), t.deep ≤ n → (Tre.nd k [t]).deep ≤ n + 1 := fun k t n h => by show 1 + max t.deep 0 ≤ n + 1; omega
          have d2 : ∀ (k : Str) (t u : Tre) (n : Nat), t.deep ≤ n → u.deep ≤ n → (Tre.nd k [t, u]).deep ≤ n + 1 := fun k t u n h h' => by show 1 + max t.deep (max u.deep 0) ≤ n + 1; omega
          walk_at "go"
          refine r_ite (fun _ => ?_) (fun hk => ?_)
          · walk_at "go"
            refine ⟨by walk_at "len", fun p np => ?_⟩
            walk_at "go"
            exact ⟨_, _, rfl, same_new np, tat1 upd_same (hv1.keep (kt_new np)), Nat.le_trans (d1 _ _ _ (dj hs1)) (by decide)⟩
          · walk_at "go"
            refine r_ite (fun hk2 => ?_) (fun hk2 => ?_)
            · walk_at "go"
              refine ⟨by walk_at "len", fun p np => ?_⟩
              walk_at "go"
              obtain ⟨x, hxe, hx2⟩ := str_at (xs := ["plus", "meet", "less"]) (z := kind - 3) (by omega) (by show kind - 3 < 3; omega)
              refine r_ixL upd_same hx2 ?_
              walk_at "go"
              refine ⟨by walk_at "len", fun p2 np2 => ?_⟩
              walk_at "go"
              have kt := (kt_new np).trans (kt_new (x := .tup [.str x, v1, v2]) np2)
              exact ⟨_, _, rfl, (same_new np).trans (same_new np2), tat2 upd_same (hv1.keep kt) (hv2.keep kt) (pmk_ok x hxe), Nat.le_trans (d2 _ _ _ _ (dj hs1) (dj hs2)) (by decide)⟩
            · walk_at "go"
              refine r_ite (fun hk3 => ?_) (fun hk3 => ?_)
              · walk_at "go"
                refine ⟨by walk_at "len", fun p np => ?_⟩
                walk_at "go"
                refine ⟨by walk_at "len", fun p2 np2 => ?_⟩
                walk_at "go"
                refine ⟨by walk_at "len", fun p3 np3 => ?_⟩
                walk_at "go"
                have a1 := (tat1 (k := "just") (upd_same (H := X0) (a := p)) (hv1.keep (kt_new np))).keep ((kt_new np2).trans (kt_new (x := .tup [.str "plus", .ref p, .ref p2]) np3))
                have a2 := (tat1 (k := "just") (upd_same (a := p2)) (hv2.keep ((kt_new np).trans (kt_new np2)))).keep (kt_new (x := .tup [.str "plus", .ref p, .ref p2]) np3)
                exact ⟨_, _, rfl, ((same_new np).trans (same_new np2)).trans (same_new np3), tat2 upd_same a1 a2, Nat.le_trans (d2 _ _ _ _ (d1 _ _ _ (dj hs1)) (d1 _ _ _ (dj hs2))) (by decide)⟩
              · walk_at "go"
                refine ⟨by walk_at "len", fun p2 np2 => ?_⟩
                walk_at "go"
                refine ⟨by walk_at "len", fun p3 np3 => ?_⟩
                walk_at "go"
                have a2 := (tat1 (k := "just") (upd_same (H := X0) (a := p2)) (hv2.keep (kt_new np2))).keep (kt_new (x := .tup [.str "plus", v1, .ref p2]) np3)
                exact ⟨_, _, rfl, (same_new np2).trans (same_new np3), tat2 upd_same (hv1.keep ((kt_new np2).trans (kt_new np3))) a2, Nat.le_trans (d2 _ _ _ _ (Nat.le_succ_of_le (dj hs1)) (d1 _ _ _ (dj hs2))) (by decide)⟩
        · rintro σ HM ⟨v, u, rfl, hSM, hv, hdu⟩
          walk_at "go"
          refine ⟨_, u, rfl, hv, hdu, fun H2 hS2 => ?_⟩
          walk_at "go"
          subst hX0
          obtain ⟨C9, rfl, o12, hS12⟩ := rg_same o11 (hSM.trans hS2)
          obtain ⟨C10, rfl, n12, hS13⟩ := lay_same n8 hS12
          have hv' : Tat C10 v u := hv.keep ((KT.of hS2).trans (kt_rg.trans kt_lst))
          have ht10 := ht8.keep (KT.of hS13)
          have hpt : upd C10 t (.lst us) t = some (.lst us) := upd_same
          have hsz : us.length < sizeLine := small (by omega)
          refine r_ite (fun hz => ?_) (fun hz => ?_)
          · walk_at "go"
            have e := rg_write (o := .lst (us ++ [v])) o12 hpt
            rw [upd_upd] at e
            exact ⟨R8, C10, us ++ [v], _, _, _, _, _, rfl, e.1, e.2, n12, hS8.trans hS13, ht10.push hv' (by omega), by rw [List.length_append, List.length_singleton]; omega, by rw [List.length_append, List.length_singleton]; omega⟩
          · walk_at "go"
            exact ⟨R8, C10, us, _, _, _, _, _, rfl, rfl, o12, n12, hS8.trans hS13, ht10, hu1, by omega⟩
      · rintro σ X ⟨R5, C7, us, y1, y2, y3, y4, y5, rfl, rfl, o8, n8, hS8, ht8, hu1, hu2⟩
        walk_at "go"
        exact q _ _ t us o8 ((hSC.trans hS8).trans (same_new n8)) upd_same (ht8.keep (KT.of (same_new n8))) hu1 (by omega)

end
end K53
namespace K53
open PySem PySem.Spec PyProof.Rows L2 Lw


local macro_rules | `(tactic| walk_at "look") => `(tactic| first
  | assumption
  | with_reducible exact upd_same
  | with_reducible exact rg_st
  | with_reducible exact rg_g (by assumption)
  | (with_reducible refine upd_old (by assumption) ?_; walk_at "look")
  | (with_reducible refine rg_get (by assumption) ?_; walk_at "look")
  | (with_reducible refine Same.get (by assumption) ?_; walk_at "look"))
local macro_rules | `(tactic| walk_at "cond") => `(tactic| first
  | (show _ ≠ _; omega) | exact cdivN (by omega) (by omega) | exact cmul_mod (by decide) (by decide) | exact cmulR (by omega) (by omega) | exact cmulL (by omega) (by omega) | exact cpow (by omega) (by omega) (by omega) (by omega) | (show (0:Int) ≤ _; omega))
local macro_rules | `(tactic| walk_at "at") => `(tactic| first | assumption | with_unfolding_all rfl)
local macro_rules | `(tactic| walk_at "sz") => `(tactic| first | assumption | (refine small ?_; omega) | (refine small ?_; simp only [List.length_map, List.length_append, List.length_cons, List.length_nil]; omega))
local macro_rules | `(tactic| walk_at "len") => `(tactic| first | exact size_nil | exact Nat.le_of_lt (small (by simp only [List.length_cons, List.length_nil, List.length_map]; omega)))
local macro_rules | `(tactic| walk_at "newD") => `(tactic| (refine ⟨by walk_at "len", fun p np => ?_⟩; obtain ⟨e, o', hD', n', ne'⟩ := newTD_eq (topRg _ _) (by assumption) (by assumption) np (.lst _); rw [e]; clear e))
local macro_rules | `(tactic| walk_at "new") => `(tactic| (refine ⟨by walk_at "len", fun p np => ?_⟩; obtain ⟨e, o', n'⟩ := newT_eq (topRg _ _) (by assumption) np (.lst _); rw [e]; clear e))
local macro_rules | `(tactic| walk_at "st") => `(tactic| first
  | with_reducible refine r_seq ?_
  | with_reducible refine r_var rfl ?_
  | with_reducible refine r_c ?_
  | with_reducible refine r_asg ?_
  | (with_reducible refine r_name ?_; dsimp only [List.set_cons_zero, List.set_cons_succ])
  | with_reducible refine r_sub ?_
  | with_reducible refine r_op ?_
  | with_reducible refine r_i0 ?_
  | (with_reducible refine' r_i ?k1 ?_; (case k1 => walk_at "cond"))
  | with_reducible refine r_cons ?_
  | with_reducible refine r_nil ?_
  | with_reducible refine r_cb ?_
  | with_reducible refine r_call ?_
  | with_reducible refine r_ifs ?_
  | with_reducible refine r_test ?_
  | with_reducible refine r_tB ?_
  | with_reducible refine r_bl ?_
  | with_reducible refine r_ret ?_
  | with_reducible refine r_drop ?_
  | with_reducible refine r_next ?_
  | (with_reducible refine' r_ixL ?k1 ?k2 ?_; (case k1 => walk_at "look"); (case k2 => walk_at "at"))
  | (with_reducible refine' r_setL ?k1 ?k2 ?_; (case k1 => walk_at "look"); (case k2 => walk_at "at"))
  | (with_reducible refine' r_tup (SqT.of ?k1) ?k2 ?_; (case k1 => walk_at "look"); (case k2 => rfl))
  | with_reducible refine r_gcons ?_
  | with_reducible refine r_gnil ?_
  | with_reducible refine r_aug rfl ?_
  | with_reducible refine r_augS ?_
  | with_reducible refine r_ipI ?_
  | with_reducible refine r_un ?_
  | with_reducible refine r_u ?_
  | with_reducible refine r_eq rfl ?_
  | with_reducible refine r_ne rfl ?_
  | with_reducible refine r_chain ?_
  | with_reducible refine iteF ?_
  | with_reducible refine r_not ?_
  | with_reducible refine r_and ?_
  | with_reducible refine r_or ?_
  | with_reducible refine r_andV ?_
  | with_reducible refine r_orV ?_
  | with_reducible refine r_notV ?_
  | with_reducible refine r_lst ?_
  | with_reducible refine r_bm ?_
  | with_reducible refine r_bm0 ?_
  | (with_reducible refine' And.intro (r_ty ?k1) ?_; (case k1 => walk_at "look"))
  | (with_reducible refine' r_append ?k1 ?k2 ?_; (case k1 => walk_at "look"); (case k2 => walk_at "sz"))
  | (with_reducible refine' r_lenK ?k1 ?_; (case k1 => walk_at "look"))
  | (with_reducible refine' r_listOf ?k1 ?_; (case k1 => walk_at "look"))
  | (with_reducible refine' r_sortedI ?k1 ?_; (case k1 => walk_at "look"))
  | (with_reducible refine' r_sum ?k1 ?_; (case k1 => walk_at "look"))
  | with_reducible refine r_int ?_
  | (with_reducible refine' r_draw (by assumption) ?k1 ?k2 ?_; (case k1 => omega); (case k2 => omega); intro R' n' o' h' h'')
  | with_reducible refine iteT ?_
  | with_reducible refine r_revL ?_
  | with_reducible refine r_lc ?_
  | with_reducible refine r_yes ?_
  | with_reducible refine r_sl ?_
  | with_reducible refine r_noPart ?_
  | with_reducible refine r_part ?_
  | with_reducible refine r_lc2 ?_
  | with_reducible refine r_callN ?_
  | with_reducible refine r_callD ?_
  | with_reducible refine r_tupE ?_
  | with_reducible refine r_rng2 ?_
  | with_reducible refine r_i1 ?_
  | (with_reducible refine' r_slL ?k1 ?_; (case k1 => walk_at "look"))
  | with_reducible refine r_for ?_
  | with_reducible refine r_iList ?_
  | with_reducible refine r_rng1 ?_
  | with_reducible refine r_enum ?_
  | (with_reducible show Ends.nx _ _ _; dsimp only)
  | (with_reducible show Ends.rt _ _ _; dsimp only)
  | (with_reducible show Ends.ct _ _ _; dsimp only)
  | (with_reducible show Ends.bk _ _ _; dsimp only))
local macro_rules | `(tactic| walk_at "go") => `(tactic| repeat (walk_at "st"))
local macro_rules | `(tactic| walk_at "begin") => `(tactic| dsimp only [cxOf, wipe, L2.start, List.map, List.length_cons, List.length_nil, Nat.reduceAdd, Nat.reduceSub, List.replicate, List.cons_append, List.nil_append])


def spSay (d : Nat) : Sp := fun vs H Q _ => ∃ (st g : Addr) (R : RS) (B : Hp) (r : Addr) (us : List V), vs = [.ref st, .ref r] ∧ H = rg st g R B ∧ Ok st g R B ∧ B r = some (.lst us) ∧ Tms B 9 us ∧ 1 ≤ us.length ∧ us.length ≤ 100000 ∧
  ∀ (R' : RS) (B' : Hp) (v : V) (t : Tre), Ok st g R' B' → Same B B' → Tat B' v t → t.deep ≤ d → Q v (rg st g R' B')
theorem dp1 (k : Str) (t : Tre) (n : Nat) (h : t.deep ≤ n) : (Tre.nd k [t]).deep ≤ n + 1 := by show 1 + max t.deep 0 ≤ n + 1; omega
theorem dp2 (k : Str) (t u : Tre) (n : Nat) (h : t.deep ≤ n) (h' : u.deep ≤ n) : (Tre.nd k [t, u]).deep ≤ n + 1 := by show 1 + max t.deep (max u.deep 0) ≤ n + 1; omega
theorem dps {t : Tre} (h : t.size ≤ 9) : t.deep ≤ 9 := Nat.le_trans t.deep_le_size h
theorem w1_ok : ∀ x ∈ (["inside", "has", "is"] : List Str), PyData.strOk x = true := by decide +kernel
theorem w2_ok : ∀ x ∈ (["and", "or", "then"] : List Str), PyData.strOk x = true := by decide +kernel
theorem w3_ok : ∀ x ∈ (["same", "same", "in", "in", "within", "within"] : List Str), PyData.strOk x = true := by decide +kernel
theorem w4_ok : ∀ x ∈ (["each", "some"] : List Str), PyData.strOk x = true := by decide +kernel
section
variable {P : Program} {w : World} {K : PySem.W.Frag} {mg : Str → Option Value} {base : Heap}
theorem ok_body {f f1 f2 : Addr} {fd fd1 fd2 : FuncData} (B : Blt mg) (D : Dn K mg "_law_body" s__law_body ["state", "terms"] f fd) (D_law_draw : Dn K mg "_law_draw" s__law_draw ["state", "many"] f1 fd1)
    (G_law_draw : FnOk P w K mg base CX0 1 f1 fd1 ["state", "many"] spDraw) (D_law_pick : Dn K mg "_law_pick" s__law_pick ["state", "row"] f2 fd2) (G_law_pick : FnOk P w K mg base CX0 2 f2 fd2 ["state", "row"] spPick) :
    FnOk P w K mg base CX0 3 f fd ["state", "terms"] (spSay 11) := by
  refine D.F.ok sc__law_body (fun vs H Q E h => ?_) (fun cdv A outer s H vs Q E hr h => ?_)
  · obtain ⟨st, g, R, B, r, us, rfl, _⟩ := h
    rfl
  · obtain ⟨st, g, R, C, r, us, rfl, rfl, o, ha, ht, h1, h2, q⟩ := h
    refine ⟨_, (pss_cons (ps_set (i := 2) sc__law_body.nd rfl (.inl rfl) (pe_tup (pa_cons (pe_ix (ix_listK (K := K) rfl) (pe_lst (pa_cons pe_str (pa_cons pe_str (pa_cons pe_str pa_nil)))) (pe_call G_law_draw (hr.mono (by decide)) (by rfl) D_law_draw.g D_law_draw.F.kp D_law_draw.b .nil pass0 (pa_cons (pv 0) (pa_cons pe_int pa_nil))) (fun _ _ => rfl)) (pa_cons (pe_call G_law_pick (hr.mono (by decide)) (by rfl) D_law_pick.g D_law_pick.F.kp D_law_pick.b .nil pass0 (pa_cons (pv 0) (pa_cons (pv 1) pa_nil))) pa_nil))))
      (pss_cons (ps_set (i := 3) sc__law_body.nd rfl (.inl rfl) (pe_tup (pa_cons (pe_ix (ix_listK (K := K) rfl) (pe_lst (pa_cons pe_str (pa_cons pe_str (pa_cons pe_str pa_nil)))) (pe_call G_law_draw (hr.mono (by decide)) (by rfl) D_law_draw.g D_law_draw.F.kp D_law_draw.b .nil pass0 (pa_cons (pv 0) (pa_cons pe_int pa_nil))) (fun _ _ => rfl)) (pa_cons (pe_call G_law_pick (hr.mono (by decide)) (by rfl) D_law_pick.g D_law_pick.F.kp D_law_pick.b .nil pass0 (pa_cons (pv 0) (pa_cons (pv 1) pa_nil))) pa_nil))))
      (pss_cons (ps_set (i := 4) sc__law_body.nd rfl (.inl rfl) (pe_call G_law_draw (hr.mono (by decide)) (by rfl) D_law_draw.g D_law_draw.F.kp D_law_draw.b .nil pass0 (pa_cons (pv 0) (pa_cons pe_int pa_nil))))
      (pss_cons (ps_if (pt_cmpR op_lt (pv 4) pe_int (nomark _)) (pss_one (ps_ret (pv 2))) pss_nil)
      (pss_cons (ps_if (pt_cmpR op_eq (pv 4) pe_int (nomark _)) (pss_one (ps_ret (pe_tup (pa_cons pe_str (pa_cons (pv 2) pa_nil))))) pss_nil)
      (pss_one (ps_ret (pe_tup (pa_cons (pe_ix (ix_listK (K := K) rfl) (pe_lst (pa_cons pe_str (pa_cons pe_str (pa_cons pe_str pa_nil)))) (pe_op op_sub (pv 4) pe_int) (fun _ _ => rfl)) (pa_cons (pv 2) (pa_cons (pv 3) pa_nil))))))))))), ?_⟩
    walk_at "begin"
    walk_at "go"
    refine ⟨by walk_at "len", fun p np_ => ?_⟩
    generalize e_ : upd (rg _ _ _ _) p _ = X_
    obtain ⟨C1, rfl, o1, hS, hp, n1⟩ := newX (by assumption) np_ e_
    clear np_
    walk_at "go"
    rename_i R1 k o2 k1 k2
    obtain ⟨x, hxe, hx⟩ := str_at (xs := ["inside", "has", "is"]) k1 k2
    refine r_ixL (rg_get o2 hp) hx ?_
    walk_at "go"
    refine ⟨st, g, R1, C1, r, us, rfl, rfl, o2, hS _ _ ha, h1, h2, fun R2 i1 v1 o3 e1 => ?_⟩
    walk_at "go"
    refine ⟨by walk_at "len", fun p2 np_ => ?_⟩
    generalize e_ : upd (rg _ _ _ _) p2 _ = X_
    obtain ⟨C2, rfl, o4, hS2, hp2, n2⟩ := newX (by assumption) np_ e_
    clear np_
    walk_at "go"
    refine ⟨by walk_at "len", fun p3 np_ => ?_⟩
    generalize e_ : upd (rg _ _ _ _) p3 _ = X_
    obtain ⟨C3, rfl, o5, hS3, hp3, n3⟩ := newX (by assumption) np_ e_
    clear np_
    walk_at "go"
    rename_i R4 kb o6 kb1 kb2
    obtain ⟨y, hye, hy⟩ := str_at (xs := ["inside", "has", "is"]) kb1 kb2
    refine r_ixL (rg_get o6 hp3) hy ?_
    walk_at "go"
    refine ⟨st, g, R4, C3, r, us, rfl, rfl, o6, hS3 _ _ (hS2 _ _ (hS _ _ ha)), h1, h2, fun R5 i2 v2 o7 e2 => ?_⟩
    walk_at "go"
    refine ⟨by walk_at "len", fun p4 np_ => ?_⟩
    generalize e_ : upd (rg _ _ _ _) p4 _ = X_
    obtain ⟨C4, rfl, o8, hS4, hp4, n4⟩ := newX (by assumption) np_ e_
    clear np_
    walk_at "go"
    rename_i R6 kk o9 kk1 kk2
    obtain ⟨t1, hv1, hs1⟩ := ht.at e1
    obtain ⟨t2, hv2, hs2⟩ := ht.at e2
    have sC := ((hS.trans hS2).trans hS3).trans hS4
    have a1 : Tat C4 (.ref p2) (.nd x [t1]) := tat1 (hS4 _ _ (hS3 _ _ hp2)) (hv1.keep (KT.of sC)) (w1_ok x hxe)
    have a2 : Tat C4 (.ref p4) (.nd y [t2]) := tat1 hp4 (hv2.keep (KT.of sC)) (w1_ok y hye)
    have d1 := dp1 x _ _ (dps hs1)
    have d2 := dp1 y _ _ (dps hs2)
    refine r_ite (fun hk => ?_) (fun hk => ?_)
    · walk_at "go"
      exact q _ _ _ _ o9 sC a1 (Nat.le_trans d1 (by decide))
    · walk_at "go"
      refine r_ite (fun hk2 => ?_) (fun hk2 => ?_)
      · walk_at "go"
        refine ⟨by walk_at "len", fun p5 np_ => ?_⟩
        generalize e_ : upd (rg _ _ _ _) p5 _ = X_
        obtain ⟨C5, rfl, o10, hS5, hp5, n5⟩ := newX (by assumption) np_ e_
        clear np_
        walk_at "go"
        exact q _ _ _ _ o10 (sC.trans hS5) (tat1 hp5 (a1.keep (KT.of hS5))) (Nat.le_trans (dp1 _ _ _ d1) (by decide))
      · walk_at "go"
        refine ⟨by walk_at "len", fun p5 np_ => ?_⟩
        generalize e_ : upd (rg _ _ _ _) p5 _ = X_
        obtain ⟨C5, rfl, o10, hS5, hp5, n5⟩ := newX (by assumption) np_ e_
        clear np_
        walk_at "go"
        have hk3 : ¬ kk = 2 := fun e => hk2 (by rw [e])
        obtain ⟨z, hze, hz⟩ := str_at (xs := ["and", "or", "then"]) (z := kk - 3) (by omega) (by show kk - 3 < 3; omega)
        refine r_ixL (rg_get o10 hp5) hz ?_
        walk_at "go"
        refine ⟨by walk_at "len", fun p6 np_ => ?_⟩
        generalize e_ : upd (rg _ _ _ _) p6 _ = X_
        obtain ⟨C6, rfl, o11, hS6, hp6, n6⟩ := newX (by assumption) np_ e_
        clear np_
        walk_at "go"
        have s2 := hS5.trans hS6
        exact q _ _ _ _ o11 (sC.trans s2) (tat2 hp6 (a1.keep (KT.of s2)) (a2.keep (KT.of s2)) (w2_ok z hze)) (Nat.le_trans (dp2 _ _ _ _ d1 d2) (by decide))

theorem ok_fact {f f1 f2 f3 : Addr} {fd fd1 fd2 fd3 : FuncData} (B : Blt mg) (D : Dn K mg "_law_fact" s__law_fact ["state", "terms"] f fd) (D_law_draw : Dn K mg "_law_draw" s__law_draw ["state", "many"] f1 fd1)
    (G_law_draw : FnOk P w K mg base CX0 1 f1 fd1 ["state", "many"] spDraw) (D_law_pick : Dn K mg "_law_pick" s__law_pick ["state", "row"] f2 fd2) (G_law_pick : FnOk P w K mg base CX0 2 f2 fd2 ["state", "row"] spPick)
    (D_law_body : Dn K mg "_law_body" s__law_body ["state", "terms"] f3 fd3) (G_law_body : FnOk P w K mg base CX0 3 f3 fd3 ["state", "terms"] (spSay 11)) :
    FnOk P w K mg base CX0 4 f fd ["state", "terms"] (spSay 12) := by
  refine D.F.ok sc__law_fact (fun vs H Q E h => ?_) (fun cdv A outer s H vs Q E hr h => ?_)
  · obtain ⟨st, g, R, B, r, us, rfl, _⟩ := h
    rfl
  · obtain ⟨st, g, R, C, r, us, rfl, rfl, o, ha, ht, h1, h2, q⟩ := h
    refine ⟨_, (pss_cons (ps_set (i := 2) sc__law_fact.nd rfl (.inl rfl) (pe_call G_law_pick (hr.mono (by decide)) (by rfl) D_law_pick.g D_law_pick.F.kp D_law_pick.b .nil pass0 (pa_cons (pv 0) (pa_cons (pv 1) pa_nil))))
      (pss_cons (ps_set (i := 3) sc__law_fact.nd rfl (.inl rfl) (pe_call G_law_pick (hr.mono (by decide)) (by rfl) D_law_pick.g D_law_pick.F.kp D_law_pick.b .nil pass0 (pa_cons (pv 0) (pa_cons (pv 1) pa_nil))))
      (pss_cons (ps_set (i := 4) sc__law_fact.nd rfl (.inl rfl) (pe_call G_law_draw (hr.mono (by decide)) (by rfl) D_law_draw.g D_law_draw.F.kp D_law_draw.b .nil pass0 (pa_cons (pv 0) (pa_cons pe_int pa_nil))))
      (pss_cons (ps_if (pt_cmpR op_lt (pv 4) pe_int (nomark _)) (pss_one (ps_ret (pe_tup (pa_cons (pe_ix (ix_listK (K := K) rfl) (pe_lst (pa_cons pe_str (pa_cons pe_str (pa_cons pe_str (pa_cons pe_str (pa_cons pe_str (pa_cons pe_str pa_nil))))))) (pv 4) (fun _ _ => rfl)) (pa_cons (pv 2) (pa_cons (pv 3) pa_nil)))))) pss_nil)
      (pss_one (ps_ret (pe_tup (pa_cons (pe_ix (ix_listK (K := K) rfl) (pe_lst (pa_cons pe_str (pa_cons pe_str pa_nil))) (pe_op op_sub (pv 4) pe_int) (fun _ _ => rfl)) (pa_cons (pv 2) (pa_cons (pe_call G_law_body (hr.mono (by decide)) (by rfl) D_law_body.g D_law_body.F.kp D_law_body.b .nil pass0 (pa_cons (pv 0) (pa_cons (pv 1) pa_nil))) pa_nil)))))))))), ?_⟩
    walk_at "begin"
    walk_at "go"
    refine ⟨st, g, R, C, r, us, rfl, rfl, o, ha, h1, h2, fun R1 i1 v1 o1 e1 => ?_⟩
    walk_at "go"
    refine ⟨st, g, R1, C, r, us, rfl, rfl, o1, ha, h1, h2, fun R2 i2 v2 o2 e2 => ?_⟩
    walk_at "go"
    rename_i R3 kk o3 kk1 kk2
    obtain ⟨t1, hv1, hs1⟩ := ht.at e1
    obtain ⟨t2, hv2, hs2⟩ := ht.at e2
    refine r_ite (fun hk => ?_) (fun hk => ?_)
    · walk_at "go"
      refine ⟨by walk_at "len", fun p5 np_ => ?_⟩
      generalize e_ : upd (rg _ _ _ _) p5 _ = X_
      obtain ⟨C5, rfl, o5, hS5, hp5, n5⟩ := newX (by assumption) np_ e_
      clear np_
      walk_at "go"
      obtain ⟨z, hze, hz⟩ := str_at (xs := ["same", "same", "in", "in", "within", "within"]) kk1 (by show kk < 6; omega)
      refine r_ixL (rg_get o5 hp5) hz ?_
      walk_at "go"
      refine ⟨by walk_at "len", fun p6 np_ => ?_⟩
      generalize e_ : upd (rg _ _ _ _) p6 _ = X_
      obtain ⟨C6, rfl, o6, hS6, hp6, n6⟩ := newX (by assumption) np_ e_
      clear np_
      walk_at "go"
      have s2 := hS5.trans hS6
      exact q _ _ _ _ o6 s2 (tat2 hp6 (hv1.keep (KT.of s2)) (hv2.keep (KT.of s2)) (w3_ok z hze)) (Nat.le_trans (dp2 _ _ _ _ (dps hs1) (dps hs2)) (by decide))
    · walk_at "go"
      refine ⟨by walk_at "len", fun p5 np_ => ?_⟩
      generalize e_ : upd (rg _ _ _ _) p5 _ = X_
      obtain ⟨C5, rfl, o5, hS5, hp5, n5⟩ := newX (by assumption) np_ e_
      clear np_
      walk_at "go"
      obtain ⟨z, hze, hz⟩ := str_at (xs := ["each", "some"]) (z := kk - 6) (by omega) (by show kk - 6 < 2; omega)
      refine r_ixL (rg_get o5 hp5) hz ?_
      walk_at "go"
      refine ⟨st, g, R3, C5, r, us, rfl, rfl, o5, hS5 _ _ ha, ht.keep (KT.of hS5), h1, h2, fun R6 C7 v t o7 hS7 hv hd => ?_⟩
      walk_at "go"
      refine ⟨by walk_at "len", fun p6 np_ => ?_⟩
      generalize e_ : upd (rg _ _ _ _) p6 _ = X_
      obtain ⟨C6, rfl, o6, hS6, hp6, n6⟩ := newX (by assumption) np_ e_
      clear np_
      walk_at "go"
      have s2 := (hS5.trans hS7).trans hS6
      exact q _ _ _ _ o6 s2 (tat2 hp6 (hv1.keep (KT.of s2)) (hv.keep (KT.of hS6)) (w4_ok z hze)) (Nat.le_trans (dp2 _ _ _ _ (Nat.le_trans (dps hs1) (by decide)) hd) (by decide))

theorem ok_piece {f f1 f2 : Addr} {fd fd1 fd2 : FuncData} (B : Blt mg) (D : Dn K mg "_law_piece" s__law_piece ["state", "terms"] f fd) (D_law_draw : Dn K mg "_law_draw" s__law_draw ["state", "many"] f1 fd1)
    (G_law_draw : FnOk P w K mg base CX0 1 f1 fd1 ["state", "many"] spDraw)
    (D_law_fact : Dn K mg "_law_fact" s__law_fact ["state", "terms"] f2 fd2) (G_law_fact : FnOk P w K mg base CX0 4 f2 fd2 ["state", "terms"] (spSay 12)) :
    FnOk P w K mg base CX0 5 f fd ["state", "terms"] (spSay 13) := by
  refine D.F.ok sc__law_piece (fun vs H Q E h => ?_) (fun cdv A outer s H vs Q E hr h => ?_)
  · obtain ⟨st, g, R, B, r, us, rfl, _⟩ := h
    rfl
  · obtain ⟨st, g, R, C, r, us, rfl, rfl, o, ha, ht, h1, h2, q⟩ := h
    refine ⟨_, (pss_cons (ps_set (i := 2) sc__law_piece.nd rfl (.inl rfl) (pe_call G_law_fact (hr.mono (by decide)) (by rfl) D_law_fact.g D_law_fact.F.kp D_law_fact.b .nil pass0 (pa_cons (pv 0) (pa_cons (pv 1) pa_nil))))
      (pss_cons (ps_if (pt_cmpR op_eq (pe_call G_law_draw (hr.mono (by decide)) (by rfl) D_law_draw.g D_law_draw.F.kp D_law_draw.b .nil pass0 (pa_cons (pv 0) (pa_cons pe_int pa_nil))) pe_int (nomark _)) (pss_one (ps_ret (pe_tup (pa_cons pe_str (pa_cons (pv 2) pa_nil))))) pss_nil)
      (pss_one (ps_ret (pv 2))))), ?_⟩
    walk_at "begin"
    walk_at "go"
    refine ⟨st, g, R, C, r, us, rfl, rfl, o, ha, ht, h1, h2, fun R6 C7 v t o7 hS7 hv hd => ?_⟩
    walk_at "go"
    rename_i R3 kk o3 kk1 kk2
    refine r_ite (fun hk => ?_) (fun hk => ?_)
    · walk_at "go"
      refine ⟨by walk_at "len", fun p5 np_ => ?_⟩
      generalize e_ : upd (rg _ _ _ _) p5 _ = X_
      obtain ⟨C5, rfl, o5, hS5, hp5, n5⟩ := newX (by assumption) np_ e_
      clear np_
      walk_at "go"
      exact q _ _ _ _ o5 (hS7.trans hS5) (tat1 hp5 (hv.keep (KT.of hS5))) (dp1 _ _ _ hd)
    · walk_at "go"
      exact q _ _ _ _ o3 hS7 hv (Nat.le_succ_of_le hd)

end
end K53
/-! instances with a dict: fields, methods within a try, classmethods, a class held by a local; keys of a dict -/
namespace L2
open PySem PySem.Spec PyProof.Rows
/-- o.m(e, ..) where what is raised is wished for at the caller's slots -/
def tMethT (C : Addr) (m : Str) (sp : Sp) (E : St → XK) (ta : TE) (t : TA) : TE := fun σ H Q => ta σ H fun x H1 => ∃ a dx fs, x = .ref a ∧ H1 a = some (.ins C dx fs) ∧ fs.lookup m = none ∧ t σ H1 fun vs H2 => sp (x :: vs) H2 Q (E σ)
/-- a classmethod, likewise -/
def tCMethT (C : Addr) (sp : Sp) (E : St → XK) (ta : TE) (t : TA) : TE := fun σ H Q => ta σ H fun x H1 => x = .ref C ∧ t σ H1 fun vs H2 => sp (.ref C :: vs) H2 Q (E σ)
/-- the class that a local holds, called without arguments -/
def tMakeL (i : Nat) (C : Addr) (sp : Sp) (dvs : List V) (E : XK) : TE := fun σ H Q => σ[i]? = some (some (.ref C)) ∧ ∀ x dx, H x = none → H dx = none → dx ≠ x →
  sp (.ref x :: dvs) (upd (upd H dx (.own x)) x (.ins C dx [])) (fun v H2 => v = .non ∧ Q (.ref x) H2) E
section
variable {X : Cx} {CX : CXT} {k i : Nat} {f C p g : Addr} {fd : FuncData} {ps : List Str} {sp : Sp} {dvs : List V} {ds : List Value} {m : Str} {pos apos np : Pos} {e o : Expr} {es : List Expr} {ta : TE} {t : TA} {pl : Sem Bool} {mc : Value}
theorem pe_methT {E : St → XK} (he : PE X o ta) (c : Cls X.K C) (hm : Meth X.K C m f)
    (F : FnOk X.prog X.w X.K X.mg X.base CX k f fd ps sp) (hr : Room k X.A) (hb : Binds X.K fd ps []) (hx : ∀ σ, PassesAt CX X σ (E σ)) (ha : PA X (e :: es) t)
    (hst : starEach (e :: es) X.env = (false, eval e X.env) :: starEach es X.env := by rfl) (hpl : (backTo pos (starEach es X.env)).any (·.1) = false := by rfl)
    (ht : eval (.Call (.Attribute o m apos) (e :: es) [] pos) X.env = (do
      let ov ← eval o X.env
      standAt apos.atName
      let (f, first) ← holding [ov] (getMethod ov m pl)
      callWith pos f first (backTo pos (starEach (e :: es) X.env)) (backToKw pos (keywordEach [] X.env))) := by rfl) :
    PE X (.Call (.Attribute o m apos) (e :: es) [] pos) (tMethT C m sp E ta t) := by
  refine ⟨fun pins s σ H Q I h => ?_⟩
  refine PySem.W.methodCall_KW (pl := pl) (thn (he.run pins s σ H _ I h) fun u s1 ⟨x, H1, I1, rx, a, dx, fs, ex, ea, l, q⟩ => ?_) ht
  subst ex
  obtain rfl : u = Value.ref a := rx
  refine getmeth_ok I1 ea c hm l ?_
  refine PySem.W.callWith_K (first := [.ref a]) (h₀ := X.base) I.ok.mod.kin hm.kp (thn (ha.run pos pins s1 σ H1 _ I1 q) fun us s2 ⟨vs, H2, I2, r, q2⟩ => ⟨I2.kIn, ?_⟩) hst hpl
  exact run_fnS (us := .ref a :: us) (vs := .ref a :: vs) F hr hb (hx σ) I2 (.cons rfl r) q2
theorem run_fnRT {pins : List (Addr × Obj)} {σ : St} {H : Hp} {s : Shared} {E : XK} {Q : VK} {us : List Value} {vs : List V} (F : FnR X.prog X.w X.K X.mg X.base CX k f sp) (hr : Room k X.A) (hx : PassesAt CX X σ E) (I : Inv X pins σ H s) (r : Vals vs us) (h : sp vs H Q E) :
    codeAny (model X.prog X.w) X.A (.call (.ref f) ⟨us, []⟩) (fun r s' => match r with | .ok (.ret v) => EP X pins σ Q v s' | .ok _ => False | .error e => X.xe e s') s := by
  refine codeAny_mono (F X.A X.stack s H us vs Q E hr I.env0 r h) fun r s' hq => ?_
  match r, hq with
  | .error e, hq => exact hx pins H s e s' I hq
  | .ok (.ret u), hq => exact I.after hq
  | .ok .next, hq => exact hq.elim
  | .ok .brk, hq => exact hq.elim
  | .ok .cont, hq => exact hq.elim
theorem run_cmT {pins : List (Addr × Obj)} {σ : St} {H : Hp} {s : Shared} {q : Addr} {E : XK} {Q : VK} {us : List Value} {vs : List V} (F : FnR X.prog X.w X.K X.mg X.base CX k g sp) (hr : Room k X.A) (hx : PassesAt CX X σ E) (I : Inv X ((q, PySem.W.methodObj (.ref g) (.ref C)) :: pins) σ H s)
    (r : Vals vs us) (h : sp (.ref C :: vs) H Q E) : wpAny (model X.prog X.w) X.A (call (.ref q) us) (EP X pins σ Q) X.xe s := by
  have z : wpAny (model X.prog X.w) X.A (call (.ref q) us) (EP X ((q, PySem.W.methodObj (.ref g) (.ref C)) :: pins) σ Q) X.xe s :=
    wpAny_call (PySem.W.method_call (ClX.pin_at I) (run_fnRT (us := .ref C :: us) (vs := .ref C :: vs) F hr hx I (.cons rfl r) h))
  exact thn z fun _ _ y => ClX.unpinE y
theorem pe_cmethT {E : St → XK} (he : PE X o ta) (r : ClX.CRead X.K C mc) (c : ClX.CMet X.K C mc m p g) (F : FnR X.prog X.w X.K X.mg X.base CX k g sp) (hr : Room k X.A) (hx : ∀ σ, PassesAt CX X σ (E σ)) (ha : PA X (e :: es) t)
    (hst : starEach (e :: es) X.env = (false, eval e X.env) :: starEach es X.env := by rfl) (hpl : (backTo pos (starEach es X.env)).any (·.1) = false := by rfl)
    (ht : eval (.Call (.Attribute o m apos) (e :: es) [] pos) X.env = (do
      let ov ← eval o X.env
      standAt apos.atName
      let (f, first) ← holding [ov] (getMethod ov m pl)
      callWith pos f first (backTo pos (starEach (e :: es) X.env)) (backToKw pos (keywordEach [] X.env))) := by rfl) :
    PE X (.Call (.Attribute o m apos) (e :: es) [] pos) (tCMethT C sp E ta t) := by
  refine ⟨fun pins s σ H Q I h => ?_⟩
  refine PySem.W.methodCall_KW (pl := pl) (thn (he.run pins s σ H _ I h) fun u s1 ⟨x, H1, I1, rx, ex, q⟩ => ?_) ht
  subst ex
  obtain rfl : u = Value.ref C := rx
  refine ClX.getmethcm_ok I1 r c fun s2 I2 => ?_
  refine ClX.callwith_cm I2 (ClX.base_none I1 (Nat.le_refl _)) c.fi (thn (ha.run pos _ s2 σ H1 _ I2 q) fun us s3 ⟨vs, H2, I3, rv, q2⟩ => ⟨⟨ClX.pin_at I3, I3.kIn⟩, ?_⟩) hst hpl
  exact run_cmT F hr (hx σ) I3 rv q2
theorem pe_makeL0 {E : XK} {x : Str} (M : Mk X.K C f) (F : FnOk X.prog X.w X.K X.mg X.base CX k f fd ps sp) (hr : Room (k + 1) X.A) (hN : X.N[i]? = some x) (hv : Vis X.env.scope x) (hb : Binds X.K fd ps ds) (hd : Vals dvs ds) (hx : Passes CX X E)
    (hdb : (x == ("__debug__" : Str)) = false := by decide) (hcd : (x == ("__classdict__" : Str)) = false := by decide) : PE X (.Call (.Name x np) [] [] pos) (tMakeL i C sp dvs E) := by
  refine ⟨fun pins s σ H Q I h => ?_⟩
  obtain ⟨hs, ht⟩ := h
  refine wpAny_Call_Name_kw (thn ((pe_var (pos := np) hN hv hdb hcd).run pins s σ H (fun v H1 => v = .ref C ∧ H1 = H) I ⟨.ref C, hs, rfl, rfl⟩) fun u s1 ⟨v, H1, I1, r1, q1⟩ => ?_)
  obtain ⟨rfl, rfl⟩ := q1
  cases r1
  exact PySem.W.callWith_K0 I1.kIn M.kp (run_make (us := []) (vs := []) M F hr hb hd hx I1 .nil ht)
end
end L2
namespace Lw
open PySem PySem.Spec PyProof.Rows L2
section
variable {K : PySem.W.Frag} {σ : L2.St} {H : Hp} {D : Ends} {Q : VK}
theorem r_fld {ta : TE} {f : Str} (h : ta σ H fun x H1 => ∃ a C dx fs v, x = .ref a ∧ H1 a = some (.ins C dx fs) ∧ Cls K C ∧ NoAttr K C f ∧ fs.lookup f = some v ∧ Q v H1) : tFld K ta f σ H Q := h
theorem r_fldI {a C dx : Addr} {fs : List (Str × V)} {f : Str} {v : V} (e : H a = some (.ins C dx fs)) (c : Cls K C) (n : NoAttr K C f) {F : V → Prop} (l : fs.lookup f = some v) (q : F v) : ∃ a' C dx fs v, V.ref a = .ref a' ∧ H a' = some (.ins C dx fs) ∧ Cls K C ∧ NoAttr K C f ∧ fs.lookup f = some v ∧ F v := ⟨a, C, dx, fs, v, rfl, e, c, n, l, q⟩
theorem r_sFld {ta tv : TE} {f : Str} (h : tv σ H fun y H1 => ta σ H1 fun x H2 => ∃ a C dx fs, x = .ref a ∧ H2 a = some (.ins C dx fs) ∧ Cls K C ∧ NoAttr K C f ∧ fs.length < 1000 ∧ D.nx σ (upd H2 a (.ins C dx (putF f y fs)))) : sFld K ta tv f D σ H := h
theorem r_sFldI {a C dx : Addr} {fs : List (Str × V)} {f : Str} {y : V} {F : Hp → Prop} (e : H a = some (.ins C dx fs)) (c : Cls K C) (n : NoAttr K C f) (l : fs.length < 1000) (q : F (upd H a (.ins C dx (putF f y fs)))) :
    ∃ a' C dx fs, V.ref a = .ref a' ∧ H a' = some (.ins C dx fs) ∧ Cls K C ∧ NoAttr K C f ∧ fs.length < 1000 ∧ F (upd H a' (.ins C dx (putF f y fs))) := ⟨a, C, dx, fs, rfl, e, c, n, l, q⟩
theorem r_cval {ta : TE} {f : Str} (h : ta σ H fun x H1 => ∃ C mc v u, x = .ref C ∧ ClX.CRead K C mc ∧ ClX.CVal K C mc f v u ∧ Q v H1) : ClX.tCVal K ta f σ H Q := h
theorem r_lenD {a : Addr} {kvs : List (Key × V)} {F : List (Key × V) → Prop} (h : H a = some (.dK kvs)) (q : F kvs) : ∃ a' kvs, [V.ref a] = [V.ref a'] ∧ H a' = some (.dK kvs) ∧ F kvs := ⟨a, kvs, rfl, h, q⟩
theorem r_meth {C : Addr} {m : Str} {sp : Sp} {dvs : List V} {E : XK} {ta : TE} {t : TA} (h : ta σ H fun x H1 => ∃ a dx fs, x = .ref a ∧ H1 a = some (.ins C dx fs) ∧ fs.lookup m = none ∧ t σ H1 fun vs H2 => sp (x :: (vs ++ dvs)) H2 Q E) : tMeth C m sp dvs E ta t σ H Q := h
theorem r_methT {C : Addr} {m : Str} {sp : Sp} {E : L2.St → XK} {ta : TE} {t : TA} (h : ta σ H fun x H1 => ∃ a dx fs, x = .ref a ∧ H1 a = some (.ins C dx fs) ∧ fs.lookup m = none ∧ t σ H1 fun vs H2 => sp (x :: vs) H2 Q (E σ)) : tMethT C m sp E ta t σ H Q := h
theorem r_cmethT {C : Addr} {sp : Sp} {E : L2.St → XK} {ta : TE} {t : TA} (h : ta σ H fun x H1 => x = .ref C ∧ t σ H1 fun vs H2 => sp (.ref C :: vs) H2 Q (E σ)) : tCMethT C sp E ta t σ H Q := h
theorem r_prop {C : Addr} {sp : Sp} {dvs : List V} {E : XK} {ta : TE} (h : ta σ H fun x H1 => ∃ a dx fs, x = .ref a ∧ H1 a = some (.ins C dx fs) ∧ sp (.ref a :: dvs) H1 Q E) : tProp C sp dvs E ta σ H Q := h
theorem r_listItems {te : TE} (h : te σ H fun x H1 => LiI.rItemsL x H1 Q) : LiI.tListItems te σ H Q := h
theorem r_dnewK (h : ∀ p, H p = none → Q (.ref p) (upd H p (.dK []))) : tDNewK σ H Q := h
theorem r_ddel {td ty : TE} (h : td σ H fun x H1 => ty σ H1 fun y H2 => ∃ a kvs k, x = .ref a ∧ H2 a = some (.dK kvs) ∧ y = kV k ∧ (valV kvs k).isSome = true ∧ D.nx σ (upd H2 a (.dK (dropK kvs k)))) : sDDel td ty D σ H := h
end
theorem r_keys {td : TE} {σ : L2.St} {H : Hp} {R : It → Hp → Prop} {d : Addr} {o : Obj} {kvs : List (Key × V)} (h : td σ H fun x H1 => x = .ref d ∧ H1 d = some (.frz o (.dK kvs)) ∧ R (Itk d o kvs) H1)
    (m : ∀ (F G : VK), (∀ x H, F x H → G x H) → td σ H F → td σ H G) : iKeys td σ H R := m _ _ (fun x H1 ⟨e, h1, h2⟩ => ⟨d, o, e, .inl ⟨kvs, h1, h2⟩⟩) h
theorem iteNTr {A B : Prop} (h : B) : if (!true) = true then A else B := by rw [if_neg (by decide)]; exact h
theorem iteNFa {A B : Prop} (h : A) : if (!false) = true then A else B := by rw [if_pos (by decide)]; exact h
theorem m_var {i : Nat} {σ : L2.St} {H : Hp} (F G : VK) (h : ∀ x H, F x H → G x H) (k : tVar i σ H F) : tVar i σ H G := by
  obtain ⟨v, e, q⟩ := k
  exact ⟨v, e, h _ _ q⟩
/-- the keys -/
def keysV (kvs : List (Key × V)) : List V := kvs.map fun q => kV q.1
/-- behind a walk over the keys of d the dict is as it was -/
theorem unlocked {H : Hp} {d p : Addr} {u o x : HO} (h : H d = some u) (np : upd H d o p = none) : p ≠ d ∧ H p = none ∧ upd (upd (upd H d o) p x) d u = upd H p x := by
  obtain ⟨h1, h2⟩ := upd_none np
  refine ⟨h1, h2, ?_⟩
  rw [upd_comm (a := p) (b := d) h1, upd_upd]
  have e : upd H d u = H := by
    funext b
    by_cases e : b = d
    · subst e; rw [upd_same, h]
    · rw [upd_ne e]
  rw [e]
/-- what keeps all but some objects -/
def Kp (N : Addr → Prop) (H H' : Hp) : Prop := ∀ c o, H c = some o → ¬ N c → H' c = some o
theorem Kp.of {N : Addr → Prop} {H H' : Hp} (s : Same H H') : Kp N H H' := fun c o e _ => s c o e
theorem Kp.trans {N : Addr → Prop} {H1 H2 H3 : Hp} (a : Kp N H1 H2) (b : Kp N H2 H3) : Kp N H1 H3 := fun c o e n => b c o (a c o e n) n
theorem Kp.mono {N M : Addr → Prop} {H H' : Hp} (a : Kp N H H') (h : ∀ c, N c → M c) : Kp M H H' := fun c o e n => a c o e fun z => n (h c z)
theorem Kp.put {N : Addr → Prop} {H : Hp} {p : Addr} {x : HO} (h : N p) : Kp N H (upd H p x) := fun c o e n => by
  have : c ≠ p := fun z => n (by rw [z]; exact h)
  rw [upd_ne this]; exact e
/-- the draws' state through what doesn't touch it -/
theorem rg_kp {N : Addr → Prop} {st g : Addr} {R : RS} {B H : Hp} (k : Ok st g R B) (s : Kp N (rg st g R B) H) (h1 : ¬ N st) (h2 : ¬ N g) : ∃ B', H = rg st g R B' ∧ Ok st g R B' ∧ Kp N B B' ∧ ∀ b, b ≠ st → b ≠ g → B' b = H b := by
  refine ⟨fun b => if b = st ∨ b = g then none else H b, ?_, ⟨k.ne, k.ok, if_pos (.inl rfl), if_pos (.inr rfl)⟩, fun b o e n => ?_, fun b e1 e2 => if_neg (fun z => z.elim e1 e2)⟩
  · funext b
    by_cases e1 : b = st
    · subst e1; rw [rg_st]; exact s _ _ rg_st h1
    · by_cases e2 : b = g
      · subst e2
        show H b = upd (upd _ b _) st _ b
        rw [upd_ne e1, upd_same]
        exact s _ _ (rg_g k) h2
      · show H b = upd (upd _ g _) st _ b
        rw [upd_ne e1, upd_ne e2]
        exact (if_neg (fun z => z.elim e1 e2)).symm
  · have e1 : b ≠ st := fun z => by rw [z, k.bst] at e; cases e
    have e2 : b ≠ g := fun z => by rw [z, k.bg] at e; cases e
    show (if b = st ∨ b = g then none else H b) = some o
    rw [if_neg (fun z => z.elim e1 e2)]
    exact s b o (rg_get k e) n
end Lw
namespace K53
open PySem PySem.Spec PyProof.Rows L2 Lw


local macro_rules | `(tactic| walk_at "look") => `(tactic| first
  | assumption
  | with_reducible exact upd_same
  | with_reducible exact rg_st
  | with_reducible exact rg_g (by assumption)
  | (with_reducible refine upd_old (by assumption) ?_; walk_at "look")
  | (with_reducible refine rg_get (by assumption) ?_; walk_at "look")
  | (with_reducible refine Same.get (by assumption) ?_; walk_at "look"))
local macro_rules | `(tactic| walk_at "cond") => `(tactic| first
  | (show _ ≠ _; omega) | exact cdivN (by omega) (by omega) | exact cmul_mod (by decide) (by decide) | exact cmulR (by omega) (by omega) | exact cmulL (by omega) (by omega) | exact cpow (by omega) (by omega) (by omega) (by omega) | (show (0:Int) ≤ _; omega))
local macro_rules | `(tactic| walk_at "at") => `(tactic| first | assumption | with_unfolding_all rfl)
local macro_rules | `(tactic| walk_at "sz") => `(tactic| first | assumption | (refine small ?_; omega) | (refine small ?_; simp only [List.length_map, List.length_append, List.length_cons, List.length_nil]; omega))
local macro_rules | `(tactic| walk_at "len") => `(tactic| first | exact size_nil | exact Nat.le_of_lt (small (by simp only [List.length_cons, List.length_nil, List.length_map]; omega)))
local macro_rules | `(tactic| walk_at "newD") => `(tactic| (refine ⟨by walk_at "len", fun p np => ?_⟩; obtain ⟨e, o', hD', n', ne'⟩ := newTD_eq (topRg _ _) (by assumption) (by assumption) np (.lst _); rw [e]; clear e))
local macro_rules | `(tactic| walk_at "new") => `(tactic| (refine ⟨by walk_at "len", fun p np => ?_⟩; obtain ⟨e, o', n'⟩ := newT_eq (topRg _ _) (by assumption) np (.lst _); rw [e]; clear e))
local macro_rules | `(tactic| walk_at "st") => `(tactic| first
  | with_reducible refine r_seq ?_
  | with_reducible refine r_var rfl ?_
  | with_reducible refine r_c ?_
  | with_reducible refine r_asg ?_
  | (with_reducible refine r_name ?_; dsimp only [List.set_cons_zero, List.set_cons_succ])
  | with_reducible refine r_sub ?_
  | with_reducible refine r_op ?_
  | with_reducible refine r_i0 ?_
  | (with_reducible refine' r_i ?k1 ?_; (case k1 => walk_at "cond"))
  | with_reducible refine r_cons ?_
  | with_reducible refine r_nil ?_
  | with_reducible refine r_cb ?_
  | with_reducible refine r_call ?_
  | with_reducible refine r_ifs ?_
  | with_reducible refine r_test ?_
  | with_reducible refine r_tB ?_
  | with_reducible refine r_bl ?_
  | with_reducible refine r_ret ?_
  | with_reducible refine r_drop ?_
  | with_reducible refine r_next ?_
  | (with_reducible refine' r_ixL ?k1 ?k2 ?_; (case k1 => walk_at "look"); (case k2 => walk_at "at"))
  | (with_reducible refine' r_setL ?k1 ?k2 ?_; (case k1 => walk_at "look"); (case k2 => walk_at "at"))
  | (with_reducible refine' r_tup (SqT.of ?k1) ?k2 ?_; (case k1 => walk_at "look"); (case k2 => rfl))
  | with_reducible refine r_gcons ?_
  | with_reducible refine r_gnil ?_
  | with_reducible refine r_aug rfl ?_
  | with_reducible refine r_augS ?_
  | with_reducible refine r_ipI ?_
  | with_reducible refine r_un ?_
  | with_reducible refine r_u ?_
  | with_reducible refine r_eq rfl ?_
  | with_reducible refine r_ne rfl ?_
  | with_reducible refine r_chain ?_
  | with_reducible refine iteF ?_
  | with_reducible refine r_not ?_
  | with_reducible refine r_and ?_
  | with_reducible refine r_or ?_
  | with_reducible refine r_andV ?_
  | with_reducible refine r_orV ?_
  | with_reducible refine r_notV ?_
  | with_reducible refine r_lst ?_
  | with_reducible refine r_bm ?_
  | with_reducible refine r_bm0 ?_
  | (with_reducible refine' And.intro (r_ty ?k1) ?_; (case k1 => walk_at "look"))
  | (with_reducible refine' r_append ?k1 ?k2 ?_; (case k1 => walk_at "look"); (case k2 => walk_at "sz"))
  | (with_reducible refine' r_lenK ?k1 ?_; (case k1 => walk_at "look"))
  | (with_reducible refine' r_listOf ?k1 ?_; (case k1 => walk_at "look"))
  | (with_reducible refine' r_sortedI ?k1 ?_; (case k1 => walk_at "look"))
  | (with_reducible refine' r_sum ?k1 ?_; (case k1 => walk_at "look"))
  | with_reducible refine r_int ?_
  | (with_reducible refine' r_draw (by assumption) ?k1 ?k2 ?_; (case k1 => omega); (case k2 => omega); intro R' n' o' h' h'')
  | with_reducible refine iteT ?_
  | with_reducible refine r_revL ?_
  | with_reducible refine r_lc ?_
  | with_reducible refine r_yes ?_
  | with_reducible refine r_sl ?_
  | with_reducible refine r_noPart ?_
  | with_reducible refine r_part ?_
  | with_reducible refine r_lc2 ?_
  | with_reducible refine r_callN ?_
  | with_reducible refine r_callD ?_
  | with_reducible refine r_tupE ?_
  | with_reducible refine r_rng2 ?_
  | with_reducible refine r_i1 ?_
  | (with_reducible refine' r_slL ?k1 ?_; (case k1 => walk_at "look"))
  | with_reducible refine r_for ?_
  | with_reducible refine r_iList ?_
  | with_reducible refine r_rng1 ?_
  | with_reducible refine r_enum ?_
  | (with_reducible show Ends.nx _ _ _; dsimp only)
  | (with_reducible show Ends.rt _ _ _; dsimp only)
  | (with_reducible show Ends.ct _ _ _; dsimp only)
  | (with_reducible show Ends.bk _ _ _; dsimp only))
local macro_rules | `(tactic| walk_at "go") => `(tactic| repeat (walk_at "st"))
local macro_rules | `(tactic| walk_at "begin") => `(tactic| dsimp only [cxOf, wipe, L2.start, List.map, List.length_cons, List.length_nil, Nat.reduceAdd, Nat.reduceSub, List.replicate, List.cons_append, List.nil_append])

abbrev s_Book___init__ : Stmt := inClass (topS 6) 1
theorem sc_Book___init__ : FnScope ["self", "rings"] ["self", "rings"] (defScope s_Book___init__) := ⟨rfl, rfl, rfl, by decide +kernel, rfl, by decide +kernel, by decide +kernel⟩

abbrev s_Book_facts : Stmt := inClass (topS 6) 6
theorem sc_Book_facts : FnScope ["self"] ["self"] (defScope s_Book_facts) := ⟨rfl, rfl, rfl, by decide +kernel, rfl, by decide +kernel, by decide +kernel⟩

abbrev s_Book_size : Stmt := inClass (topS 6) 7
theorem sc_Book_size : FnScope ["self"] ["self"] (defScope s_Book_size) := ⟨rfl, rfl, rfl, by decide +kernel, rfl, by decide +kernel, by decide +kernel⟩

abbrev s_Book_tell : Stmt := inClass (topS 6) 4
theorem sc_Book_tell : FnScope ["self", "saying", "number"] ["self", "saying"] (defScope s_Book_tell) := ⟨rfl, rfl, rfl, by decide +kernel, rfl, by decide +kernel, by decide +kernel⟩

abbrev s_Book_drop : Stmt := inClass (topS 6) 5
theorem sc_Book_drop : FnScope ["self", "number", "saying"] ["self", "number"] (defScope s_Book_drop) := ⟨rfl, rfl, rfl, by decide +kernel, rfl, by decide +kernel, by decide +kernel⟩

abbrev s_Book_of : Stmt := inClass (topS 6) 2
theorem sc_Book_of : FnScope ["cls", "sayings", "book", "saying"] ["cls", "sayings"] (defScope s_Book_of) := ⟨rfl, rfl, rfl, by decide +kernel, rfl, by decide +kernel, by decide +kernel⟩


/-- the fields of a book, in the order of __init__ -/
def bf (r : Bool) (d : Addr) (n : Int) : List (Str × V) := [("rings", .bl r), ("numbered", .ref d), ("next_number", .int n)]
theorem bf_r {r : Bool} {d : Addr} {n : Int} : (bf r d n).lookup ("rings" : Str) = some (.bl r) := rfl
theorem bf_d {r : Bool} {d : Addr} {n : Int} : (bf r d n).lookup ("numbered" : Str) = some (.ref d) := rfl
theorem bf_n {r : Bool} {d : Addr} {n : Int} : (bf r d n).lookup ("next_number" : Str) = some (.int n) := rfl
theorem bf_put {r : Bool} {d : Addr} {n m : Int} : putF "next_number" (.int m) (bf r d n) = bf r d m := rfl
theorem bf_1 {r : Bool} {d : Addr} : putF "next_number" (.int 1) (putF "numbered" (.ref d) (putF "rings" (.bl r) [])) = bf r d 1 := rfl
theorem bf_tell {r : Bool} {d : Addr} {n : Int} : (bf r d n).lookup ("tell" : Str) = none := rfl
theorem bf_drop {r : Bool} {d : Addr} {n : Int} : (bf r d n).lookup ("drop" : Str) = none := rfl
theorem bf_facts {r : Bool} {d : Addr} {n : Int} : (bf r d n).lookup ("facts" : Str) = none := rfl
/-- what the class is -/
structure ZB (K : PySem.W.Frag) (mg : Str → Option Value) (CB : Addr) (mc : Value) : Prop where
  gB : mg "Book" = some (.ref CB)
  cl : Cls K CB
  nR : NoAttr K CB "rings"
  nN : NoAttr K CB "numbered"
  nX : NoAttr K CB "next_number"
  rd : ClX.CRead K CB mc
  lim : ∃ u, ClX.CVal K CB mc "LIMIT" (.int 6) u
/-- an own error -/
structure ExN (K : PySem.W.Frag) (mg : Str → Option Value) (x : Str) (C : Addr) : Prop where
  g : mg x = some (.ref C)
  x : PySem.W.excIn K C [.type "ValueError", .type "Exception", .type "BaseException", .type "object"] "ValueError.__new__" = true
  k : PySem.W.keepIn K (.ref C) = true
  b : PySem.W.subIn K (.ref C) (.type "BaseException") = some true
  t : PySem.W.typeIn K (.ref C) = some (.type "type")
/-- a book at b, its dict at d -/
structure Bk (CB : Addr) (H : Hp) (b d : Addr) (kvs : List (Key × V)) (n : Int) (r : Bool) : Prop where
  ob : ∃ dx, H b = some (.ins CB dx (bf r d n))
  nu : H d = some (.dK kvs)
theorem Bk.ne {CB : Addr} {H : Hp} {b d : Addr} {kvs : List (Key × V)} {n : Int} {r : Bool} (h : Bk CB H b d kvs n r) : b ≠ d := fun e => by
  obtain ⟨dx, h1⟩ := h.ob
  rw [e, h.nu] at h1; cases h1
def spBInit (CB : Addr) : Sp := fun vs H Q _ => ∃ (b dx : Addr) (r : Bool), vs = [.ref b, .bl r] ∧ H b = some (.ins CB dx []) ∧ ∀ (d : Addr) (H' : Hp), H d = none → Bk CB H' b d [] 1 r → Kp (· = b) H H' → Q .non H'
def spBFacts (CB : Addr) : Sp := fun vs H Q _ => ∃ (b d : Addr) (kvs : List (Key × V)) (n : Int) (r : Bool), vs = [.ref b] ∧ Bk CB H b d kvs n r ∧
  ∀ (H' : Hp) (p : Addr) (ts : List Addr), Same H H' → H p = none → H' p = some (.lst (ts.map V.ref)) → Paired (fun (t : Addr) (q : Key × V) => H' t = some (.tup [kV q.1, q.2])) ts kvs → Q (.ref p) H'
def spBSize (CB : Addr) : Sp := fun vs H Q _ => ∃ (b d : Addr) (kvs : List (Key × V)) (n : Int) (r : Bool), vs = [.ref b] ∧ Bk CB H b d kvs n r ∧ Q (.int kvs.length) H
def spBTell (CB CF : Addr) : Sp := fun vs H Q E => ∃ (b d : Addr) (kvs : List (Key × V)) (n : Int) (r : Bool) (v : V), vs = [.ref b, v] ∧ Bk CB H b d kvs n r ∧ valV kvs (Sum.inl n) = none ∧
  (6 ≤ kvs.length → E (.ref CF) none H) ∧ (kvs.length < 6 → ∀ H', Bk CB H' b d (kvs ++ [(Sum.inl n, v)]) (n + 1) r → Kp (fun c => c = b ∨ c = d) H H' → Q (.int n) H')
def spBDrop (CB CN : Addr) : Sp := fun vs H Q E => ∃ (b d : Addr) (kvs : List (Key × V)) (n : Int) (r : Bool) (z : Int), vs = [.ref b, .int z] ∧ Bk CB H b d kvs n r ∧
  (valV kvs (Sum.inl z) = none → E (.ref CN) none H) ∧ (∀ v, valV kvs (Sum.inl z) = some v → ∀ H', Bk CB H' b d (dropK kvs (Sum.inl z)) n r → Kp (· = d) H H' → Q v H')
section
variable {P : Program} {w : World} {K : PySem.W.Frag} {mg : Str → Option Value} {base : Heap}
theorem ok_binit {f CB : Addr} {fd : FuncData} {mc : Value} (Z : ZB K mg CB mc) (F : Fun K "__init__" "Book.__init__" s_Book___init__ f fd) : FnOk P w K mg base CX0 1 f fd ["self", "rings"] (spBInit CB) := by
  refine F.ok sc_Book___init__ (fun vs H Q E h => ?_) (fun cdv A outer s H vs Q E hr h => ?_)
  · obtain ⟨b, dx, r, rfl, _⟩ := h
    rfl
  · obtain ⟨b, dx, r, rfl, hb, q⟩ := h
    refine ⟨_, (pss_cons (ps_fld (pv 0) (pv 1) rfl)
      (pss_cons (ps_fld (pv 0) pe_dnewK rfl)
      (pss_one (ps_fld (pv 0) pe_int rfl)))), ?_⟩
    walk_at "begin"
    walk_at "go"
    refine r_sFld ?_
    walk_at "go"
    refine r_sFldI hb Z.cl Z.nR (by decide) ?_
    walk_at "go"
    refine r_sFld ?_
    refine r_dnewK fun d nd => ?_
    walk_at "go"
    obtain ⟨h1, h2⟩ := upd_none nd
    have hb2 : ∀ x : HO, upd (upd H b x) d (.dK []) b = some x := fun x => by rw [upd_ne (Ne.symm h1), upd_same]
    refine r_sFldI (hb2 _) Z.cl Z.nN (show 1 < 1000 by decide) ?_
    walk_at "go"
    refine r_sFld ?_
    walk_at "go"
    refine r_sFldI upd_same Z.cl Z.nX (show 2 < 1000 by decide) ?_
    refine q d _ h2 ⟨⟨dx, upd_same⟩, by rw [upd_ne h1, upd_ne h1, upd_same]⟩ fun c o e n => ?_
    have n : c ≠ b := n
    have hcd : c ≠ d := fun z => by rw [z, h2] at e; cases e
    rw [upd_ne n, upd_ne n, upd_ne hcd, upd_ne n]
    exact e
theorem ok_bfacts {f CB : Addr} {fd : FuncData} {mc : Value} (B : Blt mg) (Z : ZB K mg CB mc) (F : Fun K "facts" "Book.facts" s_Book_facts f fd) : FnOk P w K mg base CX0 1 f fd ["self"] (spBFacts CB) := by
  refine F.ok sc_Book_facts (fun vs H Q E h => ?_) (fun cdv A outer s H vs Q E hr h => ?_)
  · obtain ⟨b, d, kvs, n, r, rfl, _⟩ := h
    rfl
  · obtain ⟨b, d, kvs, n, r, rfl, hb, q⟩ := h
    refine ⟨_, (pss_one (ps_ret (LiI.pe_listItems rfl (pe_fld (pv 0) rfl) (by rfl) B.m_list (by decide +kernel)))), ?_⟩
    walk_at "begin"
    walk_at "go"
    refine r_listItems ?_
    refine r_fld ?_
    walk_at "go"
    obtain ⟨dx, ob⟩ := hb.ob
    refine r_fldI ob Z.cl Z.nN bf_d ?_
    exact ⟨d, kvs, rfl, hb.nu, fun H' p ts k1 k2 k3 k4 k5 k6 => q H' p ts k1 k2 k5 k6⟩
theorem ok_bsize {f CB : Addr} {fd : FuncData} {mc : Value} (B : Blt mg) (Z : ZB K mg CB mc) (F : Fun K "size" "Book.size" s_Book_size f fd) : FnOk P w K mg base CX0 1 f fd ["self"] (spBSize CB) := by
  refine F.ok sc_Book_size (fun vs H Q E h => ?_) (fun cdv A outer s H vs Q E hr h => ?_)
  · obtain ⟨b, d, kvs, n, r, rfl, _⟩ := h
    rfl
  · obtain ⟨b, d, kvs, n, r, rfl, hb, q⟩ := h
    refine ⟨_, (pss_one (ps_ret (pe_callB call_lenD (by rfl) B.m_len PySem.boot_len (pa_cons (pe_fld (pv 0) rfl) pa_nil)))), ?_⟩
    walk_at "begin"
    walk_at "go"
    refine r_fld ?_
    walk_at "go"
    obtain ⟨dx, ob⟩ := hb.ob
    refine r_fldI ob Z.cl Z.nN bf_d ?_
    walk_at "go"
    exact r_lenD hb.nu q
theorem ok_btell {f CB CF : Addr} {fd : FuncData} {mc : Value} (B : Blt mg) (Z : ZB K mg CB mc) (EBookFull : ExN K mg "BookFull" CF) (F : Fun K "tell" "Book.tell" s_Book_tell f fd) : FnOk P w K mg base (L2.CX P w) 1 f fd ["self", "saying"] (spBTell CB CF) := by
  refine F.okX sc_Book_tell (fun vs H Q E h => ?_) (fun cdv A outer s H vs Q E hr h => ?_)
  · obtain ⟨b, d, kvs, n, r, v, rfl, _⟩ := h
    rfl
  · obtain ⟨b, d, kvs, n, r, v, rfl, hb, hv, q1, q2⟩ := h
    refine ⟨_, (pss_cons (ps_if (pt_cmpR op_ge (pe_callB call_lenD (by rfl) B.m_len PySem.boot_len (pa_cons (pe_fld (pv 0) rfl) pa_nil)) (ClX.pe_cval (pe_glob (v := .ref CB) rfl Z.gB rfl)) (nomark _)) (pss_one (ps_raise rfl (takes_of rfl rfl rfl rfl) (pmk_own PySem.F.excBase_ValueError EBookFull.x EBookFull.g EBookFull.k (raises_own EBookFull.b EBookFull.t) (by rfl)))) pss_nil)
      (pss_cons (ps_set (i := 2) sc_Book_tell.nd rfl (.inl rfl) (pe_fld (pv 0) rfl))
      (pss_cons (ps_dput (hu_of hr) (pe_fld (pv 0) rfl) (pv 2) (pv 1) rfl)
      (pss_cons (ps_fld (pv 0) (pe_op op_add (pv 2) pe_int) rfl)
      (pss_one (ps_ret (pv 2))))))), ?_⟩
    walk_at "begin"
    walk_at "go"
    refine r_fld ?_
    walk_at "go"
    obtain ⟨dx, ob⟩ := hb.ob
    refine r_fldI ob Z.cl Z.nN bf_d ?_
    walk_at "go"
    refine r_lenD hb.nu ?_
    obtain ⟨u, hl⟩ := Z.lim
    refine r_cval ?_
    walk_at "go"
    refine ⟨CB, mc, _, u, rfl, Z.rd, hl, ?_⟩
    walk_at "go"
    refine r_ite (fun z => ?_) (fun z => ?_)
    · exact q1 (by omega)
    · walk_at "go"
      refine r_fld ?_
      walk_at "go"
      refine r_fldI ob Z.cl Z.nX bf_n ?_
      walk_at "go"
      refine r_dput ?_
      walk_at "go"
      refine r_fld ?_
      walk_at "go"
      refine r_fldI ob Z.cl Z.nN bf_d ?_
      walk_at "go"
      refine ⟨d, _, rfl, DPut.k (k := Sum.inl n) hb.nu (small (by omega)), ?_⟩
      rw [putK_new v hv]
      walk_at "go"
      have hne := hb.ne
      have ob2 : ∀ x, upd H d x b = some (.ins CB dx (bf r d n)) := fun x => by rw [upd_ne hne]; exact ob
      refine r_sFld ?_
      walk_at "go"
      refine r_sFldI (ob2 _) Z.cl Z.nX (show 3 < 1000 by decide) ?_
      walk_at "go"
      refine q2 (by omega) _ ⟨⟨dx, upd_same⟩, by rw [upd_ne hne.symm, upd_same]⟩ fun c o e n => ?_
      have n : ¬ (c = b ∨ c = d) := n
      rw [upd_ne (fun z => n (.inl z)), upd_ne (fun z => n (.inr z))]
      exact e
theorem ok_bdrop {f CB CN : Addr} {fd : FuncData} {mc : Value} (B : Blt mg) (Z : ZB K mg CB mc) (ENoFact : ExN K mg "NoFact" CN) (F : Fun K "drop" "Book.drop" s_Book_drop f fd) : FnOk P w K mg base (L2.CX P w) 1 f fd ["self", "number"] (spBDrop CB CN) := by
  refine F.okX sc_Book_drop (fun vs H Q E h => ?_) (fun cdv A outer s H vs Q E hr h => ?_)
  · obtain ⟨b, d, kvs, n, r, z, rfl, _⟩ := h
    rfl
  · obtain ⟨b, d, kvs, n, r, z, rfl, hb, q1, q2⟩ := h
    refine ⟨_, (pss_cons (ps_if (pt_cmp (pc_dnotin (hu_of hr) (pv 1) (pe_fld (pv 0) rfl)) (by rfl)) (pss_one (ps_raise rfl (takes_of rfl rfl rfl rfl) (pmk_own PySem.F.excBase_ValueError ENoFact.x ENoFact.g ENoFact.k (raises_own ENoFact.b ENoFact.t) (by rfl)))) pss_nil)
      (pss_cons (ps_set (i := 2) sc_Book_drop.nd rfl (.inl rfl) (pe_dget (hu_of hr) (pe_fld (pv 0) rfl) (pv 1) (fun _ _ => rfl)))
      (pss_cons (ps_ddel (pe_fld (pv 0) rfl) (pv 1))
      (pss_one (ps_ret (pv 2)))))), ?_⟩
    walk_at "begin"
    walk_at "go"
    obtain ⟨dx, ob⟩ := hb.ob
    refine r_dnot ?_
    walk_at "go"
    refine r_fld ?_
    walk_at "go"
    refine r_fldI ob Z.cl Z.nN bf_d ?_
    refine ⟨d, _, rfl, DGet.k (k := Sum.inl z) hb.nu, ?_⟩
    cases e : valV kvs (Sum.inl z : Key) with
    | none =>
      walk_at "go"
      exact q1 e
    | some v =>
      refine ⟨false, rfl, ?_⟩
      rw [if_neg Bool.false_ne_true]
      walk_at "go"
      refine r_dget ?_
      refine r_fld ?_
      walk_at "go"
      refine r_fldI ob Z.cl Z.nN bf_d ?_
      walk_at "go"
      refine ⟨d, v, rfl, by rw [← e]; exact DGet.k (k := Sum.inl z) hb.nu, ?_⟩
      walk_at "go"
      refine r_ddel ?_
      refine r_fld ?_
      walk_at "go"
      refine r_fldI ob Z.cl Z.nN bf_d ?_
      walk_at "go"
      refine ⟨d, kvs, Sum.inl z, rfl, hb.nu, rfl, by rw [e]; rfl, ?_⟩
      walk_at "go"
      refine q2 v e _ ⟨⟨dx, by rw [upd_ne hb.ne]; exact ob⟩, upd_same⟩ (Kp.put rfl)
end
end K53
namespace K53
open PySem PySem.Spec PyProof.Rows L2 Lw


local macro_rules | `(tactic| walk_at "look") => `(tactic| first
  | assumption
  | with_reducible exact upd_same
  | with_reducible exact rg_st
  | with_reducible exact rg_g (by assumption)
  | (with_reducible refine upd_old (by assumption) ?_; walk_at "look")
  | (with_reducible refine rg_get (by assumption) ?_; walk_at "look")
  | (with_reducible refine Same.get (by assumption) ?_; walk_at "look"))
local macro_rules | `(tactic| walk_at "cond") => `(tactic| first
  | (show _ ≠ _; omega) | exact cdivN (by omega) (by omega) | exact cmul_mod (by decide) (by decide) | exact cmulR (by omega) (by omega) | exact cmulL (by omega) (by omega) | exact cpow (by omega) (by omega) (by omega) (by omega) | (show (0:Int) ≤ _; omega))
local macro_rules | `(tactic| walk_at "at") => `(tactic| first | assumption | with_unfolding_all rfl)
local macro_rules | `(tactic| walk_at "sz") => `(tactic| first | assumption | (refine small ?_; omega) | (refine small ?_; simp only [List.length_map, List.length_append, List.length_cons, List.length_nil]; omega))
local macro_rules | `(tactic| walk_at "len") => `(tactic| first | exact size_nil | exact Nat.le_of_lt (small (by simp only [List.length_cons, List.length_nil, List.length_map]; omega)))
local macro_rules | `(tactic| walk_at "newD") => `(tactic| (refine ⟨by walk_at "len", fun p np => ?_⟩; obtain ⟨e, o', hD', n', ne'⟩ := newTD_eq (topRg _ _) (by assumption) (by assumption) np (.lst _); rw [e]; clear e))
local macro_rules | `(tactic| walk_at "new") => `(tactic| (refine ⟨by walk_at "len", fun p np => ?_⟩; obtain ⟨e, o', n'⟩ := newT_eq (topRg _ _) (by assumption) np (.lst _); rw [e]; clear e))
local macro_rules | `(tactic| walk_at "st") => `(tactic| first
  | with_reducible refine r_seq ?_
  | with_reducible refine r_var rfl ?_
  | with_reducible refine r_c ?_
  | with_reducible refine r_asg ?_
  | (with_reducible refine r_name ?_; dsimp only [List.set_cons_zero, List.set_cons_succ])
  | with_reducible refine r_sub ?_
  | with_reducible refine r_op ?_
  | with_reducible refine r_i0 ?_
  | (with_reducible refine' r_i ?k1 ?_; (case k1 => walk_at "cond"))
  | with_reducible refine r_cons ?_
  | with_reducible refine r_nil ?_
  | with_reducible refine r_cb ?_
  | with_reducible refine r_call ?_
  | with_reducible refine r_ifs ?_
  | with_reducible refine r_test ?_
  | with_reducible refine r_tB ?_
  | with_reducible refine r_bl ?_
  | with_reducible refine r_ret ?_
  | with_reducible refine r_drop ?_
  | with_reducible refine r_next ?_
  | (with_reducible refine' r_ixL ?k1 ?k2 ?_; (case k1 => walk_at "look"); (case k2 => walk_at "at"))
  | (with_reducible refine' r_setL ?k1 ?k2 ?_; (case k1 => walk_at "look"); (case k2 => walk_at "at"))
  | (with_reducible refine' r_tup (SqT.of ?k1) ?k2 ?_; (case k1 => walk_at "look"); (case k2 => rfl))
  | with_reducible refine r_gcons ?_
  | with_reducible refine r_gnil ?_
  | with_reducible refine r_aug rfl ?_
  | with_reducible refine r_augS ?_
  | with_reducible refine r_ipI ?_
  | with_reducible refine r_un ?_
  | with_reducible refine r_u ?_
  | with_reducible refine r_eq rfl ?_
  | with_reducible refine r_ne rfl ?_
  | with_reducible refine r_chain ?_
  | with_reducible refine iteF ?_
  | with_reducible refine r_not ?_
  | with_reducible refine r_and ?_
  | with_reducible refine r_or ?_
  | with_reducible refine r_andV ?_
  | with_reducible refine r_orV ?_
  | with_reducible refine r_notV ?_
  | with_reducible refine r_lst ?_
  | with_reducible refine r_bm ?_
  | with_reducible refine r_bm0 ?_
  | (with_reducible refine' And.intro (r_ty ?k1) ?_; (case k1 => walk_at "look"))
  | (with_reducible refine' r_append ?k1 ?k2 ?_; (case k1 => walk_at "look"); (case k2 => walk_at "sz"))
  | (with_reducible refine' r_lenK ?k1 ?_; (case k1 => walk_at "look"))
  | (with_reducible refine' r_listOf ?k1 ?_; (case k1 => walk_at "look"))
  | (with_reducible refine' r_sortedI ?k1 ?_; (case k1 => walk_at "look"))
  | (with_reducible refine' r_sum ?k1 ?_; (case k1 => walk_at "look"))
  | with_reducible refine r_int ?_
  | (with_reducible refine' r_draw (by assumption) ?k1 ?k2 ?_; (case k1 => omega); (case k2 => omega); intro R' n' o' h' h'')
  | with_reducible refine iteT ?_
  | with_reducible refine r_revL ?_
  | with_reducible refine r_lc ?_
  | with_reducible refine r_yes ?_
  | with_reducible refine r_sl ?_
  | with_reducible refine r_noPart ?_
  | with_reducible refine r_part ?_
  | with_reducible refine r_lc2 ?_
  | with_reducible refine r_callN ?_
  | with_reducible refine r_callD ?_
  | with_reducible refine r_tupE ?_
  | with_reducible refine r_rng2 ?_
  | with_reducible refine r_i1 ?_
  | (with_reducible refine' r_slL ?k1 ?_; (case k1 => walk_at "look"))
  | with_reducible refine r_for ?_
  | with_reducible refine r_iList ?_
  | with_reducible refine r_rng1 ?_
  | with_reducible refine r_enum ?_
  | (with_reducible show Ends.nx _ _ _; dsimp only)
  | (with_reducible show Ends.rt _ _ _; dsimp only)
  | (with_reducible show Ends.ct _ _ _; dsimp only)
  | (with_reducible show Ends.bk _ _ _; dsimp only))
local macro_rules | `(tactic| walk_at "go") => `(tactic| repeat (walk_at "st"))
local macro_rules | `(tactic| walk_at "begin") => `(tactic| dsimp only [cxOf, wipe, L2.start, List.map, List.length_cons, List.length_nil, Nat.reduceAdd, Nat.reduceSub, List.replicate, List.cons_append, List.nil_append])


/-- numbered from n on -/
def enK : Int → List V → List (Key × V)
  | _, [] => []
  | n, v :: r => (Sum.inl n, v) :: enK (n + 1) r
theorem enK_len : ∀ (n : Int) (us : List V), (enK n us).length = us.length
  | _, [] => rfl
  | n, v :: r => by show (enK (n + 1) r).length + 1 = r.length + 1; rw [enK_len]
theorem enK_push : ∀ (n : Int) (us : List V) (v : V), enK n (us ++ [v]) = enK n us ++ [(Sum.inl (n + us.length), v)]
  | n, [], v => by show [((Sum.inl n : Key), v)] = [(Sum.inl (n + ((0 : Nat) : Int)), v)]; rw [show n + ((0 : Nat) : Int) = n by omega]
  | n, x :: r, v => by
    show (Sum.inl n, x) :: enK (n + 1) (r ++ [v]) = (Sum.inl n, x) :: (enK (n + 1) r ++ [(Sum.inl (n + ((r.length + 1 : Nat) : Int)), v)])
    rw [enK_push (n + 1) r v, show n + 1 + (r.length : Int) = n + ((r.length + 1 : Nat) : Int) by omega]
theorem enK_mem : ∀ (n : Int) (us : List V) (p : Key × V), p ∈ enK n us → ∃ z : Int, p.1 = Sum.inl z ∧ n ≤ z ∧ z < n + us.length ∧ p.2 ∈ us
  | _, [], _, h => nomatch h
  | n, v :: r, p, h => by
    rcases List.mem_cons.mp h with e | e
    · subst e
      exact ⟨n, rfl, Int.le_refl _, by rw [List.length_cons]; omega, List.mem_cons_self⟩
    · obtain ⟨z, h1, h2, h3, h4⟩ := enK_mem (n + 1) r p e
      exact ⟨z, h1, by omega, by rw [List.length_cons]; omega, List.mem_cons_of_mem _ h4⟩
theorem enK_nd : ∀ (n : Int) (us : List V), ((enK n us).map (·.1)).Nodup
  | _, [] => List.nodup_nil
  | n, v :: r => by
    show ((Sum.inl n : Key) :: (enK (n + 1) r).map (·.1)).Nodup
    refine List.nodup_cons.mpr ⟨fun m => ?_, enK_nd (n + 1) r⟩
    obtain ⟨p, hp, e⟩ := List.mem_map.mp m
    obtain ⟨z, h1, h2, _⟩ := enK_mem _ _ _ hp
    rw [h1] at e
    have := Sum.inl.inj e
    omega
/-- no key at n or above -/
theorem valV_up {kvs : List (Key × V)} {n : Int} (h : ∀ p ∈ kvs, ∃ z : Int, p.1 = Sum.inl z ∧ z < n) : valV kvs (Sum.inl n : Key) = none := by
  cases e : valV kvs (Sum.inl n : Key) with
  | none => rfl
  | some v =>
    obtain ⟨p, hp, e2⟩ := List.mem_map.mp (valV_in e)
    obtain ⟨z, h1, h2⟩ := h p hp
    rw [h1] at e2
    have := Sum.inl.inj e2
    omega
theorem same_off {H X : Hp} {p : Addr} {o : HO} (h : H p = none) (s : Same H X) : Same H (upd X p o) := fun b x e => by
  have : b ≠ p := fun z => by rw [z, h] at e; cases e
  rw [upd_ne this]; exact s b x e
theorem same_kp {N : Addr → Prop} {H X Y : Hp} (s : Same H X) (k : Kp N X Y) (h : ∀ c, N c → H c = none) : Same H Y := fun b x e => k b x (s b x e) fun n => by rw [h b n] at e; cases e
def spBOf (CB CF : Addr) : Sp := fun vs H Q E => ∃ (l : Addr) (us : List V), vs = [.ref CB, .ref l] ∧ H l = some (.lst us) ∧ us.length ≤ 100 ∧
  (6 < us.length → ∀ H', Same H H' → E (.ref CF) none H') ∧ (us.length ≤ 6 → ∀ (H' : Hp) (b d : Addr), Same H H' → H b = none → H d = none → Bk CB H' b d (enK 1 us) (us.length + 1) false → Q (.ref b) H')
section
variable {P : Program} {w : World} {K : PySem.W.Frag} {mg : Str → Option Value} {base : Heap}
theorem ok_bof {f f1 f2 CB CF : Addr} {fd fd1 fd2 : FuncData} {mc : Value} (B : Blt mg) (Z : ZB K mg CB mc) (F : Fun K "of" "Book.of" s_Book_of f fd) (MB : Mk K CB f1) {ds : List Value} (hdI : Vals [.bl false] ds) (hbI : Binds K fd1 ["self", "rings"] ds)
    (Ginit : FnOk P w K mg base CX0 1 f1 fd1 ["self", "rings"] (spBInit CB)) (mT : Meth K CB "tell" f2) (bT : Binds K fd2 ["self", "saying"] []) (Gtell : FnOk P w K mg base (L2.CX P w) 1 f2 fd2 ["self", "saying"] (spBTell CB CF)) :
    FnOk P w K mg base (L2.CX P w) 3 f fd ["cls", "sayings"] (spBOf CB CF) := by
  refine F.okX sc_Book_of (fun vs H Q E h => ?_) (fun cdv A outer s H vs Q E hr h => ?_)
  · obtain ⟨l, us, rfl, _⟩ := h
    rfl
  · obtain ⟨l, us, rfl, hl, hu, q1, q2⟩ := h
    refine ⟨_, (pss_cons (ps_set (i := 2) sc_Book_of.nd rfl (.inl rfl) (pe_makeL0 (i := 0) MB Ginit (hr.mono (by decide)) rfl (.inl rfl) hbI hdI pass0))
      (pss_cons (ps_for (passes_of rfl) rfl (pi_listK (K := K) rfl (pv 1)) (pg_name (i := 3) sc_Book_of.nd rfl (.inl rfl)) (pss_one (ps_expr (pe_meth (pv 2) Z.cl mT Gtell (hr.mono (by decide)) bT .nil (passes_call (takes_of rfl rfl rfl rfl) (fun _ _ _ _ h => h)) (pa_cons (pv 3) pa_nil)))))
      (pss_one (ps_ret (pv 2))))), ?_⟩
    walk_at "begin"
    walk_at "go"
    refine ⟨rfl, fun b dx nb ndx ne => ⟨b, dx, false, rfl, upd_same, fun d H1 hd hB hK => ⟨rfl, ?_⟩⟩⟩
    obtain ⟨hdb, hd2⟩ := upd_none hd
    obtain ⟨hdd, hd3⟩ := upd_none hd2
    have s0 : Same H (upd (upd H dx (.own b)) b (.ins CB dx [])) := same_off nb (same_new ndx)
    have s1 : Same H H1 := same_kp s0 hK fun c hc => by have hc : c = b := hc; rw [hc]; exact nb
    walk_at "go"
    refine r_forL (s1 _ _ hl) (fun i σ X => ∃ y, σ = [some (.ref CB), some (.ref l), some (.ref b), y] ∧ Same H X ∧ Bk CB X b d (enK 1 (us.take i)) (i + 1) false ∧ i ≤ 6) ⟨_, rfl, s1, (by rw [List.take_zero]; exact hB), by decide⟩ ?_ ?_ ?_
    · rintro i σ X _ ⟨y, rfl, x1, _⟩
      exact x1 _ _ hl
    · rintro i x σ X hx ⟨y, rfl, x1, x2, x3⟩
      have hi : i < us.length := (List.getElem?_eq_some_iff.mp hx).1
      have hln : (enK 1 (us.take i)).length = i := by rw [enK_len, List.length_take]; omega
      walk_at "go"
      refine r_meth ?_
      walk_at "go"
      obtain ⟨dx2, ob⟩ := x2.ob
      refine ⟨b, dx2, _, rfl, ob, bf_tell, ?_⟩
      walk_at "go"
      refine ⟨b, d, _, _, _, x, rfl, x2, ?_, fun h6 => ?_, fun h6 X2 hB2 hK2 => ?_⟩
      · refine valV_up fun p hp => ?_
        obtain ⟨z, k1, k2, k3, _⟩ := enK_mem _ _ _ hp
        rw [List.length_take] at k3
        exact ⟨z, k1, by omega⟩
      · rw [hln] at h6
        exact q1 (by omega) X x1
      · rw [hln] at h6
        walk_at "go"
        refine ⟨_, rfl, same_kp x1 hK2 fun c hc => ?_, ?_, by omega⟩
        · rcases hc with e | e
          · rw [e]; exact nb
          · rw [e]; exact hd3
        · have e : enK 1 (us.take (i + 1)) = enK 1 (us.take i) ++ [(Sum.inl ((i : Int) + 1), x)] := by
            rw [List.take_add_one, hx]
            show enK 1 (us.take i ++ [x]) = _
            rw [enK_push, List.length_take, show (1 : Int) + ((min i us.length : Nat) : Int) = (i : Int) + 1 by omega]
          rw [e]
          exact hB2
    · rintro σ X ⟨y, rfl, x1, x2, x3⟩
      walk_at "go"
      rw [List.take_length] at x2
      exact q2 x3 X b d x1 nb hd3 x2
end
end K53
namespace K53
open PySem PySem.Spec PyProof.Rows L2 Lw


local macro_rules | `(tactic| walk_at "look") => `(tactic| first
  | assumption
  | with_reducible exact upd_same
  | with_reducible exact rg_st
  | with_reducible exact rg_g (by assumption)
  | (with_reducible refine upd_old (by assumption) ?_; walk_at "look")
  | (with_reducible refine rg_get (by assumption) ?_; walk_at "look")
  | (with_reducible refine Same.get (by assumption) ?_; walk_at "look"))
local macro_rules | `(tactic| walk_at "cond") => `(tactic| first
  | (show _ ≠ _; omega) | exact cdivN (by omega) (by omega) | exact cmul_mod (by decide) (by decide) | exact cmulR (by omega) (by omega) | exact cmulL (by omega) (by omega) | exact cpow (by omega) (by omega) (by omega) (by omega) | (show (0:Int) ≤ _; omega))
local macro_rules | `(tactic| walk_at "at") => `(tactic| first | assumption | with_unfolding_all rfl)
local macro_rules | `(tactic| walk_at "sz") => `(tactic| first | assumption | (refine small ?_; omega) | (refine small ?_; simp only [List.length_map, List.length_append, List.length_cons, List.length_nil]; omega))
local macro_rules | `(tactic| walk_at "len") => `(tactic| first | exact size_nil | exact Nat.le_of_lt (small (by simp only [List.length_cons, List.length_nil, List.length_map]; omega)))
local macro_rules | `(tactic| walk_at "newD") => `(tactic| (refine ⟨by walk_at "len", fun p np => ?_⟩; obtain ⟨e, o', hD', n', ne'⟩ := newTD_eq (topRg _ _) (by assumption) (by assumption) np (.lst _); rw [e]; clear e))
local macro_rules | `(tactic| walk_at "new") => `(tactic| (refine ⟨by walk_at "len", fun p np => ?_⟩; obtain ⟨e, o', n'⟩ := newT_eq (topRg _ _) (by assumption) np (.lst _); rw [e]; clear e))
local macro_rules | `(tactic| walk_at "st") => `(tactic| first
  | with_reducible refine r_seq ?_
  | with_reducible refine r_var rfl ?_
  | with_reducible refine r_c ?_
  | with_reducible refine r_asg ?_
  | (with_reducible refine r_name ?_; dsimp only [List.set_cons_zero, List.set_cons_succ])
  | with_reducible refine r_sub ?_
  | with_reducible refine r_op ?_
  | with_reducible refine r_i0 ?_
  | (with_reducible refine' r_i ?k1 ?_; (case k1 => walk_at "cond"))
  | with_reducible refine r_cons ?_
  | with_reducible refine r_nil ?_
  | with_reducible refine r_cb ?_
  | with_reducible refine r_call ?_
  | with_reducible refine r_ifs ?_
  | with_reducible refine r_test ?_
  | with_reducible refine r_tB ?_
  | with_reducible refine r_bl ?_
  | with_reducible refine r_ret ?_
  | with_reducible refine r_drop ?_
  | with_reducible refine r_next ?_
  | (with_reducible refine' r_ixL ?k1 ?k2 ?_; (case k1 => walk_at "look"); (case k2 => walk_at "at"))
  | (with_reducible refine' r_setL ?k1 ?k2 ?_; (case k1 => walk_at "look"); (case k2 => walk_at "at"))
  | (with_reducible refine' r_tup (SqT.of ?k1) ?k2 ?_; (case k1 => walk_at "look"); (case k2 => rfl))
  | with_reducible refine r_gcons ?_
  | with_reducible refine r_gnil ?_
  | with_reducible refine r_aug rfl ?_
  | with_reducible refine r_augS ?_
  | with_reducible refine r_ipI ?_
  | with_reducible refine r_un ?_
  | with_reducible refine r_u ?_
  | with_reducible refine r_eq rfl ?_
  | with_reducible refine r_ne rfl ?_
  | with_reducible refine r_chain ?_
  | with_reducible refine iteF ?_
  | with_reducible refine r_not ?_
  | with_reducible refine r_and ?_
  | with_reducible refine r_or ?_
  | with_reducible refine r_andV ?_
  | with_reducible refine r_orV ?_
  | with_reducible refine r_notV ?_
  | with_reducible refine r_lst ?_
  | with_reducible refine r_bm ?_
  | with_reducible refine r_bm0 ?_
  | (with_reducible refine' And.intro (r_ty ?k1) ?_; (case k1 => walk_at "look"))
  | (with_reducible refine' r_append ?k1 ?k2 ?_; (case k1 => walk_at "look"); (case k2 => walk_at "sz"))
  | (with_reducible refine' r_lenK ?k1 ?_; (case k1 => walk_at "look"))
  | (with_reducible refine' r_listOf ?k1 ?_; (case k1 => walk_at "look"))
  | (with_reducible refine' r_sortedI ?k1 ?_; (case k1 => walk_at "look"))
  | (with_reducible refine' r_sum ?k1 ?_; (case k1 => walk_at "look"))
  | with_reducible refine r_int ?_
  | (with_reducible refine' r_draw (by assumption) ?k1 ?k2 ?_; (case k1 => omega); (case k2 => omega); intro R' n' o' h' h'')
  | with_reducible refine iteT ?_
  | with_reducible refine r_revL ?_
  | with_reducible refine r_lc ?_
  | with_reducible refine r_yes ?_
  | with_reducible refine r_sl ?_
  | with_reducible refine iteNTr ?_
  | with_reducible refine iteNFa ?_
  | with_reducible refine r_fld ?_
  | with_reducible refine r_sFld ?_
  | with_reducible refine r_meth ?_
  | with_reducible refine r_methT ?_
  | with_reducible refine r_prop ?_
  | with_reducible refine r_dget ?_
  | with_reducible refine r_dput ?_
  | with_reducible refine r_noPart ?_
  | with_reducible refine r_part ?_
  | with_reducible refine r_lc2 ?_
  | with_reducible refine r_callN ?_
  | with_reducible refine r_callD ?_
  | with_reducible refine r_tupE ?_
  | with_reducible refine r_rng2 ?_
  | with_reducible refine r_i1 ?_
  | (with_reducible refine' r_slL ?k1 ?_; (case k1 => walk_at "look"))
  | with_reducible refine r_for ?_
  | with_reducible refine r_iList ?_
  | with_reducible refine r_rng1 ?_
  | with_reducible refine r_enum ?_
  | (with_reducible show Ends.nx _ _ _; dsimp only)
  | (with_reducible show Ends.rt _ _ _; dsimp only)
  | (with_reducible show Ends.ct _ _ _; dsimp only)
  | (with_reducible show Ends.bk _ _ _; dsimp only))
local macro_rules | `(tactic| walk_at "go") => `(tactic| repeat (walk_at "st"))
local macro_rules | `(tactic| walk_at "begin") => `(tactic| dsimp only [cxOf, wipe, L2.start, List.map, List.length_cons, List.length_nil, Nat.reduceAdd, Nat.reduceSub, List.replicate, List.cons_append, List.nil_append])


theorem valV_at : ∀ {kvs : List (Key × V)} {i : Nat} {k : Key} {v : V}, (kvs.map (·.1)).Nodup → kvs[i]? = some (k, v) → valV kvs k = some v
  | [], _, _, _, _, h => by cases h
  | p :: r, 0, k, v, _, h => by
    have e : p = (k, v) := Option.some.inj h
    subst e
    exact valV_pos rfl
  | p :: r, i + 1, k, v, hn, h => by
    have hn' : (p.1 :: r.map (·.1)).Nodup := hn
    obtain ⟨h1, h2⟩ := List.nodup_cons.mp hn'
    rw [List.getElem?_cons_succ] at h
    have hm : k ∈ r.map (·.1) := List.mem_map.mpr ⟨(k, v), List.mem_of_getElem? h, rfl⟩
    rw [valV_neg (fun e => h1 (e ▸ hm))]
    exact valV_at h2 h
theorem r_ne_i {i j : Int} {A B : Prop} (e : i = j) (h : B) : if (!decide (V.int i = V.int j)) = true then A else B := by
  rw [e, decide_eq_true (rfl : V.int j = V.int j), if_neg (by decide)]
  exact h
def spIsN : Sp := fun vs H Q _ => ∃ (a b : Int), vs = [.int a, .int b] ∧ Q (.bl (decide (a = b))) H
def spIsS : Sp := fun vs H Q _ => ∃ (v : V) (t : Tre), vs = [v, v] ∧ Tat H v t ∧ t.deep ≤ 30 ∧ Q (.bl true) H
/-- what a dict of sayings is: the keys below n -/
structure Kv (H : Hp) (kvs : List (Key × V)) (n : Int) : Prop where
  nd : (kvs.map (·.1)).Nodup
  key : ∀ p ∈ kvs, ∃ z : Int, p.1 = Sum.inl z ∧ 1 ≤ z ∧ z < n
  val : ∀ p ∈ kvs, ∃ t, Tat H p.2 t ∧ t.deep ≤ 30
  len : kvs.length ≤ 6
theorem Kv.keep {H H' : Hp} {kvs : List (Key × V)} {n : Int} (h : Kv H kvs n) (k : KT H H') : Kv H' kvs n := ⟨h.nd, h.key, fun p hp => by
  obtain ⟨t, h1, h2⟩ := h.val p hp
  exact ⟨t, h1.keep k, h2⟩, h.len⟩
def spLists : Sp := fun vs H Q _ => ∃ (l e : Addr) (ts : List Addr) (kvs : List (Key × V)) (n : Int), vs = [.ref l, .ref e] ∧ H l = some (.lst (ts.map V.ref)) ∧ Paired (fun (t : Addr) (q : Key × V) => H t = some (.tup [kV q.1, q.2])) ts kvs ∧ H e = some (.dK kvs) ∧ Kv H kvs n ∧
  ∀ H', Same H H' → Q (.bl true) H'
section
variable {P : Program} {w : World} {K : PySem.W.Frag} {mg : Str → Option Value} {base : Heap}
theorem ok_is_number {f : Addr} {fd : FuncData} (B : Blt mg) (D : Dn K mg "_law_is_number" s__law_is_number ["told", "due"] f fd) : FnOk P w K mg base CX0 1 f fd ["told", "due"] spIsN := by
  refine D.F.ok sc__law_is_number (fun vs H Q E h => ?_) (fun cdv A outer s H vs Q E hr h => ?_)
  · obtain ⟨a, b, rfl, _⟩ := h
    rfl
  · obtain ⟨a, b, rfl, q⟩ := h
    refine ⟨_, (pss_one (ps_ret (pe_and (pe_callB (call_isiK' (K := K) rfl) (by rfl) B.m_isinstance (by decide +kernel) (pa_cons (pv 0) (pa_cons (pe_bltn (v := .ty "int") (by rfl) B.m_int (by decide +kernel) rfl) pa_nil))) (pe_and (pe_not (pe_callB (call_isiK' (K := K) rfl) (by rfl) B.m_isinstance (by decide +kernel) (pa_cons (pv 0) (pa_cons (pe_bltn (v := .ty "bool") (by rfl) B.m_bool (by decide +kernel) rfl) pa_nil)))) (pe_one (pe_cmpR op_eq (pv 0) (pv 1) (nomark _))))))), ?_⟩
    walk_at "begin"
    walk_at "go"
    refine r_isi (r := true) (.base (.int _)) (by decide +kernel) ?_
    walk_at "go"
    refine r_isi (r := false) (.base (.int _)) (by decide +kernel) ?_
    walk_at "go"
    have e : decide (V.int a = V.int b) = decide (a = b) := decide_eq_decide.mpr int_eq
    show Q (.bl (decide (V.int a = V.int b))) H
    rw [e]
    exact q
theorem ok_is_saying {f : Addr} {fd : FuncData} (B : Blt mg) (D : Dn K mg "_law_is_saying" s__law_is_saying ["told", "due"] f fd) : FnOk P w K mg base CX0 1 f fd ["told", "due"] spIsS := by
  refine D.F.ok sc__law_is_saying (fun vs H Q E h => ?_) (fun cdv A outer s H vs Q E hr h => ?_)
  · obtain ⟨v, t, rfl, _⟩ := h
    rfl
  · obtain ⟨v, t, rfl, hT, hd, q⟩ := h
    refine ⟨_, (pss_one (ps_ret (pe_and (pe_callB (call_isiK' (K := K) rfl) (by rfl) B.m_isinstance (by decide +kernel) (pa_cons (pv 0) (pa_cons (pe_bltn (v := .ty "tuple") (by rfl) B.m_tuple (by decide +kernel) rfl) pa_nil))) (pe_one (pe_cmpR (op_eqDK (K := K) rfl hr.units) (pv 0) (pv 1) (nomark _)))))), ?_⟩
    walk_at "begin"
    walk_at "go"
    obtain ⟨b, xs, rfl, hb⟩ : ∃ b xs, v = .ref b ∧ H b = some (.tup xs) := by
      cases t with
      | nm x => obtain ⟨b, e, hb, _⟩ := hT; exact ⟨b, _, e, hb⟩
      | nd k2 ps2 => obtain ⟨b, vs2, e, hb, _⟩ := hT; exact ⟨b, _, e, hb⟩
    refine r_isi (r := true) (.base (.tup hb)) (by decide +kernel) ?_
    walk_at "go"
    refine r_eqT hT hT (by omega) (by omega) fun c hc => ?_
    rw [hc.mpr rfl]
    exact q
theorem ok_lists {f f1 f2 : Addr} {fd fd1 fd2 : FuncData} (B : Blt mg) (D : Dn K mg "_law_lists" s__law_lists ["told", "kept"] f fd) (D_law_is_number : Dn K mg "_law_is_number" s__law_is_number ["told", "due"] f1 fd1) (G_law_is_number : FnOk P w K mg base CX0 1 f1 fd1 ["told", "due"] spIsN)
    (D_law_is_saying : Dn K mg "_law_is_saying" s__law_is_saying ["told", "due"] f2 fd2) (G_law_is_saying : FnOk P w K mg base CX0 1 f2 fd2 ["told", "due"] spIsS) : FnOk P w K mg base CX0 2 f fd ["told", "kept"] spLists := by
  refine D.F.ok sc__law_lists (fun vs H Q E h => ?_) (fun cdv A outer s H vs Q E hr h => ?_)
  · obtain ⟨l, e, ts, kvs, n, rfl, _⟩ := h
    rfl
  · obtain ⟨l, e, ts, kvs, n, rfl, hl, hp, he, hk, q⟩ := h
    refine ⟨_, (pss_cons (ps_lock (ps_setLc (i := 2) (own := [("number", 4)]) rfl sc__law_lists.nd rfl rfl (sw_true rfl rfl rfl (by decide +kernel)) (pi_keys (pv 1)) (blkOk_by (own := [("number", 4)]) (by kernel_rfl))
        (fun _ _ _ _ _ => (pg_name (i := 4) sc__law_lists.nd rfl (.inl rfl))) (fun _ _ _ _ _ => pts_nil)
        (fun _ _ _ _ _ => (pv 4))))
      (pss_cons (ps_if (PW.pt (pw_or (pt_not (pt_val (pe_callB (call_isiK' (K := K) rfl) (by rfl) B.m_isinstance (by decide +kernel) (pa_cons (pv 0) (pa_cons (pe_bltn (v := .ty "list") (by rfl) B.m_list (by decide +kernel) rfl) pa_nil))))) (pw_or1 (pt_cmpR op_ne (pe_callB (call_len_seqK (K := K) rfl) (by rfl) B.m_len PySem.boot_len (pa_cons (pv 0) pa_nil)) (pe_callB (call_len_seqK (K := K) rfl) (by rfl) B.m_len PySem.boot_len (pa_cons (pv 2) pa_nil)) (nomark _))))) (pss_one (ps_ret pe_bl)) pss_nil)
      (pss_cons (ps_for PassesOwn.never rfl (pi_range1 (by rfl) B.m_range (pa_cons (pe_callB (call_len_seqK (K := K) rfl) (by rfl) B.m_len PySem.boot_len (pa_cons (pv 2) pa_nil)) pa_nil)) (pg_name (i := 3) sc__law_lists.nd rfl (.inl rfl)) (pss_cons (ps_if (PW.pt (pw_or (pt_not (pt_val (pe_callB (call_isiK' (K := K) rfl) (by rfl) B.m_isinstance (by decide +kernel) (pa_cons (pe_ix (ix_listK (K := K) rfl) (pv 0) (pv 3) (fun _ _ => rfl)) (pa_cons (pe_bltn (v := .ty "tuple") (by rfl) B.m_tuple (by decide +kernel) rfl) pa_nil))))) (pw_or1 (pt_cmpR op_ne (pe_callB (call_len_seqK (K := K) rfl) (by rfl) B.m_len PySem.boot_len (pa_cons (pe_ix (ix_listK (K := K) rfl) (pv 0) (pv 3) (fun _ _ => rfl)) pa_nil)) pe_int (nomark _))))) (pss_one (ps_ret pe_bl)) pss_nil)
      (pss_one (ps_if (PW.pt (pw_or (pt_not (pt_val (pe_call G_law_is_number (hr.mono (by decide)) (by rfl) D_law_is_number.g D_law_is_number.F.kp D_law_is_number.b .nil pass0 (pa_cons (pe_ix (ix_tupK (K := K) rfl) (pe_ix (ix_listK (K := K) rfl) (pv 0) (pv 3) (fun _ _ => rfl)) pe_int (fun _ _ => rfl)) (pa_cons (pe_ix (ix_listK (K := K) rfl) (pv 2) (pv 3) (fun _ _ => rfl)) pa_nil))))) (pw_or1 (pt_not (pt_val (pe_call G_law_is_saying (hr.mono (by decide)) (by rfl) D_law_is_saying.g D_law_is_saying.F.kp D_law_is_saying.b .nil pass0 (pa_cons (pe_ix (ix_tupK (K := K) rfl) (pe_ix (ix_listK (K := K) rfl) (pv 0) (pv 3) (fun _ _ => rfl)) pe_int (fun _ _ => rfl)) (pa_cons (pe_dget (hu_of hr) (pv 1) (pe_ix (ix_listK (K := K) rfl) (pv 2) (pv 3) (fun _ _ => rfl)) (fun _ _ => rfl)) pa_nil)))))))) (pss_one (ps_ret pe_bl)) pss_nil))))
      (pss_one (ps_ret pe_bl))))), ?_⟩
    walk_at "begin"
    walk_at "go"
    refine ⟨e, _, he, trivial, fun od => ?_⟩
    walk_at "go"
    refine r_keys (d := e) (o := od) (kvs := kvs) ?_ m_var
    walk_at "go"
    refine ⟨rfl, upd_same, fun p np => ?_⟩
    obtain ⟨h1, h2, h3⟩ := unlocked he np
    refine lc_it walk_keys (fun i H' => H' = upd (upd H e (.frz od (.dK kvs))) p (.lst ((keysV kvs).take i))) rfl ?_ ?_ ?_
    · rintro i H' _ rfl
      rw [upd_ne h1.symm, upd_same]
    · rintro i x H' H2 hi rfl ⟨rfl, k, v, hkv, rfl⟩
      walk_at "begin"
      walk_at "go"
      refine ⟨rfl, ?_⟩
      walk_at "go"
      have hk1 : (keysV kvs)[i]? = some (kV k) := by unfold keysV; rw [List.getElem?_map, hkv]; rfl
      refine ⟨_, upd_same, small (by rw [List.length_take]; have := hk.len; omega), ?_⟩
      rw [upd_upd, tk_succ hk1]
    · rintro H' rfl
      have el : (keysV kvs).length = kvs.length := by unfold keysV; rw [List.length_map]
      have et : (keysV kvs).take kvs.length = keysV kvs := by rw [← el, List.take_length]
      rw [et]
      walk_at "go"
      refine ⟨by rw [upd_ne h1.symm, upd_same], ?_⟩
      rw [h3]
      have hp1 : upd H p (.lst (keysV kvs)) p = some (.lst (keysV kvs)) := upd_same
      have hS := same_new (o := .lst (keysV kvs)) h2
      generalize upd H p (.lst (keysV kvs)) = H1 at hp1 hS ⊢
      have hl1 := hS _ _ hl
      have he1 := hS _ _ he
      have lt : ts.length = kvs.length := hp.length
      walk_at "go"
      refine r_isi (r := true) (.base (.lst hl1)) (by decide +kernel) ?_
      walk_at "go"
      refine r_ne_i (by rw [List.length_map, el, lt]) ?_
      walk_at "go"
      rw [el]
      refine r_forR (by omega) (by have := hk.len; omega) (fun i σ X => ∃ y, σ = [some (.ref l), some (.ref e), some (.ref p), y, none] ∧ X = H1) ⟨_, rfl, rfl⟩ ?_ ?_
      · rintro i σ X hi ⟨y, rfl, rfl⟩
        have hi : i < kvs.length := by omega
        obtain ⟨q1, hq⟩ : ∃ q, kvs[i]? = some q := ⟨_, List.getElem?_eq_getElem hi⟩
        obtain ⟨t1, ht1⟩ : ∃ t, ts[i]? = some t := ⟨_, List.getElem?_eq_getElem (by omega)⟩
        obtain ⟨q2, hq2, htup⟩ := LiI.paired_get hp ht1
        have e2 : q1 = q2 := Option.some.inj (hq.symm.trans hq2)
        subst e2
        obtain ⟨z, hz, hz1, hz2⟩ := hk.key q1 (List.mem_of_getElem? hq)
        obtain ⟨tr, htr, hdp⟩ := hk.val q1 (List.mem_of_getElem? hq)
        obtain ⟨k1, v1⟩ := q1
        dsimp only at hz htr hdp htup
        subst hz
        have htup1 := hS _ _ htup
        have hn1 : (keysV kvs)[i]? = some (.int z) := by unfold keysV; rw [List.getElem?_map, hq]; rfl
        have hat1 : atI (keysV kvs) (i : Int) = some (.int z) := at_of rfl hn1
        have hat2 : atI (ts.map V.ref) (i : Int) = some (.ref t1) := at_of rfl (by rw [List.getElem?_map, ht1]; rfl)
        have hv : valV kvs (Sum.inl z : Key) = some v1 := valV_at hk.nd hq
        walk_at "go"
        refine r_isi (r := true) (.base (.tup htup1)) (by decide +kernel) ?_
        walk_at "go"
        refine r_lenT htup1 ?_
        walk_at "go"
        refine r_ne_i rfl ?_
        walk_at "go"
        refine r_ixT htup1 (v := .int z) (i := 0) rfl ?_
        walk_at "go"
        refine ⟨z, z, rfl, ?_⟩
        rw [decide_eq_true (rfl : z = z)]
        walk_at "go"
        refine r_ixT htup1 (v := v1) (i := 1) rfl ?_
        walk_at "go"
        refine ⟨e, v1, rfl, by rw [← hv]; exact DGet.k (k := Sum.inl z) he1, ?_⟩
        walk_at "go"
        refine ⟨v1, tr, rfl, htr.keep (KT.of hS), hdp, ?_⟩
        walk_at "go"
        exact ⟨_, rfl, rfl⟩
      · rintro σ X ⟨y, rfl, rfl⟩
        walk_at "go"
        exact q _ hS
end
end K53
namespace K53
open PySem PySem.Spec PyProof.Rows L2 Lw


local macro_rules | `(tactic| walk_at "look") => `(tactic| first
  | assumption
  | with_reducible exact upd_same
  | with_reducible exact rg_st
  | with_reducible exact rg_g (by assumption)
  | (with_reducible refine upd_old (by assumption) ?_; walk_at "look")
  | (with_reducible refine rg_get (by assumption) ?_; walk_at "look")
  | (with_reducible refine Same.get (by assumption) ?_; walk_at "look"))
local macro_rules | `(tactic| walk_at "cond") => `(tactic| first
  | (show _ ≠ _; omega) | exact cdivN (by omega) (by omega) | exact cmul_mod (by decide) (by decide) | exact cmulR (by omega) (by omega) | exact cmulL (by omega) (by omega) | exact cpow (by omega) (by omega) (by omega) (by omega) | (show (0:Int) ≤ _; omega))
local macro_rules | `(tactic| walk_at "at") => `(tactic| first | assumption | with_unfolding_all rfl)
local macro_rules | `(tactic| walk_at "sz") => `(tactic| first | assumption | (refine small ?_; omega) | (refine small ?_; simp only [List.length_map, List.length_append, List.length_cons, List.length_nil]; omega))
local macro_rules | `(tactic| walk_at "len") => `(tactic| first | exact size_nil | exact Nat.le_of_lt (small (by simp only [List.length_cons, List.length_nil, List.length_map]; omega)))
local macro_rules | `(tactic| walk_at "newD") => `(tactic| (refine ⟨by walk_at "len", fun p np => ?_⟩; obtain ⟨e, o', hD', n', ne'⟩ := newTD_eq (topRg _ _) (by assumption) (by assumption) np (.lst _); rw [e]; clear e))
local macro_rules | `(tactic| walk_at "new") => `(tactic| (refine ⟨by walk_at "len", fun p np => ?_⟩; obtain ⟨e, o', n'⟩ := newT_eq (topRg _ _) (by assumption) np (.lst _); rw [e]; clear e))
local macro_rules | `(tactic| walk_at "st") => `(tactic| first
  | with_reducible refine r_seq ?_
  | with_reducible refine r_var rfl ?_
  | with_reducible refine r_c ?_
  | with_reducible refine r_asg ?_
  | (with_reducible refine r_name ?_; dsimp only [List.set_cons_zero, List.set_cons_succ])
  | with_reducible refine r_sub ?_
  | with_reducible refine r_op ?_
  | with_reducible refine r_i0 ?_
  | (with_reducible refine' r_i ?k1 ?_; (case k1 => walk_at "cond"))
  | with_reducible refine r_cons ?_
  | with_reducible refine r_nil ?_
  | with_reducible refine r_cb ?_
  | with_reducible refine r_call ?_
  | with_reducible refine r_ifs ?_
  | with_reducible refine r_test ?_
  | with_reducible refine r_tB ?_
  | with_reducible refine r_bl ?_
  | with_reducible refine r_ret ?_
  | with_reducible refine r_drop ?_
  | with_reducible refine r_next ?_
  | (with_reducible refine' r_ixL ?k1 ?k2 ?_; (case k1 => walk_at "look"); (case k2 => walk_at "at"))
  | (with_reducible refine' r_setL ?k1 ?k2 ?_; (case k1 => walk_at "look"); (case k2 => walk_at "at"))
  | (with_reducible refine' r_tup (SqT.of ?k1) ?k2 ?_; (case k1 => walk_at "look"); (case k2 => rfl))
  | with_reducible refine r_gcons ?_
  | with_reducible refine r_gnil ?_
  | with_reducible refine r_aug rfl ?_
  | with_reducible refine r_augS ?_
  | with_reducible refine r_ipI ?_
  | with_reducible refine r_un ?_
  | with_reducible refine r_u ?_
  | with_reducible refine r_eq rfl ?_
  | with_reducible refine r_ne rfl ?_
  | with_reducible refine r_chain ?_
  | with_reducible refine iteF ?_
  | with_reducible refine r_not ?_
  | with_reducible refine r_and ?_
  | with_reducible refine r_or ?_
  | with_reducible refine r_andV ?_
  | with_reducible refine r_orV ?_
  | with_reducible refine r_notV ?_
  | with_reducible refine r_lst ?_
  | with_reducible refine r_bm ?_
  | with_reducible refine r_bm0 ?_
  | (with_reducible refine' And.intro (r_ty ?k1) ?_; (case k1 => walk_at "look"))
  | (with_reducible refine' r_append ?k1 ?k2 ?_; (case k1 => walk_at "look"); (case k2 => walk_at "sz"))
  | (with_reducible refine' r_lenK ?k1 ?_; (case k1 => walk_at "look"))
  | (with_reducible refine' r_listOf ?k1 ?_; (case k1 => walk_at "look"))
  | (with_reducible refine' r_sortedI ?k1 ?_; (case k1 => walk_at "look"))
  | (with_reducible refine' r_sum ?k1 ?_; (case k1 => walk_at "look"))
  | with_reducible refine r_int ?_
  | (with_reducible refine' r_draw (by assumption) ?k1 ?k2 ?_; (case k1 => omega); (case k2 => omega); intro R' n' o' h' h'')
  | with_reducible refine iteT ?_
  | with_reducible refine r_revL ?_
  | with_reducible refine r_lc ?_
  | with_reducible refine r_yes ?_
  | with_reducible refine r_sl ?_
  | with_reducible refine iteNTr ?_
  | with_reducible refine iteNFa ?_
  | with_reducible refine r_fld ?_
  | with_reducible refine r_sFld ?_
  | with_reducible refine r_meth ?_
  | with_reducible refine r_methT ?_
  | with_reducible refine r_prop ?_
  | with_reducible refine r_dget ?_
  | with_reducible refine r_dput ?_
  | with_reducible refine r_noPart ?_
  | with_reducible refine r_part ?_
  | with_reducible refine r_lc2 ?_
  | with_reducible refine r_callN ?_
  | with_reducible refine r_callD ?_
  | with_reducible refine r_tupE ?_
  | with_reducible refine r_rng2 ?_
  | with_reducible refine r_i1 ?_
  | (with_reducible refine' r_slL ?k1 ?_; (case k1 => walk_at "look"))
  | with_reducible refine r_for ?_
  | with_reducible refine r_iList ?_
  | with_reducible refine r_rng1 ?_
  | with_reducible refine r_enum ?_
  | (with_reducible show Ends.nx _ _ _; dsimp only)
  | (with_reducible show Ends.rt _ _ _; dsimp only)
  | (with_reducible show Ends.ct _ _ _; dsimp only)
  | (with_reducible show Ends.bk _ _ _; dsimp only))
local macro_rules | `(tactic| walk_at "go") => `(tactic| repeat (walk_at "st"))
local macro_rules | `(tactic| walk_at "begin") => `(tactic| dsimp only [cxOf, wipe, L2.start, List.map, List.length_cons, List.length_nil, Nat.reduceAdd, Nat.reduceSub, List.replicate, List.cons_append, List.nil_append])


/-- a row of the law: a book and what is due of it -/
structure Row (CB : Addr) (H : Hp) (r b d e : Addr) (kvs : List (Key × V)) (n : Int) (ring : Bool) : Prop where
  row : H r = some (.lst [.ref b, .ref e, .int n, .bl ring])
  bk : Bk CB H b d kvs n ring
  ke : H e = some (.dK kvs)
  kv : Kv H kvs n
  de : d ≠ e
  n1 : 1 ≤ n
theorem Bk.same {CB : Addr} {H H' : Hp} {b d : Addr} {kvs : List (Key × V)} {n : Int} {r : Bool} (h : Bk CB H b d kvs n r) (s : Same H H') : Bk CB H' b d kvs n r := by
  obtain ⟨⟨dx, h1⟩, h2⟩ := h
  exact ⟨⟨dx, s _ _ h1⟩, s _ _ h2⟩
theorem Row.same {CB : Addr} {H H' : Hp} {r b d e : Addr} {kvs : List (Key × V)} {n : Int} {ring : Bool} (h : Row CB H r b d e kvs n ring) (s : Same H H') : Row CB H' r b d e kvs n ring :=
  ⟨s _ _ h.row, h.bk.same s, s _ _ h.ke, h.kv.keep (KT.of s), h.de, h.n1⟩
def spLooked (CB : Addr) : Sp := fun vs H Q _ => ∃ (r b d e : Addr) (kvs : List (Key × V)) (n : Int) (ring : Bool), vs = [.ref r] ∧ Row CB H r b d e kvs n ring ∧ ∀ H', Same H H' → Q (.bl true) H'
theorem lk_facts {r : Bool} {d : Addr} {n : Int} : (bf r d n).lookup ("facts" : Str) = none := rfl
section
variable {P : Program} {w : World} {K : PySem.W.Frag} {mg : Str → Option Value} {base : Heap}
theorem ok_looked {f f1 f2 fF fS pS CB : Addr} {fd fd1 fd2 fdF fdS : FuncData} {mc : Value} (B : Blt mg) (Z : ZB K mg CB mc)
    (mF : Meth K CB "facts" fF) (bF : Binds K fdF ["self"] []) (Gfacts : FnOk P w K mg base CX0 1 fF fdF ["self"] (spBFacts CB))
    (hpS : PropOf K CB "size" pS fS) (bS : Binds K fdS ["self"] []) (Gsize : FnOk P w K mg base CX0 1 fS fdS ["self"] (spBSize CB))
    (D : Dn K mg "_law_looked" s__law_looked ["row"] f fd) (D_law_lists : Dn K mg "_law_lists" s__law_lists ["told", "kept"] f1 fd1) (G_law_lists : FnOk P w K mg base CX0 2 f1 fd1 ["told", "kept"] spLists)
    (D_law_is_number : Dn K mg "_law_is_number" s__law_is_number ["told", "due"] f2 fd2) (G_law_is_number : FnOk P w K mg base CX0 1 f2 fd2 ["told", "due"] spIsN) : FnOk P w K mg base CX0 3 f fd ["row"] (spLooked CB) := by
  refine D.F.ok sc__law_looked (fun vs H Q E h => ?_) (fun cdv A outer s H vs Q E hr h => ?_)
  · obtain ⟨r, b, d, e, kvs, n, ring, rfl, _⟩ := h
    rfl
  · obtain ⟨r, b, d, e, kvs, n, ring, rfl, hR, q⟩ := h
    refine ⟨_, (pss_cons (ps_set (i := 1) sc__law_looked.nd rfl (.inl rfl) (pe_ix (ix_listK (K := K) rfl) (pv 0) pe_int (fun _ _ => rfl)))
      (pss_cons (ps_set (i := 2) sc__law_looked.nd rfl (.inl rfl) (pe_meth0 (pv 1) Z.cl mF Gfacts (hr.mono (by decide)) bF .nil pass0))
      (C8.pss_cut (ps_if (PW.pt (pw_or (pt_not (pt_val (pe_call G_law_lists (hr.mono (by decide)) (by rfl) D_law_lists.g D_law_lists.F.kp D_law_lists.b .nil pass0 (pa_cons (pv 2) (pa_cons (pe_ix (ix_listK (K := K) rfl) (pv 0) pe_int (fun _ _ => rfl)) pa_nil))))) (pw_or1 (pt_not (pt_val (pe_call G_law_is_number (hr.mono (by decide)) (by rfl) D_law_is_number.g D_law_is_number.F.kp D_law_is_number.b .nil pass0 (pa_cons (pe_prop (pv 1) Z.cl hpS Gsize (hr.mono (by decide)) bS .nil pass0 rfl) (pa_cons (pe_callB call_lenD (by rfl) B.m_len PySem.boot_len (pa_cons (pe_ix (ix_listK (K := K) rfl) (pv 0) pe_int (fun _ _ => rfl)) pa_nil)) pa_nil)))))))) (pss_one (ps_ret pe_bl)) pss_nil)
      (C8.pss_cut (ps_if (pt_cmpR op_gt (pe_callB (call_len_seqK (K := K) rfl) (by rfl) B.m_len PySem.boot_len (pa_cons (pv 2) pa_nil)) pe_int (nomark _)) (pss_one (ps_expr (pe_bmK (K := K) rfl PySem.F.plainAttrs_list PySem.F.slot_list_pop PySem.F.type_list_pop mt_popAt (pv 2) (pa_cons pe_int pa_nil)))) pss_nil)
      (pss_cons (ps_expr (pe_bmK (K := K) rfl PySem.F.plainAttrs_list PySem.F.slot_list_append PySem.F.type_list_append mt_append (pv 2) (pa_cons (pe_tup (pa_cons pe_int (pa_cons (pe_tup (pa_cons pe_str (pa_cons (pe_tup (pa_cons pe_str pa_nil)) (pa_cons (pe_tup (pa_cons pe_str pa_nil)) pa_nil)))) pa_nil))) pa_nil)))
      (C8.pss_cut (ps_if (PW.pt (pw_or (pt_not (pt_val (pe_call G_law_lists (hr.mono (by decide)) (by rfl) D_law_lists.g D_law_lists.F.kp D_law_lists.b .nil pass0 (pa_cons (pe_meth0 (pv 1) Z.cl mF Gfacts (hr.mono (by decide)) bF .nil pass0) (pa_cons (pe_ix (ix_listK (K := K) rfl) (pv 0) pe_int (fun _ _ => rfl)) pa_nil))))) (pw_or1 (pt_not (pt_val (pe_call G_law_is_number (hr.mono (by decide)) (by rfl) D_law_is_number.g D_law_is_number.F.kp D_law_is_number.b .nil pass0 (pa_cons (pe_prop (pv 1) Z.cl hpS Gsize (hr.mono (by decide)) bS .nil pass0 rfl) (pa_cons (pe_callB call_lenD (by rfl) B.m_len PySem.boot_len (pa_cons (pe_ix (ix_listK (K := K) rfl) (pv 0) pe_int (fun _ _ => rfl)) pa_nil)) pa_nil)))))))) (pss_one (ps_ret pe_bl)) pss_nil)
      (pss_one (ps_ret (pe_and (pe_callB (call_isiK' (K := K) rfl) (by rfl) B.m_isinstance (by decide +kernel) (pa_cons (pe_fld (pv 1) rfl) (pa_cons (pe_bltn (v := .ty "bool") (by rfl) B.m_bool (by decide +kernel) rfl) pa_nil))) (pe_one (pe_cmpR op_eq (pe_fld (pv 1) rfl) (pe_ix (ix_listK (K := K) rfl) (pv 0) pe_int (fun _ _ => rfl)) (nomark _)))))))))))), ?_⟩
    have hrow := hR.row
    walk_at "begin"
    walk_at "go"
    obtain ⟨dx, ob⟩ := hR.bk.ob
    refine ⟨b, dx, _, rfl, ob, lk_facts, ?_⟩
    walk_at "go"
    refine ⟨b, d, kvs, n, ring, rfl, hR.bk, fun H1 p ts hS1 np hp hP => ?_⟩
    walk_at "go"
    have hR1 := hR.same hS1
    have hrow1 := hR1.row
    have lt : ts.length = kvs.length := hP.length
    have hk6 := hR.kv.len
    refine ⟨fun σ HM => σ = [some (.ref r), some (.ref b), some (.ref p)] ∧ Same H1 HM, ?_, ?_⟩
    · walk_at "go"
      refine ⟨p, e, ts, kvs, n, rfl, hp, hP, hR1.ke, hR1.kv, fun H2 hS2 => ?_⟩
      have hR2 := hR1.same hS2
      have hrow2 := hR2.row
      walk_at "go"
      obtain ⟨dx2, ob2⟩ := hR2.bk.ob
      refine ⟨b, dx2, _, rfl, ob2, b, d, kvs, n, ring, rfl, hR2.bk, ?_⟩
      walk_at "go"
      refine r_lenD hR2.ke ?_
      walk_at "go"
      refine ⟨_, _, rfl, ?_⟩
      rw [decide_eq_true rfl]
      walk_at "go"
      exact ⟨rfl, hS2⟩
    · rintro σ HM ⟨rfl, hSM⟩
      have hpM := hSM _ _ hp
      have hRM := hR1.same hSM
      walk_at "go"
      refine ⟨fun σ HM => ∃ xs, σ = [some (.ref r), some (.ref b), some (.ref p)] ∧ Same H HM ∧ HM p = some (.lst xs) ∧ xs.length ≤ 6, ?_, ?_⟩
      · walk_at "go"
        refine r_ite (fun hz => ?_) (fun hz => ?_)
        · walk_at "go"
          have hix : seqIndex? 0 (ts.map V.ref).length = some 0 := by
            obtain ⟨k, hk⟩ : ∃ k, (ts.map V.ref).length = k + 1 := ⟨(ts.map V.ref).length - 1, by omega⟩
            rw [hk]
            unfold seqIndex?
            simp
          obtain ⟨y, hy⟩ : ∃ y, (ts.map V.ref)[0]? = some y := ⟨_, List.getElem?_eq_getElem (by omega)⟩
          refine ⟨p, _, 0, 0, y, rfl, rfl, hpM, by decide, by decide, hix, hy, ?_⟩
          walk_at "go"
          refine ⟨_, rfl, same_off np (hS1.trans hSM), upd_same, ?_⟩
          have := List.length_eraseIdx_le (ts.map V.ref) 0
          rw [List.length_map] at this
          omega
        · walk_at "go"
          exact ⟨_, rfl, hS1.trans hSM, hpM, by rw [List.length_map]; omega⟩
      · rintro σ HM2 ⟨xs, rfl, hSM2, hpM2, hx6⟩
        walk_at "go"
        refine ⟨by walk_at "len", fun p1 np1 => ?_⟩
        walk_at "go"
        refine ⟨by walk_at "len", fun p2 np2 => ?_⟩
        walk_at "go"
        refine ⟨by walk_at "len", fun p3 np3 => ?_⟩
        walk_at "go"
        refine ⟨by walk_at "len", fun p4 np4 => ?_⟩
        walk_at "go"
        generalize he4 : upd (upd (upd (upd HM2 p1 _) p2 _) p3 _) p4 _ = H4
        have s4 : Same HM2 H4 := by
          rw [← he4]
          exact (((same_new np1).trans (same_new np2)).trans (same_new np3)).trans (same_new np4)
        have hp4 := s4 _ _ hpM2
        have s5 : Same H (upd H4 p (.lst (xs ++ [.ref p4]))) := same_off np (hSM2.trans s4)
        generalize upd H4 p (.lst (xs ++ [.ref p4])) = H5 at s5 ⊢
        have hR5 := hR.same s5
        have hrow5 := hR5.row
        clear he4
        refine ⟨fun σ HM => σ = [some (.ref r), some (.ref b), some (.ref p)] ∧ Same H HM, ?_, ?_⟩
        · walk_at "go"
          obtain ⟨dx5, ob5⟩ := hR5.bk.ob
          refine ⟨b, dx5, _, rfl, ob5, lk_facts, ?_⟩
          walk_at "go"
          refine ⟨b, d, kvs, n, ring, rfl, hR5.bk, fun H6 p6 ts6 hS6 np6 hp6 hP6 => ?_⟩
          have hR6 := hR5.same hS6
          have hrow6 := hR6.row
          walk_at "go"
          refine ⟨p6, e, ts6, kvs, n, rfl, hp6, hP6, hR6.ke, hR6.kv, fun H7 hS7 => ?_⟩
          have hR7 := hR6.same hS7
          have hrow7 := hR7.row
          walk_at "go"
          obtain ⟨dx7, ob7⟩ := hR7.bk.ob
          refine ⟨b, dx7, _, rfl, ob7, b, d, kvs, n, ring, rfl, hR7.bk, ?_⟩
          walk_at "go"
          refine r_lenD hR7.ke ?_
          walk_at "go"
          refine ⟨_, _, rfl, ?_⟩
          rw [decide_eq_true rfl]
          walk_at "go"
          exact ⟨rfl, (s5.trans hS6).trans hS7⟩
        · rintro σ HM ⟨rfl, hSM9⟩
          have hR9 := hR.same hSM9
          have hrow9 := hR9.row
          obtain ⟨dx9, ob9⟩ := hR9.bk.ob
          walk_at "go"
          refine r_fldI ob9 Z.cl Z.nR bf_r ?_
          walk_at "go"
          refine r_isi (r := true) (.base (.bl _)) (by decide +kernel) ?_
          walk_at "go"
          refine r_fldI ob9 Z.cl Z.nR bf_r ?_
          walk_at "go"
          rw [decide_eq_true (rfl : V.bl ring = V.bl ring)]
          exact q _ hSM9
end
end K53
namespace K53
open PySem PySem.Spec PyProof.Rows L2 Lw


local macro_rules | `(tactic| walk_at "look") => `(tactic| first
  | assumption
  | with_reducible exact upd_same
  | with_reducible exact rg_st
  | with_reducible exact rg_g (by assumption)
  | (with_reducible refine upd_old (by assumption) ?_; walk_at "look")
  | (with_reducible refine rg_get (by assumption) ?_; walk_at "look")
  | (with_reducible refine Same.get (by assumption) ?_; walk_at "look"))
local macro_rules | `(tactic| walk_at "cond") => `(tactic| first
  | (show _ ≠ _; omega) | exact cdivN (by omega) (by omega) | exact cmul_mod (by decide) (by decide) | exact cmulR (by omega) (by omega) | exact cmulL (by omega) (by omega) | exact cpow (by omega) (by omega) (by omega) (by omega) | (show (0:Int) ≤ _; omega))
local macro_rules | `(tactic| walk_at "at") => `(tactic| first | assumption | with_unfolding_all rfl)
local macro_rules | `(tactic| walk_at "sz") => `(tactic| first | assumption | (refine small ?_; omega) | (refine small ?_; simp only [List.length_map, List.length_append, List.length_cons, List.length_nil]; omega))
local macro_rules | `(tactic| walk_at "len") => `(tactic| first | exact size_nil | exact Nat.le_of_lt (small (by simp only [List.length_cons, List.length_nil, List.length_map]; omega)))
local macro_rules | `(tactic| walk_at "newD") => `(tactic| (refine ⟨by walk_at "len", fun p np => ?_⟩; obtain ⟨e, o', hD', n', ne'⟩ := newTD_eq (topRg _ _) (by assumption) (by assumption) np (.lst _); rw [e]; clear e))
local macro_rules | `(tactic| walk_at "new") => `(tactic| (refine ⟨by walk_at "len", fun p np => ?_⟩; obtain ⟨e, o', n'⟩ := newT_eq (topRg _ _) (by assumption) np (.lst _); rw [e]; clear e))
local macro_rules | `(tactic| walk_at "st") => `(tactic| first
  | with_reducible refine r_seq ?_
  | with_reducible refine r_var rfl ?_
  | with_reducible refine r_c ?_
  | with_reducible refine r_asg ?_
  | (with_reducible refine r_name ?_; dsimp only [List.set_cons_zero, List.set_cons_succ])
  | with_reducible refine r_sub ?_
  | with_reducible refine r_op ?_
  | with_reducible refine r_i0 ?_
  | (with_reducible refine' r_i ?k1 ?_; (case k1 => walk_at "cond"))
  | with_reducible refine r_cons ?_
  | with_reducible refine r_nil ?_
  | with_reducible refine r_cb ?_
  | with_reducible refine r_call ?_
  | with_reducible refine r_ifs ?_
  | with_reducible refine r_test ?_
  | with_reducible refine r_tB ?_
  | with_reducible refine r_bl ?_
  | with_reducible refine r_ret ?_
  | with_reducible refine r_drop ?_
  | with_reducible refine r_next ?_
  | (with_reducible refine' r_ixL ?k1 ?k2 ?_; (case k1 => walk_at "look"); (case k2 => walk_at "at"))
  | (with_reducible refine' r_setL ?k1 ?k2 ?_; (case k1 => walk_at "look"); (case k2 => walk_at "at"))
  | (with_reducible refine' r_tup (SqT.of ?k1) ?k2 ?_; (case k1 => walk_at "look"); (case k2 => rfl))
  | with_reducible refine r_gcons ?_
  | with_reducible refine r_gnil ?_
  | with_reducible refine r_aug rfl ?_
  | with_reducible refine r_augS ?_
  | with_reducible refine r_ipI ?_
  | with_reducible refine r_un ?_
  | with_reducible refine r_u ?_
  | with_reducible refine r_eq rfl ?_
  | with_reducible refine r_ne rfl ?_
  | with_reducible refine r_chain ?_
  | with_reducible refine iteF ?_
  | with_reducible refine r_not ?_
  | with_reducible refine r_and ?_
  | with_reducible refine r_or ?_
  | with_reducible refine r_andV ?_
  | with_reducible refine r_orV ?_
  | with_reducible refine r_notV ?_
  | with_reducible refine r_lst ?_
  | with_reducible refine r_bm ?_
  | with_reducible refine r_bm0 ?_
  | (with_reducible refine' And.intro (r_ty ?k1) ?_; (case k1 => walk_at "look"))
  | (with_reducible refine' r_append ?k1 ?k2 ?_; (case k1 => walk_at "look"); (case k2 => walk_at "sz"))
  | (with_reducible refine' r_lenK ?k1 ?_; (case k1 => walk_at "look"))
  | (with_reducible refine' r_listOf ?k1 ?_; (case k1 => walk_at "look"))
  | (with_reducible refine' r_sortedI ?k1 ?_; (case k1 => walk_at "look"))
  | (with_reducible refine' r_sum ?k1 ?_; (case k1 => walk_at "look"))
  | with_reducible refine r_int ?_
  | (with_reducible refine' r_draw (by assumption) ?k1 ?k2 ?_; (case k1 => omega); (case k2 => omega); intro R' n' o' h' h'')
  | with_reducible refine iteT ?_
  | with_reducible refine r_revL ?_
  | with_reducible refine r_lc ?_
  | with_reducible refine r_yes ?_
  | with_reducible refine r_sl ?_
  | with_reducible refine iteNTr ?_
  | with_reducible refine iteNFa ?_
  | with_reducible refine r_fld ?_
  | with_reducible refine r_sFld ?_
  | with_reducible refine r_meth ?_
  | with_reducible refine r_methT ?_
  | with_reducible refine r_prop ?_
  | with_reducible refine r_dget ?_
  | with_reducible refine r_dput ?_
  | with_reducible refine r_noPart ?_
  | with_reducible refine r_part ?_
  | with_reducible refine r_lc2 ?_
  | with_reducible refine r_callN ?_
  | with_reducible refine r_callD ?_
  | with_reducible refine r_tupE ?_
  | with_reducible refine r_rng2 ?_
  | with_reducible refine r_i1 ?_
  | (with_reducible refine' r_slL ?k1 ?_; (case k1 => walk_at "look"))
  | with_reducible refine r_for ?_
  | with_reducible refine r_iList ?_
  | with_reducible refine r_rng1 ?_
  | with_reducible refine r_enum ?_
  | (with_reducible show Ends.nx _ _ _; dsimp only)
  | (with_reducible show Ends.rt _ _ _; dsimp only)
  | (with_reducible show Ends.ct _ _ _; dsimp only)
  | (with_reducible show Ends.bk _ _ _; dsimp only))
local macro_rules | `(tactic| walk_at "go") => `(tactic| repeat (walk_at "st"))
local macro_rules | `(tactic| walk_at "begin") => `(tactic| dsimp only [cxOf, wipe, L2.start, List.map, List.length_cons, List.length_nil, Nat.reduceAdd, Nat.reduceSub, List.replicate, List.cons_append, List.nil_append])


/-- what an error of the class C is: cE its base, cX another one's class -/
structure ExF (K : PySem.W.Frag) (mg : Str → Option Value) (xn : Str) (C cE cX : Addr) : Prop where
  c : ExcC K C
  self : PySem.W.exmOne K (.ref C) (.ref C) = some true
  gE : mg "SetnestsError" = some (.ref cE)
  gX : mg xn = some (.ref cX)
  mV : mg "ValueError" = none
  kE : PySem.W.kitOne K (.ref C) (.ref cE) = some true
  kV : PySem.W.kitOne K (.ref C) (.type "ValueError") = some true
  kX : PySem.W.kitOne K (.ref C) (.ref cX) = some false
def In4 (r b d e : Addr) : Addr → Prop := fun c => c = r ∨ c = b ∨ c = d ∨ c = e
theorem Row.kt {CB : Addr} {H H' : Hp} {r b d e : Addr} {kvs : List (Key × V)} {n : Int} {ring : Bool} (h : Row CB H r b d e kvs n ring) (k : Kp (In4 r b d e) H H') : KT H H' := fun c ys hc => k c _ hc fun z => by
  obtain ⟨dx, ob⟩ := h.bk.ob
  rcases z with z | z | z | z <;> subst z
  · rw [h.row] at hc; cases hc
  · rw [ob] at hc; cases hc
  · rw [h.bk.nu] at hc; cases hc
  · rw [h.ke] at hc; cases hc
theorem Row.ner {CB : Addr} {H : Hp} {r b d e : Addr} {kvs : List (Key × V)} {n : Int} {ring : Bool} (h : Row CB H r b d e kvs n ring) : r ≠ b ∧ r ≠ d ∧ r ≠ e ∧ b ≠ e := by
  obtain ⟨dx, ob⟩ := h.bk.ob
  refine ⟨fun z => ?_, fun z => ?_, fun z => ?_, fun z => ?_⟩
  · have := h.row; rw [z, ob] at this; cases this
  · have := h.row; rw [z, h.bk.nu] at this; cases this
  · have := h.row; rw [z, h.ke] at this; cases this
  · rw [z, h.ke] at ob; cases ob
theorem Kv.snoc {H : Hp} {kvs : List (Key × V)} {n : Int} {v : V} {t : Tre} (h : Kv H kvs n) (n1 : 1 ≤ n) (hT : Tat H v t) (hd : t.deep ≤ 30) (h6 : kvs.length < 6) : Kv H (kvs ++ [(Sum.inl n, v)]) (n + 1) where
  nd := by
    rw [List.map_append]
    refine nd_snoc h.nd fun hm => ?_
    obtain ⟨p, hp, e⟩ := List.mem_map.mp hm
    obtain ⟨z, k1, k2, k3⟩ := h.key p hp
    rw [k1] at e
    have := Sum.inl.inj e
    omega
  key := fun p hp => by
    rcases List.mem_append.mp hp with e | e
    · obtain ⟨z, k1, k2, k3⟩ := h.key p e
      exact ⟨z, k1, k2, by omega⟩
    · rw [List.mem_singleton.mp e]; exact ⟨n, rfl, n1, by omega⟩
  val := fun p hp => by
    rcases List.mem_append.mp hp with e | e
    · exact h.val p e
    · rw [List.mem_singleton.mp e]; exact ⟨t, hT, hd⟩
  len := by rw [List.length_append, List.length_singleton]; omega
theorem Kv.drop {H : Hp} {kvs : List (Key × V)} {n : Int} (h : Kv H kvs n) (k : Key) : Kv H (dropK kvs k) n := ⟨nd_dropK h.nd, fun p hp => h.key p (dropK_mem hp), fun p hp => h.val p (dropK_mem hp), Nat.le_trans (dropK_le _ _) h.len⟩
theorem r_din {td ty : TE} {σ : L2.St} {H : Hp} {Q : VK} (h : ty σ H fun y H1 => td σ H1 fun x H2 => ∃ a o, x = .ref a ∧ DGet H2 a y o ∧ Q (.bl o.isSome) H2) : tDIn ty td σ H Q := h
theorem isD_k {H : Hp} {a : Addr} {kvs : List (Key × V)} (h : H a = some (.dK kvs)) : IsD H a := .inl ⟨kvs, .inl h⟩
def spTell (CB : Addr) : Sp := fun vs H Q _ => ∃ (r b d e : Addr) (kvs : List (Key × V)) (n : Int) (ring : Bool) (v : V) (t : Tre), vs = [.ref r, v] ∧ Row CB H r b d e kvs n ring ∧ Tat H v t ∧ t.deep ≤ 30 ∧
  ∀ (H' : Hp) (kvs' : List (Key × V)) (n' : Int), Row CB H' r b d e kvs' n' ring → n' ≤ n + 1 → Kp (In4 r b d e) H H' → Q (.bl true) H'
def spDrop (CB : Addr) : Sp := fun vs H Q _ => ∃ (r b d e : Addr) (kvs : List (Key × V)) (n : Int) (ring : Bool) (z : Int), vs = [.ref r, .int z] ∧ Row CB H r b d e kvs n ring ∧
  ∀ (H' : Hp) (kvs' : List (Key × V)), Row CB H' r b d e kvs' n ring → Kp (In4 r b d e) H H' → Q (.bl true) H'
theorem r_dpop1 {td ty : TE} {σ : L2.St} {H : Hp} {Q : VK} (h : td σ H fun x H1 => ∃ a, x = .ref a ∧ IsD H1 a ∧ ty σ H1 fun y H2 => ∃ kvs k v, H2 a = some (.dK kvs) ∧ y = kV k ∧ valV kvs k = some v ∧ Q v (upd H2 a (.dK (dropK kvs k)))) : tDPop1 td ty σ H Q := h
section
variable {P : Program} {w : World} {K : PySem.W.Frag} {mg : Str → Option Value} {base : Heap}
theorem ok_tell {f f1 fT CB CF cE cX : Addr} {fd fd1 fdT : FuncData} {mc : Value} (B : Blt mg) (Z : ZB K mg CB mc) (EBookFull : ExN K mg "BookFull" CF) (ZF : ExF K mg "NoFact" CF cE cX)
    (mT : Meth K CB "tell" fT) (bT : Binds K fdT ["self", "saying"] []) (Gtell : FnOk P w K mg base (L2.CX P w) 1 fT fdT ["self", "saying"] (spBTell CB CF))
    (D : Dn K mg "_law_tell" s__law_tell ["row", "saying"] f fd) (D_law_is_number : Dn K mg "_law_is_number" s__law_is_number ["told", "due"] f1 fd1) (G_law_is_number : FnOk P w K mg base CX0 1 f1 fd1 ["told", "due"] spIsN) :
    FnOk P w K mg base CX0 2 f fd ["row", "saying"] (spTell CB) := by
  refine D.F.ok sc__law_tell (fun vs H Q E h => ?_) (fun cdv A outer s H vs Q E hr h => ?_)
  · obtain ⟨r, b, d, e, kvs, n, ring, v, t, rfl, _⟩ := h
    rfl
  · obtain ⟨r, b, d, e, kvs, n, ring, v, t, rfl, hR, hT, hd, q⟩ := h
    refine ⟨_, (pss_cons (ps_set (i := 2) sc__law_tell.nd rfl (.inl rfl) (pe_cmpR op_eq (pe_callB call_lenD (by rfl) B.m_len PySem.boot_len (pa_cons (pe_ix (ix_listK (K := K) rfl) (pv 0) pe_int (fun _ _ => rfl)) pa_nil)) pe_int (nomark _)))
      (pss_cons (ps_set (i := 3) sc__law_tell.nd rfl (.inl rfl) (pe_ix (ix_listK (K := K) rfl) (pv 0) pe_int (fun _ _ => rfl)))
      (pss_cons (ps_try_as (i := 5) (Wout := fun _ _ _ _ => False) rfl rfl sc__law_tell.nd rfl rfl ⟨rfl, by decide, .inl EBookFull.g⟩ takes0 (fun W pn xe tk _ => pss_one (by exact (ps_set (i := 4) sc__law_tell.nd rfl (.inl rfl) (by exact (pe_methT (pv 3) Z.cl mT Gtell (hr.mono (by decide)) bT (fun σ => passAt tk σ) (pa_cons (pv 1) pa_nil))))))
      (fun a oe cls d pn hz hf => pss_when (P := cls = .ref CF ∧ d = none) fun e => by exact (pss_one (ps_ret (pe_and (pv 2) (pe_and (pe_callB (call_isE ZF.c (zc_at e hz) hf) (by rfl) B.m_isinstance (by decide +kernel) (pa_cons (pv 5) (pa_cons (pe_glob (v := .ref cE) rfl ZF.gE rfl) pa_nil))) (pe_and (pe_callB (call_isE ZF.c (zc_at e hz) hf) (by rfl) B.m_isinstance (by decide +kernel) (pa_cons (pv 5) (pa_cons (pe_bltn (v := .ty "ValueError") (by rfl) ZF.mV (by decide +kernel) rfl) pa_nil))) (pe_one (pe_not (pe_callB (call_isE ZF.c (zc_at e hz) hf) (by rfl) B.m_isinstance (by decide +kernel) (pa_cons (pv 5) (pa_cons (pe_glob (v := .ref cX) rfl ZF.gX rfl) pa_nil))))))))))))
      (pss_cons (ps_if (PW.pt (pw_or (pt_val (pv 2)) (pw_or1 (pt_not (pt_val (pe_call G_law_is_number (hr.mono (by decide)) (by rfl) D_law_is_number.g D_law_is_number.F.kp D_law_is_number.b .nil pass0 (pa_cons (pv 4) (pa_cons (pe_ix (ix_listK (K := K) rfl) (pv 0) pe_int (fun _ _ => rfl)) pa_nil)))))))) (pss_one (ps_ret pe_bl)) pss_nil)
      (pss_cons (ps_set (i := 6) sc__law_tell.nd rfl (.inl rfl) (pe_ix (ix_listK (K := K) rfl) (pv 0) pe_int (fun _ _ => rfl)))
      (pss_cons (ps_dput (hu_of hr) (pv 6) (pe_ix (ix_listK (K := K) rfl) (pv 0) pe_int (fun _ _ => rfl)) (pv 1) rfl)
      (pss_cons (ps_asg (pe_op op_add (pe_ix (ix_listK (K := K) rfl) (pv 0) pe_int (fun _ _ => rfl)) pe_int) (pg_sub (pv 0) pe_int set_list))
      (pss_one (ps_ret pe_bl))))))))), ?_⟩
    have hrow := hR.row
    walk_at "begin"
    walk_at "go"
    refine r_lenD hR.ke ?_
    walk_at "go"
    obtain ⟨dx, ob⟩ := hR.bk.ob
    refine ⟨b, dx, _, rfl, ob, bf_tell, ?_⟩
    walk_at "go"
    have hl6 := hR.kv.len
    refine ⟨b, d, kvs, n, ring, v, rfl, hR.bk, valV_up fun p hp => ?_, fun h6 => ?_, fun h6 H1 hB1 hK1 => ?_⟩
    · obtain ⟨z, k1, k2, k3⟩ := hR.kv.key p hp
      exact ⟨z, k1, k3⟩
    · have e6 : kvs.length = 6 := by omega
      have e6' : decide (V.int (kvs.length : Int) = V.int 6) = true := by rw [e6]; rfl
      rw [e6']
      refine ⟨true, ZF.self, fun _ a0 ha0 => ⟨⟨rfl, rfl⟩, ?_⟩, fun z => Bool.noConfusion z⟩
      dsimp only [List.set_cons_zero, List.set_cons_succ]
      walk_at "go"
      refine ⟨_, .ref cE, true, rfl, fun u hu => hu, ZF.kE, ?_⟩
      walk_at "go"
      refine ⟨_, .type "ValueError", true, rfl, fun u hu => hu, ZF.kV, ?_⟩
      walk_at "go"
      refine ⟨_, .ref cX, false, rfl, fun u hu => hu, ZF.kX, ?_⟩
      walk_at "go"
      exact q _ _ _ hR (by omega) fun c o e n => e
    · have ne6 : ¬ V.int (kvs.length : Int) = V.int 6 := fun z => by
        have := V.int.inj z
        omega
      rw [decide_eq_false ne6]
      obtain ⟨rb, rd, re, be⟩ := hR.ner
      have de := hR.de
      have hr1 : H1 r = some (.lst [.ref b, .ref e, .int n, .bl ring]) := hK1 _ _ hrow fun z => z.elim rb rd
      have he1 : H1 e = some (.dK kvs) := hK1 _ _ hR.ke fun z => z.elim (fun z => be z.symm) (fun z => de z.symm)
      walk_at "go"
      refine ⟨n, n, rfl, ?_⟩
      rw [decide_eq_true (rfl : n = n)]
      walk_at "go"
      refine ⟨e, _, rfl, DPut.k (k := Sum.inl n) he1 (small (by omega)), ?_⟩
      have hvn : valV kvs (Sum.inl n : Key) = none := valV_up fun p hp => by
        obtain ⟨z, k1, k2, k3⟩ := hR.kv.key p hp
        exact ⟨z, k1, k3⟩
      rw [putK_new v hvn]
      have hr2 : upd H1 e (.dK (kvs ++ [(Sum.inl n, v)])) r = some (.lst [.ref b, .ref e, .int n, .bl ring]) := by rw [upd_ne re]; exact hr1
      walk_at "go"
      obtain ⟨dx1, ob1⟩ := hB1.ob
      have hK5 : Kp (In4 r b d e) H (upd (upd H1 e (.dK (kvs ++ [(Sum.inl n, v)]))) r (.lst (List.set [.ref b, .ref e, .int n, .bl ring] 2 (.int (n + 1))))) :=
        (hK1.mono fun c z => z.elim (fun z => .inr (.inl z)) (fun z => .inr (.inr (.inl z)))).trans ((Kp.put (.inr (.inr (.inr rfl)))).trans (Kp.put (.inl rfl)))
      refine q _ (kvs ++ [(Sum.inl n, v)]) (n + 1) ⟨upd_same, ⟨⟨dx1, by rw [upd_ne rb.symm, upd_ne be]; exact ob1⟩, by rw [upd_ne rd.symm, upd_ne de]; exact hB1.nu⟩, by rw [upd_ne re.symm, upd_same], ?_, de, by have := hR.n1; omega⟩ (by omega) hK5
      exact (hR.kv.keep (hR.kt hK5)).snoc hR.n1 (hT.keep (hR.kt hK5)) hd h6
theorem ok_drop {f f1 fD CB CN cE cX : Addr} {fd fd1 fdD : FuncData} {mc : Value} (B : Blt mg) (Z : ZB K mg CB mc) (ENoFact : ExN K mg "NoFact" CN) (ZN : ExF K mg "BookFull" CN cE cX)
    (mD : Meth K CB "drop" fD) (bD : Binds K fdD ["self", "number"] []) (Gdrop : FnOk P w K mg base (L2.CX P w) 1 fD fdD ["self", "number"] (spBDrop CB CN))
    (D : Dn K mg "_law_drop" s__law_drop ["row", "number"] f fd) (D_law_is_saying : Dn K mg "_law_is_saying" s__law_is_saying ["told", "due"] f1 fd1) (G_law_is_saying : FnOk P w K mg base CX0 1 f1 fd1 ["told", "due"] spIsS) :
    FnOk P w K mg base CX0 2 f fd ["row", "number"] (spDrop CB) := by
  refine D.F.ok sc__law_drop (fun vs H Q E h => ?_) (fun cdv A outer s H vs Q E hr h => ?_)
  · obtain ⟨r, b, d, e, kvs, n, ring, z, rfl, _⟩ := h
    rfl
  · obtain ⟨r, b, d, e, kvs, n, ring, z, rfl, hR, q⟩ := h
    refine ⟨_, (pss_cons (ps_set (i := 2) sc__law_drop.nd rfl (.inl rfl) (pe_ix (ix_listK (K := K) rfl) (pv 0) pe_int (fun _ _ => rfl)))
      (pss_cons (ps_set (i := 3) sc__law_drop.nd rfl (.inl rfl) (pe_cmp (pc_din (hu_of hr) (pv 1) (pv 2)) (by rfl)))
      (pss_cons (ps_set (i := 4) sc__law_drop.nd rfl (.inl rfl) (pe_ix (ix_listK (K := K) rfl) (pv 0) pe_int (fun _ _ => rfl)))
      (pss_cons (ps_try_as (i := 6) (Wout := fun _ _ _ _ => False) rfl rfl sc__law_drop.nd rfl rfl ⟨rfl, by decide, .inl ENoFact.g⟩ takes0 (fun W pn xe tk _ => pss_one (by exact (ps_set (i := 5) sc__law_drop.nd rfl (.inl rfl) (by exact (pe_methT (pv 4) Z.cl mD Gdrop (hr.mono (by decide)) bD (fun σ => passAt tk σ) (pa_cons (pv 1) pa_nil))))))
      (fun a oe cls d pn hz hf => pss_when (P := cls = .ref CN ∧ d = none) fun e => by exact (pss_one (ps_ret (pe_and (pe_not (pv 3)) (pe_and (pe_callB (call_isE ZN.c (zc_at e hz) hf) (by rfl) B.m_isinstance (by decide +kernel) (pa_cons (pv 6) (pa_cons (pe_glob (v := .ref cE) rfl ZN.gE rfl) pa_nil))) (pe_and (pe_callB (call_isE ZN.c (zc_at e hz) hf) (by rfl) B.m_isinstance (by decide +kernel) (pa_cons (pv 6) (pa_cons (pe_bltn (v := .ty "ValueError") (by rfl) ZN.mV (by decide +kernel) rfl) pa_nil))) (pe_one (pe_not (pe_callB (call_isE ZN.c (zc_at e hz) hf) (by rfl) B.m_isinstance (by decide +kernel) (pa_cons (pv 6) (pa_cons (pe_glob (v := .ref cX) rfl ZN.gX rfl) pa_nil))))))))))))
      (pss_cons (ps_if (PW.pt (pw_or (pt_not (pt_val (pv 3))) (pw_or1 (pt_not (pt_val (pe_call G_law_is_saying (hr.mono (by decide)) (by rfl) D_law_is_saying.g D_law_is_saying.F.kp D_law_is_saying.b .nil pass0 (pa_cons (pv 5) (pa_cons (pe_dget (hu_of hr) (pv 2) (pv 1) (fun _ _ => rfl)) pa_nil)))))))) (pss_one (ps_ret pe_bl)) pss_nil)
      (pss_cons (ps_expr (pe_dpop1 (pv 2) (pv 1) ⟨rfl, rfl, rfl, rfl⟩))
      (pss_one (ps_ret pe_bl)))))))), ?_⟩
    have hrow := hR.row
    have hke := hR.ke
    walk_at "begin"
    walk_at "go"
    refine r_din ?_
    walk_at "go"
    refine ⟨e, _, rfl, DGet.k (k := Sum.inl z) hR.ke, ?_⟩
    walk_at "go"
    obtain ⟨dx, ob⟩ := hR.bk.ob
    refine ⟨b, dx, _, rfl, ob, bf_drop, ?_⟩
    walk_at "go"
    refine ⟨b, d, kvs, n, ring, z, rfl, hR.bk, fun hv => ?_, fun v hv H1 hB1 hK1 => ?_⟩
    · rw [hv]
      refine ⟨true, ZN.self, fun _ a0 ha0 => ⟨⟨rfl, rfl⟩, ?_⟩, fun z => Bool.noConfusion z⟩
      dsimp only [List.set_cons_zero, List.set_cons_succ]
      walk_at "go"
      refine iteNFa ?_
      walk_at "go"
      refine ⟨_, .ref cE, true, rfl, fun u hu => hu, ZN.kE, ?_⟩
      walk_at "go"
      refine ⟨_, .type "ValueError", true, rfl, fun u hu => hu, ZN.kV, ?_⟩
      walk_at "go"
      refine ⟨_, .ref cX, false, rfl, fun u hu => hu, ZN.kX, ?_⟩
      walk_at "go"
      exact q _ _ hR fun c o e n => e
    · obtain ⟨rb, rd, re, be⟩ := hR.ner
      have de := hR.de
      have hK4 : Kp (In4 r b d e) H H1 := hK1.mono fun c z => .inr (.inr (.inl z))
      have hr1 : H1 r = some (.lst [.ref b, .ref e, .int n, .bl ring]) := hK1 _ _ hrow fun z => rd z
      have he1 : H1 e = some (.dK kvs) := hK1 _ _ hR.ke fun z => de z.symm
      obtain ⟨t, ht, hdt⟩ : ∃ t, Tat H v t ∧ t.deep ≤ 30 := by
        obtain ⟨p, hp, e2⟩ := List.mem_map.mp (valV_in hv)
        obtain ⟨i, hi⟩ := List.getElem?_of_mem hp
        have : valV kvs p.1 = some p.2 := valV_at hR.kv.nd (by rw [hi])
        rw [e2, hv] at this
        rw [Option.some.inj this]
        exact hR.kv.val p hp
      rw [hv]
      walk_at "go"
      refine iteNTr ?_
      walk_at "go"
      refine ⟨e, v, rfl, by rw [← hv]; exact DGet.k (k := Sum.inl z) he1, ?_⟩
      walk_at "go"
      refine ⟨v, t, rfl, ht.keep (hR.kt hK4), hdt, ?_⟩
      walk_at "go"
      refine r_dpop1 ?_
      walk_at "go"
      refine ⟨e, rfl, isD_k he1, ?_⟩
      walk_at "go"
      refine ⟨kvs, Sum.inl z, v, he1, rfl, hv, ?_⟩
      walk_at "go"
      have hK5 : Kp (In4 r b d e) H (upd H1 e (.dK (dropK kvs (Sum.inl z)))) := hK4.trans (Kp.put (.inr (.inr (.inr rfl))))
      obtain ⟨dx1, ob1⟩ := hB1.ob
      exact q _ _ ⟨by rw [upd_ne re]; exact hr1, ⟨⟨dx1, by rw [upd_ne be]; exact ob1⟩, by rw [upd_ne de]; exact hB1.nu⟩, upd_same, (hR.kv.keep (hR.kt hK5)).drop _, de, hR.n1⟩ hK5
end
end K53
namespace K53
open PySem PySem.Spec PyProof.Rows L2 Lw


local macro_rules | `(tactic| walk_at "look") => `(tactic| first
  | assumption
  | with_reducible exact upd_same
  | with_reducible exact rg_st
  | with_reducible exact rg_g (by assumption)
  | (with_reducible refine upd_old (by assumption) ?_; walk_at "look")
  | (with_reducible refine rg_get (by assumption) ?_; walk_at "look")
  | (with_reducible refine Same.get (by assumption) ?_; walk_at "look"))
local macro_rules | `(tactic| walk_at "cond") => `(tactic| first
  | (show _ ≠ _; omega) | exact cdivN (by omega) (by omega) | exact cmul_mod (by decide) (by decide) | exact cmulR (by omega) (by omega) | exact cmulL (by omega) (by omega) | exact cpow (by omega) (by omega) (by omega) (by omega) | (show (0:Int) ≤ _; omega))
local macro_rules | `(tactic| walk_at "at") => `(tactic| first | assumption | with_unfolding_all rfl)
local macro_rules | `(tactic| walk_at "sz") => `(tactic| first | assumption | (refine small ?_; omega) | (refine small ?_; simp only [List.length_map, List.length_append, List.length_cons, List.length_nil]; omega))
local macro_rules | `(tactic| walk_at "len") => `(tactic| first | exact size_nil | exact Nat.le_of_lt (small (by simp only [List.length_cons, List.length_nil, List.length_map]; omega)))
local macro_rules | `(tactic| walk_at "newD") => `(tactic| (refine ⟨by walk_at "len", fun p np => ?_⟩; obtain ⟨e, o', hD', n', ne'⟩ := newTD_eq (topRg _ _) (by assumption) (by assumption) np (.lst _); rw [e]; clear e))
local macro_rules | `(tactic| walk_at "new") => `(tactic| (refine ⟨by walk_at "len", fun p np => ?_⟩; obtain ⟨e, o', n'⟩ := newT_eq (topRg _ _) (by assumption) np (.lst _); rw [e]; clear e))
local macro_rules | `(tactic| walk_at "st") => `(tactic| first
  | with_reducible refine r_seq ?_
  | with_reducible refine r_var rfl ?_
  | with_reducible refine r_c ?_
  | with_reducible refine r_asg ?_
  | (with_reducible refine r_name ?_; dsimp only [List.set_cons_zero, List.set_cons_succ])
  | with_reducible refine r_sub ?_
  | with_reducible refine r_op ?_
  | with_reducible refine r_i0 ?_
  | (with_reducible refine' r_i ?k1 ?_; (case k1 => walk_at "cond"))
  | with_reducible refine r_cons ?_
  | with_reducible refine r_nil ?_
  | with_reducible refine r_cb ?_
  | with_reducible refine r_call ?_
  | with_reducible refine r_ifs ?_
  | with_reducible refine r_test ?_
  | with_reducible refine r_tB ?_
  | with_reducible refine r_bl ?_
  | with_reducible refine r_ret ?_
  | with_reducible refine r_drop ?_
  | with_reducible refine r_next ?_
  | (with_reducible refine' r_ixL ?k1 ?k2 ?_; (case k1 => walk_at "look"); (case k2 => walk_at "at"))
  | (with_reducible refine' r_setL ?k1 ?k2 ?_; (case k1 => walk_at "look"); (case k2 => walk_at "at"))
  | (with_reducible refine' r_tup (SqT.of ?k1) ?k2 ?_; (case k1 => walk_at "look"); (case k2 => rfl))
  | with_reducible refine r_gcons ?_
  | with_reducible refine r_gnil ?_
  | with_reducible refine r_aug rfl ?_
  | with_reducible refine r_augS ?_
  | with_reducible refine r_ipI ?_
  | with_reducible refine r_un ?_
  | with_reducible refine r_u ?_
  | with_reducible refine r_eq rfl ?_
  | with_reducible refine r_ne rfl ?_
  | with_reducible refine r_chain ?_
  | with_reducible refine iteF ?_
  | with_reducible refine r_not ?_
  | with_reducible refine r_and ?_
  | with_reducible refine r_or ?_
  | with_reducible refine r_andV ?_
  | with_reducible refine r_orV ?_
  | with_reducible refine r_notV ?_
  | with_reducible refine r_lst ?_
  | with_reducible refine r_bm ?_
  | with_reducible refine r_bm0 ?_
  | (with_reducible refine' And.intro (r_ty ?k1) ?_; (case k1 => walk_at "look"))
  | (with_reducible refine' r_append ?k1 ?k2 ?_; (case k1 => walk_at "look"); (case k2 => walk_at "sz"))
  | (with_reducible refine' r_lenK ?k1 ?_; (case k1 => walk_at "look"))
  | (with_reducible refine' r_listOf ?k1 ?_; (case k1 => walk_at "look"))
  | (with_reducible refine' r_sortedI ?k1 ?_; (case k1 => walk_at "look"))
  | (with_reducible refine' r_sum ?k1 ?_; (case k1 => walk_at "look"))
  | with_reducible refine r_int ?_
  | (with_reducible refine' r_draw (by assumption) ?k1 ?k2 ?_; (case k1 => omega); (case k2 => omega); intro R' n' o' h' h'')
  | with_reducible refine iteT ?_
  | with_reducible refine r_revL ?_
  | with_reducible refine r_lc ?_
  | with_reducible refine r_yes ?_
  | with_reducible refine r_sl ?_
  | with_reducible refine iteNTr ?_
  | with_reducible refine iteNFa ?_
  | with_reducible refine r_fld ?_
  | with_reducible refine r_sFld ?_
  | with_reducible refine r_meth ?_
  | with_reducible refine r_methT ?_
  | with_reducible refine r_prop ?_
  | with_reducible refine r_dget ?_
  | with_reducible refine r_dput ?_
  | with_reducible refine r_noPart ?_
  | with_reducible refine r_part ?_
  | with_reducible refine r_lc2 ?_
  | with_reducible refine r_callN ?_
  | with_reducible refine r_callD ?_
  | with_reducible refine r_tupE ?_
  | with_reducible refine r_rng2 ?_
  | with_reducible refine r_i1 ?_
  | (with_reducible refine' r_slL ?k1 ?_; (case k1 => walk_at "look"))
  | with_reducible refine r_for ?_
  | with_reducible refine r_iList ?_
  | with_reducible refine r_rng1 ?_
  | with_reducible refine r_enum ?_
  | (with_reducible show Ends.nx _ _ _; dsimp only)
  | (with_reducible show Ends.rt _ _ _; dsimp only)
  | (with_reducible show Ends.ct _ _ _; dsimp only)
  | (with_reducible show Ends.bk _ _ _; dsimp only))
local macro_rules | `(tactic| walk_at "go") => `(tactic| repeat (walk_at "st"))
local macro_rules | `(tactic| walk_at "begin") => `(tactic| dsimp only [cxOf, wipe, L2.start, List.map, List.length_cons, List.length_nil, Nat.reduceAdd, Nat.reduceSub, List.replicate, List.cons_append, List.nil_append])


/-- these are trees of at most that depth -/
def Says (H : Hp) (n : Nat) (us : List V) : Prop := ∀ v ∈ us, ∃ t, Tat H v t ∧ t.deep ≤ n
theorem Says.keep {H H' : Hp} {n : Nat} {us : List V} (h : Says H n us) (k : KT H H') : Says H' n us := fun v hv => by
  obtain ⟨t, h1, h2⟩ := h v hv
  exact ⟨t, h1.keep k, h2⟩
theorem Says.all {H : Hp} {n : Nat} : ∀ {us : List V}, Says H n us → ∃ ts, TatAll H us ts ∧ Tre.deepAll ts ≤ n
  | [], _ => ⟨[], rfl, Nat.zero_le _⟩
  | v :: r, h => by
    obtain ⟨ts, h1, h2⟩ := Says.all (us := r) fun x hx => h x (List.mem_cons_of_mem _ hx)
    obtain ⟨t, h3, h4⟩ := h v List.mem_cons_self
    exact ⟨t :: ts, ⟨v, r, rfl, h3, h1⟩, Nat.max_le.mpr ⟨h4, h2⟩⟩
theorem r_neLs {K : PySem.W.Frag} {H : Hp} {Q : VK} {a b : Addr} {us : List V} (ha : H a = some (.lst us)) (hb : H b = some (.lst us)) (hs : Says H 60 us) (q : Q (.bl false) H) : rNeD K (.ref a) (.ref b) H Q := by
  obtain ⟨ts, h1, h2⟩ := hs.all
  have dp : DpAll K H us (Tre.dataAll ts) := h1.dp
  have sh : SeqAt.shaped (.list (Tre.dataAll ts)) = true := by
    unfold SeqAt.shaped
    rw [PyData.canLay0, h1.lay, PyData.depth]
    have := depthAll_data ts
    exact decide_eq_true (by omega)
  refine r_neDd (.lst (SqL.of ha) dp) (.lst (SqL.of hb) dp) sh sh (plAll_data ts) (plAll_data ts) fun z hz => ?_
  cases z with
  | false => exact q
  | true => exact absurd rfl (hz.mp rfl)
/-- what a deed on a row leaves -/
def Dd (CB : Addr) (H : Hp) (r b d e : Addr) (n : Int) (Q : VK) : Prop := ∀ (H' : Hp) (b' d' e' : Addr) (kvs' : List (Key × V)) (n' : Int) (ring' : Bool), Row CB H' r b' d' e' kvs' n' ring' → n' ≤ n + 7 →
  ((b' = b ∧ d' = d ∧ e' = e) ∨ (H b' = none ∧ H d' = none ∧ H e' = none)) → Kp (In4 r b d e) H H' → Q (.bl true) H'
def spMade (CB : Addr) : Sp := fun vs H Q _ => ∃ (r b d e l : Addr) (kvs : List (Key × V)) (n : Int) (ring : Bool) (us : List V), vs = [.ref r, .ref l] ∧ Row CB H r b d e kvs n ring ∧ H l = some (.lst us) ∧ l ≠ r ∧ Says H 30 us ∧ us.length ≤ 100 ∧ Dd CB H r b d e n Q
section
variable {P : Program} {w : World} {K : PySem.W.Frag} {mg : Str → Option Value} {base : Heap}
theorem ok_made {f fO pO CB CF cE cX : Addr} {fd : FuncData} {mc : Value} (B : Blt mg) (Z : ZB K mg CB mc) (EBookFull : ExN K mg "BookFull" CF) (ZF : ExF K mg "NoFact" CF cE cX)
    (hCM : ClX.CMet K CB mc "of" pO fO) (GR : FnR P w K mg base (L2.CX P w) 3 fO (spBOf CB CF))
    (D : Dn K mg "_law_made_of" s__law_made_of ["row", "sayings"] f fd) :
    FnOk P w K mg base CX0 4 f fd ["row", "sayings"] (spMade CB) := by
  refine D.F.ok sc__law_made_of (fun vs H Q E h => ?_) (fun cdv A outer s H vs Q E hr h => ?_)
  · obtain ⟨r, b, d, e, l, kvs, n, ring, us, rfl, _⟩ := h
    rfl
  · obtain ⟨r, b, d, e, l, kvs, n, ring, us, rfl, hR, hl, hlr, hU, hu, q⟩ := h
    refine ⟨_, (pss_cons (ps_set (i := 2) sc__law_made_of.nd rfl (.inl rfl) (pe_callTy (call_list_ofK (K := K) rfl) (by rfl) B.m_list (by decide +kernel) (pa_cons (pv 1) pa_nil)))
      (pss_cons (ps_try_as (i := 4) (Wout := fun _ _ _ _ => False) rfl rfl sc__law_made_of.nd rfl rfl ⟨rfl, by decide, .inl EBookFull.g⟩ takes0 (fun W pn xe tk _ => pss_one (by exact (ps_set (i := 3) sc__law_made_of.nd rfl (.inl rfl) (by exact (pe_cmethT (pe_glob (v := .ref CB) rfl Z.gB rfl) Z.rd hCM GR (hr.mono (by decide)) (fun σ => passAt tk σ) (pa_cons (pv 2) pa_nil))))))
      (fun a oe cls d pn hz hf => pss_when (P := cls = .ref CF ∧ d = none) fun e => by exact (pss_cons (ps_if (PW.pt (pw_or (pt_cmpR (op_neDK (K := K) rfl hr.units) (pv 2) (pv 1) (nomark _)) (pw_or1 (pt_cmpR op_lt (pe_callB (call_len_seqK (K := K) rfl) (by rfl) B.m_len PySem.boot_len (pa_cons (pv 1) pa_nil)) pe_int (nomark _))))) (pss_one (ps_ret pe_bl)) pss_nil) (pss_one (ps_ret (pe_and (pe_callB (call_isE ZF.c (zc_at e hz) hf) (by rfl) B.m_isinstance (by decide +kernel) (pa_cons (pv 4) (pa_cons (pe_glob (v := .ref cE) rfl ZF.gE rfl) pa_nil))) (pe_and (pe_callB (call_isE ZF.c (zc_at e hz) hf) (by rfl) B.m_isinstance (by decide +kernel) (pa_cons (pv 4) (pa_cons (pe_bltn (v := .ty "ValueError") (by rfl) ZF.mV (by decide +kernel) rfl) pa_nil))) (pe_one (pe_not (pe_callB (call_isE ZF.c (zc_at e hz) hf) (by rfl) B.m_isinstance (by decide +kernel) (pa_cons (pv 4) (pa_cons (pe_glob (v := .ref cX) rfl ZF.gX rfl) pa_nil))))))))))))
      (pss_cons (ps_if (PW.pt (pw_or (pt_cmpR (op_neDK (K := K) rfl hr.units) (pv 2) (pv 1) (nomark _)) (pw_or1 (pt_cmpR op_gt (pe_callB (call_len_seqK (K := K) rfl) (by rfl) B.m_len PySem.boot_len (pa_cons (pv 1) pa_nil)) pe_int (nomark _))))) (pss_one (ps_ret pe_bl)) pss_nil)
      (pss_cons (ps_expr (pe_bmK (K := K) rfl PySem.F.plainAttrs_list PySem.F.slot_list_insert PySem.F.type_list_insert mt_insert' (pv 2) (pa_cons pe_int (pa_cons (pe_tup (pa_cons pe_str (pa_cons (pe_tup (pa_cons pe_str pa_nil)) (pa_cons (pe_tup (pa_cons pe_str pa_nil)) pa_nil)))) pa_nil))))
      (pss_cons (ps_expr (pe_bmK (K := K) rfl PySem.F.plainAttrs_list PySem.F.slot_list_pop PySem.F.type_list_pop mt_popAt (pv 2) (pa_cons (pe_op op_sub (pe_callB (call_len_seqK (K := K) rfl) (by rfl) B.m_len PySem.boot_len (pa_cons (pv 2) pa_nil)) pe_int) pa_nil)))
      (pss_cons (ps_set (i := 5) sc__law_made_of.nd rfl (.inl rfl) pe_dnewK)
      (pss_cons (ps_for PassesOwn.never rfl (pi_range1 (by rfl) B.m_range (pa_cons (pe_callB (call_len_seqK (K := K) rfl) (by rfl) B.m_len PySem.boot_len (pa_cons (pv 1) pa_nil)) pa_nil)) (pg_name (i := 6) sc__law_made_of.nd rfl (.inl rfl)) (pss_one (ps_dput (hu_of hr) (pv 5) (pe_op op_add (pv 6) pe_int) (pe_ix (ix_listK (K := K) rfl) (pv 1) (pv 6) (fun _ _ => rfl)) rfl)))
      (pss_cons (ps_asg (pv 3) (pg_sub (pv 0) pe_int set_list))
      (pss_cons (ps_asg (pv 5) (pg_sub (pv 0) pe_int set_list))
      (pss_cons (ps_asg (pe_op op_add (pe_callB (call_len_seqK (K := K) rfl) (by rfl) B.m_len PySem.boot_len (pa_cons (pv 1) pa_nil)) pe_int) (pg_sub (pv 0) pe_int set_list))
      (pss_cons (ps_asg pe_bl (pg_sub (pv 0) pe_int set_list))
      (pss_one (ps_ret pe_bl))))))))))))), ?_⟩
    have hrow := hR.row
    walk_at "begin"
    walk_at "go"
    intro p np
    have hp : upd H p (.lst us) p = some (.lst us) := upd_same
    have hS := same_new (o := .lst us) np
    generalize upd H p (.lst us) = H1 at hp hS ⊢
    have hl1 := hS _ _ hl
    walk_at "go"
    refine r_cmethT ?_
    walk_at "go"
    refine ⟨rfl, ?_⟩
    walk_at "go"
    refine ⟨p, us, rfl, hp, hu, fun h6 H2 hS2 => ?_, fun h6 H2 b2 d2 hS2 nb nd hB2 => ?_⟩
    · refine ⟨true, ZF.self, fun _ a0 ha0 => ⟨⟨rfl, rfl⟩, ?_⟩, fun z => Bool.noConfusion z⟩
      dsimp only [List.set_cons_zero, List.set_cons_succ]
      have hp2 := hS2 _ _ hp
      have hl2 := hS2 _ _ hl1
      walk_at "go"
      refine r_neLs hp2 hl2 (fun v hv => ?_) ?_
      · obtain ⟨t, h1, h2⟩ := (hU.keep (KT.of (hS.trans hS2))) v hv
        exact ⟨t, h1, by omega⟩
      walk_at "go"
      refine r_ite (fun z => absurd z (by omega)) (fun _ => ?_)
      walk_at "go"
      refine ⟨_, .ref cE, true, rfl, fun u hu => hu, ZF.kE, ?_⟩
      walk_at "go"
      refine ⟨_, .type "ValueError", true, rfl, fun u hu => hu, ZF.kV, ?_⟩
      walk_at "go"
      refine ⟨_, .ref cX, false, rfl, fun u hu => hu, ZF.kX, ?_⟩
      walk_at "go"
      exact q _ _ _ _ _ _ _ (hR.same (hS.trans hS2)) (by omega) (.inl ⟨rfl, rfl, rfl⟩) (Kp.of (hS.trans hS2))
    · have hp2 := hS2 _ _ hp
      have hl2 := hS2 _ _ hl1
      have hbp : b2 ≠ p := fun z => by rw [z, hp] at nb; cases nb
      have hdp : d2 ≠ p := fun z => by rw [z, hp] at nd; cases nd
      have hHb : H b2 = none := hS.free nb
      have hHd : H d2 = none := hS.free nd
      walk_at "go"
      refine r_neLs hp2 hl2 (fun v hv => ?_) ?_
      · obtain ⟨t, h1, h2⟩ := (hU.keep (KT.of (hS.trans hS2))) v hv
        exact ⟨t, h1, by omega⟩
      walk_at "go"
      refine r_ite (fun z => absurd z (by omega)) (fun _ => ?_)
      walk_at "go"
      refine ⟨by walk_at "len", fun p1 np1 => ?_⟩
      walk_at "go"
      refine ⟨by walk_at "len", fun p2 np2 => ?_⟩
      walk_at "go"
      refine ⟨by walk_at "len", fun p3 np3 => ?_⟩
      walk_at "go"
      generalize he4 : upd (upd (upd H2 p1 _) p2 _) p3 _ = H4
      have s4 : Same H2 H4 := by
        rw [← he4]
        exact ((same_new np1).trans (same_new np2)).trans (same_new np3)
      clear he4
      have hp4 := s4 _ _ hp2
      have hB4 := hB2.same s4
      have sH4 : Same H H4 := (hS.trans hS2).trans s4
      refine r_insert hp4 (small (by omega)) (by decide) (by decide) ?_
      walk_at "go"
      generalize hxs : us.take (0 : Int).toNat ++ [V.ref p3] ++ us.drop (0 : Int).toNat = xs
      have hxl : xs.length = us.length + 1 := by
        rw [← hxs]
        show ([] ++ [V.ref p3] ++ us).length = _
        simp
      have hp5 : upd H4 p (.lst xs) p = some (.lst xs) := upd_same
      have sH5 : Same H (upd H4 p (.lst xs)) := same_off np sH4
      have hB5 : Bk CB (upd H4 p (.lst xs)) b2 d2 (enK 1 us) (us.length + 1) false := by
        obtain ⟨⟨dx5, ob5⟩, nu5⟩ := hB4
        exact ⟨⟨dx5, by rw [upd_ne hbp]; exact ob5⟩, by rw [upd_ne hdp]; exact nu5⟩
      generalize upd H4 p (.lst xs) = H5 at hp5 sH5 hB5 ⊢
      walk_at "go"
      have hix : seqIndex? ((xs.length : Int) - 1) xs.length = some us.length := by
        rw [hxl]
        unfold seqIndex?
        have h1 : (((us.length + 1 : Nat) : Int) - 1) = (us.length : Int) := by omega
        have h2 : ¬ (us.length : Int) < 0 := by omega
        rw [h1]
        simp [h2]
        omega
      obtain ⟨y, hy⟩ : ∃ y, xs[us.length]? = some y := ⟨_, List.getElem?_eq_getElem (by omega)⟩
      refine ⟨p, xs, _, us.length, y, rfl, rfl, hp5, by omega, by omega, hix, hy, ?_⟩
      walk_at "go"
      have sH6 : Same H (upd H5 p (.lst (xs.eraseIdx us.length))) := same_off np sH5
      have hB6 : Bk CB (upd H5 p (.lst (xs.eraseIdx us.length))) b2 d2 (enK 1 us) (us.length + 1) false := by
        obtain ⟨⟨dx5, ob5⟩, nu5⟩ := hB5
        exact ⟨⟨dx5, by rw [upd_ne hbp]; exact ob5⟩, by rw [upd_ne hdp]; exact nu5⟩
      generalize upd H5 p (.lst (xs.eraseIdx us.length)) = H6 at sH6 hB6 ⊢
      refine r_dnewK fun e2 ne2 => ?_
      walk_at "go"
      have hl6 := sH6 _ _ hl
      have he2 : H e2 = none := sH6.free ne2
      refine r_forR (by omega) (by omega) (fun i σ X => ∃ y, σ = [some (.ref r), some (.ref l), some (.ref p), some (.ref b2), none, some (.ref e2), y] ∧ X = upd H6 e2 (.dK (enK 1 (us.take i)))) ⟨_, rfl, by rw [List.take_zero]; rfl⟩ ?_ ?_
      · rintro i σ X hi ⟨y, rfl, rfl⟩
        have hi : i < us.length := by omega
        obtain ⟨v, hv⟩ : ∃ v, us[i]? = some v := ⟨_, List.getElem?_eq_getElem hi⟩
        have hat : atI us (i : Int) = some v := at_of rfl hv
        have hlX : upd H6 e2 (.dK (enK 1 (us.take i))) l = some (.lst us) := upd_old ne2 hl6
        walk_at "go"
        have hvn : valV (enK 1 (us.take i)) (Sum.inl ((i : Int) + 1) : Key) = none := valV_up fun p hp => by
          obtain ⟨z, k1, k2, k3, _⟩ := enK_mem _ _ _ hp
          rw [List.length_take] at k3
          exact ⟨z, k1, by omega⟩
        refine ⟨e2, _, rfl, DPut.k (k := Sum.inl ((i : Int) + 1)) upd_same (small (by rw [enK_len, List.length_take]; omega)), ?_⟩
        rw [putK_new v hvn, upd_upd]
        walk_at "go"
        refine ⟨_, rfl, ?_⟩
        rw [List.take_add_one, hv]
        show _ = upd H6 e2 (.dK (enK 1 (us.take i ++ [v])))
        rw [enK_push, List.length_take, show (1 : Int) + ((min i us.length : Nat) : Int) = (i : Int) + 1 by omega]
      · rintro σ X ⟨y, rfl, rfl⟩
        have et : us.take (us.length : Int).toNat = us := by rw [Int.toNat_natCast, List.take_length]
        rw [et]
        have sH7 : Same H (upd H6 e2 (.dK (enK 1 us))) := same_off he2 sH6
        have he7 : upd H6 e2 (.dK (enK 1 us)) e2 = some (.dK (enK 1 us)) := upd_same
        have hB7 : Bk CB (upd H6 e2 (.dK (enK 1 us))) b2 d2 (enK 1 us) (us.length + 1) false := hB6.same (same_new ne2)
        have hde : d2 ≠ e2 := fun z => by have := hB6.nu; rw [z, ne2] at this; cases this
        generalize upd H6 e2 (.dK (enK 1 us)) = H7 at sH7 he7 hB7 ⊢
        have hr7 := sH7 _ _ hrow
        have hl7 := sH7 _ _ hl
        walk_at "go"
        refine r_lenK (by rw [upd_ne hlr, upd_ne hlr]; exact hl7) ?_
        walk_at "go"
        have hrb : r ≠ b2 := fun z => by rw [← z] at hHb; rw [hHb] at hrow; cases hrow
        have hrd : r ≠ d2 := fun z => by rw [← z] at hHd; rw [hHd] at hrow; cases hrow
        have hre : r ≠ e2 := fun z => by rw [← z] at he2; rw [he2] at hrow; cases hrow
        rw [upd_upd, upd_upd, upd_upd]
        have hK : Kp (In4 r b d e) H (upd H7 r (.lst [.ref b2, .ref e2, .int ((us.length : Int) + 1), .bl false])) := (Kp.of sH7).trans (Kp.put (.inl rfl))
        obtain ⟨⟨dx7, ob7⟩, nu7⟩ := hB7
        refine q _ b2 d2 e2 (enK 1 us) ((us.length : Int) + 1) false ⟨upd_same, ⟨⟨dx7, by rw [upd_ne hrb.symm]; exact ob7⟩, by rw [upd_ne hrd.symm]; exact nu7⟩, by rw [upd_ne hre.symm]; exact he7, ⟨enK_nd _ _, fun x hx => ?_, fun x hx => ?_, by rw [enK_len]; exact h6⟩, hde, by omega⟩ (by have := hR.n1; omega) (.inr ⟨hHb, hHd, he2⟩) hK
        · obtain ⟨z, k1, k2, k3, _⟩ := enK_mem _ _ _ hx
          exact ⟨z, k1, k2, by omega⟩
        · obtain ⟨z, k1, k2, k3, k4⟩ := enK_mem _ _ _ hx
          exact (hU.keep (hR.kt hK)) _ k4
end
end K53
namespace K53
open PySem PySem.Spec PyProof.Rows L2 Lw


local macro_rules | `(tactic| walk_at "look") => `(tactic| first
  | assumption
  | with_reducible exact upd_same
  | with_reducible exact rg_st
  | with_reducible exact rg_g (by assumption)
  | (with_reducible refine upd_old (by assumption) ?_; walk_at "look")
  | (with_reducible refine rg_get (by assumption) ?_; walk_at "look")
  | (with_reducible refine Same.get (by assumption) ?_; walk_at "look"))
local macro_rules | `(tactic| walk_at "cond") => `(tactic| first
  | (show _ ≠ _; omega) | exact cdivN (by omega) (by omega) | exact cmul_mod (by decide) (by decide) | exact cmulR (by omega) (by omega) | exact cmulL (by omega) (by omega) | exact cpow (by omega) (by omega) (by omega) (by omega) | (show (0:Int) ≤ _; omega))
local macro_rules | `(tactic| walk_at "at") => `(tactic| first | assumption | with_unfolding_all rfl)
local macro_rules | `(tactic| walk_at "sz") => `(tactic| first | assumption | (refine small ?_; omega) | (refine small ?_; simp only [List.length_map, List.length_append, List.length_cons, List.length_nil]; omega))
local macro_rules | `(tactic| walk_at "len") => `(tactic| first | exact size_nil | exact Nat.le_of_lt (small (by simp only [List.length_cons, List.length_nil, List.length_map]; omega)))
local macro_rules | `(tactic| walk_at "newD") => `(tactic| (refine ⟨by walk_at "len", fun p np => ?_⟩; obtain ⟨e, o', hD', n', ne'⟩ := newTD_eq (topRg _ _) (by assumption) (by assumption) np (.lst _); rw [e]; clear e))
local macro_rules | `(tactic| walk_at "new") => `(tactic| (refine ⟨by walk_at "len", fun p np => ?_⟩; obtain ⟨e, o', n'⟩ := newT_eq (topRg _ _) (by assumption) np (.lst _); rw [e]; clear e))
local macro_rules | `(tactic| walk_at "st") => `(tactic| first
  | with_reducible refine r_seq ?_
  | with_reducible refine r_var rfl ?_
  | with_reducible refine r_c ?_
  | with_reducible refine r_asg ?_
  | (with_reducible refine r_name ?_; dsimp only [List.set_cons_zero, List.set_cons_succ])
  | with_reducible refine r_sub ?_
  | with_reducible refine r_op ?_
  | with_reducible refine r_i0 ?_
  | (with_reducible refine' r_i ?k1 ?_; (case k1 => walk_at "cond"))
  | with_reducible refine r_cons ?_
  | with_reducible refine r_nil ?_
  | with_reducible refine r_cb ?_
  | with_reducible refine r_call ?_
  | with_reducible refine r_ifs ?_
  | with_reducible refine r_test ?_
  | with_reducible refine r_tB ?_
  | with_reducible refine r_bl ?_
  | with_reducible refine r_ret ?_
  | with_reducible refine r_drop ?_
  | with_reducible refine r_next ?_
  | (with_reducible refine' r_ixL ?k1 ?k2 ?_; (case k1 => walk_at "look"); (case k2 => walk_at "at"))
  | (with_reducible refine' r_setL ?k1 ?k2 ?_; (case k1 => walk_at "look"); (case k2 => walk_at "at"))
  | (with_reducible refine' r_tup (SqT.of ?k1) ?k2 ?_; (case k1 => walk_at "look"); (case k2 => rfl))
  | with_reducible refine r_gcons ?_
  | with_reducible refine r_gnil ?_
  | with_reducible refine r_aug rfl ?_
  | with_reducible refine r_augS ?_
  | with_reducible refine r_ipI ?_
  | with_reducible refine r_un ?_
  | with_reducible refine r_u ?_
  | with_reducible refine r_eq rfl ?_
  | with_reducible refine r_ne rfl ?_
  | with_reducible refine r_chain ?_
  | with_reducible refine iteF ?_
  | with_reducible refine r_not ?_
  | with_reducible refine r_and ?_
  | with_reducible refine r_or ?_
  | with_reducible refine r_andV ?_
  | with_reducible refine r_orV ?_
  | with_reducible refine r_notV ?_
  | with_reducible refine r_lst ?_
  | with_reducible refine r_bm ?_
  | with_reducible refine r_bm0 ?_
  | (with_reducible refine' And.intro (r_ty ?k1) ?_; (case k1 => walk_at "look"))
  | (with_reducible refine' r_append ?k1 ?k2 ?_; (case k1 => walk_at "look"); (case k2 => walk_at "sz"))
  | (with_reducible refine' r_lenK ?k1 ?_; (case k1 => walk_at "look"))
  | (with_reducible refine' r_listOf ?k1 ?_; (case k1 => walk_at "look"))
  | (with_reducible refine' r_sortedI ?k1 ?_; (case k1 => walk_at "look"))
  | (with_reducible refine' r_sum ?k1 ?_; (case k1 => walk_at "look"))
  | with_reducible refine r_int ?_
  | (with_reducible refine' r_draw (by assumption) ?k1 ?k2 ?_; (case k1 => omega); (case k2 => omega); intro R' n' o' h' h'')
  | with_reducible refine iteT ?_
  | with_reducible refine r_revL ?_
  | with_reducible refine r_lc ?_
  | with_reducible refine r_yes ?_
  | with_reducible refine r_sl ?_
  | with_reducible refine iteNTr ?_
  | with_reducible refine iteNFa ?_
  | with_reducible refine r_fld ?_
  | with_reducible refine r_sFld ?_
  | with_reducible refine r_meth ?_
  | with_reducible refine r_methT ?_
  | with_reducible refine r_prop ?_
  | with_reducible refine r_dget ?_
  | with_reducible refine r_dput ?_
  | with_reducible refine r_noPart ?_
  | with_reducible refine r_part ?_
  | with_reducible refine r_lc2 ?_
  | with_reducible refine r_callN ?_
  | with_reducible refine r_callD ?_
  | with_reducible refine r_tupE ?_
  | with_reducible refine r_rng2 ?_
  | with_reducible refine r_i1 ?_
  | (with_reducible refine' r_slL ?k1 ?_; (case k1 => walk_at "look"))
  | with_reducible refine r_for ?_
  | with_reducible refine r_iList ?_
  | with_reducible refine r_rng1 ?_
  | with_reducible refine r_enum ?_
  | (with_reducible show Ends.nx _ _ _; dsimp only)
  | (with_reducible show Ends.rt _ _ _; dsimp only)
  | (with_reducible show Ends.ct _ _ _; dsimp only)
  | (with_reducible show Ends.bk _ _ _; dsimp only))
local macro_rules | `(tactic| walk_at "go") => `(tactic| repeat (walk_at "st"))
local macro_rules | `(tactic| walk_at "begin") => `(tactic| dsimp only [cxOf, wipe, L2.start, List.map, List.length_cons, List.length_nil, Nat.reduceAdd, Nat.reduceSub, List.replicate, List.cons_append, List.nil_append])


theorem r_keysU {td : TE} {σ : L2.St} {H : Hp} {R : It → Hp → Prop} (h : td σ H fun x H1 => ∃ d o, x = .ref d ∧ ((∃ kvs, H1 d = some (.frz o (.dK kvs)) ∧ R (Itk d o kvs) H1) ∨ ∃ kvs, H1 d = some (.frz o (.dT kvs)) ∧ R (Itkt d o kvs) H1)) : iKeys td σ H R := h
theorem keys_int {kvs : List (Key × V)} (h : ∀ p ∈ kvs, ∃ z : Int, p.1 = Sum.inl z) : ∃ ns : List Int, keysV kvs = ns.map V.int ∧ ns.length = kvs.length := by
  induction kvs with
  | nil => exact ⟨[], rfl, rfl⟩
  | cons p r ih =>
    obtain ⟨ns, h1, h2⟩ := ih fun q hq => h q (List.mem_cons_of_mem _ hq)
    obtain ⟨z, hz⟩ := h p List.mem_cons_self
    refine ⟨z :: ns, ?_, by rw [List.length_cons, List.length_cons, h2]⟩
    show kV p.1 :: keysV r = V.int z :: ns.map V.int
    rw [h1, hz]; rfl
def spNumber (CB : Addr) : Sp := fun vs H Q _ => ∃ (st g : Addr) (R : RS) (B : Hp) (r b d e : Addr) (kvs : List (Key × V)) (n : Int) (ring : Bool), vs = [.ref st, .ref r] ∧ H = rg st g R B ∧ Ok st g R B ∧ Row CB B r b d e kvs n ring ∧ n ≤ 10000 ∧
  ∀ (R' : RS) (B' : Hp) (z : Int), Ok st g R' B' → Same B B' → Q (.int z) (rg st g R' B')
section
variable {P : Program} {w : World} {K : PySem.W.Frag} {mg : Str → Option Value} {base : Heap}
theorem ok_number {f f1 f2 CB : Addr} {fd fd1 fd2 : FuncData} (B : Blt mg) (D : Dn K mg "_law_number" s__law_number ["state", "row"] f fd) (D_law_draw : Dn K mg "_law_draw" s__law_draw ["state", "many"] f1 fd1)
    (G_law_draw : FnOk P w K mg base CX0 1 f1 fd1 ["state", "many"] spDraw) (D_law_pick : Dn K mg "_law_pick" s__law_pick ["state", "row"] f2 fd2) (G_law_pick : FnOk P w K mg base CX0 2 f2 fd2 ["state", "row"] spPick) :
    FnOk P w K mg base CX0 3 f fd ["state", "row"] (spNumber CB) := by
  refine D.F.ok sc__law_number (fun vs H Q E h => ?_) (fun cdv A outer s H vs Q E hr h => ?_)
  · obtain ⟨st, g, R, B, r, b, d, e, kvs, n, ring, rfl, _⟩ := h
    rfl
  · obtain ⟨st, g, R, C, r, b, d, e, kvs, n, ring, rfl, rfl, o, hR, hn, q⟩ := h
    refine ⟨_, (pss_cons (ps_lock (ps_set (i := 2) sc__law_number.nd rfl (.inr rfl) (pe_lc (own := [("number", 4)]) rfl sc__law_number.nd (pi_keys (pe_ix (ix_listK (K := K) rfl) (pv 1) pe_int (fun _ _ => rfl))) (blkOk_by (own := [("number", 4)]) (by kernel_rfl))
        (fun _ _ _ _ _ => (pg_name (i := 4) sc__law_number.nd rfl (.inl rfl))) (fun _ _ _ _ _ => pts_nil)
        (fun _ _ _ _ _ => (pv 4)))))
      (C8.pss_cut (ps_if (PW.pt (pw_and (pt_cmpR op_gt (pe_callB (call_len_seqK (K := K) rfl) (by rfl) B.m_len PySem.boot_len (pa_cons (pv 2) pa_nil)) pe_int (nomark _)) (pw_and1 (pt_cmpR op_gt (pe_call G_law_draw (hr.mono (by decide)) (by rfl) D_law_draw.g D_law_draw.F.kp D_law_draw.b .nil pass0 (pa_cons (pv 0) (pa_cons pe_int pa_nil))) pe_int (nomark _))))) (pss_one (ps_ret (pe_call G_law_pick (hr.mono (by decide)) (by rfl) D_law_pick.g D_law_pick.F.kp D_law_pick.b .nil pass0 (pa_cons (pv 0) (pa_cons (pv 2) pa_nil))))) pss_nil)
      (pss_cons (ps_setLc (i := 3) (own := [("number", 4)]) rfl sc__law_number.nd rfl rfl (sw_true rfl rfl rfl (by decide +kernel)) (pi_range2 (by rfl) B.m_range (pa_cons pe_int (pa_cons (pe_ix (ix_listK (K := K) rfl) (pv 1) pe_int (fun _ _ => rfl)) pa_nil))) (blkOk_by (own := [("number", 4)]) (by kernel_rfl))
        (fun _ _ _ _ _ => (pg_name (i := 4) sc__law_number.nd rfl (.inl rfl))) (fun _ _ _ _ _ => (pts_one (pt_cmpR (op_notIn_seqK (K := K) rfl) (pv 4) (pv 2) (by rfl))))
        (fun _ _ _ _ _ => (pv 4)))
      (pss_one (ps_ret (pe_call G_law_pick (hr.mono (by decide)) (by rfl) D_law_pick.g D_law_pick.F.kp D_law_pick.b .nil pass0 (pa_cons (pv 0) (pa_cons (pe_op op_cat (pv 3) (pe_lst (pa_cons pe_int (pa_cons (pe_un un_neg pe_int) (pa_cons (pe_ix (ix_listK (K := K) rfl) (pv 1) pe_int (fun _ _ => rfl)) (pa_cons (pe_op op_add (pe_op op_add (pe_ix (ix_listK (K := K) rfl) (pv 1) pe_int (fun _ _ => rfl)) pe_int) (pe_call G_law_draw (hr.mono (by decide)) (by rfl) D_law_draw.g D_law_draw.F.kp D_law_draw.b .nil pass0 (pa_cons (pv 0) (pa_cons pe_int pa_nil)))) pa_nil)))))) pa_nil)))))))), ?_⟩
    obtain ⟨rb, rd, re, be⟩ := hR.ner
    obtain ⟨ns, hns, hnl⟩ := keys_int fun p hp => let ⟨z, h1, _⟩ := hR.kv.key p hp; ⟨z, h1⟩
    have hk6 := hR.kv.len
    have hn1 := hR.n1
    have he := rg_get o hR.ke
    have hrow := rg_get o hR.row
    walk_at "begin"
    walk_at "go"
    refine ⟨e, _, he, trivial, fun od => ?_⟩
    have hrow2 : upd (rg st g R C) e (.frz od (.dK kvs)) r = some (.lst [.ref b, .ref e, .int n, .bl ring]) := by rw [upd_ne re]; exact hrow
    walk_at "go"
    refine r_keysU ?_
    walk_at "go"
    refine ⟨e, od, rfl, .inl ⟨kvs, upd_same, fun p np => ?_⟩⟩
    obtain ⟨h1, h2, h3⟩ := unlocked he np
    refine lc_it walk_keys (fun i H' => H' = upd (upd (rg st g R C) e (.frz od (.dK kvs))) p (.lst ((keysV kvs).take i))) rfl ?_ ?_ ?_
    · rintro i H' _ rfl
      rw [upd_ne h1.symm, upd_same]
    · rintro i x H' H2 hi rfl ⟨rfl, k, v, hkv, rfl⟩
      walk_at "begin"
      walk_at "go"
      refine ⟨rfl, ?_⟩
      walk_at "go"
      have hk1 : (keysV kvs)[i]? = some (kV k) := by unfold keysV; rw [List.getElem?_map, hkv]; rfl
      refine ⟨_, upd_same, small (by rw [List.length_take]; omega), ?_⟩
      rw [upd_upd, tk_succ hk1]
    · rintro H' rfl
      have el : (keysV kvs).length = kvs.length := by unfold keysV; rw [List.length_map]
      have et : (keysV kvs).take kvs.length = keysV kvs := by rw [← el, List.take_length]
      rw [et]
      walk_at "go"
      refine ⟨by rw [upd_ne h1.symm, upd_same], ?_⟩
      rw [h3, hns]
      generalize e_ : upd (rg _ _ _ _) p _ = X_
      obtain ⟨C1, rfl, o1, hS1, hp1, n1⟩ := newX o h2 e_
      clear e_ h3 np hrow2 hrow he
      have hrow := (hR.same hS1).row
      walk_at "go"
      refine ⟨fun σ HM => ∃ R', σ = [some (.ref st), some (.ref r), some (.ref p), none, none] ∧ HM = rg st g R' C1 ∧ Ok st g R' C1, ?_, ?_⟩
      · walk_at "go"
        refine r_ite (fun hz => ?_) (fun hz => ?_)
        · walk_at "go"
          rename_i R2 z2 o2 z2a z2b
          refine r_ite (fun hz2 => ?_) (fun hz2 => ?_)
          · walk_at "go"
            refine ⟨st, g, R2, C1, p, _, rfl, rfl, o2, hp1, by omega, by rw [List.length_map]; omega, fun R3 i v o3 hv => ?_⟩
            obtain ⟨z, rfl, hz⟩ := ints_at hv
            walk_at "go"
            exact q _ _ _ o3 hS1
          · walk_at "go"
            exact ⟨R2, rfl, rfl, o2⟩
        · walk_at "go"
          exact ⟨R, rfl, rfl, o1⟩
      · rintro σ HM ⟨R2, rfl, rfl, o2⟩
        walk_at "go"
        refine lcT_range2 (topRg st g) o2 (by decide) (by decide) (by omega) (by omega) (fun i C acc => ∃ ms : List Int, acc = ms.map V.int ∧ ms.length ≤ i) ⟨[], rfl, Nat.le_refl _⟩ ?_ ?_
        · rintro D2 i R3 C2 acc o3 hD2 hS2 hi ⟨ms, rfl, hml⟩
          have hp2 : upd C2 D2 (.lst (ms.map V.int)) p = some (.lst (ns.map V.int)) := upd_old hD2 (hS2 _ _ hp1)
          walk_at "begin"
          walk_at "go"
          refine ⟨rfl, ?_⟩
          walk_at "go"
          refine r_inI (rg_get o3 hp2) ?_
          refine ⟨_, rfl, ?_⟩
          refine r_iteB (fun _ => ?_) (fun _ => ?_)
          · walk_at "go"
            refine lcN_put (topRg st g) o3 hD2 hS2 (by rw [List.length_map]; omega) ⟨ms ++ [1 + (i : Int)], by rw [List.map_append]; rfl, by rw [List.length_append, List.length_singleton]; omega⟩
          · exact lcN_skip o3 hD2 hS2 ⟨ms, rfl, by omega⟩
        · rintro D2 R3 C2 acc o3 hB2 hD2 hS2 ⟨ms, rfl, hml⟩
          walk_at "go"
          rename_i R4 z4 o4 z4a z4b
          refine ⟨by walk_at "len", fun p3 np_ => ?_⟩
          generalize e_ : upd (rg _ _ _ _) p3 _ = X_
          obtain ⟨C3, rfl, o5, hS3, hp3, n3⟩ := newX (by assumption) np_ e_
          clear np_
          have hg2 : C3 D2 = some (.lst (ms.map V.int)) := hS3 _ _ upd_same
          refine r_cat (rg_get o5 hg2) (rg_get o5 hp3) (by rw [List.length_map, List.length_cons, List.length_cons, List.length_cons, List.length_cons, List.length_nil]; omega) fun p4 np4 => ?_
          have e5 : ms.map V.int ++ [V.int 0, V.int (-1), V.int n, V.int (n + 1 + z4)] = (ms ++ [0, -1, n, n + 1 + z4]).map V.int := by rw [List.map_append]; rfl
          rw [e5]
          generalize e_ : upd (rg _ _ _ _) p4 _ = X_
          obtain ⟨C4, rfl, o6, hS4, hp4, n4⟩ := newX (by assumption) np4 e_
          clear np4
          walk_at "go"
          have hl4 : (ms ++ [0, -1, n, n + 1 + z4]).length = ms.length + 4 := by rw [List.length_append]; rfl
          refine ⟨st, g, R4, C4, p4, _, rfl, rfl, o6, hp4, by rw [List.length_map, hl4]; omega, by rw [List.length_map, hl4]; omega, fun R3 i v o3 hv => ?_⟩
          obtain ⟨z, rfl, hz⟩ := ints_at hv
          walk_at "go"
          exact q _ _ _ o3 (hS1.trans ((hS2.trans (same_new hD2)).trans (hS3.trans hS4)))
end
end K53
namespace K53
open PySem PySem.Spec PyProof.Rows L2 Lw


local macro_rules | `(tactic| walk_at "look") => `(tactic| first
  | assumption
  | with_reducible exact upd_same
  | with_reducible exact rg_st
  | with_reducible exact rg_g (by assumption)
  | (with_reducible refine upd_old (by assumption) ?_; walk_at "look")
  | (with_reducible refine rg_get (by assumption) ?_; walk_at "look")
  | (with_reducible refine Same.get (by assumption) ?_; walk_at "look"))
local macro_rules | `(tactic| walk_at "cond") => `(tactic| first
  | (show _ ≠ _; omega) | exact cdivN (by omega) (by omega) | exact cmul_mod (by decide) (by decide) | exact cmulR (by omega) (by omega) | exact cmulL (by omega) (by omega) | exact cpow (by omega) (by omega) (by omega) (by omega) | (show (0:Int) ≤ _; omega))
local macro_rules | `(tactic| walk_at "at") => `(tactic| first | assumption | with_unfolding_all rfl)
local macro_rules | `(tactic| walk_at "sz") => `(tactic| first | assumption | (refine small ?_; omega) | (refine small ?_; simp only [List.length_map, List.length_append, List.length_cons, List.length_nil]; omega))
local macro_rules | `(tactic| walk_at "len") => `(tactic| first | exact size_nil | exact Nat.le_of_lt (small (by simp only [List.length_cons, List.length_nil, List.length_map]; omega)))
local macro_rules | `(tactic| walk_at "newD") => `(tactic| (refine ⟨by walk_at "len", fun p np => ?_⟩; obtain ⟨e, o', hD', n', ne'⟩ := newTD_eq (topRg _ _) (by assumption) (by assumption) np (.lst _); rw [e]; clear e))
local macro_rules | `(tactic| walk_at "new") => `(tactic| (refine ⟨by walk_at "len", fun p np => ?_⟩; obtain ⟨e, o', n'⟩ := newT_eq (topRg _ _) (by assumption) np (.lst _); rw [e]; clear e))
local macro_rules | `(tactic| walk_at "st") => `(tactic| first
  | with_reducible refine r_seq ?_
  | with_reducible refine r_var rfl ?_
  | with_reducible refine r_c ?_
  | with_reducible refine r_asg ?_
  | (with_reducible refine r_name ?_; dsimp only [List.set_cons_zero, List.set_cons_succ])
  | with_reducible refine r_sub ?_
  | with_reducible refine r_op ?_
  | with_reducible refine r_i0 ?_
  | (with_reducible refine' r_i ?k1 ?_; (case k1 => walk_at "cond"))
  | with_reducible refine r_cons ?_
  | with_reducible refine r_nil ?_
  | with_reducible refine r_cb ?_
  | with_reducible refine r_call ?_
  | with_reducible refine r_ifs ?_
  | with_reducible refine r_test ?_
  | with_reducible refine r_tB ?_
  | with_reducible refine r_bl ?_
  | with_reducible refine r_ret ?_
  | with_reducible refine r_drop ?_
  | with_reducible refine r_next ?_
  | (with_reducible refine' r_ixL ?k1 ?k2 ?_; (case k1 => walk_at "look"); (case k2 => walk_at "at"))
  | (with_reducible refine' r_setL ?k1 ?k2 ?_; (case k1 => walk_at "look"); (case k2 => walk_at "at"))
  | (with_reducible refine' r_tup (SqT.of ?k1) ?k2 ?_; (case k1 => walk_at "look"); (case k2 => rfl))
  | with_reducible refine r_gcons ?_
  | with_reducible refine r_gnil ?_
  | with_reducible refine r_aug rfl ?_
  | with_reducible refine r_augS ?_
  | with_reducible refine r_ipI ?_
  | with_reducible refine r_un ?_
  | with_reducible refine r_u ?_
  | with_reducible refine r_eq rfl ?_
  | with_reducible refine r_ne rfl ?_
  | with_reducible refine r_chain ?_
  | with_reducible refine iteF ?_
  | with_reducible refine r_not ?_
  | with_reducible refine r_and ?_
  | with_reducible refine r_or ?_
  | with_reducible refine r_andV ?_
  | with_reducible refine r_orV ?_
  | with_reducible refine r_notV ?_
  | with_reducible refine r_lst ?_
  | with_reducible refine r_bm ?_
  | with_reducible refine r_bm0 ?_
  | (with_reducible refine' And.intro (r_ty ?k1) ?_; (case k1 => walk_at "look"))
  | (with_reducible refine' r_append ?k1 ?k2 ?_; (case k1 => walk_at "look"); (case k2 => walk_at "sz"))
  | (with_reducible refine' r_lenK ?k1 ?_; (case k1 => walk_at "look"))
  | (with_reducible refine' r_listOf ?k1 ?_; (case k1 => walk_at "look"))
  | (with_reducible refine' r_sortedI ?k1 ?_; (case k1 => walk_at "look"))
  | (with_reducible refine' r_sum ?k1 ?_; (case k1 => walk_at "look"))
  | with_reducible refine r_int ?_
  | (with_reducible refine' r_draw (by assumption) ?k1 ?k2 ?_; (case k1 => omega); (case k2 => omega); intro R' n' o' h' h'')
  | with_reducible refine iteT ?_
  | with_reducible refine r_revL ?_
  | with_reducible refine r_lc ?_
  | with_reducible refine r_yes ?_
  | with_reducible refine r_sl ?_
  | with_reducible refine iteNTr ?_
  | with_reducible refine iteNFa ?_
  | with_reducible refine r_fld ?_
  | with_reducible refine r_sFld ?_
  | with_reducible refine r_meth ?_
  | with_reducible refine r_methT ?_
  | with_reducible refine r_prop ?_
  | with_reducible refine r_dget ?_
  | with_reducible refine r_dput ?_
  | with_reducible refine r_noPart ?_
  | with_reducible refine r_part ?_
  | with_reducible refine r_lc2 ?_
  | with_reducible refine r_callN ?_
  | with_reducible refine r_callD ?_
  | with_reducible refine r_tupE ?_
  | with_reducible refine r_rng2 ?_
  | with_reducible refine r_i1 ?_
  | (with_reducible refine' r_slL ?k1 ?_; (case k1 => walk_at "look"))
  | with_reducible refine r_for ?_
  | with_reducible refine r_iList ?_
  | with_reducible refine r_rng1 ?_
  | with_reducible refine r_enum ?_
  | (with_reducible show Ends.nx _ _ _; dsimp only)
  | (with_reducible show Ends.rt _ _ _; dsimp only)
  | (with_reducible show Ends.ct _ _ _; dsimp only)
  | (with_reducible show Ends.bk _ _ _; dsimp only))
local macro_rules | `(tactic| walk_at "go") => `(tactic| repeat (walk_at "st"))
local macro_rules | `(tactic| walk_at "begin") => `(tactic| dsimp only [cxOf, wipe, L2.start, List.map, List.length_cons, List.length_nil, Nat.reduceAdd, Nat.reduceSub, List.replicate, List.cons_append, List.nil_append])


theorem Row.kp {CB : Addr} {N : Addr → Prop} {H H' : Hp} {r b d e : Addr} {kvs : List (Key × V)} {n : Int} {ring : Bool} (h : Row CB H r b d e kvs n ring) (k : Kp N H H') (kt : KT H H') (nr : ¬ N r) (nb : ¬ N b) (nd : ¬ N d) (ne : ¬ N e) : Row CB H' r b d e kvs n ring := by
  obtain ⟨dx, ob⟩ := h.bk.ob
  exact ⟨k _ _ h.row nr, ⟨⟨dx, k _ _ ob nb⟩, k _ _ h.bk.nu nd⟩, k _ _ h.ke ne, h.kv.keep kt, h.de, h.n1⟩
theorem Row.off {CB : Addr} {B : Hp} {r b d e c : Addr} {kvs : List (Key × V)} {n : Int} {ring : Bool} (h : Row CB B r b d e kvs n ring) (hc : B c = none) : ¬ In4 r b d e c := fun z => by
  obtain ⟨dx, ob⟩ := h.bk.ob
  rcases z with z | z | z | z <;> subst z
  · rw [h.row] at hc; cases hc
  · rw [ob] at hc; cases hc
  · rw [h.bk.nu] at hc; cases hc
  · rw [h.ke] at hc; cases hc
theorem Row.low {CB st g : Addr} {R : RS} {B : Hp} {r b d e : Addr} {kvs : List (Key × V)} {n : Int} {ring : Bool} (h : Row CB (rg st g R B) r b d e kvs n ring) (f : ∀ c, In4 r b d e c → c ≠ st ∧ c ≠ g) : Row CB B r b d e kvs n ring := by
  have lo : ∀ c x, In4 r b d e c → rg st g R B c = some x → B c = some x := fun c x hc hx => by
    obtain ⟨h1, h2⟩ := f c hc
    unfold rg at hx
    rw [upd_ne h1, upd_ne h2] at hx
    exact hx
  obtain ⟨dx, ob⟩ := h.bk.ob
  exact ⟨lo _ _ (.inl rfl) h.row, ⟨⟨dx, lo _ _ (.inr (.inl rfl)) ob⟩, lo _ _ (.inr (.inr (.inl rfl))) h.bk.nu⟩, lo _ _ (.inr (.inr (.inr rfl))) h.ke, h.kv.keep kt_rg, h.de, h.n1⟩
/-- a row's deed, seen below the draws -/
theorem Row.deed {CB st g : Addr} {R : RS} {B H' : Hp} {r b d e b' d' e' : Addr} {kvs kvs' : List (Key × V)} {n n' : Int} {ring ring' : Bool} (o : Ok st g R B) (h : Row CB B r b d e kvs n ring) (h' : Row CB H' r b' d' e' kvs' n' ring')
    (hn : (b' = b ∧ d' = d ∧ e' = e) ∨ (rg st g R B b' = none ∧ rg st g R B d' = none ∧ rg st g R B e' = none)) (k : Kp (In4 r b d e) (rg st g R B) H') :
    ∃ B', H' = rg st g R B' ∧ Ok st g R B' ∧ Row CB B' r b' d' e' kvs' n' ring' ∧ Kp (In4 r b d e) B B' ∧ ((b' = b ∧ d' = d ∧ e' = e) ∨ (B b' = none ∧ B d' = none ∧ B e' = none)) := by
  have f : ∀ c, In4 r b d e c → c ≠ st ∧ c ≠ g := fun c hc => ⟨fun z => h.off o.bst (z ▸ hc), fun z => h.off o.bg (z ▸ hc)⟩
  obtain ⟨B', rfl, o', k', _⟩ := rg_kp o k (h.off o.bst) (h.off o.bg)
  refine ⟨B', rfl, o', h'.low fun c hc => ?_, k', ?_⟩
  · rcases hn with ⟨rfl, rfl, rfl⟩ | ⟨h1, h2, h3⟩
    · exact f c hc
    · rcases hc with z | z | z | z <;> subst z
      · exact f _ (.inl rfl)
      · exact ⟨(rg_none h1).1, (rg_none h1).2.1⟩
      · exact ⟨(rg_none h2).1, (rg_none h2).2.1⟩
      · exact ⟨(rg_none h3).1, (rg_none h3).2.1⟩
  · rcases hn with hn | ⟨h1, h2, h3⟩
    · exact .inl hn
    · exact .inr ⟨(rg_none h1).2.2, (rg_none h2).2.2, (rg_none h3).2.2⟩
def spDeed (CB : Addr) : Sp := fun vs H Q _ => ∃ (st g : Addr) (R : RS) (B : Hp) (r b d e tm la : Addr) (kvs : List (Key × V)) (n : Int) (ring : Bool) (us : List V) (v : V), vs = [.ref st, .ref r, .ref tm, .ref la] ∧ H = rg st g R B ∧ Ok st g R B ∧ Row CB B r b d e kvs n ring ∧ n ≤ 9000 ∧
  B tm = some (.lst us) ∧ Tms B 9 us ∧ 1 ≤ us.length ∧ us.length ≤ 100000 ∧ B la = some (.lst [v]) ∧ Says B 30 [v] ∧ la ≠ r ∧ la ≠ tm ∧
  ∀ (R' : RS) (B' : Hp) (b' d' e' : Addr) (kvs' : List (Key × V)) (n' : Int) (ring' : Bool) (v' : V), Ok st g R' B' → Row CB B' r b' d' e' kvs' n' ring' → n' ≤ n + 7 → ((b' = b ∧ d' = d ∧ e' = e) ∨ (B b' = none ∧ B d' = none ∧ B e' = none)) →
    Kp (fun c => In4 r b d e c ∨ c = la) B B' → B' la = some (.lst [v']) → Says B' 30 [v'] → Q (.bl true) (rg st g R' B')
theorem Says.one {H : Hp} {n : Nat} {v : V} {t : Tre} (h : Tat H v t) (hd : t.deep ≤ n) : Says H n [v] := fun x hx => by rw [List.mem_singleton.mp hx]; exact ⟨t, h, hd⟩
theorem Says.push {H : Hp} {n : Nat} {vs : List V} {v : V} {t : Tre} (h : Says H n vs) (h1 : Tat H v t) (h2 : t.deep ≤ n) : Says H n (vs ++ [v]) := fun x hx => by
  rcases List.mem_append.mp hx with e | e
  · exact h x e
  · rw [List.mem_singleton.mp e]; exact ⟨t, h1, h2⟩
section
variable {P : Program} {w : World} {K : PySem.W.Frag} {mg : Str → Option Value} {base : Heap}
theorem ok_deed {f f1 f2 f3 f4 f5 f6 CB : Addr} {fd fd1 fd2 fd3 fd4 fd5 fd6 : FuncData} (B : Blt mg) (D : Dn K mg "_law_deed" s__law_deed ["state", "row", "terms", "last"] f fd) (D_law_draw : Dn K mg "_law_draw" s__law_draw ["state", "many"] f1 fd1)
    (G_law_draw : FnOk P w K mg base CX0 1 f1 fd1 ["state", "many"] spDraw) (D_law_piece : Dn K mg "_law_piece" s__law_piece ["state", "terms"] f2 fd2) (G_law_piece : FnOk P w K mg base CX0 5 f2 fd2 ["state", "terms"] (spSay 13))
    (D_law_tell : Dn K mg "_law_tell" s__law_tell ["row", "saying"] f3 fd3) (G_law_tell : FnOk P w K mg base CX0 2 f3 fd3 ["row", "saying"] (spTell CB))
    (D_law_drop : Dn K mg "_law_drop" s__law_drop ["row", "number"] f4 fd4) (G_law_drop : FnOk P w K mg base CX0 2 f4 fd4 ["row", "number"] (spDrop CB))
    (D_law_number : Dn K mg "_law_number" s__law_number ["state", "row"] f5 fd5) (G_law_number : FnOk P w K mg base CX0 3 f5 fd5 ["state", "row"] (spNumber CB))
    (D_law_made_of : Dn K mg "_law_made_of" s__law_made_of ["row", "sayings"] f6 fd6) (G_law_made_of : FnOk P w K mg base CX0 4 f6 fd6 ["row", "sayings"] (spMade CB)) :
    FnOk P w K mg base CX0 6 f fd ["state", "row", "terms", "last"] (spDeed CB) := by
  refine D.F.ok sc__law_deed (fun vs H Q E h => ?_) (fun cdv A outer s H vs Q E hr h => ?_)
  · obtain ⟨st, g, R, B, r, b, d, e, tm, la, kvs, n, ring, us, v, rfl, _⟩ := h
    rfl
  · obtain ⟨st, g, R, C, r, b, d, e, tm, la, kvs, n, ring, us, v, rfl, rfl, o, hR, hn, ht, hT, h1, h2, hla, hv, hlr, hlt, q⟩ := h
    refine ⟨_, (pss_cons (ps_set (i := 4) sc__law_deed.nd rfl (.inl rfl) (pe_call G_law_draw (hr.mono (by decide)) (by rfl) D_law_draw.g D_law_draw.F.kp D_law_draw.b .nil pass0 (pa_cons (pv 0) (pa_cons pe_int pa_nil))))
      (pss_cons (ps_if (pt_cmpR op_lt (pv 4) pe_int (nomark _)) (pss_cons (ps_set (i := 5) sc__law_deed.nd rfl (.inl rfl) (pe_call G_law_piece (hr.mono (by decide)) (by rfl) D_law_piece.g D_law_piece.F.kp D_law_piece.b .nil pass0 (pa_cons (pv 0) (pa_cons (pv 2) pa_nil))))
      (C8.pss_cut (ps_if (pt_cmpR op_eq (pe_call G_law_draw (hr.mono (by decide)) (by rfl) D_law_draw.g D_law_draw.F.kp D_law_draw.b .nil pass0 (pa_cons (pv 0) (pa_cons pe_int pa_nil))) pe_int (nomark _)) (pss_one (ps_set (i := 5) sc__law_deed.nd rfl (.inl rfl) (pe_ix (ix_listK (K := K) rfl) (pv 3) pe_int (fun _ _ => rfl)))) pss_nil)
      (pss_cons (ps_asg (pv 5) (pg_sub (pv 3) pe_int set_list))
      (pss_one (ps_ret (pe_call G_law_tell (hr.mono (by decide)) (by rfl) D_law_tell.g D_law_tell.F.kp D_law_tell.b .nil pass0 (pa_cons (pv 1) (pa_cons (pv 5) pa_nil)))))))) pss_nil)
      (pss_cons (ps_if (pt_cmpR op_lt (pv 4) pe_int (nomark _)) (pss_one (ps_ret (pe_call G_law_drop (hr.mono (by decide)) (by rfl) D_law_drop.g D_law_drop.F.kp D_law_drop.b .nil pass0 (pa_cons (pv 1) (pa_cons (pe_call G_law_number (hr.mono (by decide)) (by rfl) D_law_number.g D_law_number.F.kp D_law_number.b .nil pass0 (pa_cons (pv 0) (pa_cons (pv 1) pa_nil))) pa_nil))))) pss_nil)
      (pss_one (ps_ret (pe_call G_law_made_of (hr.mono (by decide)) (by rfl) D_law_made_of.g D_law_made_of.F.kp D_law_made_of.b .nil pass0 (pa_cons (pv 1) (pa_cons (pe_lc (own := [("k", 6)]) rfl sc__law_deed.nd (pi_range1 (by rfl) B.m_range (pa_cons (pe_call G_law_draw (hr.mono (by decide)) (by rfl) D_law_draw.g D_law_draw.F.kp D_law_draw.b .nil pass0 (pa_cons (pv 0) (pa_cons pe_int pa_nil))) pa_nil)) (blkOk_by (own := [("k", 6)]) (by kernel_rfl))
        (fun _ _ _ _ _ => (pg_name (i := 6) sc__law_deed.nd rfl (.inl rfl))) (fun _ _ _ _ _ => pts_nil)
        (fun _ _ _ _ _ => (pe_call G_law_piece (hr.mono (by decide)) (by rfl) D_law_piece.g D_law_piece.F.kp D_law_piece.b .nil pass0 (pa_cons (pv 0) (pa_cons (pv 2) pa_nil))))) pa_nil)))))))), ?_⟩
    have hna : ¬ In4 r b d e la := fun z => by
      obtain ⟨dx, ob⟩ := hR.bk.ob
      rcases z with z | z | z | z
      · exact hlr z
      · rw [z, ob] at hla; cases hla
      · rw [z, hR.bk.nu] at hla; cases hla
      · rw [z, hR.ke] at hla; cases hla
    walk_at "begin"
    walk_at "go"
    rename_i R1 kind o1 k1 k2
    refine r_ite (fun hk => ?_) (fun hk => ?_)
    · walk_at "go"
      refine ⟨st, g, R1, C, tm, us, rfl, rfl, o1, ht, hT, h1, h2, fun R2 C2 v2 t2 o2 hS2 hv2 hd2 => ?_⟩
      walk_at "go"
      refine ⟨fun σ HM => ∃ R' v, σ = [some (.ref st), some (.ref r), some (.ref tm), some (.ref la), some (.int kind), some v, none] ∧ HM = rg st g R' C2 ∧ Ok st g R' C2 ∧ Says C2 30 [v], ?_, ?_⟩
      · have hla2 := hS2 _ _ hla
        walk_at "go"
        rename_i R3 z3 o3 z3a z3b
        refine r_ite (fun hz => ?_) (fun hz => ?_)
        · walk_at "go"
          exact ⟨R3, v, rfl, rfl, o3, hv.keep (KT.of hS2)⟩
        · walk_at "go"
          exact ⟨R3, v2, rfl, rfl, o3, Says.one hv2 (by omega)⟩
      · rintro σ HM ⟨R3, v3, rfl, rfl, o3, hv3⟩
        have hla3 := rg_get o3 (hS2 _ _ hla)
        walk_at "go"
        have ew := rg_write (o := .lst [v3]) o3 (hS2 _ _ hla)
        change spTell CB _ (upd _ la (.lst [v3])) _ _
        rw [ew.1]
        have ow := ew.2
        have hR2 := hR.same hS2
        have kt3 : KT C2 (upd C2 la (.lst [v3])) := kt_put (hS2 _ _ hla)
        have hla3 : upd C2 la (.lst [v3]) la = some (.lst [v3]) := upd_same
        have hR3 : Row CB (upd C2 la (.lst [v3])) r b d e kvs n ring := hR2.kp (N := (· = la)) (Kp.put rfl) kt3 (fun z => hna (.inl z.symm)) (fun z => hna (.inr (.inl z.symm))) (fun z => hna (.inr (.inr (.inl z.symm)))) (fun z => hna (.inr (.inr (.inr z.symm))))
        have hK3 : Kp (fun c => In4 r b d e c ∨ c = la) C (upd C2 la (.lst [v3])) := (Kp.of hS2).trans (Kp.put (.inr rfl))
        replace hv3 := hv3.keep kt3
        clear ew
        generalize upd C2 la (.lst [v3]) = C3 at ow kt3 hla3 hR3 hK3 hv3 ⊢
        obtain ⟨t3, ht3, hd3⟩ := hv3 v3 List.mem_cons_self
        refine ⟨r, b, d, e, kvs, n, ring, v3, t3, rfl, hR3.same fun c x hx => rg_get ow hx, ht3.keep fun c x hx => rg_get ow hx, hd3, fun H' kvs' n' hR' hn' hK => ?_⟩
        obtain ⟨C4, rfl, o4, hR4, hK4, hnn⟩ := Row.deed ow hR3 hR' (.inl ⟨rfl, rfl, rfl⟩) hK
        walk_at "go"
        exact q _ _ _ _ _ _ _ _ v3 o4 hR4 (by omega) (.inl ⟨rfl, rfl, rfl⟩) (hK3.trans (hK4.mono fun c => .inl)) (hK4 _ _ hla3 hna) (hv3.keep (hR3.kt hK4))
    · walk_at "go"
      refine r_ite (fun hk2 => ?_) (fun hk2 => ?_)
      · walk_at "go"
        refine ⟨st, g, R1, C, r, b, d, e, kvs, n, ring, rfl, rfl, o1, hR, by omega, fun R2 C2 z o2 hS2 => ?_⟩
        have hR2 := hR.same hS2
        walk_at "go"
        refine ⟨r, b, d, e, kvs, n, ring, z, rfl, hR2.same fun c x hx => rg_get o2 hx, fun H' kvs' hR' hK => ?_⟩
        obtain ⟨C3, rfl, o3, hR3, hK3, hnn⟩ := Row.deed o2 hR2 hR' (.inl ⟨rfl, rfl, rfl⟩) hK
        walk_at "go"
        exact q _ _ _ _ _ _ _ _ v o3 hR3 (by omega) (.inl ⟨rfl, rfl, rfl⟩) ((Kp.of hS2).trans (hK3.mono fun c => .inl)) (hK3 _ _ (hS2 _ _ hla) hna) (hv.keep ((KT.of hS2).trans (hR2.kt hK3)))
      · walk_at "go"
        rename_i R2 z2 o2 z2a z2b
        refine lcT_range (topRg st g) o2 (by omega) (by omega) (fun i C acc => Says C 30 acc ∧ acc.length = i) ⟨fun _ h => (nomatch h), rfl⟩ ?_ ?_
        · rintro D2 i R3 C2 acc o3 hD2 hS2 hi ⟨hs, hl⟩
          have ht2 : upd C2 D2 (.lst acc) tm = some (.lst us) := upd_old hD2 (hS2 _ _ ht)
          walk_at "begin"
          walk_at "go"
          refine ⟨rfl, ?_⟩
          walk_at "go"
          refine ⟨st, g, R3, _, tm, us, rfl, rfl, o3, ht2, hT.keep (KT.of (hS2.trans (same_new hD2))), h1, h2, fun R4 C4 v4 t4 o4 hS4 hv4 hd4 => ?_⟩
          walk_at "go"
          obtain ⟨C5, rfl, n5, hS5⟩ := lay_same hD2 hS4
          refine lcN_put (topRg st g) o4 n5 (hS2.trans hS5) (by omega) ⟨?_, by rw [List.length_append, hl]; rfl⟩
          exact (hs.keep (KT.of hS5)).push (hv4.keep kt_lst) (by omega)
        · rintro D2 R3 C2 acc o3 hB2 hD2 hS2 ⟨hs, hl⟩
          have sC := hS2.trans (same_new (o := .lst acc) hD2)
          have hR2 := hR.same sC
          have hD3 : upd C2 D2 (.lst acc) D2 = some (.lst acc) := upd_same
          have hDr : D2 ≠ r := fun z => by rw [z, hR.row] at hB2; cases hB2
          have hs2 : Says (upd C2 D2 (.lst acc)) 30 acc := hs.keep (kt_new hD2)
          generalize upd C2 D2 (.lst acc) = C3 at o3 sC hR2 hD3 hs2 ⊢
          walk_at "go"
          refine ⟨r, b, d, e, D2, kvs, n, ring, acc, rfl, hR2.same fun c x hx => rg_get o3 hx, rg_get o3 hD3, hDr, hs2.keep fun c x hx => rg_get o3 hx, by omega, fun H' b' d' e' kvs' n' ring' hR' hn' hold hK => ?_⟩
          obtain ⟨C4, rfl, o4, hR4, hK4, hnn⟩ := Row.deed o3 hR2 hR' hold hK
          walk_at "go"
          refine q _ _ _ _ _ _ _ _ v o4 hR4 hn' ?_ ((Kp.of sC).trans (hK4.mono fun c => .inl)) (hK4 _ _ (sC _ _ hla) hna) (hv.keep ((KT.of sC).trans (hR2.kt hK4)))
          rcases hnn with hnn | ⟨q1, q2, q3⟩
          · exact .inl hnn
          · exact .inr ⟨sC.free q1, sC.free q2, sC.free q3⟩
end
end K53
namespace K53
open PySem PySem.Spec PyProof.Rows L2 Lw


local macro_rules | `(tactic| walk_at "look") => `(tactic| first
  | assumption
  | with_reducible exact upd_same
  | with_reducible exact rg_st
  | with_reducible exact rg_g (by assumption)
  | (with_reducible refine upd_old (by assumption) ?_; walk_at "look")
  | (with_reducible refine rg_get (by assumption) ?_; walk_at "look")
  | (with_reducible refine Same.get (by assumption) ?_; walk_at "look"))
local macro_rules | `(tactic| walk_at "cond") => `(tactic| first
  | (show _ ≠ _; omega) | exact cdivN (by omega) (by omega) | exact cmul_mod (by decide) (by decide) | exact cmulR (by omega) (by omega) | exact cmulL (by omega) (by omega) | exact cpow (by omega) (by omega) (by omega) (by omega) | (show (0:Int) ≤ _; omega))
local macro_rules | `(tactic| walk_at "at") => `(tactic| first | assumption | with_unfolding_all rfl)
local macro_rules | `(tactic| walk_at "sz") => `(tactic| first | assumption | (refine small ?_; omega) | (refine small ?_; simp only [List.length_map, List.length_append, List.length_cons, List.length_nil]; omega))
local macro_rules | `(tactic| walk_at "len") => `(tactic| first | exact size_nil | exact Nat.le_of_lt (small (by simp only [List.length_cons, List.length_nil, List.length_map]; omega)))
local macro_rules | `(tactic| walk_at "newD") => `(tactic| (refine ⟨by walk_at "len", fun p np => ?_⟩; obtain ⟨e, o', hD', n', ne'⟩ := newTD_eq (topRg _ _) (by assumption) (by assumption) np (.lst _); rw [e]; clear e))
local macro_rules | `(tactic| walk_at "new") => `(tactic| (refine ⟨by walk_at "len", fun p np => ?_⟩; obtain ⟨e, o', n'⟩ := newT_eq (topRg _ _) (by assumption) np (.lst _); rw [e]; clear e))
local macro_rules | `(tactic| walk_at "st") => `(tactic| first
  | with_reducible refine r_seq ?_
  | with_reducible refine r_var rfl ?_
  | with_reducible refine r_c ?_
  | with_reducible refine r_asg ?_
  | (with_reducible refine r_name ?_; dsimp only [List.set_cons_zero, List.set_cons_succ])
  | with_reducible refine r_sub ?_
  | with_reducible refine r_op ?_
  | with_reducible refine r_i0 ?_
  | (with_reducible refine' r_i ?k1 ?_; (case k1 => walk_at "cond"))
  | with_reducible refine r_cons ?_
  | with_reducible refine r_nil ?_
  | with_reducible refine r_cb ?_
  | with_reducible refine r_call ?_
  | with_reducible refine r_ifs ?_
  | with_reducible refine r_test ?_
  | with_reducible refine r_tB ?_
  | with_reducible refine r_bl ?_
  | with_reducible refine r_ret ?_
  | with_reducible refine r_drop ?_
  | with_reducible refine r_next ?_
  | (with_reducible refine' r_ixL ?k1 ?k2 ?_; (case k1 => walk_at "look"); (case k2 => walk_at "at"))
  | (with_reducible refine' r_setL ?k1 ?k2 ?_; (case k1 => walk_at "look"); (case k2 => walk_at "at"))
  | (with_reducible refine' r_tup (SqT.of ?k1) ?k2 ?_; (case k1 => walk_at "look"); (case k2 => rfl))
  | with_reducible refine r_gcons ?_
  | with_reducible refine r_gnil ?_
  | with_reducible refine r_aug rfl ?_
  | with_reducible refine r_augS ?_
  | with_reducible refine r_ipI ?_
  | with_reducible refine r_un ?_
  | with_reducible refine r_u ?_
  | with_reducible refine r_eq rfl ?_
  | with_reducible refine r_ne rfl ?_
  | with_reducible refine r_chain ?_
  | with_reducible refine iteF ?_
  | with_reducible refine r_not ?_
  | with_reducible refine r_and ?_
  | with_reducible refine r_or ?_
  | with_reducible refine r_andV ?_
  | with_reducible refine r_orV ?_
  | with_reducible refine r_notV ?_
  | with_reducible refine r_lst ?_
  | with_reducible refine r_bm ?_
  | with_reducible refine r_bm0 ?_
  | (with_reducible refine' And.intro (r_ty ?k1) ?_; (case k1 => walk_at "look"))
  | (with_reducible refine' r_append ?k1 ?k2 ?_; (case k1 => walk_at "look"); (case k2 => walk_at "sz"))
  | (with_reducible refine' r_lenK ?k1 ?_; (case k1 => walk_at "look"))
  | (with_reducible refine' r_listOf ?k1 ?_; (case k1 => walk_at "look"))
  | (with_reducible refine' r_sortedI ?k1 ?_; (case k1 => walk_at "look"))
  | (with_reducible refine' r_sum ?k1 ?_; (case k1 => walk_at "look"))
  | with_reducible refine r_int ?_
  | (with_reducible refine' r_draw (by assumption) ?k1 ?k2 ?_; (case k1 => omega); (case k2 => omega); intro R' n' o' h' h'')
  | with_reducible refine iteT ?_
  | with_reducible refine r_revL ?_
  | with_reducible refine r_lc ?_
  | with_reducible refine r_yes ?_
  | with_reducible refine r_sl ?_
  | with_reducible refine iteNTr ?_
  | with_reducible refine iteNFa ?_
  | with_reducible refine r_fld ?_
  | with_reducible refine r_sFld ?_
  | with_reducible refine r_meth ?_
  | with_reducible refine r_methT ?_
  | with_reducible refine r_prop ?_
  | with_reducible refine r_dget ?_
  | with_reducible refine r_dput ?_
  | with_reducible refine r_noPart ?_
  | with_reducible refine r_part ?_
  | with_reducible refine r_lc2 ?_
  | with_reducible refine r_callN ?_
  | with_reducible refine r_callD ?_
  | with_reducible refine r_tupE ?_
  | with_reducible refine r_rng2 ?_
  | with_reducible refine r_i1 ?_
  | (with_reducible refine' r_slL ?k1 ?_; (case k1 => walk_at "look"))
  | with_reducible refine r_for ?_
  | with_reducible refine r_iList ?_
  | with_reducible refine r_rng1 ?_
  | with_reducible refine r_enum ?_
  | (with_reducible show Ends.nx _ _ _; dsimp only)
  | (with_reducible show Ends.rt _ _ _; dsimp only)
  | (with_reducible show Ends.ct _ _ _; dsimp only)
  | (with_reducible show Ends.bk _ _ _; dsimp only))
local macro_rules | `(tactic| walk_at "go") => `(tactic| repeat (walk_at "st"))
local macro_rules | `(tactic| walk_at "begin") => `(tactic| dsimp only [cxOf, wipe, L2.start, List.map, List.length_cons, List.length_nil, Nat.reduceAdd, Nat.reduceSub, List.replicate, List.cons_append, List.nil_append])


theorem notIn4 {CB : Addr} {B : Hp} {r b d e c : Addr} {kvs : List (Key × V)} {n : Int} {ring : Bool} {xs : List V} (h : Row CB B r b d e kvs n ring) (hc : B c = some (.lst xs)) (hne : c ≠ r) : ¬ In4 r b d e c := fun z => by
  obtain ⟨dx, ob⟩ := h.bk.ob
  rcases z with z | z | z | z
  · exact hne z
  · rw [z, ob] at hc; cases hc
  · rw [z, h.bk.nu] at hc; cases hc
  · rw [z, h.ke] at hc; cases hc
theorem kt_deed {CB : Addr} {B B' : Hp} {r b d e la : Addr} {kvs : List (Key × V)} {n : Int} {ring : Bool} {xs : List V} (h : Row CB B r b d e kvs n ring) (hl : B la = some (.lst xs)) (k : Kp (fun c => In4 r b d e c ∨ c = la) B B') : KT B B' := fun c ys hc => k c _ hc fun z => by
  obtain ⟨dx, ob⟩ := h.bk.ob
  rcases z with (z | z | z | z) | z <;> subst z
  · rw [h.row] at hc; cases hc
  · rw [ob] at hc; cases hc
  · rw [h.bk.nu] at hc; cases hc
  · rw [h.ke] at hc; cases hc
  · rw [hl] at hc; cases hc
/-- two rows that share nothing -/
structure St2 (CB : Addr) (B : Hp) (r0 b0 d0 e0 : Addr) (k0 : List (Key × V)) (n0 : Int) (g0 : Bool) (r1 b1 d1 e1 : Addr) (k1 : List (Key × V)) (n1 : Int) (g1 : Bool) (M : Int) : Prop where
  q0 : Row CB B r0 b0 d0 e0 k0 n0 g0
  q1 : Row CB B r1 b1 d1 e1 k1 n1 g1
  dis : ∀ c, In4 r0 b0 d0 e0 c → ¬ In4 r1 b1 d1 e1 c
  m0 : n0 ≤ M
  m1 : n1 ≤ M
section
variable {CB : Addr} {B B' : Hp} {r0 b0 d0 e0 r1 b1 d1 e1 : Addr} {k0 k1 : List (Key × V)} {n0 n1 M : Int} {g0 g1 : Bool}
theorem St2.swap (h : St2 CB B r0 b0 d0 e0 k0 n0 g0 r1 b1 d1 e1 k1 n1 g1 M) : St2 CB B r1 b1 d1 e1 k1 n1 g1 r0 b0 d0 e0 k0 n0 g0 M := ⟨h.q1, h.q0, fun c h1 h2 => h.dis c h2 h1, h.m1, h.m0⟩
theorem St2.same (h : St2 CB B r0 b0 d0 e0 k0 n0 g0 r1 b1 d1 e1 k1 n1 g1 M) (s : Same B B') : St2 CB B' r0 b0 d0 e0 k0 n0 g0 r1 b1 d1 e1 k1 n1 g1 M := ⟨h.q0.same s, h.q1.same s, h.dis, h.m0, h.m1⟩
theorem St2.mono {M' : Int} (h : St2 CB B r0 b0 d0 e0 k0 n0 g0 r1 b1 d1 e1 k1 n1 g1 M) (hm : M ≤ M') : St2 CB B r0 b0 d0 e0 k0 n0 g0 r1 b1 d1 e1 k1 n1 g1 M' := ⟨h.q0, h.q1, h.dis, Int.le_trans h.m0 hm, Int.le_trans h.m1 hm⟩
theorem St2.deed {b' d' e' la : Addr} {k' : List (Key × V)} {n' : Int} {g' : Bool} {xs : List V} (h : St2 CB B r0 b0 d0 e0 k0 n0 g0 r1 b1 d1 e1 k1 n1 g1 M) (hR : Row CB B' r0 b' d' e' k' n' g') (hn : n' ≤ n0 + 7)
    (hnn : (b' = b0 ∧ d' = d0 ∧ e' = e0) ∨ (B b' = none ∧ B d' = none ∧ B e' = none)) (hK : Kp (fun c => In4 r0 b0 d0 e0 c ∨ c = la) B B') (hl : B la = some (.lst xs)) (hla : la ≠ r1) : St2 CB B' r0 b' d' e' k' n' g' r1 b1 d1 e1 k1 n1 g1 (M + 7) where
  q0 := hR
  q1 := by
    have nl := notIn4 h.q1 hl hla
    have f : ∀ c, In4 r1 b1 d1 e1 c → ¬ (In4 r0 b0 d0 e0 c ∨ c = la) := fun c hc z => z.elim (fun z => h.dis c z hc) fun z => nl (z ▸ hc)
    exact h.q1.kp hK (kt_deed h.q0 hl hK) (f _ (.inl rfl)) (f _ (.inr (.inl rfl))) (f _ (.inr (.inr (.inl rfl)))) (f _ (.inr (.inr (.inr rfl))))
  dis := fun c hc => by
    rcases hnn with ⟨rfl, rfl, rfl⟩ | ⟨q1, q2, q3⟩
    · exact h.dis c hc
    · rcases hc with z | z | z | z <;> subst z
      · exact h.dis _ (.inl rfl)
      · exact h.q1.off q1
      · exact h.q1.off q2
      · exact h.q1.off q3
  m0 := by have := h.m0; omega
  m1 := by have := h.m1; omega
end
/-- the fixed places differ -/
structure Fx (tm rw la r0 r1 : Addr) : Prop where
  tm0 : tm ≠ r0
  tm1 : tm ≠ r1
  tl : tm ≠ la
  rw0 : rw ≠ r0
  rw1 : rw ≠ r1
  rl : rw ≠ la
  la0 : la ≠ r0
  la1 : la ≠ r1
/-- a new book below the draws -/
theorem book_made {CB st g b dx d : Addr} {R : RS} {C H1 : Hp} {ring : Bool} (o : Ok st g R C) (hb : rg st g R C b = none) (hdx : rg st g R C dx = none) (hd : upd (upd (rg st g R C) dx (.own b)) b (.ins CB dx []) d = none)
    (hB : Bk CB H1 b d [] 1 ring) (hK : Kp (· = b) (upd (upd (rg st g R C) dx (.own b)) b (.ins CB dx [])) H1) : ∃ C1, H1 = rg st g R C1 ∧ Ok st g R C1 ∧ Same C C1 ∧ Bk CB C1 b d [] 1 ring ∧ C b = none ∧ C d = none := by
  obtain ⟨hdb, hd2⟩ := upd_none hd
  obtain ⟨hdd, hd3⟩ := upd_none hd2
  have s0 : Same (rg st g R C) (upd (upd (rg st g R C) dx (.own b)) b (.ins CB dx [])) := same_off hb (same_new hdx)
  have s1 : Same (rg st g R C) H1 := same_kp s0 hK fun c hc => by have hc : c = b := hc; rw [hc]; exact hb
  obtain ⟨C1, rfl, o1, sC⟩ := rg_same o s1
  obtain ⟨x1, x2, x3⟩ := rg_none hb
  obtain ⟨y1, y2, y3⟩ := rg_none hd3
  refine ⟨C1, rfl, o1, sC, ?_, x3, y3⟩
  obtain ⟨⟨dx1, ob⟩, nu⟩ := hB
  unfold rg at ob nu
  rw [upd_ne x1, upd_ne x2] at ob
  rw [upd_ne y1, upd_ne y2] at nu
  exact ⟨⟨dx1, ob⟩, nu⟩
theorem kv_nil {H : Hp} {n : Int} : Kv H [] n := ⟨List.nodup_nil, fun _ h => (nomatch h), fun _ h => (nomatch h), by decide⟩
section
variable {P : Program} {w : World} {K : PySem.W.Frag} {mg : Str → Option Value} {base : Heap}
def spLaw (K : PySem.W.Frag) : Sp := fun vs H Q _ => ∃ (a : Addr) (ns : List Int), vs = [.ref a] ∧ SqL K H a (ns.map V.int) ∧ ns.length ≤ 63 ∧ ∀ H', Q (.bl true) H'
theorem ok_law {f f1 f2 f3 f4 f5 f6 f7 fI CB : Addr} {fd fd1 fd2 fd3 fd4 fd5 fd6 fd7 fdI : FuncData} {mc : Value} {ds : List Value} (B : Blt mg) (Z : ZB K mg CB mc) (MB : Mk K CB fI) (hdI : Vals [.bl false] ds) (hbI : Binds K fdI ["self", "rings"] ds)
    (hkI : KBn K fdI ["self", "rings"] 1 ["rings"] (fun us ws => us ++ ws) (fun vs zs => vs ++ zs)) (Ginit : FnOk P w K mg base CX0 1 fI fdI ["self", "rings"] (spBInit CB))
    (D : Dn K mg "law" s_law ["script"] f fd) (D_law_start : Dn K mg "_law_start" s__law_start ["script"] f1 fd1) (G_law_start : FnOk P w K mg base CX0 1 f1 fd1 ["script"] (spStart K))
    (D_law_names : Dn K mg "_law_names" s__law_names ["state", "many"] f2 fd2) (G_law_names : FnOk P w K mg base CX0 2 f2 fd2 ["state", "many"] spNames)
    (D_law_terms : Dn K mg "_law_terms" s__law_terms ["state", "names", "many"] f3 fd3) (G_law_terms : FnOk P w K mg base CX0 32 f3 fd3 ["state", "names", "many"] spTerms)
    (D_law_draw : Dn K mg "_law_draw" s__law_draw ["state", "many"] f4 fd4) (G_law_draw : FnOk P w K mg base CX0 1 f4 fd4 ["state", "many"] spDraw)
    (D_law_is_number : Dn K mg "_law_is_number" s__law_is_number ["told", "due"] f5 fd5) (G_law_is_number : FnOk P w K mg base CX0 1 f5 fd5 ["told", "due"] spIsN)
    (D_law_looked : Dn K mg "_law_looked" s__law_looked ["row"] f6 fd6) (G_law_looked : FnOk P w K mg base CX0 3 f6 fd6 ["row"] (spLooked CB))
    (D_law_deed : Dn K mg "_law_deed" s__law_deed ["state", "row", "terms", "last"] f7 fd7) (G_law_deed : FnOk P w K mg base CX0 6 f7 fd7 ["state", "row", "terms", "last"] (spDeed CB)) :
    FnOk P w K mg base CX0 33 f fd ["script"] (spLaw K) := by
  refine D.F.ok sc_law (fun vs H Q E h => ?_) (fun cdv A outer s H vs Q E hr h => ?_)
  · obtain ⟨a, ns, rfl, _⟩ := h
    rfl
  · obtain ⟨a, ns, rfl, hS, hlen, q⟩ := h
    refine ⟨_, (pss_cons (ps_set (i := 1) sc_law.nd rfl (.inl rfl) (pe_call G_law_start (hr.mono (by decide)) (by rfl) D_law_start.g D_law_start.F.kp D_law_start.b .nil pass0 (pa_cons (pv 0) pa_nil)))
      (pss_cons (ps_set (i := 2) sc_law.nd rfl (.inl rfl) (pe_call G_law_names (hr.mono (by decide)) (by rfl) D_law_names.g D_law_names.F.kp D_law_names.b .nil pass0 (pa_cons (pv 1) (pa_cons pe_int pa_nil))))
      (pss_cons (ps_set (i := 3) sc_law.nd rfl (.inl rfl) (pe_call G_law_terms (hr.mono (by decide)) (by rfl) D_law_terms.g D_law_terms.F.kp D_law_terms.b .nil pass0 (pa_cons (pv 1) (pa_cons (pv 2) (pa_cons (pe_call G_law_draw (hr.mono (by decide)) (by rfl) D_law_draw.g D_law_draw.F.kp D_law_draw.b .nil pass0 (pa_cons (pv 1) (pa_cons pe_int pa_nil))) pa_nil)))))
      (pss_cons (ps_set (i := 4) sc_law.nd rfl (.inl rfl) (pe_lst (pa_cons (pe_lst (pa_cons (pe_make0 MB Ginit (hr.mono (by decide)) rfl Z.gB hbI hdI pass0) (pa_cons pe_dnewK (pa_cons pe_int (pa_cons pe_bl pa_nil))))) (pa_cons (pe_lst (pa_cons (pe_makeK0 MB Ginit (hr.mono (by decide)) rfl Z.gB hkI pass0 (pk_cons pe_bl pk_nil)) (pa_cons pe_dnewK (pa_cons pe_int (pa_cons pe_bl pa_nil))))) pa_nil))))
      (pss_cons (ps_set (i := 5) sc_law.nd rfl (.inl rfl) (pe_lst (pa_cons (pe_tup (pa_cons pe_str (pa_cons (pe_ix (ix_listK (K := K) rfl) (pv 3) pe_int (fun _ _ => rfl)) (pa_cons (pe_ix (ix_listK (K := K) rfl) (pv 3) pe_int (fun _ _ => rfl)) pa_nil)))) pa_nil)))
      (pss_cons (ps_if (pt_not (pt_val (pe_call G_law_is_number (hr.mono (by decide)) (by rfl) D_law_is_number.g D_law_is_number.F.kp D_law_is_number.b .nil pass0 (pa_cons (ClX.pe_cval (pe_glob (v := .ref CB) rfl Z.gB rfl)) (pa_cons pe_int pa_nil))))) (pss_one (ps_ret pe_bl)) pss_nil)
      (pss_cons (ps_for PassesOwn.never rfl (pi_range1 (by rfl) B.m_range (pa_cons (pe_op op_add pe_int (pe_call G_law_draw (hr.mono (by decide)) (by rfl) D_law_draw.g D_law_draw.F.kp D_law_draw.b .nil pass0 (pa_cons (pv 1) (pa_cons pe_int pa_nil)))) pa_nil)) (pg_name (i := 6) sc_law.nd rfl (.inl rfl)) (pss_cons (ps_set (i := 7) sc_law.nd rfl (.inl rfl) (pe_ix (ix_listK (K := K) rfl) (pv 4) (pe_op op_fdivN (pe_call G_law_draw (hr.mono (by decide)) (by rfl) D_law_draw.g D_law_draw.F.kp D_law_draw.b .nil pass0 (pa_cons (pv 1) (pa_cons pe_int pa_nil))) pe_int) (fun _ _ => rfl)))
      (pss_cons (ps_if (PW.pt (pw_or (pt_not (pt_val (pe_call G_law_looked (hr.mono (by decide)) (by rfl) D_law_looked.g D_law_looked.F.kp D_law_looked.b .nil pass0 (pa_cons (pv 7) pa_nil)))) (pw_or1 (pt_not (pt_val (pe_call G_law_deed (hr.mono (by decide)) (by rfl) D_law_deed.g D_law_deed.F.kp D_law_deed.b .nil pass0 (pa_cons (pv 1) (pa_cons (pv 7) (pa_cons (pv 3) (pa_cons (pv 5) pa_nil)))))))))) (pss_one (ps_ret pe_bl)) pss_nil)
      (pss_one (ps_if (PW.pt (pw_or (pt_not (pt_val (pe_call G_law_looked (hr.mono (by decide)) (by rfl) D_law_looked.g D_law_looked.F.kp D_law_looked.b .nil pass0 (pa_cons (pe_ix (ix_listK (K := K) rfl) (pv 4) pe_int (fun _ _ => rfl)) pa_nil)))) (pw_or1 (pt_not (pt_val (pe_call G_law_looked (hr.mono (by decide)) (by rfl) D_law_looked.g D_law_looked.F.kp D_law_looked.b .nil pass0 (pa_cons (pe_ix (ix_listK (K := K) rfl) (pv 4) pe_int (fun _ _ => rfl)) pa_nil))))))) (pss_one (ps_ret pe_bl)) pss_nil)))))
      (pss_one (ps_ret pe_bl))))))))), ?_⟩
    walk_at "begin"
    walk_at "go"
    refine ⟨a, ns, rfl, hS, hlen, fun st g R o1 => ?_⟩
    walk_at "go"
    refine ⟨st, g, R, H, 2, rfl, rfl, o1, by decide, fun R1 B1 nm xs o2 sB1 hnm hxl hxo => ?_⟩
    walk_at "go"
    rename_i R2 z2 o3 z2a z2b
    refine ⟨st, g, R2, B1, nm, xs, z2, rfl, rfl, o3, hnm, by omega, by omega, hxo, by omega, by omega, fun R3 B3 tm us o4 sB3 htm hT hu1 hu2 => ?_⟩
    walk_at "go"
    clear o1 o2 o3 hnm
    -- the first book
    intro b0 dx0 nb0 ndx0 nex0
    refine ⟨b0, dx0, false, rfl, upd_same, fun d0 H1 nd0 hB0 hK0 => ⟨rfl, ?_⟩⟩
    obtain ⟨C1, rfl, o5, sC1, hB0, fb0, fd0⟩ := book_made o4 nb0 ndx0 nd0 hB0 hK0
    refine r_dnewK fun e0 ne0 => ?_
    generalize e_ : upd (rg _ _ _ _) e0 _ = X_
    obtain ⟨C2, rfl, o6, sC2, he0, ne0'⟩ := newX o5 ne0 e_
    walk_at "go"
    refine ⟨by walk_at "len", fun r0 nr0 => ?_⟩
    generalize e_ : upd (rg _ _ _ _) r0 _ = X_
    obtain ⟨C3, rfl, o7, sC3, hr0, nr0'⟩ := newX o6 nr0 e_
    have hde0 : d0 ≠ e0 := fun z => by have := hB0.nu; rw [z, ne0'] at this; cases this
    have R0 : Row CB C3 r0 b0 d0 e0 [] 1 false := ⟨hr0, hB0.same (sC2.trans sC3), sC3 _ _ he0, kv_nil, hde0, Int.le_refl _⟩
    walk_at "go"
    -- the second one
    refine ⟨rfl, rfl, fun b1 dx1 nb1 ndx1 nex1 => ?_⟩
    refine ⟨b1, dx1, true, rfl, upd_same, fun d1 H1 nd1 hB1 hK1 => ⟨rfl, ?_⟩⟩
    obtain ⟨C4, rfl, o8, sC4, hB1, fb1, fd1'⟩ := book_made o7 nb1 ndx1 nd1 hB1 hK1
    refine r_dnewK fun e1 ne1 => ?_
    generalize e_ : upd (rg _ _ _ _) e1 _ = X_
    obtain ⟨C5, rfl, o9, sC5, he1, ne1'⟩ := newX o8 ne1 e_
    walk_at "go"
    refine ⟨by walk_at "len", fun r1 nr1 => ?_⟩
    generalize e_ : upd (rg _ _ _ _) r1 _ = X_
    obtain ⟨C6, rfl, o10, sC6, hr1, nr1'⟩ := newX o9 nr1 e_
    have hde1 : d1 ≠ e1 := fun z => by have := hB1.nu; rw [z, ne1'] at this; cases this
    have R1 : Row CB C6 r1 b1 d1 e1 [] 1 true := ⟨hr1, hB1.same (sC5.trans sC6), sC6 _ _ he1, kv_nil, hde1, Int.le_refl _⟩
    have s46 : Same C3 C6 := (sC4.trans sC5).trans sC6
    have S0 : St2 CB C6 r0 b0 d0 e0 [] 1 false r1 b1 d1 e1 [] 1 true 1 := by
      refine ⟨R0.same s46, R1, fun c hc hc1 => ?_, Int.le_refl _, Int.le_refl _⟩
      rcases hc1 with z | z | z | z <;> subst z
      · exact R0.off ((sC4.trans sC5).free nr1') hc
      · exact R0.off fb1 hc
      · exact R0.off fd1' hc
      · exact R0.off (sC4.free ne1') hc
    walk_at "go"
    refine ⟨by walk_at "len", fun rw nrw => ?_⟩
    generalize e_ : upd (rg _ _ _ _) rw _ = X_
    obtain ⟨C7, rfl, o11, sC7, hrw, nrw'⟩ := newX o10 nrw e_
    have s17 : Same B3 C7 := (((sC1.trans sC2).trans sC3).trans s46).trans sC7
    have htm7 := s17 _ _ htm
    have hT7 := hT.keep (KT.of s17)
    walk_at "go"
    obtain ⟨v0, hv0⟩ : ∃ v, us[0]? = some v := ⟨_, List.getElem?_eq_getElem (by omega)⟩
    obtain ⟨v1, hv1⟩ : ∃ v, us[1]? = some v := ⟨_, List.getElem?_eq_getElem (by omega)⟩
    refine r_ixL (rg_get o11 htm7) (at_of (j := 0) rfl hv0) ?_
    walk_at "go"
    refine r_ixL (rg_get o11 htm7) (at_of (j := 1) rfl hv1) ?_
    walk_at "go"
    refine ⟨by walk_at "len", fun tp ntp => ?_⟩
    generalize e_ : upd (rg _ _ _ _) tp _ = X_
    obtain ⟨C8, rfl, o12, sC8, htp, ntp'⟩ := newX o11 ntp e_
    walk_at "go"
    refine ⟨by walk_at "len", fun la nla => ?_⟩
    generalize e_ : upd (rg _ _ _ _) la _ = X_
    obtain ⟨C9, rfl, o13, sC9, hla, nla'⟩ := newX o12 nla e_
    obtain ⟨t0, ht0, hd0⟩ := hT7.at hv0
    obtain ⟨t1, ht1, hd1⟩ := hT7.at hv1
    have s79 := sC8.trans sC9
    have hsay : Says C9 30 [.ref tp] := Says.one (tat2 (sC9 _ _ htp) (ht0.keep (KT.of s79)) (ht1.keep (KT.of s79))) (Nat.le_trans (dp2 _ _ _ _ (dps hd0) (dps hd1)) (by decide))
    have S9 := S0.same (sC7.trans s79)
    have htm9 := s79 _ _ htm7
    have hrw9 := s79 _ _ hrw
    have hT9 := hT7.keep (KT.of s79)
    have ne_fr : ∀ {C : Hp} {c p : Addr} {x : HO}, C c = some x → C p = none → c ≠ p := fun h1 h2 z => by rw [z, h2] at h1; cases h1
    have hF : Fx tm rw la r0 r1 := ⟨ne_fr (sC2 _ _ (sC1 _ _ htm)) nr0', ne_fr (sC5 _ _ (sC4 _ _ (sC3 _ _ (sC2 _ _ (sC1 _ _ htm))))) nr1', ne_fr (sC8 _ _ htm7) nla', Ne.symm (ne_fr (s46 _ _ hr0) nrw'), Ne.symm (ne_fr hr1 nrw'), ne_fr (sC8 _ _ hrw) nla', Ne.symm (ne_fr (sC8 _ _ (sC7 _ _ (s46 _ _ hr0))) nla'), Ne.symm (ne_fr (sC8 _ _ (sC7 _ _ hr1)) nla')⟩
    clear sC1 sC2 sC3 sC4 sC5 sC6 sC7 sC8 sC9 o4 o5 o6 o7 o8 o9 o10 o11 o12
    walk_at "go"
    refine r_cval ?_
    walk_at "go"
    obtain ⟨u, hl⟩ := Z.lim
    refine ⟨CB, mc, _, u, rfl, Z.rd, hl, ?_⟩
    walk_at "go"
    refine ⟨6, 6, rfl, ?_⟩
    rw [decide_eq_true (rfl : (6 : Int) = 6)]
    walk_at "go"
    rename_i R14 z14 o14 z14a z14b
    refine r_forR (by omega) (by omega) (fun i σ X => ∃ (R : RS) (B : Hp) (b0 d0 e0 : Addr) (k0 : List (Key × V)) (n0 : Int) (g0 : Bool) (b1 d1 e1 : Addr) (k1 : List (Key × V)) (n1 : Int) (g1 : Bool) (v : V) (y1 y2 : Option V),
      σ = [some (.ref a), some (.ref st), some (.ref nm), some (.ref tm), some (.ref rw), some (.ref la), y1, y2] ∧ X = rg st g R B ∧ Ok st g R B ∧ St2 CB B r0 b0 d0 e0 k0 n0 g0 r1 b1 d1 e1 k1 n1 g1 (1 + 7 * i) ∧ B tm = some (.lst us) ∧ Tms B 9 us ∧ B rw = some (.lst [.ref r0, .ref r1]) ∧ B la = some (.lst [v]) ∧ Says B 30 [v]) ?_ ?_ ?_
    · exact ⟨R14, C9, b0, d0, e0, [], 1, false, b1, d1, e1, [], 1, true, _, _, _, rfl, rfl, o14, S9, htm9, hT9, hrw9, hla, hsay⟩
    · clear hB0 hK0 hB1 hK1 hsay S9 S0 htm7 hT7 htm hT htm9 hT9 hrw9 hla hrw o13 o14 R0 R1 nb0 ndx0 nd0 nb1 ndx1 nd1 htp ht0 ht1
      rintro i σ X hi ⟨R1, B1, b0, d0, e0, k0, n0, g0, b1, d1, e1, k1, n1, g1, v, y1, y2, rfl, rfl, o1, hS, htm, hT, hrw, hla, hv⟩
      have hi : i < 20 := by omega
      have hm0 := hS.m0
      have hm1 := hS.m1
      walk_at "go"
      rename_i R2 z2 o2 z2a z2b
      by_cases hz : z2 < 2
      · have hat : atI [V.ref r0, V.ref r1] (z2.fdiv 2) = some (.ref r0) := by
          have : z2 = 0 ∨ z2 = 1 := by omega
          rcases this with e | e <;> (rw [e]; rfl)
        refine r_ixL (rg_get o2 hrw) hat ?_
        walk_at "go"
        refine ⟨r0, b0, d0, e0, k0, n0, g0, rfl, hS.q0.same fun c x hx => rg_get o2 hx, fun H2 hS2 => ?_⟩
        obtain ⟨B2, rfl, o3, sB2⟩ := rg_same o2 hS2
        replace hS := hS.same sB2
        replace htm := sB2 _ _ htm
        replace hrw := sB2 _ _ hrw
        replace hla := sB2 _ _ hla
        replace hT := hT.keep (KT.of sB2)
        replace hv := hv.keep (KT.of sB2)
        clear hS2 sB2 o2
        walk_at "go"
        refine ⟨st, g, R2, B2, r0, b0, d0, e0, tm, la, k0, n0, g0, us, v, rfl, rfl, o3, hS.q0, by have := hS.m0; omega, htm, hT, by omega, by omega, hla, hv, hF.la0, hF.tl.symm, fun R3 B3 b' d' e' k' n' g' v' o4 hR' hn' hnn hK hla3 hv3 => ?_⟩
        have na := notIn4 hS.q0 hrw hF.rw0
        have nb := notIn4 hS.q1 hrw hF.rw1
        have ta := notIn4 hS.q0 htm hF.tm0
        have tb := notIn4 hS.q1 htm hF.tm1
        have hrw3 := hK _ _ hrw fun z => z.elim (fun z => na z) fun z => hF.rl z
        have htm3 := hK _ _ htm fun z => z.elim (fun z => ta z) fun z => hF.tl z
        have kt3 := kt_deed hS.q0 hla hK
        have hT3 := hT.keep kt3
        have hS3 := hS.deed hR' hn' hnn hK hla hF.la1
        walk_at "go"
        refine ⟨r0, _, _, _, _, _, _, rfl, hS3.q0.same fun c x hx => rg_get o4 hx, fun H5 hS5 => ?_⟩
        obtain ⟨B5, rfl, o5, sB5⟩ := rg_same o4 hS5
        have hrw5 := sB5 _ _ hrw3
        have hS6 := hS3.same sB5
        walk_at "go"
        refine ⟨r1, _, _, _, _, _, _, rfl, hS6.q1.same fun c x hx => rg_get o5 hx, fun H7 hS7 => ?_⟩
        obtain ⟨B7, rfl, o7, sB7⟩ := rg_same o5 hS7
        have hS8 := hS6.same sB7
        walk_at "go"
        have s57 := sB5.trans sB7
        refine ⟨R3, B7, _, _, _, _, _, _, _, _, _, _, _, _, v', _, _, rfl, rfl, o7, hS8.mono (by omega), s57 _ _ htm3, hT3.keep (KT.of s57), s57 _ _ hrw3, s57 _ _ hla3, hv3.keep (KT.of s57)⟩
      · have hat : atI [V.ref r0, V.ref r1] (z2.fdiv 2) = some (.ref r1) := by
          have : z2 = 2 := by omega
          rw [this]; rfl
        refine r_ixL (rg_get o2 hrw) hat ?_
        walk_at "go"
        refine ⟨r1, b1, d1, e1, k1, n1, g1, rfl, hS.q1.same fun c x hx => rg_get o2 hx, fun H2 hS2 => ?_⟩
        obtain ⟨B2, rfl, o3, sB2⟩ := rg_same o2 hS2
        replace hS := hS.same sB2
        replace htm := sB2 _ _ htm
        replace hrw := sB2 _ _ hrw
        replace hla := sB2 _ _ hla
        replace hT := hT.keep (KT.of sB2)
        replace hv := hv.keep (KT.of sB2)
        clear hS2 sB2 o2
        walk_at "go"
        refine ⟨st, g, R2, B2, r1, b1, d1, e1, tm, la, k1, n1, g1, us, v, rfl, rfl, o3, hS.q1, by have := hS.m1; omega, htm, hT, by omega, by omega, hla, hv, hF.la1, hF.tl.symm, fun R3 B3 b' d' e' k' n' g' v' o4 hR' hn' hnn hK hla3 hv3 => ?_⟩
        have na := notIn4 hS.q0 hrw hF.rw0
        have nb := notIn4 hS.q1 hrw hF.rw1
        have ta := notIn4 hS.q0 htm hF.tm0
        have tb := notIn4 hS.q1 htm hF.tm1
        have hrw3 := hK _ _ hrw fun z => z.elim (fun z => nb z) fun z => hF.rl z
        have htm3 := hK _ _ htm fun z => z.elim (fun z => tb z) fun z => hF.tl z
        have kt3 := kt_deed hS.q1 hla hK
        have hT3 := hT.keep kt3
        have hS3 := (hS.swap.deed hR' hn' hnn hK hla hF.la0).swap
        walk_at "go"
        refine ⟨r0, _, _, _, _, _, _, rfl, hS3.q0.same fun c x hx => rg_get o4 hx, fun H5 hS5 => ?_⟩
        obtain ⟨B5, rfl, o5, sB5⟩ := rg_same o4 hS5
        have hrw5 := sB5 _ _ hrw3
        have hS6 := hS3.same sB5
        walk_at "go"
        refine ⟨r1, _, _, _, _, _, _, rfl, hS6.q1.same fun c x hx => rg_get o5 hx, fun H7 hS7 => ?_⟩
        obtain ⟨B7, rfl, o7, sB7⟩ := rg_same o5 hS7
        have hS8 := hS6.same sB7
        walk_at "go"
        have s57 := sB5.trans sB7
        refine ⟨R3, B7, _, _, _, _, _, _, _, _, _, _, _, _, v', _, _, rfl, rfl, o7, hS8.mono (by omega), s57 _ _ htm3, hT3.keep (KT.of s57), s57 _ _ hrw3, s57 _ _ hla3, hv3.keep (KT.of s57)⟩
    · rintro σ X ⟨R1, B1, b0, d0, e0, k0, n0, g0, b1, d1, e1, k1, n1, g1, v, y1, y2, rfl, rfl, o1, _⟩
      walk_at "go"
      exact q _
end
end K53
namespace K53
open PySem PySem.Spec PyProof.Rows L2 Lw


local macro_rules | `(tactic| walk_at "look") => `(tactic| first
  | assumption
  | with_reducible exact upd_same
  | with_reducible exact rg_st
  | with_reducible exact rg_g (by assumption)
  | (with_reducible refine upd_old (by assumption) ?_; walk_at "look")
  | (with_reducible refine rg_get (by assumption) ?_; walk_at "look")
  | (with_reducible refine Same.get (by assumption) ?_; walk_at "look"))
local macro_rules | `(tactic| walk_at "cond") => `(tactic| first
  | (show _ ≠ _; omega) | exact cdivN (by omega) (by omega) | exact cmul_mod (by decide) (by decide) | exact cmulR (by omega) (by omega) | exact cmulL (by omega) (by omega) | exact cpow (by omega) (by omega) (by omega) (by omega) | (show (0:Int) ≤ _; omega))
local macro_rules | `(tactic| walk_at "at") => `(tactic| first | assumption | with_unfolding_all rfl)
local macro_rules | `(tactic| walk_at "sz") => `(tactic| first | assumption | (refine small ?_; omega) | (refine small ?_; simp only [List.length_map, List.length_append, List.length_cons, List.length_nil]; omega))
local macro_rules | `(tactic| walk_at "len") => `(tactic| first | exact size_nil | exact Nat.le_of_lt (small (by simp only [List.length_cons, List.length_nil, List.length_map]; omega)))
local macro_rules | `(tactic| walk_at "newD") => `(tactic| (refine ⟨by walk_at "len", fun p np => ?_⟩; obtain ⟨e, o', hD', n', ne'⟩ := newTD_eq (topRg _ _) (by assumption) (by assumption) np (.lst _); rw [e]; clear e))
local macro_rules | `(tactic| walk_at "new") => `(tactic| (refine ⟨by walk_at "len", fun p np => ?_⟩; obtain ⟨e, o', n'⟩ := newT_eq (topRg _ _) (by assumption) np (.lst _); rw [e]; clear e))
local macro_rules | `(tactic| walk_at "st") => `(tactic| first
  | with_reducible refine r_seq ?_
  | with_reducible refine r_var rfl ?_
  | with_reducible refine r_c ?_
  | with_reducible refine r_asg ?_
  | (with_reducible refine r_name ?_; dsimp only [List.set_cons_zero, List.set_cons_succ])
  | with_reducible refine r_sub ?_
  | with_reducible refine r_op ?_
  | with_reducible refine r_i0 ?_
  | (with_reducible refine' r_i ?k1 ?_; (case k1 => walk_at "cond"))
  | with_reducible refine r_cons ?_
  | with_reducible refine r_nil ?_
  | with_reducible refine r_cb ?_
  | with_reducible refine r_call ?_
  | with_reducible refine r_ifs ?_
  | with_reducible refine r_test ?_
  | with_reducible refine r_tB ?_
  | with_reducible refine r_bl ?_
  | with_reducible refine r_ret ?_
  | with_reducible refine r_drop ?_
  | with_reducible refine r_next ?_
  | (with_reducible refine' r_ixL ?k1 ?k2 ?_; (case k1 => walk_at "look"); (case k2 => walk_at "at"))
  | (with_reducible refine' r_setL ?k1 ?k2 ?_; (case k1 => walk_at "look"); (case k2 => walk_at "at"))
  | with_reducible refine r_aug rfl ?_
  | with_reducible refine r_augS ?_
  | with_reducible refine r_ipI ?_
  | with_reducible refine r_un ?_
  | with_reducible refine r_u ?_
  | with_reducible refine r_eq rfl ?_
  | with_reducible refine r_ne rfl ?_
  | with_reducible refine r_chain ?_
  | with_reducible refine iteF ?_
  | with_reducible refine r_not ?_
  | with_reducible refine r_and ?_
  | with_reducible refine r_or ?_
  | with_reducible refine r_andV ?_
  | with_reducible refine r_orV ?_
  | with_reducible refine r_notV ?_
  | with_reducible refine r_lst ?_
  | with_reducible refine r_bm ?_
  | with_reducible refine r_bm0 ?_
  | (with_reducible refine' And.intro (r_ty ?k1) ?_; (case k1 => walk_at "look"))
  | (with_reducible refine' r_append ?k1 ?k2 ?_; (case k1 => walk_at "look"); (case k2 => walk_at "sz"))
  | (with_reducible refine' r_lenK ?k1 ?_; (case k1 => walk_at "look"))
  | (with_reducible refine' r_listOf ?k1 ?_; (case k1 => walk_at "look"))
  | (with_reducible refine' r_sortedI ?k1 ?_; (case k1 => walk_at "look"))
  | (with_reducible refine' r_sum ?k1 ?_; (case k1 => walk_at "look"))
  | with_reducible refine r_int ?_
  | (with_reducible refine' r_draw (by assumption) ?k1 ?k2 ?_; (case k1 => omega); (case k2 => omega); intro R' n' o' h' h'')
  | with_reducible refine iteT ?_
  | with_reducible refine r_revL ?_
  | with_reducible refine r_lc ?_
  | with_reducible refine r_yes ?_
  | with_reducible refine r_for ?_
  | with_reducible refine r_iList ?_
  | with_reducible refine r_rng1 ?_
  | with_reducible refine r_enum ?_
  | (with_reducible show Ends.nx _ _ _; dsimp only)
  | (with_reducible show Ends.rt _ _ _; dsimp only)
  | (with_reducible show Ends.ct _ _ _; dsimp only)
  | (with_reducible show Ends.bk _ _ _; dsimp only))
local macro_rules | `(tactic| walk_at "go") => `(tactic| repeat (walk_at "st"))
local macro_rules | `(tactic| walk_at "begin") => `(tactic| dsimp only [cxOf, wipe, L2.start, List.map, List.length_cons, List.length_nil, Nat.reduceAdd, Nat.reduceSub, List.replicate, List.cons_append, List.nil_append])

section
variable {P : Program} {w : World} {K : PySem.W.Frag} {mg : Str → Option Value} {base : Heap}
theorem ok_draw {f : Addr} {fd : FuncData} {k : Nat} (B : Blt mg) (D : Dn K mg "_law_draw" s__law_draw ["state", "many"] f fd) : FnOk P w K mg base CX0 (k + 1) f fd ["state", "many"] spDraw := by
  refine D.F.ok sc__law_draw (fun vs H Q E h => ?_) (fun cdv A outer s H vs Q E hr h => ?_)
  · obtain ⟨st, g, R, B, many, rfl, _⟩ := h
    rfl
  · obtain ⟨st, g, R, C, many, rfl, rfl, o, h1, h2, q⟩ := h
    refine ⟨_, (pss_cons (ps_if (pt_cmpR op_lt (pe_ix (ix_listK (K := K) rfl) (pv 0) pe_int (fun _ _ => rfl)) (pe_callB (call_len_seqK (K := K) rfl) (by rfl) B.m_len PySem.boot_len (pa_cons (pe_ix (ix_listK (K := K) rfl) (pv 0) pe_int (fun _ _ => rfl)) pa_nil)) (nomark _)) (pss_cons (ps_set (i := 2) sc__law_draw.nd rfl (.inl rfl) (pe_ix (ix_listK (K := K) rfl) (pe_ix (ix_listK (K := K) rfl) (pv 0) pe_int (fun _ _ => rfl)) (pe_ix (ix_listK (K := K) rfl) (pv 0) pe_int (fun _ _ => rfl)) (fun _ _ => rfl)))
      (pss_cons (ps_asg (pe_op op_fdivN (pv 2) (pv 1)) (pg_sub (pe_ix (ix_listK (K := K) rfl) (pv 0) pe_int (fun _ _ => rfl)) (pe_ix (ix_listK (K := K) rfl) (pv 0) pe_int (fun _ _ => rfl)) set_list))
      (pss_cons (ps_if (pt_cmpR op_eq (pe_op op_fdivN (pv 2) (pv 1)) pe_int (nomark _)) (pss_one (ps_asg (pe_op op_add (pe_ix (ix_listK (K := K) rfl) (pv 0) pe_int (fun _ _ => rfl)) pe_int) (pg_sub (pv 0) pe_int set_list))) pss_nil)
      (pss_one (ps_ret (pe_op op_modN (pe_callTy call_int1 (by rfl) B.m_int (by decide +kernel) (pa_cons (pv 2) pa_nil)) (pv 1))))))) pss_nil)
      (pss_cons (ps_asg (pe_op op_add (pe_ix (ix_listK (K := K) rfl) (pv 0) pe_int (fun _ _ => rfl)) pe_int) (pg_sub (pv 0) pe_int set_list))
      (pss_cons (ps_set (i := 3) sc__law_draw.nd rfl (.inl rfl) (pe_op op_modN (pe_callTy call_int1 (by rfl) B.m_int (by decide +kernel) (pa_cons (pe_op op_add (pe_ix (ix_listK (K := K) rfl) (pv 0) pe_int (fun _ _ => rfl)) (pe_op op_mul (pe_ix (ix_listK (K := K) rfl) (pv 0) pe_int (fun _ _ => rfl)) pe_int)) pa_nil)) pe_int))
      (pss_cons (ps_set (i := 4) sc__law_draw.nd rfl (.inl rfl) (pe_op op_modN (pe_callTy call_int1 (by rfl) B.m_int (by decide +kernel) (pa_cons (pe_op op_add (pe_op op_mul (pv 3) (pv 3)) (pe_op op_mul (pe_ix (ix_listK (K := K) rfl) (pv 0) pe_int (fun _ _ => rfl)) pe_int)) pa_nil)) pe_int))
      (pss_cons (ps_set (i := 5) sc__law_draw.nd rfl (.inl rfl) (pe_op op_modN (pe_callTy call_int1 (by rfl) B.m_int (by decide +kernel) (pa_cons (pe_op op_add (pe_op op_mul (pv 4) (pv 4)) (pv 3)) pa_nil)) pe_int))
      (pss_one (ps_ret (pe_op op_modN (pe_callTy call_int1 (by rfl) B.m_int (by decide +kernel) (pa_cons (pe_op op_fdivN (pv 5) pe_int) pa_nil)) (pv 1))))))))), ?_⟩
    walk_at "begin"
    walk_at "go"
    have fin : ∀ n : Int, 0 ≤ n → 0 ≤ n.fmod many ∧ n.fmod many < many := fun n _ => ⟨Int.fmod_nonneg_of_pos n (by omega), Int.fmod_lt_of_pos n (by omega)⟩
    refine r_ite (fun hlt => ?_) (fun _ => ?_)
    · have hl2 := hlt
      rw [List.length_map] at hl2
      have i0 := o.ok.i0
      have hi : R.i.toNat < R.ns.length := by omega
      obtain ⟨z, hz⟩ : ∃ z, R.ns[R.i.toNat]? = some z := ⟨_, List.getElem?_eq_getElem hi⟩
      have hz0 : 0 ≤ z := o.ok.pos z (List.mem_of_getElem? hz)
      have ha : atI (R.ns.map V.int) R.i = some (.int z) := at_i i0 (by rw [List.getElem?_map, hz]; rfl)
      have hx : ixN (R.ns.map V.int).length R.i = some R.i.toNat := ix_i i0 hlt
      have hd0 : 0 ≤ z.fdiv many := Int.fdiv_nonneg hz0 (by omega)
      walk_at "go"
      rw [setMap, rg_set_g o]
      have ok1 : RS.Ok ⟨R.ns.set R.i.toNat (z.fdiv many), R.i, R.m, R.c⟩ := by
        refine ⟨i0, ?_, fun n hn => ?_, ?_⟩
        · show R.i ≤ ((R.ns.set _ _).length : Int); rw [List.length_set]; exact o.ok.i1
        · rcases List.mem_or_eq_of_mem_set hn with e | e
          · exact o.ok.pos n e
          · rw [e]; exact hd0
        · show (R.ns.set _ _).length ≤ 63; rw [List.length_set]; exact o.ok.len
      have o1 := o.re ok1
      walk_at "go"
      refine r_ite (fun _ => ?_) (fun _ => ?_)
      · walk_at "go"
        rw [show [V.ref g, V.int R.i, V.int R.m, V.int R.c].set (Int.toNat 1) (V.int (R.i + 1)) = [V.ref g, V.int (R.i + 1), V.int R.m, V.int R.c] from rfl, rg_set_st]
        have ok2 : RS.Ok ⟨R.ns.set R.i.toNat (z.fdiv many), R.i + 1, R.m, R.c⟩ := ⟨by show (0:Int) ≤ R.i + 1; omega, by show R.i + 1 ≤ ((R.ns.set _ _).length : Int); rw [List.length_set]; omega, ok1.pos, ok1.len⟩
        walk_at "go"
        exact q _ _ ok2 (fin z hz0).1 (fin z hz0).2
      · walk_at "go"
        exact q _ _ ok1 (fin z hz0).1 (fin z hz0).2
    · walk_at "go"
      rw [show [V.ref g, V.int R.i, V.int R.m, V.int R.c].set (Int.toNat 3) (V.int (R.c + 1)) = [V.ref g, V.int R.i, V.int R.m, V.int (R.c + 1)] from rfl, rg_set_st]
      have ok1 : RS.Ok ⟨R.ns, R.i, R.m, R.c + 1⟩ := ⟨o.ok.i0, o.ok.i1, o.ok.pos, o.ok.len⟩
      have o1 := o.re ok1
      walk_at "go"
      refine q _ _ ok1 (fin _ ?_).1 (fin _ ?_).2
      all_goals exact Int.fdiv_nonneg (Int.fmod_nonneg_of_pos _ (by decide)) (by decide)
end
end K53
namespace K53
open PySem PySem.Spec PyProof.Rows L2 Lw
theorem all_mk {P : Program} {w : World} {K : PySem.W.Frag} {h : Heap} {mg : Str → Option Value} {fa f1 f2 f3 f4 f5 f6 f7 f8 f9 f10 f11 f12 f13 f14 f15 f16 f17 f18 f19 : Addr} (X : K.In h) (G : h.Ns mainGlobals mg) (hfa : mg "law" = some (.ref fa))
    {od1 od2 od3 od4 od5 od6 od7 od8 od9 od10 od11 od12 od13 od14 od15 od16 od17 od18 od19 an1 an2 an3 an4 an5 an6 an7 an8 an9 an10 an11 an12 an13 an14 an15 an16 an17 an18 an19 : Option Addr} {sl1 sl2 sl3 sl4 sl5 sl6 sl7 sl8 sl9 sl10 sl11 sl12 sl13 sl14 sl15 sl16 sl17 sl18 sl19 : Array (Option Value)} {oc1 oc2 oc3 oc4 oc5 oc6 oc7 oc8 oc9 oc10 oc11 oc12 oc13 oc14 oc15 oc16 oc17 oc18 oc19 dc1 dc2 dc3 dc4 dc5 dc6 dc7 dc8 dc9 dc10 dc11 dc12 dc13 dc14 dc15 dc16 dc17 dc18 dc19 pm1 pm2 pm3 pm4 pm5 pm6 pm7 pm8 pm9 pm10 pm11 pm12 pm13 pm14 pm15 pm16 pm17 pm18 pm19 cd1 cd2 cd3 cd4 cd5 cd6 cd7 cd8 cd9 cd10 cd11 cd12 cd13 cd14 cd15 cd16 cd17 cd18 cd19 ct1 ct2 ct3 ct4 ct5 ct6 ct7 ct8 ct9 ct10 ct11 ct12 ct13 ct14 ct15 ct16 ct17 ct18 ct19 kV1 kV2 kV3 kV4 kV5 kV6 kV7 kV8 kV9 kV10 kV11 kV12 kV13 kV14 kV15 kV16 kV17 kV18 kV19 : Value}
    (a1 : PySem.W.nsIn K mainGlobals "_law_draw" = some (some (.ref f1))) (l1 : K.lookup f1 = some ⟨oc1, od1, .func (PySem.W.fnOf "_law_draw" "_law_draw" (defArgs s__law_draw) (defBody s__law_draw) (defScope s__law_draw) .none kV1 dc1 pm1 an1 cd1 ct1), sl1⟩) (c1 : PySem.W.codeIn K cd1 "_law_draw" = true) (k1 : PySem.W.keepIn K (.ref f1) = true)
    (a2 : PySem.W.nsIn K mainGlobals "_law_start" = some (some (.ref f2))) (l2 : K.lookup f2 = some ⟨oc2, od2, .func (PySem.W.fnOf "_law_start" "_law_start" (defArgs s__law_start) (defBody s__law_start) (defScope s__law_start) .none kV2 dc2 pm2 an2 cd2 ct2), sl2⟩) (c2 : PySem.W.codeIn K cd2 "_law_start" = true) (k2 : PySem.W.keepIn K (.ref f2) = true)
    (a3 : PySem.W.nsIn K mainGlobals "_law_size" = some (some (.ref f3))) (l3 : K.lookup f3 = some ⟨oc3, od3, .func (PySem.W.fnOf "_law_size" "_law_size" (defArgs s__law_size) (defBody s__law_size) (defScope s__law_size) .none kV3 dc3 pm3 an3 cd3 ct3), sl3⟩) (c3 : PySem.W.codeIn K cd3 "_law_size" = true) (k3 : PySem.W.keepIn K (.ref f3) = true)
    (a4 : PySem.W.nsIn K mainGlobals "_law_pick" = some (some (.ref f4))) (l4 : K.lookup f4 = some ⟨oc4, od4, .func (PySem.W.fnOf "_law_pick" "_law_pick" (defArgs s__law_pick) (defBody s__law_pick) (defScope s__law_pick) .none kV4 dc4 pm4 an4 cd4 ct4), sl4⟩) (c4 : PySem.W.codeIn K cd4 "_law_pick" = true) (k4 : PySem.W.keepIn K (.ref f4) = true)
    (a5 : PySem.W.nsIn K mainGlobals "_law_names" = some (some (.ref f5))) (l5 : K.lookup f5 = some ⟨oc5, od5, .func (PySem.W.fnOf "_law_names" "_law_names" (defArgs s__law_names) (defBody s__law_names) (defScope s__law_names) .none kV5 dc5 pm5 an5 cd5 ct5), sl5⟩) (c5 : PySem.W.codeIn K cd5 "_law_names" = true) (k5 : PySem.W.keepIn K (.ref f5) = true)
    (a6 : PySem.W.nsIn K mainGlobals "_law_terms" = some (some (.ref f6))) (l6 : K.lookup f6 = some ⟨oc6, od6, .func (PySem.W.fnOf "_law_terms" "_law_terms" (defArgs s__law_terms) (defBody s__law_terms) (defScope s__law_terms) .none kV6 dc6 pm6 an6 cd6 ct6), sl6⟩) (c6 : PySem.W.codeIn K cd6 "_law_terms" = true) (k6 : PySem.W.keepIn K (.ref f6) = true)
    (a7 : PySem.W.nsIn K mainGlobals "_law_body" = some (some (.ref f7))) (l7 : K.lookup f7 = some ⟨oc7, od7, .func (PySem.W.fnOf "_law_body" "_law_body" (defArgs s__law_body) (defBody s__law_body) (defScope s__law_body) .none kV7 dc7 pm7 an7 cd7 ct7), sl7⟩) (c7 : PySem.W.codeIn K cd7 "_law_body" = true) (k7 : PySem.W.keepIn K (.ref f7) = true)
    (a8 : PySem.W.nsIn K mainGlobals "_law_fact" = some (some (.ref f8))) (l8 : K.lookup f8 = some ⟨oc8, od8, .func (PySem.W.fnOf "_law_fact" "_law_fact" (defArgs s__law_fact) (defBody s__law_fact) (defScope s__law_fact) .none kV8 dc8 pm8 an8 cd8 ct8), sl8⟩) (c8 : PySem.W.codeIn K cd8 "_law_fact" = true) (k8 : PySem.W.keepIn K (.ref f8) = true)
    (a9 : PySem.W.nsIn K mainGlobals "_law_piece" = some (some (.ref f9))) (l9 : K.lookup f9 = some ⟨oc9, od9, .func (PySem.W.fnOf "_law_piece" "_law_piece" (defArgs s__law_piece) (defBody s__law_piece) (defScope s__law_piece) .none kV9 dc9 pm9 an9 cd9 ct9), sl9⟩) (c9 : PySem.W.codeIn K cd9 "_law_piece" = true) (k9 : PySem.W.keepIn K (.ref f9) = true)
    (a10 : PySem.W.nsIn K mainGlobals "_law_is_number" = some (some (.ref f10))) (l10 : K.lookup f10 = some ⟨oc10, od10, .func (PySem.W.fnOf "_law_is_number" "_law_is_number" (defArgs s__law_is_number) (defBody s__law_is_number) (defScope s__law_is_number) .none kV10 dc10 pm10 an10 cd10 ct10), sl10⟩) (c10 : PySem.W.codeIn K cd10 "_law_is_number" = true) (k10 : PySem.W.keepIn K (.ref f10) = true)
    (a11 : PySem.W.nsIn K mainGlobals "_law_is_saying" = some (some (.ref f11))) (l11 : K.lookup f11 = some ⟨oc11, od11, .func (PySem.W.fnOf "_law_is_saying" "_law_is_saying" (defArgs s__law_is_saying) (defBody s__law_is_saying) (defScope s__law_is_saying) .none kV11 dc11 pm11 an11 cd11 ct11), sl11⟩) (c11 : PySem.W.codeIn K cd11 "_law_is_saying" = true) (k11 : PySem.W.keepIn K (.ref f11) = true)
    (a12 : PySem.W.nsIn K mainGlobals "_law_lists" = some (some (.ref f12))) (l12 : K.lookup f12 = some ⟨oc12, od12, .func (PySem.W.fnOf "_law_lists" "_law_lists" (defArgs s__law_lists) (defBody s__law_lists) (defScope s__law_lists) .none kV12 dc12 pm12 an12 cd12 ct12), sl12⟩) (c12 : PySem.W.codeIn K cd12 "_law_lists" = true) (k12 : PySem.W.keepIn K (.ref f12) = true)
    (a13 : PySem.W.nsIn K mainGlobals "_law_looked" = some (some (.ref f13))) (l13 : K.lookup f13 = some ⟨oc13, od13, .func (PySem.W.fnOf "_law_looked" "_law_looked" (defArgs s__law_looked) (defBody s__law_looked) (defScope s__law_looked) .none kV13 dc13 pm13 an13 cd13 ct13), sl13⟩) (c13 : PySem.W.codeIn K cd13 "_law_looked" = true) (k13 : PySem.W.keepIn K (.ref f13) = true)
    (a14 : PySem.W.nsIn K mainGlobals "_law_tell" = some (some (.ref f14))) (l14 : K.lookup f14 = some ⟨oc14, od14, .func (PySem.W.fnOf "_law_tell" "_law_tell" (defArgs s__law_tell) (defBody s__law_tell) (defScope s__law_tell) .none kV14 dc14 pm14 an14 cd14 ct14), sl14⟩) (c14 : PySem.W.codeIn K cd14 "_law_tell" = true) (k14 : PySem.W.keepIn K (.ref f14) = true)
    (a15 : PySem.W.nsIn K mainGlobals "_law_drop" = some (some (.ref f15))) (l15 : K.lookup f15 = some ⟨oc15, od15, .func (PySem.W.fnOf "_law_drop" "_law_drop" (defArgs s__law_drop) (defBody s__law_drop) (defScope s__law_drop) .none kV15 dc15 pm15 an15 cd15 ct15), sl15⟩) (c15 : PySem.W.codeIn K cd15 "_law_drop" = true) (k15 : PySem.W.keepIn K (.ref f15) = true)
    (a16 : PySem.W.nsIn K mainGlobals "_law_made_of" = some (some (.ref f16))) (l16 : K.lookup f16 = some ⟨oc16, od16, .func (PySem.W.fnOf "_law_made_of" "_law_made_of" (defArgs s__law_made_of) (defBody s__law_made_of) (defScope s__law_made_of) .none kV16 dc16 pm16 an16 cd16 ct16), sl16⟩) (c16 : PySem.W.codeIn K cd16 "_law_made_of" = true) (k16 : PySem.W.keepIn K (.ref f16) = true)
    (a17 : PySem.W.nsIn K mainGlobals "_law_number" = some (some (.ref f17))) (l17 : K.lookup f17 = some ⟨oc17, od17, .func (PySem.W.fnOf "_law_number" "_law_number" (defArgs s__law_number) (defBody s__law_number) (defScope s__law_number) .none kV17 dc17 pm17 an17 cd17 ct17), sl17⟩) (c17 : PySem.W.codeIn K cd17 "_law_number" = true) (k17 : PySem.W.keepIn K (.ref f17) = true)
    (a18 : PySem.W.nsIn K mainGlobals "_law_deed" = some (some (.ref f18))) (l18 : K.lookup f18 = some ⟨oc18, od18, .func (PySem.W.fnOf "_law_deed" "_law_deed" (defArgs s__law_deed) (defBody s__law_deed) (defScope s__law_deed) .none kV18 dc18 pm18 an18 cd18 ct18), sl18⟩) (c18 : PySem.W.codeIn K cd18 "_law_deed" = true) (k18 : PySem.W.keepIn K (.ref f18) = true)
    (a19 : PySem.W.nsIn K mainGlobals "law" = some (some (.ref f19))) (l19 : K.lookup f19 = some ⟨oc19, od19, .func (PySem.W.fnOf "law" "law" (defArgs s_law) (defBody s_law) (defScope s_law) .none kV19 dc19 pm19 an19 cd19 ct19), sl19⟩) (c19 : PySem.W.codeIn K cd19 "law" = true) (k19 : PySem.W.keepIn K (.ref f19) = true)
    (z0 : PySem.W.nsIn K mainGlobals "abs" = some none)
    (z1 : PySem.W.nsIn K mainGlobals "bool" = some none)
    (z2 : PySem.W.nsIn K mainGlobals "int" = some none)
    (z3 : PySem.W.nsIn K mainGlobals "isinstance" = some none)
    (z4 : PySem.W.nsIn K mainGlobals "len" = some none)
    (z5 : PySem.W.nsIn K mainGlobals "list" = some none)
    (z6 : PySem.W.nsIn K mainGlobals "range" = some none)
    (z7 : PySem.W.nsIn K mainGlobals "set" = some none)
    (z8 : PySem.W.nsIn K mainGlobals "sorted" = some none)
    (z9 : PySem.W.nsIn K mainGlobals "tuple" = some none)
    {CB CF CN cE kDI fI fF fS pS fT fDr pO fO : Addr} {tk6 : Tok} {odI anI : Option Addr} {slI : Array (Option Value)} {ocI dcI pmI cdI ctI : Value} {odF anF : Option Addr} {slF : Array (Option Value)} {ocF dcF pmF cdF ctF kVF : Value} {odT anT : Option Addr} {slT : Array (Option Value)} {ocT dcT pmT cdT ctT kVT : Value} {odD anD : Option Addr} {slD : Array (Option Value)} {ocD dcD pmD cdD ctD kVD : Value} {restS restO : List Value} {odS anS : Option Addr} {slS : Array (Option Value)} {ocS dcS pmS cdS ctS kVS : Value} {odO anO : Option Addr} {slO : Array (Option Value)} {ocO dcO pmO cdO ctO kVO : Value}
    (x_gB : PySem.W.nsIn K mainGlobals "Book" = some (some (.ref CB)))
    (x_pg : PySem.W.plainGet K CB Str.empty = true)
    (x_hd : PySem.W.hasDictIn K CB = true)
    (x_po : PySem.W.plainOver K CB = true)
    (x_sa : PySem.W.findIn K (.ref CB) "__setattr__" = some (some (.builtin "object.__setattr__")))
    (x_mk : PySem.W.makesIn K CB = true)
    (x_kB : PySem.W.keepIn K (.ref CB) = true)
    (x_nR : PySem.W.findIn K (.ref CB) "rings" = some none)
    (x_nN : PySem.W.findIn K (.ref CB) "numbered" = some none)
    (x_nX : PySem.W.findIn K (.ref CB) "next_number" = some none)
    (x_rd : PySem.W.readsIn K CB (.type "type") = true)
    (x_ga : PySem.W.specialIn K (.ref CB) "__getattribute__" = some (some (.builtin "type.__getattribute__")))
    (x_lim : PySem.W.findCls K (.ref CB) (.type "type") "LIMIT" = some (.val (.int 6 tk6)))
    (aI : PySem.W.findIn K (.ref CB) "__init__" = some (some (.ref fI)))
    (iI : PySem.W.isFn K (.ref fI) = true)
    (lI : K.lookup fI = some ⟨ocI, odI, .func (PySem.W.fnOf "__init__" "Book.__init__" (defArgs s_Book___init__) (defBody s_Book___init__) (defScope s_Book___init__) .none (.ref kDI) dcI pmI anI cdI ctI), slI⟩)
    (cI : PySem.W.codeIn K cdI "Book.__init__" = true)
    (kI : PySem.W.keepIn K (.ref fI) = true)
    (qI : PySem.W.nsIn K kDI "rings" = some (some (.bool false)))
    (aF : PySem.W.findIn K (.ref CB) "facts" = some (some (.ref fF)))
    (iF : PySem.W.isFn K (.ref fF) = true)
    (lF : K.lookup fF = some ⟨ocF, odF, .func (PySem.W.fnOf "facts" "Book.facts" (defArgs s_Book_facts) (defBody s_Book_facts) (defScope s_Book_facts) .none kVF dcF pmF anF cdF ctF), slF⟩)
    (cF : PySem.W.codeIn K cdF "Book.facts" = true)
    (kF : PySem.W.keepIn K (.ref fF) = true)
    (aT : PySem.W.findIn K (.ref CB) "tell" = some (some (.ref fT)))
    (iT : PySem.W.isFn K (.ref fT) = true)
    (lT : K.lookup fT = some ⟨ocT, odT, .func (PySem.W.fnOf "tell" "Book.tell" (defArgs s_Book_tell) (defBody s_Book_tell) (defScope s_Book_tell) .none kVT dcT pmT anT cdT ctT), slT⟩)
    (cT : PySem.W.codeIn K cdT "Book.tell" = true)
    (kT : PySem.W.keepIn K (.ref fT) = true)
    (aD : PySem.W.findIn K (.ref CB) "drop" = some (some (.ref fDr)))
    (iD : PySem.W.isFn K (.ref fDr) = true)
    (lD : K.lookup fDr = some ⟨ocD, odD, .func (PySem.W.fnOf "drop" "Book.drop" (defArgs s_Book_drop) (defBody s_Book_drop) (defScope s_Book_drop) .none kVD dcD pmD anD cdD ctD), slD⟩)
    (cD : PySem.W.codeIn K cdD "Book.drop" = true)
    (kD : PySem.W.keepIn K (.ref fDr) = true)
    (aS : PySem.W.findIn K (.ref CB) "size" = some (some (.ref pS)))
    (gS : PySem.W.specialIn K (.ref pS) "__get__" = some (some (.builtin "property.__get__")))
    (tS : PySem.W.takesIn K (.ref pS) = some true)
    (rS : PySem.W.recIn K pS "property" = some (.ref fS :: restS))
    (lS : K.lookup fS = some ⟨ocS, odS, .func (PySem.W.fnOf "size" "Book.size" (defArgs s_Book_size) (defBody s_Book_size) (defScope s_Book_size) .none kVS dcS pmS anS cdS ctS), slS⟩)
    (cS : PySem.W.codeIn K cdS "Book.size" = true)
    (kS : PySem.W.keepIn K (.ref fS) = true)
    (aO : PySem.W.findCls K (.ref CB) (.type "type") "of" = some (.get (.builtin "classmethod.__get__") (.ref pO) .none (.ref CB)))
    (rO : PySem.W.recIn K pO "classmethod" = some (.ref fO :: restO))
    (nO : PySem.W.fnIn K fO = true)
    (lO : K.lookup fO = some ⟨ocO, odO, .func (PySem.W.fnOf "of" "Book.of" (defArgs s_Book_of) (defBody s_Book_of) (defScope s_Book_of) .none kVO dcO pmO anO cdO ctO), slO⟩)
    (cO : PySem.W.codeIn K cdO "Book.of" = true)
    (kO : PySem.W.keepIn K (.ref fO) = true)
    (xF_eg : PySem.W.nsIn K mainGlobals "BookFull" = some (some (.ref CF)))
    (xF_ex : PySem.W.excIn K CF [.type "ValueError", .type "Exception", .type "BaseException", .type "object"] "ValueError.__new__" = true)
    (xF_ek : PySem.W.keepIn K (.ref CF) = true)
    (xF_eb : PySem.W.subIn K (.ref CF) (.type "BaseException") = some true)
    (xF_et : PySem.W.typeIn K (.ref CF) = some (.type "type"))
    (xF_c1 : PySem.W.findIn K (.ref CF) "__getattribute__" = some (some (.builtin "BaseException.__getattribute__")))
    (xF_c2 : PySem.W.findIn K (.ref CF) "__getattr__" = some none)
    (xF_c3 : PySem.W.hasDictIn K CF = true)
    (xF_c4 : PySem.W.findIn K (.ref CF) "__class__" = some (some (.builtin "object.__class__")))
    (xF_c7 : PySem.W.mroIn K CF (.type "object") = some true)
    (xF_es : PySem.W.exmOne K (.ref CF) (.ref CF) = some true)
    (xN_eg : PySem.W.nsIn K mainGlobals "NoFact" = some (some (.ref CN)))
    (xN_ex : PySem.W.excIn K CN [.type "ValueError", .type "Exception", .type "BaseException", .type "object"] "ValueError.__new__" = true)
    (xN_ek : PySem.W.keepIn K (.ref CN) = true)
    (xN_eb : PySem.W.subIn K (.ref CN) (.type "BaseException") = some true)
    (xN_et : PySem.W.typeIn K (.ref CN) = some (.type "type"))
    (xN_c1 : PySem.W.findIn K (.ref CN) "__getattribute__" = some (some (.builtin "BaseException.__getattribute__")))
    (xN_c2 : PySem.W.findIn K (.ref CN) "__getattr__" = some none)
    (xN_c3 : PySem.W.hasDictIn K CN = true)
    (xN_c4 : PySem.W.findIn K (.ref CN) "__class__" = some (some (.builtin "object.__class__")))
    (xN_c7 : PySem.W.mroIn K CN (.type "object") = some true)
    (xN_es : PySem.W.exmOne K (.ref CN) (.ref CN) = some true)
    (x_c5 : PySem.W.specialIn K (.builtin "object.__class__") "__get__" = some (some (.builtin "getset_descriptor.__get__")))
    (x_c6 : PySem.W.takesIn K (.builtin "object.__class__") = some true)
    (x_gE : PySem.W.nsIn K mainGlobals "SetnestsError" = some (some (.ref cE)))
    (x_gV : PySem.W.nsIn K mainGlobals "ValueError" = some none)
    (xF_hE : PySem.W.kitOne K (.ref CF) (.ref cE) = some true)
    (xF_hV : PySem.W.kitOne K (.ref CF) (.type "ValueError") = some true)
    (xF_hX : PySem.W.kitOne K (.ref CF) (.ref CN) = some false)
    (xN_hE : PySem.W.kitOne K (.ref CN) (.ref cE) = some true)
    (xN_hV : PySem.W.kitOne K (.ref CN) (.type "ValueError") = some true)
    (xN_hX : PySem.W.kitOne K (.ref CN) (.ref CF) = some false)
    : ∃ fd : FuncData, (∀ (s : Shared) (v : Value), BindsTo s fd ⟨[v], []⟩ [("script", v)]) ∧ ∀ base : Heap, K.In base → base.Ns mainGlobals mg → FnOk P w K mg base CX0 33 fa fd ["script"] (spLaw K) := by
  have e := hfa.symm.trans (PySem.W.mg_of X G a19)
  cases e
  have B : Blt mg := ⟨PySem.W.mg_none_of X G z0, PySem.W.mg_none_of X G z1, PySem.W.mg_none_of X G z2, PySem.W.mg_none_of X G z3, PySem.W.mg_none_of X G z4, PySem.W.mg_none_of X G z5, PySem.W.mg_none_of X G z6, PySem.W.mg_none_of X G z7, PySem.W.mg_none_of X G z8, PySem.W.mg_none_of X G z9⟩
  have EF : ExN K mg "BookFull" CF := ⟨PySem.W.mg_of X G xF_eg, xF_ex, xF_ek, xF_eb, xF_et⟩
  have EN : ExN K mg "NoFact" CN := ⟨PySem.W.mg_of X G xN_eg, xN_ex, xN_ek, xN_eb, xN_et⟩
  have ZF : ExF K mg "NoFact" CF cE CN := ⟨⟨xF_c1, xF_c2, xF_eb, xF_c3, xF_c4, x_c5, x_c6, xF_c7⟩, xF_es, PySem.W.mg_of X G x_gE, PySem.W.mg_of X G xN_eg, PySem.W.mg_none_of X G x_gV, xF_hE, xF_hV, xF_hX⟩
  have ZN : ExF K mg "BookFull" CN cE CF := ⟨⟨xN_c1, xN_c2, xN_eb, xN_c3, xN_c4, x_c5, x_c6, xN_c7⟩, xN_es, PySem.W.mg_of X G x_gE, PySem.W.mg_of X G xF_eg, PySem.W.mg_none_of X G x_gV, xN_hE, xN_hV, xN_hX⟩
  have Z : ZB K mg CB (.type "type") := ⟨PySem.W.mg_of X G x_gB, ⟨x_pg, x_hd, x_po, x_sa⟩, x_nR, x_nN, x_nX, ⟨x_rd, x_ga⟩, ⟨_, ⟨x_lim, ⟨_, rfl⟩⟩⟩⟩
  have FI := fun_mk (st := s_Book___init__) lI cI kI
  have FF := fun_mk (st := s_Book_facts) lF cF kF
  have FS := fun_mk (st := s_Book_size) lS cS kS
  have FT := fun_mk (st := s_Book_tell) lT cT kT
  have FDr := fun_mk (st := s_Book_drop) lD cD kD
  have FO := fun_mk (st := s_Book_of) lO cO kO
  have hkI : KBn K _ ["self", "rings"] 1 ["rings"] (fun us ws => us ++ ws) (fun vs zs => vs ++ zs) := kb_all FI 1 ["rings"] fun _ _ _ _ _ _ us ws h1 h2 => match us, ws, h1, h2 with | [_], [_], _, _ => rfl
  have FDI : FunD K "__init__" "Book.__init__" (defArgs s_Book___init__) (defBody s_Book___init__) (defScope s_Book___init__) [] [("rings", .bl false)] fI _ := ⟨⟨ocI, odI, .none, .ref kDI, dcI, pmI, anI, cdI, ctI, slI, rfl, lI, cI, .inl ⟨rfl, rfl⟩, .inr ⟨kDI, rfl, fun q hq => by rw [List.mem_singleton.mp hq]; exact ⟨_, qI, rfl⟩⟩⟩, kI⟩
  obtain ⟨dsI, hdI, hbI⟩ := FDI.binds0 (ps := ["self", "rings"]) 1 (by decide) rfl fun _ _ _ _ _ _ us ks h1 h2 => match us, ks, h1, h2 with | [_], [_], _, _ => ⟨_, _, _, _, _, _, rfl, rfl, rfl⟩
  have bF := FF.binds (ps := ["self"]) fun _ _ _ _ _ _ us hl => match us, hl with | [_], _ => rfl
  have bS := FS.binds (ps := ["self"]) fun _ _ _ _ _ _ us hl => match us, hl with | [_], _ => rfl
  have bT := FT.binds (ps := ["self", "saying"]) fun _ _ _ _ _ _ us hl => match us, hl with | [_, _], _ => rfl
  have bD := FDr.binds (ps := ["self", "number"]) fun _ _ _ _ _ _ us hl => match us, hl with | [_, _], _ => rfl
  have bO := FO.binds (ps := ["cls", "sayings"]) fun _ _ _ _ _ _ us hl => match us, hl with | [_, _], _ => rfl
  have MB : Mk K CB fI := ⟨x_mk, aI, iI, x_kB⟩
  have mF : Meth K CB "facts" fF := ⟨aF, iF, kF⟩
  have mT : Meth K CB "tell" fT := ⟨aT, iT, kT⟩
  have mD : Meth K CB "drop" fDr := ⟨aD, iD, kD⟩
  have hpS : PropOf K CB "size" pS fS := ⟨aS, gS, tS, ⟨_, rS⟩⟩
  have hCM : ClX.CMet K CB (.type "type") "of" pO fO := ⟨aO, ⟨_, rO⟩, nO⟩
  have F1 := fun_mk (st := s__law_draw) l1 c1 k1
  have D1 : Dn K mg "_law_draw" s__law_draw ["state", "many"] f1 _ := ⟨F1, F1.binds (ps := ["state", "many"]) fun _ _ _ _ _ _ us hl => match us, hl with | [_, _], _ => rfl, PySem.W.mg_of X G a1⟩
  have F2 := fun_mk (st := s__law_start) l2 c2 k2
  have D2 : Dn K mg "_law_start" s__law_start ["script"] f2 _ := ⟨F2, F2.binds (ps := ["script"]) fun _ _ _ _ _ _ us hl => match us, hl with | [_], _ => rfl, PySem.W.mg_of X G a2⟩
  have F3 := fun_mk (st := s__law_size) l3 c3 k3
  have D3 : Dn K mg "_law_size" s__law_size ["tree"] f3 _ := ⟨F3, F3.binds (ps := ["tree"]) fun _ _ _ _ _ _ us hl => match us, hl with | [_], _ => rfl, PySem.W.mg_of X G a3⟩
  have F4 := fun_mk (st := s__law_pick) l4 c4 k4
  have D4 : Dn K mg "_law_pick" s__law_pick ["state", "row"] f4 _ := ⟨F4, F4.binds (ps := ["state", "row"]) fun _ _ _ _ _ _ us hl => match us, hl with | [_, _], _ => rfl, PySem.W.mg_of X G a4⟩
  have F5 := fun_mk (st := s__law_names) l5 c5 k5
  have D5 : Dn K mg "_law_names" s__law_names ["state", "many"] f5 _ := ⟨F5, F5.binds (ps := ["state", "many"]) fun _ _ _ _ _ _ us hl => match us, hl with | [_, _], _ => rfl, PySem.W.mg_of X G a5⟩
  have F6 := fun_mk (st := s__law_terms) l6 c6 k6
  have D6 : Dn K mg "_law_terms" s__law_terms ["state", "names", "many"] f6 _ := ⟨F6, F6.binds (ps := ["state", "names", "many"]) fun _ _ _ _ _ _ us hl => match us, hl with | [_, _, _], _ => rfl, PySem.W.mg_of X G a6⟩
  have F7 := fun_mk (st := s__law_body) l7 c7 k7
  have D7 : Dn K mg "_law_body" s__law_body ["state", "terms"] f7 _ := ⟨F7, F7.binds (ps := ["state", "terms"]) fun _ _ _ _ _ _ us hl => match us, hl with | [_, _], _ => rfl, PySem.W.mg_of X G a7⟩
  have F8 := fun_mk (st := s__law_fact) l8 c8 k8
  have D8 : Dn K mg "_law_fact" s__law_fact ["state", "terms"] f8 _ := ⟨F8, F8.binds (ps := ["state", "terms"]) fun _ _ _ _ _ _ us hl => match us, hl with | [_, _], _ => rfl, PySem.W.mg_of X G a8⟩
  have F9 := fun_mk (st := s__law_piece) l9 c9 k9
  have D9 : Dn K mg "_law_piece" s__law_piece ["state", "terms"] f9 _ := ⟨F9, F9.binds (ps := ["state", "terms"]) fun _ _ _ _ _ _ us hl => match us, hl with | [_, _], _ => rfl, PySem.W.mg_of X G a9⟩
  have F10 := fun_mk (st := s__law_is_number) l10 c10 k10
  have D10 : Dn K mg "_law_is_number" s__law_is_number ["told", "due"] f10 _ := ⟨F10, F10.binds (ps := ["told", "due"]) fun _ _ _ _ _ _ us hl => match us, hl with | [_, _], _ => rfl, PySem.W.mg_of X G a10⟩
  have F11 := fun_mk (st := s__law_is_saying) l11 c11 k11
  have D11 : Dn K mg "_law_is_saying" s__law_is_saying ["told", "due"] f11 _ := ⟨F11, F11.binds (ps := ["told", "due"]) fun _ _ _ _ _ _ us hl => match us, hl with | [_, _], _ => rfl, PySem.W.mg_of X G a11⟩
  have F12 := fun_mk (st := s__law_lists) l12 c12 k12
  have D12 : Dn K mg "_law_lists" s__law_lists ["told", "kept"] f12 _ := ⟨F12, F12.binds (ps := ["told", "kept"]) fun _ _ _ _ _ _ us hl => match us, hl with | [_, _], _ => rfl, PySem.W.mg_of X G a12⟩
  have F13 := fun_mk (st := s__law_looked) l13 c13 k13
  have D13 : Dn K mg "_law_looked" s__law_looked ["row"] f13 _ := ⟨F13, F13.binds (ps := ["row"]) fun _ _ _ _ _ _ us hl => match us, hl with | [_], _ => rfl, PySem.W.mg_of X G a13⟩
  have F14 := fun_mk (st := s__law_tell) l14 c14 k14
  have D14 : Dn K mg "_law_tell" s__law_tell ["row", "saying"] f14 _ := ⟨F14, F14.binds (ps := ["row", "saying"]) fun _ _ _ _ _ _ us hl => match us, hl with | [_, _], _ => rfl, PySem.W.mg_of X G a14⟩
  have F15 := fun_mk (st := s__law_drop) l15 c15 k15
  have D15 : Dn K mg "_law_drop" s__law_drop ["row", "number"] f15 _ := ⟨F15, F15.binds (ps := ["row", "number"]) fun _ _ _ _ _ _ us hl => match us, hl with | [_, _], _ => rfl, PySem.W.mg_of X G a15⟩
  have F16 := fun_mk (st := s__law_made_of) l16 c16 k16
  have D16 : Dn K mg "_law_made_of" s__law_made_of ["row", "sayings"] f16 _ := ⟨F16, F16.binds (ps := ["row", "sayings"]) fun _ _ _ _ _ _ us hl => match us, hl with | [_, _], _ => rfl, PySem.W.mg_of X G a16⟩
  have F17 := fun_mk (st := s__law_number) l17 c17 k17
  have D17 : Dn K mg "_law_number" s__law_number ["state", "row"] f17 _ := ⟨F17, F17.binds (ps := ["state", "row"]) fun _ _ _ _ _ _ us hl => match us, hl with | [_, _], _ => rfl, PySem.W.mg_of X G a17⟩
  have F18 := fun_mk (st := s__law_deed) l18 c18 k18
  have D18 : Dn K mg "_law_deed" s__law_deed ["state", "row", "terms", "last"] f18 _ := ⟨F18, F18.binds (ps := ["state", "row", "terms", "last"]) fun _ _ _ _ _ _ us hl => match us, hl with | [_, _, _, _], _ => rfl, PySem.W.mg_of X G a18⟩
  have F19 := fun_mk (st := s_law) l19 c19 k19
  have D19 : Dn K mg "law" s_law ["script"] fa _ := ⟨F19, F19.binds (ps := ["script"]) fun _ _ _ _ _ _ us hl => match us, hl with | [_], _ => rfl, PySem.W.mg_of X G a19⟩
  refine ⟨PySem.W.fnOf "law" "law" (defArgs s_law) (defBody s_law) (defScope s_law) .none kV19 dc19 pm19 an19 cd19 ct19, fun s v => .of_eq rfl, fun base _ _ => ?_⟩
  have GI := ok_binit (P := P) (w := w) (base := base) Z FI
  have GF := ok_bfacts (P := P) (w := w) (base := base) B Z FF
  have GS := ok_bsize (P := P) (w := w) (base := base) B Z FS
  have GT := ok_btell (P := P) (w := w) (base := base) B Z EF FT
  have GD := ok_bdrop (P := P) (w := w) (base := base) B Z EN FDr
  have GO := ok_bof (P := P) (w := w) (base := base) B Z FO MB hdI hbI GI mT bT GT
  have GR : FnR P w K mg base (L2.CX P w) 3 fO (spBOf CB CF) := (GO.raw bO .nil).imp fun vs H Q E h => by rw [List.append_nil]; exact h
  have G2_1 := ok_start (P := P) (w := w) (base := base) (k := 0) B D2 
  have G1_1 := ok_draw (P := P) (w := w) (base := base) (k := 0) B D1 
  have G5_2 := ok_names (P := P) (w := w) (base := base) B D5 D1 G1_1
  have G4_2 := ok_pick (P := P) (w := w) (base := base) B D4 D1 G1_1
  have G3_31 := ok_size (P := P) (w := w) (base := base) B D3 
  have G6_32 := ok_terms (P := P) (w := w) (base := base) B D6 D1 G1_1 D4 G4_2 D3 G3_31
  have G10_1 := ok_is_number (P := P) (w := w) (base := base) B D10 
  have G11_1 := ok_is_saying (P := P) (w := w) (base := base) B D11 
  have G12_2 := ok_lists (P := P) (w := w) (base := base) B D12 D10 G10_1 D11 G11_1
  have G13_3 := ok_looked (P := P) (w := w) (base := base) B Z mF bF GF hpS bS GS D13 D12 G12_2 D10 G10_1
  have G7_3 := ok_body (P := P) (w := w) (base := base) B D7 D1 G1_1 D4 G4_2
  have G8_4 := ok_fact (P := P) (w := w) (base := base) B D8 D1 G1_1 D4 G4_2 D7 G7_3
  have G9_5 := ok_piece (P := P) (w := w) (base := base) B D9 D1 G1_1 D8 G8_4
  have G14_2 := ok_tell (P := P) (w := w) (base := base) B Z EF ZF mT bT GT D14 D10 G10_1
  have G15_2 := ok_drop (P := P) (w := w) (base := base) B Z EN ZN mD bD GD D15 D11 G11_1
  have G17_3 := ok_number (P := P) (w := w) (base := base) (CB := CB) B D17 D1 G1_1 D4 G4_2
  have G16_4 := ok_made (P := P) (w := w) (base := base) B Z EF ZF hCM GR D16 
  have G18_6 := ok_deed (P := P) (w := w) (base := base) B D18 D1 G1_1 D9 G9_5 D14 G14_2 D15 G15_2 D17 G17_3 D16 G16_4
  have G19_33 := ok_law (P := P) (w := w) (base := base) B Z MB hdI hbI hkI GI D19 D2 G2_1 D5 G5_2 D6 G6_32 D1 G1_1 D10 G10_1 D13 G13_3 D18 G18_6
  exact G19_33
end K53
open PySem PySem.W PyProof.Rows
set_option maxHeartbeats 0 in
theorem PySem.Challenge.cw_setnests_k53_whole_book_deeds_holds : PySem.Challenge.rw_setnests_k53_whole_book_deeds.Holds := by
  w_on; o_law; k_head; (case hw => w_witness2)
  k_fill
  refine L2.walk_of (l := PySem.Challenge.rw_setnests_k53_whole_book_deeds) (n := 63) (k := 33) (x := "script") (CX := fun _ => L2.CX0) (sp := fun w => K53.spLaw _) rfl (by decide) rfl ⟨rfl, by decide, by decide⟩ (fun w h Y => PySem.W.kIn_of Y) ?F (fun _ _ a ns hl _ hS => ⟨a, ns, rfl, hS, hl, fun _ => rfl⟩) (fun _ _ _ _ _ h => h)
  case F =>
    intro w mg fa h KX G hmg
    refine' K53.all_mk KX G hmg ?a1 ?l1 ?c1 ?k1 ?a2 ?l2 ?c2 ?k2 ?a3 ?l3 ?c3 ?k3 ?a4 ?l4 ?c4 ?k4 ?a5 ?l5 ?c5 ?k5 ?a6 ?l6 ?c6 ?k6 ?a7 ?l7 ?c7 ?k7 ?a8 ?l8 ?c8 ?k8 ?a9 ?l9 ?c9 ?k9 ?a10 ?l10 ?c10 ?k10 ?a11 ?l11 ?c11 ?k11 ?a12 ?l12 ?c12 ?k12 ?a13 ?l13 ?c13 ?k13 ?a14 ?l14 ?c14 ?k14 ?a15 ?l15 ?c15 ?k15 ?a16 ?l16 ?c16 ?k16 ?a17 ?l17 ?c17 ?k17 ?a18 ?l18 ?c18 ?k18 ?a19 ?l19 ?c19 ?k19 ?z0 ?z1 ?z2 ?z3 ?z4 ?z5 ?z6 ?z7 ?z8 ?z9 ?x_gB ?x_pg ?x_hd ?x_po ?x_sa ?x_mk ?x_kB ?x_nR ?x_nN ?x_nX ?x_rd ?x_ga ?x_lim ?aI ?iI ?lI ?cI ?kI ?qI ?aF ?iF ?lF ?cF ?kF ?aT ?iT ?lT ?cT ?kT ?aD ?iD ?lD ?cD ?kD ?aS ?gS ?tS ?rS ?lS ?cS ?kS ?aO ?rO ?nO ?lO ?cO ?kO ?xF_eg ?xF_ex ?xF_ek ?xF_eb ?xF_et ?xF_c1 ?xF_c2 ?xF_c3 ?xF_c4 ?xF_c7 ?xF_es ?xN_eg ?xN_ex ?xN_ek ?xN_eb ?xN_et ?xN_c1 ?xN_c2 ?xN_c3 ?xN_c4 ?xN_c7 ?xN_es ?x_c5 ?x_c6 ?x_gE ?x_gV ?xF_hE ?xF_hV ?xF_hX ?xN_hE ?xN_hV ?xN_hX
    (case a1 => k_is); (case l1 => k_is); (case c1 => k_is); (case k1 => k_is); (case a2 => k_is); (case l2 => k_is); (case c2 => k_is); (case k2 => k_is); (case a3 => k_is); (case l3 => k_is); (case c3 => k_is); (case k3 => k_is); (case a4 => k_is); (case l4 => k_is); (case c4 => k_is); (case k4 => k_is); (case a5 => k_is); (case l5 => k_is); (case c5 => k_is); (case k5 => k_is); (case a6 => k_is); (case l6 => k_is); (case c6 => k_is); (case k6 => k_is); (case a7 => k_is); (case l7 => k_is); (case c7 => k_is); (case k7 => k_is); (case a8 => k_is); (case l8 => k_is); (case c8 => k_is); (case k8 => k_is); (case a9 => k_is); (case l9 => k_is); (case c9 => k_is); (case k9 => k_is); (case a10 => k_is); (case l10 => k_is); (case c10 => k_is); (case k10 => k_is); (case a11 => k_is); (case l11 => k_is); (case c11 => k_is); (case k11 => k_is); (case a12 => k_is); (case l12 => k_is); (case c12 => k_is); (case k12 => k_is); (case a13 => k_is); (case l13 => k_is); (case c13 => k_is); (case k13 => k_is); (case a14 => k_is); (case l14 => k_is); (case c14 => k_is); (case k14 => k_is); (case a15 => k_is); (case l15 => k_is); (case c15 => k_is); (case k15 => k_is); (case a16 => k_is); (case l16 => k_is); (case c16 => k_is); (case k16 => k_is); (case a17 => k_is); (case l17 => k_is); (case c17 => k_is); (case k17 => k_is); (case a18 => k_is); (case l18 => k_is); (case c18 => k_is); (case k18 => k_is); (case a19 => k_is); (case l19 => k_is); (case c19 => k_is); (case k19 => k_is); (case z0 => k_is); (case z1 => k_is); (case z2 => k_is); (case z3 => k_is); (case z4 => k_is); (case z5 => k_is); (case z6 => k_is); (case z7 => k_is); (case z8 => k_is); (case z9 => k_is); (case x_gB => first | k_is | k_exc | kit_is | kts_exm); (case x_pg => first | k_is | k_exc | kit_is | kts_exm); (case x_hd => first | k_is | k_exc | kit_is | kts_exm); (case x_po => first | k_is | k_exc | kit_is | kts_exm); (case x_sa => first | k_is | k_exc | kit_is | kts_exm); (case x_mk => first | k_is | k_exc | kit_is | kts_exm); (case x_kB => first | k_is | k_exc | kit_is | kts_exm); (case x_nR => first | k_is | k_exc | kit_is | kts_exm); (case x_nN => first | k_is | k_exc | kit_is | kts_exm); (case x_nX => first | k_is | k_exc | kit_is | kts_exm); (case x_rd => first | k_is | k_exc | kit_is | kts_exm); (case x_ga => first | k_is | k_exc | kit_is | kts_exm); (case x_lim => first | k_is | k_exc | kit_is | kts_exm); (case aI => first | k_is | k_exc | kit_is | kts_exm); (case iI => first | k_is | k_exc | kit_is | kts_exm); (case lI => first | k_is | k_exc | kit_is | kts_exm); (case cI => first | k_is | k_exc | kit_is | kts_exm); (case kI => first | k_is | k_exc | kit_is | kts_exm); (case qI => first | k_is | k_exc | kit_is | kts_exm); (case aF => first | k_is | k_exc | kit_is | kts_exm); (case iF => first | k_is | k_exc | kit_is | kts_exm); (case lF => first | k_is | k_exc | kit_is | kts_exm); (case cF => first | k_is | k_exc | kit_is | kts_exm); (case kF => first | k_is | k_exc | kit_is | kts_exm); (case aT => first | k_is | k_exc | kit_is | kts_exm); (case iT => first | k_is | k_exc | kit_is | kts_exm); (case lT => first | k_is | k_exc | kit_is | kts_exm); (case cT => first | k_is | k_exc | kit_is | kts_exm); (case kT => first | k_is | k_exc | kit_is | kts_exm); (case aD => first | k_is | k_exc | kit_is | kts_exm); (case iD => first | k_is | k_exc | kit_is | kts_exm); (case lD => first | k_is | k_exc | kit_is | kts_exm); (case cD => first | k_is | k_exc | kit_is | kts_exm); (case kD => first | k_is | k_exc | kit_is | kts_exm); (case aS => first | k_is | k_exc | kit_is | kts_exm); (case gS => first | k_is | k_exc | kit_is | kts_exm); (case tS => first | k_is | k_exc | kit_is | kts_exm); (case rS => first | k_is | k_exc | kit_is | kts_exm); (case lS => first | k_is | k_exc | kit_is | kts_exm); (case cS => first | k_is | k_exc | kit_is | kts_exm); (case kS => first | k_is | k_exc | kit_is | kts_exm); (case aO => first | k_is | k_exc | kit_is | kts_exm); (case rO => first | k_is | k_exc | kit_is | kts_exm); (case nO => first | k_is | k_exc | kit_is | kts_exm); (case lO => first | k_is | k_exc | kit_is | kts_exm); (case cO => first | k_is | k_exc | kit_is | kts_exm); (case kO => first | k_is | k_exc | kit_is | kts_exm); (case xF_eg => first | k_is | k_exc | kit_is | kts_exm); (case xF_ex => first | k_is | k_exc | kit_is | kts_exm); (case xF_ek => first | k_is | k_exc | kit_is | kts_exm); (case xF_eb => first | k_is | k_exc | kit_is | kts_exm); (case xF_et => first | k_is | k_exc | kit_is | kts_exm); (case xF_c1 => first | k_is | k_exc | kit_is | kts_exm); (case xF_c2 => first | k_is | k_exc | kit_is | kts_exm); (case xF_c3 => first | k_is | k_exc | kit_is | kts_exm); (case xF_c4 => first | k_is | k_exc | kit_is | kts_exm); (case xF_c7 => first | k_is | k_exc | kit_is | kts_exm); (case xF_es => first | k_is | k_exc | kit_is | kts_exm); (case xN_eg => first | k_is | k_exc | kit_is | kts_exm); (case xN_ex => first | k_is | k_exc | kit_is | kts_exm); (case xN_ek => first | k_is | k_exc | kit_is | kts_exm); (case xN_eb => first | k_is | k_exc | kit_is | kts_exm); (case xN_et => first | k_is | k_exc | kit_is | kts_exm); (case xN_c1 => first | k_is | k_exc | kit_is | kts_exm); (case xN_c2 => first | k_is | k_exc | kit_is | kts_exm); (case xN_c3 => first | k_is | k_exc | kit_is | kts_exm); (case xN_c4 => first | k_is | k_exc | kit_is | kts_exm); (case xN_c7 => first | k_is | k_exc | kit_is | kts_exm); (case xN_es => first | k_is | k_exc | kit_is | kts_exm); (case x_c5 => first | k_is | k_exc | kit_is | kts_exm); (case x_c6 => first | k_is | k_exc | kit_is | kts_exm); (case x_gE => first | k_is | k_exc | kit_is | kts_exm); (case x_gV => first | k_is | k_exc | kit_is | kts_exm); (case xF_hE => first | k_is | k_exc | kit_is | kts_exm); (case xF_hV => first | k_is | k_exc | kit_is | kts_exm); (case xF_hX => first | k_is | k_exc | kit_is | kts_exm); (case xN_hE => first | k_is | k_exc | kit_is | kts_exm); (case xN_hV => first | k_is | k_exc | kit_is | kts_exm); (case xN_hX => first | k_is | k_exc | kit_is | kts_exm)
