import PyProof.Rows.All
import Wide.All
import OpenK.AllK
import Wide.FinOn
import HandS.ForMost
import HandS.Style
import HandS.IsInst
import HandS.SortInts
import HandS.More
import HandS.Codes
import HandS.Strs
import HandS.SetFor
import HandS.Deep
import HandS.Defaults
import HandS.Dict
import HandS.TupLen
import HandS.ForExc
import HandS.ExcIs
import HandS.CallSlots
import HandS.Zip
import KE.RegKIsAll
import KE.RegKTryMore
import PySem.Challenge.RW_setnests_k39_whole_built_plain
set_option Elab.async false
set_option linter.all false
set_option maxRecDepth 100000
set_option maxHeartbeats 4000000
/-! my own base: layered heaps, readings as lemmas, a stepping tactic -/
namespace Lw
open PySem PySem.Spec PyProof.Rows L2

/-! ### heaps in layers -/
theorem upd_old {H : Hp} {p a : Addr} {x o : HO} (hp : H p = none) (h : H a = some o) : upd H p x a = some o := by
  rw [upd_ne (ne_of_none h hp)]; exact h
theorem Same.get {H H' : Hp} {a : Addr} {o : HO} (s : Same H H') (h : H a = some o) : H' a = some o := s a o h
theorem same_new {H : Hp} {p : Addr} {o : HO} (h : H p = none) : Same H (upd H p o) := fun b x e => upd_old h e
/-- the draws' state: two lists above the rest -/
structure RS where
  ns : List Int
  i : Int
  m : Int
  c : Int
structure RS.Ok (R : RS) : Prop where
  i0 : 0 ≤ R.i
  i1 : R.i ≤ R.ns.length
  pos : ∀ n ∈ R.ns, 0 ≤ n
  len : R.ns.length ≤ 63
def rg (st g : Addr) (R : RS) (B : Hp) : Hp := upd (upd B g (.lst (R.ns.map V.int))) st (.lst [.ref g, .int R.i, .int R.m, .int R.c])
structure Ok (st g : Addr) (R : RS) (B : Hp) : Prop where
  ne : st ≠ g
  ok : R.Ok
  bst : B st = none
  bg : B g = none
theorem Ok.low {st g : Addr} {R : RS} {B : Hp} (o : Ok st g R B) : (upd B g (.lst (R.ns.map V.int))) st = none := by
  rw [upd_ne o.ne]; exact o.bst
theorem rg_get {st g a : Addr} {R : RS} {B : Hp} {o : HO} (k : Ok st g R B) (h : B a = some o) : rg st g R B a = some o :=
  upd_old k.low (upd_old k.bg h)
theorem rg_st {st g : Addr} {R : RS} {B : Hp} : rg st g R B st = some (.lst [.ref g, .int R.i, .int R.m, .int R.c]) := upd_same
theorem rg_g {st g : Addr} {R : RS} {B : Hp} (k : Ok st g R B) : rg st g R B g = some (.lst (R.ns.map V.int)) := by
  unfold rg; rw [upd_ne k.ne.symm, upd_same]
theorem upd_comm {H : Hp} {a b : Addr} {x y : HO} (h : a ≠ b) : upd (upd H a x) b y = upd (upd H b y) a x := by
  funext c
  by_cases h1 : c = b
  · subst h1; rw [upd_same, upd_ne h.symm, upd_same]
  · rw [upd_ne h1]
    by_cases h2 : c = a
    · subst h2; rw [upd_same, upd_same]
    · rw [upd_ne h2, upd_ne h2, upd_ne h1]
theorem upd_none {H : Hp} {a b : Addr} {x : HO} (h : upd H a x b = none) : b ≠ a ∧ H b = none := by
  by_cases e : b = a
  · subst e; rw [upd_same] at h; cases h
  · rw [upd_ne e] at h; exact ⟨e, h⟩
theorem rg_none {st g b : Addr} {R : RS} {B : Hp} (h : rg st g R B b = none) : b ≠ st ∧ b ≠ g ∧ B b = none := by
  obtain ⟨h1, h2⟩ := upd_none h
  obtain ⟨h3, h4⟩ := upd_none h2
  exact ⟨h1, h3, h4⟩
theorem rg_upd {st g b : Addr} {R : RS} {B : Hp} {o : HO} (h1 : b ≠ st) (h2 : b ≠ g) : upd (rg st g R B) b o = rg st g R (upd B b o) := by
  unfold rg; rw [upd_comm h1.symm, upd_comm h2.symm]
theorem Ok.upd {st g b : Addr} {R : RS} {B : Hp} {o : HO} (k : Ok st g R B) (h1 : b ≠ st) (h2 : b ≠ g) : Ok st g R (upd B b o) :=
  ⟨k.ne, k.ok, by rw [upd_ne h1.symm]; exact k.bst, by rw [upd_ne h2.symm]; exact k.bg⟩
/-- a new object below the draws' state -/
theorem rg_new {st g : Addr} {R : RS} {B : Hp} {o : HO} {Q : Addr → Hp → Prop} (k : Ok st g R B)
    (h : ∀ p, B p = none → p ≠ st → p ≠ g → Ok st g R (upd B p o) → Q p (rg st g R (upd B p o))) : ∀ p, rg st g R B p = none → Q p (upd (rg st g R B) p o) := fun p hp => by
  obtain ⟨h1, h2, h3⟩ := rg_none hp
  rw [rg_upd h1 h2]
  exact h p h3 h1 h2 (k.upd h1 h2)
/-- an object written below the draws' state -/
theorem rg_write {st g b : Addr} {R : RS} {B : Hp} {o o' : HO} (k : Ok st g R B) (h : B b = some o') : upd (rg st g R B) b o = rg st g R (upd B b o) ∧ Ok st g R (upd B b o) := by
  have h1 := ne_of_none h k.bst
  have h2 := ne_of_none h k.bg
  exact ⟨rg_upd h1 h2, k.upd h1 h2⟩
/-- behind a call that keeps all that was -/
theorem rg_same {st g : Addr} {R : RS} {B H : Hp} (k : Ok st g R B) (s : Same (rg st g R B) H) : ∃ B', H = rg st g R B' ∧ Ok st g R B' ∧ Same B B' := by
  refine ⟨fun b => if b = st ∨ b = g then none else H b, ?_, ⟨k.ne, k.ok, if_pos (.inl rfl), if_pos (.inr rfl)⟩, fun b o e => ?_⟩
  · funext b
    by_cases h1 : b = st
    · subst h1; rw [rg_st]; exact s _ _ rg_st
    · by_cases h2 : b = g
      · subst h2
        rw [show rg st b R (fun c => if c = st ∨ c = b then none else H c) b = some (.lst (R.ns.map V.int)) by unfold rg; rw [upd_ne h1, upd_same]]
        exact s _ _ (rg_g k)
      · unfold rg
        rw [upd_ne h1, upd_ne h2, if_neg (by intro z; rcases z with z | z; exact h1 z; exact h2 z)]
  · have h1 := ne_of_none e k.bst
    have h2 := ne_of_none e k.bg
    show (if b = st ∨ b = g then none else H b) = some o
    rw [if_neg (by intro z; rcases z with z | z; exact h1 z; exact h2 z)]
    exact s _ _ (rg_get k e)
/-- a list that is under way lies above the rest -/
theorem lay_new {C : Hp} {D : Addr} {x o : HO} {Q : Addr → Hp → Prop} (k : C D = none)
    (h : ∀ p, C p = none → p ≠ D → (upd C p o) D = none → Q p (upd (upd C p o) D x)) : ∀ p, upd C D x p = none → Q p (upd (upd C D x) p o) := fun p hp => by
  obtain ⟨h1, h2⟩ := upd_none hp
  rw [upd_comm h1.symm]
  exact h p h2 h1 (by rw [upd_ne h1.symm]; exact k)
theorem lay_same {C H : Hp} {D : Addr} {x : HO} (k : C D = none) (s : Same (upd C D x) H) : ∃ C', H = upd C' D x ∧ C' D = none ∧ Same C C' := by
  refine ⟨fun b => if b = D then none else H b, ?_, if_pos rfl, fun b o e => ?_⟩
  · funext b
    by_cases h1 : b = D
    · subst h1; rw [upd_same]; exact s _ _ upd_same
    · rw [upd_ne h1, if_neg h1]
  · have h1 := ne_of_none e k
    show (if b = D then none else H b) = some o
    rw [if_neg h1]
    exact s _ _ (upd_old k e)

/-! ### readings as lemmas -/
section
variable {K : PySem.W.Frag} {σ : L2.St} {H : Hp} {Q : VK} {D : Ends}
theorem r_seq {t u : TS} (h : t { D with nx := u D } σ H) : tSeq t u D σ H := h
theorem r_ifs {c : TT} {t u : TS} (h : c σ H fun b H1 => if b = true then t D σ H1 else u D σ H1) : tIfS c t u D σ H := h
theorem r_next (h : D.nx σ H) : tNext D σ H := h
theorem r_asg {te : TE} {g : TG} (h : te σ H fun x H1 => g x σ H1 D.nx) : tAsg te g D σ H := h
theorem r_ret {te : TE} (h : te σ H D.rt) : tRet te D σ H := h
theorem r_drop {te : TE} (h : te σ H fun _ H1 => D.nx σ H1) : tDrop te D σ H := h
theorem r_for {wi : TI} {g : TG} {tb : TS} (h : wi σ H fun J H1 => ∃ W : Nat → Nat → L2.St → Hp → Prop, (∃ m, W 0 m σ H1) ∧ ∀ i m σ H, W i m σ H →
  (J.stop i H ∧ D.nx σ H) ∨ (J.go i H ∧ ∃ N : L2.St → Hp → Prop, (∀ σ' H', N σ' H' → ∃ m', m' < m ∧ W (i + 1) m' σ' H') ∧ ∀ x H', J.yld i H x H' → g x σ H' fun σ2 H2 => tb { D with nx := N, ct := N, bk := D.nx } σ2 H2)) : tFor wi g tb D σ H := h
theorem r_name {i : Nat} {v : V} {q : L2.St → Hp → Prop} (h : q (σ.set i (some v)) H) : gName i v σ H q := h
theorem r_sub {to ti : TE} {t : TSet} {v : V} {q : L2.St → Hp → Prop} (h : to σ H fun o H1 => ti σ H1 fun i H2 => t o i v H2 fun H3 => q σ H3) : gSub to ti t v σ H q := h
theorem r_tup {n : Nat} {t : TGs} {a : Addr} {xs : List V} {q : L2.St → Hp → Prop} (h : SqT K H a xs) (e : xs.length = n) (h2 : t xs σ H q) : gTup K n t (.ref a) σ H q := ⟨a, xs, rfl, h, e, h2⟩
theorem r_gcons {t : TG} {u : TGs} {v : V} {r : List V} {q : L2.St → Hp → Prop} (h : t v σ H fun σ' H' => u r σ' H' q) : gCons t u (v :: r) σ H q := ⟨v, r, rfl, h⟩
theorem r_gnil {q : L2.St → Hp → Prop} (h : q σ H) : gNil [] σ H q := ⟨rfl, h⟩
theorem r_aug {i : Nat} {te : TE} {ti : TIp} {x : V} (e : σ[i]? = some (some x)) (h : te σ H fun y H1 => ti x y H1 fun z H2 => D.nx (σ.set i (some z)) H2) : tAug i te ti D σ H := ⟨x, e, h⟩
theorem r_augS {to ti te : TE} {tget : V → V → Hp → VK → Prop} {tip : TIp} {tset : TSet} (h : to σ H fun o H1 => ti σ H1 fun i H2 => tget o i H2 fun x H3 => te σ H3 fun y H4 => tip x y H4 fun z H5 => tset o i z H5 fun H6 => D.nx σ H6) : tAugS to ti te tget tip tset D σ H := h
theorem r_ipI {f : Int → Int → Int} {i j : Int} (h : Q (.int (f i j)) H) : ipI f (.int i) (.int j) H Q := ⟨i, j, rfl, rfl, h⟩
theorem r_test {t : TE} {q : Bool → Hp → Prop} (h : t σ H fun x H' => ∃ k, x = .bl k ∧ q k H') : tTest t σ H q := h
theorem r_tB {t : TE} {q : Bool → Hp → Prop} (h : t σ H fun x H' => ∃ k, x = .bl k ∧ q k H') : tB t σ H q := h
theorem r_bl {b : Bool} {q : Bool → Prop} (h : q b) : ∃ k, V.bl b = .bl k ∧ q k := ⟨b, rfl, h⟩
theorem r_not {t : TT} {q : Bool → Hp → Prop} (h : t σ H fun c H1 => q (!c) H1) : tNot t σ H q := h
theorem r_and {t u : TT} {q : Bool → Hp → Prop} (h : t σ H fun c H1 => if c = true then u σ H1 q else q false H1) : tAnd t u σ H q := h
theorem r_or {t u : TT} {q : Bool → Hp → Prop} (h : t σ H fun c H1 => if c = true then q true H1 else u σ H1 q) : tOr t u σ H q := h
theorem r_andV {ta tb : TE} (h : ta σ H fun x H1 => ∃ c, x = .bl c ∧ if c = true then tb σ H1 Q else Q (.bl false) H1) : tAndV ta tb σ H Q := h
theorem r_orV {ta tb : TE} (h : ta σ H fun x H1 => ∃ c, x = .bl c ∧ if c = true then Q (.bl true) H1 else tb σ H1 Q) : tOrV ta tb σ H Q := h
theorem r_notV {ta : TE} (h : ta σ H fun x H1 => ∃ c, x = .bl c ∧ Q (.bl (!c)) H1) : tNotV ta σ H Q := h
theorem r_if {t : TT} {ta tb : TE} (h : t σ H fun c H1 => if c = true then ta σ H1 Q else tb σ H1 Q) : tIf t ta tb σ H Q := h
theorem r_var {i : Nat} {v : V} (e : σ[i]? = some (some v)) (h : Q v H) : tVar i σ H Q := ⟨v, e, h⟩
theorem r_c {v : V} (h : Q v H) : tC v σ H Q := h
theorem r_op {r : R2} {ta tb : TE} (h : ta σ H fun x H1 => tb σ H1 fun y H2 => r x y H2 Q) : tOp r ta tb σ H Q := h
theorem r_un {r : V → Hp → VK → Prop} {ta : TE} (h : ta σ H fun x H1 => r x H1 Q) : tUn r ta σ H Q := h
theorem r_i0 {g : Int → Int → V} {i j : Int} (h : Q (g i j) H) : rI0 g (.int i) (.int j) H Q := ⟨i, j, rfl, rfl, h⟩
theorem r_i {C : Int → Int → Prop} {g : Int → Int → V} {i j : Int} (c : C i j) (h : Q (g i j) H) : rI C g (.int i) (.int j) H Q := ⟨i, j, rfl, rfl, c, h⟩
theorem r_u {g : Int → V} {i : Int} (h : Q (g i) H) : rU g (.int i) H Q := ⟨i, rfl, h⟩
theorem r_eq {x y : V} (e : scal x y = true) (h : Q (.bl (decide (x = y))) H) : rEq x y H Q := ⟨e, h⟩
theorem r_ne {x y : V} (e : scal x y = true) (h : Q (.bl (!decide (x = y))) H) : rNe x y H Q := ⟨e, h⟩
theorem r_chain {r r' : R2} {ta tb tc : TE} (h : ta σ H fun x H1 => tb σ H1 fun y H2 => r x y H2 fun z H3 => ∃ k, z = .bl k ∧ (if k = true then tc σ H3 fun w' H4 => r' y w' H4 Q else Q (.bl false) H3)) : tChain r r' ta tb tc σ H Q := h
theorem r_nil {q : List V → Hp → Prop} (h : q [] H) : tNil σ H q := h
theorem r_cons {ta : TE} {tr : TA} {q : List V → Hp → Prop} (h : ta σ H fun x H1 => tr σ H1 fun xs H2 => q (x :: xs) H2) : tCons ta tr σ H q := h
theorem r_cb {r : List V → Hp → VK → Prop} {t : TA} (h : t σ H fun vs H1 => r vs H1 Q) : tCB r t σ H Q := h
theorem r_call {sp : Sp} {E : XK} {t : TA} (h : t σ H fun vs H1 => sp (vs ++ []) H1 Q E) : tCall sp [] E t σ H Q := h
theorem r_lst {t : TA} (h : t σ H fun xs H1 => xs.length ≤ sizeLine ∧ ∀ p, H1 p = none → Q (.ref p) (upd H1 p (.lst xs))) : tLst t σ H Q := h
theorem r_tupE {t : TA} (h : t σ H fun xs H1 => xs.length ≤ sizeLine ∧ ∀ p, H1 p = none → Q (.ref p) (upd H1 p (.tup xs))) : tTup t σ H Q := h
theorem r_ixL {p : Addr} {xs : List V} {i : Int} {v : V} (h : H p = some (.lst xs)) (a : atI xs i = some v) (q : Q v H) : rIxL K (.ref p) (.int i) H Q := ⟨p, xs, i, v, rfl, rfl, SqL.of h, a, q⟩
theorem r_ixT {p : Addr} {xs : List V} {i : Int} {v : V} (h : H p = some (.tup xs)) (a : atI xs i = some v) (q : Q v H) : rIxT K (.ref p) (.int i) H Q := ⟨p, xs, i, v, rfl, rfl, SqT.of h, a, q⟩
theorem r_setL {p : Addr} {xs : List V} {k : Int} {j : Nat} {v : V} {q : Hp → Prop} (h : H p = some (.lst xs)) (a : ixN xs.length k = some j) (hq : q (upd H p (.lst (xs.set j v)))) : rSetL (.ref p) (.int k) v H q := ⟨p, xs, k, j, rfl, rfl, h, a, hq⟩
theorem r_len {a : Addr} {xs : List V} {F : List V → Prop} (h : H a = some (.lst xs)) (q : F xs) : ∃ p ys, [V.ref a] = [V.ref p] ∧ (SqL K H p ys ∨ SqT K H p ys) ∧ F ys := ⟨a, xs, rfl, .inl (SqL.of h), q⟩
theorem r_bm {T : String} {r : V → List V → Hp → VK → Prop} {to : TE} {t : TA} (h : to σ H fun x H1 => tyV K T x H1 ∧ t σ H1 fun xs H2 => r x xs H2 Q) : tBM K T r to t σ H Q := h
theorem r_bm0 {T : String} {r : V → List V → Hp → VK → Prop} {to : TE} (h : to σ H fun x H1 => tyV K T x H1 ∧ r x [] H1 Q) : tBM0 K T r to σ H Q := h
theorem r_ty {p : Addr} {xs : List V} (h : H p = some (.lst xs)) : tyV K "list" (.ref p) H := .inl ⟨rfl, _, SqL.of h⟩
theorem r_append {l : Addr} {xs : List V} {y : V} (h : H l = some (.lst xs)) (z : xs.length < sizeLine) (q : Q .non (upd H l (.lst (xs ++ [y])))) : rAppend (.ref l) [y] H Q := ⟨l, xs, y, rfl, rfl, h, z, q⟩
theorem r_pop {l : Addr} {xs : List V} {y : V} (h : H l = some (.lst xs)) (z : xs[xs.length - 1]? = some y) (q : Q y (upd H l (.lst xs.dropLast))) : rPop (.ref l) [] H Q := ⟨l, xs, y, rfl, rfl, h, z, q⟩
theorem r_iList {tl : TE} {R : It → Hp → Prop} (h : tl σ H fun x H1 => ∃ a, x = .ref a ∧ (∃ xs, SqL K H1 a xs) ∧ R (Itl K a) H1) : iList K tl σ H R := h
theorem r_isL {a : Addr} {xs : List V} {q : Addr → Prop} (h : H a = some (.lst xs)) (hq : q a) : ∃ b, V.ref a = .ref b ∧ (∃ xs, SqL K H b xs) ∧ q b := ⟨a, rfl, ⟨xs, SqL.of h⟩, hq⟩
theorem r_rng1 {ta : TA} {R : It → Hp → Prop} (h : ta σ H fun vs H1 => ∃ j : Int, vs = [.int j] ∧ -(2 ^ 62) ≤ j ∧ j < 2 ^ 62 ∧ R (Itr 0 j.toNat) H1) : iRng1 ta σ H R := h
theorem r_isR {j : Int} {R : It → Hp → Prop} (h1 : -(2 ^ 62) ≤ j) (h2 : j < 2 ^ 62) (hq : R (Itr 0 j.toNat) H) : ∃ k : Int, [V.int j] = [.int k] ∧ -(2 ^ 62) ≤ k ∧ k < 2 ^ 62 ∧ R (Itr 0 k.toNat) H := ⟨j, rfl, h1, h2, hq⟩
theorem r_enum {ta : TA} {R : It → Hp → Prop} (h : ta σ H fun vs H1 => ∃ a xs, vs = [.ref a] ∧ SqL K H1 a xs ∧ R (Ite K a) H1) : iEnum K ta σ H R := h
theorem r_isE {a : Addr} {xs : List V} {q : Addr → Prop} (h : H a = some (.lst xs)) (hq : q a) : ∃ b ys, [V.ref a] = [.ref b] ∧ SqL K H b ys ∧ q b := ⟨a, xs, rfl, SqL.of h, hq⟩
theorem r_abs {j : Int} {F : Int → Prop} (q : F j) : ∃ i, [V.int j] = [V.int i] ∧ F i := ⟨j, rfl, q⟩
theorem r_int {j : Int} {F : Int → Prop} {G : Prop} (q : F j) : (∃ i, [V.int j] = [V.int i] ∧ F i) ∨ G := .inl ⟨j, rfl, q⟩
theorem r_ite {p : Prop} [Decidable p] {A B : Prop} (h1 : p → A) (h2 : ¬p → B) : if decide p = true then A else B := by
  by_cases h : p
  · rw [if_pos (decide_eq_true h)]; exact h1 h
  · rw [if_neg (by rw [decide_eq_false h]; exact Bool.false_ne_true)]; exact h2 h
theorem r_iten {p : Prop} [Decidable p] {A B : Prop} (h1 : ¬p → A) (h2 : p → B) : if (!decide p) = true then A else B := by
  by_cases h : p
  · rw [if_neg (by rw [decide_eq_true h]; exact Bool.false_ne_true)]; exact h2 h
  · rw [if_pos (by rw [decide_eq_false h]; rfl)]; exact h1 h
theorem int_eq {i j : Int} : (V.int i = V.int j) ↔ i = j := ⟨fun h => V.int.inj h, fun h => by rw [h]⟩
theorem small {n : Nat} (h : n ≤ 100000) : n < sizeLine := Nat.lt_of_le_of_lt h (by decide)
end
end Lw
namespace Lw
open PySem PySem.Spec PyProof.Rows L2
theorem rg_set_st {st g : Addr} {R : RS} {B : Hp} {i m c : Int} : upd (rg st g R B) st (.lst [.ref g, .int i, .int m, .int c]) = rg st g ⟨R.ns, i, m, c⟩ B := by
  unfold rg; rw [upd_upd]
theorem rg_set_g {st g : Addr} {R : RS} {B : Hp} {ns : List Int} (k : Ok st g R B) : upd (rg st g R B) g (.lst (ns.map V.int)) = rg st g ⟨ns, R.i, R.m, R.c⟩ B := by
  unfold rg; rw [upd_comm k.ne, upd_upd]
theorem Ok.re {st g : Addr} {R R' : RS} {B : Hp} (k : Ok st g R B) (h : R'.Ok) : Ok st g R' B := ⟨k.ne, h, k.bst, k.bg⟩
theorem Ok.base {st g : Addr} {R : RS} {B C : Hp} (k : Ok st g R B) (h1 : C st = none) (h2 : C g = none) : Ok st g R C := ⟨k.ne, k.ok, h1, h2⟩
theorem at_i {xs : List V} {z : Int} {v : V} (h0 : 0 ≤ z) (h : xs[z.toNat]? = some v) : atI xs z = some v := at_of (j := z.toNat) (by omega) h
theorem ix_i {n : Nat} {z : Int} (h0 : 0 ≤ z) (h : z < n) : ixN n z = some z.toNat := by unfold ixN; rw [if_pos h0, if_pos h]
theorem setMap (l : List Int) (j : Nat) (x : Int) : (l.map V.int).set j (.int x) = (l.set j x).map V.int := by rw [List.map_set]
/-- a draw -/
def spDraw : Sp := fun vs H Q _ => ∃ (st g : Addr) (R : RS) (B : Hp) (many : Int), vs = [.ref st, .int many] ∧ H = rg st g R B ∧ Ok st g R B ∧ 1 ≤ many ∧ many < 1073741824 ∧
  ∀ R' n, RS.Ok R' → 0 ≤ n → n < many → Q (.int n) (rg st g R' B)
def spStart (K : PySem.W.Frag) : Sp := fun vs H Q _ => ∃ (a : Addr) (ns : List Int), vs = [.ref a] ∧ SqL K H a (ns.map V.int) ∧ ns.length ≤ 63 ∧
  ∀ st g R, Ok st g R H → Q (.ref st) (rg st g R H)
theorem r_draw {st g : Addr} {R : RS} {B : Hp} {many : Int} {Q : VK} {E : XK} (k : Ok st g R B) (h1 : 1 ≤ many) (h2 : many < 1073741824) (q : ∀ R' n, Ok st g R' B → 0 ≤ n → n < many → Q (.int n) (rg st g R' B)) :
    spDraw ([.ref st, .int many] ++ []) (rg st g R B) Q E := ⟨st, g, R, B, many, rfl, rfl, k, h1, h2, fun R' n h => q R' n (k.re h)⟩
end Lw
namespace Lw
open PySem PySem.Spec PyProof.Rows L2
theorem cmul_mod {x y m : Int} (h : 0 < m) (h2 : m ≤ 4294967296) : CMul (x.fmod m) y := by
  have a := Int.fmod_nonneg_of_pos x h
  have b := Int.fmod_lt_of_pos x h
  exact .inl ⟨by omega, by omega⟩
end Lw
namespace Lw
open PySem PySem.Spec PyProof.Rows L2
theorem cdivN {i j : Int} (h : 0 < j) (h2 : j < 1073741824) : CDivN i j := ⟨by omega, by omega⟩
end Lw
namespace Lw
open PySem PySem.Spec PyProof.Rows L2
theorem cmulL {i j : Int} (h : -18446744073709551616 < i) (h2 : i < 18446744073709551616) : CMul i j := .inl ⟨h, h2⟩
theorem cmulR {i j : Int} (h : -18446744073709551616 < j) (h2 : j < 18446744073709551616) : CMul i j := .inr ⟨h, h2⟩
theorem cpow {i j : Int} (h : 0 ≤ j) (h2 : j ≤ 1000000) (h3 : -18446744073709551616 < i) (h4 : i < 18446744073709551616) : CPow i j := ⟨h, h2, by
  show i.natAbs < 18446744073709551616
  omega⟩
end Lw
namespace Lw
open PySem PySem.Spec PyProof.Rows L2
section
variable {K : PySem.W.Frag} {σ : L2.St} {H : Hp} {D : Ends} {g : TG} {tb : TS}
/-- for x in a list -/
theorem r_forS {a : Addr} {xs : List V} (hx : SqL K H a xs) (Pv : Nat → L2.St → Hp → Prop) (h0 : Pv 0 σ H) (hl : ∀ i σ H, i ≤ xs.length → Pv i σ H → SqL K H a xs)
    (hs : ∀ i x σ H, xs[i]? = some x → Pv i σ H → g x σ H fun σ2 H2 => tb { D with nx := Pv (i + 1), ct := Pv (i + 1), bk := D.nx } σ2 H2) (hd : ∀ σ H, Pv xs.length σ H → D.nx σ H) :
    ∃ b, V.ref a = .ref b ∧ (∃ xs, SqL K H b xs) ∧ ∃ W : Nat → Nat → L2.St → Hp → Prop, (∃ m, W 0 m σ H) ∧ ∀ i m σ H, W i m σ H →
      ((Itl K b).stop i H ∧ D.nx σ H) ∨ ((Itl K b).go i H ∧ ∃ N : L2.St → Hp → Prop, (∀ σ' H', N σ' H' → ∃ m', m' < m ∧ W (i + 1) m' σ' H') ∧ ∀ x H', (Itl K b).yld i H x H' → g x σ H' fun σ2 H2 => tb { D with nx := N, ct := N, bk := D.nx } σ2 H2) :=
  ⟨a, rfl, ⟨xs, hx⟩, for_list Pv h0 hl hs hd⟩
theorem r_forL {a : Addr} {xs : List V} (hx : H a = some (.lst xs)) (Pv : Nat → L2.St → Hp → Prop) (h0 : Pv 0 σ H) (hl : ∀ i σ H, i ≤ xs.length → Pv i σ H → H a = some (.lst xs))
    (hs : ∀ i x σ H, xs[i]? = some x → Pv i σ H → g x σ H fun σ2 H2 => tb { D with nx := Pv (i + 1), ct := Pv (i + 1), bk := D.nx } σ2 H2) (hd : ∀ σ H, Pv xs.length σ H → D.nx σ H) :
    ∃ b, V.ref a = .ref b ∧ (∃ xs, SqL K H b xs) ∧ ∃ W : Nat → Nat → L2.St → Hp → Prop, (∃ m, W 0 m σ H) ∧ ∀ i m σ H, W i m σ H →
      ((Itl K b).stop i H ∧ D.nx σ H) ∨ ((Itl K b).go i H ∧ ∃ N : L2.St → Hp → Prop, (∀ σ' H', N σ' H' → ∃ m', m' < m ∧ W (i + 1) m' σ' H') ∧ ∀ x H', (Itl K b).yld i H x H' → g x σ H' fun σ2 H2 => tb { D with nx := N, ct := N, bk := D.nx } σ2 H2) :=
  r_forS (SqL.of hx) Pv h0 (fun i σ H h1 h2 => SqL.of (hl i σ H h1 h2)) hs hd
/-- for k in range(n) -/
theorem r_forR {n : Int} (h1 : -4611686018427387904 ≤ n) (h2 : n < 4611686018427387904) (Pv : Nat → L2.St → Hp → Prop) (h0 : Pv 0 σ H)
    (hs : ∀ i σ H, i < n.toNat → Pv i σ H → g (.int i) σ H fun σ2 H2 => tb { D with nx := Pv (i + 1), ct := Pv (i + 1), bk := D.nx } σ2 H2) (hd : ∀ σ H, Pv n.toNat σ H → D.nx σ H) :
    ∃ j : Int, [V.int n] = [.int j] ∧ -(2 ^ 62) ≤ j ∧ j < 2 ^ 62 ∧ ∃ W : Nat → Nat → L2.St → Hp → Prop, (∃ m, W 0 m σ H) ∧ ∀ i m σ H, W i m σ H →
      ((Itr 0 j.toNat).stop i H ∧ D.nx σ H) ∨ ((Itr 0 j.toNat).go i H ∧ ∃ N : L2.St → Hp → Prop, (∀ σ' H', N σ' H' → ∃ m', m' < m ∧ W (i + 1) m' σ' H') ∧ ∀ x H', (Itr 0 j.toNat).yld i H x H' → g x σ H' fun σ2 H2 => tb { D with nx := N, ct := N, bk := D.nx } σ2 H2) :=
  ⟨n, rfl, h1, h2, for_range Pv h0 (fun i σ H hi hp => by rw [Int.zero_add]; exact hs i σ H hi hp) hd⟩
end
theorem size_nil : ([] : List V).length ≤ sizeLine := Nat.zero_le _
theorem size_le {xs : List V} {n : Nat} (e : xs.length = n) (h : n ≤ 1000) : xs.length ≤ sizeLine := by rw [e]; exact Nat.le_of_lt (small (by omega))
end Lw
namespace Lw
open PySem PySem.Spec PyProof.Rows L2
/-! ### what lies above the growing heap -/
structure TopOk {S : Type} (F : S → Hp → Hp) (ok : S → Hp → Prop) : Prop where
  new : ∀ s C p, ok s C → F s C p = none → C p = none ∧ ∀ o, upd (F s C) p o = F s (upd C p o) ∧ ok s (upd C p o)
  write : ∀ s C b o o', ok s C → C b = some o' → upd (F s C) b o = F s (upd C b o) ∧ ok s (upd C b o)
  get : ∀ s C a o, ok s C → C a = some o → F s C a = some o
theorem topRg (st g : Addr) : TopOk (rg st g) (Ok st g) where
  new := fun R C p k h => by
    obtain ⟨h1, h2, h3⟩ := rg_none h
    exact ⟨h3, fun o => ⟨rg_upd h1 h2, k.upd h1 h2⟩⟩
  write := fun R C b o o' k h => rg_write k h
  get := fun R C a o k h => rg_get k h
theorem topH : TopOk (fun (_ : Unit) (C : Hp) => C) (fun _ _ => True) where
  new := fun _ C p _ h => ⟨h, fun o => ⟨rfl, trivial⟩⟩
  write := fun _ C b o o' _ h => ⟨rfl, trivial⟩
  get := fun _ C a o _ h => h
section
variable {S : Type} {F : S → Hp → Hp} {ok : S → Hp → Prop} (T : TopOk F ok)
include T
theorem newT {s : S} {C : Hp} {o : HO} {Q : Addr → Hp → Prop} (k : ok s C) (h : ∀ p, C p = none → ok s (upd C p o) → Q p (F s (upd C p o))) : ∀ p, F s C p = none → Q p (upd (F s C) p o) := fun p hp => by
  obtain ⟨h1, h2⟩ := T.new s C p k hp
  rw [(h2 o).1]
  exact h p h1 (h2 o).2
/-- a new object below a list that is under way -/
theorem newTD {s : S} {C : Hp} {D : Addr} {x o : HO} {Q : Addr → Hp → Prop} (k : ok s (upd C D x)) (hD : C D = none)
    (h : ∀ p, C p = none → p ≠ D → ok s (upd (upd C p o) D x) → (upd C p o) D = none → Q p (F s (upd (upd C p o) D x))) : ∀ p, F s (upd C D x) p = none → Q p (upd (F s (upd C D x)) p o) := fun p hp => by
  obtain ⟨h1, h2⟩ := T.new s (upd C D x) p k hp
  obtain ⟨h3, h4⟩ := upd_none h1
  have e := h2 o
  rw [upd_comm h3.symm] at e
  rw [e.1]
  exact h p h4 h3 e.2 (by rw [upd_ne h3.symm]; exact hD)
/-- what a turn of a comprehension is to reach -/
def LcN (F : S → Hp → Hp) (ok : S → Hp → Prop) (B : Hp) (D : Addr) (Pv : Hp → List V → Prop) : Hp → Prop := fun H' => ∃ s C acc, H' = F s (upd C D (.lst acc)) ∧ ok s (upd C D (.lst acc)) ∧ C D = none ∧ Same B C ∧ Pv C acc
omit T in
theorem lcN_skip {s : S} {B C : Hp} {D : Addr} {acc : List V} {Pv : Hp → List V → Prop} (k : ok s (upd C D (.lst acc))) (hD : C D = none) (hS : Same B C) (h : Pv C acc) : LcN F ok B D Pv (F s (upd C D (.lst acc))) := ⟨s, C, acc, rfl, k, hD, hS, h⟩
theorem lcN_put {s : S} {B C : Hp} {D : Addr} {acc : List V} {y : V} {Pv : Hp → List V → Prop} (k : ok s (upd C D (.lst acc))) (hD : C D = none) (hS : Same B C) (hz : acc.length ≤ 100000) (h : Pv C (acc ++ [y])) :
    ∃ acc', (F s (upd C D (.lst acc))) D = some (.lst acc') ∧ acc'.length < sizeLine ∧ LcN F ok B D Pv (upd (F s (upd C D (.lst acc))) D (.lst (acc' ++ [y]))) := by
  obtain ⟨e1, e2⟩ := T.write s _ D (.lst (acc ++ [y])) (.lst acc) k upd_same
  rw [upd_upd] at e1 e2
  exact ⟨acc, T.get _ _ _ _ k upd_same, small hz, s, C, acc ++ [y], e1, e2, hD, hS, h⟩
variable {σ : L2.St} {g : TG} {tt : TT} {te : TE} {vs : List Nat} {Q : Addr → Hp → Prop}
theorem lcT_range {s0 : S} {B : Hp} (k : ok s0 B) {n : Int} (h1 : -4611686018427387904 ≤ n) (h2 : n < 4611686018427387904) (Pv : Nat → Hp → List V → Prop) (h0 : Pv 0 B [])
    (hs : ∀ D i s C acc, ok s (upd C D (.lst acc)) → C D = none → Same B C → i < n.toNat → Pv i C acc → g (.int i) (wipe σ vs) (F s (upd C D (.lst acc))) fun σ2 H2 => wipe σ2 vs = wipe σ vs ∧ tt σ2 H2 fun b H3 =>
      if b = true then te σ2 H3 fun y H4 => ∃ acc', H4 D = some (.lst acc') ∧ acc'.length < sizeLine ∧ LcN F ok B D (Pv (i + 1)) (upd H4 D (.lst (acc' ++ [y]))) else LcN F ok B D (Pv (i + 1)) H3)
    (hd : ∀ D s C acc, ok s (upd C D (.lst acc)) → B D = none → C D = none → Same B C → Pv n.toNat C acc → Q D (F s (upd C D (.lst acc)))) :
    ∃ j : Int, [V.int n] = [.int j] ∧ -(2 ^ 62) ≤ j ∧ j < 2 ^ 62 ∧ ∀ D, (F s0 B) D = none → ∃ W : Nat → Nat → Hp → Prop, (∃ m, W 0 m (upd (F s0 B) D (.lst []))) ∧ ∀ i m H, W i m H →
      ((Itr 0 j.toNat).stop i H ∧ Q D H) ∨ ((Itr 0 j.toNat).go i H ∧ ∃ Nx : Hp → Prop, (∀ H', Nx H' → ∃ m', m' < m ∧ W (i + 1) m' H') ∧ ∀ x H', (Itr 0 j.toNat).yld i H x H' → g x (wipe σ vs) H' fun σ2 H2 => wipe σ2 vs = wipe σ vs ∧ tt σ2 H2 fun b H3 =>
        if b = true then te σ2 H3 fun y H4 => ∃ acc, H4 D = some (.lst acc) ∧ acc.length < sizeLine ∧ Nx (upd H4 D (.lst (acc ++ [y]))) else Nx H3) := by
  refine ⟨n, rfl, h1, h2, fun D hD => ?_⟩
  obtain ⟨hB, hn⟩ := T.new s0 B D k hD
  refine lc_range (fun i H => LcN F ok B D (Pv i) H) ?_ ?_ ?_
  · rw [(hn _).1]
    exact ⟨s0, B, [], rfl, (hn _).2, hB, Same.refl B, h0⟩
  · rintro i H hi ⟨s, C, acc, rfl, k', hD', hS, hp⟩
    rw [Int.zero_add]
    exact hs D i s C acc k' hD' hS hi hp
  · rintro H ⟨s, C, acc, rfl, k', hD', hS, hp⟩
    exact hd D s C acc k' hB hD' hS hp
theorem lcT_list {K : PySem.W.Frag} {s0 : S} {B : Hp} (k : ok s0 B) {a : Addr} {xs : List V} (ha : B a = some (.lst xs)) (Pv : Nat → Hp → List V → Prop) (h0 : Pv 0 B [])
    (hs : ∀ D i x s C acc, ok s (upd C D (.lst acc)) → C D = none → Same B C → xs[i]? = some x → Pv i C acc → g x (wipe σ vs) (F s (upd C D (.lst acc))) fun σ2 H2 => wipe σ2 vs = wipe σ vs ∧ tt σ2 H2 fun b H3 =>
      if b = true then te σ2 H3 fun y H4 => ∃ acc', H4 D = some (.lst acc') ∧ acc'.length < sizeLine ∧ LcN F ok B D (Pv (i + 1)) (upd H4 D (.lst (acc' ++ [y]))) else LcN F ok B D (Pv (i + 1)) H3)
    (hd : ∀ D s C acc, ok s (upd C D (.lst acc)) → B D = none → C D = none → Same B C → Pv xs.length C acc → Q D (F s (upd C D (.lst acc)))) :
    ∃ b, V.ref a = .ref b ∧ (∃ xs, SqL K (F s0 B) b xs) ∧ ∀ D, (F s0 B) D = none → ∃ W : Nat → Nat → Hp → Prop, (∃ m, W 0 m (upd (F s0 B) D (.lst []))) ∧ ∀ i m H, W i m H →
      ((Itl K b).stop i H ∧ Q D H) ∨ ((Itl K b).go i H ∧ ∃ Nx : Hp → Prop, (∀ H', Nx H' → ∃ m', m' < m ∧ W (i + 1) m' H') ∧ ∀ x H', (Itl K b).yld i H x H' → g x (wipe σ vs) H' fun σ2 H2 => wipe σ2 vs = wipe σ vs ∧ tt σ2 H2 fun b H3 =>
        if b = true then te σ2 H3 fun y H4 => ∃ acc, H4 D = some (.lst acc) ∧ acc.length < sizeLine ∧ Nx (upd H4 D (.lst (acc ++ [y]))) else Nx H3) := by
  refine ⟨a, rfl, ⟨xs, SqL.of (T.get _ _ _ _ k ha)⟩, fun D hD => ?_⟩
  obtain ⟨hB, hn⟩ := T.new s0 B D k hD
  refine lc_list (xs := xs) (fun i H => LcN F ok B D (Pv i) H) ?_ ?_ ?_ ?_
  · rw [(hn _).1]
    exact ⟨s0, B, [], rfl, (hn _).2, hB, Same.refl B, h0⟩
  · rintro i H _ ⟨s, C, acc, rfl, k', hD', hS, hp⟩
    exact SqL.of (T.get _ _ _ _ k' (upd_old hD' (hS _ _ ha)))
  · rintro i x H hx ⟨s, C, acc, rfl, k', hD', hS, hp⟩
    exact hs D i x s C acc k' hD' hS hx hp
  · rintro H ⟨s, C, acc, rfl, k', hD', hS, hp⟩
    exact hd D s C acc k' hB hD' hS hp
end
section
variable {σ : L2.St} {H : Hp} {Q : VK}
theorem r_lc {wi : TI} {g : TG} {tt : TT} {te : TE} {vs : List Nat} (h : wi σ H fun J H1 => ∀ D, H1 D = none → ∃ W : Nat → Nat → Hp → Prop, (∃ m, W 0 m (upd H1 D (.lst []))) ∧ ∀ i m H, W i m H →
  (J.stop i H ∧ Q (.ref D) H) ∨ (J.go i H ∧ ∃ Nx : Hp → Prop, (∀ H', Nx H' → ∃ m', m' < m ∧ W (i + 1) m' H') ∧ ∀ x H', J.yld i H x H' → g x (wipe σ vs) H' fun σ2 H2 => wipe σ2 vs = wipe σ vs ∧ tt σ2 H2 fun b H3 =>
    if b = true then te σ2 H3 fun y H4 => ∃ acc, H4 D = some (.lst acc) ∧ acc.length < sizeLine ∧ Nx (upd H4 D (.lst (acc ++ [y]))) else Nx H3)) : tLc wi g tt te vs σ H Q := h
theorem r_yes {q : Bool → Hp → Prop} (h : q true H) : tYes σ H q := h
end
/-! ### rows of ints -/
def Rw (C : Hp) (as : List Addr) (rs : List (List Int)) : Prop := as.length = rs.length ∧ ∀ (i : Nat) (b : Addr), as[i]? = some b → ∃ r, rs[i]? = some r ∧ C b = some (.lst (r.map V.int))
theorem Rw.nil {C : Hp} : Rw C [] [] := ⟨rfl, fun i b h => by simp at h⟩
theorem Rw.mono {C C' : Hp} {as : List Addr} {rs : List (List Int)} (h : Rw C as rs) (s : Same C C') : Rw C' as rs :=
  ⟨h.1, fun i b e => by obtain ⟨r, h1, h2⟩ := h.2 i b e; exact ⟨r, h1, s _ _ h2⟩⟩
theorem Rw.push {C : Hp} {as : List Addr} {rs : List (List Int)} {b : Addr} {r : List Int} (h : Rw C as rs) (e : C b = some (.lst (r.map V.int))) : Rw C (as ++ [b]) (rs ++ [r]) := by
  refine ⟨by rw [List.length_append, List.length_append, h.1]; rfl, fun i c hc => ?_⟩
  by_cases hi : i < as.length
  · rw [List.getElem?_append_left hi] at hc
    obtain ⟨r', h1, h2⟩ := h.2 i c hc
    exact ⟨r', by rw [List.getElem?_append_left (by rw [← h.1]; exact hi)]; exact h1, h2⟩
  · have h3 := (List.getElem?_eq_some_iff.mp hc).1
    rw [List.length_append, List.length_singleton] at h3
    have e2 : i = as.length := by omega
    rw [e2, List.getElem?_append_right (Nat.le_refl _), Nat.sub_self] at hc
    have e3 : b = c := Option.some.inj hc
    refine ⟨r, ?_, e3 ▸ e⟩
    rw [e2, h.1, List.getElem?_append_right (Nat.le_refl _), Nat.sub_self]; rfl
theorem Rw.set {C : Hp} {as : List Addr} {rs : List (List Int)} {b : Addr} {r : List Int} (h : Rw C as rs) (j : Nat) (e : C b = some (.lst (r.map V.int))) : Rw C (as.set j b) (rs.set j r) := by
  refine ⟨by rw [List.length_set, List.length_set, h.1], fun i c hc => ?_⟩
  rw [List.getElem?_set] at hc
  split at hc
  · rename_i hj
    split at hc
    · rename_i hl
      refine ⟨r, ?_, (Option.some.inj hc) ▸ e⟩
      rw [List.getElem?_set, if_pos hj, if_pos (by rw [← h.1]; exact hl)]
    · cases hc
  · rename_i hj
    obtain ⟨r', h1, h2⟩ := h.2 i c hc
    exact ⟨r', by rw [List.getElem?_set, if_neg hj]; exact h1, h2⟩
/-- a row of places below n, at most L of them, each once -/
def Gd (n : Int) (L : Nat) (r : List Int) : Prop := r.length ≤ L ∧ r.Nodup ∧ ∀ e ∈ r, 0 ≤ e ∧ e < n
def Wf (n L : Nat) (rs : List (List Int)) : Prop := rs.length = n ∧ ∀ r ∈ rs, Gd (n : Int) L r
end Lw
namespace Lw
open PySem PySem.Spec PyProof.Rows L2
/-- a list that was made (y at D2) below one that is under way (x at D1) -/
theorem under {C1 C2 : Hp} {D1 D2 : Addr} {x y : HO} (h1 : C1 D1 = none) (h2 : (upd C1 D1 x) D2 = none) (hS : Same (upd C1 D1 x) C2) :
    ∃ C3, upd C2 D2 y = upd C3 D1 x ∧ C3 D1 = none ∧ Same C1 C3 ∧ C3 D2 = some y ∧ C1 D2 = none ∧ D2 ≠ D1 := by
  obtain ⟨n1, n2⟩ := upd_none h2
  obtain ⟨C3, e, e1, e2⟩ := lay_same h1 hS
  refine ⟨upd C3 D2 y, ?_, by rw [upd_ne n1.symm]; exact e1, fun b o hb => ?_, upd_same, n2, n1⟩
  · rw [e, upd_comm n1.symm]
  · rw [upd_ne (ne_of_none hb n2)]; exact e2 _ _ hb
theorem ints_push (r : List Int) (z : Int) : r.map V.int ++ [.int z] = (r ++ [z]).map V.int := by rw [List.map_append]; rfl
theorem refs_push (r : List Addr) (z : Addr) : r.map V.ref ++ [.ref z] = (r ++ [z]).map V.ref := by rw [List.map_append]; rfl
theorem wf_push {n : Int} {L : Nat} {rs : List (List Int)} {r : List Int} (h : ∀ r ∈ rs, Gd n L r) (h1 : Gd n L r) : ∀ r' ∈ rs ++ [r], Gd n L r' := fun r' hr => by
  rcases List.mem_append.mp hr with e | e
  · exact h r' e
  · rw [List.mem_singleton.mp e]; exact h1
/-- a row that is grown by something greater -/
def Up (n : Int) (j : Nat) (r : List Int) : Prop := r.length ≤ j ∧ r.Nodup ∧ (∀ e ∈ r, 0 ≤ e ∧ e < n) ∧ ∀ e ∈ r, e < (j : Int)
theorem Up.nil {n : Int} : Up n 0 [] := ⟨Nat.le_refl _, List.nodup_nil, (fun e he => nomatch he), (fun e he => nomatch he)⟩
theorem Up.skip {n : Int} {j : Nat} {r : List Int} (h : Up n j r) : Up n (j + 1) r := ⟨by have := h.1; omega, h.2.1, h.2.2.1, fun e he => by have := h.2.2.2 e he; omega⟩
theorem nodup_push {α : Type} {r : List α} {z : α} (h : r.Nodup) (hz : z ∉ r) : (r ++ [z]).Nodup := by
  rw [List.nodup_append]
  exact ⟨h, by simp, fun a ha b hb e => hz (by rw [← List.mem_singleton.mp hb, ← e]; exact ha)⟩
theorem Up.push {n : Int} {j : Nat} {r : List Int} (h : Up n j r) (hj : (j : Int) < n) : Up n (j + 1) (r ++ [(j : Int)]) := by
  refine ⟨by rw [List.length_append, List.length_singleton]; have := h.1; omega, nodup_push h.2.1 fun hm => ?_, fun e he => ?_, fun e he => ?_⟩
  · have := h.2.2.2 _ hm; omega
  · rcases List.mem_append.mp he with q | q
    · exact h.2.2.1 e q
    · rw [List.mem_singleton.mp q]; omega
  · rcases List.mem_append.mp he with q | q
    · have := h.2.2.2 e q; omega
    · rw [List.mem_singleton.mp q]; omega
theorem Up.gd {n : Int} {j L : Nat} {r : List Int} (h : Up n j r) (hj : j ≤ L) : Gd n L r := ⟨by have := h.1; omega, h.2.1, h.2.2.1⟩
theorem Gd.weak {n : Int} {L L' : Nat} {r : List Int} (h : Gd n L r) (hl : L ≤ L') : Gd n L' r := ⟨Nat.le_trans h.1 hl, h.2⟩
theorem all_push {P : Int → Prop} {r : List Int} {z : Int} (h : ∀ e ∈ r, P e) (hz : P z) : ∀ e ∈ r ++ [z], P e := fun e he => by
  rcases List.mem_append.mp he with q | q
  · exact h e q
  · rw [List.mem_singleton.mp q]; exact hz
end Lw
namespace Lw
open PySem PySem.Spec PyProof.Rows L2
section
variable {S : Type} {F : S → Hp → Hp} {ok : S → Hp → Prop} (T : TopOk F ok)
include T
theorem newT_eq {s : S} {C : Hp} {p : Addr} (k : ok s C) (hp : F s C p = none) (o : HO) : upd (F s C) p o = F s (upd C p o) ∧ ok s (upd C p o) ∧ C p = none := by
  obtain ⟨h1, h2⟩ := T.new s C p k hp
  exact ⟨(h2 o).1, (h2 o).2, h1⟩
theorem newTD_eq {s : S} {C : Hp} {D p : Addr} {x : HO} (k : ok s (upd C D x)) (hD : C D = none) (hp : F s (upd C D x) p = none) (o : HO) :
    upd (F s (upd C D x)) p o = F s (upd (upd C p o) D x) ∧ ok s (upd (upd C p o) D x) ∧ (upd C p o) D = none ∧ C p = none ∧ p ≠ D := by
  obtain ⟨h1, h2⟩ := T.new s (upd C D x) p k hp
  obtain ⟨h3, h4⟩ := upd_none h1
  have e := h2 o
  rw [upd_comm h3.symm] at e
  exact ⟨e.1, e.2, by rw [upd_ne h3.symm]; exact hD, h4, h3⟩
theorem setTD_eq {s : S} {C : Hp} {D : Addr} {x : HO} (k : ok s (upd C D x)) (y : HO) : upd (F s (upd C D x)) D y = F s (upd C D y) ∧ ok s (upd C D y) := by
  have e := T.write s _ D y x k upd_same
  rw [upd_upd] at e
  exact e
end
theorem refsSet (l : List Addr) (j : Nat) (x : Addr) : (l.map V.ref).set j (.ref x) = (l.set j x).map V.ref := by rw [List.map_set]
theorem refsRev (l : List Addr) : (l.map V.ref).reverse = l.reverse.map V.ref := by rw [List.map_reverse]
theorem Rw.rev {C : Hp} {as : List Addr} {rs : List (List Int)} (h : Rw C as rs) : Rw C as.reverse rs.reverse := by
  refine ⟨by rw [List.length_reverse, List.length_reverse, h.1], fun i b e => ?_⟩
  have hi := (List.getElem?_eq_some_iff.mp e).1
  rw [List.length_reverse] at hi
  rw [List.getElem?_reverse hi] at e
  obtain ⟨r, h1, h2⟩ := h.2 _ b e
  exact ⟨r, by rw [List.getElem?_reverse (by rw [← h.1]; exact hi), ← h.1]; exact h1, h2⟩
theorem Rw.at {C : Hp} {as : List Addr} {rs : List (List Int)} {i : Nat} {x : V} (h : Rw C as rs) (e : (as.map V.ref)[i]? = some x) : ∃ b r, x = .ref b ∧ as[i]? = some b ∧ rs[i]? = some r ∧ C b = some (.lst (r.map V.int)) := by
  rw [List.getElem?_map] at e
  cases q : as[i]? with
  | none => rw [q] at e; cases e
  | some b =>
    rw [q] at e
    obtain ⟨r, h1, h2⟩ := h.2 i b q
    exact ⟨b, r, (Option.some.inj e).symm, rfl, h1, h2⟩
theorem ints_at {r : List Int} {i : Nat} {x : V} (e : (r.map V.int)[i]? = some x) : ∃ z, x = .int z ∧ r[i]? = some z := by
  rw [List.getElem?_map] at e
  cases q : r[i]? with
  | none => rw [q] at e; cases e
  | some z => rw [q] at e; exact ⟨z, (Option.some.inj e).symm, rfl⟩
theorem r_revL {K : PySem.W.Frag} {σ : L2.St} {H : Hp} {Q : VK} {te : TE} (h : te σ H fun x H1 => ∃ a xs, x = .ref a ∧ SqL K H1 a xs ∧ ∀ p, H1 p = none → Q (.ref p) (upd H1 p (.lst xs.reverse))) : tRevL K te σ H Q := h
theorem r_isrev {K : PySem.W.Frag} {H : Hp} {a : Addr} {xs : List V} {q : List V → Prop} (h : H a = some (.lst xs)) (hq : q xs) : ∃ b ys, V.ref a = .ref b ∧ SqL K H b ys ∧ q ys := ⟨a, xs, rfl, SqL.of h, hq⟩
end Lw
namespace Lw
open PySem PySem.Spec PyProof.Rows L2
/-! ### the rules with the written part named (so that they stand within a comprehension's block) -/
section
variable {X : Cx} {K : PySem.W.Frag} {tg : Expr}
theorem pi_listK (h : X.K = K) {l : Expr} {tl : TE} (hl : PE X l tl) : PI X tg l (iList K tl) := by subst h; exact pi_list hl
theorem pi_tupK (h : X.K = K) {l : Expr} {tl : TE} (hl : PE X l tl) : PI X tg l (iTup K tl) := by subst h; exact pi_tup hl
theorem pi_enumK (h : X.K = K) {e : Expr} {ta : TA} {p pos tpos : Pos} {elts : List Expr} {kk : Nat} (hg : Gl X "enumerate") (hm : X.mg "enumerate" = none) (ha : PA X [e] ta) (hs : starEach [e] X.env = [(false, eval e X.env)] := by rfl) :
    PI X (.Tuple elts kk tpos) (.Call (.Name "enumerate" p) [e] [] pos) (iEnum K ta) := by subst h; exact pi_enum hg hm ha hs
theorem pi_zipK (h : X.K = K) {e e2 : Expr} {ta : TA} {p pos tpos : Pos} {elts : List Expr} {kk : Nat} (hg : Gl X "zip") (hm : X.mg "zip" = none) (ha : PA X [e, e2] ta)
    (hs : starEach [e, e2] X.env = (false, eval e X.env) :: starEach [e2] X.env := by rfl) (hpl : (backTo pos (starEach [e2] X.env)).any (·.1) = false := by rfl) :
    PI X (.Tuple elts kk tpos) (.Call (.Name "zip" p) [e, e2] [] pos) (iZip K ta) := by subst h; exact pi_zip hg hm ha hs hpl
theorem pi_reversedK (h : X.K = K) {e : Expr} {ta : TA} {p pos : Pos} (hg : Gl X "reversed") (hm : X.mg "reversed" = none) (ha : PA X [e] ta) (hs : starEach [e] X.env = [(false, eval e X.env)] := by rfl) : PI X tg (.Call (.Name "reversed" p) [e] [] pos) (iRev K ta) := by subst h; exact pi_reversed hg hm ha hs
theorem ix_listK (h : X.K = K) : IxR X (rIxL K) := by subst h; exact ix_list
theorem ix_tupK (h : X.K = K) : IxR X (rIxT K) := by subst h; exact ix_tup
theorem sl_listK (h : X.K = K) : SlR X (rSlL K) := by subst h; exact sl_list
theorem sl_tupK (h : X.K = K) : SlR X (rSlT K) := by subst h; exact sl_tup
theorem op_in_seqK (h : X.K = K) : OpR X (compareOp .In) (rIn K false) := by subst h; exact op_in_seq
theorem op_notIn_seqK (h : X.K = K) : OpR X (compareOp .NotIn) (rIn K true) := by subst h; exact op_notIn_seq
theorem op_eqDK (h : X.K = K) (hu : X.A.units + 64 < cLine) : OpR X (compareOp .Eq) (rEqD K) := by subst h; exact op_eqD hu
theorem op_neDK (h : X.K = K) (hu : X.A.units + 64 < cLine) : OpR X (compareOp .NotEq) (rNeD K) := by subst h; exact op_neD hu
theorem op_catTK (h : X.K = K) : OpR X (binaryOp .Add) (rCatT K) := by subst h; exact op_catT
def rLen (K : PySem.W.Frag) : List V → Hp → VK → Prop := fun xs H Q => ∃ p ys, xs = [V.ref p] ∧ (SqL K H p ys ∨ SqT K H p ys) ∧ Q (.int ys.length) H
theorem call_len_seqK (h : X.K = K) : CallR X (.builtin "len") (rLen K) := by subst h; exact call_len_seq
def rListOf (K : PySem.W.Frag) : List V → Hp → VK → Prop := fun xs H Q => ∃ p ys, xs = [V.ref p] ∧ (SqL K H p ys ∨ SqT K H p ys) ∧ ∀ l, H l = none → Q (.ref l) (upd H l (.lst ys))
theorem call_list_ofK (h : X.K = K) : CallR X (.type "list") (rListOf K) := by subst h; exact call_list_of
theorem cr_sumK (h : X.K = K) (hc : X.calm = true) : CallR X (.builtin "sum") (rSum K) := by subst h; exact cr_sum hc
theorem cr_maxK (h : X.K = K) (hc : X.calm = true) : CallR X (.builtin "max") (rMax K) := by subst h; exact cr_max hc
theorem cr_minK (h : X.K = K) (hc : X.calm = true) : CallR X (.builtin "min") (rMin K) := by subst h; exact cr_min hc
theorem cr_sortedK (h : X.K = K) : CallR X (.builtin "sorted") (rSortedI K) := by subst h; exact cr_sortedI
theorem cr_sortedSK (h : X.K = K) : CallR X (.builtin "sorted") (rSortedS K) := by subst h; exact cr_sortedS
theorem cr_anyK (h : X.K = K) (hc : X.calm = true) : CallR X (.builtin "any") (rAny K) := by subst h; exact cr_any hc
theorem cr_allK (h : X.K = K) (hc : X.calm = true) : CallR X (.builtin "all") (rAll K) := by subst h; exact cr_all hc
theorem call_isiK' (h : X.K = K) : CallR X (.builtin "isinstance") (rIsi K) := by subst h; exact call_isi
theorem mt_indexK (h : X.K = K) : MtR X "list.index" (rIndex K) := by subst h; exact mt_index
def rInsert : V → List V → Hp → VK → Prop := fun x vs H Q => ∃ (l : Addr) (xs : List V) (i : Int) (y : V), x = .ref l ∧ vs = [.int i, y] ∧ H l = some (.lst xs) ∧ xs.length < sizeLine ∧ 0 ≤ i ∧ i < 2 ^ 63 ∧
    Q .non (upd H l (.lst (xs.take i.toNat ++ [y] ++ xs.drop i.toNat)))
theorem mt_insert' : MtR X "list.insert" rInsert := mt_insert
theorem pg_tupK (h : X.K = K) {pos : Pos} {es : List Expr} {k : Nat} {t : TGs} {n : Nat} (hc : X.calm = true) (hp : PGs X es t)
    (hn : (assignEach es X.env).length = n := by rfl) (hst : (assignEach es X.env).findIdx? (·.1) = none := by rfl) : PG X (.Tuple es k pos) (gTup K n t) := by subst h; exact pg_tup hc hp hn hst
theorem pe_revLK (h : X.K = K) {e : Expr} {te : TE} {k : Nat} {p1 p2 p3 pos : Pos} (he : PE X e te) : PE X (.Subscript e (.Slice none none (some (.UnaryOp .USub (.Constant (.int 1) k p1) p2)) p3) pos) (tRevL K te) := by subst h; exact pe_revL he
theorem pt_truthK (h : X.K = K) {a : Expr} {ta : TE} (ha : PE X a ta) (he : ∀ whole, isTrue a X.env whole = (do let v ← whole; standAt a.pos; holding [v] (truthy v))) :
    PT X a (fun σ H Q => ta σ H fun x H1 => ∃ k, TruV K x H1 k ∧ Q k H1) := by subst h; exact pt_truth ha he
/-- xs[i] read for xs[i] op= e -/
theorem get_listK (h : X.K = K) : PGet X (rIxL K) := by
  subst h
  intro pins s σ H o i ov iv Q I rx ry h
  obtain ⟨p, xs, i, z, rfl, rfl, hq, he, q⟩ := h
  cases rx
  obtain ⟨t, rfl⟩ := ry
  obtain ⟨its, r, pl, hz⟩ := I.list hq
  obtain ⟨j, h1, h2, h3, h4, h5⟩ := atI_get he
  obtain ⟨w, ew, rw'⟩ := r.get h2
  have hl := r.length
  have hn := line63
  have fin : EP X pins σ Q w s := ⟨z, H, I, rw', q⟩
  by_cases h0 : 0 ≤ i
  · have hj : i.toNat = j := by
      rw [seqIndex_of h0 h5] at h1
      exact Option.some.inj h1
    exact wpAny_getItem_list pl.isList h0 (by omega) (by rw [hj]; simpa using ew) fin
  · have hj : (i + (its.toArray.size : Int)).toNat = j := by
      rw [seqIndex_neg (by omega) h4] at h1
      rw [List.size_toArray, ← hl]
      exact Option.some.inj h1
    exact wpAny_getItem_list_neg pl.isList (by omega) (by rw [List.size_toArray] <;> omega) (by omega) (by rw [hj]; simpa using ew) fin
theorem pe_bm0K (h : X.K = K) {o : Expr} {to : TE} {name : Str} {apos cpos : Pos} {T id : String} {r : V → List V → Hp → VK → Prop} (pa : PlainAttrs T) (slot : Slot T name id) (hty : typeOf (.builtin id) = pure (.type "method_descriptor")) (hm : MtR X id r) (ho : PE X o to)
    (hbase : attributeBase o name X.env (eval o X.env) = eval o X.env := by rfl) (hline : (apos.endLine == cpos.line) = true := by rfl) : PE X (.Call (.Attribute o name apos) [] [] cpos) (tBM0 K T r to) := by subst h; exact pe_bm0 pa slot hty hm ho hbase hline
theorem pe_bmK (h : X.K = K) {o e : Expr} {es : List Expr} {to : TE} {t : TA} {name : Str} {apos cpos : Pos} {T id : String} {r : V → List V → Hp → VK → Prop} (pa : PlainAttrs T) (slot : Slot T name id) (hty : typeOf (.builtin id) = pure (.type "method_descriptor")) (hm : MtR X id r) (ho : PE X o to) (ha : PA X (e :: es) t)
    (hbase : attributeBase o name X.env (eval o X.env) = eval o X.env := by rfl)
    (hfew : ((backTo cpos (starEach (e :: es) X.env)).all (fun x => !x.1) && (backToKw cpos (keywordEach [] X.env)).all (fun x => x.1.isSome)
      && decide ((e :: es).length + ([] : List Keyword).length + (if ([] : List Keyword).isEmpty then 0 else 1) < 30)) = true := by rfl)
    (hline : (apos.endLine == cpos.line) = true := by rfl) (hs : starEach (e :: es) X.env = (false, eval e X.env) :: starEach es X.env := by rfl) (hplain : (backTo cpos (starEach es X.env)).any (·.1) = false := by rfl) :
    PE X (.Call (.Attribute o name apos) (e :: es) [] cpos) (tBM K T r to t) := by subst h; exact pe_bm pa slot hty hm ho ha hbase hfew hline hs hplain
end
section
variable {K : PySem.W.Frag} {H : Hp} {Q : VK}
theorem r_lenK {a : Addr} {xs : List V} (h : H a = some (.lst xs)) (q : Q (.int xs.length) H) : rLen K [.ref a] H Q := ⟨a, xs, rfl, .inl (SqL.of h), q⟩
theorem r_lenT {a : Addr} {xs : List V} (h : H a = some (.tup xs)) (q : Q (.int xs.length) H) : rLen K [.ref a] H Q := ⟨a, xs, rfl, .inr (SqT.of h), q⟩
theorem r_listOf {a : Addr} {xs : List V} (h : H a = some (.lst xs)) (q : ∀ l, H l = none → Q (.ref l) (upd H l (.lst xs))) : rListOf K [.ref a] H Q := ⟨a, xs, rfl, .inl (SqL.of h), q⟩
theorem r_sortedI {a : Addr} {ns : List Int} (h : H a = some (.lst (ns.map V.int))) (q : ∀ (ns' : List Int) (p : Addr), ns'.Perm ns → ns'.Pairwise (· ≤ ·) → H p = none → Q (.ref p) (upd H p (.lst (ns'.map V.int)))) : rSortedI K [.ref a] H Q := ⟨a, ns, rfl, SqL.of h, q⟩
theorem r_sum {a : Addr} {ns : List Int} (h : H a = some (.lst (ns.map V.int))) (q : Q (.int ns.sum) H) : rSum K [.ref a] H Q := ⟨a, ns, rfl, SqL.of h, q⟩
theorem r_insert {l : Addr} {xs : List V} {i : Int} {y : V} (h : H l = some (.lst xs)) (hz : xs.length < sizeLine) (h0 : 0 ≤ i) (h1 : i < 9223372036854775808) (q : Q .non (upd H l (.lst (xs.take i.toNat ++ [y] ++ xs.drop i.toNat)))) : rInsert (.ref l) [.int i, y] H Q := ⟨l, xs, i, y, rfl, rfl, h, hz, h0, h1, q⟩
end
end Lw
namespace Lw
theorem nodup_le1 {α : Type} {r : List α} (h : r.length ≤ 1) : r.Nodup := by
  match r, h with
  | [], _ => exact List.nodup_nil
  | [x], _ => simp
theorem nodup_of_map {α β : Type} {f : α → β} {l : List α} (h : (l.map f).Nodup) : l.Nodup := by
  induction l with
  | nil => exact List.nodup_nil
  | cons a r ih =>
    rw [List.map_cons, List.nodup_cons] at h
    exact List.nodup_cons.mpr ⟨fun hm => h.1 (List.mem_map.mpr ⟨a, hm, rfl⟩), ih h.2⟩
theorem nodup_map {α β : Type} {f : α → β} (hf : ∀ x y, f x = f y → x = y) {l : List α} (h : l.Nodup) : (l.map f).Nodup := by
  induction l with
  | nil => exact List.nodup_nil
  | cons a r ih =>
    rw [List.nodup_cons] at h
    rw [List.map_cons, List.nodup_cons]
    refine ⟨fun hm => ?_, ih h.2⟩
    obtain ⟨b, hb, e⟩ := List.mem_map.mp hm
    exact h.1 (hf _ _ e ▸ hb)
theorem nodup_lt {l : List Int} (h : l.Pairwise (· < ·)) : l.Nodup := h.imp fun {a b} q => Int.ne_of_lt q
theorem nodup_take {α : Type} {l : List α} (n : Nat) (h : l.Nodup) : (l.take n).Nodup := h.sublist (List.take_sublist n l)
end Lw
/-! plain mathematics: drawings as relations; no program in sight -/
namespace Lm
/-- places in order, each once, below n: at most n of them -/
theorem nodup_le {n : Nat} : ∀ {l : List Nat}, l.Nodup → (∀ x ∈ l, x < n) → l.length ≤ n := by
  induction n with
  | zero =>
    intro l _ h
    match l, h with
    | [], _ => exact Nat.le_refl _
    | x :: _, h => exact absurd (h x List.mem_cons_self) (Nat.not_lt_zero _)
  | succ n ih =>
    intro l hn h
    have h1 : (l.erase n).length ≤ n := ih (hn.erase n) fun x hx => by
      have h2 := (List.Nodup.mem_erase_iff hn).mp hx
      have := h x h2.2
      have h3 := h2.1
      omega
    have h2 : l.length ≤ (l.erase n).length + 1 := by
      by_cases hm : n ∈ l
      · rw [List.length_erase_of_mem hm]; omega
      · rw [List.erase_of_not_mem hm]; omega
    omega
theorem nodup_all {n : Nat} {l : List Nat} (hn : l.Nodup) (h : ∀ x ∈ l, x < n) (hl : l.length = n) : ∀ x, x < n → x ∈ l := fun x hx => by
  by_cases hm : x ∈ l
  · exact hm
  · have h1 : (x :: l).length ≤ n := nodup_le (List.nodup_cons.mpr ⟨hm, hn⟩) fun y hy => by
      rcases List.mem_cons.mp hy with e | e
      · rw [e]; exact hx
      · exact h y e
    rw [List.length_cons] at h1
    omega
/-- a walk of n + 1 places below n meets one twice -/
theorem twice {n : Nat} (f : Nat → Nat) (h : ∀ i, i ≤ n → f i < n) : ∃ i j, i < j ∧ j ≤ n ∧ f i = f j := by
  refine Classical.byContradiction fun hc => ?_
  have nd : ((List.range (n + 1)).map f).Nodup := by
    rw [List.Nodup, List.pairwise_map]
    refine List.Pairwise.imp_of_mem (fun {a b} ha hb hab => ?_) List.pairwise_lt_range
    exact fun e => hc ⟨a, b, hab, by have := List.mem_range.mp hb; omega, e⟩
  have h1 := nodup_le nd fun x hx => by
    obtain ⟨i, hi, rfl⟩ := List.mem_map.mp hx
    exact h i (by have := List.mem_range.mp hi; omega)
  rw [List.length_map, List.length_range] at h1
  omega
/-! ### paths -/
variable (E : Nat → Nat → Prop)
/-- by one step or more -/
inductive Tc : Nat → Nat → Prop
  | one {a b : Nat} : E a b → Tc a b
  | more {a b c : Nat} : Tc a b → E b c → Tc a c
/-- by any number of steps -/
def Rc (a b : Nat) : Prop := a = b ∨ Tc E a b
variable {E}
theorem Tc.trans {a b c : Nat} (h : Tc E a b) (h2 : Tc E b c) : Tc E a c := by
  induction h2 with
  | one e => exact .more h e
  | more _ e ih => exact .more ih e
theorem Tc.front {a b c : Nat} (e : E a b) (h : Tc E b c) : Tc E a c := Tc.trans (.one e) h
theorem Rc.step {a b c : Nat} (h : Rc E a b) (e : E b c) : Rc E a c := by
  rcases h with rfl | h
  · exact .inr (.one e)
  · exact .inr (.more h e)
/-- what is closed and holds the start holds all that is reached -/
theorem Rc.closed {P : Nat → Prop} {a b : Nat} (h : Rc E a b) (ha : P a) (hc : ∀ x y, P x → E x y → P y) : P b := by
  rcases h with rfl | h
  · exact ha
  · induction h with
    | one e => exact hc _ _ ha e
    | more _ e ih => exact hc _ _ ih e
/-- a measure that falls along each step: no ring -/
theorem no_ring {μ : Nat → Nat} (h : ∀ a b, E a b → μ b < μ a) {a b : Nat} (t : Tc E a b) : μ b < μ a := by
  induction t with
  | one e => exact h _ _ e
  | more _ e ih => exact Nat.lt_trans (h _ _ e) ih
/-- where each place of U leads on into U there is a ring -/
theorem ring_of {n : Nat} {U : Nat → Prop} (hb : ∀ a, U a → a < n) (hs : ∀ a, U a → ∃ b, U b ∧ E a b) {a : Nat} (ha : U a) : ∃ k, U k ∧ Tc E k k := by
  have ch1 : ∀ x, ∃ y, U x → U y ∧ E x y := fun x => by
    by_cases h : U x
    · obtain ⟨y, hy⟩ := hs x h
      exact ⟨y, fun _ => hy⟩
    · exact ⟨0, fun q => absurd q h⟩
  have ch : ∃ g : Nat → Nat, ∀ x, U x → U (g x) ∧ E x (g x) := ⟨fun x => Classical.choose (ch1 x), fun x => Classical.choose_spec (ch1 x)⟩
  obtain ⟨g, hg⟩ := ch
  have hf : ∀ i, U (Nat.rec (motive := fun _ => Nat) a (fun _ x => g x) i) := by
    intro i
    induction i with
    | zero => exact ha
    | succ i ih => exact (hg _ ih).1
  generalize hF : (fun i => (Nat.rec (motive := fun _ => Nat) a (fun _ x => g x) i : Nat)) = F at *
  have hF0 : ∀ i, U (F i) := fun i => by rw [← hF]; exact hf i
  have hF1 : ∀ i, E (F i) (F (i + 1)) := fun i => by
    have := (hg (F i) (hF0 i)).2
    rw [← hF] at this ⊢
    exact this
  obtain ⟨i, j, hij, _, e⟩ := twice (n := n) F fun i _ => hb _ (hF0 i)
  have path : ∀ d, Tc E (F i) (F (i + d + 1)) := fun d => by
    induction d with
    | zero => exact .one (hF1 i)
    | succ d ih => exact .more ih (hF1 (i + d + 1))
  have h2 := path (j - i - 1)
  rw [show i + (j - i - 1) + 1 = j by omega, ← e] at h2
  exact ⟨F i, hF0 i, h2⟩
/-! ### the closure, place by place -/
/-- a path whose inner places are below k -/
inductive Via (E : Nat → Nat → Prop) (k : Nat) : Nat → Nat → Prop
  | one {a b : Nat} : E a b → Via E k a b
  | more {a b c : Nat} : Via E k a b → b < k → E b c → Via E k a c
theorem Via.tc {k a b : Nat} (h : Via E k a b) : Tc E a b := by
  induction h with
  | one e => exact .one e
  | more _ _ e ih => exact .more ih e
theorem Via.mono {k l a b : Nat} (h : Via E k a b) (hl : k ≤ l) : Via E l a b := by
  induction h with
  | one e => exact .one e
  | more _ h e ih => exact .more ih (Nat.lt_of_lt_of_le h hl) e
theorem Via.of {n a b : Nat} (hn : ∀ a b, E a b → b < n) (h : Tc E a b) : Via E n a b := by
  induction h with
  | one e => exact .one e
  | @more b c h e ih =>
    refine .more ih ?_ e
    cases h with
    | one e' => exact hn _ _ e'
    | more _ e' => exact hn _ _ e'
theorem Via.app {k a b c : Nat} (h : Via E k a b) (hb : b < k) (h2 : Via E k b c) : Via E k a c := by
  induction h2 with
  | one e => exact .more h hb e
  | more _ hk e ih => exact .more ih hk e
/-- a path by places below k + 1 is one below k, or goes by k -/
theorem Via.split {k a c : Nat} (h : Via E (k + 1) a c) : Via E k a c ∨ (Via E k a k ∧ Via E k k c) := by
  induction h with
  | one e => exact .inl (.one e)
  | @more b c h hb e ih =>
    by_cases hk : b = k
    · subst hk
      refine .inr ⟨?_, .one e⟩
      rcases ih with q | q
      · exact q
      · exact q.1
    · rcases ih with q | q
      · exact .inl (.more q (by omega) e)
      · exact .inr ⟨q.1, .more q.2 (by omega) e⟩
theorem Via.join {k a c : Nat} (h : Via E k a k) (h2 : Via E k k c) : Via E (k + 1) a c := (h.mono (Nat.le_succ k)).app (Nat.lt_succ_self k) (h2.mono (Nat.le_succ k))
end Lm
namespace Lm
/-! ### rows of places -/
/-- place b stands in the row of place a -/
def Ed (rs : List (List Int)) (a b : Nat) : Prop := ∃ r, rs[a]? = some r ∧ (b : Int) ∈ r
/-- every place in a row is one of the rows' own -/
def In (rs : List (List Int)) : Prop := ∀ r ∈ rs, ∀ e ∈ r, 0 ≤ e ∧ e < (rs.length : Int)
theorem In.lt {rs : List (List Int)} (h : In rs) {a b : Nat} (e : Ed rs a b) : b < rs.length := by
  obtain ⟨r, hr, hb⟩ := e
  have := (h r (List.mem_of_getElem? hr) _ hb).2
  omega
theorem In.gt {rs : List (List Int)} {a b : Nat} (e : Ed rs a b) : a < rs.length := by
  obtain ⟨r, hr, _⟩ := e
  exact (List.getElem?_eq_some_iff.mp hr).1
/-! ### all that is reached -/
structure Ds (rs : List (List Int)) (p : Nat) (bs : List Bool) (ws : List Int) (X : Nat → Prop) : Prop where
  len : bs.length = rs.length
  start : bs[p]? = some true
  reach : ∀ i : Nat, bs[i]? = some true → Rc (Ed rs) p i
  wait : ∀ w ∈ ws, 0 ≤ w ∧ w < (rs.length : Int) ∧ bs[w.toNat]? = some true
  closed : ∀ i : Nat, bs[i]? = some true → (i : Int) ∈ ws ∨ X i ∨ ∀ c, Ed rs i c → bs[c]? = some true
section
variable {rs : List (List Int)} {p : Nat} {bs : List Bool} {ws : List Int} {X : Nat → Prop}
theorem Ds.init {n : Nat} (hn : rs.length = n) (hp : p < n) : Ds rs p ((List.replicate n false).set p true) [(p : Int)] (fun _ => False) := by
  refine ⟨by rw [List.length_set, List.length_replicate, hn], ?_, fun i hi => ?_, fun w hw => ?_, fun i hi => ?_⟩
  · rw [List.getElem?_set_self (by rw [List.length_replicate]; exact hp)]
  · by_cases e : p = i
    · exact .inl e
    · rw [List.getElem?_set_ne e, List.getElem?_replicate] at hi
      split at hi <;> cases hi
  · rw [List.mem_singleton.mp hw]
    refine ⟨by omega, by omega, ?_⟩
    rw [Int.toNat_natCast, List.getElem?_set_self (by rw [List.length_replicate]; exact hp)]
  · by_cases e : p = i
    · exact .inl (by rw [e]; exact List.mem_singleton.mpr rfl)
    · rw [List.getElem?_set_ne e, List.getElem?_replicate] at hi
      split at hi <;> cases hi
theorem Ds.pop {w : Int} (d : Ds rs p bs ws (fun _ => False)) (hw : ws[ws.length - 1]? = some w) : Ds rs p bs ws.dropLast (fun i => i = w.toNat) := by
  have hne : ws ≠ [] := fun e => by rw [e] at hw; simp at hw
  have e1 : ws = ws.dropLast ++ [w] := by
    have h2 := List.dropLast_concat_getLast hne
    have h3 : ws.getLast hne = w := by
      rw [List.getLast_eq_getElem]
      exact (List.getElem?_eq_some_iff.mp hw).2
    rw [h3] at h2
    exact h2.symm
  refine ⟨d.len, d.start, d.reach, fun x hx => d.wait x ?_, fun i hi => ?_⟩
  · rw [e1]; exact List.mem_append_left _ hx
  · rcases d.closed i hi with q | q | q
    · rw [e1] at q
      rcases List.mem_append.mp q with z | z
      · exact .inl z
      · exact .inr (.inl (by have := List.mem_singleton.mp z; omega))
    · exact q.elim
    · exact .inr (.inr q)
theorem Ds.mark {cur h : Nat} (d : Ds rs p bs ws X) (hc : bs[cur]? = some true) (e : Ed rs cur h) (hi : h < rs.length) : Ds rs p (bs.set h true) (ws ++ [(h : Int)]) X := by
  have hl : h < bs.length := by rw [d.len]; exact hi
  have keep : ∀ i : Nat, bs[i]? = some true → (bs.set h true)[i]? = some true := fun i q => by
    by_cases z : h = i
    · rw [← z, List.getElem?_set_self hl]
    · rw [List.getElem?_set_ne z]; exact q
  refine ⟨by rw [List.length_set]; exact d.len, keep _ d.start, fun i q => ?_, fun w hw => ?_, fun i q => ?_⟩
  · by_cases z : h = i
    · rw [← z]; exact (d.reach cur hc).step e
    · rw [List.getElem?_set_ne z] at q; exact d.reach i q
  · rcases List.mem_append.mp hw with z | z
    · exact ⟨(d.wait w z).1, (d.wait w z).2.1, keep _ (d.wait w z).2.2⟩
    · rw [List.mem_singleton.mp z]
      exact ⟨by omega, by omega, by rw [Int.toNat_natCast, List.getElem?_set_self hl]⟩
  · by_cases z : h = i
    · exact .inl (by rw [← z]; exact List.mem_append_right _ (List.mem_singleton.mpr rfl))
    · rw [List.getElem?_set_ne z] at q
      rcases d.closed i q with y | y | y
      · exact .inl (List.mem_append_left _ y)
      · exact .inr (.inl y)
      · exact .inr (.inr fun c hc => keep c (y c hc))
theorem Ds.done {cur : Nat} (d : Ds rs p bs ws (fun i => i = cur)) (h : ∀ c, Ed rs cur c → bs[c]? = some true) : Ds rs p bs ws (fun _ => False) :=
  ⟨d.len, d.start, d.reach, d.wait, fun i hi => by
    rcases d.closed i hi with q | q | q
    · exact .inl q
    · exact .inr (.inr (by rw [q]; exact h))
    · exact .inr (.inr q)⟩
theorem Ds.final (d : Ds rs p bs [] (fun _ => False)) (i : Nat) : bs[i]? = some true ↔ Rc (Ed rs) p i := by
  refine ⟨d.reach i, fun h => h.closed (P := fun i => bs[i]? = some true) d.start fun x y hx e => ?_⟩
  rcases d.closed x hx with q | q | q
  · exact absurd q List.not_mem_nil
  · exact q.elim
  · exact q y e
theorem count_set {bs : List Bool} {h : Nat} (e : bs[h]? = some false) : (bs.set h true).count false + 1 = bs.count false := by
  induction bs generalizing h with
  | nil => simp at e
  | cons b r ih =>
    cases h with
    | zero =>
      have : b = false := Option.some.inj e
      subst this
      simp
    | succ h =>
      have h2 := ih (h := h) e
      rw [List.set_cons_succ, List.count_cons, List.count_cons]
      omega
end
/-! ### settled places -/
/-- how many of a row's places are not among those -/
def miss (S : List Int) (r : List Int) : Nat := r.countP fun h => decide (h ∉ S)
theorem miss_zero {S r : List Int} : miss S r = 0 ↔ ∀ h ∈ r, h ∈ S := by
  unfold miss
  rw [List.countP_eq_zero]
  constructor
  · intro q h hr
    have := q h hr
    simpa using this
  · intro q h hr
    have := q h hr
    simpa using this
theorem miss_push {S r : List Int} {l : Int} (hl : l ∉ S) : miss S r = miss (S ++ [l]) r + r.count l := by
  unfold miss
  induction r with
  | nil => rfl
  | cons a r ih =>
    rw [List.countP_cons, List.countP_cons, List.count_cons, ih]
    by_cases e : a = l
    · subst e
      simp [hl]; omega
    · by_cases h : a ∈ S
      · simp [h, e]
      · simp [h, e]; omega
theorem miss_nil {r : List Int} : miss [] r = r.length := by
  unfold miss
  rw [List.countP_eq_length.mpr]
  intro a _
  simp
end Lm

namespace Lm
theorem nodup_miss {n : Nat} : ∀ {l : List Nat}, l.Nodup → (∀ x ∈ l, x < n) → l.length < n → ∃ x, x < n ∧ x ∉ l := by
  induction n with
  | zero => intro l _ _ h; exact absurd h (Nat.not_lt_zero _)
  | succ n ih =>
    intro l hn h hl
    by_cases hm : n ∈ l
    · have e := List.length_erase_of_mem hm
      have hp := List.length_pos_of_mem hm
      obtain ⟨x, hx, hx2⟩ := ih (hn.erase n) (fun x hx => by
        have h2 := (List.Nodup.mem_erase_iff hn).mp hx
        have := h x h2.2
        have h3 := h2.1
        omega) (by omega)
      exact ⟨x, by omega, fun q => hx2 ((List.Nodup.mem_erase_iff hn).mpr ⟨by omega, q⟩)⟩
    · exact ⟨n, Nat.lt_succ_self n, hm⟩
theorem nat_list {ss : List Int} {n : Nat} (hn : ss.Nodup) (h : ∀ s ∈ ss, 0 ≤ s ∧ s < (n : Int)) : (ss.map Int.toNat).Nodup ∧ ∀ x ∈ ss.map Int.toNat, x < n := by
  constructor
  · rw [List.Nodup, List.pairwise_map]
    refine List.Pairwise.imp_of_mem (fun {a b} ha hb hab e => ?_) hn
    have := h a ha
    have := h b hb
    exact hab (by omega)
  · intro x hx
    obtain ⟨s, hs, rfl⟩ := List.mem_map.mp hx
    have := h s hs
    omega
theorem at_inj {α : Type} {l : List α} (hn : l.Nodup) {i j : Nat} {x : α} (hi : l[i]? = some x) (hj : l[j]? = some x) : i = j := by
  obtain ⟨h1, e1⟩ := List.getElem?_eq_some_iff.mp hi
  obtain ⟨h2, e2⟩ := List.getElem?_eq_some_iff.mp hj
  exact (List.getElem_inj hn).mp (e1.trans e2.symm)
/-- who holds whom -/
def Hd (rs hs : List (List Int)) : Prop := hs.length = rs.length ∧ (∀ l ∈ hs, ∀ e ∈ l, 0 ≤ e ∧ e < (rs.length : Int)) ∧
  ∀ (l p : Nat) hl r, hs[l]? = some hl → rs[p]? = some r → hl.count (p : Int) = r.count (l : Int)
structure Kn (rs : List (List Int)) (ms ss : List Int) (q : Nat) : Prop where
  nd : ss.Nodup
  rng : ∀ s ∈ ss, 0 ≤ s ∧ s < (rs.length : Int)
  le : q ≤ ss.length
  len : ms.length = rs.length
  val : ∀ (p : Nat) r, rs[p]? = some r → ms[p]? = some ((miss (ss.take q) r : Nat) : Int)
  zero : ∀ (p : Nat) r, rs[p]? = some r → ((p : Int) ∈ ss ↔ miss (ss.take q) r = 0)
  ord : ∀ (i : Nat) s r, ss[i]? = some s → rs[s.toNat]? = some r → ∀ h ∈ r, ∃ j, j < i ∧ ss[j]? = some h
/-- within a turn: l is the settled place at q, done are those of its holders -/
structure Km (rs : List (List Int)) (ms ss : List Int) (q : Nat) (l : Int) (done : List Int) : Prop where
  nd : ss.Nodup
  rng : ∀ s ∈ ss, 0 ≤ s ∧ s < (rs.length : Int)
  cur : ss[q]? = some l
  len : ms.length = rs.length
  val : ∀ (p : Nat) r, rs[p]? = some r → ∃ v : Nat, ms[p]? = some (v : Int) ∧ v + done.count (p : Int) = miss (ss.take q) r ∧ ((p : Int) ∈ ss ↔ v = 0)
  ord : ∀ (i : Nat) s r, ss[i]? = some s → rs[s.toNat]? = some r → ∀ h ∈ r, ∃ j, j < i ∧ ss[j]? = some h
section
variable {rs hs : List (List Int)} {ms ss : List Int} {q : Nat} {l : Int}
theorem Kn.lt (k : Kn rs ms ss q) : ss.length ≤ rs.length := by
  obtain ⟨h1, h2⟩ := nat_list k.nd k.rng
  have := nodup_le h1 h2
  rwa [List.length_map] at this
theorem Km.lt {done : List Int} (k : Km rs ms ss q l done) : ss.length ≤ rs.length := by
  obtain ⟨h1, h2⟩ := nat_list k.nd k.rng
  have := nodup_le h1 h2
  rwa [List.length_map] at this
theorem Kn.open (k : Kn rs ms ss q) (h : ss[q]? = some l) : Km rs ms ss q l [] :=
  ⟨k.nd, k.rng, h, k.len, fun p r hr => ⟨_, k.val p r hr, by rw [List.count_nil]; rfl, k.zero p r hr⟩, k.ord⟩
theorem not_before (nd : ss.Nodup) (h : ss[q]? = some l) : l ∉ ss.take q := fun hm => by
  obtain ⟨i, hi⟩ := List.mem_iff_getElem?.mp hm
  have hi2 := (List.getElem?_eq_some_iff.mp hi).1
  rw [List.length_take] at hi2
  rw [List.getElem?_take_of_lt (by omega)] at hi
  have := at_inj nd hi h
  omega
theorem take_succ_of (h : ss[q]? = some l) : ss.take (q + 1) = ss.take q ++ [l] := by rw [List.take_add_one, h]; rfl
theorem Km.count {done rest : List Int} (k : Km rs ms ss q l done) (hd : Hd rs hs) (hl0 : 0 ≤ l) (hl : hs[l.toNat]? = some (done ++ rest)) {p : Nat} {r : List Int} (hr : rs[p]? = some r) :
    miss (ss.take q) r = miss (ss.take (q + 1)) r + done.count (p : Int) + rest.count (p : Int) := by
  have h1 := hd.2.2 _ _ _ _ hl hr
  rw [List.count_append, show ((l.toNat : Nat) : Int) = l by omega] at h1
  rw [take_succ_of k.cur, miss_push (r := r) (not_before k.nd k.cur), ← h1]
  omega
/-- one holder more -/
theorem Km.step {done rest : List Int} {h : Int} (k : Km rs ms ss q l done) (hd : Hd rs hs) (hl0 : 0 ≤ l) (hl : hs[l.toNat]? = some (done ++ h :: rest)) :
    ∃ v : Nat, 0 ≤ h ∧ h < (rs.length : Int) ∧ ms[h.toNat]? = some ((v + 1 : Nat) : Int) ∧
      (v ≠ 0 → Km rs (ms.set h.toNat (v : Int)) ss q l (done ++ [h])) ∧ (v = 0 → Km rs (ms.set h.toNat 0) (ss ++ [h]) q l (done ++ [h])) := by
  have hrg := hd.2.1 _ (List.mem_of_getElem? hl) h (List.mem_append_right _ List.mem_cons_self)
  have eh : ((h.toNat : Nat) : Int) = h := by omega
  have hlt : h.toNat < rs.length := by omega
  have hr : rs[h.toNat]? = some rs[h.toNat] := List.getElem?_eq_getElem hlt
  obtain ⟨v, hv1, hv2, hv3⟩ := k.val _ _ hr
  have hc := k.count hd hl0 hl hr
  rw [eh] at hc hv2 hv3
  rw [List.count_cons_self] at hc
  obtain ⟨u, rfl⟩ : ∃ u, v = u + 1 := ⟨v - 1, by omega⟩
  have hns : h ∉ ss := fun hm => by have := hv3.mp hm; omega
  have hq : q < ss.length := (List.getElem?_eq_some_iff.mp k.cur).1
  have cnt : ∀ p : Nat, p ≠ h.toNat → (done ++ [h]).count (p : Int) = done.count (p : Int) := fun p hp => by
    rw [List.count_append, List.count_singleton]
    have : ¬ h = (p : Int) := by omega
    simp [this]
  have cnt2 : (done ++ [h]).count h = done.count h + 1 := by rw [List.count_append, List.count_singleton_self]
  have hml : h.toNat < ms.length := by rw [k.len]; exact hlt
  refine ⟨u, hrg.1, hrg.2, hv1, fun hu => ?_, fun hu => ?_⟩
  · refine ⟨k.nd, k.rng, k.cur, by rw [List.length_set]; exact k.len, fun p r hp => ?_, k.ord⟩
    by_cases e : p = h.toNat
    · subst e
      rw [hp] at hr
      cases hr
      rw [eh]
      refine ⟨u, List.getElem?_set_self hml, by rw [cnt2]; omega, fun hm => absurd hm hns, fun z => absurd z hu⟩
    · rw [List.getElem?_set_ne (Ne.symm e), cnt p e]
      exact k.val p r hp
  · subst hu
    have et : (ss ++ [h]).take q = ss.take q := List.take_append_of_le_length (Nat.le_of_lt hq)
    refine ⟨?_, fun s hs => ?_, by rw [List.getElem?_append_left hq]; exact k.cur, by rw [List.length_set]; exact k.len, fun p r hp => ?_, fun i s r hi hs x hx => ?_⟩
    · rw [List.nodup_append]
      exact ⟨k.nd, by simp, fun a ha b hb e => hns (by rw [← List.mem_singleton.mp hb, ← e]; exact ha)⟩
    · rcases List.mem_append.mp hs with z | z
      · exact k.rng s z
      · rw [List.mem_singleton.mp z]; exact hrg
    · rw [et]
      by_cases e : p = h.toNat
      · subst e
        rw [hp] at hr
        cases hr
        rw [eh]
        exact ⟨0, List.getElem?_set_self hml, by rw [cnt2]; omega, fun _ => rfl, fun _ => List.mem_append_right _ (List.mem_singleton.mpr rfl)⟩
      · rw [List.getElem?_set_ne (Ne.symm e), cnt p e]
        obtain ⟨v, a1, a2, a3⟩ := k.val p r hp
        refine ⟨v, a1, a2, ?_⟩
        rw [← a3]
        constructor
        · intro hm
          rcases List.mem_append.mp hm with z | z
          · exact z
          · have := List.mem_singleton.mp z
            omega
        · exact fun hm => List.mem_append_left _ hm
    · by_cases hil : i < ss.length
      · rw [List.getElem?_append_left hil] at hi
        obtain ⟨j, hj, hj2⟩ := k.ord i s r hi hs x hx
        exact ⟨j, hj, by rw [List.getElem?_append_left (by omega)]; exact hj2⟩
      · have h3 := (List.getElem?_eq_some_iff.mp hi).1
        rw [List.length_append, List.length_singleton] at h3
        have ei : i = ss.length := by omega
        rw [ei, List.getElem?_append_right (Nat.le_refl _), Nat.sub_self] at hi
        have es : h = s := Option.some.inj hi
        rw [← es, hr] at hs
        have er := Option.some.inj hs
        have hz : miss (ss.take (q + 1)) rs[h.toNat] = 0 := by omega
        have hm := miss_zero.mp hz x (by rw [er]; exact hx)
        obtain ⟨j, hj⟩ := List.mem_iff_getElem?.mp hm
        have hj2 := (List.getElem?_eq_some_iff.mp hj).1
        rw [List.length_take] at hj2
        rw [List.getElem?_take_of_lt (by omega)] at hj
        exact ⟨j, by omega, by rw [List.getElem?_append_left (by omega)]; exact hj⟩
/-- the turn's end -/
theorem Km.close {done : List Int} (k : Km rs ms ss q l done) (hd : Hd rs hs) (hl0 : 0 ≤ l) (hl : hs[l.toNat]? = some done) : Kn rs ms ss (q + 1) := by
  have hq : q < ss.length := (List.getElem?_eq_some_iff.mp k.cur).1
  refine ⟨k.nd, k.rng, hq, k.len, fun p r hr => ?_, fun p r hr => ?_, k.ord⟩
  · obtain ⟨v, a1, a2, a3⟩ := k.val p r hr
    have hc := k.count (rest := []) hd hl0 (by rw [List.append_nil]; exact hl) hr
    rw [List.count_nil] at hc
    rw [a1]
    congr 2
    omega
  · obtain ⟨v, a1, a2, a3⟩ := k.val p r hr
    have hc := k.count (rest := []) hd hl0 (by rw [List.append_nil]; exact hl) hr
    rw [List.count_nil] at hc
    rw [a3]
    omega
theorem Kn.final (k : Kn rs ms ss q) (hq : ss.length ≤ q) (hin : In rs) : ss.length = rs.length ↔ ∀ x, ¬ Tc (Ed rs) x x := by
  have et : ss.take q = ss := List.take_of_length_le hq
  constructor
  · intro hl x t
    have path : ∀ {a b : Nat}, Tc (Ed rs) a b → ∀ i : Nat, ss[i]? = some (a : Int) → ∃ j, j < i ∧ ss[j]? = some (b : Int) := by
      intro a b t
      induction t with
      | one e =>
        intro i hi
        obtain ⟨r, hr, hb⟩ := e
        exact k.ord i _ r hi (by rw [Int.toNat_natCast]; exact hr) _ hb
      | more _ e ih =>
        intro i hi
        obtain ⟨j, hj, hj2⟩ := ih i hi
        obtain ⟨r, hr, hb⟩ := e
        obtain ⟨m, hm, hm2⟩ := k.ord j _ r hj2 (by rw [Int.toNat_natCast]; exact hr) _ hb
        exact ⟨m, Nat.lt_trans hm hj, hm2⟩
    have hx : x < rs.length := by
      cases t with
      | one e => exact In.gt e
      | more t e => exact hin.lt e
    obtain ⟨h1, h2⟩ := nat_list k.nd k.rng
    have hm := nodup_all h1 h2 (by rw [List.length_map]; exact hl) x hx
    obtain ⟨s, hs, es⟩ := List.mem_map.mp hm
    have hr := k.rng s hs
    have e2 : s = (x : Int) := by omega
    rw [e2] at hs
    obtain ⟨i, hi⟩ := List.mem_iff_getElem?.mp hs
    obtain ⟨j, hj, hj2⟩ := path t i hi
    have := at_inj k.nd hi hj2
    omega
  · intro hno
    refine Classical.byContradiction fun hl => ?_
    have hlt : ss.length < rs.length := Nat.lt_of_le_of_ne k.lt hl
    obtain ⟨h1, h2⟩ := nat_list k.nd k.rng
    obtain ⟨x, hx, hx2⟩ := nodup_miss h1 h2 (by rw [List.length_map]; exact hlt)
    have hU : (x : Int) ∉ ss := fun hm => hx2 (List.mem_map.mpr ⟨_, hm, Int.toNat_natCast x⟩)
    obtain ⟨y, _, hy⟩ := ring_of (E := Ed rs) (n := rs.length) (U := fun v => v < rs.length ∧ (v : Int) ∉ ss) (fun a h => h.1) (fun a ha => by
      have hr : rs[a]? = some rs[a] := List.getElem?_eq_getElem ha.1
      have hz : miss ss rs[a] ≠ 0 := fun z => ha.2 ((k.zero a _ hr).mpr (by rw [et]; exact z))
      obtain ⟨h, hh, hns⟩ : ∃ h, h ∈ rs[a] ∧ h ∉ ss := Classical.byContradiction fun hc => hz (miss_zero.mpr fun h hh => Classical.byContradiction fun q => hc ⟨h, hh, q⟩)
      have hg := hin _ (List.mem_of_getElem? hr) h hh
      have eh : ((h.toNat : Nat) : Int) = h := by omega
      exact ⟨h.toNat, ⟨by omega, by rw [eh]; exact hns⟩, rs[a], hr, by rw [eh]; exact hh⟩) ⟨hx, hU⟩
    exact hno y hy
end
end Lm
namespace Lm
/-! ### bits -/
theorem tb_add {i : Nat} : ∀ {x j : Nat}, x.testBit i = false → (2 ^ i + x).testBit j = (decide (i = j) || x.testBit j) := by
  induction i with
  | zero =>
    intro x j h
    have h0 : x % 2 = 0 := by
      rw [Nat.testBit_zero] at h
      have := of_decide_eq_false h
      omega
    cases j with
    | zero =>
      rw [Nat.testBit_zero]
      have : (2 ^ 0 + x) % 2 = 1 := by show (1 + x) % 2 = 1; omega
      rw [this]
      simp
    | succ j =>
      rw [Nat.testBit_succ, Nat.testBit_succ]
      have : (2 ^ 0 + x) / 2 = x / 2 := by show (1 + x) / 2 = x / 2; omega
      rw [this]
      simp
  | succ i ih =>
    intro x j h
    rw [Nat.testBit_succ] at h
    have e1 : (2 ^ (i + 1) + x) / 2 = 2 ^ i + x / 2 := by
      rw [Nat.pow_succ]; omega
    cases j with
    | zero =>
      rw [Nat.testBit_zero, Nat.testBit_zero]
      have : (2 ^ (i + 1) + x) % 2 = x % 2 := by rw [Nat.pow_succ]; omega
      rw [this]
      simp
    | succ j =>
      rw [Nat.testBit_succ, Nat.testBit_succ, e1, ih h]
      congr 1
      simp
/-- the mask of a row -/
def mask : List Int → Nat
  | [] => 0
  | e :: r => 2 ^ e.toNat + mask r
theorem mask_bit : ∀ {r : List Int}, r.Nodup → (∀ e ∈ r, 0 ≤ e) → ∀ b : Nat, (mask r).testBit b = true ↔ (b : Int) ∈ r
  | [], _, _, b => by simp [mask]
  | e :: r, hn, h0, b => by
    obtain ⟨hn1, hn2⟩ := List.nodup_cons.mp hn
    have h1 := h0 e List.mem_cons_self
    have ih := mask_bit hn2 (fun x hx => h0 x (List.mem_cons_of_mem _ hx))
    have hz : (mask r).testBit e.toNat = false := by
      cases q : (mask r).testBit e.toNat with
      | false => rfl
      | true =>
        have := (ih e.toNat).mp q
        rw [show ((e.toNat : Nat) : Int) = e by omega] at this
        exact absurd this hn1
    show (2 ^ e.toNat + mask r).testBit b = true ↔ _
    rw [tb_add hz, Bool.or_eq_true, decide_eq_true_eq, ih b, List.mem_cons]
    constructor
    · rintro (q | q)
      · exact .inl (by omega)
      · exact .inr q
    · rintro (q | q)
      · exact .inl (by omega)
      · exact .inr q
theorem mask_sum : ∀ r : List Int, ((mask r : Nat) : Int) = (r.map fun e => 1 * (2 : Int) ^ e.toNat).sum
  | [] => rfl
  | e :: r => by
    rw [List.map_cons, List.sum_cons, ← mask_sum r, Int.one_mul]
    show (((2 ^ e.toNat + mask r : Nat)) : Int) = _
    rw [Int.natCast_add, Int.natCast_pow]
    rfl
/-- masks in the stage k, those below a done -/
def Ms (rs : List (List Int)) (k a : Nat) (ms : List Nat) : Prop := ms.length = rs.length ∧
  ∀ (c m : Nat), ms[c]? = some m → ∀ b, m.testBit b = true ↔ (c < a ∧ Via (Ed rs) (k + 1) c b) ∨ (a ≤ c ∧ Via (Ed rs) k c b)
theorem via0 {rs : List (List Int)} {a b : Nat} : Via (Ed rs) 0 a b ↔ Ed rs a b := by
  constructor
  · intro h
    cases h with
    | one e => exact e
    | more _ h _ => exact absurd h (Nat.not_lt_zero _)
  · exact .one
theorem Ms.init {rs : List (List Int)} (hn : ∀ r ∈ rs, r.Nodup) (hin : In rs) : Ms rs 0 0 (rs.map mask) := by
  refine ⟨List.length_map .., fun c m hm b => ?_⟩
  rw [List.getElem?_map] at hm
  cases hr : rs[c]? with
  | none => rw [hr] at hm; cases hm
  | some r =>
    rw [hr] at hm
    rw [← Option.some.inj hm, mask_bit (hn r (List.mem_of_getElem? hr)) (fun e he => (hin r (List.mem_of_getElem? hr) e he).1)]
    constructor
    · exact fun h => .inr ⟨Nat.zero_le _, via0.mpr ⟨r, hr, h⟩⟩
    · rintro (⟨h, _⟩ | ⟨_, h⟩)
      · exact absurd h (Nat.not_lt_zero _)
      · obtain ⟨r', hr', hb⟩ := via0.mp h
        rw [hr] at hr'
        rw [Option.some.inj hr']; exact hb
/-- the mask at k is alike in both stages -/
theorem Ms.own {rs : List (List Int)} {k a : Nat} {ms : List Nat} (h : Ms rs k a ms) {m : Nat} (hm : ms[k]? = some m) (b : Nat) : m.testBit b = true ↔ Via (Ed rs) k k b := by
  rw [h.2 k m hm b]
  constructor
  · rintro (⟨_, q⟩ | ⟨_, q⟩)
    · rcases q.split with z | z
      · exact z
      · exact z.2
    · exact q
  · intro q
    by_cases hk : k < a
    · exact .inl ⟨hk, q.mono (Nat.le_succ k)⟩
    · exact .inr ⟨by omega, q⟩
theorem Ms.next {rs : List (List Int)} {k a : Nat} {ms : List Nat} (h : Ms rs k a ms) {x : Nat} (hx : ∀ b, x.testBit b = true ↔ Via (Ed rs) (k + 1) a b) (ha : a < rs.length) : Ms rs k (a + 1) (ms.set a x) := by
  refine ⟨by rw [List.length_set]; exact h.1, fun c m hm b => ?_⟩
  by_cases e : a = c
  · subst e
    rw [List.getElem?_set_self (by rw [h.1]; exact ha)] at hm
    rw [← Option.some.inj hm, hx b]
    constructor
    · exact fun q => .inl ⟨Nat.lt_succ_self _, q⟩
    · rintro (⟨_, q⟩ | ⟨q, _⟩)
      · exact q
      · omega
  · rw [List.getElem?_set_ne e] at hm
    rw [h.2 c m hm b]
    constructor
    · rintro (⟨q, v⟩ | ⟨q, v⟩)
      · exact .inl ⟨by omega, v⟩
      · exact .inr ⟨by omega, v⟩
    · rintro (⟨q, v⟩ | ⟨q, v⟩)
      · exact .inl ⟨by omega, v⟩
      · exact .inr ⟨by omega, v⟩
theorem Ms.yes {rs : List (List Int)} {k a : Nat} {ms : List Nat} (h : Ms rs k a ms) {x y : Nat} (hx : ms[a]? = some x) (hy : ms[k]? = some y) (t : x.testBit k = true) : Ms rs k (a + 1) (ms.set a (x ||| y)) := by
  have ha : a < rs.length := by rw [← h.1]; exact (List.getElem?_eq_some_iff.mp hx).1
  have hx2 : ∀ b, x.testBit b = true ↔ Via (Ed rs) k a b := fun b => by
    rw [h.2 a x hx b]
    constructor
    · rintro (⟨q, _⟩ | ⟨_, q⟩)
      · omega
      · exact q
    · exact fun q => .inr ⟨Nat.le_refl _, q⟩
  have hak := (hx2 k).mp t
  refine h.next (fun b => ?_) ha
  rw [Nat.testBit_or, Bool.or_eq_true, hx2 b, h.own hy b]
  constructor
  · rintro (q | q)
    · exact q.mono (Nat.le_succ k)
    · exact hak.join q
  · intro q
    rcases q.split with z | z
    · exact .inl z
    · exact .inr z.2
theorem Ms.no {rs : List (List Int)} {k a : Nat} {ms : List Nat} (h : Ms rs k a ms) {x : Nat} (hx : ms[a]? = some x) (t : x.testBit k = false) : Ms rs k (a + 1) ms := by
  have ha : a < rs.length := by rw [← h.1]; exact (List.getElem?_eq_some_iff.mp hx).1
  have hx2 : ∀ b, x.testBit b = true ↔ Via (Ed rs) k a b := fun b => by
    rw [h.2 a x hx b]
    constructor
    · rintro (⟨q, _⟩ | ⟨_, q⟩)
      · omega
      · exact q
    · exact fun q => .inr ⟨Nat.le_refl _, q⟩
  have h2 := h.next (x := x) (fun b => by
    rw [hx2 b]
    constructor
    · exact fun q => q.mono (Nat.le_succ k)
    · intro q
      rcases q.split with z | z
      · exact z
      · have := (hx2 k).mpr z.1
        rw [t] at this
        cases this) ha
  have e : ms.set a x = ms := by
    obtain ⟨hl, e⟩ := List.getElem?_eq_some_iff.mp hx
    rw [← e, List.set_getElem_self]
  rw [e] at h2
  exact h2
theorem Ms.turn {rs : List (List Int)} {k : Nat} {ms : List Nat} (h : Ms rs k rs.length ms) : Ms rs (k + 1) 0 ms := by
  refine ⟨h.1, fun c m hm b => ?_⟩
  have hc : c < rs.length := by rw [← h.1]; exact (List.getElem?_eq_some_iff.mp hm).1
  rw [h.2 c m hm b]
  constructor
  · rintro (⟨_, q⟩ | ⟨q, _⟩)
    · exact .inr ⟨Nat.zero_le _, q⟩
    · omega
  · rintro (⟨q, _⟩ | ⟨_, q⟩)
    · omega
    · exact .inl ⟨hc, q⟩
theorem Ms.final {rs : List (List Int)} {ms : List Nat} (h : Ms rs rs.length 0 ms) (hin : In rs) {c m : Nat} (hm : ms[c]? = some m) (b : Nat) : m.testBit b = true ↔ Tc (Ed rs) c b := by
  rw [h.2 c m hm b]
  constructor
  · rintro (⟨q, _⟩ | ⟨_, q⟩)
    · omega
    · exact q.tc
  · exact fun q => .inr ⟨Nat.zero_le _, Via.of (fun _ _ e => hin.lt e) q⟩
end Lm
namespace Lm
/-! ### the holders, row by row -/
def Hpt (rs hs : List (List Int)) (i : Nat) (done : List Int) : Prop := hs.length = rs.length ∧ (∀ l ∈ hs, ∀ e ∈ l, 0 ≤ e ∧ e < (rs.length : Int)) ∧
  ∀ (l p : Nat) hl, hs[l]? = some hl → hl.count (p : Int) = if p < i then (rs.getD p []).count (l : Int) else if p = i then done.count (l : Int) else 0
theorem Hpt.init (rs : List (List Int)) : Hpt rs (List.replicate rs.length []) 0 [] := by
  refine ⟨List.length_replicate, fun l hl e he => ?_, fun l p hl h => ?_⟩
  · rw [(List.mem_replicate.mp hl).2] at he; exact nomatch he
  · rw [List.getElem?_replicate] at h
    split at h
    · rw [← Option.some.inj h]; simp
    · cases h
theorem Hpt.step {rs hs : List (List Int)} {i : Nat} {done : List Int} (k : Hpt rs hs i done) (hi : i < rs.length) {h : Int} (h0 : 0 ≤ h) {hl : List Int} (e : hs[h.toNat]? = some hl) : Hpt rs (hs.set h.toNat (hl ++ [(i : Int)])) i (done ++ [h]) := by
  have hlt := (List.getElem?_eq_some_iff.mp e).1
  refine ⟨by rw [List.length_set]; exact k.1, fun l hm x hx => ?_, fun l p hl' hp => ?_⟩
  · rcases List.mem_or_eq_of_mem_set hm with q | q
    · exact k.2.1 l q x hx
    · rw [q] at hx
      rcases List.mem_append.mp hx with z | z
      · exact k.2.1 hl (List.mem_of_getElem? e) x z
      · rw [List.mem_singleton.mp z]; omega
  · rw [List.getElem?_set] at hp
    by_cases q : h.toNat = l
    · rw [if_pos q, if_pos hlt] at hp
      have c := k.2.2 l p hl (by rw [← q]; exact e)
      rw [← Option.some.inj hp, List.count_append, c, List.count_append]
      have el : h = (l : Int) := by omega
      rw [el]
      by_cases a : p < i
      · have t : ¬ i = p := by omega
        have t2 : ¬ (i : Int) = (p : Int) := by omega
        rw [List.count_singleton, if_pos a, if_pos a]
        simp [t, t2]
      · by_cases b : p = i
        · subst b; simp
        · have t : ¬ i = p := by omega
          have t2 : ¬ (i : Int) = (p : Int) := by omega
          rw [List.count_singleton, if_neg a, if_neg a, if_neg b, if_neg b]
          simp [t, t2]
    · rw [if_neg q] at hp
      have el : ¬ h = (l : Int) := by omega
      rw [k.2.2 l p hl' hp, List.count_append]
      simp [el]
theorem Hpt.row {rs hs : List (List Int)} {i : Nat} {r : List Int} (k : Hpt rs hs i r) (hr : rs[i]? = some r) : Hpt rs hs (i + 1) [] := by
  refine ⟨k.1, k.2.1, fun l p hl h => ?_⟩
  rw [k.2.2 l p hl h]
  by_cases a : p < i
  · rw [if_pos a, if_pos (by omega)]
  · by_cases b : p = i
    · subst b
      rw [if_neg a, if_pos rfl, if_pos (by omega), List.getD_eq_getElem?_getD, hr]; rfl
    · rw [if_neg a, if_neg b, if_neg (by omega)]; simp
theorem Hpt.final {rs hs : List (List Int)} (k : Hpt rs hs rs.length []) : Hd rs hs := by
  refine ⟨k.1, k.2.1, fun l p hl r h1 h2 => ?_⟩
  have hp := (List.getElem?_eq_some_iff.mp h2).1
  rw [k.2.2 l p hl h1, if_pos hp, List.getD_eq_getElem?_getD, h2]; rfl
/-- the start: the places of empty rows -/
theorem Kn.init {rs : List (List Int)} {ss : List Int} (nd : ss.Nodup) (h : ∀ p : Int, p ∈ ss ↔ 0 ≤ p ∧ rs[p.toNat]? = some []) : Kn rs (rs.map fun r => (r.length : Int)) ss 0 := by
  refine ⟨nd, fun s hs => ?_, Nat.zero_le _, List.length_map .., fun p r hr => ?_, fun p r hr => ?_, fun i s r hi hr x hx => ?_⟩
  · obtain ⟨h0, h1⟩ := (h s).mp hs
    have := (List.getElem?_eq_some_iff.mp h1).1
    omega
  · rw [List.getElem?_map, hr, List.take_zero, miss_nil]; rfl
  · rw [List.take_zero, miss_nil, h, Int.toNat_natCast, hr]
    constructor
    · rintro ⟨_, e⟩; rw [Option.some.inj e]; rfl
    · intro e
      exact ⟨by omega, by rw [List.length_eq_zero_iff.mp e]⟩
  · obtain ⟨_, h1⟩ := (h s).mp (List.mem_of_getElem? hi)
    rw [hr] at h1
    rw [Option.some.inj h1] at hx
    exact nomatch hx
end Lm
/-! set(xs) of a list of ints -/
namespace Lw
open PySem PySem.Spec PyProof.Rows L2
section
variable {P : Program} {w : World} {A : Around} {E : Value → Shared → Prop} {s : Shared}
set_option maxHeartbeats 3200000 in
theorem mk_set_of_list {l : Addr} {its : Array Value} (ns : List Int) {Q : Value → Shared → Prop} (hA : A.handled = none) (hL : s.heap.IsList l its) (hI : IntsAre its.toList ns) (room : ns.length + 1 < scanBound)
    (fin : ∀ (h2 : Heap) (tk c : Nat), SetR w h2 s.heap.objs.size (fun j => decide (j ∈ ns)) c → c ≤ ns.length → (∀ b o, s.heap.get? b = some o → h2.get? b = some o) → Q (.ref s.heap.objs.size) { s with heap := h2, toks := tk }) :
    wpAny (model P w) A (call (.type "set") [.ref l]) Q E s := by
  have len : its.size = ns.length := by rw [← Array.length_toList]; exact IntsAre.length hI
  obtain ⟨c0, t0, mro⟩ := PySem.F.called_set.mro
  have u1 := PySem.F.called_set.made
  have u2 := PySem.F.called_set.sub
  have u3 := PySem.F.called_set.notType
  have u4 := PySem.F.called_set.canCreate
  have u5 := PySem.F.typeCall_set_1 (.ref l)
  refine wpAny_call (codeAny_of_tree ?_)
  show wpAny _ _ (callAny (.type "set") _) _ _ _
  refine wpAny_pure ⟨Code.quiet_builtin _ (by decide +kernel), codeAny_builtin PySem.F.entry_type_call ?_⟩
  rw [Around.under_plain (weight_type_call_type "set" [.ref l] []) rfl]
  repeat (any_goals (first | assumption | wp_step))
  -- the empty set is laid
  generalize hN : ({ cls := .type "set", dict := none, data := .set #[] 0 (.fresh 0 0 (!w.params.followText "set-order")) } : Obj) = N
  refine codeAny_mono (code_set_led1 (.ref l) (E := E) (Q₁ := fun x z => x = .ref s.heap.objs.size ∧ z = { s with heap := s.heap.push N }) ⟨rfl, by rw [hN]⟩) fun r z hr => ?_
  match r, hr with
  | .error e, hr => exact hr
  | .ok .next, hr => exact hr.elim
  | .ok .brk, hr => exact hr.elim
  | .ok .cont, hr => exact hr.elim
  | .ok (.ret x), hr =>
    obtain ⟨rfl, rfl⟩ := hr
    have at0 : (s.heap.push N).get? s.heap.objs.size = some N := Heap.get?_push_size _ (by rw [← hN]; rfl)
    have isSet : Shared.TypeIs { s with heap := s.heap.push N } (.ref s.heap.objs.size) "set" := ⟨_, at0, by rw [← hN]⟩
    have v1 := PySem.F.called_set.init.lookup
    have v2 := PySem.F.called_set.init.bind (.ref s.heap.objs.size)
    repeat (any_goals (first | assumption | wp_step))
    refine codeAny_mono (codeAny_call_builtin (R := wants (fun r z => r = .none ∧ ∃ h2 tk c, z = { s with heap := h2, toks := tk } ∧ SetR w h2 s.heap.objs.size (fun j => decide (j ∈ ns)) c ∧ c ≤ ns.length ∧ ∀ b o, s.heap.get? b = some o → h2.get? b = some o) E)
      PySem.F.called_set.init.plain PySem.F.entry_set_init (check_set_init_1 isSet ?_)) fun r z hr => ?_
    · -- the items are laid in, one by one
      subst hN
      obtain ⟨⟨ocl, odi, oda, osl⟩, at1, e1, n1, e2⟩ := id hL
      simp only at e1 e2
      subst e1; subst e2
      have at2 : (s.heap.push { cls := .type "set", dict := none, data := .set #[] 0 (.fresh 0 0 (!w.params.followText "set-order")) }).get? l = some { cls := .type "list", dict := odi, data := .seq its n1, slots := osl } := Heap.get?_push_of_some _ at1
      have x1 := PySem.F.sub_list_set
      have x2 := PySem.F.sub_list_frozenset
      have x3 : (Value.type "list" == Value.type "dict") = false := by decide
      have lst1 : (s.heap.push { cls := .type "set", dict := none, data := .set #[] 0 (.fresh 0 0 (!w.params.followText "set-order")) }).IsList l its := ⟨_, at2, rfl, n1, rfl⟩
      unfold Builtin.«set.__init__» noKeywords Builtin.Frozenset.updateFrom
      generalize hp : pyIter = pit
      wp_walk
      subst hp
      refine wpAny_pyIter_list lst1 ?_
      refine wpAny_bind (wpAny_runValue ?_)
      have below : l < s.heap.objs.size := Heap.lt_size at1
      have size1 : ∀ o, (s.heap.push o).objs.size = s.heap.objs.size + 1 := fun o => Heap.size_push ..
      have nl : ∀ o, l ≠ (s.heap.push o).objs.size := fun o => by rw [size1]; exact Nat.ne_of_lt (Nat.lt_succ_of_lt below)
      have nS : ∀ o, s.heap.objs.size ∉ [(s.heap.push o).objs.size, l] := fun o z => by
        rcases List.mem_cons.mp z with z | z
        · rw [size1] at z; exact absurd z (Nat.ne_of_lt (Nat.lt_succ_self _))
        · exact absurd (List.mem_singleton.mp z) (Nat.ne_of_gt below)
      have vals : ∀ (i : Nat) (v : Value), its[i]? = some v → ∃ k t, ns[i]? = some k ∧ v = .int k t := fun i v hv => by
        have hi : i < ns.length := by rw [← len]; exact (Array.getElem?_eq_some_iff.mp hv).1
        obtain ⟨t, e⟩ := PyProof.Rows.IntsAre.int_at hI i v (by rw [Array.getElem?_toList]; exact hv)
        exact ⟨ns[i], t, List.getElem?_eq_getElem hi, by rw [e, List.getD_eq_getElem?_getD, List.getElem?_eq_getElem hi]; rfl⟩
      refine set_update_ints ((Walks.list (by simp [hA]) _ l (nl _) its).toS) s.heap.objs.size (nS _) ns len room vals (its.size - 0) 0 _ (by omega) (Nat.zero_le _) ⟨⟨_, Heap.get?_push_size _ rfl, rfl, rfl⟩, lst1.push _⟩ ?_ ?_
      · refine ⟨0, Nat.le_refl 0, setR_new_at ?_⟩
        exact Heap.get?_push_of_some _ at0
      · rintro ⟨h3, g3, d3, t3, o3⟩ c mv hc hS
        have q1 : g3 = s.gens := mv.gens
        have q2 : d3 = s.drawn := mv.drawn
        have q3 : o3 = s.os := mv.os
        subst q1 q2 q3
        show wpAny _ _ _ _ _ _
        refine wpAny_pure ?_
        show wpAny _ _ (ret Value.none) _ _ _
        refine wpAny_pure ⟨rfl, h3, t3, c, rfl, hS, by rw [← len]; exact hc, fun b o e => ?_⟩
        have hb := Heap.lt_size e
        refine mv.heap b o (fun z => ?_) (Heap.get?_push_of_some _ (Heap.get?_push_of_some _ e))
        rcases List.mem_cons.mp z with z | z
        · exact absurd z (Nat.ne_of_lt hb)
        · rw [List.mem_singleton.mp z, size1] at hb
          exact absurd hb (Nat.not_lt_of_le (Nat.le_succ _))
    · match r, hr with
      | .error e, hr => exact hr
      | .ok .next, hr => exact hr.elim
      | .ok .brk, hr => exact hr.elim
      | .ok .cont, hr => exact hr.elim
      | .ok (.ret x), hr =>
        obtain ⟨rfl, h3, t3, c, rfl, hS, hc, hk⟩ := hr
        repeat (any_goals (first | assumption | wp_step))
        exact fin _ _ _ hS hc hk
end
/-- set(xs) -/
def rSetOf (w : World) (K : PySem.W.Frag) : List V → Hp → VK → Prop := fun vs H Q => ∃ (a : Addr) (ns : List Int), vs = [V.ref a] ∧ SqL K H a (ns.map V.int) ∧ ns.length ≤ 1000 ∧
  ∀ (c : Nat) (p : Addr), c ≤ ns.length → H p = none → Q (.ref p) (upd H p (SetO w p (fun j => decide (j ∈ ns)) c))
section
variable {X : Cx} {K : PySem.W.Frag} {w : World}
theorem cr_setOf (h : X.K = K) (hw : X.w = w) (hc : X.calm = true) : CallR X (.type "set") (rSetOf w K) := by
  subst h hw
  intro pins s σ H xs us Q I r hq
  obtain ⟨a, ns, rfl, hS, hl, q⟩ := hq
  rw [Vals.ref1 r]
  obtain ⟨its, rv, pl, hz⟩ := I.list hS
  refine mk_set_of_list ns (I.ok.hd hc) pl.isList (by simpa using Vals.ints rv) (by unfold scanBound; omega) fun h2 tk c R hcn keep => ?_
  have hn : H s.heap.objs.size = none := I.hok.fresh (Nat.le_refl _)
  exact ⟨.ref _, upd H s.heap.objs.size (SetO X.w s.heap.objs.size (fun j => decide (j ∈ ns)) c), I.laid (t' := tk) keep (Nat.le_refl _) (setO_new R), rfl, q c _ hcn hn⟩
theorem cr_sortedSetK (hw : X.w = w) (hc : X.calm = true) : CallR X (.builtin "sorted") (rSortedSet w) := by subst hw; exact cr_sortedSet hc
end
end Lw
namespace Lw
open PySem PySem.Spec PyProof.Rows L2
section
variable {K : PySem.W.Frag} {w : World} {H : Hp} {Q : VK}
theorem r_setOf {a : Addr} {ns : List Int} (h : H a = some (.lst (ns.map V.int))) (hl : ns.length ≤ 1000) (q : ∀ (c : Nat) (p : Addr), c ≤ ns.length → H p = none → Q (.ref p) (upd H p (SetO w p (fun j => decide (j ∈ ns)) c))) : rSetOf w K [.ref a] H Q := ⟨a, ns, rfl, SqL.of h, hl, q⟩
theorem r_sortedSet {a : Addr} {S : Int → Bool} {n : Nat} (h : H a = some (SetO w a S n)) (hl : n < 64) (q : ∀ (ns : List Int) (p : Addr), ns.Pairwise (· < ·) → (∀ k : Int, k ∈ ns ↔ S k = true) → ns.length = n → H p = none → Q (.ref p) (upd H p (.lst (ns.map V.int)))) : rSortedSet w [.ref a] H Q := ⟨a, S, n, rfl, h, hl, q⟩
theorem r_index {a : Addr} {ns : List Int} {y : Int} {j : Nat} (h : H a = some (.lst (ns.map V.int))) (h1 : ns[j]? = some y) (h2 : ∀ m, m < j → ns[m]? ≠ some y) (q : Q (.int j) H) : rIndex K (.ref a) [.int y] H Q := by
  refine ⟨a, ns.map V.int, .int y, j, .int y, rfl, rfl, SqL.of h, rfl, ?_, by rw [List.getElem?_map, h1]; rfl, by simp [eqV], fun m z' hm hz => ?_, q⟩
  · rw [List.all_map]; exact List.all_eq_true.mpr fun x _ => rfl
  · rw [List.getElem?_map] at hz
    cases e : ns[m]? with
    | none => rw [e] at hz; cases hz
    | some x =>
      rw [e] at hz
      rw [← Option.some.inj hz]
      have hne : x ≠ y := fun z => h2 m hm (by rw [e, z])
      simp [eqV, hne]
end
theorem first_at {ns : List Int} {y : Int} (h : y ∈ ns) : ∃ j : Nat, ns[j]? = some y ∧ (∀ m, m < j → ns[m]? ≠ some y) ∧ j < ns.length := by
  induction ns with
  | nil => cases h
  | cons a r ih =>
    by_cases e : a = y
    · exact ⟨0, by rw [e]; rfl, fun m hm => absurd hm (Nat.not_lt_zero _), Nat.succ_pos _⟩
    · have h2 : y ∈ r := by
        rcases List.mem_cons.mp h with q | q
        · exact absurd q.symm e
        · exact q
      obtain ⟨j, h3, h4, h5⟩ := ih h2
      refine ⟨j + 1, h3, fun m hm => ?_, Nat.succ_lt_succ h5⟩
      cases m with
      | zero => exact fun q => e (Option.some.inj q)
      | succ m => exact h4 m (Nat.lt_of_succ_lt_succ hm)
end Lw
namespace Lw
theorem perm_ins {α : Type} (r : List α) (n : Nat) (k : α) : (r.take n ++ [k] ++ r.drop n).Perm (r ++ [k]) := by
  rw [List.append_assoc]
  have h := (List.perm_append_comm (l₁ := [k]) (l₂ := r.drop n)).append_left (r.take n)
  have e : r.take n ++ (r.drop n ++ [k]) = r ++ [k] := by rw [← List.append_assoc, List.take_append_drop]
  rw [e] at h
  exact h
end Lw
namespace Lw
open PySem PySem.Spec PyProof.Rows L2
section
variable {K : PySem.W.Frag} {H : Hp} {Q : VK}
theorem r_inI {neg : Bool} {a : Addr} {ns : List Int} {z : Int} (h : H a = some (.lst (ns.map V.int))) (q : Q (.bl (if neg then !decide (z ∈ ns) else decide (z ∈ ns))) H) : rIn K neg (.int z) (.ref a) H Q := by
  have e : inV (.int z) (ns.map V.int) = decide (z ∈ ns) := by
    unfold inV
    rw [List.any_map]
    by_cases h : z ∈ ns
    · rw [decide_eq_true h]; exact List.any_eq_true.mpr ⟨z, h, by simp [eqV]⟩
    · rw [decide_eq_false h]
      refine List.any_eq_false.mpr fun x hx => ?_
      have hne : x ≠ z := fun e => h (e ▸ hx)
      simp [eqV, hne]
  refine ⟨a, ns.map V.int, rfl, .inl (SqL.of h), rfl, ?_, ?_⟩
  · rw [List.all_map]; exact List.all_eq_true.mpr fun x _ => rfl
  · rw [e]; exact q
theorem r_cat {a b : Addr} {xs ys : List V} (h1 : H a = some (.lst xs)) (h2 : H b = some (.lst ys)) (hz : xs.length + ys.length ≤ 100000) (q : ∀ p, H p = none → Q (.ref p) (upd H p (.lst (xs ++ ys)))) : rCat (.ref a) (.ref b) H Q := ⟨a, b, xs, ys, rfl, rfl, h1, h2, Nat.le_of_lt (small hz), q⟩
theorem r_iteB {b : Bool} {A B : Prop} (h1 : b = true → A) (h2 : b = false → B) : if b = true then A else B := by
  cases b
  · rw [if_neg (by decide)]; exact h2 rfl
  · rw [if_pos rfl]; exact h1 rfl
end
end Lw
/-! lists of ints and lists of lists of ints as data, for == -/
namespace Lw
open PySem PySem.Spec PyProof.Rows L2
def dI (xs : List Int) : PyData := .list (xs.map PyData.int)
def dR (rs : List (List Int)) : PyData := .list (rs.map dI)
section
variable {K : PySem.W.Frag} {H : Hp}
theorem dpAllI : ∀ xs : List Int, DpAll K H (xs.map V.int) (xs.map PyData.int)
  | [] => .nil
  | x :: r => .cons (.int x) (dpAllI r)
theorem dpI {a : Addr} {xs : List Int} (h : H a = some (.lst (xs.map V.int))) : Dp K H (.ref a) (dI xs) := .lst (SqL.of h) (dpAllI xs)
theorem dpAllR : ∀ {as : List Addr} {rs : List (List Int)}, Rw H as rs → DpAll K H (as.map V.ref) (rs.map dI)
  | [], [], _ => .nil
  | [], _ :: _, h => by have := h.1; simp at this
  | _ :: _, [], h => by have := h.1; simp at this
  | a :: as, r :: rs, h => by
    obtain ⟨r', h1, h2⟩ := h.2 0 a rfl
    have e : r = r' := Option.some.inj h1
    refine .cons (dpI (by rw [e]; exact h2)) (dpAllR ⟨by have := h.1; simpa using this, fun i b hb => ?_⟩)
    obtain ⟨r2, h3, h4⟩ := h.2 (i + 1) b hb
    exact ⟨r2, h3, h4⟩
theorem dpR {a : Addr} {as : List Addr} {rs : List (List Int)} (h : H a = some (.lst (as.map V.ref))) (hr : Rw H as rs) : Dp K H (.ref a) (dR rs) := .lst (SqL.of h) (dpAllR hr)
end
theorem layI : ∀ xs : List Int, PyData.canLayAll0 (xs.map PyData.int) = true
  | [] => rfl
  | x :: r => by
    show (true && PyData.canLayAll0 (r.map PyData.int)) = true
    rw [layI r]; rfl
theorem layR : ∀ rs : List (List Int), PyData.canLayAll0 (rs.map dI) = true
  | [] => rfl
  | x :: r => by
    show (PyData.canLay0 (dI x) && PyData.canLayAll0 (r.map dI)) = true
    rw [layR r]
    show (PyData.canLayAll0 (x.map PyData.int) && true) = true
    rw [layI x]; rfl
theorem eqI : ∀ xs ys : List Int, PyData.eqvAll (xs.map PyData.int) (ys.map PyData.int) = decide (xs = ys)
  | [], [] => by simp [PyData.eqvAll]
  | [], _ :: _ => by simp [PyData.eqvAll]
  | _ :: _, [] => by simp [PyData.eqvAll]
  | x :: xs, y :: ys => by
    rw [List.map_cons, List.map_cons, PyData.eqvAll, eqI xs ys, PyData.eqv]
    by_cases h : x = y <;> by_cases h2 : xs = ys <;> simp [h, h2]
theorem eqR : ∀ xs ys : List (List Int), PyData.eqvAll (xs.map dI) (ys.map dI) = decide (xs = ys)
  | [], [] => by simp [PyData.eqvAll]
  | [], _ :: _ => by simp [PyData.eqvAll]
  | _ :: _, [] => by simp [PyData.eqvAll]
  | x :: xs, y :: ys => by
    rw [List.map_cons, List.map_cons, PyData.eqvAll, eqR xs ys, show PyData.eqv (dI x) (dI y) = decide (x = y) from by unfold dI; rw [PyData.eqv, eqI]]
    by_cases h : x = y <;> by_cases h2 : xs = ys <;> simp [h, h2]
end Lw
namespace Lw
open PySem PySem.Spec PyProof.Rows L2
theorem depI : ∀ xs : List Int, PyData.depthAll (xs.map PyData.int) = 0
  | [] => by simp [PyData.depthAll]
  | x :: r => by rw [List.map_cons, PyData.depthAll, depI r, PyData.depth]; rfl
theorem depR : ∀ rs : List (List Int), PyData.depthAll (rs.map dI) ≤ 1
  | [] => by simp [PyData.depthAll]
  | x :: r => by
    rw [List.map_cons, PyData.depthAll, show PyData.depth (dI x) = 1 from by unfold dI; rw [PyData.depth, depI]]
    exact Nat.max_le.mpr ⟨Nat.le_refl 1, depR r⟩
theorem shI (xs : List Int) : SeqAt.shaped (dI xs) = true := by
  unfold SeqAt.shaped
  rw [show PyData.canLay0 (dI xs) = true from by unfold dI; rw [PyData.canLay0]; exact layI xs, show PyData.depth (dI xs) = 1 from by unfold dI; rw [PyData.depth, depI]]
  rfl
theorem shR (rs : List (List Int)) : SeqAt.shaped (dR rs) = true := by
  unfold SeqAt.shaped
  rw [show PyData.canLay0 (dR rs) = true from by unfold dR; rw [PyData.canLay0]; exact layR rs]
  have h : PyData.depth (dR rs) ≤ 64 := by unfold dR; rw [PyData.depth]; have := depR rs; omega
  rw [decide_eq_true h]; rfl
section
variable {K : PySem.W.Frag} {σ : L2.St} {H : Hp} {Q : VK} {D : Ends}
theorem r_eqI {a b : Addr} {xs ys : List Int} (h1 : H a = some (.lst (xs.map V.int))) (h2 : H b = some (.lst (ys.map V.int))) (q : Q (.bl (decide (xs = ys))) H) : rEqD K (.ref a) (.ref b) H Q :=
  ⟨dI xs, dI ys, dpI h1, dpI h2, shI xs, shI ys, by unfold dI; rw [PyData.eqv, eqI]; exact q⟩
theorem r_neI {a b : Addr} {xs ys : List Int} (h1 : H a = some (.lst (xs.map V.int))) (h2 : H b = some (.lst (ys.map V.int))) (q : Q (.bl (!decide (xs = ys))) H) : rNeD K (.ref a) (.ref b) H Q :=
  ⟨dI xs, dI ys, dpI h1, dpI h2, shI xs, shI ys, by unfold dI; rw [PyData.eqv, eqI]; exact q⟩
theorem r_eqR {a b : Addr} {as bs : List Addr} {xs ys : List (List Int)} (h1 : H a = some (.lst (as.map V.ref))) (h2 : H b = some (.lst (bs.map V.ref))) (r1 : Rw H as xs) (r2 : Rw H bs ys) (q : Q (.bl (decide (xs = ys))) H) : rEqD K (.ref a) (.ref b) H Q :=
  ⟨dR xs, dR ys, dpR h1 r1, dpR h2 r2, shR xs, shR ys, by unfold dR; rw [PyData.eqv, eqR]; exact q⟩
theorem r_while {c : TT} {tb : TS} (Pv : Nat → L2.St → Hp → Prop) (h0 : ∃ m, Pv m σ H) (hs : ∀ m σ H, Pv m σ H → c σ H fun b H1 => if b = true then ∃ N : L2.St → Hp → Prop, (∀ σ' H', N σ' H' → ∃ m', m' < m ∧ Pv m' σ' H') ∧ tb { D with nx := N, ct := N, bk := D.nx } σ H1 else D.nx σ H1) : tWhile c tb D σ H := ⟨Pv, h0, hs⟩
end
end Lw
/-! enumerate: loops and comprehensions; rows that are written -/
namespace Lw
open PySem PySem.Spec PyProof.Rows L2
section
variable {K : PySem.W.Frag} {σ : L2.St} {H : Hp} {D : Ends} {g : TG} {tb : TS}
theorem r_forE {a : Addr} {xs : List V} (hx : H a = some (.lst xs)) (Pv : Nat → L2.St → Hp → Prop) (h0 : Pv 0 σ H) (hl : ∀ i σ H, i ≤ xs.length → Pv i σ H → H a = some (.lst xs))
    (hs : ∀ i x σ H t, xs[i]? = some x → Pv i σ H → H t = none → g (.ref t) σ (upd H t (.tup [.int (i : Nat), x])) fun σ2 H2 => tb { D with nx := Pv (i + 1), ct := Pv (i + 1), bk := D.nx } σ2 H2) (hd : ∀ σ H, Pv xs.length σ H → D.nx σ H) :
    ∃ b ys, [V.ref a] = [.ref b] ∧ SqL K H b ys ∧ ∃ W : Nat → Nat → L2.St → Hp → Prop, (∃ m, W 0 m σ H) ∧ ∀ i m σ H, W i m σ H →
      ((Ite K b).stop i H ∧ D.nx σ H) ∨ ((Ite K b).go i H ∧ ∃ N : L2.St → Hp → Prop, (∀ σ' H', N σ' H' → ∃ m', m' < m ∧ W (i + 1) m' σ' H') ∧ ∀ x H', (Ite K b).yld i H x H' → g x σ H' fun σ2 H2 => tb { D with nx := N, ct := N, bk := D.nx } σ2 H2) := by
  refine ⟨a, xs, rfl, SqL.of hx, fun i m σ H => m = xs.length - i ∧ i ≤ xs.length ∧ Pv i σ H, ⟨xs.length, by simp, Nat.zero_le _, h0⟩, ?_⟩
  rintro i m σ H ⟨rfl, hi, p⟩
  have q := hl i σ H hi p
  by_cases hlt : i < xs.length
  · refine .inr ⟨⟨xs, xs[i], SqL.of q, by simp [hlt]⟩, Pv (i + 1), fun σ' H' p' => ⟨xs.length - (i + 1), by omega, rfl, hlt, p'⟩, fun x H' y => ?_⟩
    obtain ⟨t, x', rfl, nt, rfl, y⟩ := y
    exact hs i x' σ H t (y xs (SqL.of q)) p nt
  · have e : i = xs.length := by omega
    subst e
    exact .inl ⟨⟨xs, SqL.of q, Nat.le_refl _⟩, hd σ H p⟩
end
section
variable {S : Type} {F : S → Hp → Hp} {ok : S → Hp → Prop} (T : TopOk F ok) {σ : L2.St} {g : TG} {tt : TT} {te : TE} {vs : List Nat} {Q : Addr → Hp → Prop}
include T
theorem lcT_enum {K : PySem.W.Frag} {s0 : S} {B : Hp} (k : ok s0 B) {a : Addr} {xs : List V} (ha : B a = some (.lst xs)) (Pv : Nat → Hp → List V → Prop) (mono : ∀ i C C' acc, Same C C' → Pv i C acc → Pv i C' acc) (h0 : Pv 0 B [])
    (hs : ∀ D i x s C acc t, ok s (upd C D (.lst acc)) → C D = none → Same B C → xs[i]? = some x → C t = some (.tup [.int (i : Nat), x]) → Pv i C acc → g (.ref t) (wipe σ vs) (F s (upd C D (.lst acc))) fun σ2 H2 => wipe σ2 vs = wipe σ vs ∧ tt σ2 H2 fun b H3 =>
      if b = true then te σ2 H3 fun y H4 => ∃ acc', H4 D = some (.lst acc') ∧ acc'.length < sizeLine ∧ LcN F ok B D (Pv (i + 1)) (upd H4 D (.lst (acc' ++ [y]))) else LcN F ok B D (Pv (i + 1)) H3)
    (hd : ∀ D s C acc, ok s (upd C D (.lst acc)) → B D = none → C D = none → Same B C → Pv xs.length C acc → Q D (F s (upd C D (.lst acc)))) :
    ∃ b ys, [V.ref a] = [.ref b] ∧ SqL K (F s0 B) b ys ∧ ∀ D, (F s0 B) D = none → ∃ W : Nat → Nat → Hp → Prop, (∃ m, W 0 m (upd (F s0 B) D (.lst []))) ∧ ∀ i m H, W i m H →
      ((Ite K b).stop i H ∧ Q D H) ∨ ((Ite K b).go i H ∧ ∃ Nx : Hp → Prop, (∀ H', Nx H' → ∃ m', m' < m ∧ W (i + 1) m' H') ∧ ∀ x H', (Ite K b).yld i H x H' → g x (wipe σ vs) H' fun σ2 H2 => wipe σ2 vs = wipe σ vs ∧ tt σ2 H2 fun b H3 =>
        if b = true then te σ2 H3 fun y H4 => ∃ acc, H4 D = some (.lst acc) ∧ acc.length < sizeLine ∧ Nx (upd H4 D (.lst (acc ++ [y]))) else Nx H3) := by
  refine ⟨a, xs, rfl, SqL.of (T.get _ _ _ _ k ha), fun D hD => ?_⟩
  obtain ⟨hB, hn⟩ := T.new s0 B D k hD
  refine ⟨fun i m H => m = xs.length - i ∧ i ≤ xs.length ∧ LcN F ok B D (Pv i) H, ⟨xs.length, by simp, Nat.zero_le _, ?_⟩, ?_⟩
  · rw [(hn _).1]
    exact ⟨s0, B, [], rfl, (hn _).2, hB, Same.refl B, h0⟩
  · rintro i m H ⟨rfl, hi, s, C, acc, rfl, k', hD', hS, hp⟩
    have hA : SqL K (F s (upd C D (.lst acc))) a xs := SqL.of (T.get _ _ _ _ k' (upd_old hD' (hS _ _ ha)))
    by_cases hlt : i < xs.length
    · refine .inr ⟨⟨xs, xs[i], hA, by simp [hlt]⟩, fun H' => LcN F ok B D (Pv (i + 1)) H', fun H' p' => ⟨xs.length - (i + 1), by omega, rfl, hlt, p'⟩, fun x H' y => ?_⟩
      obtain ⟨t, x', rfl, nt, rfl, y⟩ := y
      obtain ⟨e, k2, hD2, n2, ne2⟩ := newTD_eq T k' hD' nt (.tup [.int (i : Nat), x'])
      rw [e]
      exact hs D i x' s _ acc t k2 hD2 (hS.trans (same_new n2)) (y xs hA) upd_same (mono _ _ _ _ (same_new n2) hp)
    · have e : i = xs.length := by omega
      subst e
      exact .inl ⟨⟨xs, hA, Nat.le_refl _⟩, hd D s C acc k' hB hD' hS hp⟩
end
theorem Rw.write {C : Hp} {as : List Addr} {rs : List (List Int)} (h : Rw C as rs) (hn : as.Nodup) {k : Nat} {b : Addr} (hb : as[k]? = some b) (r' : List Int) : Rw (upd C b (.lst (r'.map V.int))) as (rs.set k r') := by
  refine ⟨by rw [List.length_set, h.1], fun i c hc => ?_⟩
  by_cases e : k = i
  · subst e
    rw [hb] at hc
    cases hc
    have hk := (List.getElem?_eq_some_iff.mp hb).1
    exact ⟨r', List.getElem?_set_self (by rw [← h.1]; exact hk), upd_same⟩
  · obtain ⟨r, h1, h2⟩ := h.2 i c hc
    have hne : c ≠ b := fun q => by
      rw [q] at hc
      exact e (nd_ix hn hb hc)
    exact ⟨r, by rw [List.getElem?_set_ne e]; exact h1, by rw [upd_ne hne]; exact h2⟩
theorem r_enumE {K : PySem.W.Frag} {σ : L2.St} {H : Hp} {ta : TA} {R : It → Hp → Prop} (h : ta σ H fun vs H1 => ∃ a xs, vs = [.ref a] ∧ SqL K H1 a xs ∧ R (Ite K a) H1) : iEnum K ta σ H R := h
end Lw
namespace Lw
open PySem PySem.Spec PyProof.Rows L2
theorem r_isi {K : PySem.W.Frag} {H : Hp} {Q : VK} {x : V} {a b : String} {r : Bool} (ty : TyX K H x (.type a)) (k : kitB a b = some r) (q : Q (.bl r) H) : rIsi K [x, .ty b] H Q := ⟨x, .ty b, .type a, .type b, r, rfl, .ty b, ty, kit_ty k, q⟩
end Lw
/-! rows of any kind, tuples in lists, comprehensions with two fors, deep `in` and `index`, defs with keyword-only parameters -/
namespace Lw
open PySem PySem.Spec PyProof.Rows L2
/-! ### rows of any kind -/
def Ro {α : Type} (f : α → V) (C : Hp) (as : List Addr) (rs : List (List α)) : Prop := as.length = rs.length ∧ ∀ (i : Nat) (b : Addr), as[i]? = some b → ∃ r, rs[i]? = some r ∧ C b = some (.lst (r.map f))
section
variable {α : Type} {f : α → V}
theorem Ro.nil {C : Hp} : Ro f C [] [] := ⟨rfl, fun i b h => by simp at h⟩
theorem Ro.mono {C C' : Hp} {as : List Addr} {rs : List (List α)} (h : Ro f C as rs) (s : Same C C') : Ro f C' as rs :=
  ⟨h.1, fun i b e => by obtain ⟨r, h1, h2⟩ := h.2 i b e; exact ⟨r, h1, s _ _ h2⟩⟩
theorem Ro.push {C : Hp} {as : List Addr} {rs : List (List α)} {b : Addr} {r : List α} (h : Ro f C as rs) (e : C b = some (.lst (r.map f))) : Ro f C (as ++ [b]) (rs ++ [r]) := by
  refine ⟨by rw [List.length_append, List.length_append, h.1]; rfl, fun i c hc => ?_⟩
  by_cases hi : i < as.length
  · rw [List.getElem?_append_left hi] at hc
    obtain ⟨r', h1, h2⟩ := h.2 i c hc
    exact ⟨r', by rw [List.getElem?_append_left (by rw [← h.1]; exact hi)]; exact h1, h2⟩
  · rw [List.getElem?_append_right (by omega)] at hc
    have h0 : i - as.length = 0 := by
      have := (List.getElem?_eq_some_iff.mp hc).1
      rw [List.length_singleton] at this; omega
    rw [h0] at hc
    cases hc
    exact ⟨r, by rw [List.getElem?_append_right (by rw [← h.1]; omega), ← h.1, h0]; rfl, e⟩
theorem Ro.at {C : Hp} {as : List Addr} {rs : List (List α)} {i : Nat} {x : V} (h : Ro f C as rs) (e : (as.map V.ref)[i]? = some x) : ∃ b r, x = .ref b ∧ as[i]? = some b ∧ rs[i]? = some r ∧ C b = some (.lst (r.map f)) := by
  rw [List.getElem?_map] at e
  cases q : as[i]? with
  | none => rw [q] at e; cases e
  | some b =>
    rw [q] at e
    obtain ⟨r, h1, h2⟩ := h.2 i b q
    exact ⟨b, r, (Option.some.inj e).symm, rfl, h1, h2⟩
theorem Ro.get {C : Hp} {as : List Addr} {rs : List (List α)} {i : Nat} {r : List α} (h : Ro f C as rs) (e : rs[i]? = some r) : ∃ b, as[i]? = some b ∧ (as.map V.ref)[i]? = some (.ref b) ∧ C b = some (.lst (r.map f)) := by
  have hi : i < as.length := by rw [h.1]; exact (List.getElem?_eq_some_iff.mp e).1
  obtain ⟨r', h1, h2⟩ := h.2 i _ (List.getElem?_eq_getElem hi)
  rw [e] at h1; cases h1
  exact ⟨_, List.getElem?_eq_getElem hi, by rw [List.getElem?_map, List.getElem?_eq_getElem hi]; rfl, h2⟩
theorem Ro.write {C : Hp} {as : List Addr} {rs : List (List α)} (h : Ro f C as rs) (hn : as.Nodup) {k : Nat} {b : Addr} (hb : as[k]? = some b) (r' : List α) : Ro f (upd C b (.lst (r'.map f))) as (rs.set k r') := by
  refine ⟨by rw [List.length_set, h.1], fun i c hc => ?_⟩
  by_cases e : k = i
  · subst e
    rw [hb] at hc
    cases hc
    exact ⟨r', List.getElem?_set_self (by rw [← h.1]; exact (List.getElem?_eq_some_iff.mp hb).1), upd_same⟩
  · obtain ⟨r, h1, h2⟩ := h.2 i c hc
    refine ⟨r, by rw [List.getElem?_set_ne e]; exact h1, ?_⟩
    rw [upd_ne]
    · exact h2
    · intro z
      subst z
      obtain ⟨h3, e3⟩ := List.getElem?_eq_some_iff.mp hb
      obtain ⟨h4, e4⟩ := List.getElem?_eq_some_iff.mp hc
      exact e ((List.getElem_inj hn).mp (e3.trans e4.symm))
theorem Ro.isRw {C : Hp} {as : List Addr} {rs : List (List Int)} : Ro V.int C as rs ↔ Rw C as rs := Iff.rfl
theorem bls_at {r : List Bool} {i : Nat} {x : V} (e : (r.map V.bl)[i]? = some x) : ∃ z, x = .bl z ∧ r[i]? = some z := by
  rw [List.getElem?_map] at e
  cases q : r[i]? with
  | none => rw [q] at e; cases e
  | some z => rw [q] at e; exact ⟨z, (Option.some.inj e).symm, rfl⟩
theorem map_at {r : List α} {i : Nat} {z : α} (e : r[i]? = some z) : (r.map f)[i]? = some (f z) := by rw [List.getElem?_map, e]; rfl
end
/-! ### pairs of ints in a list -/
def Tp (C : Hp) (ts : List Addr) (qs : List (Int × Int)) : Prop := ts.length = qs.length ∧ ∀ (i : Nat) (b : Addr), ts[i]? = some b → ∃ q, qs[i]? = some q ∧ C b = some (.tup [.int q.1, .int q.2])
theorem Tp.nil {C : Hp} : Tp C [] [] := ⟨rfl, fun i b h => by simp at h⟩
theorem Tp.mono {C C' : Hp} {ts : List Addr} {qs : List (Int × Int)} (h : Tp C ts qs) (s : Same C C') : Tp C' ts qs :=
  ⟨h.1, fun i b e => by obtain ⟨r, h1, h2⟩ := h.2 i b e; exact ⟨r, h1, s _ _ h2⟩⟩
theorem Tp.push {C : Hp} {ts : List Addr} {qs : List (Int × Int)} {b : Addr} {q : Int × Int} (h : Tp C ts qs) (e : C b = some (.tup [.int q.1, .int q.2])) : Tp C (ts ++ [b]) (qs ++ [q]) := by
  refine ⟨by rw [List.length_append, List.length_append, h.1]; rfl, fun i c hc => ?_⟩
  by_cases hi : i < ts.length
  · rw [List.getElem?_append_left hi] at hc
    obtain ⟨r', h1, h2⟩ := h.2 i c hc
    exact ⟨r', by rw [List.getElem?_append_left (by rw [← h.1]; exact hi)]; exact h1, h2⟩
  · rw [List.getElem?_append_right (by omega)] at hc
    have h0 : i - ts.length = 0 := by
      have := (List.getElem?_eq_some_iff.mp hc).1
      rw [List.length_singleton] at this; omega
    rw [h0] at hc
    cases hc
    exact ⟨q, by rw [List.getElem?_append_right (by rw [← h.1]; omega), ← h.1, h0]; rfl, e⟩
theorem Tp.at {C : Hp} {ts : List Addr} {qs : List (Int × Int)} {i : Nat} {x : V} (h : Tp C ts qs) (e : (ts.map V.ref)[i]? = some x) : ∃ b q, x = .ref b ∧ ts[i]? = some b ∧ qs[i]? = some q ∧ C b = some (.tup [.int q.1, .int q.2]) := by
  rw [List.getElem?_map] at e
  cases q : ts[i]? with
  | none => rw [q] at e; cases e
  | some b =>
    rw [q] at e
    obtain ⟨r, h1, h2⟩ := h.2 i b q
    exact ⟨b, r, (Option.some.inj e).symm, rfl, h1, h2⟩
theorem Tp.keep {C C' : Hp} {ts : List Addr} {qs : List (Int × Int)} (h : Tp C ts qs) (s : ∀ t ∈ ts, C' t = C t) : Tp C' ts qs :=
  ⟨h.1, fun i b e => by obtain ⟨r, h1, h2⟩ := h.2 i b e; exact ⟨r, h1, by rw [s b (List.mem_of_getElem? e)]; exact h2⟩⟩
theorem Ro.keep {α : Type} {f : α → V} {C C' : Hp} {as : List Addr} {rs : List (List α)} (h : Ro f C as rs) (s : ∀ t ∈ as, C' t = C t) : Ro f C' as rs :=
  ⟨h.1, fun i b e => by obtain ⟨r, h1, h2⟩ := h.2 i b e; exact ⟨r, h1, by rw [s b (List.mem_of_getElem? e)]; exact h2⟩⟩
/-! ### a filter, turn by turn -/
theorem fl_put {α : Type} {p : α → Bool} {r : List α} {i : Nat} {x : α} (hx : r[i]? = some x) (hp : p x = true) : (r.take (i + 1)).filter p = (r.take i).filter p ++ [x] := by
  rw [List.take_add_one, hx, List.filter_append]; simp [hp]
theorem fl_skip {α : Type} {p : α → Bool} {r : List α} {i : Nat} {x : α} (hx : r[i]? = some x) (hp : p x = false) : (r.take (i + 1)).filter p = (r.take i).filter p := by
  rw [List.take_add_one, hx, List.filter_append]; simp [hp]
theorem mp_put {α β : Type} {p : α → β} {r : List α} {i : Nat} {x : α} (hx : r[i]? = some x) : (r.take (i + 1)).map p = (r.take i).map p ++ [p x] := by
  rw [List.take_add_one, hx, List.map_append]; rfl
/-! ### two fors in a comprehension -/
section
variable {S : Type} {F : S → Hp → Hp} {ok : S → Hp → Prop} (T : TopOk F ok) {σ σ2 : L2.St} {g g1 : TG} {tt tt1 : TT} {te : TE} {vs vs1 : List Nat} {wi1 : TI} {Q : Addr → Hp → Prop}
def Lin (vs1 : List Nat) (g1 : TG) (tt1 : TT) (te : TE) (σ2 : L2.St) (D : Addr) (Nx : Hp → Prop) : It → Hp → Prop := fun J1 H4 => ∃ W1 : Nat → Nat → Hp → Prop, (∃ m, W1 0 m H4) ∧ ∀ j k H, W1 j k H →
  (J1.stop j H ∧ Nx H) ∨ (J1.go j H ∧ ∃ Nx1 : Hp → Prop, (∀ H', Nx1 H' → ∃ k', k' < k ∧ W1 (j + 1) k' H') ∧ ∀ x H', J1.yld j H x H' → g1 x (wipe σ2 vs1) H' fun σ3 H5 => wipe σ3 vs1 = wipe σ2 vs1 ∧ tt1 σ3 H5 fun b H6 =>
    if b = true then te σ3 H6 fun y H7 => ∃ acc, H7 D = some (.lst acc) ∧ acc.length < sizeLine ∧ Nx1 (upd H7 D (.lst (acc ++ [y]))) else Nx1 H6)
include T
theorem lcT2_range {s0 : S} {B : Hp} (k : ok s0 B) {n : Int} (h1 : -4611686018427387904 ≤ n) (h2 : n < 4611686018427387904) (Pv : Nat → Hp → List V → Prop) (h0 : Pv 0 B [])
    (hs : ∀ D i s C acc, ok s (upd C D (.lst acc)) → C D = none → Same B C → i < n.toNat → Pv i C acc → g (.int i) (wipe σ vs) (F s (upd C D (.lst acc))) fun σ2 H2 => wipe σ2 vs = wipe σ vs ∧ tt σ2 H2 fun b H3 =>
      if b = true then wi1 σ2 H3 (Lin vs1 g1 tt1 te σ2 D (LcN F ok B D (Pv (i + 1)))) else LcN F ok B D (Pv (i + 1)) H3)
    (hd : ∀ D s C acc, ok s (upd C D (.lst acc)) → B D = none → C D = none → Same B C → Pv n.toNat C acc → Q D (F s (upd C D (.lst acc)))) :
    ∃ j : Int, [V.int n] = [.int j] ∧ -(2 ^ 62) ≤ j ∧ j < 2 ^ 62 ∧ ∀ D, (F s0 B) D = none → ∃ W : Nat → Nat → Hp → Prop, (∃ m, W 0 m (upd (F s0 B) D (.lst []))) ∧ ∀ i m H, W i m H →
      ((Itr 0 j.toNat).stop i H ∧ Q D H) ∨ ((Itr 0 j.toNat).go i H ∧ ∃ Nx : Hp → Prop, (∀ H', Nx H' → ∃ m', m' < m ∧ W (i + 1) m' H') ∧ ∀ x H', (Itr 0 j.toNat).yld i H x H' → g x (wipe σ vs) H' fun σ2 H2 => wipe σ2 vs = wipe σ vs ∧ tt σ2 H2 fun b H3 =>
        if b = true then wi1 σ2 H3 fun J1 H4 => ∃ W1 : Nat → Nat → Hp → Prop, (∃ m, W1 0 m H4) ∧ ∀ j k H, W1 j k H →
          (J1.stop j H ∧ Nx H) ∨ (J1.go j H ∧ ∃ Nx1 : Hp → Prop, (∀ H', Nx1 H' → ∃ k', k' < k ∧ W1 (j + 1) k' H') ∧ ∀ x H', J1.yld j H x H' → g1 x (wipe σ2 vs1) H' fun σ3 H5 => wipe σ3 vs1 = wipe σ2 vs1 ∧ tt1 σ3 H5 fun b H6 =>
            if b = true then te σ3 H6 fun y H7 => ∃ acc, H7 D = some (.lst acc) ∧ acc.length < sizeLine ∧ Nx1 (upd H7 D (.lst (acc ++ [y]))) else Nx1 H6)
        else Nx H3) := by
  refine ⟨n, rfl, h1, h2, fun D hD => ?_⟩
  obtain ⟨hB, hn⟩ := T.new s0 B D k hD
  refine ⟨fun i m H => m = n.toNat - i ∧ i ≤ n.toNat ∧ LcN F ok B D (Pv i) H, ⟨n.toNat, by simp, Nat.zero_le _, ?_⟩, ?_⟩
  · rw [(hn _).1]
    exact ⟨s0, B, [], rfl, (hn _).2, hB, Same.refl B, h0⟩
  · rintro i m H ⟨rfl, hi, s, C, acc, rfl, k', hD', hS, hp⟩
    by_cases hlt : i < n.toNat
    · refine .inr ⟨hlt, fun H' => LcN F ok B D (Pv (i + 1)) H', fun H' p' => ⟨n.toNat - (i + 1), by omega, rfl, hlt, p'⟩, fun x H' y => ?_⟩
      obtain ⟨rfl, rfl⟩ := y
      rw [Int.zero_add]
      exact hs D i s C acc k' hD' hS hlt hp
    · have e : i = n.toNat := by omega
      subst e
      exact .inl ⟨Nat.le_refl _, hd D s C acc k' hB hD' hS hp⟩
omit T in
theorem lin_range {B : Hp} {lo : Int} {m : Nat} {D : Addr} {Pn : Hp → List V → Prop} (Pw : Nat → Hp → List V → Prop) {s0 : S} {C0 : Hp} {acc0 : List V} (k : ok s0 (upd C0 D (.lst acc0))) (hD : C0 D = none) (hS : Same B C0) (h0 : Pw 0 C0 acc0)
    (hs : ∀ j s C acc, ok s (upd C D (.lst acc)) → C D = none → Same B C → j < m → Pw j C acc → g1 (.int (lo + j)) (wipe σ2 vs1) (F s (upd C D (.lst acc))) fun σ3 H5 => wipe σ3 vs1 = wipe σ2 vs1 ∧ tt1 σ3 H5 fun b H6 =>
      if b = true then te σ3 H6 fun y H7 => ∃ acc, H7 D = some (.lst acc) ∧ acc.length < sizeLine ∧ LcN F ok B D (Pw (j + 1)) (upd H7 D (.lst (acc ++ [y]))) else LcN F ok B D (Pw (j + 1)) H6)
    (hd : ∀ C acc, Pw m C acc → Pn C acc) : Lin vs1 g1 tt1 te σ2 D (LcN F ok B D Pn) (Itr lo m) (F s0 (upd C0 D (.lst acc0))) := by
  refine ⟨fun j q H => q = m - j ∧ j ≤ m ∧ LcN F ok B D (Pw j) H, ⟨m, by simp, Nat.zero_le _, s0, C0, acc0, rfl, k, hD, hS, h0⟩, ?_⟩
  rintro j q H ⟨rfl, hj, s, C, acc, rfl, k', hD', hS', hp⟩
  by_cases hlt : j < m
  · refine .inr ⟨hlt, fun H' => LcN F ok B D (Pw (j + 1)) H', fun H' p' => ⟨m - (j + 1), by omega, rfl, hlt, p'⟩, fun x H' y => ?_⟩
    obtain ⟨rfl, rfl⟩ := y
    exact hs j s C acc k' hD' hS' hlt hp
  · have e : j = m := by omega
    subst e
    exact .inl ⟨Nat.le_refl _, s, C, acc, rfl, k', hD', hS', hd C acc hp⟩
end
section
variable {σ : L2.St} {H : Hp} {Q : VK}
theorem r_lc2 {wi : TI} {g : TG} {tt : TT} {wi1 : TI} {g1 : TG} {tt1 : TT} {te : TE} {vs vs1 : List Nat} (h : wi σ H fun J H1 => ∀ D, H1 D = none → ∃ W : Nat → Nat → Hp → Prop, (∃ m, W 0 m (upd H1 D (.lst []))) ∧ ∀ i m H, W i m H →
  (J.stop i H ∧ Q (.ref D) H) ∨ (J.go i H ∧ ∃ Nx : Hp → Prop, (∀ H', Nx H' → ∃ m', m' < m ∧ W (i + 1) m' H') ∧ ∀ x H', J.yld i H x H' → g x (wipe σ vs) H' fun σ2 H2 => wipe σ2 vs = wipe σ vs ∧ tt σ2 H2 fun b H3 =>
    if b = true then wi1 σ2 H3 fun J1 H4 => ∃ W1 : Nat → Nat → Hp → Prop, (∃ m, W1 0 m H4) ∧ ∀ j k H, W1 j k H →
      (J1.stop j H ∧ Nx H) ∨ (J1.go j H ∧ ∃ Nx1 : Hp → Prop, (∀ H', Nx1 H' → ∃ k', k' < k ∧ W1 (j + 1) k' H') ∧ ∀ x H', J1.yld j H x H' → g1 x (wipe σ2 vs1) H' fun σ3 H5 => wipe σ3 vs1 = wipe σ2 vs1 ∧ tt1 σ3 H5 fun b H6 =>
        if b = true then te σ3 H6 fun y H7 => ∃ acc, H7 D = some (.lst acc) ∧ acc.length < sizeLine ∧ Nx1 (upd H7 D (.lst (acc ++ [y]))) else Nx1 H6)
    else Nx H3)) : tLc2 wi g tt wi1 g1 tt1 te vs vs1 σ H Q := h
theorem r_rng2 {ta : TA} {R : It → Hp → Prop} (h : ta σ H fun vs H1 => ∃ i j : Int, vs = [.int i, .int j] ∧ (-(2 ^ 62) ≤ i ∧ i < 2 ^ 62 ∧ -(2 ^ 62) ≤ j ∧ j < 2 ^ 62) ∧ R (Itr i (j - i).toNat) H1) : iRng2 ta σ H R := h
theorem r_isR2 {i j : Int} {R : It → Hp → Prop} (h1 : -4611686018427387904 ≤ i) (h2 : i < 4611686018427387904) (h3 : -4611686018427387904 ≤ j) (h4 : j < 4611686018427387904) (hq : R (Itr i (j - i).toNat) H) : ∃ a b : Int, [V.int i, .int j] = [.int a, .int b] ∧ (-(2 ^ 62) ≤ a ∧ a < 2 ^ 62 ∧ -(2 ^ 62) ≤ b ∧ b < 2 ^ 62) ∧ R (Itr a (b - a).toNat) H := ⟨i, j, rfl, ⟨h1, h2, h3, h4⟩, hq⟩
theorem r_any {K : PySem.W.Frag} {a : Addr} {bs : List Bool} (h : H a = some (.lst (bs.map V.bl))) (q : Q (.bl (bs.any id)) H) : rAny K [.ref a] H Q := ⟨a, bs, rfl, SqL.of h, q⟩
theorem r_callN {n m : Nat} {sp : Sp} {gV : List V → List V → List V} {E : XK} {t tk : TA} (h : t σ H fun vs H1 => tk σ H1 fun zs H2 => vs.length = n ∧ zs.length = m ∧ sp (gV vs zs) H2 Q E) : tCallN n m sp gV E t tk σ H Q := h
theorem r_callD {sp : Sp} {ds : List V} {E : XK} {t : TA} (h : t σ H fun vs H1 => sp (vs ++ ds) H1 Q E) : tCall sp ds E t σ H Q := h
end
/-! ### deep data -/
section
variable {X : Cx} {K : PySem.W.Frag}
theorem u65 {k : Nat} {A : Around} (r : Room k A) : A.units + 65 < cLine := by have := r.un; omega
theorem op_inDK (h : X.K = K) (hu : X.A.units + 65 < cLine) : OpR X (compareOp .In) (rInD K) := by subst h; exact op_inD hu
theorem op_notInDK (h : X.K = K) (hu : X.A.units + 65 < cLine) : OpR X (compareOp .NotIn) (rNotInD K) := by subst h; exact op_notInD hu
theorem mt_indexDK (h : X.K = K) (hu : X.A.units + 65 < cLine) : MtR X "list.index" (rIndexD K) := by subst h; exact mt_indexD hu
end
section
variable {K : PySem.W.Frag} {H : Hp} {Q : VK}
theorem eqI1 (xs ys : List Int) : PyData.eqv (dI xs) (dI ys) = decide (xs = ys) := eqI xs ys
theorem r_inR {a b : Addr} {as : List Addr} {rs : List (List Int)} {xs : List Int} (h1 : H a = some (.lst (xs.map V.int))) (h2 : H b = some (.lst (as.map V.ref))) (hr : Rw H as rs) (q : Q (.bl (decide (xs ∈ rs))) H) : rInD K (.ref a) (.ref b) H Q := by
  refine ⟨dI xs, rs.map dI, dpI h1, dpR h2 hr, shI xs, shR rs, ?_⟩
  have e : (rs.map dI).any (fun z => PyData.eqv z (dI xs)) = decide (xs ∈ rs) := by
    rw [Bool.eq_iff_iff, List.any_eq_true, decide_eq_true_eq]
    constructor
    · rintro ⟨z, hz, e⟩
      obtain ⟨r, hr, rfl⟩ := List.mem_map.mp hz
      rw [eqI1, decide_eq_true_eq] at e
      rw [← e]; exact hr
    · intro hx
      exact ⟨dI xs, List.mem_map.mpr ⟨xs, hx, rfl⟩, by rw [eqI1]; exact decide_eq_true rfl⟩
  rw [e]; exact q
end
/-! ### keyword-only parameters -/
section
variable {K : PySem.W.Frag} {x qual : Str} {st : Stmt} {f : Addr} {fd : FuncData} {ps : List Str}
/-- f(e, .., k = v, ..) where all keyword-only parameters are written -/
theorem kb_all (F : Fun K x qual st f fd) (n : Nat) (ks : List Str)
    (h : ∀ (kV doc pm : Value) (an : Option Addr) (cdv ct : Value) (us ws : List Value), us.length = n → ws.length = ks.length → bindArgs (PySem.W.fnOf x qual (defArgs st) (defBody st) (defScope st) .none kV doc pm an cdv ct) ⟨us, ks.zip ws⟩ = pure (ps.zip (us ++ ws))) :
    KBn K fd ps n ks (fun us ws => us ++ ws) (fun vs zs => vs ++ zs) := by
  obtain ⟨oc, od, kV, doc, pm, an, cdv, ct, osl, rfl, lk, hcd⟩ := F.ex
  exact ⟨fun s us ws _ l1 l2 => .of_eq (h kV doc pm an cdv ct us ws l1 l2), fun r1 r2 => r1.append r2⟩
end
def pick (n : Nat) (f : Nat → Bool) : List Int := ((List.range n).filter f).map Int.ofNat
theorem pick_succ (n : Nat) (f : Nat → Bool) : pick (n + 1) f = pick n f ++ if f n then [(n : Int)] else [] := by
  unfold pick
  rw [List.range_succ, List.filter_append, List.map_append]
  congr 1
  rw [List.filter_cons]
  split <;> rfl
theorem pick_len (n : Nat) (f : Nat → Bool) : (pick n f).length ≤ n := by
  unfold pick
  rw [List.length_map]
  exact Nat.le_trans (List.length_filter_le _ _) (by rw [List.length_range]; exact Nat.le_refl _)
theorem pick_congr {n : Nat} {f f' : Nat → Bool} (h : ∀ i, i < n → f i = f' i) : pick n f = pick n f' := by
  unfold pick
  rw [List.filter_congr fun i hi => h i (List.mem_range.mp hi)]
end Lw
/-! plain maths: likeness of groups, as the greatest relation and as a partition -/
namespace Lm
def gp (c : Nat) (r : List Int) : List Int := r.filter fun e => decide (e < (c : Int))
def br (c : Nat) (r : List Int) : List Int := r.filter fun e => decide (e ≥ (c : Int))
def Mt (R : Nat → Nat → Prop) (xs ys : List Int) : Prop := (∀ e ∈ xs, ∃ f ∈ ys, R e.toNat f.toNat) ∧ (∀ f ∈ ys, ∃ e ∈ xs, R e.toNat f.toNat)
theorem Mt.mono {R S : Nat → Nat → Prop} {xs ys : List Int} (h : Mt R xs ys) (hs : ∀ a b, R a b → S a b) : Mt S xs ys :=
  ⟨fun e he => by obtain ⟨f, hf, r⟩ := h.1 e he; exact ⟨f, hf, hs _ _ r⟩, fun f hf => by obtain ⟨e, he, r⟩ := h.2 f hf; exact ⟨e, he, hs _ _ r⟩⟩
def IsB (c : Nat) (rs : List (List Int)) (R : Nat → Nat → Prop) : Prop := ∀ g h, R g h → ∃ r s, g < c ∧ h < c ∧ rs[g]? = some r ∧ rs[h]? = some s ∧ br c r = br c s ∧ Mt R (gp c r) (gp c s)
def Bs (c : Nat) (rs : List (List Int)) (g h : Nat) : Prop := ∃ R, IsB c rs R ∧ R g h
theorem Bs.isB {c : Nat} {rs : List (List Int)} : IsB c rs (Bs c rs) := by
  rintro g h ⟨R, hR, r⟩
  obtain ⟨a, b, h1, h2, h3, h4, h5, h6⟩ := hR g h r
  exact ⟨a, b, h1, h2, h3, h4, h5, h6.mono fun x y q => ⟨R, hR, q⟩⟩
theorem Bs.symm {c : Nat} {rs : List (List Int)} {g h : Nat} (b : Bs c rs g h) : Bs c rs h g := by
  obtain ⟨R, hR, r⟩ := b
  refine ⟨fun x y => R y x, fun x y q => ?_, r⟩
  obtain ⟨a, b, h1, h2, h3, h4, h5, h6⟩ := hR y x q
  exact ⟨b, a, h2, h1, h4, h3, h5.symm, h6.2, h6.1⟩
theorem gp_mem {c : Nat} {r : List Int} {e : Int} : e ∈ gp c r ↔ e ∈ r ∧ e < (c : Int) := by
  unfold gp; rw [List.mem_filter, decide_eq_true_eq]
theorem br_mem {c : Nat} {r : List Int} {e : Int} : e ∈ br c r ↔ e ∈ r ∧ e ≥ (c : Int) := by
  unfold br; rw [List.mem_filter, decide_eq_true_eq]
/-- two equal rows are alike -/
theorem Bs.of_eq {n c : Nat} {rs : List (List Int)} (hn : rs.length = n) (hc : c ≤ n) (h0 : ∀ r ∈ rs, ∀ e ∈ r, 0 ≤ e) {g h : Nat} (hg : g < c) (hh : h < c) (e : rs[g]? = rs[h]?) : Bs c rs g h := by
  refine ⟨fun x y => (x < c ∧ x = y) ∨ (x = g ∧ y = h), fun x y q => ?_, .inr ⟨rfl, rfl⟩⟩
  have refl : ∀ x, x < c → ∃ r, rs[x]? = some r ∧ Mt (fun x y => (x < c ∧ x = y) ∨ (x = g ∧ y = h)) (gp c r) (gp c r) := fun x hx => by
    refine ⟨_, List.getElem?_eq_getElem (by omega), fun e he => ⟨e, he, .inl ⟨?_, rfl⟩⟩, fun e he => ⟨e, he, .inl ⟨?_, rfl⟩⟩⟩
    all_goals
      have h1 := gp_mem.mp he
      have h2 := h0 _ (List.getElem_mem _) e h1.1
      omega
  rcases q with ⟨hx, rfl⟩ | ⟨rfl, rfl⟩
  · obtain ⟨r, h1, h2⟩ := refl x hx
    exact ⟨r, r, hx, hx, h1, h1, rfl, h2⟩
  · obtain ⟨r, h1, h2⟩ := refl x hg
    exact ⟨r, r, hg, hh, h1, by rw [← e]; exact h1, rfl, h2⟩
/-- lists that ascend and have the same members are the same -/
theorem asc_eq : ∀ {xs ys : List Int}, xs.Pairwise (· < ·) → ys.Pairwise (· < ·) → (∀ e, e ∈ xs ↔ e ∈ ys) → xs = ys
  | [], [], _, _, _ => rfl
  | [], y :: ys, _, _, h => absurd ((h y).mpr List.mem_cons_self) List.not_mem_nil
  | x :: xs, [], _, _, h => absurd ((h x).mp List.mem_cons_self) List.not_mem_nil
  | x :: xs, y :: ys, h1, h2, h => by
    rw [List.pairwise_cons] at h1 h2
    have e : x = y := by
      rcases List.mem_cons.mp ((h x).mp List.mem_cons_self) with e | e
      · exact e
      · rcases List.mem_cons.mp ((h y).mpr List.mem_cons_self) with e2 | e2
        · exact e2.symm
        · have := h2.1 x e; have := h1.1 y e2; omega
    subst e
    congr 1
    refine asc_eq h1.2 h2.2 fun z => ⟨fun hz => ?_, fun hz => ?_⟩
    · rcases List.mem_cons.mp ((h z).mp (List.mem_cons_of_mem _ hz)) with q | q
      · subst q; have := h1.1 z hz; omega
      · exact q
    · rcases List.mem_cons.mp ((h z).mpr (List.mem_cons_of_mem _ hz)) with q | q
      · subst q; have := h2.1 z hz; omega
      · exact q
/-- without rings: where two unlike places are alike, two of the rows are equal -/
theorem Bs.doubled {n c : Nat} {rs : List (List Int)} (hn : rs.length = n) (hc : c ≤ n) (h0 : ∀ r ∈ rs, ∀ e ∈ r, 0 ≤ e) (ha : ∀ r ∈ rs, r.Pairwise (· < ·)) (hr : ∀ x, ¬ Tc (Ed rs) x x) {g h : Nat} (b : Bs c rs g h) (hgh : g ≠ h) :
    ∃ x y, x < y ∧ y < c ∧ rs[x]? = rs[y]? := by
  refine Classical.byContradiction fun hno => ?_
  have U : ∀ a, (∃ b, Bs c rs a b ∧ a ≠ b) → ∃ b, (∃ d, Bs c rs b d ∧ b ≠ d) ∧ Ed rs a b := by
    rintro a ⟨b, hb, hab⟩
    obtain ⟨r, s, a1, a2, a3, a4, a5, a6⟩ := Bs.isB a b hb
    refine Classical.byContradiction fun hn2 => ?_
    have key : ∀ e f, e ∈ gp c r → f ∈ gp c s → Bs c rs e.toNat f.toNat → e = f := fun e f he hf q => by
      refine Classical.byContradiction fun hne => hn2 ⟨e.toNat, ⟨f.toNat, q, fun z => hne ?_⟩, r, a3, ?_⟩
      · have := h0 r (List.mem_of_getElem? a3) e (gp_mem.mp he).1
        have := h0 s (List.mem_of_getElem? a4) f (gp_mem.mp hf).1
        omega
      · have := h0 r (List.mem_of_getElem? a3) e (gp_mem.mp he).1
        rw [show ((e.toNat : Nat) : Int) = e by omega]; exact (gp_mem.mp he).1
    have same : ∀ e, e ∈ r ↔ e ∈ s := fun e => by
      by_cases hlt : e < (c : Int)
      · constructor
        · intro he
          obtain ⟨f, hf, q⟩ := a6.1 e (gp_mem.mpr ⟨he, hlt⟩)
          rw [key e f (gp_mem.mpr ⟨he, hlt⟩) hf q]; exact (gp_mem.mp hf).1
        · intro he
          obtain ⟨f, hf, q⟩ := a6.2 e (gp_mem.mpr ⟨he, hlt⟩)
          rw [← key f e hf (gp_mem.mpr ⟨he, hlt⟩) q]; exact (gp_mem.mp hf).1
      · have h1 : e ∈ br c r ↔ e ∈ br c s := by rw [a5]
        rw [br_mem, br_mem] at h1
        constructor
        · intro he; exact (h1.mp ⟨he, by omega⟩).1
        · intro he; exact (h1.mpr ⟨he, by omega⟩).1
    have e : r = s := asc_eq (ha r (List.mem_of_getElem? a3)) (ha s (List.mem_of_getElem? a4)) same
    rcases Nat.lt_or_gt_of_ne hab with q | q
    · exact hno ⟨a, b, q, a2, by rw [a3, a4, e]⟩
    · exact hno ⟨b, a, q, a1, by rw [a3, a4, e]⟩
  obtain ⟨k, _, t⟩ := ring_of (E := Ed rs) (n := n) (U := fun a => ∃ b, Bs c rs a b ∧ a ≠ b) (fun a ⟨b, hb, _⟩ => by obtain ⟨_, _, h1, _⟩ := Bs.isB a b hb; omega) U ⟨h, b, hgh⟩
  exact hr k t
/-! ### the table of bools -/
def tr (M : List (List Bool)) (g h : Nat) : Prop := ∃ r, M[g]? = some r ∧ r[h]? = some true
structure Gl (c : Nat) (rs : List (List Int)) (M : List (List Bool)) : Prop where
  len : M.length = c
  row : ∀ r ∈ M, r.length = c
  has : ∀ g h, Bs c rs g h → tr M g h
  bare : ∀ g h, tr M g h → ∃ r s, g < c ∧ h < c ∧ rs[g]? = some r ∧ rs[h]? = some s ∧ br c r = br c s
theorem Gl.init {n c : Nat} {rs : List (List Int)} (hn : rs.length = n) (hc : c ≤ n) {bs : List (List Int)} (hb : bs = (rs.take c).map (br c)) : Gl c rs (bs.map fun x => bs.map fun y => decide (x = y)) := by
  have hl : bs.length = c := by rw [hb, List.length_map, List.length_take]; omega
  have hg : ∀ g, g < c → ∃ r, rs[g]? = some r ∧ bs[g]? = some (br c r) := fun g hg => by
    obtain ⟨r, hr⟩ : ∃ r, rs[g]? = some r := ⟨_, List.getElem?_eq_getElem (by omega)⟩
    refine ⟨r, hr, ?_⟩
    rw [hb, List.getElem?_map, List.getElem?_take_of_lt hg, hr]; rfl
  refine ⟨by rw [List.length_map, hl], fun r hr => ?_, fun g h b => ?_, fun g h ⟨r, h1, h2⟩ => ?_⟩
  · obtain ⟨x, _, rfl⟩ := List.mem_map.mp hr
    rw [List.length_map, hl]
  · obtain ⟨r, s, a1, a2, a3, a4, a5, _⟩ := Bs.isB g h b
    obtain ⟨r', b1, b2⟩ := hg g a1
    obtain ⟨s', d1, d2⟩ := hg h a2
    rw [a3] at b1; cases b1
    rw [a4] at d1; cases d1
    refine ⟨_, by rw [List.getElem?_map, b2]; rfl, ?_⟩
    rw [List.getElem?_map, d2]
    show some (decide _) = _
    rw [a5, decide_eq_true rfl]
  · rw [List.getElem?_map] at h1
    cases q : bs[g]? with
    | none => rw [q] at h1; cases h1
    | some x =>
      rw [q] at h1
      cases h1
      rw [List.getElem?_map] at h2
      cases q2 : bs[h]? with
      | none => rw [q2] at h2; cases h2
      | some y =>
        rw [q2] at h2
        have e : x = y := of_decide_eq_true (Option.some.inj h2)
        have g1 : g < c := by rw [← hl]; exact (List.getElem?_eq_some_iff.mp q).1
        have g2 : h < c := by rw [← hl]; exact (List.getElem?_eq_some_iff.mp q2).1
        obtain ⟨r', b1, b2⟩ := hg g g1
        obtain ⟨s', d1, d2⟩ := hg h g2
        rw [q] at b2; rw [q2] at d2
        exact ⟨r', s', g1, g2, b1, d1, by rw [← Option.some.inj b2, ← Option.some.inj d2]; exact e⟩
theorem tr_set {M : List (List Bool)} {f s : Nat} {r : List Bool} (hr : M[f]? = some r) {g h : Nat} : tr (M.set f (r.set s false)) g h ↔ tr M g h ∧ ¬ (g = f ∧ h = s) := by
  have hf := (List.getElem?_eq_some_iff.mp hr).1
  unfold tr
  by_cases e : f = g
  · subst e
    rw [List.getElem?_set_self hf, hr]
    constructor
    · rintro ⟨r', h1, h2⟩
      cases h1
      by_cases e2 : s = h
      · subst e2
        have : s < r.length := by
          have := (List.getElem?_eq_some_iff.mp h2).1; rwa [List.length_set] at this
        rw [List.getElem?_set_self this] at h2; cases h2
      · rw [List.getElem?_set_ne e2] at h2
        exact ⟨⟨r, rfl, h2⟩, fun z => e2 z.2.symm⟩
    · rintro ⟨⟨r', h1, h2⟩, hn⟩
      cases h1
      exact ⟨_, rfl, by rw [List.getElem?_set_ne (fun z => hn ⟨rfl, z.symm⟩)]; exact h2⟩
  · rw [List.getElem?_set_ne e]
    exact ⟨fun q => ⟨q, fun z => e z.1.symm⟩, fun q => q.1⟩
theorem Gl.fall {c : Nat} {rs : List (List Int)} {M : List (List Bool)} (G : Gl c rs M) {f s : Nat} {r : List Bool} (hr : M[f]? = some r) {x y : List Int} (hx : rs[f]? = some x) (hy : rs[s]? = some y) (hn : ¬ Mt (tr M) (gp c x) (gp c y)) :
    Gl c rs (M.set f (r.set s false)) := by
  refine ⟨by rw [List.length_set]; exact G.len, fun r' h' => ?_, fun g h b => ?_, fun g h t => ?_⟩
  · rcases List.mem_or_eq_of_mem_set h' with q | q
    · exact G.row r' q
    · rw [q, List.length_set]; exact G.row r (List.mem_of_getElem? hr)
  · refine (tr_set hr).mpr ⟨G.has g h b, ?_⟩
    rintro ⟨rfl, rfl⟩
    obtain ⟨r', s', _, _, a3, a4, _, a6⟩ := Bs.isB g h b
    rw [hx] at a3; cases a3
    rw [hy] at a4; cases a4
    exact hn (a6.mono fun a b q => G.has a b q)
  · exact G.bare g h ((tr_set hr).mp t).1
/-- no pair falls any more -/
theorem Gl.final {c : Nat} {rs : List (List Int)} {M : List (List Bool)} (G : Gl c rs M) (h : ∀ g k x y, tr M g k → rs[g]? = some x → rs[k]? = some y → Mt (tr M) (gp c x) (gp c y)) (g k : Nat) : tr M g k ↔ Bs c rs g k := by
  refine ⟨fun t => ⟨tr M, fun a b q => ?_, t⟩, G.has g k⟩
  obtain ⟨r, s, a1, a2, a3, a4, a5⟩ := G.bare a b q
  exact ⟨r, s, a1, a2, a3, a4, a5, h a b r s q a3 a4⟩
def trues (M : List (List Bool)) : Nat := (M.map fun r => r.countP id).sum
theorem count_false {r : List Bool} : ∀ {s : Nat}, r[s]? = some true → (r.set s false).countP id + 1 = r.countP id := by
  induction r with
  | nil => intro s h; simp at h
  | cons b r ih =>
    intro s h
    cases s with
    | zero => simp at h; subst h; simp [List.countP_cons]
    | succ s =>
      rw [List.getElem?_cons_succ] at h
      rw [List.set_cons_succ, List.countP_cons, List.countP_cons, ← ih h]; omega
theorem trues_fall {M : List (List Bool)} : ∀ {f s : Nat} {r : List Bool}, M[f]? = some r → r[s]? = some true → trues (M.set f (r.set s false)) + 1 = trues M := by
  induction M with
  | nil => intro f s r h; simp at h
  | cons a M ih =>
    intro f s r h h2
    cases f with
    | zero =>
      simp at h; subst h
      have := count_false h2
      simp only [trues, List.set_cons_zero, List.map_cons, List.sum_cons]; omega
    | succ f =>
      rw [List.getElem?_cons_succ] at h
      have := ih h h2
      simp only [trues] at this
      simp only [trues, List.set_cons_succ, List.map_cons, List.sum_cons]; omega
/-! ### the partition by rounds -/
/-- where a list's first entry of a kind stands -/
structure Can (p : List Int) (c : Nat) : Prop where
  len : p.length = c
  fix : ∀ (a : Nat) (z : Int), p[a]? = some z → 0 ≤ z ∧ z ≤ a ∧ p[z.toNat]? = some z
def fixed (p : List Int) (c : Nat) : Nat := (List.range c).countP fun a : Nat => decide (p[a]? = some (a : Int))
theorem fixed_le (p : List Int) (c : Nat) : fixed p c ≤ c := by
  unfold fixed
  have := List.countP_le_length (p := fun a : Nat => decide (p[a]? = some (a : Int))) (l := List.range c)
  rwa [List.length_range] at this
theorem countP_lt {α : Type} {P Q : α → Bool} : ∀ {l : List α}, (∀ x ∈ l, P x = true → Q x = true) → (∃ x ∈ l, Q x = true ∧ P x = false) → l.countP P < l.countP Q
  | [], _, ⟨x, hx, _⟩ => absurd hx List.not_mem_nil
  | y :: l, h, ⟨x, hx, hq, hp⟩ => by
    have mono : l.countP P ≤ l.countP Q := List.countP_mono_left fun z hz => h z (List.mem_cons_of_mem _ hz)
    rcases List.mem_cons.mp hx with e | e
    · subst e
      rw [List.countP_cons_of_pos hq, List.countP_cons_of_neg (by rw [hp]; decide)]; omega
    · have ih := countP_lt (l := l) (fun z hz => h z (List.mem_cons_of_mem _ hz)) ⟨x, e, hq, hp⟩
      by_cases hy : P y = true
      · rw [List.countP_cons_of_pos hy, List.countP_cons_of_pos (h y List.mem_cons_self hy)]; omega
      · rw [List.countP_cons_of_neg hy]
        by_cases hy2 : Q y = true
        · rw [List.countP_cons_of_pos hy2]; omega
        · rw [List.countP_cons_of_neg hy2]; exact ih
/-- one round: q numbers the keys that refine p's numbers -/
structure Rd {κ : Type} (p q : List Int) (key : Nat → κ) (c : Nat) : Prop where
  len : q.length = c
  first : ∀ a, a < c → ∃ b : Nat, q[a]? = some (b : Int) ∧ b ≤ a ∧ key b = key a ∧ ∀ d, d < b → key d ≠ key a
  ref : ∀ a b, a < c → b < c → key a = key b → p[a]? = p[b]?
theorem Rd.can {κ : Type} {p q : List Int} {key : Nat → κ} {c : Nat} (R : Rd p q key c) : Can q c := by
  refine ⟨R.len, fun a z hz => ?_⟩
  have ha : a < c := by rw [← R.len]; exact (List.getElem?_eq_some_iff.mp hz).1
  obtain ⟨b, h1, h2, h3, h4⟩ := R.first a ha
  rw [h1] at hz; cases hz
  refine ⟨by omega, by omega, ?_⟩
  obtain ⟨d, k1, k2, k3, k4⟩ := R.first b (by omega)
  rw [Int.toNat_natCast, k1]
  have : d = b := by
    rcases Nat.lt_or_ge d b with q | q
    · exact absurd (k3.trans h3) (h4 d q)
    · omega
  rw [this]
theorem Rd.same {κ : Type} {p q : List Int} {key : Nat → κ} {c : Nat} (R : Rd p q key c) {a b : Nat} (ha : a < c) (hb : b < c) : q[a]? = q[b]? ↔ key a = key b := by
  obtain ⟨x, h1, h2, h3, h4⟩ := R.first a ha
  obtain ⟨y, k1, k2, k3, k4⟩ := R.first b hb
  rw [h1, k1]
  constructor
  · intro e
    have : x = y := by have := Option.some.inj e; omega
    subst this
    exact h3.symm.trans k3
  · intro e
    have : x = y := by
      rcases Nat.lt_trichotomy x y with z | z | z
      · exact absurd (h3.trans e) (k4 x z)
      · exact z
      · exact absurd (k3.trans e.symm) (h4 y z)
    rw [this]
theorem Rd.grow {κ : Type} {p q : List Int} {key : Nat → κ} {c : Nat} (R : Rd p q key c) (P : Can p c) (hne : q ≠ p) : fixed p c < fixed q c := by
  have Q := R.can
  have up : ∀ (a : Nat) (z w : Int), p[a]? = some z → q[a]? = some w → z ≤ w ∧ p[w.toNat]? = some z := fun a z w hz hw => by
    have ha : a < c := by rw [← P.len]; exact (List.getElem?_eq_some_iff.mp hz).1
    obtain ⟨b, h1, h2, h3, h4⟩ := R.first a ha
    rw [h1] at hw; cases hw
    have e := R.ref b a (by omega) ha h3
    rw [hz] at e
    obtain ⟨e0, e1, e2⟩ := P.fix b z e
    exact ⟨e1, by rw [Int.toNat_natCast]; exact e⟩
  refine countP_lt (fun a ha h => ?_) ?_
  · have ha := List.mem_range.mp ha
    have hp : p[a]? = some (a : Int) := of_decide_eq_true h
    obtain ⟨b, h1, h2, h3, h4⟩ := R.first a ha
    have := (up a _ _ hp h1).1
    have e : b = a := by omega
    rw [e] at h1
    exact decide_eq_true h1
  · obtain ⟨a, ha, hne2⟩ : ∃ a, a < c ∧ q[a]? ≠ p[a]? := by
      refine Classical.byContradiction fun hn => hne (List.ext_getElem? fun a => ?_)
      by_cases ha : a < c
      · exact Classical.byContradiction fun z => hn ⟨a, ha, z⟩
      · rw [List.getElem?_eq_none (by rw [R.len]; omega), List.getElem?_eq_none (by rw [P.len]; omega)]
    obtain ⟨b, h1, h2, h3, h4⟩ := R.first a ha
    obtain ⟨z, hz⟩ : ∃ z, p[a]? = some z := ⟨_, List.getElem?_eq_getElem (by rw [P.len]; exact ha)⟩
    obtain ⟨u1, u2⟩ := up a z b hz h1
    rw [Int.toNat_natCast] at u2
    refine ⟨b, List.mem_range.mpr (by omega), ?_, ?_⟩
    · have := (Q.fix a b h1).2.2
      rw [Int.toNat_natCast] at this
      exact decide_eq_true this
    · refine decide_eq_false fun e => hne2 ?_
      rw [u2] at e
      rw [h1, hz, ← Option.some.inj e]
theorem zeros_can (c : Nat) : Can (List.replicate c 0) c := by
  refine ⟨List.length_replicate, fun a z hz => ?_⟩
  rw [List.getElem?_replicate] at hz
  by_cases h : a < c
  · rw [if_pos h] at hz
    cases hz
    exact ⟨by omega, by omega, by rw [List.getElem?_replicate, if_pos (by show (0 : Int).toNat < c; simp; omega)]⟩
  · rw [if_neg h] at hz; cases hz
/-- a key of a place: its number, the numbers it holds, what it holds beside -/
structure Ky (c : Nat) (rs : List (List Int)) (p : List Int) (key : Nat → Int × List Int × List Int) : Prop where
  val : ∀ (a : Nat) r, a < c → rs[a]? = some r → (key a).2.2 = br c r ∧ p[a]? = some (key a).1 ∧ (∀ z, z ∈ (key a).2.1 ↔ ∃ e ∈ gp c r, p[e.toNat]? = some z)
theorem Ky.keep {n c : Nat} {rs : List (List Int)} {p : List Int} {key : Nat → Int × List Int × List Int} (k : Ky c rs p key) (hn : rs.length = n) (hc : c ≤ n) (hp : p.length = c) (h0 : ∀ r ∈ rs, ∀ e ∈ r, 0 ≤ e)
    (hasc : ∀ a, a < c → (key a).2.1.Pairwise (· < ·)) (hb : ∀ g h, Bs c rs g h → p[g]? = p[h]?) {g h : Nat} (b : Bs c rs g h) : key g = key h := by
  obtain ⟨r, s, a1, a2, a3, a4, a5, a6⟩ := Bs.isB g h b
  obtain ⟨k1, k2, k3⟩ := k.val g r a1 a3
  obtain ⟨l1, l2, l3⟩ := k.val h s a2 a4
  have e1 : (key g).1 = (key h).1 := by
    have := hb g h b
    rw [k2, l2] at this
    exact Option.some.inj this
  have e2 : (key g).2.1 = (key h).2.1 := by
    refine asc_eq (hasc g a1) (hasc h a2) fun z => ?_
    rw [k3, l3]
    constructor
    · rintro ⟨e, he, hz⟩
      obtain ⟨f, hf, q⟩ := a6.1 e he
      exact ⟨f, hf, by rw [← hb _ _ q]; exact hz⟩
    · rintro ⟨f, hf, hz⟩
      obtain ⟨e, he, q⟩ := a6.2 f hf
      exact ⟨e, he, by rw [hb _ _ q]; exact hz⟩
  have e3 : (key g).2.2 = (key h).2.2 := by rw [k1, l1, a5]
  exact Prod.ext e1 (Prod.ext e2 e3)
/-- a numbering that a round leaves as it is -/
theorem Ky.stable {n c : Nat} {rs : List (List Int)} {p : List Int} {key : Nat → Int × List Int × List Int} (k : Ky c rs p key) (hn : rs.length = n) (hc : c ≤ n) (R : Rd p p key c) (h0 : ∀ r ∈ rs, ∀ e ∈ r, 0 ≤ e)
    {g h : Nat} (hg : g < c) (hh : h < c) (e : p[g]? = p[h]?) : Bs c rs g h := by
  refine ⟨fun x y => x < c ∧ y < c ∧ p[x]? = p[y]?, ?_, hg, hh, e⟩
  rintro x y ⟨hx, hy, e⟩
  have ek := (R.same hx hy).mp e
  obtain ⟨r, hr⟩ : ∃ r, rs[x]? = some r := ⟨_, List.getElem?_eq_getElem (by omega)⟩
  obtain ⟨s, hs⟩ : ∃ s, rs[y]? = some s := ⟨_, List.getElem?_eq_getElem (by omega)⟩
  obtain ⟨k1, k2, k3⟩ := k.val x r hx hr
  obtain ⟨l1, l2, l3⟩ := k.val y s hy hs
  have lt : ∀ {r e}, r ∈ rs → e ∈ gp c r → e.toNat < c := fun {r e} hr he => by
    have := gp_mem.mp he
    have := h0 r hr e this.1
    omega
  have has : ∀ a, a < c → ∃ z, p[a]? = some z := fun a ha => ⟨_, List.getElem?_eq_getElem (by rw [R.len]; exact ha)⟩
  refine ⟨r, s, hx, hy, hr, hs, by rw [← k1, ← l1, ek], fun e he => ?_, fun f hf => ?_⟩
  · have h1 := lt (List.mem_of_getElem? hr) he
    obtain ⟨z, hz⟩ := has _ h1
    have : z ∈ (key y).2.1 := by rw [← ek]; exact (k3 z).mpr ⟨e, he, hz⟩
    obtain ⟨f, hf, hz2⟩ := (l3 z).mp this
    exact ⟨f, hf, h1, lt (List.mem_of_getElem? hs) hf, by rw [hz, hz2]⟩
  · have h1 := lt (List.mem_of_getElem? hs) hf
    obtain ⟨z, hz⟩ := has _ h1
    have : z ∈ (key x).2.1 := by rw [ek]; exact (l3 z).mpr ⟨f, hf, hz⟩
    obtain ⟨e, he, hz2⟩ := (k3 z).mp this
    exact ⟨e, he, lt (List.mem_of_getElem? hr) he, h1, by rw [hz2, hz]⟩
theorem Can.id_iff {p : List Int} {c : Nat} (P : Can p c) : p = (List.range c).map (fun k : Nat => (k : Int)) ↔ ∀ g h, g < c → h < c → p[g]? = p[h]? → g = h := by
  constructor
  · intro e g h hg hh q
    rw [e, List.getElem?_map, List.getElem?_map, List.getElem?_range hg, List.getElem?_range hh] at q
    simp only [Option.map_some, Option.some.injEq] at q
    omega
  · intro hi
    refine List.ext_getElem? fun a => ?_
    by_cases ha : a < c
    · obtain ⟨z, hz⟩ : ∃ z, p[a]? = some z := ⟨_, List.getElem?_eq_getElem (by rw [P.len]; exact ha)⟩
      obtain ⟨z0, z1, z2⟩ := P.fix a z hz
      have := hi z.toNat a (by omega) ha (by rw [z2, hz])
      rw [hz, List.getElem?_map, List.getElem?_range ha]
      simp only [Option.map_some, Option.some.injEq]
      omega
    · rw [List.getElem?_eq_none (by rw [P.len]; omega), List.getElem?_eq_none (by rw [List.length_map, List.length_range]; omega)]
end Lm
/-! slices of lists -/
namespace Lw
open PySem PySem.Spec PyProof.Rows L2
theorem cut_to (xs : List V) {c : Int} (h : 0 ≤ c) : cutV xs none (some c) = xs.take c.toNat := by
  obtain ⟨n, rfl⟩ : ∃ n : Nat, c = n := ⟨c.toNat, by omega⟩
  unfold cutV
  rw [HT.sIx_none, HT.sIx_nat, List.drop_zero, Nat.sub_zero, Int.toNat_natCast]
  by_cases hn : n ≤ xs.length
  · rw [Nat.min_eq_left hn]
  · rw [Nat.min_eq_right (by omega), List.take_length, List.take_of_length_le (by omega)]
theorem cut_from (xs : List V) {c : Int} (h : 0 ≤ c) : cutV xs (some c) none = xs.drop c.toNat := by
  obtain ⟨n, rfl⟩ : ∃ n : Nat, c = n := ⟨c.toNat, by omega⟩
  unfold cutV
  rw [HT.sIx_none, HT.sIx_nat, Int.toNat_natCast, List.take_of_length_le (by rw [List.length_drop]; omega)]
  by_cases hn : n ≤ xs.length
  · rw [Nat.min_eq_left hn]
  · rw [Nat.min_eq_right (by omega), List.drop_length, List.drop_of_length_le (by omega)]
section
variable {K : PySem.W.Frag} {σ : L2.St} {H : Hp} {Q : VK}
theorem r_sl {r : V → Option Int → Option Int → Hp → VK → Prop} {te : TE} {tl th : TO} (h : te σ H fun x H1 => tl σ H1 fun l H2 => th σ H2 fun u H3 => r x l u H3 Q) : L2.tSl r te tl th σ H Q := h
theorem r_noPart {q : Option Int → Hp → Prop} (h : q none H) : tNoPart σ H q := h
theorem r_part {t : TE} {q : Option Int → Hp → Prop} (h : t σ H fun x H1 => ∃ i, x = .int i ∧ q (some i) H1) : tPart t σ H q := h
theorem r_i1 {j : Int} {F : Int → Prop} (h : F j) : ∃ i, V.int j = .int i ∧ F i := ⟨j, rfl, h⟩
theorem r_slL {a : Addr} {xs : List V} {lo hi : Option Int} (h : H a = some (.lst xs)) (q : ∀ p, H p = none → Q (.ref p) (upd H p (.lst (cutV xs lo hi)))) : rSlL K (.ref a) lo hi H Q := ⟨a, xs, rfl, SqL.of h, q⟩
end
theorem take_at {α : Type} {xs : List α} {c i : Nat} {x : α} (h : (xs.take c)[i]? = some x) : i < c ∧ xs[i]? = some x := by
  by_cases hi : i < c
  · rw [List.getElem?_take_of_lt hi] at h; exact ⟨hi, h⟩
  · rw [List.getElem?_eq_none (by rw [List.length_take]; omega)] at h; cases h
theorem tk_succ {α : Type} {l : List α} {i : Nat} {x : α} (h : l[i]? = some x) : l.take (i + 1) = l.take i ++ [x] := by rw [List.take_add_one, h]; rfl
end Lw
/-! deep data: equal exactly if the same (no bools, no dicts) -/
namespace Lw
open PySem PySem.Spec PyProof.Rows L2
mutual
def pl : PyData → Bool
  | .none => true
  | .bool _ => false
  | .int _ => true
  | .str _ => true
  | .list xs => plAll xs
  | .tuple xs => plAll xs
  | .dict _ => false
def plAll : List PyData → Bool
  | [] => true
  | x :: r => pl x && plAll r
end
mutual
theorem eqv_iff : ∀ a b : PyData, pl a = true → pl b = true → (PyData.eqv a b = true ↔ a = b)
  | .none, b, _, hb => by cases b <;> simp [PyData.eqv]
  | .bool _, _, ha, _ => by simp [pl] at ha
  | .int i, b, _, hb => by cases b <;> simp [PyData.eqv, pl] at hb ⊢
  | .str s, b, _, hb => by cases b <;> simp [PyData.eqv, pl] at hb ⊢
  | .list xs, b, ha, hb => by
    cases b with
    | list ys =>
      rw [PyData.eqv, eqvAll_iff xs ys (by simpa [pl] using ha) (by simpa [pl] using hb)]
      exact ⟨fun h => by rw [h], fun h => by cases h; rfl⟩
    | _ => simp [PyData.eqv]
  | .tuple xs, b, ha, hb => by
    cases b with
    | tuple ys =>
      rw [PyData.eqv, eqvAll_iff xs ys (by simpa [pl] using ha) (by simpa [pl] using hb)]
      exact ⟨fun h => by rw [h], fun h => by cases h; rfl⟩
    | _ => simp [PyData.eqv]
  | .dict _, _, ha, _ => by simp [pl] at ha
theorem eqvAll_iff : ∀ a b : List PyData, plAll a = true → plAll b = true → (PyData.eqvAll a b = true ↔ a = b)
  | [], [], _, _ => by simp [PyData.eqvAll]
  | [], _ :: _, _, _ => by simp [PyData.eqvAll]
  | _ :: _, [], _, _ => by simp [PyData.eqvAll]
  | x :: xs, y :: ys, ha, hb => by
    simp only [plAll, Bool.and_eq_true] at ha hb
    rw [PyData.eqvAll, Bool.and_eq_true, eqv_iff x y ha.1 hb.1, eqvAll_iff xs ys ha.2 hb.2]
    exact ⟨fun h => by rw [h.1, h.2], fun h => by cases h; exact ⟨rfl, rfl⟩⟩
end
section
variable {K : PySem.W.Frag} {H H' : Hp}
mutual
theorem dp_mono (s : Same H H') : ∀ {v : V} {d : PyData}, Dp K H v d → Dp K H' v d
  | _, _, .non => .non
  | _, _, .bl b => .bl b
  | _, _, .int i => .int i
  | _, _, .str x => .str x
  | _, _, .lst h a => .lst (s.seq h) (dpAll_mono s a)
  | _, _, .tup h a => .tup (h.imp (fun h => h.imp (fun h => s _ _ h) (fun ⟨o, h⟩ => ⟨o, s _ _ h⟩)) id) (dpAll_mono s a)
theorem dpAll_mono (s : Same H H') : ∀ {vs : List V} {ds : List PyData}, DpAll K H vs ds → DpAll K H' vs ds
  | _, _, .nil => .nil
  | _, _, .cons h a => .cons (dp_mono s h) (dpAll_mono s a)
end
theorem dpAll_push : ∀ {vs : List V} {ds : List PyData} {v : V} {d : PyData}, DpAll K H vs ds → Dp K H v d → DpAll K H (vs ++ [v]) (ds ++ [d])
  | _, _, _, _, .nil, e => .cons e .nil
  | _, _, _, _, .cons h a, e => .cons h (dpAll_push a e)
theorem dpAll_len : ∀ {vs : List V} {ds : List PyData}, DpAll K H vs ds → vs.length = ds.length
  | _, _, .nil => rfl
  | _, _, .cons _ a => congrArg Nat.succ (dpAll_len a)
theorem dpAll_at : ∀ {vs : List V} {ds : List PyData} {i : Nat} {v : V}, DpAll K H vs ds → vs[i]? = some v → ∃ d, ds[i]? = some d ∧ Dp K H v d
  | _, _, _, _, .nil, e => by simp at e
  | _, _, 0, _, .cons h a, e => by cases e; exact ⟨_, rfl, h⟩
  | _, _, i + 1, v, .cons h a, e => dpAll_at (i := i) (v := v) a (by simpa using e)
theorem dpAll_get : ∀ {vs : List V} {ds : List PyData} {i : Nat} {d : PyData}, DpAll K H vs ds → ds[i]? = some d → ∃ v, vs[i]? = some v ∧ Dp K H v d
  | _, _, _, _, .nil, e => by simp at e
  | _, _, 0, _, .cons h a, e => by cases e; exact ⟨_, rfl, h⟩
  | _, _, i + 1, d, .cons h a, e => dpAll_get (i := i) (d := d) a (by simpa using e)
end
section
variable {K : PySem.W.Frag} {H : Hp} {Q : VK}
theorem r_eqDd {x y : V} {d e : PyData} (h1 : Dp K H x d) (h2 : Dp K H y e) (s1 : SeqAt.shaped d = true) (s2 : SeqAt.shaped e = true) (p1 : pl d = true) (p2 : pl e = true) (q : ∀ b : Bool, (b = true ↔ d = e) → Q (.bl b) H) : rEqD K x y H Q :=
  ⟨d, e, h1, h2, s1, s2, q _ (eqv_iff d e p1 p2)⟩
theorem r_neDd {x y : V} {d e : PyData} (h1 : Dp K H x d) (h2 : Dp K H y e) (s1 : SeqAt.shaped d = true) (s2 : SeqAt.shaped e = true) (p1 : pl d = true) (p2 : pl e = true) (q : ∀ b : Bool, (b = true ↔ ¬ d = e) → Q (.bl b) H) : rNeD K x y H Q :=
  ⟨d, e, h1, h2, s1, s2, q _ (by rw [Bool.not_eq_true', ← eqv_iff d e p1 p2, Bool.not_eq_true])⟩
theorem plAll_mem : ∀ {ds : List PyData} {d : PyData}, plAll ds = true → d ∈ ds → pl d = true
  | [], _, _, h => absurd h List.not_mem_nil
  | x :: r, d, h, hm => by
    simp only [plAll, Bool.and_eq_true] at h
    rcases List.mem_cons.mp hm with e | e
    · rw [e]; exact h.1
    · exact plAll_mem h.2 e
theorem r_inDd {x y : V} {d : PyData} {ds : List PyData} (h1 : Dp K H x d) (h2 : Dp K H y (.list ds)) (s1 : SeqAt.shaped d = true) (s2 : SeqAt.shaped (.list ds) = true) (p1 : pl d = true) (p2 : plAll ds = true) (q : ∀ b : Bool, (b = true ↔ d ∈ ds) → Q (.bl b) H) : rInD K x y H Q := by
  refine ⟨d, ds, h1, h2, s1, s2, q _ ?_⟩
  rw [List.any_eq_true]
  constructor
  · rintro ⟨z, hz, e⟩
    rw [eqv_iff z d (plAll_mem p2 hz) p1] at e
    rw [← e]; exact hz
  · intro hm
    exact ⟨d, hm, (eqv_iff d d p1 p1).mpr rfl⟩
theorem r_indexDd {a : Addr} {x y : V} {d : PyData} {ds : List PyData} {j : Nat} (hx : x = .ref a) (h1 : Dp K H x (.list ds)) (h2 : Dp K H y d) (s1 : SeqAt.shaped (.list ds) = true) (s2 : SeqAt.shaped d = true) (p1 : plAll ds = true) (p2 : pl d = true)
    (hj : ds[j]? = some d) (hm : ∀ m, m < j → ds[m]? ≠ some d) (q : Q (.int j) H) : rIndexD K x [y] H Q := by
  subst hx
  refine ⟨a, y, d, ds, j, d, rfl, rfl, h1, h2, s1, s2, hj, (eqv_iff d d p2 p2).mpr rfl, fun m z hmj hz => ?_, q⟩
  rw [Bool.eq_false_iff]
  intro e
  rw [eqv_iff z d (plAll_mem p1 (List.mem_of_getElem? hz)) p2] at e
  rw [e] at hz
  exact hm m hmj hz
end
theorem r_iteP {b : Bool} {p : Prop} (h : b = true ↔ p) {A B : Prop} (h1 : p → A) (h2 : ¬ p → B) : if b = true then A else B := by
  cases b with
  | true => exact h1 (h.mp rfl)
  | false => exact h2 fun z => Bool.noConfusion (h.mpr z)
theorem first_of {α : Type} : ∀ {l : List α} {i : Nat} {y : α}, l[i]? = some y → ∃ j, j ≤ i ∧ l[j]? = some y ∧ ∀ m, m < j → l[m]? ≠ some y
  | [], i, y, h => by simp at h
  | x :: l, 0, y, h => ⟨0, Nat.le_refl _, h, fun m hm => absurd hm (Nat.not_lt_zero _)⟩
  | x :: l, i + 1, y, h => by
    by_cases e : (x :: l)[0]? = some y
    · exact ⟨0, Nat.zero_le _, e, fun m hm => absurd hm (Nat.not_lt_zero _)⟩
    · rw [List.getElem?_cons_succ] at h
      obtain ⟨j, h1, h2, h3⟩ := first_of h
      refine ⟨j + 1, by omega, by rw [List.getElem?_cons_succ]; exact h2, fun m hm => ?_⟩
      cases m with
      | zero => exact e
      | succ m => rw [List.getElem?_cons_succ]; exact h3 m (by omega)
/-! shapes -/
theorem sh_list {ds : List PyData} (h : ∀ d ∈ ds, PyData.canLay0 d = true ∧ PyData.depth d ≤ 63) : SeqAt.shaped (.list ds) = true := by
  unfold SeqAt.shaped
  have h1 : ∀ ds : List PyData, (∀ d ∈ ds, PyData.canLay0 d = true ∧ PyData.depth d ≤ 63) → PyData.canLayAll0 ds = true ∧ PyData.depthAll ds ≤ 63 := fun ds => by
    induction ds with
    | nil => intro _; exact ⟨by rw [PyData.canLayAll0], by rw [PyData.depthAll]; omega⟩
    | cons x r ih =>
      intro h
      obtain ⟨e1, e2⟩ := ih fun d hd => h d (List.mem_cons_of_mem _ hd)
      obtain ⟨e3, e4⟩ := h x List.mem_cons_self
      exact ⟨by rw [PyData.canLayAll0, e1, e3]; rfl, by rw [PyData.depthAll]; exact Nat.max_le.mpr ⟨e4, e2⟩⟩
  obtain ⟨e1, e2⟩ := h1 ds h
  rw [PyData.canLay0, e1, PyData.depth]
  exact decide_eq_true (by omega)
theorem plAll_of : ∀ {ds : List PyData}, (∀ d ∈ ds, pl d = true) → plAll ds = true
  | [], _ => rfl
  | x :: r, h => by
    show (pl x && plAll r) = true
    rw [h x List.mem_cons_self, plAll_of fun d hd => h d (List.mem_cons_of_mem _ hd)]; rfl
theorem plI (xs : List Int) : pl (dI xs) = true := plAll_of fun d hd => by
  obtain ⟨i, _, rfl⟩ := List.mem_map.mp hd; rfl
theorem dI_inj {xs ys : List Int} (h : dI xs = dI ys) : xs = ys := by
  have h2 : xs.map PyData.int = ys.map PyData.int := by unfold dI at h; injection h
  exact (List.map_inj_right (fun a b e => by cases e; rfl)).mp h2
/-! keys: a number and two rows -/
def dK (k : Int × List Int × List Int) : PyData := .list [.int k.1, dI k.2.1, dI k.2.2]
theorem dK_inj {x y : Int × List Int × List Int} (h : dK x = dK y) : x = y := by
  unfold dK at h
  injection h with h
  injection h with h1 h
  injection h with h2 h
  injection h with h3 h
  injection h1 with h1
  exact Prod.ext h1 (Prod.ext (dI_inj h2) (dI_inj h3))
theorem plK (k : Int × List Int × List Int) : pl (dK k) = true := by
  unfold dK
  rw [pl]
  refine plAll_of fun d hd => ?_
  rcases List.mem_cons.mp hd with e | hd
  · rw [e]; rfl
  · rcases List.mem_cons.mp hd with e | hd
    · rw [e]; exact plI _
    · rw [List.mem_singleton.mp hd]; exact plI _
theorem layI1 (xs : List Int) : PyData.canLay0 (dI xs) = true := by unfold dI; rw [PyData.canLay0]; exact layI xs
theorem depI1 (xs : List Int) : PyData.depth (dI xs) = 1 := by unfold dI; rw [PyData.depth, depI]
theorem kItems (k : Int × List Int × List Int) : ∀ d ∈ [PyData.int k.1, dI k.2.1, dI k.2.2], PyData.canLay0 d = true ∧ PyData.depth d ≤ 1 := fun d hd => by
  rcases List.mem_cons.mp hd with e | hd
  · rw [e]; exact ⟨by rw [PyData.canLay0], by rw [PyData.depth]; omega⟩
  · rcases List.mem_cons.mp hd with e | hd
    · rw [e]; exact ⟨layI1 _, by rw [depI1]; omega⟩
    · rw [List.mem_singleton.mp hd]; exact ⟨layI1 _, by rw [depI1]; omega⟩
theorem shK (k : Int × List Int × List Int) : SeqAt.shaped (dK k) = true := sh_list fun d hd => ⟨(kItems k d hd).1, by have := (kItems k d hd).2; omega⟩
theorem layK (k : Int × List Int × List Int) : PyData.canLay0 (dK k) = true ∧ PyData.depth (dK k) ≤ 2 := by
  unfold dK
  refine ⟨?_, ?_⟩
  · have := SeqAt.canLay_of_shaped (shK k); unfold dK at this; exact this
  · rw [PyData.depth, PyData.depthAll, PyData.depthAll, PyData.depthAll, PyData.depthAll, depI1, depI1, PyData.depth]; decide
theorem shKs (ks : List (Int × List Int × List Int)) : SeqAt.shaped (.list (ks.map dK)) = true := sh_list fun d hd => by
  obtain ⟨k, _, rfl⟩ := List.mem_map.mp hd
  exact ⟨(layK k).1, by have := (layK k).2; omega⟩
theorem plKs (ks : List (Int × List Int × List Int)) : plAll (ks.map dK) = true := plAll_of fun d hd => by
  obtain ⟨k, _, rfl⟩ := List.mem_map.mp hd; exact plK k
/-! pairs -/
def dT (q : Int × Int) : PyData := .tuple [.int q.1, .int q.2]
theorem Tp.dp {K : PySem.W.Frag} {C : Hp} : ∀ {ts : List Addr} {qs : List (Int × Int)}, Tp C ts qs → DpAll K C (ts.map V.ref) (qs.map dT)
  | [], [], _ => .nil
  | [], _ :: _, h => by have := h.1; simp at this
  | _ :: _, [], h => by have := h.1; simp at this
  | a :: as, r :: rs, h => by
    obtain ⟨r', h1, h2⟩ := h.2 0 a rfl
    have e : r = r' := Option.some.inj h1
    refine .cons (.tup (SqT.of (by rw [e]; exact h2)) (.cons (.int _) (.cons (.int _) .nil))) (Tp.dp ⟨by have := h.1; simpa using this, fun i b hb => ?_⟩)
    obtain ⟨r2, h3, h4⟩ := h.2 (i + 1) b hb
    exact ⟨r2, h3, h4⟩
theorem layT (q : Int × Int) : PyData.canLay0 (dT q) = true ∧ PyData.depth (dT q) ≤ 2 := by
  unfold dT
  exact ⟨rfl, by rw [PyData.depth, PyData.depthAll, PyData.depthAll, PyData.depthAll, PyData.depth, PyData.depth]; decide⟩
theorem shTs (qs : List (Int × Int)) : SeqAt.shaped (.list (qs.map dT)) = true := sh_list fun d hd => by
  obtain ⟨k, _, rfl⟩ := List.mem_map.mp hd
  exact ⟨(layT k).1, by have := (layT k).2; omega⟩
theorem plTs (qs : List (Int × Int)) : plAll (qs.map dT) = true := plAll_of fun d hd => by
  obtain ⟨k, _, rfl⟩ := List.mem_map.mp hd; rfl
theorem r_neNil {K : PySem.W.Frag} {H : Hp} {Q : VK} {a b : Addr} {ts : List Addr} {qs : List (Int × Int)} (h1 : H a = some (.lst (ts.map V.ref))) (ht : Tp H ts qs) (h2 : H b = some (.lst [])) (q : ∀ z : Bool, (z = true ↔ ts ≠ []) → Q (.bl z) H) : rNeD K (.ref a) (.ref b) H Q := by
  refine r_neDd (d := .list (qs.map dT)) (e := .list []) (.lst (SqL.of h1) ht.dp) (.lst (SqL.of h2) .nil) (shTs qs) rfl (plTs qs) rfl fun z hz => q z ?_
  rw [hz]
  constructor
  · intro h e
    have := ht.1
    rw [e] at this
    exact h (by rw [List.length_eq_zero_iff.mp this.symm]; rfl)
  · intro h e
    injection e with e
    rw [List.map_eq_nil_iff] at e
    have := ht.1
    rw [e] at this
    exact h (List.length_eq_zero_iff.mp this)
end Lw
namespace Lm
open Lw
theorem In.of {n L : Nat} {rs : List (List Int)} (h : Wf n L rs) : In rs := fun r hr e he => by
  have := (h.2 r hr).2.2 e he
  rw [h.1]; exact this
end Lm
/-! plain maths: numberings that tell the sets, and the drawing built of a sketch -/
namespace Lm
/-- equal numbers exactly at places with the same members' numbers -/
def Ext (T : List (List Int)) (N : Nat → Int) : Prop := ∀ (a b : Nat) r s, T[a]? = some r → T[b]? = some s → (N a = N b ↔ ∀ z, (∃ e ∈ r, N e.toNat = z) ↔ (∃ e ∈ s, N e.toNat = z))
/-- the drawing T built of the rows rs, c of them groups -/
structure Bd (T rs : List (List Int)) (n c : Nat) : Prop where
  len : rs.length = n
  cn : c ≤ n
  grp : ∀ a, a < c → T[a]? = rs[a]?
  bar : ∀ (i : Nat) r, c + i < n → rs[c + i]? = some r → T[c + i]? = some (r ++ [((n + i : Nat) : Int)])
  mark : ∀ i, c + i < n → T[n + i]? = some [((n + (n - c) : Nat) : Int), ((n + (n - c) + (c + 1 + i) : Nat) : Int)]
  zero : c < n → T[n + (n - c)]? = some []
  wrap : c < n → ∀ w, w < n → T[n + (n - c) + (w + 1)]? = some [((n + (n - c) + w : Nat) : Int)]
section
variable {T rs : List (List Int)} {n c : Nat} {N : Nat → Int}
theorem Bd.z_inj (B : Bd T rs n c) (X : Ext T N) (h : c < n) : ∀ j k, j ≤ n → k ≤ n → N (n + (n - c) + j) = N (n + (n - c) + k) → j = k := by
  intro j
  induction j with
  | zero =>
    intro k _ hk e
    cases k with
    | zero => rfl
    | succ k =>
      have := (X _ _ _ _ (B.zero h) (B.wrap h k (by omega))).mp e (N (n + (n - c) + k))
      obtain ⟨e, he, _⟩ := this.mpr ⟨_, List.mem_singleton.mpr rfl, by rw [Int.toNat_natCast]⟩
      exact nomatch he
  | succ j ih =>
    intro k hj hk e
    cases k with
    | zero =>
      have := (X _ _ _ _ (B.wrap h j (by omega)) (B.zero h)).mp e (N (n + (n - c) + j))
      obtain ⟨e, he, _⟩ := this.mp ⟨_, List.mem_singleton.mpr rfl, by rw [Int.toNat_natCast]⟩
      exact nomatch he
    | succ k =>
      have := (X _ _ _ _ (B.wrap h j (by omega)) (B.wrap h k (by omega))).mp e (N (n + (n - c) + j))
      obtain ⟨e, he, e2⟩ := this.mp ⟨_, List.mem_singleton.mpr rfl, by rw [Int.toNat_natCast]⟩
      rw [List.mem_singleton.mp he, Int.toNat_natCast] at e2
      rw [ih k (by omega) (by omega) e2.symm]
/-- a place with the number of j nested braces -/
theorem Bd.z_zero (B : Bd T rs n c) (X : Ext T N) (h : c < n) {a : Nat} {r : List Int} (hr : T[a]? = some r) (e : N a = N (n + (n - c) + 0)) : r = [] := by
  cases r with
  | nil => rfl
  | cons x r =>
    have := (X _ _ _ _ hr (B.zero h)).mp e (N x.toNat)
    obtain ⟨e, he, _⟩ := this.mp ⟨x, List.mem_cons_self, rfl⟩
    exact nomatch he
theorem Bd.z_succ (B : Bd T rs n c) (X : Ext T N) (h : c < n) {a : Nat} {r : List Int} (hr : T[a]? = some r) {j : Nat} (hj : j < n) (e : N a = N (n + (n - c) + (j + 1))) : (∀ x ∈ r, N x.toNat = N (n + (n - c) + j)) ∧ ∃ x, x ∈ r := by
  have key := (X _ _ _ _ hr (B.wrap h j hj)).mp e
  constructor
  · intro x hx
    obtain ⟨y, hy, e2⟩ := (key (N x.toNat)).mp ⟨x, hx, rfl⟩
    rw [List.mem_singleton.mp hy, Int.toNat_natCast] at e2
    exact e2.symm
  · obtain ⟨x, hx, _⟩ := (key (N (n + (n - c) + j))).mpr ⟨_, List.mem_singleton.mpr rfl, by rw [Int.toNat_natCast]⟩
    exact ⟨x, hx⟩
theorem Bd.mark_z (B : Bd T rs n c) (X : Ext T N) {i : Nat} (hi : c + i < n) {j : Nat} (hj : j ≤ n) : N (n + i) ≠ N (n + (n - c) + j) := by
  intro e
  have h : c < n := by omega
  cases j with
  | zero => have := B.z_zero X h (B.mark i hi) e; cases this
  | succ j =>
    obtain ⟨k1, _⟩ := B.z_succ X h (B.mark i hi) (by omega) e
    have e1 := k1 _ (List.mem_cons_self)
    have e2 := k1 _ (List.mem_cons_of_mem _ (List.mem_singleton.mpr rfl))
    rw [Int.toNat_natCast] at e1 e2
    have h1 := B.z_inj X h 0 j (by omega) (by omega) e1
    have h2 := B.z_inj X h (c + 1 + i) j (by omega) (by omega) e2
    omega
theorem Bd.bare_row (B : Bd T rs n c) {i : Nat} (hi : c + i < n) : ∃ r, rs[c + i]? = some r ∧ T[c + i]? = some (r ++ [((n + i : Nat) : Int)]) := by
  obtain ⟨r, hr⟩ : ∃ r, rs[c + i]? = some r := ⟨_, List.getElem?_eq_getElem (by rw [B.len]; exact hi)⟩
  exact ⟨r, hr, B.bar i r hi hr⟩
theorem Bd.bare_z (B : Bd T rs n c) (X : Ext T N) {i : Nat} (hi : c + i < n) {j : Nat} (hj : j ≤ n) : N (c + i) ≠ N (n + (n - c) + j) := by
  intro e
  have h : c < n := by omega
  obtain ⟨r, _, hr⟩ := B.bare_row hi
  cases j with
  | zero => have := B.z_zero X h hr e; simp at this
  | succ j =>
    obtain ⟨k1, _⟩ := B.z_succ X h hr (by omega) e
    have e1 := k1 _ (List.mem_append_right _ (List.mem_singleton.mpr rfl))
    rw [Int.toNat_natCast] at e1
    exact B.mark_z X hi (by omega) e1
/-- a place below n with the number of j nested braces is the end of a chain of j + 1 groups -/
theorem Bd.chain (B : Bd T rs n c) (X : Ext T N) (hin : In rs) (h : c < n) : ∀ j, j ≤ n → ∀ p, p < n → N p = N (n + (n - c) + j) → ∃ f : Nat → Nat, ∀ k, k ≤ j → f k < c ∧ N (f k) = N (n + (n - c) + k) := by
  intro j
  induction j with
  | zero =>
    intro hj p hp e
    refine ⟨fun _ => p, fun k hk => ?_⟩
    have : k = 0 := by omega
    subst this
    refine ⟨?_, e⟩
    rcases Nat.lt_or_ge p c with q | q
    · exact q
    · have := B.bare_z X (i := p - c) (by omega) (j := 0) (by omega)
      rw [show c + (p - c) = p by omega] at this
      exact absurd e this
  | succ j ih =>
    intro hj p hp e
    have hpc : p < c := by
      rcases Nat.lt_or_ge p c with q | q
      · exact q
      · have := B.bare_z X (i := p - c) (by omega) hj
        rw [show c + (p - c) = p by omega] at this
        exact absurd e this
    obtain ⟨r, hr⟩ : ∃ r, rs[p]? = some r := ⟨_, List.getElem?_eq_getElem (by rw [B.len]; exact hp)⟩
    have hT : T[p]? = some r := by rw [B.grp p hpc]; exact hr
    obtain ⟨k1, x, hx⟩ := B.z_succ X h hT (by omega) e
    have hx2 := hin r (List.mem_of_getElem? hr) x hx
    rw [B.len] at hx2
    obtain ⟨f, hf⟩ := ih (by omega) x.toNat (by omega) (k1 x hx)
    refine ⟨fun k => if k = j + 1 then p else f k, fun k hk => ?_⟩
    by_cases hk2 : k = j + 1
    · subst hk2; simp only [if_pos]; exact ⟨hpc, e⟩
    · simp only [if_neg hk2]; exact hf k (by omega)
theorem Bd.low (B : Bd T rs n c) (X : Ext T N) (hin : In rs) (h : c < n) {j : Nat} (hj : j ≤ n) {p : Nat} (hp : p < n) (e : N p = N (n + (n - c) + j)) : j < c := by
  obtain ⟨f, hf⟩ := B.chain X hin h j hj p hp e
  have nd : ((List.range (j + 1)).map f).Nodup := by
    rw [List.Nodup, List.pairwise_map]
    refine List.Pairwise.imp_of_mem (fun {a b} ha hb hab e2 => ?_) (List.nodup_range (n := j + 1))
    have h1 := List.mem_range.mp ha
    have h2 := List.mem_range.mp hb
    have e3 := (hf a (by omega)).2
    have e4 := (hf b (by omega)).2
    rw [e2] at e3
    exact hab (B.z_inj X h a b (by omega) (by omega) (e3.symm.trans e4))
  have := nodup_le (n := c) nd fun x hx => by
    obtain ⟨k, hk, rfl⟩ := List.mem_map.mp hx
    exact (hf k (by have := List.mem_range.mp hk; omega)).1
  rw [List.length_map, List.length_range] at this
  omega
/-- no place below n is a mark's set -/
theorem Bd.no_mark (B : Bd T rs n c) (X : Ext T N) (hin : In rs) {i : Nat} (hi : c + i < n) {p : Nat} (hp : p < n) : N p ≠ N (n + i) := by
  intro e
  have h : c < n := by omega
  have key : ∀ r, T[p]? = some r → ∃ x ∈ r, N x.toNat = N (n + (n - c) + (c + 1 + i)) := fun r hr => by
    refine ((X _ _ _ _ hr (B.mark i hi)).mp e _).mpr ⟨_, List.mem_cons_of_mem _ (List.mem_singleton.mpr rfl), by rw [Int.toNat_natCast]⟩
  obtain ⟨r, hr⟩ : ∃ r, rs[p]? = some r := ⟨_, List.getElem?_eq_getElem (by rw [B.len]; exact hp)⟩
  have low : ∀ x ∈ r, N x.toNat ≠ N (n + (n - c) + (c + 1 + i)) := fun x hx e2 => by
    have hx2 := hin r (List.mem_of_getElem? hr) x hx
    rw [B.len] at hx2
    have := B.low X hin h (j := c + 1 + i) (by omega) (p := x.toNat) (by omega) e2
    omega
  rcases Nat.lt_or_ge p c with q | q
  · obtain ⟨x, hx, e2⟩ := key r (by rw [B.grp p q]; exact hr)
    exact low x hx e2
  · have hb := B.bar (p - c) r (by omega) (by rw [show c + (p - c) = p by omega]; exact hr)
    rw [show c + (p - c) = p by omega] at hb
    obtain ⟨x, hx, e2⟩ := key _ hb
    rcases List.mem_append.mp hx with z | z
    · exact low x z e2
    · rw [List.mem_singleton.mp z, Int.toNat_natCast] at e2
      exact B.mark_z X (i := p - c) (by omega) (j := c + 1 + i) (by omega) e2
theorem Bd.mark_in (B : Bd T rs n c) (X : Ext T N) {i : Nat} (hi : c + i < n) {p : Nat} {r : List Int} (hr : T[p]? = some r) (e : N (c + i) = N p) : ∃ x ∈ r, N x.toNat = N (n + i) := by
  obtain ⟨r0, _, h0⟩ := B.bare_row hi
  exact ((X _ _ _ _ h0 hr).mp e _).mp ⟨_, List.mem_append_right _ (List.mem_singleton.mpr rfl), by rw [Int.toNat_natCast]⟩
theorem Bd.bare_inj (B : Bd T rs n c) (X : Ext T N) (hin : In rs) {i k : Nat} (hi : c + i < n) (hk : c + k < n) (e : N (c + i) = N (c + k)) : i = k := by
  have h : c < n := by omega
  obtain ⟨r, hr0, hr⟩ := B.bare_row hk
  obtain ⟨x, hx, e2⟩ := B.mark_in X hi hr e
  rcases List.mem_append.mp hx with z | z
  · have hx2 := hin r (List.mem_of_getElem? hr0) x z
    rw [B.len] at hx2
    exact absurd e2 (B.no_mark X hin hi (by omega))
  · rw [List.mem_singleton.mp z, Int.toNat_natCast] at e2
    have := (X _ _ _ _ (B.mark k hk) (B.mark i hi)).mp e2 (N (n + (n - c) + (c + 1 + i)))
    obtain ⟨y, hy, e3⟩ := this.mpr ⟨_, List.mem_cons_of_mem _ (List.mem_singleton.mpr rfl), by rw [Int.toNat_natCast]⟩
    rcases List.mem_cons.mp hy with w | w
    · rw [w, Int.toNat_natCast] at e3
      have := B.z_inj X h 0 (c + 1 + i) (by omega) (by omega) e3
      omega
    · rw [List.mem_singleton.mp w, Int.toNat_natCast] at e3
      have := B.z_inj X h (c + 1 + k) (c + 1 + i) (by omega) (by omega) e3
      omega
theorem Bd.bare_grp (B : Bd T rs n c) (X : Ext T N) (hin : In rs) {i g : Nat} (hi : c + i < n) (hg : g < c) : N (c + i) ≠ N g := by
  intro e
  obtain ⟨r, hr⟩ : ∃ r, rs[g]? = some r := ⟨_, List.getElem?_eq_getElem (by rw [B.len]; omega)⟩
  obtain ⟨x, hx, e2⟩ := B.mark_in X hi (show T[g]? = some r by rw [B.grp g hg]; exact hr) e
  have hx2 := hin r (List.mem_of_getElem? hr) x hx
  rw [B.len] at hx2
  exact absurd e2 (B.no_mark X hin hi (by omega))
/-- equal numbers of two groups: alike as the sketch has it -/
theorem Bd.isB (B : Bd T rs n c) (X : Ext T N) (hin : In rs) (hasc : ∀ r ∈ rs, r.Pairwise (· < ·)) {g h : Nat} (hg : g < c) (hh : h < c) (e : N g = N h) : Bs c rs g h := by
  refine ⟨fun x y => x < c ∧ y < c ∧ N x = N y, ?_, hg, hh, e⟩
  rintro x y ⟨hx, hy, e⟩
  obtain ⟨r, hr⟩ : ∃ r, rs[x]? = some r := ⟨_, List.getElem?_eq_getElem (by rw [B.len]; have := B.cn; omega)⟩
  obtain ⟨s, hs⟩ : ∃ s, rs[y]? = some s := ⟨_, List.getElem?_eq_getElem (by rw [B.len]; have := B.cn; omega)⟩
  have key := (X _ _ r s (by rw [B.grp x hx]; exact hr) (by rw [B.grp y hy]; exact hs)).mp e
  have hi : ∀ {t}, t ∈ rs → ∀ z ∈ t, 0 ≤ z ∧ z < (n : Int) := fun {t} ht z hz => by have := hin t ht z hz; rw [B.len] at this; exact this
  have hrm := List.mem_of_getElem? hr
  have hsm := List.mem_of_getElem? hs
  -- a member's partner is of its own kind
  have part : ∀ {a b : Int}, 0 ≤ a → a < (n : Int) → 0 ≤ b → b < (n : Int) → N a.toNat = N b.toNat → (a < (c : Int) ↔ b < (c : Int)) ∧ (¬ a < (c : Int) → a = b) := fun {a b} a0 a1 b0 b1 e => by
    by_cases ha : a < (c : Int)
    · by_cases hb : b < (c : Int)
      · exact ⟨⟨fun _ => hb, fun _ => ha⟩, fun z => absurd ha z⟩
      · have := B.bare_grp X hin (i := b.toNat - c) (g := a.toNat) (by omega) (by omega)
        rw [show c + (b.toNat - c) = b.toNat by omega] at this
        exact absurd e.symm this
    · by_cases hb : b < (c : Int)
      · have := B.bare_grp X hin (i := a.toNat - c) (g := b.toNat) (by omega) (by omega)
        rw [show c + (a.toNat - c) = a.toNat by omega] at this
        exact absurd e this
      · have := B.bare_inj X hin (i := a.toNat - c) (k := b.toNat - c) (by omega) (by omega) (by rw [show c + (a.toNat - c) = a.toNat by omega, show c + (b.toNat - c) = b.toNat by omega]; exact e)
        exact ⟨⟨fun z => absurd z ha, fun z => absurd z hb⟩, fun _ => by omega⟩
  have go : ∀ a ∈ r, ∃ b ∈ s, N a.toNat = N b.toNat := fun a ha => by
    obtain ⟨b, hb, e2⟩ := (key (N a.toNat)).mp ⟨a, ha, rfl⟩
    exact ⟨b, hb, e2.symm⟩
  have back : ∀ b ∈ s, ∃ a ∈ r, N a.toNat = N b.toNat := fun b hb => by
    obtain ⟨a, ha, e2⟩ := (key (N b.toNat)).mpr ⟨b, hb, rfl⟩
    exact ⟨a, ha, e2⟩
  refine ⟨r, s, hx, hy, hr, hs, ?_, fun a ha => ?_, fun b hb => ?_⟩
  · refine asc_eq ((hasc r hrm).filter _) ((hasc s hsm).filter _) fun z => ?_
    show z ∈ br c r ↔ z ∈ br c s
    rw [br_mem, br_mem]
    constructor
    · rintro ⟨hz, hz2⟩
      obtain ⟨b, hb, e2⟩ := go z hz
      have := (part (hi hrm z hz).1 (hi hrm z hz).2 (hi hsm b hb).1 (hi hsm b hb).2 e2).2 (by omega)
      rw [this] at hz2 ⊢; exact ⟨hb, hz2⟩
    · rintro ⟨hz, hz2⟩
      obtain ⟨a, ha, e2⟩ := back z hz
      have := (part (hi hsm z hz).1 (hi hsm z hz).2 (hi hrm a ha).1 (hi hrm a ha).2 e2.symm).2 (by omega)
      rw [this] at hz2 ⊢; exact ⟨ha, hz2⟩
  · obtain ⟨ha1, ha2⟩ := gp_mem.mp ha
    obtain ⟨b, hb, e2⟩ := go a ha1
    have a3 := hi hrm a ha1
    have b3 := hi hsm b hb
    have := ((part a3.1 a3.2 b3.1 b3.2 e2).1).mp ha2
    exact ⟨b, gp_mem.mpr ⟨hb, this⟩, by omega, by omega, e2⟩
  · obtain ⟨hb1, hb2⟩ := gp_mem.mp hb
    obtain ⟨a, ha, e2⟩ := back b hb1
    have a3 := hi hrm a ha
    have b3 := hi hsm b hb1
    have := ((part a3.1 a3.2 b3.1 b3.2 e2).1).mpr hb2
    exact ⟨a, gp_mem.mpr ⟨ha, this⟩, by omega, by omega, e2⟩
/-- where no two groups are alike, the places below n have different numbers, and the rows tell the members -/
theorem Bd.inj (B : Bd T rs n c) (X : Ext T N) (hin : In rs) (hasc : ∀ r ∈ rs, r.Pairwise (· < ·)) (hs : ∀ g h, Bs c rs g h → g = h) {p q : Nat} (hp : p < n) (hq : q < n) (e : N p = N q) : p = q := by
  rcases Nat.lt_or_ge p c with a | a
  · rcases Nat.lt_or_ge q c with b | b
    · exact hs p q (B.isB X hin hasc a b e)
    · have := B.bare_grp X hin (i := q - c) (g := p) (by omega) a
      rw [show c + (q - c) = q by omega] at this
      exact absurd e.symm this
  · rcases Nat.lt_or_ge q c with b | b
    · have := B.bare_grp X hin (i := p - c) (g := q) (by omega) b
      rw [show c + (p - c) = p by omega] at this
      exact absurd e this
    · have := B.bare_inj X hin (i := p - c) (k := q - c) (by omega) (by omega) (by rw [show c + (p - c) = p by omega, show c + (q - c) = q by omega]; exact e)
      omega
theorem Bd.mem (B : Bd T rs n c) (X : Ext T N) (hin : In rs) (hasc : ∀ r ∈ rs, r.Pairwise (· < ·)) (hs : ∀ g h, Bs c rs g h → g = h) {a k : Nat} (ha : a < n) (hk : k < n) {r t : List Int} (hr : rs[a]? = some r) (ht : T[a]? = some t) :
    (∃ e ∈ t, N e.toNat = N k) ↔ (k : Int) ∈ r := by
  have low : ∀ e ∈ r, N e.toNat = N k → e = (k : Int) := fun e he e2 => by
    have h1 := hin r (List.mem_of_getElem? hr) e he
    rw [B.len] at h1
    have := B.inj X hin hasc hs (p := e.toNat) (q := k) (by omega) hk e2
    omega
  rcases Nat.lt_or_ge a c with q | q
  · rw [B.grp a q, hr] at ht
    cases ht
    exact ⟨fun ⟨e, he, e2⟩ => by rw [← low e he e2]; exact he, fun h => ⟨_, h, by rw [Int.toNat_natCast]⟩⟩
  · have hb := B.bar (a - c) r (by omega) (by rw [show c + (a - c) = a by omega]; exact hr)
    rw [show c + (a - c) = a by omega, ht] at hb
    cases hb
    constructor
    · rintro ⟨e, he, e2⟩
      rcases List.mem_append.mp he with z | z
      · rw [← low e z e2]; exact z
      · rw [List.mem_singleton.mp z, Int.toNat_natCast] at e2
        exact absurd e2.symm (B.no_mark X hin (i := a - c) (by omega) hk)
    · intro h
      exact ⟨_, List.mem_append_left _ h, by rw [Int.toNat_natCast]⟩
end
end Lm
/-! plain maths: sets are numbered round by round -/
namespace Lm
structure Sn (rs : List (List Int)) (N : List Int) (ks : List (List Int)) : Prop where
  len : N.length = rs.length
  rng : ∀ z ∈ N, z = -1 ∨ (0 ≤ z ∧ z < (ks.length : Int))
  nd : ks.Nodup
  key : ∀ (a : Nat) r z, rs[a]? = some r → N[a]? = some z → 0 ≤ z → ∃ k, ks[z.toNat]? = some k ∧ k.Pairwise (· < ·) ∧ (∀ y, y ∈ k ↔ ∃ e ∈ r, N[e.toNat]? = some y) ∧ ∀ e ∈ r, ∃ y, N[e.toNat]? = some y ∧ 0 ≤ y
  rank : ∃ (μ : Nat → Nat) (K : Nat), ∀ (a : Nat) r z, rs[a]? = some r → N[a]? = some z → 0 ≤ z → μ a < K ∧ ∀ e ∈ r, μ e.toNat < μ a
theorem Sn.init (rs : List (List Int)) : Sn rs (List.replicate rs.length (-1)) [] := by
  have no : ∀ (a : Nat) z, (List.replicate rs.length (-1 : Int))[a]? = some z → z = -1 := fun a z h => (List.mem_replicate.mp (List.mem_of_getElem? h)).2
  refine ⟨List.length_replicate, fun z hz => .inl (List.mem_replicate.mp hz).2, List.nodup_nil, fun a r z _ h hz => ?_, fun _ => 0, 0, fun a r z _ h hz => ?_⟩
  · rw [no a z h] at hz; omega
  · rw [no a z h] at hz; omega
theorem Sn.step {rs : List (List Int)} {N : List Int} {ks ks' : List (List Int)} (S : Sn rs N ks) {a : Nat} {r : List Int} (hr : rs[a]? = some r) (ha : N[a]? = some (-1)) (hm : ∀ e ∈ r, ∃ y, N[e.toNat]? = some y ∧ 0 ≤ y)
    {k : List Int} (hk : k.Pairwise (· < ·)) (hk2 : ∀ y, y ∈ k ↔ ∃ e ∈ r, N[e.toNat]? = some y) {j : Nat} (hj : ks'[j]? = some k) (hks : ks' = ks ∨ (ks' = ks ++ [k] ∧ k ∉ ks)) : Sn rs (N.set a j) ks' := by
  have hal : a < N.length := (List.getElem?_eq_some_iff.mp ha).1
  have hjl := (List.getElem?_eq_some_iff.mp hj).1
  have pre : ∀ (i : Nat) x, ks[i]? = some x → ks'[i]? = some x := fun i x h => by
    rcases hks with q | ⟨q, _⟩
    · rw [q]; exact h
    · rw [q, List.getElem?_append_left (List.getElem?_eq_some_iff.mp h).1]; exact h
  have ple : ks.length ≤ ks'.length := by
    rcases hks with q | ⟨q, _⟩
    · rw [q]; exact Nat.le_refl _
    · rw [q, List.length_append]; omega
  -- numbered places are not a
  have keep : ∀ (b : Nat) y, N[b]? = some y → 0 ≤ y → (N.set a (j : Int))[b]? = some y := fun b y h h0 => by
    by_cases e : a = b
    · subst e; rw [ha] at h; have := Option.some.inj h; omega
    · rw [List.getElem?_set_ne e]; exact h
  have keep2 : ∀ (s : List Int), (∀ e ∈ s, ∃ y, N[e.toNat]? = some y ∧ 0 ≤ y) → ∀ y, (∃ e ∈ s, (N.set a (j : Int))[e.toNat]? = some y) ↔ ∃ e ∈ s, N[e.toNat]? = some y := fun s hs y => by
    constructor
    · rintro ⟨e, he, h⟩
      obtain ⟨y', h1, h2⟩ := hs e he
      rw [keep _ _ h1 h2] at h
      exact ⟨e, he, by rw [h1]; exact h⟩
    · rintro ⟨e, he, h⟩
      obtain ⟨y', h1, h2⟩ := hs e he
      rw [h1] at h
      have h := Option.some.inj h
      subst h
      exact ⟨e, he, keep _ _ h1 h2⟩
  refine ⟨by rw [List.length_set]; exact S.len, fun z hz => ?_, ?_, fun b s z hs hz h0 => ?_, ?_⟩
  · rcases List.mem_or_eq_of_mem_set hz with q | q
    · rcases S.rng z q with w | w
      · exact .inl w
      · exact .inr ⟨w.1, by omega⟩
    · rw [q]; exact .inr ⟨by omega, by omega⟩
  · rcases hks with q | ⟨q, q2⟩
    · rw [q]; exact S.nd
    · rw [q, List.nodup_append]
      exact ⟨S.nd, by simp, fun x hx y hy e => q2 (by rw [← List.mem_singleton.mp hy, ← e]; exact hx)⟩
  · by_cases e : a = b
    · subst e
      rw [List.getElem?_set_self hal] at hz
      cases hz
      rw [hr] at hs; cases hs
      rw [Int.toNat_natCast]
      refine ⟨k, hj, hk, fun y => by rw [hk2, keep2 _ hm], fun e he => ?_⟩
      obtain ⟨y, h1, h2⟩ := hm e he
      exact ⟨y, keep _ _ h1 h2, h2⟩
    · rw [List.getElem?_set_ne e] at hz
      obtain ⟨k', h1, h2, h3, h4⟩ := S.key b s z hs hz h0
      refine ⟨k', pre _ _ h1, h2, fun y => by rw [h3, keep2 _ h4], fun e he => ?_⟩
      obtain ⟨y, h5, h6⟩ := h4 e he
      exact ⟨y, keep _ _ h5 h6, h6⟩
  · obtain ⟨μ, K, h⟩ := S.rank
    refine ⟨fun b => if b = a then K else μ b, K + 1, fun b s z hs hz h0 => ?_⟩
    have hne : ∀ e : Int, (∃ y, N[e.toNat]? = some y ∧ 0 ≤ y) → e.toNat ≠ a := fun e ⟨y, h1, h2⟩ z => by
      rw [z, ha] at h1; have := Option.some.inj h1; omega
    by_cases e : a = b
    · subst e
      rw [hr] at hs; cases hs
      refine ⟨by simp only [if_pos]; omega, fun e he => ?_⟩
      simp only [if_pos, if_neg (hne e (hm e he))]
      obtain ⟨y, h1, h2⟩ := hm e he
      obtain ⟨s', hs'⟩ : ∃ s', rs[e.toNat]? = some s' := ⟨_, List.getElem?_eq_getElem (by rw [← S.len]; exact (List.getElem?_eq_some_iff.mp h1).1)⟩
      exact (h _ _ _ hs' h1 h2).1
    · rw [List.getElem?_set_ne e] at hz
      obtain ⟨_, _, _, _, h4⟩ := S.key b s z hs hz h0
      obtain ⟨h5, h6⟩ := h b s z hs hz h0
      simp only [if_neg (Ne.symm e)]
      refine ⟨by omega, fun e he => ?_⟩
      rw [if_neg (hne e (h4 e he))]
      exact h6 e he
theorem Sn.ext {rs : List (List Int)} {N : List Int} {ks : List (List Int)} (S : Sn rs N ks) (h : ∀ z ∈ N, 0 ≤ z) : Ext rs fun a => (N[a]?).getD (-1) := by
  intro a b r s hr hs
  have at_ : ∀ {a : Nat} {r : List Int}, rs[a]? = some r → ∃ z, N[a]? = some z ∧ 0 ≤ z := fun {a r} hr => by
    obtain ⟨z, hz⟩ : ∃ z, N[a]? = some z := ⟨_, List.getElem?_eq_getElem (by rw [S.len]; exact (List.getElem?_eq_some_iff.mp hr).1)⟩
    exact ⟨z, hz, h z (List.mem_of_getElem? hz)⟩
  obtain ⟨x, hx, x0⟩ := at_ hr
  obtain ⟨y, hy, y0⟩ := at_ hs
  obtain ⟨k, k1, k2, k3, k4⟩ := S.key a r x hr hx x0
  obtain ⟨l, l1, l2, l3, l4⟩ := S.key b s y hs hy y0
  have conv : ∀ {t : List Int}, (∀ e ∈ t, ∃ y, N[e.toNat]? = some y ∧ 0 ≤ y) → ∀ z, (∃ e ∈ t, (N[e.toNat]?).getD (-1) = z) ↔ ∃ e ∈ t, N[e.toNat]? = some z := fun {t} ht z => by
    constructor
    · rintro ⟨e, he, h⟩
      obtain ⟨y, h1, _⟩ := ht e he
      rw [h1] at h
      exact ⟨e, he, by rw [h1, ← h]; rfl⟩
    · rintro ⟨e, he, h⟩
      exact ⟨e, he, by rw [h]; rfl⟩
  show (N[a]?).getD (-1) = (N[b]?).getD (-1) ↔ ∀ z, (∃ e ∈ r, (N[e.toNat]?).getD (-1) = z) ↔ ∃ e ∈ s, (N[e.toNat]?).getD (-1) = z
  rw [hx, hy]
  constructor
  · intro e
    have e : x = y := e
    subst e
    rw [k1] at l1
    have := Option.some.inj l1
    subst this
    intro z
    rw [conv k4, conv l4, ← k3, ← l3]
  · intro hz
    have e : k = l := asc_eq k2 l2 fun z => by rw [k3, l3, ← conv k4, ← conv l4]; exact hz z
    subst e
    have := at_inj S.nd k1 l1
    show x = y
    omega
theorem Sn.acyc {rs : List (List Int)} {N : List Int} {ks : List (List Int)} (S : Sn rs N ks) (h : ∀ z ∈ N, 0 ≤ z) : ∀ x, ¬ Tc (Ed rs) x x := by
  obtain ⟨μ, K, hk⟩ := S.rank
  intro x t
  have := no_ring (E := Ed rs) (μ := μ) (fun a b ⟨r, hr, hb⟩ => by
    obtain ⟨z, hz⟩ : ∃ z, N[a]? = some z := ⟨_, List.getElem?_eq_getElem (by rw [S.len]; exact (List.getElem?_eq_some_iff.mp hr).1)⟩
    have := (hk a r z hr hz (h z (List.mem_of_getElem? hz))).2 _ hb
    rwa [Int.toNat_natCast] at this) t
  omega
theorem Sn.stuck {rs : List (List Int)} {N : List Int} {ks : List (List Int)} (S : Sn rs N ks) (hin : In rs) (hs : ∀ (a : Nat) r, rs[a]? = some r → (∃ z, N[a]? = some z ∧ 0 ≤ z) ∨ ∃ e ∈ r, ∃ y, N[e.toNat]? = some y ∧ y < 0) (hr : ∀ x, ¬ Tc (Ed rs) x x) : ∀ z ∈ N, 0 ≤ z := by
  intro z hz
  refine Classical.byContradiction fun hlt => ?_
  obtain ⟨a, ha⟩ := List.mem_iff_getElem?.mp hz
  obtain ⟨k, _, t⟩ := ring_of (E := Ed rs) (n := rs.length) (U := fun a => ∃ z, N[a]? = some z ∧ z < 0) (fun a ⟨z, hz, _⟩ => by rw [← S.len]; exact (List.getElem?_eq_some_iff.mp hz).1) (fun a ⟨z, hz, h0⟩ => by
    obtain ⟨r, hr⟩ : ∃ r, rs[a]? = some r := ⟨_, List.getElem?_eq_getElem (by rw [← S.len]; exact (List.getElem?_eq_some_iff.mp hz).1)⟩
    rcases hs a r hr with ⟨z', h1, h2⟩ | ⟨e, he, y, h1, h2⟩
    · rw [hz] at h1; have := Option.some.inj h1; omega
    · have := (hin r (List.mem_of_getElem? hr) e he).1
      exact ⟨e.toNat, ⟨y, h1, h2⟩, r, hr, by rw [Int.toNat_of_nonneg this]; exact he⟩) ⟨z, ha, by omega⟩
  exact hr k t
def cnt (N : List Int) : Nat := N.countP fun z => decide (0 ≤ z)
theorem cnt_set {N : List Int} {z : Int} (hz : 0 ≤ z) : ∀ {a : Nat}, N[a]? = some (-1) → cnt (N.set a z) = cnt N + 1 := by
  unfold cnt
  induction N with
  | nil => intro a h; simp at h
  | cons x N ih =>
    intro a h
    cases a with
    | zero =>
      simp at h; subst h
      rw [List.set_cons_zero, List.countP_cons, List.countP_cons, if_pos (by simpa using hz), if_neg (by decide)]
    | succ a =>
      rw [List.getElem?_cons_succ] at h
      rw [List.set_cons_succ, List.countP_cons, List.countP_cons, ih h]; omega
theorem cnt_all {N : List Int} (h : N.length ≤ cnt N) : ∀ z ∈ N, 0 ≤ z := by
  have := List.countP_eq_length.mp (Nat.le_antisymm List.countP_le_length h)
  intro z hz
  exact of_decide_eq_true (this z hz)
theorem cnt_le (N : List Int) : cnt N ≤ N.length := List.countP_le_length
end Lm
/-! plain maths: no rings in a drawing whose further places fall -/
namespace Lm
theorem acyc_of {T rs : List (List Int)} {n : Nat} (μ : Nat → Nat) (h1 : ∀ a b, Ed T a b → a < n → b < n → Ed rs a b) (h2 : ∀ a b, Ed T a b → n ≤ a → n ≤ b ∧ μ b < μ a) (hr : ∀ x, ¬ Tc (Ed rs) x x) : ∀ x, ¬ Tc (Ed T) x x := by
  have A : ∀ a b, Tc (Ed T) a b → n ≤ a → n ≤ b ∧ μ b < μ a := fun a b t => by
    induction t with
    | one e => exact h2 _ _ e
    | more _ e ih =>
      intro ha
      have h3 := ih ha
      have h4 := h2 _ _ e h3.1
      exact ⟨h4.1, Nat.lt_trans h4.2 h3.2⟩
  have B : ∀ a b, Tc (Ed T) a b → a < n → b < n → Tc (Ed rs) a b := fun a b t => by
    induction t with
    | one e => exact fun ha hb => .one (h1 _ _ e ha hb)
    | @more b c t e ih =>
      intro ha hc
      rcases Nat.lt_or_ge b n with q | q
      · exact .more (ih ha q) (h1 _ _ e q hc)
      · have := (h2 _ _ e q).1; omega
  intro x t
  rcases Nat.lt_or_ge x n with q | q
  · exact hr x (B x x t q q)
  · have := (A x x t q).2; omega
end Lm
/-! a table: rows of ints as tuple keys, each with its place as value -/
namespace Lw
open PySem PySem.Spec PyProof.Rows L2
def tkey (k : List Int) : List Key := k.map Sum.inl
theorem tkey_inj {k l : List Int} (h : tkey k = tkey l) : k = l := (List.map_inj_right (fun a b e => by cases e; rfl)).mp h
theorem tkey_kV (k : List Int) : (tkey k).map kV = k.map V.int := by
  unfold tkey; rw [List.map_map]; rfl
def tabF (i : Nat) : List (List Int) → List (List Key × V)
  | [] => []
  | k :: r => (tkey k, .int (i : Int)) :: tabF (i + 1) r
def tab (ks : List (List Int)) : List (List Key × V) := tabF 0 ks
theorem tabF_len : ∀ (ks : List (List Int)) (i : Nat), (tabF i ks).length = ks.length
  | [], _ => rfl
  | _ :: r, i => congrArg Nat.succ (tabF_len r (i + 1))
theorem tab_len (ks : List (List Int)) : (tab ks).length = ks.length := tabF_len ks 0
theorem tabF_get : ∀ (ks : List (List Int)) (i : Nat) {j : Nat} {k : List Int}, ks.Nodup → ks[j]? = some k → valV (tabF i ks) (tkey k) = some (.int ((i + j : Nat) : Int))
  | [], _, _, _, _, h => by simp at h
  | x :: r, i, j, k, hn, h => by
    rw [List.nodup_cons] at hn
    unfold valV tabF
    by_cases e : x = k
    · have hj : j = 0 := by
        cases j with
        | zero => rfl
        | succ j => rw [List.getElem?_cons_succ] at h; exact absurd (e ▸ List.mem_of_getElem? h) hn.1
      subst hj e
      rw [List.find?_cons_of_pos (by simp)]; rfl
    · rw [List.find?_cons_of_neg (by simp only [decide_eq_true_eq]; exact fun z => e (tkey_inj z))]
      cases j with
      | zero => simp at h; exact absurd h e
      | succ j =>
        rw [List.getElem?_cons_succ] at h
        have := tabF_get r (i + 1) hn.2 h
        unfold valV at this
        rw [this]
        congr 2
        omega
theorem tabF_none : ∀ (ks : List (List Int)) (i : Nat) {k : List Int}, k ∉ ks → valV (tabF i ks) (tkey k) = none
  | [], _, _, _ => rfl
  | x :: r, i, k, h => by
    unfold valV tabF
    rw [List.find?_cons_of_neg (by simp only [decide_eq_true_eq]; exact fun z => h (by rw [← tkey_inj z]; exact List.mem_cons_self))]
    have := tabF_none r (i + 1) (k := k) fun z => h (List.mem_cons_of_mem _ z)
    unfold valV at this
    exact this
theorem tab_get {ks : List (List Int)} {j : Nat} {k : List Int} (hn : ks.Nodup) (h : ks[j]? = some k) : valV (tab ks) (tkey k) = some (.int (j : Int)) := by
  have := tabF_get ks 0 hn h
  rw [Nat.zero_add] at this; exact this
theorem tab_none {ks : List (List Int)} {k : List Int} (h : k ∉ ks) : valV (tab ks) (tkey k) = none := tabF_none ks 0 h
theorem tabF_push : ∀ (ks : List (List Int)) (i : Nat) (k : List Int), tabF i ks ++ [(tkey k, .int ((i + ks.length : Nat) : Int))] = tabF i (ks ++ [k])
  | [], _, _ => rfl
  | x :: r, i, k => by
    show (tkey x, V.int (i : Int)) :: (tabF (i + 1) r ++ _) = (tkey x, V.int (i : Int)) :: tabF (i + 1) (r ++ [k])
    rw [← tabF_push r (i + 1) k, show i + (x :: r).length = i + 1 + r.length by rw [List.length_cons]; omega]
theorem tabF_any : ∀ (ks : List (List Int)) (i : Nat) {k : List Int}, k ∉ ks → (tabF i ks).any (fun kv => decide (kv.1 = tkey k)) = false
  | [], _, _, _ => rfl
  | x :: r, i, k, h => by
    show (decide (tkey x = tkey k) || (tabF (i + 1) r).any _) = false
    rw [tabF_any r (i + 1) fun z => h (List.mem_cons_of_mem _ z), decide_eq_false (fun z => h (by rw [← tkey_inj z]; exact List.mem_cons_self))]; rfl
theorem tab_put {ks : List (List Int)} {k : List Int} (h : k ∉ ks) : putK (tab ks) (tkey k) (.int (ks.length : Int)) = tab (ks ++ [k]) := by
  unfold putK tab
  rw [tabF_any ks 0 h]
  simp only [Bool.false_eq_true, if_false]
  have := tabF_push ks 0 k
  rw [Nat.zero_add] at this
  exact this
end Lw
namespace Lw
open PySem PySem.Spec PyProof.Rows L2
section
variable {X : Cx}
def rTupleOf (K : PySem.W.Frag) : List V → Hp → VK → Prop := fun xs H Q => ∃ p ys, xs = [.ref p] ∧ ((SqL K H p ys ∧ ∀ l, H l = none → Q (.ref l) (upd H l (.tup ys))) ∨ (SqT K H p ys ∧ Q (.ref p) H))
theorem call_tuple_ofK {K : PySem.W.Frag} (h : X.K = K) : CallR X (.type "tuple") (rTupleOf K) := by subst h; exact call_tuple_of
end
section
variable {K : PySem.W.Frag} {σ : L2.St} {H : Hp} {Q : VK} {D : Ends}
theorem r_tupleOf {a : Addr} {xs : List V} (h : H a = some (.lst xs)) (q : ∀ l, H l = none → Q (.ref l) (upd H l (.tup xs))) : rTupleOf K [.ref a] H Q := ⟨a, xs, rfl, .inl ⟨SqL.of h, q⟩⟩
theorem r_lenTb {a : Addr} {kvs : List (List Key × V)} (h : H a = some (.dT kvs)) (q : Q (.int kvs.length) H) : L2.rLenT [.ref a] H Q := ⟨a, kvs, rfl, h, q⟩
theorem r_dget {td ty : TE} (h : td σ H fun x H1 => ty σ H1 fun y H2 => ∃ a v, x = .ref a ∧ DGet H2 a y (some v) ∧ Q v H2) : tDGet td ty σ H Q := h
theorem r_dnot {td ty : TE} (h : ty σ H fun y H1 => td σ H1 fun x H2 => ∃ a o, x = .ref a ∧ DGet H2 a y o ∧ Q (.bl (!o.isSome)) H2) : tDNotIn ty td σ H Q := h
theorem r_dput {td ty tv : TE} (h : tv σ H fun v H1 => td σ H1 fun x H2 => ty σ H2 fun y H3 => ∃ a H4, x = .ref a ∧ DPut H3 a y v H4 ∧ D.nx σ H4) : sDPut td ty tv D σ H := h
theorem r_dnewT (h : ∀ p, H p = none → Q (.ref p) (upd H p (.dT []))) : tDNewT σ H Q := h
end
end Lw
/-! isinstance of a caught own error, asked of a tuple of classes -/
namespace Lw
open PySem PySem.Spec PyProof.Rows L2
def rIsET (K : PySem.W.Frag) (D a : Addr) : List V → Hp → VK → Prop := fun xs H Q => ∃ (tp : Addr) (cs : List Addr) (b : Bool), xs = [.ref a, .ref tp] ∧ H tp = some (.tup (cs.map V.ref)) ∧ PySem.W.kitAny K (.ref D) (cs.map Value.ref) = some b ∧ Q (.bl b) H
theorem vals_refs : ∀ {cs : List Addr} {us : List Value}, Vals (cs.map V.ref) us → us = cs.map Value.ref
  | [], _, .nil => rfl
  | c :: cs, _, .cons r t => by
    have h : _ = Value.ref c := r
    rw [h, vals_refs t]; rfl
theorem call_isET {X : Cx} {a D : Addr} {oe : Obj} {pn : List (Addr × Obj)} (C : ExcC X.K D) (hz : Zc (.ref D) none oe) (hf : ∃ vs, oe.data = .fields vs) : CallR (X.suite a ((a, oe) :: pn)) (.builtin "isinstance") (rIsET X.K D a) := by
  intro pins s σ H xs us Q I r h
  obtain ⟨tp, cs, b, rfl, ht, e, q⟩ := h
  cases r with
  | cons rx rr =>
    cases rr with
    | cons rt rr =>
      cases rr
      cases rx
      cases rt
      obtain ⟨hget, _⟩ := I.pin (a, oe) (List.mem_append.mpr (.inl List.mem_cons_self))
      obtain ⟨vs, hv⟩ := hf
      have J : PySem.W.InstAt s.heap a oe D none := by
        obtain ⟨oc, od, oda, osl⟩ := oe
        obtain ⟨h1, h2⟩ := hz
        dsimp only at h1 h2 hv
        subst h1 h2 hv
        exact ⟨hget, rfl, rfl, trivial⟩
      obtain ⟨its, rv, pl, hz2⟩ := I.tuple (SqT.of ht)
      obtain ⟨o, ho, hc, n, hd⟩ := pl
      obtain ⟨oc, od, oda, osl⟩ := o
      simp only at hc hd
      subst hc hd
      rw [vals_refs rv] at ho
      exact PySem.W.kia_tup (PySem.W.handS_kitx_exc C.hg C.hk C.hs C.hd C.ha C.hn C.ht C.hm) I.kIn J ho e (fun z => nomatch z) fun tk => ⟨.bl b, H, I.kept (t' := tk) fun _ _ z => z, rfl, q⟩
end Lw
namespace K39
open PySem PySem.Spec PyProof.Rows L2 Lw

def topS (i : Nat) : Stmt := PySem.Challenge.pw_setnests_k39_whole_built_plain.main.body.getD i (.Pass ⟨0, 0, 0, 0⟩)
abbrev s_settled_places : Stmt := topS 9
theorem sc_settled_places : FnScope ["rows", "holders", "missing", "place", "row", "held", "settled", "at", "lower", "holder"] ["rows"] (defScope s_settled_places) := ⟨rfl, rfl, rfl, by decide +kernel, rfl, by decide +kernel, by decide +kernel⟩

abbrev s_are_matched : Stmt := topS 11
theorem sc_are_matched : FnScope ["first", "second", "related", "one", "other"] ["first", "second", "related"] (defScope s_are_matched) := ⟨rfl, rfl, rfl, by decide +kernel, rfl, by decide +kernel, by decide +kernel⟩

abbrev s_greatest_likeness : Stmt := topS 12
theorem sc_greatest_likeness : FnScope ["count", "rows", "groups", "bares", "related", "pairs", "fallen", "first", "second", "row", "one", "g", "h", "place", "other"] ["count", "rows"] (defScope s_greatest_likeness) := ⟨rfl, rfl, rfl, by decide +kernel, rfl, by decide +kernel, by decide +kernel⟩

abbrev s_pairs_alike : Stmt := topS 13
theorem sc_pairs_alike : FnScope ["count", "rows", "rings", "pairs", "related", "g", "h"] ["count", "rows", "rings"] (defScope s_pairs_alike) := ⟨rfl, rfl, rfl, by decide +kernel, rfl, by decide +kernel, by decide +kernel⟩

abbrev s_sketch_stands : Stmt := topS 14
theorem sc_sketch_stands : FnScope ["count", "rows", "rings"] ["count", "rows", "rings"] (defScope s_sketch_stands) := ⟨rfl, rfl, rfl, by decide +kernel, rfl, by decide +kernel, by decide +kernel⟩

abbrev s_build_drawing : Stmt := topS 16
theorem sc_build_drawing : FnScope ["count", "rows", "rings", "drawing", "bare", "first_mark", "zero", "index", "wraps", "row"] ["count", "rows", "rings"] (defScope s_build_drawing) := ⟨rfl, rfl, rfl, by decide +kernel, rfl, by decide +kernel, by decide +kernel⟩

abbrev s__law_start : Stmt := topS 18
theorem sc__law_start : FnScope ["script", "great", "mixed", "cell"] ["script"] (defScope s__law_start) := ⟨rfl, rfl, rfl, by decide +kernel, rfl, by decide +kernel, by decide +kernel⟩

abbrev s__law_draw : Stmt := topS 19
theorem sc__law_draw : FnScope ["state", "many", "rest", "one", "two", "three"] ["state", "many"] (defScope s__law_draw) := ⟨rfl, rfl, rfl, by decide +kernel, rfl, by decide +kernel, by decide +kernel⟩

abbrev s__law_free : Stmt := topS 20
theorem sc__law_free : FnScope ["state", "count", "size", "thin", "rows", "at", "last", "k"] ["state"] (defScope s__law_free) := ⟨rfl, rfl, rfl, by decide +kernel, rfl, by decide +kernel, by decide +kernel⟩

abbrev s__law_ranked : Stmt := topS 21
theorem sc__law_ranked : FnScope ["state", "most", "bares", "thin", "count", "levels", "rows", "at", "row", "may", "two", "level", "k", "place"] ["state", "most", "bares", "thin"] (defScope s__law_ranked) := ⟨rfl, rfl, rfl, by decide +kernel, rfl, by decide +kernel, by decide +kernel⟩

abbrev s__law_chain : Stmt := topS 22
theorem sc__law_chain : FnScope ["state", "size", "rows", "k", "count", "at"] ["state"] (defScope s__law_chain) := ⟨rfl, rfl, rfl, by decide +kernel, rfl, by decide +kernel, by decide +kernel⟩

abbrev s__law_sketch : Stmt := topS 23
theorem sc__law_sketch : FnScope ["state", "way"] ["state"] (defScope s__law_sketch) := ⟨rfl, rfl, rfl, by decide +kernel, rfl, by decide +kernel, by decide +kernel⟩

abbrev s__law_moved : Stmt := topS 24
theorem sc__law_moved : FnScope ["state", "sketch", "count", "order", "k", "bares", "moved", "old", "place"] ["state", "sketch"] (defScope s__law_moved) := ⟨rfl, rfl, rfl, by decide +kernel, rfl, by decide +kernel, by decide +kernel⟩

abbrev s__law_sets : Stmt := topS 25
theorem sc__law_sets : FnScope ["drawing", "numbers", "table", "turn", "before", "at", "key", "row", "place"] ["drawing"] (defScope s__law_sets) := ⟨rfl, rfl, rfl, by decide +kernel, rfl, by decide +kernel, by decide +kernel⟩

abbrev s__law_is_drawing : Stmt := topS 26
theorem sc__law_is_drawing : FnScope ["drawing", "most", "row", "last", "place"] ["drawing", "most"] (defScope s__law_is_drawing) := ⟨rfl, rfl, rfl, by decide +kernel, rfl, by decide +kernel, by decide +kernel⟩

abbrev s__law_is_built : Stmt := topS 27
theorem sc__law_is_built : FnScope ["told", "count", "rows", "numbers", "at", "held", "place", "k"] ["told", "count", "rows"] (defScope s__law_is_built) := ⟨rfl, rfl, rfl, by decide +kernel, rfl, by decide +kernel, by decide +kernel⟩

abbrev s__law_builds : Stmt := topS 28
theorem sc__law_builds : FnScope ["count", "rows", "told", "word", "e", "odd"] ["count", "rows"] (defScope s__law_builds) := ⟨rfl, rfl, rfl, by decide +kernel, rfl, by decide +kernel, by decide +kernel⟩

abbrev s__law_judged : Stmt := topS 29
theorem sc__law_judged : FnScope ["count", "rows", "handed", "asked", "doubled", "row", "told", "k"] ["count", "rows"] (defScope s__law_judged) := ⟨rfl, rfl, rfl, by decide +kernel, rfl, by decide +kernel, by decide +kernel⟩

abbrev s__law_mended : Stmt := topS 30
theorem sc__law_mended : FnScope ["count", "rows", "mended", "at", "row"] ["count", "rows"] (defScope s__law_mended) := ⟨rfl, rfl, rfl, by decide +kernel, rfl, by decide +kernel, by decide +kernel⟩

abbrev s_law : Stmt := topS 31
theorem sc_law : FnScope ["script", "state", "sketch", "count", "rows"] ["script"] (defScope s_law) := ⟨rfl, rfl, rfl, by decide +kernel, rfl, by decide +kernel, by decide +kernel⟩

structure Blt (mg : Str → Option Value) : Prop where
  m_abs : mg "abs" = none
  m_any : mg "any" = none
  m_bool : mg "bool" = none
  m_enumerate : mg "enumerate" = none
  m_int : mg "int" = none
  m_isinstance : mg "isinstance" = none
  m_len : mg "len" = none
  m_list : mg "list" = none
  m_range : mg "range" = none
  m_set : mg "set" = none
  m_sorted : mg "sorted" = none
  m_tuple : mg "tuple" = none
/-- a def stands at f -/
structure Dn (K : PySem.W.Frag) (mg : Str → Option Value) (x : Str) (st : Stmt) (ps : List Str) (f : Addr) (fd : FuncData) : Prop where
  F : Fun K x x st f fd
  b : Binds K fd ps []
  g : mg x = some (.ref f)
/-- a def with keyword-only parameters, n others -/
structure DnK (K : PySem.W.Frag) (mg : Str → Option Value) (x : Str) (st : Stmt) (ps : List Str) (n : Nat) (ks : List Str) (f : Addr) (fd : FuncData) : Prop where
  F : Fun K x x st f fd
  kb : KBn K fd ps n ks (fun us ws => us ++ ws) (fun vs zs => vs ++ zs)
  g : mg x = some (.ref f)
/-- and its defaults -/
structure DnKD (K : PySem.W.Frag) (mg : Str → Option Value) (x : Str) (st : Stmt) (ps : List Str) (n : Nat) (ks : List Str) (dv : List V) (f : Addr) (fd : FuncData) : Prop extends DnK K mg x st ps n ks f fd where
  d : ∃ ds, Vals dv ds ∧ Binds K fd ps ds
end K39
namespace K39
open PySem PySem.Spec PyProof.Rows L2 Lw


local macro_rules | `(tactic| walk_at "look") => `(tactic| first
  | assumption
  | with_reducible exact upd_same
  | with_reducible exact rg_st
  | with_reducible exact rg_g (by assumption)
  | (with_reducible refine upd_old (by assumption) ?_; walk_at "look")
  | (with_reducible refine rg_get (by assumption) ?_; walk_at "look")
  | (with_reducible refine Same.get (by assumption) ?_; walk_at "look"))
local macro_rules | `(tactic| walk_at "cond") => `(tactic| first
  | (show _ ≠ _; omega) | exact cdivN (by omega) (by omega) | exact cmul_mod (by decide) (by decide) | exact cmulR (by omega) (by omega) | exact cmulL (by omega) (by omega) | exact cpow (by omega) (by omega) (by omega) (by omega) | (show (0:Int) ≤ _; omega))
local macro_rules | `(tactic| walk_at "at") => `(tactic| first | assumption | with_unfolding_all rfl)
local macro_rules | `(tactic| walk_at "sz") => `(tactic| first | assumption | (refine small ?_; omega) | (refine small ?_; simp only [List.length_map, List.length_append, List.length_cons, List.length_nil]; omega))
local macro_rules | `(tactic| walk_at "len") => `(tactic| first | exact size_nil | exact Nat.le_of_lt (small (by simp only [List.length_cons, List.length_nil, List.length_map]; omega)))
local macro_rules | `(tactic| walk_at "newD") => `(tactic| (refine ⟨by walk_at "len", fun p np => ?_⟩; obtain ⟨e, o', hD', n', ne'⟩ := newTD_eq (topRg _ _) (by assumption) (by assumption) np (.lst _); rw [e]; clear e))
local macro_rules | `(tactic| walk_at "new") => `(tactic| (refine ⟨by walk_at "len", fun p np => ?_⟩; obtain ⟨e, o', n'⟩ := newT_eq (topRg _ _) (by assumption) np (.lst _); rw [e]; clear e))
local macro_rules | `(tactic| walk_at "st") => `(tactic| first
  | with_reducible refine r_seq ?_
  | with_reducible refine r_var rfl ?_
  | with_reducible refine r_c ?_
  | with_reducible refine r_asg ?_
  | (with_reducible refine r_name ?_; dsimp only [List.set_cons_zero, List.set_cons_succ])
  | with_reducible refine r_sub ?_
  | with_reducible refine r_op ?_
  | with_reducible refine r_i0 ?_
  | (with_reducible refine' r_i ?k1 ?_; (case k1 => walk_at "cond"))
  | with_reducible refine r_cons ?_
  | with_reducible refine r_nil ?_
  | with_reducible refine r_cb ?_
  | with_reducible refine r_call ?_
  | with_reducible refine r_ifs ?_
  | with_reducible refine r_test ?_
  | with_reducible refine r_tB ?_
  | with_reducible refine r_bl ?_
  | with_reducible refine r_ret ?_
  | with_reducible refine r_drop ?_
  | with_reducible refine r_next ?_
  | (with_reducible refine' r_ixL ?k1 ?k2 ?_; (case k1 => walk_at "look"); (case k2 => walk_at "at"))
  | (with_reducible refine' r_setL ?k1 ?k2 ?_; (case k1 => walk_at "look"); (case k2 => walk_at "at"))
  | with_reducible refine r_aug rfl ?_
  | with_reducible refine r_augS ?_
  | with_reducible refine r_ipI ?_
  | with_reducible refine r_un ?_
  | with_reducible refine r_u ?_
  | with_reducible refine r_eq rfl ?_
  | with_reducible refine r_ne rfl ?_
  | with_reducible refine r_chain ?_
  | with_reducible refine iteF ?_
  | with_reducible refine r_not ?_
  | with_reducible refine r_and ?_
  | with_reducible refine r_or ?_
  | with_reducible refine r_andV ?_
  | with_reducible refine r_orV ?_
  | with_reducible refine r_notV ?_
  | with_reducible refine r_lst ?_
  | with_reducible refine r_bm ?_
  | with_reducible refine r_bm0 ?_
  | (with_reducible refine' And.intro (r_ty ?k1) ?_; (case k1 => walk_at "look"))
  | (with_reducible refine' r_append ?k1 ?k2 ?_; (case k1 => walk_at "look"); (case k2 => walk_at "sz"))
  | (with_reducible refine' r_lenK ?k1 ?_; (case k1 => walk_at "look"))
  | (with_reducible refine' r_listOf ?k1 ?_; (case k1 => walk_at "look"))
  | (with_reducible refine' r_sortedI ?k1 ?_; (case k1 => walk_at "look"))
  | (with_reducible refine' r_sum ?k1 ?_; (case k1 => walk_at "look"))
  | with_reducible refine r_int ?_
  | (with_reducible refine' r_draw (by assumption) ?k1 ?k2 ?_; (case k1 => omega); (case k2 => omega); intro R' n' o' h' h'')
  | with_reducible refine iteT ?_
  | with_reducible refine r_revL ?_
  | with_reducible refine r_lc ?_
  | with_reducible refine r_yes ?_
  | with_reducible refine r_for ?_
  | with_reducible refine r_iList ?_
  | with_reducible refine r_rng1 ?_
  | with_reducible refine r_enum ?_
  | (with_reducible show Ends.nx _ _ _; dsimp only)
  | (with_reducible show Ends.rt _ _ _; dsimp only)
  | (with_reducible show Ends.ct _ _ _; dsimp only)
  | (with_reducible show Ends.bk _ _ _; dsimp only))
local macro_rules | `(tactic| walk_at "go") => `(tactic| repeat (walk_at "st"))
local macro_rules | `(tactic| walk_at "begin") => `(tactic| dsimp only [cxOf, wipe, L2.start, List.map, List.length_cons, List.length_nil, Nat.reduceAdd, Nat.reduceSub, List.replicate, List.cons_append, List.nil_append])

section
variable {P : Program} {w : World} {K : PySem.W.Frag} {mg : Str → Option Value} {base : Heap}
theorem ok_draw {f : Addr} {fd : FuncData} {k : Nat} (B : Blt mg) (D : Dn K mg "_law_draw" s__law_draw ["state", "many"] f fd) : FnOk P w K mg base CX0 (k + 1) f fd ["state", "many"] spDraw := by
  refine D.F.ok sc__law_draw (fun vs H Q E h => ?_) (fun cdv A outer s H vs Q E hr h => ?_)
  · obtain ⟨st, g, R, B, many, rfl, _⟩ := h
    rfl
  · obtain ⟨st, g, R, C, many, rfl, rfl, o, h1, h2, q⟩ := h
    refine ⟨_, (pss_cons (ps_if (pt_cmpR op_lt (pe_ix (ix_listK (K := K) rfl) (pv 0) pe_int (fun _ _ => rfl)) (pe_callB (call_len_seqK (K := K) rfl) (by rfl) B.m_len PySem.boot_len (pa_cons (pe_ix (ix_listK (K := K) rfl) (pv 0) pe_int (fun _ _ => rfl)) pa_nil)) (nomark _)) (pss_cons (ps_set (i := 2) sc__law_draw.nd rfl (.inl rfl) (pe_ix (ix_listK (K := K) rfl) (pe_ix (ix_listK (K := K) rfl) (pv 0) pe_int (fun _ _ => rfl)) (pe_ix (ix_listK (K := K) rfl) (pv 0) pe_int (fun _ _ => rfl)) (fun _ _ => rfl)))
      (pss_cons (ps_asg (pe_op op_fdivN (pv 2) (pv 1)) (pg_sub (pe_ix (ix_listK (K := K) rfl) (pv 0) pe_int (fun _ _ => rfl)) (pe_ix (ix_listK (K := K) rfl) (pv 0) pe_int (fun _ _ => rfl)) set_list))
      (pss_cons (ps_if (pt_cmpR op_eq (pe_op op_fdivN (pv 2) (pv 1)) pe_int (nomark _)) (pss_one (ps_asg (pe_op op_add (pe_ix (ix_listK (K := K) rfl) (pv 0) pe_int (fun _ _ => rfl)) pe_int) (pg_sub (pv 0) pe_int set_list))) pss_nil)
      (pss_one (ps_ret (pe_op op_modN (pe_callTy call_int1 (by rfl) B.m_int (by decide +kernel) (pa_cons (pv 2) pa_nil)) (pv 1))))))) pss_nil)
      (pss_cons (ps_asg (pe_op op_add (pe_ix (ix_listK (K := K) rfl) (pv 0) pe_int (fun _ _ => rfl)) pe_int) (pg_sub (pv 0) pe_int set_list))
      (pss_cons (ps_set (i := 3) sc__law_draw.nd rfl (.inl rfl) (pe_op op_modN (pe_callTy call_int1 (by rfl) B.m_int (by decide +kernel) (pa_cons (pe_op op_add (pe_ix (ix_listK (K := K) rfl) (pv 0) pe_int (fun _ _ => rfl)) (pe_op op_mul (pe_ix (ix_listK (K := K) rfl) (pv 0) pe_int (fun _ _ => rfl)) pe_int)) pa_nil)) pe_int))
      (pss_cons (ps_set (i := 4) sc__law_draw.nd rfl (.inl rfl) (pe_op op_modN (pe_callTy call_int1 (by rfl) B.m_int (by decide +kernel) (pa_cons (pe_op op_add (pe_op op_mul (pv 3) (pv 3)) (pe_op op_mul (pe_ix (ix_listK (K := K) rfl) (pv 0) pe_int (fun _ _ => rfl)) pe_int)) pa_nil)) pe_int))
      (pss_cons (ps_set (i := 5) sc__law_draw.nd rfl (.inl rfl) (pe_op op_modN (pe_callTy call_int1 (by rfl) B.m_int (by decide +kernel) (pa_cons (pe_op op_add (pe_op op_mul (pv 4) (pv 4)) (pv 3)) pa_nil)) pe_int))
      (pss_one (ps_ret (pe_op op_modN (pe_callTy call_int1 (by rfl) B.m_int (by decide +kernel) (pa_cons (pe_op op_fdivN (pv 5) pe_int) pa_nil)) (pv 1))))))))), ?_⟩
    walk_at "begin"
    walk_at "go"
    have fin : ∀ n : Int, 0 ≤ n → 0 ≤ n.fmod many ∧ n.fmod many < many := fun n _ => ⟨Int.fmod_nonneg_of_pos n (by omega), Int.fmod_lt_of_pos n (by omega)⟩
    refine r_ite (fun hlt => ?_) (fun _ => ?_)
    · have hl2 := hlt
      rw [List.length_map] at hl2
      have i0 := o.ok.i0
      have hi : R.i.toNat < R.ns.length := by omega
      obtain ⟨z, hz⟩ : ∃ z, R.ns[R.i.toNat]? = some z := ⟨_, List.getElem?_eq_getElem hi⟩
      have hz0 : 0 ≤ z := o.ok.pos z (List.mem_of_getElem? hz)
      have ha : atI (R.ns.map V.int) R.i = some (.int z) := at_i i0 (by rw [List.getElem?_map, hz]; rfl)
      have hx : ixN (R.ns.map V.int).length R.i = some R.i.toNat := ix_i i0 hlt
      have hd0 : 0 ≤ z.fdiv many := Int.fdiv_nonneg hz0 (by omega)
      walk_at "go"
      rw [setMap, rg_set_g o]
      have ok1 : RS.Ok ⟨R.ns.set R.i.toNat (z.fdiv many), R.i, R.m, R.c⟩ := by
        refine ⟨i0, ?_, fun n hn => ?_, ?_⟩
        · show R.i ≤ ((R.ns.set _ _).length : Int); rw [List.length_set]; exact o.ok.i1
        · rcases List.mem_or_eq_of_mem_set hn with e | e
          · exact o.ok.pos n e
          · rw [e]; exact hd0
        · show (R.ns.set _ _).length ≤ 63; rw [List.length_set]; exact o.ok.len
      have o1 := o.re ok1
      walk_at "go"
      refine r_ite (fun _ => ?_) (fun _ => ?_)
      · walk_at "go"
        rw [show [V.ref g, V.int R.i, V.int R.m, V.int R.c].set (Int.toNat 1) (V.int (R.i + 1)) = [V.ref g, V.int (R.i + 1), V.int R.m, V.int R.c] from rfl, rg_set_st]
        have ok2 : RS.Ok ⟨R.ns.set R.i.toNat (z.fdiv many), R.i + 1, R.m, R.c⟩ := ⟨by show (0:Int) ≤ R.i + 1; omega, by show R.i + 1 ≤ ((R.ns.set _ _).length : Int); rw [List.length_set]; omega, ok1.pos, ok1.len⟩
        walk_at "go"
        exact q _ _ ok2 (fin z hz0).1 (fin z hz0).2
      · walk_at "go"
        exact q _ _ ok1 (fin z hz0).1 (fin z hz0).2
    · walk_at "go"
      rw [show [V.ref g, V.int R.i, V.int R.m, V.int R.c].set (Int.toNat 3) (V.int (R.c + 1)) = [V.ref g, V.int R.i, V.int R.m, V.int (R.c + 1)] from rfl, rg_set_st]
      have ok1 : RS.Ok ⟨R.ns, R.i, R.m, R.c + 1⟩ := ⟨o.ok.i0, o.ok.i1, o.ok.pos, o.ok.len⟩
      have o1 := o.re ok1
      walk_at "go"
      refine q _ _ ok1 (fin _ ?_).1 (fin _ ?_).2
      all_goals exact Int.fdiv_nonneg (Int.fmod_nonneg_of_pos _ (by decide)) (by decide)
end
end K39
namespace K39
open PySem PySem.Spec PyProof.Rows L2 Lw


local macro_rules | `(tactic| walk_at "look") => `(tactic| first
  | assumption
  | with_reducible exact upd_same
  | with_reducible exact rg_st
  | with_reducible exact rg_g (by assumption)
  | (with_reducible refine upd_old (by assumption) ?_; walk_at "look")
  | (with_reducible refine rg_get (by assumption) ?_; walk_at "look")
  | (with_reducible refine Same.get (by assumption) ?_; walk_at "look"))
local macro_rules | `(tactic| walk_at "cond") => `(tactic| first
  | (show _ ≠ _; omega) | exact cdivN (by omega) (by omega) | exact cmul_mod (by decide) (by decide) | exact cmulR (by omega) (by omega) | exact cmulL (by omega) (by omega) | exact cpow (by omega) (by omega) (by omega) (by omega) | (show (0:Int) ≤ _; omega))
local macro_rules | `(tactic| walk_at "at") => `(tactic| first | assumption | with_unfolding_all rfl)
local macro_rules | `(tactic| walk_at "sz") => `(tactic| first | assumption | (refine small ?_; omega) | (refine small ?_; simp only [List.length_map, List.length_append, List.length_cons, List.length_nil]; omega))
local macro_rules | `(tactic| walk_at "len") => `(tactic| first | exact size_nil | exact Nat.le_of_lt (small (by simp only [List.length_cons, List.length_nil, List.length_map]; omega)))
local macro_rules | `(tactic| walk_at "newD") => `(tactic| (refine ⟨by walk_at "len", fun p np => ?_⟩; obtain ⟨e, o', hD', n', ne'⟩ := newTD_eq (topRg _ _) (by assumption) (by assumption) np (.lst _); rw [e]; clear e))
local macro_rules | `(tactic| walk_at "new") => `(tactic| (refine ⟨by walk_at "len", fun p np => ?_⟩; obtain ⟨e, o', n'⟩ := newT_eq (topRg _ _) (by assumption) np (.lst _); rw [e]; clear e))
local macro_rules | `(tactic| walk_at "st") => `(tactic| first
  | with_reducible refine r_seq ?_
  | with_reducible refine r_var rfl ?_
  | with_reducible refine r_c ?_
  | with_reducible refine r_asg ?_
  | (with_reducible refine r_name ?_; dsimp only [List.set_cons_zero, List.set_cons_succ])
  | with_reducible refine r_sub ?_
  | with_reducible refine r_op ?_
  | with_reducible refine r_i0 ?_
  | (with_reducible refine' r_i ?k1 ?_; (case k1 => walk_at "cond"))
  | with_reducible refine r_cons ?_
  | with_reducible refine r_nil ?_
  | with_reducible refine r_cb ?_
  | with_reducible refine r_call ?_
  | with_reducible refine r_ifs ?_
  | with_reducible refine r_test ?_
  | with_reducible refine r_tB ?_
  | with_reducible refine r_bl ?_
  | with_reducible refine r_ret ?_
  | with_reducible refine r_drop ?_
  | with_reducible refine r_next ?_
  | (with_reducible refine' r_ixL ?k1 ?k2 ?_; (case k1 => walk_at "look"); (case k2 => walk_at "at"))
  | (with_reducible refine' r_setL ?k1 ?k2 ?_; (case k1 => walk_at "look"); (case k2 => walk_at "at"))
  | with_reducible refine r_aug rfl ?_
  | with_reducible refine r_augS ?_
  | with_reducible refine r_ipI ?_
  | with_reducible refine r_un ?_
  | with_reducible refine r_u ?_
  | with_reducible refine r_eq rfl ?_
  | with_reducible refine r_ne rfl ?_
  | with_reducible refine r_chain ?_
  | with_reducible refine iteF ?_
  | with_reducible refine r_not ?_
  | with_reducible refine r_and ?_
  | with_reducible refine r_or ?_
  | with_reducible refine r_andV ?_
  | with_reducible refine r_orV ?_
  | with_reducible refine r_notV ?_
  | with_reducible refine r_lst ?_
  | with_reducible refine r_bm ?_
  | with_reducible refine r_bm0 ?_
  | (with_reducible refine' And.intro (r_ty ?k1) ?_; (case k1 => walk_at "look"))
  | (with_reducible refine' r_append ?k1 ?k2 ?_; (case k1 => walk_at "look"); (case k2 => walk_at "sz"))
  | (with_reducible refine' r_lenK ?k1 ?_; (case k1 => walk_at "look"))
  | (with_reducible refine' r_listOf ?k1 ?_; (case k1 => walk_at "look"))
  | (with_reducible refine' r_sortedI ?k1 ?_; (case k1 => walk_at "look"))
  | (with_reducible refine' r_sum ?k1 ?_; (case k1 => walk_at "look"))
  | with_reducible refine r_int ?_
  | (with_reducible refine' r_draw (by assumption) ?k1 ?k2 ?_; (case k1 => omega); (case k2 => omega); intro R' n' o' h' h'')
  | with_reducible refine iteT ?_
  | with_reducible refine r_revL ?_
  | with_reducible refine r_lc ?_
  | with_reducible refine r_yes ?_
  | with_reducible refine r_for ?_
  | with_reducible refine r_iList ?_
  | with_reducible refine r_rng1 ?_
  | with_reducible refine r_enum ?_
  | (with_reducible show Ends.nx _ _ _; dsimp only)
  | (with_reducible show Ends.rt _ _ _; dsimp only)
  | (with_reducible show Ends.ct _ _ _; dsimp only)
  | (with_reducible show Ends.bk _ _ _; dsimp only))
local macro_rules | `(tactic| walk_at "go") => `(tactic| repeat (walk_at "st"))
local macro_rules | `(tactic| walk_at "begin") => `(tactic| dsimp only [cxOf, wipe, L2.start, List.map, List.length_cons, List.length_nil, Nat.reduceAdd, Nat.reduceSub, List.replicate, List.cons_append, List.nil_append])

local macro_rules | `(tactic| walk_at "st") => `(tactic| with_reducible refine r_abs ?_)
section
variable {P : Program} {w : World} {K : PySem.W.Frag} {mg : Str → Option Value} {base : Heap}
theorem ok_start {f : Addr} {fd : FuncData} {k : Nat} (B : Blt mg) (D : Dn K mg "_law_start" s__law_start ["script"] f fd) : FnOk P w K mg base CX0 (k + 1) f fd ["script"] (spStart K) := by
  refine D.F.ok sc__law_start (fun vs H Q E h => ?_) (fun cdv A outer s H vs Q E hr h => ?_)
  · obtain ⟨a, ns, rfl, _⟩ := h
    rfl
  · obtain ⟨a, ns, rfl, hS, hl, q⟩ := h
    refine ⟨_, (pss_cons (ps_set (i := 1) sc__law_start.nd rfl (.inl rfl) (pe_lst pa_nil))
      (pss_cons (ps_set (i := 2) sc__law_start.nd rfl (.inl rfl) pe_int)
      (pss_cons (ps_for PassesOwn.never rfl (pi_listK (K := K) rfl (pv 0)) (pg_name (i := 3) sc__law_start.nd rfl (.inl rfl)) (pss_cons (ps_if (pt_cmpR op_ge (pe_callB call_abs (by rfl) B.m_abs (by decide +kernel) (pa_cons (pv 3) pa_nil)) (pe_op op_pow pe_int pe_int) (nomark _)) (pss_one (ps_expr (pe_bmK (K := K) rfl PySem.F.plainAttrs_list PySem.F.slot_list_append PySem.F.type_list_append mt_append (pv 1) (pa_cons (pe_callB call_abs (by rfl) B.m_abs (by decide +kernel) (pa_cons (pv 3) pa_nil)) pa_nil)))) pss_nil)
      (pss_one (ps_set (i := 2) sc__law_start.nd rfl (.inl rfl) (pe_op op_modN (pe_callTy call_int1 (by rfl) B.m_int (by decide +kernel) (pa_cons (pe_op op_add (pe_op op_add (pe_op op_mul (pv 2) pe_int) (pe_callB call_abs (by rfl) B.m_abs (by decide +kernel) (pa_cons (pv 3) pa_nil))) pe_int) pa_nil)) pe_int)))))
      (pss_one (ps_ret (pe_lst (pa_cons (pv 1) (pa_cons pe_int (pa_cons (pv 2) (pa_cons pe_int pa_nil)))))))))), ?_⟩
    walk_at "begin"
    walk_at "go"
    refine ⟨size_nil, fun p np => ?_⟩
    walk_at "go"
    refine r_forS (xs := ns.map V.int) (Same.seq (same_new np) hS) (fun i σ H' => ∃ (gs : List Int) (m : Int) (y : Option V), σ = [some (.ref a), some (.ref p), some (.int m), y] ∧ H' = upd H p (.lst (gs.map V.int)) ∧ gs.length ≤ i ∧ (∀ n ∈ gs, 0 ≤ n) ∧ 0 ≤ m ∧ m < 2147483647) ?_ ?_ ?_ ?_
    · exact ⟨[], 1, none, rfl, rfl, Nat.le_refl _, (fun n hn => nomatch hn), by decide, by decide⟩
    · rintro i σ H' _ ⟨gs, m, y, _, rfl, _⟩
      exact Same.seq (same_new np) hS
    · rintro i x σ H' hx ⟨gs, m, y, rfl, rfl, h1, h2, h3, h4⟩
      obtain ⟨z, rfl⟩ : ∃ z : Int, x = .int z := by
        rw [List.getElem?_map] at hx
        cases e : ns[i]? with
        | none => rw [e] at hx; cases hx
        | some z => rw [e] at hx; exact ⟨z, (Option.some.inj hx).symm⟩
      have hi : i < 63 := by
        have := (List.getElem?_eq_some_iff.mp hx).1
        rw [List.length_map] at this
        omega
      walk_at "go"
      have fm : ∀ t : Int, 0 ≤ t.fmod 2147483647 ∧ t.fmod 2147483647 < 2147483647 := fun t => ⟨Int.fmod_nonneg_of_pos _ (by decide), Int.fmod_lt_of_pos _ (by decide)⟩
      refine r_ite (fun _ => ?_) (fun _ => ?_)
      · walk_at "go"
        refine ⟨gs ++ [if z < 0 then -z else z], _, _, rfl, by rw [upd_upd, List.map_append]; rfl, by rw [List.length_append, List.length_singleton]; omega, fun n hn => ?_, (fm _).1, (fm _).2⟩
        rcases List.mem_append.mp hn with e | e
        · exact h2 n e
        · rw [List.mem_singleton.mp e]; split <;> omega
      · walk_at "go"
        exact ⟨gs, _, _, rfl, rfl, by omega, h2, (fm _).1, (fm _).2⟩
    · rintro σ H' ⟨gs, m, y, rfl, rfl, h1, h2, h3, h4⟩
      walk_at "go"
      refine ⟨size_le (n := 4) rfl (by decide), fun st ns' => ?_⟩
      have hne : st ≠ p := (upd_none ns').1
      rw [List.length_map] at h1
      exact q st p ⟨gs, 0, m, 0⟩ ⟨hne, ⟨Int.le_refl _, by show (0:Int) ≤ (gs.length : Int); omega, h2, by show gs.length ≤ 63; omega⟩, (upd_none ns').2, np⟩
end
end K39
namespace K39
open PySem PySem.Spec PyProof.Rows L2 Lw


local macro_rules | `(tactic| walk_at "look") => `(tactic| first
  | assumption
  | with_reducible exact upd_same
  | with_reducible exact rg_st
  | with_reducible exact rg_g (by assumption)
  | (with_reducible refine upd_old (by assumption) ?_; walk_at "look")
  | (with_reducible refine rg_get (by assumption) ?_; walk_at "look")
  | (with_reducible refine Same.get (by assumption) ?_; walk_at "look"))
local macro_rules | `(tactic| walk_at "cond") => `(tactic| first
  | (show _ ≠ _; omega) | exact cdivN (by omega) (by omega) | exact cmul_mod (by decide) (by decide) | exact cmulR (by omega) (by omega) | exact cmulL (by omega) (by omega) | exact cpow (by omega) (by omega) (by omega) (by omega) | (show (0:Int) ≤ _; omega))
local macro_rules | `(tactic| walk_at "at") => `(tactic| first | assumption | with_unfolding_all rfl)
local macro_rules | `(tactic| walk_at "sz") => `(tactic| first | assumption | (refine small ?_; omega) | (refine small ?_; simp only [List.length_map, List.length_append, List.length_cons, List.length_nil]; omega))
local macro_rules | `(tactic| walk_at "len") => `(tactic| first | exact size_nil | exact Nat.le_of_lt (small (by simp only [List.length_cons, List.length_nil, List.length_map]; omega)))
local macro_rules | `(tactic| walk_at "newD") => `(tactic| (refine ⟨by walk_at "len", fun p np => ?_⟩; obtain ⟨e, o', hD', n', ne'⟩ := newTD_eq (topRg _ _) (by assumption) (by assumption) np (.lst _); rw [e]; clear e))
local macro_rules | `(tactic| walk_at "new") => `(tactic| (refine ⟨by walk_at "len", fun p np => ?_⟩; obtain ⟨e, o', n'⟩ := newT_eq (topRg _ _) (by assumption) np (.lst _); rw [e]; clear e))
local macro_rules | `(tactic| walk_at "st") => `(tactic| first
  | with_reducible refine r_seq ?_
  | with_reducible refine r_var rfl ?_
  | with_reducible refine r_c ?_
  | with_reducible refine r_asg ?_
  | (with_reducible refine r_name ?_; dsimp only [List.set_cons_zero, List.set_cons_succ])
  | with_reducible refine r_sub ?_
  | with_reducible refine r_op ?_
  | with_reducible refine r_i0 ?_
  | (with_reducible refine' r_i ?k1 ?_; (case k1 => walk_at "cond"))
  | with_reducible refine r_cons ?_
  | with_reducible refine r_nil ?_
  | with_reducible refine r_cb ?_
  | with_reducible refine r_call ?_
  | with_reducible refine r_ifs ?_
  | with_reducible refine r_test ?_
  | with_reducible refine r_tB ?_
  | with_reducible refine r_bl ?_
  | with_reducible refine r_ret ?_
  | with_reducible refine r_drop ?_
  | with_reducible refine r_next ?_
  | (with_reducible refine' r_ixL ?k1 ?k2 ?_; (case k1 => walk_at "look"); (case k2 => walk_at "at"))
  | (with_reducible refine' r_setL ?k1 ?k2 ?_; (case k1 => walk_at "look"); (case k2 => walk_at "at"))
  | (with_reducible refine' r_tup (SqT.of ?k1) ?k2 ?_; (case k1 => walk_at "look"); (case k2 => rfl))
  | with_reducible refine r_gcons ?_
  | with_reducible refine r_gnil ?_
  | with_reducible refine r_aug rfl ?_
  | with_reducible refine r_augS ?_
  | with_reducible refine r_ipI ?_
  | with_reducible refine r_un ?_
  | with_reducible refine r_u ?_
  | with_reducible refine r_eq rfl ?_
  | with_reducible refine r_ne rfl ?_
  | with_reducible refine r_chain ?_
  | with_reducible refine iteF ?_
  | with_reducible refine r_not ?_
  | with_reducible refine r_and ?_
  | with_reducible refine r_or ?_
  | with_reducible refine r_andV ?_
  | with_reducible refine r_orV ?_
  | with_reducible refine r_notV ?_
  | with_reducible refine r_lst ?_
  | with_reducible refine r_bm ?_
  | with_reducible refine r_bm0 ?_
  | (with_reducible refine' And.intro (r_ty ?k1) ?_; (case k1 => walk_at "look"))
  | (with_reducible refine' r_append ?k1 ?k2 ?_; (case k1 => walk_at "look"); (case k2 => walk_at "sz"))
  | (with_reducible refine' r_lenK ?k1 ?_; (case k1 => walk_at "look"))
  | (with_reducible refine' r_listOf ?k1 ?_; (case k1 => walk_at "look"))
  | (with_reducible refine' r_sortedI ?k1 ?_; (case k1 => walk_at "look"))
  | (with_reducible refine' r_sum ?k1 ?_; (case k1 => walk_at "look"))
  | with_reducible refine r_int ?_
  | (with_reducible refine' r_draw (by assumption) ?k1 ?k2 ?_; (case k1 => omega); (case k2 => omega); intro R' n' o' h' h'')
  | with_reducible refine iteT ?_
  | with_reducible refine r_revL ?_
  | with_reducible refine r_lc ?_
  | with_reducible refine r_yes ?_
  | with_reducible refine r_for ?_
  | with_reducible refine r_iList ?_
  | with_reducible refine r_rng1 ?_
  | with_reducible refine r_enum ?_
  | (with_reducible show Ends.nx _ _ _; dsimp only)
  | (with_reducible show Ends.rt _ _ _; dsimp only)
  | (with_reducible show Ends.ct _ _ _; dsimp only)
  | (with_reducible show Ends.bk _ _ _; dsimp only))
local macro_rules | `(tactic| walk_at "go") => `(tactic| repeat (walk_at "st"))
local macro_rules | `(tactic| walk_at "begin") => `(tactic| dsimp only [cxOf, wipe, L2.start, List.map, List.length_cons, List.length_nil, Nat.reduceAdd, Nat.reduceSub, List.replicate, List.cons_append, List.nil_append])


open Lm
def spSettled : Sp := fun vs H Q _ => ∃ (a : Addr) (as : List Addr) (rs : List (List Int)) (n L : Nat), vs = [.ref a] ∧ H a = some (.lst (as.map V.ref)) ∧ Rw H as rs ∧ Wf n L rs ∧ n ≤ 128 ∧ L ≤ 700 ∧
  ∀ (H' : Hp) (q : Addr) (ss : List Int), Same H H' → H q = none → H' q = some (.lst (ss.map V.int)) → (ss.length = n ↔ ∀ x, ¬ Tc (Ed rs) x x) → Q (.ref q) H'
section
variable {P : Program} {w : World} {K : PySem.W.Frag} {mg : Str → Option Value} {base : Heap}
theorem ok_settled {f : Addr} {fd : FuncData} {k : Nat} (B : Blt mg) (D : Dn K mg "settled_places" s_settled_places ["rows"] f fd) : FnOk P w K mg base CX0 (k + 1) f fd ["rows"] spSettled := by
  refine D.F.ok sc_settled_places (fun vs H Q E h => ?_) (fun cdv A outer s H vs Q E hr h => ?_)
  · obtain ⟨a, as, rs, n, L, rfl, _⟩ := h
    rfl
  · obtain ⟨a, as, rs, n, L, rfl, ha, hrw, hwf, hn, hL, q⟩ := h
    have hla : as.length = n := by rw [hrw.1]; exact hwf.1
    have hlr : rs.length = n := hwf.1
    refine ⟨_, (pss_cons (ps_setLc (i := 1) (own := [("row", 4)]) rfl sc_settled_places.nd rfl rfl (sw_true rfl rfl rfl (by decide +kernel)) (pi_listK (K := K) rfl (pv 0)) (blkOk_by (own := [("row", 4)]) (by kernel_rfl))
        (fun _ _ _ _ _ => (pg_name (i := 4) sc_settled_places.nd rfl (.inl rfl))) (fun _ _ _ _ _ => pts_nil)
        (fun _ _ _ _ _ => (pe_lst pa_nil)))
      (pss_cons (ps_setLc (i := 2) (own := [("row", 4)]) rfl sc_settled_places.nd rfl rfl (sw_true rfl rfl rfl (by decide +kernel)) (pi_listK (K := K) rfl (pv 0)) (blkOk_by (own := [("row", 4)]) (by kernel_rfl))
        (fun _ _ _ _ _ => (pg_name (i := 4) sc_settled_places.nd rfl (.inl rfl))) (fun _ _ _ _ _ => pts_nil)
        (fun _ _ _ _ _ => (pe_callB (call_len_seqK (K := K) rfl) (by rfl) B.m_len PySem.boot_len (pa_cons (pv 4) pa_nil))))
      (pss_cons (ps_for PassesOwn.never rfl (pi_enumK (K := K) rfl (by rfl) B.m_enumerate (pa_cons (pv 0) pa_nil)) (pg_tupK (K := K) (n := 2) rfl rfl (pgs_cons (pg_name (i := 3) sc_settled_places.nd rfl (.inl rfl)) (pgs_cons (pg_name (i := 4) sc_settled_places.nd rfl (.inl rfl)) pgs_nil))) (pss_one (ps_for PassesOwn.never rfl (pi_listK (K := K) rfl (pv 4)) (pg_name (i := 5) sc_settled_places.nd rfl (.inl rfl)) (pss_one (ps_expr (pe_bmK (K := K) rfl PySem.F.plainAttrs_list PySem.F.slot_list_append PySem.F.type_list_append mt_append (pe_ix (ix_listK (K := K) rfl) (pv 1) (pv 5) (fun _ _ => rfl)) (pa_cons (pv 3) pa_nil)))))))
      (pss_cons (ps_setLc (i := 6) (own := [("place", 3), ("row", 4)]) rfl sc_settled_places.nd rfl rfl (sw_true rfl rfl rfl (by decide +kernel)) (pi_enumK (K := K) rfl (by rfl) B.m_enumerate (pa_cons (pv 0) pa_nil)) (blkOk_by (own := [("place", 3), ("row", 4)]) (by kernel_rfl))
        (fun _ _ _ _ _ => (pg_tupK (K := K) (n := 2) rfl rfl (pgs_cons (pg_name (i := 3) sc_settled_places.nd rfl (.inl rfl)) (pgs_cons (pg_name (i := 4) sc_settled_places.nd rfl (.inl rfl)) pgs_nil)))) (fun _ _ _ _ _ => (pts_one (pt_cmpR (op_eqDK (K := K) rfl hr.units) (pv 4) (pe_lst pa_nil) (nomark _))))
        (fun _ _ _ _ _ => (pv 3)))
      (pss_cons (ps_set (i := 7) sc_settled_places.nd rfl (.inl rfl) pe_int)
      (pss_cons (ps_while PassesOwn.never (pt_cmpR op_lt (pv 7) (pe_callB (call_len_seqK (K := K) rfl) (by rfl) B.m_len PySem.boot_len (pa_cons (pv 6) pa_nil)) (nomark _)) (pss_cons (ps_set (i := 8) sc_settled_places.nd rfl (.inl rfl) (pe_ix (ix_listK (K := K) rfl) (pv 6) (pv 7) (fun _ _ => rfl)))
      (pss_cons (ps_for PassesOwn.never rfl (pi_listK (K := K) rfl (pe_ix (ix_listK (K := K) rfl) (pv 1) (pv 8) (fun _ _ => rfl))) (pg_name (i := 9) sc_settled_places.nd rfl (.inl rfl)) (pss_cons (ps_augS (pv 2) (pv 9) (get_listK (K := K) rfl) pe_int ip_sub set_list)
      (pss_one (ps_if (pt_cmpR op_eq (pe_ix (ix_listK (K := K) rfl) (pv 2) (pv 9) (fun _ _ => rfl)) pe_int (nomark _)) (pss_one (ps_expr (pe_bmK (K := K) rfl PySem.F.plainAttrs_list PySem.F.slot_list_append PySem.F.type_list_append mt_append (pv 6) (pa_cons (pv 9) pa_nil)))) pss_nil))))
      (pss_one (ps_aug (i := 7) sc_settled_places.nd rfl (.inl rfl) pe_int ip_add)))))
      (pss_one (ps_ret (pv 6))))))))), ?_⟩
    walk_at "begin"
    walk_at "go"
    -- the holders
    refine lcT_list topH (K := K) (s0 := ()) trivial ha (fun i C acc => ∃ as' : List Addr, acc = as'.map V.ref ∧ Rw C as' (List.replicate i []) ∧ as'.Nodup ∧ ∀ b ∈ as', H b = none) ⟨[], rfl, Rw.nil, List.nodup_nil, fun b hb => nomatch hb⟩ ?_ ?_
    · rintro D1 i x _ C acc _ hD hS hx ⟨as', rfl, h1, h2, h3⟩
      have hi := (List.getElem?_eq_some_iff.mp hx).1
      rw [List.length_map, hla] at hi
      have hl1 : as'.length = i := by rw [h1.1, List.length_replicate]
      walk_at "begin"
      walk_at "go"
      refine ⟨rfl, ?_⟩
      walk_at "go"
      refine ⟨size_nil, fun p np => ?_⟩
      obtain ⟨e, _, hD4, n4, ne4⟩ := newTD_eq topH (s := ()) trivial hD np (.lst [])
      try dsimp only at e
      rw [e]
      have h5 := (h1.mono (same_new (o := .lst []) n4)).push (r := []) (b := p) upd_same
      refine lcN_put topH (s := ()) trivial hD4 (hS.trans (same_new n4)) ?_ ⟨as' ++ [p], refs_push _ _, ?_, nodup_push h2 fun hm => ?_, fun b hb => ?_⟩
      · rw [List.length_map]; omega
      · have h6 : Rw (upd C p (.lst [])) (as' ++ [p]) (List.replicate (i + 1) []) := by rw [List.replicate_succ']; exact h5
        exact h6
      · obtain ⟨j, hj⟩ := List.mem_iff_getElem?.mp hm
        obtain ⟨r, _, hr⟩ := h1.2 j p hj
        rw [n4] at hr; cases hr
      · rcases List.mem_append.mp hb with z | z
        · exact h3 b z
        · rw [List.mem_singleton.mp z]; exact hS.free n4
    · rintro D1 _ C acc _ hB1 hD1 hS1 ⟨as', rfl, h1, h2, h3⟩
      rw [List.length_map, hla] at h1
      have hl1 : as'.length = n := by rw [h1.1, List.length_replicate]
      have hneD1 : ∀ b ∈ as', b ≠ D1 := fun b hb => by
        obtain ⟨j, hj⟩ := List.mem_iff_getElem?.mp hb
        obtain ⟨r, _, hr⟩ := h1.2 j b hj
        exact ne_of_none hr hD1
      have ha1 := hS1 _ _ ha
      have hS1' := hS1.trans (same_new (o := .lst (as'.map V.ref)) hD1)
      have hrw1 := hrw.mono hS1'
      have h1' := h1.mono (same_new (o := .lst (as'.map V.ref)) hD1)
      have hd1 : upd C D1 (.lst (as'.map V.ref)) D1 = some (.lst (as'.map V.ref)) := upd_same
      generalize upd C D1 (.lst (as'.map V.ref)) = C1 at hS1' hrw1 h1' hd1 ⊢
      clear h1 hS1 ha1 hD1
      have ha1 := hS1' _ _ ha
      walk_at "go"
      -- what is missing
      refine lcT_list topH (K := K) (s0 := ()) trivial ha1 (fun i C acc => acc = ((rs.take i).map fun r => (r.length : Int)).map V.int) rfl ?_ ?_
      · rintro D2 i x _ C2 acc _ hD hS hx rfl
        obtain ⟨c, r, rfl, _, hr1, hc⟩ := (hrw1.mono hS).at hx
        have hi := (List.getElem?_eq_some_iff.mp hx).1
        rw [List.length_map, hla] at hi
        walk_at "begin"
        walk_at "go"
        refine ⟨rfl, ?_⟩
        walk_at "go"
        rw [List.length_map]
        refine lcN_put topH (s := ()) trivial hD hS ?_ ?_
        · rw [List.length_map, List.length_map, List.length_take]; omega
        · rw [ints_push, List.take_add_one, hr1]
          show List.map V.int (_ ++ [_]) = List.map V.int (List.map _ (_ ++ [r]))
          rw [List.map_append (l₂ := [r])]; rfl
      · rintro D2 _ C2 acc _ hB2 hD2 hS2 rfl
        rw [List.length_map, hla, ← hlr, List.take_length]
        have hH2 : Same H C2 := hS1'.trans hS2
        have hd2 := hS2 _ _ hd1
        have hs2 := h1'.mono hS2
        have ms0 : (rs.map fun r => (r.length : Int)).length = n := by rw [List.length_map, hlr]
        generalize hms : (rs.map fun r => (r.length : Int)) = ms at ms0 ⊢
        walk_at "go"
        -- who holds whom
        refine r_forE (xs := as.map V.ref) (upd_old hD2 (hH2 _ _ ha)) (fun i σ H' => ∃ (C : Hp) (hs : List (List Int)) (y3 y4 y5 : Option V), σ = [some (.ref a), some (.ref D1), some (.ref D2), y3, y4, y5, none, none, none, none] ∧ H' = upd C D2 (.lst (ms.map V.int)) ∧ C D2 = none ∧ C D1 = some (.lst (as'.map V.ref)) ∧
          Rw C as' hs ∧ Same H C ∧ Hpt rs hs i [] ∧ ∀ l ∈ hs, l.length ≤ i * L) ?_ ?_ ?_ ?_
        · refine ⟨C2, _, _, _, _, rfl, rfl, hD2, hd2, hs2, hH2, ?_, fun l hl => ?_⟩
          · rw [← hlr]; exact Hpt.init rs
          · rw [(List.mem_replicate.mp hl).2]; exact Nat.zero_le _
        · rintro i σ H' _ ⟨C, hs, y3, y4, y5, rfl, rfl, e1, e2, e3, e4, e5, e6⟩
          exact upd_old e1 (e4 _ _ ha)
        · rintro i x σ H' t hx ⟨C, hs, y3, y4, y5, rfl, rfl, e1, e2, e3, e4, e5, e6⟩ nt
          have hi := (List.getElem?_eq_some_iff.mp hx).1
          rw [List.length_map, hla] at hi
          obtain ⟨e, _, f1, nt2, net⟩ := newTD_eq topH (s := ()) trivial e1 nt (.tup [.int (i : Nat), x])
          try dsimp only at e
          rw [e]
          have sm := same_new (o := .tup [.int (i : Nat), x]) nt2
          have hT : upd (upd C t (.tup [.int (i : Nat), x])) D2 (.lst (ms.map V.int)) t = some (.tup [.int (i : Nat), x]) := upd_old f1 upd_same
          have f2 := sm _ _ e2
          have f3 := e3.mono sm
          have f4 := e4.trans sm
          generalize upd C t (.tup [.int (i : Nat), x]) = C3 at f1 f2 f3 f4 hT ⊢
          obtain ⟨c, r, rfl, _, hr1, hc⟩ := (hrw.mono f4).at hx
          obtain ⟨g1, g2, g3⟩ := hwf.2 r (List.mem_of_getElem? hr1)
          refine r_tup (SqT.of hT) rfl ?_
          walk_at "go"
          refine r_forL (xs := r.map V.int) (upd_old f1 hc) (fun j σ H' => ∃ (C : Hp) (hs : List (List Int)) (y5 : Option V), σ = [some (.ref a), some (.ref D1), some (.ref D2), some (.int i), some (.ref c), y5, none, none, none, none] ∧ H' = upd C D2 (.lst (ms.map V.int)) ∧ C D2 = none ∧ C D1 = some (.lst (as'.map V.ref)) ∧
            Rw C as' hs ∧ Same H C ∧ C c = some (.lst (r.map V.int)) ∧ Hpt rs hs i (r.take j) ∧ ∀ l ∈ hs, l.length ≤ i * L + j) ?_ ?_ ?_ ?_
          · exact ⟨C3, hs, _, rfl, rfl, f1, f2, f3, f4, hc, e5, e6⟩
          · rintro j σ H' _ ⟨C, hs, y5, rfl, rfl, e1, e2, e3, e4, e7, e5, e6⟩
            exact upd_old e1 e7
          · rintro j y σ H' hy ⟨C, hs, y5, rfl, rfl, e1, e2, e3, e4, e7, e5, e6⟩
            obtain ⟨z, rfl, hz⟩ := ints_at hy
            have hj := (List.getElem?_eq_some_iff.mp hz).1
            obtain ⟨z0, z1⟩ := g3 z (List.mem_of_getElem? hz)
            obtain ⟨b, hb⟩ : ∃ b, as'[z.toNat]? = some b := ⟨_, List.getElem?_eq_getElem (by omega)⟩
            obtain ⟨hl, hl1, hl2⟩ := e3.2 _ _ hb
            have hlen := e6 hl (List.mem_of_getElem? hl1)
            have hatb : atI (as'.map V.ref) z = some (.ref b) := at_i z0 (by rw [List.getElem?_map, hb]; rfl)
            have hiL : i * L ≤ 127 * 700 := Nat.mul_le_mul (by omega) hL
            have hsz : (hl.map V.int).length < sizeLine := small (by rw [List.length_map]; omega)
            have hbD2 : b ≠ D2 := ne_of_none hl2 e1
            walk_at "go"
            rw [upd_comm hbD2.symm, ints_push]
            have hbm := List.mem_of_getElem? hb
            have hcb : c ≠ b := ne_of_none (hrw.2 i c ‹_› |>.choose_spec.2) (h3 b hbm)
            refine ⟨_, hs.set z.toNat (hl ++ [(i : Int)]), _, rfl, rfl, by rw [upd_ne hbD2.symm]; exact e1, by rw [upd_ne (hneD1 b hbm).symm]; exact e2, e3.write h2 hb _, fun x y e => by rw [upd_ne (ne_of_none e (h3 b hbm))]; exact e4 _ _ e, by rw [upd_ne hcb]; exact e7, ?_, fun l hm => ?_⟩
            · rw [List.take_add_one, hz]
              exact e5.step (by omega) z0 hl1
            · rcases List.mem_or_eq_of_mem_set hm with q | q
              · have := e6 l q; omega
              · rw [q, List.length_append, List.length_singleton]; omega
          · rintro σ H' ⟨C, hs, y5, rfl, rfl, e1, e2, e3, e4, e7, e5, e6⟩
            rw [List.length_map, List.take_length] at e5
            rw [List.length_map] at e6
            exact ⟨C, hs, _, _, _, rfl, rfl, e1, e2, e3, e4, e5.row hr1, fun l hl => by have := e6 l hl; rw [Nat.add_mul]; omega⟩
        · rintro σ H' ⟨C, hs, y3, y4, y5, rfl, rfl, e1, e2, e3, e4, e5, e6⟩
          rw [List.length_map, hla, ← hlr] at e5
          have hd := e5.final
          walk_at "go"
          -- the places of empty rows
          refine lcT_enum topH (s0 := ()) (B := upd C D2 (.lst (ms.map V.int))) trivial (xs := as.map V.ref) (upd_old e1 (e4 _ _ ha)) (fun i C acc => acc = (pick i fun p => rs[p]? == some []).map V.int) (fun i C C' acc _ h => h) rfl ?_ ?_
          · rintro D3 i x _ C3 acc t _ hD3 hS3 hx ht rfl
            have hi := (List.getElem?_eq_some_iff.mp hx).1
            rw [List.length_map, hla] at hi
            have hSC : Same H C3 := fun x y e => hS3 _ _ (upd_old e1 (e4 _ _ e))
            obtain ⟨c, r, rfl, _, hr1, hc⟩ := (hrw.mono hSC).at hx
            have hpl := pick_len i fun p => rs[p]? == some []
            walk_at "begin"
            refine r_tup (SqT.of (upd_old hD3 ht)) rfl ?_
            walk_at "go"
            refine ⟨rfl, ?_⟩
            walk_at "go"
            refine ⟨size_nil, fun p np => ?_⟩
            obtain ⟨e, _, f1, nt2, net⟩ := newTD_eq topH (s := ()) trivial hD3 np (.lst [])
            try dsimp only at e
            rw [e]
            have sm := same_new (o := .lst []) nt2
            refine r_eqI (xs := r) (ys := []) (upd_old f1 (sm _ _ hc)) (upd_old f1 upd_same) ?_
            walk_at "go"
            refine r_ite (fun he => ?_) (fun he => ?_)
            · walk_at "go"
              refine lcN_put topH (s := ()) trivial f1 (hS3.trans sm) ?_ ?_
              · rw [List.length_map]; omega
              · rw [pick_succ, hr1, he, ints_push]; rfl
            · refine lcN_skip (s := ()) trivial f1 (hS3.trans sm) ?_
              rw [pick_succ, hr1, show (some r == some ([] : List Int)) = false from by simpa using he]
              show _ = List.map V.int (_ ++ [])
              rw [List.append_nil]
          · rintro D3 _ C3 acc _ hB3 hD3 hS3 rfl
            rw [List.length_map, hla]
            obtain ⟨C4, e, f1, sm⟩ := lay_same e1 hS3
            subst e
            have hne : D3 ≠ D2 := (upd_none hB3).1
            have hC4 : C4 D3 = none := (upd_none hD3).2
            have hSC : Same H C4 := e4.trans sm
            have hBH : H D3 = none := e4.free (upd_none hB3).2
            have hd4 := sm _ _ e2
            have hs4 := e3.mono sm
            have knd : (pick n fun p => rs[p]? == some []).Nodup := by
              unfold pick
              exact nodup_map (fun x y e => Int.ofNat.inj e) (List.Nodup.sublist List.filter_sublist List.nodup_range)
            have kn0 := Kn.init (rs := rs) knd fun p => by
              unfold pick
              rw [List.mem_map]
              constructor
              · rintro ⟨m, hm, rfl⟩
                have := (List.mem_filter.mp hm).2
                exact ⟨Int.natCast_nonneg _, by show rs[((m : Nat) : Int).toNat]? = some []; rw [Int.toNat_natCast]; simpa using this⟩
              · rintro ⟨h0, h1⟩
                refine ⟨p.toNat, List.mem_filter.mpr ⟨List.mem_range.mpr ?_, by simpa using h1⟩, by show ((p.toNat : Nat) : Int) = p; omega⟩
                have := (List.getElem?_eq_some_iff.mp h1).1
                omega
            rw [hms] at kn0
            generalize (pick n fun p => rs[p]? == some []) = ss0 at kn0 ⊢
            walk_at "go"
            refine r_while (fun m σ H' => ∃ (ms ss : List Int) (qq : Nat) (y8 y9 : Option V), σ = [some (.ref a), some (.ref D1), some (.ref D2), y3, y4, y5, some (.ref D3), some (.int qq), y8, y9] ∧ H' = upd (upd C4 D2 (.lst (ms.map V.int))) D3 (.lst (ss.map V.int)) ∧ Kn rs ms ss qq ∧ m = n - qq) ?_ ?_
            · exact ⟨n, ms, ss0, 0, none, none, rfl, rfl, kn0, rfl⟩
            · rintro m σ H' ⟨ms, ss, qq, y8, y9, rfl, rfl, kn, hm⟩
              have hlt := kn.lt
              have hD3' : ∀ x, upd C4 D2 x D3 = none := fun x => by rw [upd_ne hne]; exact hC4
              have h3 : ∀ x y, upd (upd C4 D2 x) D3 y D3 = some y := fun x y => upd_same
              walk_at "go"
              rw [List.length_map]
              refine r_ite (fun hlt2 => ?_) (fun hge => ?_)
              · have hq : qq < ss.length := by omega
                obtain ⟨l, hl⟩ : ∃ l, ss[qq]? = some l := ⟨_, List.getElem?_eq_getElem hq⟩
                obtain ⟨l0, l1⟩ := kn.rng l (List.mem_of_getElem? hl)
                have hatl : atI (ss.map V.int) (qq : Int) = some (.int l) := atI_nat (by rw [List.getElem?_map, hl]; rfl)
                obtain ⟨b, hb⟩ : ∃ b, as'[l.toNat]? = some b := ⟨_, List.getElem?_eq_getElem (by omega)⟩
                obtain ⟨hh, hh1, hh2⟩ := hs4.2 _ _ hb
                have hatb : atI (as'.map V.ref) l = some (.ref b) := at_i l0 (by rw [List.getElem?_map, hb]; rfl)
                have hd5 : ∀ x y, upd (upd C4 D2 x) D3 y D1 = some (.lst (as'.map V.ref)) := fun x y => upd_old (hD3' x) (upd_old f1 hd4)
                have hb5 : ∀ x y, upd (upd C4 D2 x) D3 y b = some (.lst (hh.map V.int)) := fun x y => upd_old (hD3' x) (upd_old f1 hh2)
                have km := kn.open hl
                refine ⟨_, fun _ _ h => h, ?_⟩
                have hd6 := hd5 (.lst (ms.map V.int)) (.lst (ss.map V.int))
                walk_at "go"
                refine r_forL (xs := hh.map V.int) (hb5 _ _) (fun j σ H' => ∃ (ms ss : List Int) (y9 : Option V), σ = [some (.ref a), some (.ref D1), some (.ref D2), y3, y4, y5, some (.ref D3), some (.int qq), some (.int l), y9] ∧ H' = upd (upd C4 D2 (.lst (ms.map V.int))) D3 (.lst (ss.map V.int)) ∧ Km rs ms ss qq l (hh.take j)) ?_ ?_ ?_ ?_
                · exact ⟨ms, ss, _, rfl, rfl, km⟩
                · rintro j σ H' _ ⟨ms, ss, y9, rfl, rfl, km⟩
                  exact hb5 _ _
                · rintro j x σ H' hx ⟨ms, ss, y9, rfl, rfl, km⟩
                  obtain ⟨z, rfl, hz⟩ := ints_at hx
                  have hdrop : hh = hh.take j ++ z :: hh.drop (j + 1) := by
                    have hj := (List.getElem?_eq_some_iff.mp hz).1
                    have e := (List.getElem?_eq_some_iff.mp hz).2
                    rw [← e, List.getElem_cons_drop, List.take_append_drop]
                  obtain ⟨v, z0, z1, hv, hyes, hno⟩ := km.step hd l0 (by rw [hh1]; exact congrArg some hdrop)
                  have hsl := km.lt
                  have hml : ms.length = n := by rw [km.len, hlr]
                  have hatv : atI (ms.map V.int) z = some (.int ((v + 1 : Nat) : Int)) := at_i z0 (by rw [List.getElem?_map, hv]; rfl)
                  have hixv : ixN (ms.map V.int).length z = some z.toNat := ix_i z0 (by rw [List.length_map]; omega)
                  have hd2 : upd (upd C4 D2 (.lst (ms.map V.int))) D3 (.lst (ss.map V.int)) D2 = some (.lst (ms.map V.int)) := upd_old (hD3' _) upd_same
                  have htake : hh.take (j + 1) = hh.take j ++ [z] := by rw [List.take_add_one, hz]; rfl
                  walk_at "go"
                  rw [show ((v + 1 : Nat) : Int) - 1 = (v : Int) by omega, setMap, upd_comm hne, upd_upd]
                  have hatw : atI ((ms.set z.toNat (v : Int)).map V.int) z = some (.int (v : Int)) := at_i z0 (by rw [List.getElem?_map, List.getElem?_set_self (by omega)]; rfl)
                  have hd2' : upd (upd C4 D2 (.lst ((ms.set z.toNat (v : Int)).map V.int))) D3 (.lst (ss.map V.int)) D2 = some (.lst ((ms.set z.toNat (v : Int)).map V.int)) := upd_old (hD3' _) upd_same
                  walk_at "go"
                  refine r_ite (fun h0 => ?_) (fun h0 => ?_)
                  · have hv0 : v = 0 := by have := int_eq.mp h0; omega
                    subst hv0
                    walk_at "go"
                    rw [upd_upd, ints_push]
                    exact ⟨_, _, _, rfl, rfl, by rw [htake]; exact hno rfl⟩
                  · walk_at "go"
                    exact ⟨_, _, _, rfl, rfl, by rw [htake]; exact hyes fun e => h0 (by rw [e]; rfl)⟩
                · rintro σ H' ⟨ms, ss, y9, rfl, rfl, km⟩
                  rw [List.length_map, List.take_length] at km
                  have kn2 := km.close hd l0 hh1
                  walk_at "go"
                  exact ⟨n - (qq + 1), by omega, ms, ss, qq + 1, _, _, rfl, rfl, kn2, rfl⟩
              · walk_at "go"
                have hfin := kn.final (by omega) (In.of hwf)
                rw [hlr] at hfin
                refine q _ D3 ss (fun x y e => upd_old (hD3' _) (upd_old f1 (hSC _ _ e))) hBH upd_same hfin
end
end K39
namespace K39
open PySem PySem.Spec PyProof.Rows L2 Lw


local macro_rules | `(tactic| walk_at "look") => `(tactic| first
  | assumption
  | with_reducible exact upd_same
  | with_reducible exact rg_st
  | with_reducible exact rg_g (by assumption)
  | (with_reducible refine upd_old (by assumption) ?_; walk_at "look")
  | (with_reducible refine rg_get (by assumption) ?_; walk_at "look")
  | (with_reducible refine Same.get (by assumption) ?_; walk_at "look"))
local macro_rules | `(tactic| walk_at "cond") => `(tactic| first
  | (show _ ≠ _; omega) | exact cdivN (by omega) (by omega) | exact cmul_mod (by decide) (by decide) | exact cmulR (by omega) (by omega) | exact cmulL (by omega) (by omega) | exact cpow (by omega) (by omega) (by omega) (by omega) | (show (0:Int) ≤ _; omega))
local macro_rules | `(tactic| walk_at "at") => `(tactic| first | assumption | with_unfolding_all rfl)
local macro_rules | `(tactic| walk_at "sz") => `(tactic| first | assumption | (refine small ?_; omega) | (refine small ?_; simp only [List.length_map, List.length_append, List.length_cons, List.length_nil]; omega))
local macro_rules | `(tactic| walk_at "len") => `(tactic| first | exact size_nil | exact Nat.le_of_lt (small (by simp only [List.length_cons, List.length_nil, List.length_map]; omega)))
local macro_rules | `(tactic| walk_at "newD") => `(tactic| (refine ⟨by walk_at "len", fun p np => ?_⟩; obtain ⟨e, o', hD', n', ne'⟩ := newTD_eq (topRg _ _) (by assumption) (by assumption) np (.lst _); rw [e]; clear e))
local macro_rules | `(tactic| walk_at "new") => `(tactic| (refine ⟨by walk_at "len", fun p np => ?_⟩; obtain ⟨e, o', n'⟩ := newT_eq (topRg _ _) (by assumption) np (.lst _); rw [e]; clear e))
local macro_rules | `(tactic| walk_at "st") => `(tactic| first
  | with_reducible refine r_seq ?_
  | with_reducible refine r_var rfl ?_
  | with_reducible refine r_c ?_
  | with_reducible refine r_asg ?_
  | (with_reducible refine r_name ?_; dsimp only [List.set_cons_zero, List.set_cons_succ])
  | with_reducible refine r_sub ?_
  | with_reducible refine r_op ?_
  | with_reducible refine r_i0 ?_
  | (with_reducible refine' r_i ?k1 ?_; (case k1 => walk_at "cond"))
  | with_reducible refine r_cons ?_
  | with_reducible refine r_nil ?_
  | with_reducible refine r_cb ?_
  | with_reducible refine r_call ?_
  | with_reducible refine r_ifs ?_
  | with_reducible refine r_test ?_
  | with_reducible refine r_tB ?_
  | with_reducible refine r_bl ?_
  | with_reducible refine r_ret ?_
  | with_reducible refine r_drop ?_
  | with_reducible refine r_next ?_
  | (with_reducible refine' r_ixL ?k1 ?k2 ?_; (case k1 => walk_at "look"); (case k2 => walk_at "at"))
  | (with_reducible refine' r_setL ?k1 ?k2 ?_; (case k1 => walk_at "look"); (case k2 => walk_at "at"))
  | (with_reducible refine' r_tup (SqT.of ?k1) ?k2 ?_; (case k1 => walk_at "look"); (case k2 => rfl))
  | with_reducible refine r_gcons ?_
  | with_reducible refine r_gnil ?_
  | with_reducible refine r_aug rfl ?_
  | with_reducible refine r_augS ?_
  | with_reducible refine r_ipI ?_
  | with_reducible refine r_un ?_
  | with_reducible refine r_u ?_
  | with_reducible refine r_eq rfl ?_
  | with_reducible refine r_ne rfl ?_
  | with_reducible refine r_chain ?_
  | with_reducible refine iteF ?_
  | with_reducible refine r_not ?_
  | with_reducible refine r_and ?_
  | with_reducible refine r_or ?_
  | with_reducible refine r_andV ?_
  | with_reducible refine r_orV ?_
  | with_reducible refine r_notV ?_
  | with_reducible refine r_lst ?_
  | with_reducible refine r_bm ?_
  | with_reducible refine r_bm0 ?_
  | (with_reducible refine' And.intro (r_ty ?k1) ?_; (case k1 => walk_at "look"))
  | (with_reducible refine' r_append ?k1 ?k2 ?_; (case k1 => walk_at "look"); (case k2 => walk_at "sz"))
  | (with_reducible refine' r_lenK ?k1 ?_; (case k1 => walk_at "look"))
  | (with_reducible refine' r_listOf ?k1 ?_; (case k1 => walk_at "look"))
  | (with_reducible refine' r_sortedI ?k1 ?_; (case k1 => walk_at "look"))
  | (with_reducible refine' r_sum ?k1 ?_; (case k1 => walk_at "look"))
  | with_reducible refine r_int ?_
  | (with_reducible refine' r_draw (by assumption) ?k1 ?k2 ?_; (case k1 => omega); (case k2 => omega); intro R' n' o' h' h'')
  | with_reducible refine iteT ?_
  | with_reducible refine r_revL ?_
  | with_reducible refine r_lc ?_
  | with_reducible refine r_yes ?_
  | with_reducible refine r_for ?_
  | with_reducible refine r_iList ?_
  | with_reducible refine r_rng1 ?_
  | with_reducible refine r_enum ?_
  | (with_reducible show Ends.nx _ _ _; dsimp only)
  | (with_reducible show Ends.rt _ _ _; dsimp only)
  | (with_reducible show Ends.ct _ _ _; dsimp only)
  | (with_reducible show Ends.bk _ _ _; dsimp only))
local macro_rules | `(tactic| walk_at "go") => `(tactic| repeat (walk_at "st"))
local macro_rules | `(tactic| walk_at "begin") => `(tactic| dsimp only [cxOf, wipe, L2.start, List.map, List.length_cons, List.length_nil, Nat.reduceAdd, Nat.reduceSub, List.replicate, List.cons_append, List.nil_append])


open Lm
def bt (M : List (List Bool)) (e k : Nat) : Bool := ((M[e]?).getD [])[k]?.getD false
theorem tr_bt {M : List (List Bool)} {e k : Nat} : tr M e k ↔ bt M e k = true := by
  unfold tr bt
  constructor
  · rintro ⟨r, h1, h2⟩
    rw [h1]; show (r[k]?).getD false = true
    rw [h2]; rfl
  · intro h
    cases q : M[e]? with
    | none => rw [q] at h; simp at h
    | some r =>
      rw [q] at h
      have h : (r[k]?).getD false = true := h
      cases q2 : r[k]? with
      | none => rw [q2] at h; cases h
      | some b => rw [q2] at h; exact ⟨r, rfl, by rw [q2]; exact congrArg some h⟩
theorem bt_at {C : Hp} {as : List Addr} {M : List (List Bool)} {c : Nat} (h : Ro V.bl C as M) (hl : M.length = c) (hr : ∀ r ∈ M, r.length = c) {e k : Int} (e0 : 0 ≤ e) (e1 : e < (c : Int)) (k0 : 0 ≤ k) (k1 : k < (c : Int)) :
    ∃ b r, atI (as.map V.ref) e = some (.ref b) ∧ C b = some (.lst (r.map V.bl)) ∧ atI (r.map V.bl) k = some (.bl (bt M e.toNat k.toNat)) ∧ M[e.toNat]? = some r ∧ as[e.toNat]? = some b := by
  obtain ⟨r, hr1⟩ : ∃ r, M[e.toNat]? = some r := ⟨_, List.getElem?_eq_getElem (by omega)⟩
  obtain ⟨b, h1, h2, h3⟩ := h.get hr1
  have hrl := hr r (List.mem_of_getElem? hr1)
  obtain ⟨x, hx⟩ : ∃ x, r[k.toNat]? = some x := ⟨_, List.getElem?_eq_getElem (by omega)⟩
  refine ⟨b, r, at_i e0 h2, h3, at_i k0 ?_, hr1, h1⟩
  rw [List.getElem?_map, hx]
  unfold bt
  rw [hr1]
  show _ = some (V.bl ((r[k.toNat]?).getD false))
  rw [hx]; rfl
def spMatched : Sp := fun vs H Q _ => ∃ (f s m : Addr) (xs ys : List Int) (as : List Addr) (M : List (List Bool)) (c : Nat), vs = [.ref f, .ref s, .ref m] ∧ H f = some (.lst (xs.map V.int)) ∧ H s = some (.lst (ys.map V.int)) ∧ H m = some (.lst (as.map V.ref)) ∧
  Ro V.bl H as M ∧ M.length = c ∧ (∀ r ∈ M, r.length = c) ∧ (∀ e ∈ xs, 0 ≤ e ∧ e < (c : Int)) ∧ (∀ e ∈ ys, 0 ≤ e ∧ e < (c : Int)) ∧ xs.length ≤ 1000 ∧ ys.length ≤ 1000 ∧
  ∀ (H' : Hp) (b : Bool), Same H H' → (b = true ↔ Mt (tr M) xs ys) → Q (.bl b) H'
section
variable {P : Program} {w : World} {K : PySem.W.Frag} {mg : Str → Option Value} {base : Heap}
theorem ok_matched {f : Addr} {fd : FuncData} {k : Nat} (B : Blt mg) (D : Dn K mg "are_matched" s_are_matched ["first", "second", "related"] f fd) : FnOk P w K mg base CX0 (k + 1) f fd ["first", "second", "related"] spMatched := by
  refine D.F.ok sc_are_matched (fun vs H Q E h => ?_) (fun cdv A outer s H vs Q E hr h => ?_)
  · obtain ⟨f, s, m, xs, ys, as, M, c, rfl, _⟩ := h
    rfl
  · obtain ⟨f, s, m, xs, ys, as, M, c, rfl, hf, hs, hm, hM, hl, hrl, hx, hy, lx, ly, q⟩ := h
    refine ⟨_, (pss_cons (ps_for PassesOwn.never rfl (pi_listK (K := K) rfl (pv 0)) (pg_name (i := 3) sc_are_matched.nd rfl (.inr rfl)) (pss_one (ps_if (pt_not (pt_val (pe_callB (cr_anyK (K := K) rfl rfl) (by rfl) B.m_any (by decide +kernel) (pa_cons (pe_lc (own := [("other", 4)]) rfl sc_are_matched.nd (pi_listK (K := K) rfl (pv 1)) (blkOk_by (own := [("other", 4)]) (by kernel_rfl))
        (fun _ _ _ _ _ => (pg_name (i := 4) sc_are_matched.nd rfl (.inl rfl))) (fun _ _ _ _ _ => pts_nil)
        (fun _ _ _ _ _ => (pe_ix (ix_listK (K := K) rfl) (pe_ix (ix_listK (K := K) rfl) (pv 2) (pv 3) (fun _ _ => rfl)) (pv 4) (fun _ _ => rfl)))) pa_nil)))) (pss_one (ps_ret pe_bl)) pss_nil)))
      (pss_cons (ps_for PassesOwn.never rfl (pi_listK (K := K) rfl (pv 1)) (pg_name (i := 4) sc_are_matched.nd rfl (.inr rfl)) (pss_one (ps_if (pt_not (pt_val (pe_callB (cr_anyK (K := K) rfl rfl) (by rfl) B.m_any (by decide +kernel) (pa_cons (pe_lc (own := [("one", 3)]) rfl sc_are_matched.nd (pi_listK (K := K) rfl (pv 0)) (blkOk_by (own := [("one", 3)]) (by kernel_rfl))
        (fun _ _ _ _ _ => (pg_name (i := 3) sc_are_matched.nd rfl (.inl rfl))) (fun _ _ _ _ _ => pts_nil)
        (fun _ _ _ _ _ => (pe_ix (ix_listK (K := K) rfl) (pe_ix (ix_listK (K := K) rfl) (pv 2) (pv 3) (fun _ _ => rfl)) (pv 4) (fun _ _ => rfl)))) pa_nil)))) (pss_one (ps_ret pe_bl)) pss_nil)))
      (pss_one (ps_ret pe_bl)))), ?_⟩
    walk_at "begin"
    walk_at "go"
    refine r_forL (xs := xs.map V.int) hf (fun i σ H' => ∃ y3, σ = [some (.ref f), some (.ref s), some (.ref m), y3, none] ∧ Same H H' ∧ ∀ e ∈ xs.take i, ∃ k ∈ ys, tr M e.toNat k.toNat) ?_ ?_ ?_ ?_
    · exact ⟨_, rfl, Same.refl _, fun e he => nomatch he⟩
    · rintro i σ H' _ ⟨y3, rfl, hS, _⟩
      exact hS _ _ hf
    · rintro i x σ H' hxi ⟨y3, rfl, hS, hi⟩
      obtain ⟨e, rfl, he⟩ := ints_at hxi
      obtain ⟨e0, e1⟩ := hx e (List.mem_of_getElem? he)
      walk_at "go"
      refine lcT_list topH (K := K) (s0 := ()) trivial (xs := ys.map V.int) (hS _ _ hs) (fun j C acc => acc = ((ys.take j).map fun k => bt M e.toNat k.toNat).map V.bl) rfl ?_ ?_
      · rintro D1 j x _ C acc _ hD hS1 hxj rfl
        obtain ⟨k, rfl, hk⟩ := ints_at hxj
        have hj := (List.getElem?_eq_some_iff.mp hk).1
        obtain ⟨k0, k1⟩ := hy k (List.mem_of_getElem? hk)
        have hS2 := hS.trans hS1
        obtain ⟨b, r, h1, h2, h3, _, _⟩ := bt_at (hM.mono hS2) hl hrl e0 e1 k0 k1
        have hm2 := hS2 _ _ hm
        walk_at "begin"
        walk_at "go"
        refine ⟨rfl, ?_⟩
        walk_at "go"
        refine lcN_put topH (s := ()) trivial hD hS1 ?_ ?_
        · rw [List.length_map, List.length_map, List.length_take]; omega
        · rw [mp_put hk, List.map_append]; rfl
      · rintro D1 _ C acc _ hB1 hD1 hS1 rfl
        rw [List.length_map, List.take_length]
        have hS2 : Same H (upd C D1 (.lst (List.map V.bl (ys.map fun k => bt M e.toNat k.toNat)))) := (hS.trans hS1).trans (same_new hD1)
        walk_at "go"
        refine r_any upd_same ?_
        walk_at "go"
        refine r_iteB (fun hb => ?_) (fun hb => ?_)
        · walk_at "go"
          refine q _ _ hS2 ⟨(fun z => nomatch z), fun z => ?_⟩
          obtain ⟨k, hk, t⟩ := z.1 e (List.mem_of_getElem? he)
          rw [Bool.not_eq_true', List.any_eq_false] at hb
          exact absurd (tr_bt.mp t) (hb _ (List.mem_map.mpr ⟨k, hk, rfl⟩))
        · walk_at "go"
          rw [Bool.not_eq_false', List.any_eq_true] at hb
          obtain ⟨z, hz, h1⟩ := hb
          obtain ⟨k, hk, rfl⟩ := List.mem_map.mp hz
          refine ⟨_, rfl, hS2, fun e' he' => ?_⟩
          rw [take_succ_of he] at he'
          rcases List.mem_append.mp he' with q1 | q1
          · exact hi e' q1
          · rw [List.mem_singleton.mp q1]; exact ⟨k, hk, tr_bt.mpr h1⟩
    · rintro σ H' ⟨y3, rfl, hS, hi1⟩
      rw [List.length_map, List.take_length] at hi1
      walk_at "go"
      refine r_forL (xs := ys.map V.int) (hS _ _ hs) (fun i σ H' => ∃ y3 y4, σ = [some (.ref f), some (.ref s), some (.ref m), y3, y4] ∧ Same H H' ∧ ∀ e ∈ ys.take i, ∃ k ∈ xs, tr M k.toNat e.toNat) ?_ ?_ ?_ ?_
      · exact ⟨_, _, rfl, hS, fun e he => nomatch he⟩
      · rintro i σ H' _ ⟨y3, y4, rfl, hS, _⟩
        exact hS _ _ hs
      · rintro i x σ H' hxi ⟨y3, y4, rfl, hS, hi⟩
        obtain ⟨e, rfl, he⟩ := ints_at hxi
        obtain ⟨e0, e1⟩ := hy e (List.mem_of_getElem? he)
        walk_at "go"
        refine lcT_list topH (K := K) (s0 := ()) trivial (xs := xs.map V.int) (hS _ _ hf) (fun j C acc => acc = ((xs.take j).map fun k => bt M k.toNat e.toNat).map V.bl) rfl ?_ ?_
        · rintro D1 j x _ C acc _ hD hS1 hxj rfl
          obtain ⟨k, rfl, hk⟩ := ints_at hxj
          have hj := (List.getElem?_eq_some_iff.mp hk).1
          obtain ⟨k0, k1⟩ := hx k (List.mem_of_getElem? hk)
          have hS2 := hS.trans hS1
          obtain ⟨b, r, h1, h2, h3, _, _⟩ := bt_at (hM.mono hS2) hl hrl k0 k1 e0 e1
          have hm2 := hS2 _ _ hm
          walk_at "begin"
          walk_at "go"
          refine ⟨rfl, ?_⟩
          walk_at "go"
          refine lcN_put topH (s := ()) trivial hD hS1 ?_ ?_
          · rw [List.length_map, List.length_map, List.length_take]; omega
          · rw [mp_put hk, List.map_append]; rfl
        · rintro D1 _ C acc _ hB1 hD1 hS1 rfl
          rw [List.length_map, List.take_length]
          have hS2 : Same H (upd C D1 (.lst (List.map V.bl (xs.map fun k => bt M k.toNat e.toNat)))) := (hS.trans hS1).trans (same_new hD1)
          walk_at "go"
          refine r_any upd_same ?_
          walk_at "go"
          refine r_iteB (fun hb => ?_) (fun hb => ?_)
          · walk_at "go"
            refine q _ _ hS2 ⟨(fun z => nomatch z), fun z => ?_⟩
            obtain ⟨k, hk, t⟩ := z.2 e (List.mem_of_getElem? he)
            rw [Bool.not_eq_true', List.any_eq_false] at hb
            exact absurd (tr_bt.mp t) (hb _ (List.mem_map.mpr ⟨k, hk, rfl⟩))
          · walk_at "go"
            rw [Bool.not_eq_false', List.any_eq_true] at hb
            obtain ⟨z, hz, h1⟩ := hb
            obtain ⟨k, hk, rfl⟩ := List.mem_map.mp hz
            refine ⟨_, _, rfl, hS2, fun e' he' => ?_⟩
            rw [take_succ_of he] at he'
            rcases List.mem_append.mp he' with q1 | q1
            · exact hi e' q1
            · rw [List.mem_singleton.mp q1]; exact ⟨k, hk, tr_bt.mpr h1⟩
      · rintro σ H' ⟨y3, y4, rfl, hS, hi2⟩
        rw [List.length_map, List.take_length] at hi2
        walk_at "go"
        exact q _ _ hS ⟨fun _ => ⟨hi1, hi2⟩, fun _ => rfl⟩
end
end K39
namespace K39
open PySem PySem.Spec PyProof.Rows L2 Lw


local macro_rules | `(tactic| walk_at "look") => `(tactic| first
  | assumption
  | with_reducible exact upd_same
  | with_reducible exact rg_st
  | with_reducible exact rg_g (by assumption)
  | (with_reducible refine upd_old (by assumption) ?_; walk_at "look")
  | (with_reducible refine rg_get (by assumption) ?_; walk_at "look")
  | (with_reducible refine Same.get (by assumption) ?_; walk_at "look"))
local macro_rules | `(tactic| walk_at "cond") => `(tactic| first
  | (show _ ≠ _; omega) | exact cdivN (by omega) (by omega) | exact cmul_mod (by decide) (by decide) | exact cmulR (by omega) (by omega) | exact cmulL (by omega) (by omega) | exact cpow (by omega) (by omega) (by omega) (by omega) | (show (0:Int) ≤ _; omega))
local macro_rules | `(tactic| walk_at "at") => `(tactic| first | assumption | with_unfolding_all rfl)
local macro_rules | `(tactic| walk_at "sz") => `(tactic| first | assumption | (refine small ?_; omega) | (refine small ?_; simp only [List.length_map, List.length_append, List.length_cons, List.length_nil]; omega))
local macro_rules | `(tactic| walk_at "len") => `(tactic| first | exact size_nil | exact Nat.le_of_lt (small (by simp only [List.length_cons, List.length_nil, List.length_map]; omega)))
local macro_rules | `(tactic| walk_at "newD") => `(tactic| (refine ⟨by walk_at "len", fun p np => ?_⟩; obtain ⟨e, o', hD', n', ne'⟩ := newTD_eq (topRg _ _) (by assumption) (by assumption) np (.lst _); rw [e]; clear e))
local macro_rules | `(tactic| walk_at "new") => `(tactic| (refine ⟨by walk_at "len", fun p np => ?_⟩; obtain ⟨e, o', n'⟩ := newT_eq (topRg _ _) (by assumption) np (.lst _); rw [e]; clear e))
local macro_rules | `(tactic| walk_at "st") => `(tactic| first
  | with_reducible refine r_seq ?_
  | with_reducible refine r_var rfl ?_
  | with_reducible refine r_c ?_
  | with_reducible refine r_asg ?_
  | (with_reducible refine r_name ?_; dsimp only [List.set_cons_zero, List.set_cons_succ])
  | with_reducible refine r_sub ?_
  | with_reducible refine r_op ?_
  | with_reducible refine r_i0 ?_
  | (with_reducible refine' r_i ?k1 ?_; (case k1 => walk_at "cond"))
  | with_reducible refine r_cons ?_
  | with_reducible refine r_nil ?_
  | with_reducible refine r_cb ?_
  | with_reducible refine r_call ?_
  | with_reducible refine r_ifs ?_
  | with_reducible refine r_test ?_
  | with_reducible refine r_tB ?_
  | with_reducible refine r_bl ?_
  | with_reducible refine r_ret ?_
  | with_reducible refine r_drop ?_
  | with_reducible refine r_next ?_
  | (with_reducible refine' r_ixL ?k1 ?k2 ?_; (case k1 => walk_at "look"); (case k2 => walk_at "at"))
  | (with_reducible refine' r_setL ?k1 ?k2 ?_; (case k1 => walk_at "look"); (case k2 => walk_at "at"))
  | (with_reducible refine' r_tup (SqT.of ?k1) ?k2 ?_; (case k1 => walk_at "look"); (case k2 => rfl))
  | with_reducible refine r_gcons ?_
  | with_reducible refine r_gnil ?_
  | with_reducible refine r_aug rfl ?_
  | with_reducible refine r_augS ?_
  | with_reducible refine r_ipI ?_
  | with_reducible refine r_un ?_
  | with_reducible refine r_u ?_
  | with_reducible refine r_eq rfl ?_
  | with_reducible refine r_ne rfl ?_
  | with_reducible refine r_chain ?_
  | with_reducible refine iteF ?_
  | with_reducible refine r_not ?_
  | with_reducible refine r_and ?_
  | with_reducible refine r_or ?_
  | with_reducible refine r_andV ?_
  | with_reducible refine r_orV ?_
  | with_reducible refine r_notV ?_
  | with_reducible refine r_lst ?_
  | with_reducible refine r_bm ?_
  | with_reducible refine r_bm0 ?_
  | (with_reducible refine' And.intro (r_ty ?k1) ?_; (case k1 => walk_at "look"))
  | (with_reducible refine' r_append ?k1 ?k2 ?_; (case k1 => walk_at "look"); (case k2 => walk_at "sz"))
  | (with_reducible refine' r_lenK ?k1 ?_; (case k1 => walk_at "look"))
  | (with_reducible refine' r_listOf ?k1 ?_; (case k1 => walk_at "look"))
  | (with_reducible refine' r_sortedI ?k1 ?_; (case k1 => walk_at "look"))
  | (with_reducible refine' r_sum ?k1 ?_; (case k1 => walk_at "look"))
  | with_reducible refine r_int ?_
  | (with_reducible refine' r_draw (by assumption) ?k1 ?k2 ?_; (case k1 => omega); (case k2 => omega); intro R' n' o' h' h'')
  | with_reducible refine iteT ?_
  | with_reducible refine r_revL ?_
  | with_reducible refine r_lc ?_
  | with_reducible refine r_yes ?_
  | with_reducible refine r_sl ?_
  | with_reducible refine r_noPart ?_
  | with_reducible refine r_part ?_
  | with_reducible refine r_lc2 ?_
  | with_reducible refine r_callN ?_
  | with_reducible refine r_tupE ?_
  | with_reducible refine r_rng2 ?_
  | with_reducible refine r_i1 ?_
  | (with_reducible refine' r_slL ?k1 ?_; (case k1 => walk_at "look"))
  | with_reducible refine r_for ?_
  | with_reducible refine r_iList ?_
  | with_reducible refine r_rng1 ?_
  | with_reducible refine r_enum ?_
  | (with_reducible show Ends.nx _ _ _; dsimp only)
  | (with_reducible show Ends.rt _ _ _; dsimp only)
  | (with_reducible show Ends.ct _ _ _; dsimp only)
  | (with_reducible show Ends.bk _ _ _; dsimp only))
local macro_rules | `(tactic| walk_at "go") => `(tactic| repeat (walk_at "st"))
local macro_rules | `(tactic| walk_at "begin") => `(tactic| dsimp only [cxOf, wipe, L2.start, List.map, List.length_cons, List.length_nil, Nat.reduceAdd, Nat.reduceSub, List.replicate, List.cons_append, List.nil_append])


open Lm
def spGreat : Sp := fun vs H Q _ => ∃ (a : Addr) (as : List Addr) (rs : List (List Int)) (n L c : Nat), vs = [.int (c : Int), .ref a] ∧ H a = some (.lst (as.map V.ref)) ∧ Rw H as rs ∧ Wf n L rs ∧ c ≤ n ∧ n ≤ 200 ∧ L ≤ 700 ∧
  ∀ (H' : Hp) (q : Addr) (ms : List Addr) (M : List (List Bool)), Same H H' → H' q = some (.lst (ms.map V.ref)) → Ro V.bl H' ms M → M.length = c → (∀ r ∈ M, r.length = c) → (∀ g h, tr M g h ↔ Bs c rs g h) → Q (.ref q) H'
def WI (c : Nat) (a D1 D2 D3 D4 : Addr) (ms ts : List Addr) (qs : List (Int × Int)) (G2 : Hp) (rs : List (List Int)) (M0 : List (List Bool)) (m : Nat) (σ : L2.St) (H' : Hp) : Prop :=
  ∃ (M : List (List Bool)) (fl : Bool) (y7 y8 : Option V), σ = [some (.int c), some (.ref a), some (.ref D1), some (.ref D2), some (.ref D3), some (.ref D4), some (.bl fl), y7, y8, none, none, none, none, none, none] ∧ Same G2 H' ∧ H' D3 = some (.lst (ms.map V.ref)) ∧ Ro V.bl H' ms M ∧
    H' D4 = some (.lst (ts.map V.ref)) ∧ Tp H' ts qs ∧ Gl c rs M ∧ (∀ g h, tr M g h → tr M0 g h) ∧ m = trues M + (if fl = true then 1 else 0) ∧ (fl = false → ∀ g k x y, tr M g k → rs[g]? = some x → rs[k]? = some y → Mt (tr M) (gp c x) (gp c y))
section
variable {P : Program} {w : World} {K : PySem.W.Frag} {mg : Str → Option Value} {base : Heap}
theorem ok_great {f f1 : Addr} {fd fd1 : FuncData} (B : Blt mg) (D : Dn K mg "greatest_likeness" s_greatest_likeness ["count", "rows"] f fd) (Dare_matched : Dn K mg "are_matched" s_are_matched ["first", "second", "related"] f1 fd1)
    (Gare_matched : FnOk P w K mg base CX0 1 f1 fd1 ["first", "second", "related"] spMatched) : FnOk P w K mg base CX0 2 f fd ["count", "rows"] spGreat := by
  refine D.F.ok sc_greatest_likeness (fun vs H Q E h => ?_) (fun cdv A outer s H vs Q E hr h => ?_)
  · obtain ⟨a, as, rs, n, L, c, rfl, _⟩ := h
    rfl
  · obtain ⟨a, as, rs, n, L, c, rfl, ha, hrw, hwf, hcn, hn, hL, q⟩ := h
    have hlr : rs.length = n := hwf.1
    have hla : as.length = n := by rw [hrw.1]; exact hwf.1
    refine ⟨_, (pss_cons (ps_setLc (i := 2) (own := [("row", 9)]) rfl sc_greatest_likeness.nd rfl rfl (sw_true rfl rfl rfl (by decide +kernel)) (pi_listK (K := K) rfl (pe_slice (sl_listK (K := K) rfl) (pv 1) po_none (po_some (pv 0)))) (blkOk_by (own := [("row", 9)]) (by kernel_rfl))
        (fun _ _ _ _ _ => (pg_name (i := 9) sc_greatest_likeness.nd rfl (.inl rfl))) (fun _ _ _ _ _ => pts_nil)
        (fun _ _ _ _ _ => (pe_lc (own := [("place", 13)]) rfl sc_greatest_likeness.nd (pi_listK (K := K) rfl (pv 9)) (blkOk_by (own := [("place", 13)]) (by kernel_rfl))
        (fun _ _ _ _ _ => (pg_name (i := 13) sc_greatest_likeness.nd rfl (.inl rfl))) (fun _ _ _ _ _ => (pts_one (pt_cmpR op_lt (pv 13) (pv 0) (nomark _))))
        (fun _ _ _ _ _ => (pv 13)))))
      (pss_cons (ps_set (i := 3) sc_greatest_likeness.nd rfl (.inr rfl) (pe_lc (own := [("row", 9)]) rfl sc_greatest_likeness.nd (pi_listK (K := K) rfl (pe_slice (sl_listK (K := K) rfl) (pv 1) po_none (po_some (pv 0)))) (blkOk_by (own := [("row", 9)]) (by kernel_rfl))
        (fun _ _ _ _ _ => (pg_name (i := 9) sc_greatest_likeness.nd rfl (.inl rfl))) (fun _ _ _ _ _ => pts_nil)
        (fun _ _ _ _ _ => (pe_lc (own := [("place", 13)]) rfl sc_greatest_likeness.nd (pi_listK (K := K) rfl (pv 9)) (blkOk_by (own := [("place", 13)]) (by kernel_rfl))
        (fun _ _ _ _ _ => (pg_name (i := 13) sc_greatest_likeness.nd rfl (.inl rfl))) (fun _ _ _ _ _ => (pts_one (pt_cmpR op_ge (pv 13) (pv 0) (nomark _))))
        (fun _ _ _ _ _ => (pv 13))))))
      (pss_cons (ps_set (i := 4) sc_greatest_likeness.nd rfl (.inr rfl) (pe_lc (own := [("one", 10)]) rfl sc_greatest_likeness.nd (pi_listK (K := K) rfl (pv 3)) (blkOk_by (own := [("one", 10)]) (by kernel_rfl))
        (fun _ _ _ _ _ => (pg_name (i := 10) sc_greatest_likeness.nd rfl (.inr rfl))) (fun _ _ _ _ _ => pts_nil)
        (fun _ _ _ _ _ => (pe_lc (own := [("other", 14)]) rfl sc_greatest_likeness.nd (pi_listK (K := K) rfl (pv 3)) (blkOk_by (own := [("other", 14)]) (by kernel_rfl))
        (fun _ _ _ _ _ => (pg_name (i := 14) sc_greatest_likeness.nd rfl (.inl rfl))) (fun _ _ _ _ _ => pts_nil)
        (fun _ _ _ _ _ => (pe_cmpR (op_eqDK (K := K) rfl hr.units) (pv 10) (pv 14) (nomark _)))))))
      (pss_cons (ps_setLc2 (i := 5) (own := [("g", 11), ("h", 12)]) (vs1 := [12]) rfl sc_greatest_likeness.nd rfl rfl (sw_true rfl rfl rfl (by decide +kernel)) (pi_range1 (by rfl) B.m_range (pa_cons (pv 0) pa_nil)) (blkOk_by (own := [("g", 11), ("h", 12)]) (by kernel_rfl)) (by decide)
        (fun _ _ _ _ _ => (pg_name (i := 11) sc_greatest_likeness.nd rfl (.inl rfl))) (fun _ _ _ _ _ => pts_nil)
        (fun _ _ _ _ _ => (pi_range1 (by rfl) B.m_range (pa_cons (pv 0) pa_nil))) (fun _ _ _ _ _ => (pg_name (i := 12) sc_greatest_likeness.nd rfl (.inl rfl))) (fun _ _ _ _ _ => (pts_one (pt_val (pe_ix (ix_listK (K := K) rfl) (pe_ix (ix_listK (K := K) rfl) (pv 4) (pv 11) (fun _ _ => rfl)) (pv 12) (fun _ _ => rfl)))))
        (fun _ _ _ _ _ => (pe_tup (pa_cons (pv 11) (pa_cons (pv 12) pa_nil)))))
      (pss_cons (ps_set (i := 6) sc_greatest_likeness.nd rfl (.inl rfl) pe_bl)
      (pss_cons (ps_while PassesOwn.never (pt_val (pv 6)) (pss_cons (ps_set (i := 6) sc_greatest_likeness.nd rfl (.inl rfl) pe_bl)
      (pss_one (ps_for PassesOwn.never rfl (pi_listK (K := K) rfl (pv 5)) (pg_tupK (K := K) (n := 2) rfl rfl (pgs_cons (pg_name (i := 7) sc_greatest_likeness.nd rfl (.inl rfl)) (pgs_cons (pg_name (i := 8) sc_greatest_likeness.nd rfl (.inl rfl)) pgs_nil))) (pss_one (ps_if (PW.pt (pw_and (pt_val (pe_ix (ix_listK (K := K) rfl) (pe_ix (ix_listK (K := K) rfl) (pv 4) (pv 7) (fun _ _ => rfl)) (pv 8) (fun _ _ => rfl))) (pw_and1 (pt_not (pt_val (pe_call Gare_matched (hr.mono (by decide)) (by rfl) Dare_matched.g Dare_matched.F.kp Dare_matched.b .nil pass0 (pa_cons (pe_ix (ix_listK (K := K) rfl) (pv 2) (pv 7) (fun _ _ => rfl)) (pa_cons (pe_ix (ix_listK (K := K) rfl) (pv 2) (pv 8) (fun _ _ => rfl)) (pa_cons (pv 4) pa_nil))))))))) (pss_cons (ps_asg pe_bl (pg_sub (pe_ix (ix_listK (K := K) rfl) (pv 4) (pv 7) (fun _ _ => rfl)) (pv 8) set_list))
      (pss_one (ps_set (i := 6) sc_greatest_likeness.nd rfl (.inl rfl) pe_bl))) pss_nil))))))
      (pss_one (ps_ret (pv 4))))))))), ?_⟩
    walk_at "begin"
    walk_at "go"
    have haH := ha
    have hrwH := hrw

    intro p np
    rw [cut_to _ (Int.natCast_nonneg c), Int.toNat_natCast]
    refine lcT_list topH (K := K) (s0 := ()) trivial (xs := (as.map V.ref).take c) upd_same (fun i C acc => ∃ gs : List Addr, acc = gs.map V.ref ∧ Ro V.int C gs (((rs.take c).take i).map (gp c))) ⟨[], rfl, Ro.nil⟩ ?_ ?_
    · rintro D1 i x _ C acc _ hD hS hx ⟨gs, rfl, hg⟩
      obtain ⟨hi, hx⟩ := take_at hx
      obtain ⟨b, r, rfl, hb1, hr1, hc1⟩ := (hrwH.mono ((same_new np).trans hS)).at hx
      have hg1 := hwf.2 r (List.mem_of_getElem? hr1)
      have hgl : gs.length = i := by rw [hg.1, List.length_map, List.length_take, List.length_take]; omega
      walk_at "begin"
      walk_at "go"
      refine ⟨rfl, ?_⟩
      walk_at "go"
      refine lcT_list topH (K := K) (s0 := ()) trivial (xs := r.map V.int) (upd_old hD hc1) (fun j C acc => acc = ((r.take j).filter fun e => decide (e < (c : Int))).map V.int) rfl ?_ ?_
      · rintro D2 j x _ C2 acc _ hD2 hS2 hy rfl
        obtain ⟨e, rfl, he⟩ := ints_at hy
        have hj := (List.getElem?_eq_some_iff.mp he).1
        have hl2 : ((r.take j).filter fun e => decide (e < (c : Int))).length ≤ 1000 := Nat.le_trans (List.length_filter_le _ _) (by rw [List.length_take]; have := hg1.1; omega)
        walk_at "begin"
        walk_at "go"
        refine ⟨rfl, ?_⟩
        walk_at "go"
        refine r_ite (fun hlt => ?_) (fun hlt => ?_)
        · walk_at "go"
          refine lcN_put topH (s := ()) trivial hD2 hS2 ?_ ?_
          · rw [List.length_map]; omega
          · rw [fl_put he (decide_eq_true hlt), List.map_append]; rfl
        · refine lcN_skip (s := ()) trivial hD2 hS2 ?_
          rw [fl_skip he (decide_eq_false hlt)]
      · rintro D2 _ C2 acc _ hB2 hD2 hS2 rfl
        rw [List.length_map, List.take_length]
        obtain ⟨C3, e, q1, q2, q3, q4, q5⟩ := under (y := .lst ((r.filter fun e => decide (e < (c : Int))).map V.int)) hD hB2 hS2
        try dsimp only
        rw [e]
        refine lcN_put topH (s := ()) trivial q1 (hS.trans q2) ?_ ⟨gs ++ [D2], refs_push _ _, ?_⟩
        · rw [List.length_map]; omega
        · rw [mp_put (show (rs.take c)[i]? = some r by rw [List.getElem?_take_of_lt hi]; exact hr1)]
          exact (hg.mono q2).push q3
    · rintro D1 _ C acc _ hB1 hD1 hS1 ⟨gs, rfl, hgs0⟩
      have hSG1 : Same H (upd C D1 (.lst (gs.map V.ref))) := ((same_new np).trans hS1).trans (same_new hD1)
      rw [List.length_take, List.length_map, List.take_of_length_le (i := min _ _) (by rw [List.length_take]; omega)] at hgs0
      have hgs := hgs0.mono (same_new (o := .lst (gs.map V.ref)) hD1)
      have hdgs : upd C D1 (.lst (gs.map V.ref)) D1 = some (.lst (gs.map V.ref)) := upd_same
      dsimp only at *
      generalize upd C D1 (.lst (gs.map V.ref)) = G1 at hSG1 hgs hdgs ⊢
      clear hS1 hD1 hB1 hgs0 C
      have haG1 := hSG1 _ _ haH
      have hrwG1 := hrwH.mono hSG1
      walk_at "go"


      intro p np2
      rw [cut_to _ (Int.natCast_nonneg c), Int.toNat_natCast]
      refine lcT_list topH (K := K) (s0 := ()) trivial (xs := (as.map V.ref).take c) upd_same (fun i C acc => ∃ gs : List Addr, acc = gs.map V.ref ∧ Ro V.int C gs (((rs.take c).take i).map (br c))) ⟨[], rfl, Ro.nil⟩ ?_ ?_
      · rintro D1 i x _ C acc _ hD hS hx ⟨gs, rfl, hg⟩
        obtain ⟨hi, hx⟩ := take_at hx
        obtain ⟨b, r, rfl, hb1, hr1, hc1⟩ := (hrwG1.mono ((same_new np2).trans hS)).at hx
        have hg1 := hwf.2 r (List.mem_of_getElem? hr1)
        have hgl : gs.length = i := by rw [hg.1, List.length_map, List.length_take, List.length_take]; omega
        walk_at "begin"
        walk_at "go"
        refine ⟨rfl, ?_⟩
        walk_at "go"
        refine lcT_list topH (K := K) (s0 := ()) trivial (xs := r.map V.int) (upd_old hD hc1) (fun j C acc => acc = ((r.take j).filter fun e => decide (e ≥ (c : Int))).map V.int) rfl ?_ ?_
        · rintro D2 j x _ C2 acc _ hD2 hS2 hy rfl
          obtain ⟨e, rfl, he⟩ := ints_at hy
          have hj := (List.getElem?_eq_some_iff.mp he).1
          have hl2 : ((r.take j).filter fun e => decide (e ≥ (c : Int))).length ≤ 1000 := Nat.le_trans (List.length_filter_le _ _) (by rw [List.length_take]; have := hg1.1; omega)
          walk_at "begin"
          walk_at "go"
          refine ⟨rfl, ?_⟩
          walk_at "go"
          refine r_ite (fun hlt => ?_) (fun hlt => ?_)
          · walk_at "go"
            refine lcN_put topH (s := ()) trivial hD2 hS2 ?_ ?_
            · rw [List.length_map]; omega
            · rw [fl_put he (decide_eq_true hlt), List.map_append]; rfl
          · refine lcN_skip (s := ()) trivial hD2 hS2 ?_
            rw [fl_skip he (decide_eq_false hlt)]
        · rintro D2 _ C2 acc _ hB2 hD2 hS2 rfl
          rw [List.length_map, List.take_length]
          obtain ⟨C3, e, q1, q2, q3, q4, q5⟩ := under (y := .lst ((r.filter fun e => decide (e ≥ (c : Int))).map V.int)) hD hB2 hS2
          try dsimp only
          rw [e]
          refine lcN_put topH (s := ()) trivial q1 (hS.trans q2) ?_ ⟨gs ++ [D2], refs_push _ _, ?_⟩
          · rw [List.length_map]; omega
          · rw [mp_put (show (rs.take c)[i]? = some r by rw [List.getElem?_take_of_lt hi]; exact hr1)]
            exact (hg.mono q2).push q3
      · rintro D2 _ C acc _ hB1 hD1 hS1 ⟨bs, rfl, hbs0⟩
        have hSG2 : Same G1 (upd C D2 (.lst (bs.map V.ref))) := ((same_new np2).trans hS1).trans (same_new hD1)
        rw [List.length_take, List.length_map, List.take_of_length_le (i := min _ _) (by rw [List.length_take]; omega)] at hbs0
        have hbs := hbs0.mono (same_new (o := .lst (bs.map V.ref)) hD1)
        have hdbs : upd C D2 (.lst (bs.map V.ref)) D2 = some (.lst (bs.map V.ref)) := upd_same
        dsimp only at *
        generalize upd C D2 (.lst (bs.map V.ref)) = G2 at hSG2 hbs hdbs ⊢
        clear hS1 hD1 hB1 hbs0 C
        have haG2 := hSG2 _ _ haG1
        have hrwG2 := hrwG1.mono hSG2
        walk_at "go"


        have hSH2 : Same H G2 := hSG1.trans hSG2
        have hgs2 := hgs.mono hSG2
        have hdgs2 := hSG2 _ _ hdgs
        have hbl : bs.length = c := by rw [hbs.1, List.length_map, List.length_take]; omega
        generalize hBR : (rs.take c).map (br c) = BR at hbs
        have hBl : BR.length = c := by rw [← hbs.1]; exact hbl
        have hBs : ∀ x ∈ BR, x.length ≤ 1000 := fun x hx => by
          rw [← hBR] at hx
          obtain ⟨r, hr, rfl⟩ := List.mem_map.mp hx
          exact Nat.le_trans (List.length_filter_le _ _) (by have := (hwf.2 r (List.mem_of_mem_take hr)).1; omega)
        -- the table
        refine lcT_list topH (K := K) (s0 := ()) trivial (xs := bs.map V.ref) hdbs (fun i C acc => ∃ ms : List Addr, acc = ms.map V.ref ∧ Ro V.bl C ms ((BR.take i).map fun x => BR.map fun y => decide (x = y)) ∧ ms.Nodup ∧ ∀ b ∈ ms, G2 b = none) ⟨[], rfl, Ro.nil, List.nodup_nil, fun b hb => nomatch hb⟩ ?_ ?_
        · rintro D3 i x _ C acc _ hD hS hx ⟨ms, rfl, hm, hnd, hfr⟩
          obtain ⟨b, r, rfl, hb1, hr1, hc1⟩ := (hbs.mono hS).at hx
          have hi := (List.getElem?_eq_some_iff.mp hr1).1
          have hml : ms.length = i := by rw [hm.1, List.length_map, List.length_take]; omega
          walk_at "begin"
          walk_at "go"
          refine ⟨rfl, ?_⟩
          walk_at "go"
          refine lcT_list topH (K := K) (s0 := ()) trivial (xs := bs.map V.ref) (upd_old hD (hS _ _ hdbs)) (fun j C acc => acc = ((BR.take j).map fun y => decide (r = y)).map V.bl) rfl ?_ ?_
          · rintro D4 j x _ C2 acc _ hD2 hS2 hy rfl
            have hSs : Same C C2 := fun x y e => hS2 _ _ (upd_old hD e)
            obtain ⟨b2, r2, rfl, hb2, hr2, hc2⟩ := (hbs.mono (hS.trans hSs)).at hy
            have hj := (List.getElem?_eq_some_iff.mp hr2).1
            have hc1' := hSs _ _ hc1
            walk_at "begin"
            walk_at "go"
            refine ⟨rfl, ?_⟩
            walk_at "go"
            refine r_eqI (upd_old hD2 hc1') (upd_old hD2 hc2) ?_
            refine lcN_put topH (s := ()) trivial hD2 hS2 ?_ ?_
            · rw [List.length_map, List.length_map, List.length_take]; omega
            · rw [mp_put hr2, List.map_append]; rfl
          · rintro D4 _ C2 acc _ hB2 hD2 hS2 rfl
            rw [List.length_map, hbl, ← hBl, List.take_length]
            obtain ⟨C3, e, q1, q2, q3, q4, q5⟩ := under (y := .lst ((BR.map fun y => decide (r = y)).map V.bl)) hD hB2 hS2
            try dsimp only
            rw [e]
            refine lcN_put topH (s := ()) trivial q1 (hS.trans q2) ?_ ⟨ms ++ [D4], refs_push _ _, ?_, nodup_push hnd fun hm2 => ?_, fun b hb => ?_⟩
            · rw [List.length_map]; omega
            · rw [mp_put hr1]
              exact (hm.mono q2).push q3
            · obtain ⟨j, hj⟩ := List.mem_iff_getElem?.mp hm2
              obtain ⟨r, _, hr⟩ := hm.2 j D4 hj
              rw [q4] at hr; cases hr
            · rcases List.mem_append.mp hb with z | z
              · exact hfr b z
              · rw [List.mem_singleton.mp z]; exact hS.free q4
        · rintro D3 _ C acc _ hB1 hD1 hS1 ⟨ms, rfl, hm0, hnd, hfr⟩
          have hneD3 : ∀ b ∈ ms, b ≠ D3 := fun b hb => by
            obtain ⟨j, hj⟩ := List.mem_iff_getElem?.mp hb
            obtain ⟨r, _, hr⟩ := hm0.2 j b hj
            exact ne_of_none hr hD1
          have hSG3 : Same G2 (upd C D3 (.lst (ms.map V.ref))) := hS1.trans (same_new hD1)
          rw [List.length_map, hbl, ← hBl, List.take_length] at hm0
          have hm := hm0.mono (same_new (o := .lst (ms.map V.ref)) hD1)
          have hd3 : upd C D3 (.lst (ms.map V.ref)) D3 = some (.lst (ms.map V.ref)) := upd_same
          dsimp only at *
          generalize upd C D3 (.lst (ms.map V.ref)) = G3 at hSG3 hm hd3 ⊢
          clear hS1 hD1 hB1 hm0 C
          have GL := Gl.init hlr hcn hBR.symm
          generalize (BR.map fun x => BR.map fun y => decide (x = y)) = M0 at hm GL
          have hml : ms.length = c := by rw [hm.1]; exact GL.len
          walk_at "go"
          -- the pairs
          refine lcT2_range topH (s0 := ()) trivial (n := c) ?_ ?_ (fun i C acc => ∃ (ts : List Addr) (qs : List (Int × Int)), acc = ts.map V.ref ∧ Tp C ts qs ∧ ts.length ≤ i * c ∧ (∀ q ∈ qs, 0 ≤ q.1 ∧ q.1 < (c : Int) ∧ 0 ≤ q.2 ∧ q.2 < (c : Int)) ∧
            (∀ g h : Nat, g < i → h < c → tr M0 g h → ((g : Int), (h : Int)) ∈ qs) ∧ ∀ t ∈ ts, G3 t = none) ?_ ?_ ?_
          · omega
          · omega
          · exact ⟨[], [], rfl, Tp.nil, Nat.zero_le _, (fun q hq => nomatch hq), (fun g h hg => absurd hg (Nat.not_lt_zero _)), fun t ht => nomatch ht⟩
          · rintro D4 i _ C acc _ hD hS hi ⟨ts, qs, rfl, ht, htl, hq0, hqm, htf⟩
            rw [Int.toNat_natCast] at hi
            walk_at "begin"
            walk_at "go"
            refine ⟨rfl, ?_⟩
            walk_at "go"
            refine ⟨c, rfl, by omega, by omega, ?_⟩
            rw [Int.toNat_natCast]
            refine lin_range (F := fun (_ : Unit) (C : Hp) => C) (ok := fun _ _ => True) (s0 := ()) (fun j C acc => ∃ (ts : List Addr) (qs : List (Int × Int)), acc = ts.map V.ref ∧ Tp C ts qs ∧ ts.length ≤ i * c + j ∧ (∀ q ∈ qs, 0 ≤ q.1 ∧ q.1 < (c : Int) ∧ 0 ≤ q.2 ∧ q.2 < (c : Int)) ∧
              (∀ g h : Nat, (g < i ∧ h < c) ∨ (g = i ∧ h < j) → tr M0 g h → ((g : Int), (h : Int)) ∈ qs) ∧ ∀ t ∈ ts, G3 t = none) trivial hD hS ?_ ?_ ?_
            · exact ⟨ts, qs, rfl, ht, htl, hq0, (fun g h hg t => by rcases hg with ⟨a, b⟩ | ⟨_, b⟩; exact hqm g h a b t; exact absurd b (Nat.not_lt_zero _)), htf⟩
            · rintro j _ C acc _ hD hS hj ⟨ts, qs, rfl, ht, htl, hq0, hqm, htf⟩
              rw [Int.zero_add]
              obtain ⟨b, r, k1, k2, k3, k4, k5⟩ := bt_at (e := (i : Int)) (k := (j : Int)) (hm.mono hS) GL.len GL.row (by omega) (by omega) (by omega) (by omega)
              have hd3' := hS _ _ hd3
              have hil : i * c ≤ 200 * 200 := Nat.mul_le_mul (by omega) (by omega)
              walk_at "begin"
              walk_at "go"
              refine ⟨rfl, ?_⟩
              walk_at "go"
              rw [Int.toNat_natCast, Int.toNat_natCast]
              refine r_iteB (fun hb => ?_) (fun hb => ?_)
              · walk_at "go"
                refine ⟨by walk_at "len", fun p np => ?_⟩
                obtain ⟨e, _, hD5, n5, ne5⟩ := newTD_eq topH (s := ()) trivial hD np (.tup [.int (i : Nat), .int (j : Nat)])
                try dsimp only at e
                rw [e]
                refine lcN_put topH (s := ()) trivial hD5 (hS.trans (same_new n5)) ?_ ⟨ts ++ [p], qs ++ [((i : Int), (j : Int))], refs_push _ _, (ht.mono (same_new n5)).push upd_same, ?_, fun q hq => ?_, fun g h hg t => ?_, fun t ht => ?_⟩
                · rw [List.length_map]; omega
                · rw [List.length_append, List.length_singleton]; omega
                · rcases List.mem_append.mp hq with z | z
                  · exact hq0 q z
                  · rw [List.mem_singleton.mp z]; exact ⟨by show (0 : Int) ≤ i; omega, by show (i : Int) < c; omega, by show (0 : Int) ≤ j; omega, by show (j : Int) < c; omega⟩
                · rcases hg with hg | ⟨rfl, hg⟩
                  · exact List.mem_append_left _ (hqm g h (.inl hg) t)
                  · by_cases e : h = j
                    · subst e; exact List.mem_append_right _ (List.mem_singleton.mpr rfl)
                    · exact List.mem_append_left _ (hqm _ h (.inr ⟨rfl, by omega⟩) t)
                · rcases List.mem_append.mp ht with z | z
                  · exact htf t z
                  · rw [List.mem_singleton.mp z]; exact hS.free n5
              · refine lcN_skip (s := ()) trivial hD hS ⟨ts, qs, rfl, ht, by omega, hq0, fun g h hg t => ?_, htf⟩
                rcases hg with hg | ⟨rfl, hg⟩
                · exact hqm g h (.inl hg) t
                · by_cases e : h = j
                  · subst e; rw [tr_bt.mp t] at hb; cases hb
                  · exact hqm _ h (.inr ⟨rfl, by omega⟩) t
            · rintro C acc ⟨ts, qs, rfl, ht, htl, hq0, hqm, htf⟩
              exact ⟨ts, qs, rfl, ht, by rw [Nat.add_mul]; omega, hq0, (fun g h hg hh t => hqm g h (by omega) t), htf⟩
          · rintro D4 _ C acc _ hB4 hD4 hS4 ⟨ts, qs, rfl, ht0, htl, hq0, hqm, htf⟩
            rw [Int.toNat_natCast] at hqm
            have hmne : ∀ b ∈ ms, b ≠ D4 ∧ ∀ t ∈ ts, t ≠ b := fun b hb => by
              obtain ⟨j, hj⟩ := List.mem_iff_getElem?.mp hb
              obtain ⟨r, _, hr⟩ := hm.2 j b hj
              exact ⟨ne_of_none hr hB4, fun t ht => (ne_of_none hr (htf t ht)).symm⟩
            have hSG4 : Same G3 (upd C D4 (.lst (ts.map V.ref))) := hS4.trans (same_new hD4)
            have ht := ht0.mono (same_new (o := .lst (ts.map V.ref)) hD4)
            have hd4 : upd C D4 (.lst (ts.map V.ref)) D4 = some (.lst (ts.map V.ref)) := upd_same
            dsimp only at *
            generalize upd C D4 (.lst (ts.map V.ref)) = G4 at hSG4 ht hd4 ⊢
            clear ht0 hS4 hD4 hB4 C
            have hmG := hm.mono hSG4
            have hS24 : Same G2 G4 := hSG3.trans hSG4
            walk_at "go"
            refine r_while (WI c a D1 D2 D3 D4 ms ts qs G2 rs M0) ⟨_, M0, true, none, none, rfl, hS24, hSG4 _ _ hd3, hmG, hd4, ht, GL, (fun _ _ t => t), rfl, fun z => nomatch z⟩ ?_
            rintro m σ H' ⟨M, fl, y7, y8, rfl, s1, s2, s3, s4, s5, G, sub, rfl, fin⟩
            walk_at "go"
            refine r_iteB (fun hb => ?_) (fun hb => ?_)
            · subst hb
              refine ⟨fun σ' H' => ∃ m', m' < trues M + (if true = true then 1 else 0) ∧ WI c a D1 D2 D3 D4 ms ts qs G2 rs M0 m' σ' H', fun σ' H' h => h, ?_⟩
              walk_at "go"
              refine r_forL (xs := ts.map V.ref) s4 (fun i σ H' => ∃ (M' : List (List Bool)) (fl : Bool) (y7 y8 : Option V), σ = [some (.int c), some (.ref a), some (.ref D1), some (.ref D2), some (.ref D3), some (.ref D4), some (.bl fl), y7, y8, none, none, none, none, none, none] ∧ Same G2 H' ∧ H' D3 = some (.lst (ms.map V.ref)) ∧
                Ro V.bl H' ms M' ∧ H' D4 = some (.lst (ts.map V.ref)) ∧ Tp H' ts qs ∧ Gl c rs M' ∧ (∀ g h, tr M' g h → tr M0 g h) ∧ trues M' ≤ trues M ∧ (fl = true → trues M' < trues M) ∧
                (fl = false → ∀ q ∈ qs.take i, tr M' q.1.toNat q.2.toNat → ∀ x y, rs[q.1.toNat]? = some x → rs[q.2.toNat]? = some y → Mt (tr M') (gp c x) (gp c y))) ?_ ?_ ?_ ?_
              · exact ⟨M, false, _, _, rfl, s1, s2, s3, s4, s5, G, sub, Nat.le_refl _, (fun z => nomatch z), fun _ q hq => nomatch hq⟩
              · rintro i σ H' _ ⟨M', fl, y7, y8, rfl, u1, u2, u3, u4, u5, G', sub', le', lt', fin'⟩
                exact u4
              · rintro i x σ H' hx ⟨M', fl, y7, y8, rfl, u1, u2, u3, u4, u5, G', sub', le', lt', fin'⟩
                obtain ⟨t, qq, rfl, ht1, hq1, hT⟩ := u5.at hx
                obtain ⟨g0, g1, k0, k1⟩ := hq0 qq (List.mem_of_getElem? hq1)
                obtain ⟨b, r, e1, e2, e3, e4, e5⟩ := bt_at u3 G'.len G'.row g0 g1 k0 k1
                obtain ⟨rx, hrx⟩ : ∃ r, rs[qq.1.toNat]? = some r := ⟨_, List.getElem?_eq_getElem (by omega)⟩
                obtain ⟨ry, hry⟩ : ∃ r, rs[qq.2.toNat]? = some r := ⟨_, List.getElem?_eq_getElem (by omega)⟩
                have gx : ∀ (z : Int) rz, 0 ≤ z → z < (c : Int) → rs[z.toNat]? = some rz → ((rs.take c).map (gp c))[z.toNat]? = some (gp c rz) := fun z rz h0 h1 h2 => by
                  rw [List.getElem?_map, List.getElem?_take_of_lt (by omega), h2]; rfl
                obtain ⟨bx, _, bx2, bx3⟩ := (hgs2.mono u1).get (gx _ _ g0 g1 hrx)
                obtain ⟨bY, _, by2, by3⟩ := (hgs2.mono u1).get (gx _ _ k0 k1 hry)
                have axt : atI (gs.map V.ref) qq.1 = some (.ref bx) := at_i g0 bx2
                have ayt : atI (gs.map V.ref) qq.2 = some (.ref bY) := at_i k0 by2
                have hgH := u1 _ _ hdgs2
                have rng : ∀ (r : List Int), r ∈ rs → (∀ e ∈ gp c r, 0 ≤ e ∧ e < (c : Int)) ∧ (gp c r).length ≤ 1000 := fun r hr => ⟨fun e he => ⟨((hwf.2 r hr).2.2 e (gp_mem.mp he).1).1, (gp_mem.mp he).2⟩, Nat.le_trans (List.length_filter_le _ _) (by have := (hwf.2 r hr).1; omega)⟩
                obtain ⟨rx1, rx2⟩ := rng rx (List.mem_of_getElem? hrx)
                obtain ⟨ry1, ry2⟩ := rng ry (List.mem_of_getElem? hry)
                refine r_tup (SqT.of hT) rfl ?_
                walk_at "go"
                refine r_iteB (fun hb => ?_) (fun hb => ?_)
                · walk_at "go"
                  refine ⟨bx, bY, D3, gp c rx, gp c ry, ms, M', c, rfl, bx3, by3, u2, u3, G'.len, G'.row, rx1, ry1, rx2, ry2, fun H9 bb hS9 hbb => ?_⟩
                  walk_at "go"
                  have v2 := hS9 _ _ u2
                  have v4 := hS9 _ _ u4
                  have ve2 := hS9 _ _ e2
                  refine r_iteB (fun hn => ?_) (fun hn => ?_)
                  · have hbb' : bb = false := by revert hn; cases bb <;> decide
                    have hix : ixN (r.map V.bl).length qq.2 = some qq.2.toNat := ix_i k0 (by rw [List.length_map, G'.row r (List.mem_of_getElem? e4)]; exact k1)
                    have hbm := List.mem_of_getElem? e5
                    obtain ⟨nb1, nb2⟩ := hmne b hbm
                    have nb3 := hneD3 b hbm
                    have nb4 := hfr b hbm
                    walk_at "go"
                    rw [← List.map_set]
                    have hbt : r[qq.2.toNat]? = some true := by
                      have := tr_bt.mpr hb
                      obtain ⟨r', w1, w2⟩ := this
                      rw [e4] at w1; cases w1; exact w2
                    have lt2 := trues_fall e4 hbt
                    refine ⟨M'.set qq.1.toNat (r.set qq.2.toNat false), true, _, _, rfl, fun x y e => by rw [upd_ne (ne_of_none e nb4)]; exact hS9 _ _ (u1 _ _ e), by rw [upd_ne nb3.symm]; exact v2, (u3.mono hS9).write hnd e5 _, by rw [upd_ne nb1.symm]; exact v4, (u5.mono hS9).keep (fun t ht => upd_ne (nb2 t ht)), G'.fall e4 hrx hry (fun z => by rw [hbb.mpr z] at hbb'; cases hbb'), fun g h z => sub' g h ((tr_set e4).mp z).1, by omega, fun _ => by omega, fun z => nomatch z⟩
                  · have hbb' : bb = true := by revert hn; cases bb <;> decide
                    walk_at "go"
                    refine ⟨M', fl, _, _, rfl, u1.trans hS9, v2, u3.mono hS9, v4, u5.mono hS9, G', sub', le', lt', fun z q hq t x y hx hy => ?_⟩
                    rw [tk_succ hq1] at hq
                    rcases List.mem_append.mp hq with w | w
                    · exact fin' z q w t x y hx hy
                    · rw [List.mem_singleton.mp w] at hx hy
                      rw [hrx] at hx; cases hx
                      rw [hry] at hy; cases hy
                      exact hbb.mp hbb'
                · walk_at "go"
                  refine ⟨M', fl, _, _, rfl, u1, u2, u3, u4, u5, G', sub', le', lt', fun z q hq t x y hx hy => ?_⟩
                  rw [tk_succ hq1] at hq
                  rcases List.mem_append.mp hq with w | w
                  · exact fin' z q w t x y hx hy
                  · rw [List.mem_singleton.mp w] at t
                    rw [tr_bt.mp t] at hb; cases hb
              · rintro σ H' ⟨M', fl, y7, y8, rfl, u1, u2, u3, u4, u5, G', sub', le', lt', fin'⟩
                walk_at "go"
                refine ⟨trues M' + (if fl = true then 1 else 0), ?_, M', fl, y7, y8, rfl, u1, u2, u3, u4, u5, G', sub', rfl, fun z g k x y t hx hy => ?_⟩
                · cases fl
                  · show trues M' + 0 < trues M + 1; omega
                  · have := lt' rfl; show trues M' + 1 < trues M + 1; omega
                · obtain ⟨_, _, c1, c2, _⟩ := G'.bare g k t
                  have hm := hqm g k c1 c2 (sub' g k t)
                  rw [List.length_map, ht.1, List.take_length] at fin'
                  exact fin' z _ hm t x y hx hy
            · walk_at "go"
              exact q _ _ ms M (hSH2.trans s1) s2 s3 G.len G.row (G.final (fin hb))
end
end K39
namespace K39
open PySem PySem.Spec PyProof.Rows L2 Lw


local macro_rules | `(tactic| walk_at "look") => `(tactic| first
  | assumption
  | with_reducible exact upd_same
  | with_reducible exact rg_st
  | with_reducible exact rg_g (by assumption)
  | (with_reducible refine upd_old (by assumption) ?_; walk_at "look")
  | (with_reducible refine rg_get (by assumption) ?_; walk_at "look")
  | (with_reducible refine Same.get (by assumption) ?_; walk_at "look"))
local macro_rules | `(tactic| walk_at "cond") => `(tactic| first
  | (show _ ≠ _; omega) | exact cdivN (by omega) (by omega) | exact cmul_mod (by decide) (by decide) | exact cmulR (by omega) (by omega) | exact cmulL (by omega) (by omega) | exact cpow (by omega) (by omega) (by omega) (by omega) | (show (0:Int) ≤ _; omega))
local macro_rules | `(tactic| walk_at "at") => `(tactic| first | assumption | with_unfolding_all rfl)
local macro_rules | `(tactic| walk_at "sz") => `(tactic| first | assumption | (refine small ?_; omega) | (refine small ?_; simp only [List.length_map, List.length_append, List.length_cons, List.length_nil]; omega))
local macro_rules | `(tactic| walk_at "len") => `(tactic| first | exact size_nil | exact Nat.le_of_lt (small (by simp only [List.length_cons, List.length_nil, List.length_map]; omega)))
local macro_rules | `(tactic| walk_at "newD") => `(tactic| (refine ⟨by walk_at "len", fun p np => ?_⟩; obtain ⟨e, o', hD', n', ne'⟩ := newTD_eq (topRg _ _) (by assumption) (by assumption) np (.lst _); rw [e]; clear e))
local macro_rules | `(tactic| walk_at "new") => `(tactic| (refine ⟨by walk_at "len", fun p np => ?_⟩; obtain ⟨e, o', n'⟩ := newT_eq (topRg _ _) (by assumption) np (.lst _); rw [e]; clear e))
local macro_rules | `(tactic| walk_at "st") => `(tactic| first
  | with_reducible refine r_seq ?_
  | with_reducible refine r_var rfl ?_
  | with_reducible refine r_c ?_
  | with_reducible refine r_asg ?_
  | (with_reducible refine r_name ?_; dsimp only [List.set_cons_zero, List.set_cons_succ])
  | with_reducible refine r_sub ?_
  | with_reducible refine r_op ?_
  | with_reducible refine r_i0 ?_
  | (with_reducible refine' r_i ?k1 ?_; (case k1 => walk_at "cond"))
  | with_reducible refine r_cons ?_
  | with_reducible refine r_nil ?_
  | with_reducible refine r_cb ?_
  | with_reducible refine r_call ?_
  | with_reducible refine r_ifs ?_
  | with_reducible refine r_test ?_
  | with_reducible refine r_tB ?_
  | with_reducible refine r_bl ?_
  | with_reducible refine r_ret ?_
  | with_reducible refine r_drop ?_
  | with_reducible refine r_next ?_
  | (with_reducible refine' r_ixL ?k1 ?k2 ?_; (case k1 => walk_at "look"); (case k2 => walk_at "at"))
  | (with_reducible refine' r_setL ?k1 ?k2 ?_; (case k1 => walk_at "look"); (case k2 => walk_at "at"))
  | (with_reducible refine' r_tup (SqT.of ?k1) ?k2 ?_; (case k1 => walk_at "look"); (case k2 => rfl))
  | with_reducible refine r_gcons ?_
  | with_reducible refine r_gnil ?_
  | with_reducible refine r_aug rfl ?_
  | with_reducible refine r_augS ?_
  | with_reducible refine r_ipI ?_
  | with_reducible refine r_un ?_
  | with_reducible refine r_u ?_
  | with_reducible refine r_eq rfl ?_
  | with_reducible refine r_ne rfl ?_
  | with_reducible refine r_chain ?_
  | with_reducible refine iteF ?_
  | with_reducible refine r_not ?_
  | with_reducible refine r_and ?_
  | with_reducible refine r_or ?_
  | with_reducible refine r_andV ?_
  | with_reducible refine r_orV ?_
  | with_reducible refine r_notV ?_
  | with_reducible refine r_lst ?_
  | with_reducible refine r_bm ?_
  | with_reducible refine r_bm0 ?_
  | (with_reducible refine' And.intro (r_ty ?k1) ?_; (case k1 => walk_at "look"))
  | (with_reducible refine' r_append ?k1 ?k2 ?_; (case k1 => walk_at "look"); (case k2 => walk_at "sz"))
  | (with_reducible refine' r_lenK ?k1 ?_; (case k1 => walk_at "look"))
  | (with_reducible refine' r_listOf ?k1 ?_; (case k1 => walk_at "look"))
  | (with_reducible refine' r_sortedI ?k1 ?_; (case k1 => walk_at "look"))
  | (with_reducible refine' r_sum ?k1 ?_; (case k1 => walk_at "look"))
  | with_reducible refine r_int ?_
  | (with_reducible refine' r_draw (by assumption) ?k1 ?k2 ?_; (case k1 => omega); (case k2 => omega); intro R' n' o' h' h'')
  | with_reducible refine iteT ?_
  | with_reducible refine r_revL ?_
  | with_reducible refine r_lc ?_
  | with_reducible refine r_yes ?_
  | with_reducible refine r_sl ?_
  | with_reducible refine r_noPart ?_
  | with_reducible refine r_part ?_
  | with_reducible refine r_lc2 ?_
  | with_reducible refine r_callN ?_
  | with_reducible refine r_tupE ?_
  | with_reducible refine r_rng2 ?_
  | with_reducible refine r_i1 ?_
  | (with_reducible refine' r_slL ?k1 ?_; (case k1 => walk_at "look"))
  | with_reducible refine r_for ?_
  | with_reducible refine r_iList ?_
  | with_reducible refine r_rng1 ?_
  | with_reducible refine r_enum ?_
  | (with_reducible show Ends.nx _ _ _; dsimp only)
  | (with_reducible show Ends.rt _ _ _; dsimp only)
  | (with_reducible show Ends.ct _ _ _; dsimp only)
  | (with_reducible show Ends.bk _ _ _; dsimp only))
local macro_rules | `(tactic| walk_at "go") => `(tactic| repeat (walk_at "st"))
local macro_rules | `(tactic| walk_at "begin") => `(tactic| dsimp only [cxOf, wipe, L2.start, List.map, List.length_cons, List.length_nil, Nat.reduceAdd, Nat.reduceSub, List.replicate, List.cons_append, List.nil_append])


open Lm
def Alk (c : Nat) (rs : List (List Int)) (b : Bool) : Prop := ∃ g h, g < h ∧ h < c ∧ (if b = true then Bs c rs g h else rs[g]? = rs[h]?)
def spPairs : Sp := fun vs H Q _ => ∃ (a : Addr) (as : List Addr) (rs : List (List Int)) (n L c : Nat) (b : Bool), vs = [.int (c : Int), .ref a, .bl b] ∧ H a = some (.lst (as.map V.ref)) ∧ Rw H as rs ∧ Wf n L rs ∧ c ≤ n ∧ n ≤ 200 ∧ L ≤ 700 ∧
  ∀ (H' : Hp) (q : Addr) (ts : List Addr) (qs : List (Int × Int)), Same H H' → H' q = some (.lst (ts.map V.ref)) → Tp H' ts qs → (ts = [] ↔ ¬ Alk c rs b) → Q (.ref q) H'
section
variable {P : Program} {w : World} {K : PySem.W.Frag} {mg : Str → Option Value} {base : Heap}
theorem ok_pairs {f f1 : Addr} {fd fd1 : FuncData} (B : Blt mg) (D : DnK K mg "pairs_alike" s_pairs_alike ["count", "rows", "rings"] 2 ["rings"] f fd) (Dgreatest_likeness : Dn K mg "greatest_likeness" s_greatest_likeness ["count", "rows"] f1 fd1)
    (Ggreatest_likeness : FnOk P w K mg base CX0 2 f1 fd1 ["count", "rows"] spGreat) : FnOk P w K mg base CX0 3 f fd ["count", "rows", "rings"] spPairs := by
  refine D.F.ok sc_pairs_alike (fun vs H Q E h => ?_) (fun cdv A outer s H vs Q E hr h => ?_)
  · obtain ⟨a, as, rs, n, L, c, b, rfl, _⟩ := h
    rfl
  · obtain ⟨a, as, rs, n, L, c, b, rfl, ha, hrw, hwf, hcn, hn, hL, q⟩ := h
    have hlr : rs.length = n := hwf.1
    have hla : as.length = n := by rw [hrw.1]; exact hwf.1
    refine ⟨_, (pss_cons (ps_setLc2 (i := 3) (own := [("g", 5), ("h", 6)]) (vs1 := [6]) rfl sc_pairs_alike.nd rfl rfl (sw_true rfl rfl rfl (by decide +kernel)) (pi_range1 (by rfl) B.m_range (pa_cons (pv 0) pa_nil)) (blkOk_by (own := [("g", 5), ("h", 6)]) (by kernel_rfl)) (by decide)
        (fun _ _ _ _ _ => (pg_name (i := 5) sc_pairs_alike.nd rfl (.inl rfl))) (fun _ _ _ _ _ => pts_nil)
        (fun _ _ _ _ _ => (pi_range2 (by rfl) B.m_range (pa_cons (pe_op op_add (pv 5) pe_int) (pa_cons (pv 0) pa_nil)))) (fun _ _ _ _ _ => (pg_name (i := 6) sc_pairs_alike.nd rfl (.inl rfl))) (fun _ _ _ _ _ => pts_nil)
        (fun _ _ _ _ _ => (pe_tup (pa_cons (pv 5) (pa_cons (pv 6) pa_nil)))))
      (pss_cons (ps_if (pt_val (pv 2)) (pss_cons (ps_set (i := 4) sc_pairs_alike.nd rfl (.inr rfl) (pe_call Ggreatest_likeness (hr.mono (by decide)) (by rfl) Dgreatest_likeness.g Dgreatest_likeness.F.kp Dgreatest_likeness.b .nil pass0 (pa_cons (pv 0) (pa_cons (pv 1) pa_nil))))
      (pss_one (ps_ret (pe_lc (own := [("g", 5), ("h", 6)]) rfl sc_pairs_alike.nd (pi_listK (K := K) rfl (pv 3)) (blkOk_by (own := [("g", 5), ("h", 6)]) (by kernel_rfl))
        (fun _ _ _ _ _ => (pg_tupK (K := K) (n := 2) rfl rfl (pgs_cons (pg_name (i := 5) sc_pairs_alike.nd rfl (.inl rfl)) (pgs_cons (pg_name (i := 6) sc_pairs_alike.nd rfl (.inl rfl)) pgs_nil)))) (fun _ _ _ _ _ => (pts_one (pt_val (pe_ix (ix_listK (K := K) rfl) (pe_ix (ix_listK (K := K) rfl) (pv 4) (pv 5) (fun _ _ => rfl)) (pv 6) (fun _ _ => rfl)))))
        (fun _ _ _ _ _ => (pe_tup (pa_cons (pv 5) (pa_cons (pv 6) pa_nil)))))))) pss_nil)
      (pss_one (ps_ret (pe_lc (own := [("g", 5), ("h", 6)]) rfl sc_pairs_alike.nd (pi_listK (K := K) rfl (pv 3)) (blkOk_by (own := [("g", 5), ("h", 6)]) (by kernel_rfl))
        (fun _ _ _ _ _ => (pg_tupK (K := K) (n := 2) rfl rfl (pgs_cons (pg_name (i := 5) sc_pairs_alike.nd rfl (.inl rfl)) (pgs_cons (pg_name (i := 6) sc_pairs_alike.nd rfl (.inl rfl)) pgs_nil)))) (fun _ _ _ _ _ => (pts_one (pt_cmpR (op_eqDK (K := K) rfl hr.units) (pe_ix (ix_listK (K := K) rfl) (pv 1) (pv 5) (fun _ _ => rfl)) (pe_ix (ix_listK (K := K) rfl) (pv 1) (pv 6) (fun _ _ => rfl)) (nomark _))))
        (fun _ _ _ _ _ => (pe_tup (pa_cons (pv 5) (pa_cons (pv 6) pa_nil))))))))), ?_⟩
    walk_at "begin"
    walk_at "go"
    refine lcT2_range topH (s0 := ()) trivial (n := c) ?_ ?_ (fun i C acc => ∃ (ts : List Addr) (qs : List (Int × Int)), acc = ts.map V.ref ∧ Tp C ts qs ∧ ts.length ≤ i * c ∧ (∀ q ∈ qs, 0 ≤ q.1 ∧ q.1 < q.2 ∧ q.2 < (c : Int)) ∧
      (∀ g h : Nat, g < i → g < h → h < c → ((g : Int), (h : Int)) ∈ qs)) ?_ ?_ ?_
    · omega
    · omega
    · exact ⟨[], [], rfl, Tp.nil, Nat.zero_le _, (fun q hq => nomatch hq), fun g h hg => absurd hg (Nat.not_lt_zero _)⟩
    · rintro D4 i _ C acc _ hD hS hi ⟨ts, qs, rfl, ht, htl, hq0, hqm⟩
      rw [Int.toNat_natCast] at hi
      walk_at "begin"
      walk_at "go"
      refine ⟨rfl, ?_⟩
      walk_at "go"
      refine r_isR2 (by omega) (by omega) (by omega) (by omega) ?_
      rw [show ((c : Int) - ((i : Int) + 1)).toNat = c - (i + 1) by omega]
      refine lin_range (F := fun (_ : Unit) (C : Hp) => C) (ok := fun _ _ => True) (s0 := ()) (fun j C acc => ∃ (ts : List Addr) (qs : List (Int × Int)), acc = ts.map V.ref ∧ Tp C ts qs ∧ ts.length ≤ i * c + j ∧ (∀ q ∈ qs, 0 ≤ q.1 ∧ q.1 < q.2 ∧ q.2 < (c : Int)) ∧
        (∀ g h : Nat, (g < i ∧ g < h ∧ h < c) ∨ (g = i ∧ g < h ∧ h < i + 1 + j) → ((g : Int), (h : Int)) ∈ qs)) trivial hD hS ?_ ?_ ?_
      · exact ⟨ts, qs, rfl, ht, htl, hq0, (fun g h hg => by rcases hg with ⟨a, b⟩ | ⟨a, b, d⟩; exact hqm g h a b.1 b.2; omega)⟩
      · rintro j _ C acc _ hD hS hj ⟨ts, qs, rfl, ht, htl, hq0, hqm⟩
        have hil : i * c ≤ 200 * 200 := Nat.mul_le_mul (by omega) (by omega)
        walk_at "begin"
        walk_at "go"
        refine ⟨rfl, ?_⟩
        walk_at "go"
        refine ⟨by walk_at "len", fun p np => ?_⟩
        obtain ⟨e, _, hD5, n5, ne5⟩ := newTD_eq topH (s := ()) trivial hD np (.tup [.int (i : Nat), .int ((i : Int) + 1 + (j : Nat))])
        try dsimp only at e
        rw [e]
        refine lcN_put topH (s := ()) trivial hD5 (hS.trans (same_new n5)) ?_ ⟨ts ++ [p], qs ++ [((i : Int), (i : Int) + 1 + (j : Nat))], refs_push _ _, (ht.mono (same_new n5)).push upd_same, ?_, fun q hq => ?_, fun g h hg => ?_⟩
        · rw [List.length_map]; omega
        · rw [List.length_append, List.length_singleton]; omega
        · rcases List.mem_append.mp hq with z | z
          · exact hq0 q z
          · rw [List.mem_singleton.mp z]; exact ⟨by show (0 : Int) ≤ i; omega, by show (i : Int) < (i : Int) + 1 + (j : Nat); omega, by show (i : Int) + 1 + (j : Nat) < c; omega⟩
        · rcases hg with hg | ⟨rfl, hg⟩
          · exact List.mem_append_left _ (hqm g h (.inl hg))
          · by_cases e : h = g + 1 + j
            · subst e; exact List.mem_append_right _ (List.mem_singleton.mpr (by rw [Int.natCast_add, Int.natCast_add]; rfl))
            · exact List.mem_append_left _ (hqm _ h (.inr ⟨rfl, by omega⟩))
      · rintro C acc ⟨ts, qs, rfl, ht, htl, hq0, hqm⟩
        exact ⟨ts, qs, rfl, ht, by rw [Nat.add_mul]; omega, hq0, (fun g h hg hg2 hh => hqm g h (by omega))⟩
    · rintro D4 _ C acc _ hB4 hD4 hS4 ⟨ts, qs, rfl, ht0, htl, hq0, hqm⟩
      rw [Int.toNat_natCast] at hqm htl
      have hil : c * c ≤ 200 * 200 := Nat.mul_le_mul (by omega) (by omega)
      have hSG : Same H (upd C D4 (.lst (ts.map V.ref))) := hS4.trans (same_new hD4)
      have ht := ht0.mono (same_new (o := .lst (ts.map V.ref)) hD4)
      have hd4 : upd C D4 (.lst (ts.map V.ref)) D4 = some (.lst (ts.map V.ref)) := upd_same
      dsimp only at *
      generalize upd C D4 (.lst (ts.map V.ref)) = G at hSG ht hd4 ⊢
      clear ht0 hS4 hD4 hB4 C
      have haG := hSG _ _ ha
      have hrwG := hrw.mono hSG
      walk_at "go"
      refine r_iteB (fun hb => ?_) (fun hb => ?_)
      · walk_at "go"
        refine ⟨a, as, rs, n, L, c, rfl, haG, hrwG, hwf, hcn, hn, hL, fun G5 q5 ms M hS5 hq5 hm5 hl5 hr5 hM5 => ?_⟩
        have hd5 := hS5 _ _ hd4
        have ht5 := ht.mono hS5
        walk_at "go"


        refine lcT_list topH (K := K) (s0 := ()) trivial (xs := ts.map V.ref) hd5 (fun k C acc => ∃ (us : List Addr) (vs : List (Int × Int)), acc = us.map V.ref ∧ Tp C us vs ∧ us.length ≤ k ∧ (us = [] ↔ ∀ q ∈ qs.take k, ¬ Bs c rs q.1.toNat q.2.toNat)) ⟨[], [], rfl, Tp.nil, Nat.zero_le _, fun _ q hq => (nomatch hq), fun _ => rfl⟩ ?_ ?_
        · rintro D5 i x _ C acc _ hD hS hx ⟨us, vs, rfl, hu, hul, hue⟩
          obtain ⟨t, qq, rfl, ht1, hq1, hT⟩ := (ht.mono ((hS5).trans hS)).at hx
          obtain ⟨g0, g1, k1⟩ := hq0 qq (List.mem_of_getElem? hq1)
          have hi := (List.getElem?_eq_some_iff.mp hx).1
          rw [List.length_map] at hi
          obtain ⟨b, r, e1, e2, e3, e4, e5⟩ := bt_at (hm5.mono hS) hl5 hr5 g0 (by omega : qq.1 < (c : Int)) (by omega : 0 ≤ qq.2) k1
          have hq5' := hS _ _ hq5
          walk_at "begin"
          refine r_tup (SqT.of (upd_old hD hT)) rfl ?_
          walk_at "go"
          refine ⟨rfl, ?_⟩
          walk_at "go"
          refine r_iteP (tr_bt.symm.trans (hM5 _ _)) (fun hc => ?_) (fun hc => ?_)
          · walk_at "go"
            refine ⟨by walk_at "len", fun p np => ?_⟩
            obtain ⟨e, _, hD5, n5, ne5⟩ := newTD_eq topH (s := ()) trivial hD np (.tup [.int qq.1, .int qq.2])
            try dsimp only at e
            rw [e]
            refine lcN_put topH (s := ()) trivial hD5 (hS.trans (same_new n5)) ?_ ⟨us ++ [p], vs ++ [qq], refs_push _ _, (hu.mono (same_new n5)).push upd_same, ?_, ?_, fun z => ?_⟩
            · rw [List.length_map]; omega
            · rw [List.length_append, List.length_singleton]; omega
            · intro z
              have := congrArg List.length z
              rw [List.length_append] at this
              exact absurd this (by simp)
            · exact absurd hc (z qq (by rw [tk_succ hq1]; exact List.mem_append_right _ (List.mem_singleton.mpr rfl)))
          · refine lcN_skip (s := ()) trivial hD hS ⟨us, vs, rfl, hu, by omega, ?_⟩
            rw [hue, tk_succ hq1]
            constructor
            · intro z q hq
              rcases List.mem_append.mp hq with w | w
              · exact z q w
              · rw [List.mem_singleton.mp w]; exact hc
            · exact fun z q hq => z q (List.mem_append_left _ hq)
        · rintro D5 _ C acc _ hB5 hD5 hS5t ⟨us, vs, rfl, hu, hul, hue⟩
          rw [List.length_map, ht.1, List.take_length] at hue

          have hS6 : Same H (upd C D5 (.lst (us.map V.ref))) := (hSG.trans hS5).trans (hS5t.trans (same_new hD5))
          refine q _ _ us vs hS6 upd_same (hu.mono (same_new hD5)) ?_
          rw [hue]
          constructor
          · rintro z ⟨g, h, h1, h2, h3⟩
            rw [hb] at h3
            exact z _ (hqm g h (by omega) h1 h2) h3
          · intro z q hq h3
            obtain ⟨h0, h1, h2⟩ := hq0 q hq
            exact z ⟨q.1.toNat, q.2.toNat, by omega, by omega, by rw [hb]; exact h3⟩

      · walk_at "go"


        refine lcT_list topH (K := K) (s0 := ()) trivial (xs := ts.map V.ref) hd4 (fun k C acc => ∃ (us : List Addr) (vs : List (Int × Int)), acc = us.map V.ref ∧ Tp C us vs ∧ us.length ≤ k ∧ (us = [] ↔ ∀ q ∈ qs.take k, ¬ rs[q.1.toNat]? = rs[q.2.toNat]?)) ⟨[], [], rfl, Tp.nil, Nat.zero_le _, fun _ q hq => (nomatch hq), fun _ => rfl⟩ ?_ ?_
        · rintro D5 i x _ C acc _ hD hS hx ⟨us, vs, rfl, hu, hul, hue⟩
          obtain ⟨t, qq, rfl, ht1, hq1, hT⟩ := (ht.mono (hS)).at hx
          obtain ⟨g0, g1, k1⟩ := hq0 qq (List.mem_of_getElem? hq1)
          have hi := (List.getElem?_eq_some_iff.mp hx).1
          rw [List.length_map] at hi
          obtain ⟨b1, r1, _, x1, y1, z1⟩ : ∃ b1 r1, True ∧ atI (as.map V.ref) qq.1 = some (.ref b1) ∧ rs[qq.1.toNat]? = some r1 ∧ C b1 = some (.lst (r1.map V.int)) := by
            obtain ⟨r1, hr1⟩ : ∃ r1, rs[qq.1.toNat]? = some r1 := ⟨_, List.getElem?_eq_getElem (by omega)⟩
            obtain ⟨b1, _, w2, w3⟩ := Ro.get (f := V.int) (hrwG.mono hS) hr1
            exact ⟨b1, r1, trivial, at_i g0 w2, hr1, w3⟩
          obtain ⟨b2, r2, _, x2, y2, z2⟩ : ∃ b2 r2, True ∧ atI (as.map V.ref) qq.2 = some (.ref b2) ∧ rs[qq.2.toNat]? = some r2 ∧ C b2 = some (.lst (r2.map V.int)) := by
            obtain ⟨r2, hr2⟩ : ∃ r2, rs[qq.2.toNat]? = some r2 := ⟨_, List.getElem?_eq_getElem (by omega)⟩
            obtain ⟨b2, _, w2, w3⟩ := Ro.get (f := V.int) (hrwG.mono hS) hr2
            exact ⟨b2, r2, trivial, at_i (by omega) w2, hr2, w3⟩
          have haC := hS _ _ haG
          walk_at "begin"
          refine r_tup (SqT.of (upd_old hD hT)) rfl ?_
          walk_at "go"
          refine ⟨rfl, ?_⟩
          walk_at "go"
          refine r_eqI (upd_old hD z1) (upd_old hD z2) ?_
          walk_at "go"
          refine r_iteP (p := rs[qq.1.toNat]? = rs[qq.2.toNat]?) (by rw [y1, y2, decide_eq_true_eq, Option.some.injEq]) (fun hc => ?_) (fun hc => ?_)
          · walk_at "go"
            refine ⟨by walk_at "len", fun p np => ?_⟩
            obtain ⟨e, _, hD5, n5, ne5⟩ := newTD_eq topH (s := ()) trivial hD np (.tup [.int qq.1, .int qq.2])
            try dsimp only at e
            rw [e]
            refine lcN_put topH (s := ()) trivial hD5 (hS.trans (same_new n5)) ?_ ⟨us ++ [p], vs ++ [qq], refs_push _ _, (hu.mono (same_new n5)).push upd_same, ?_, ?_, fun z => ?_⟩
            · rw [List.length_map]; omega
            · rw [List.length_append, List.length_singleton]; omega
            · intro z
              have := congrArg List.length z
              rw [List.length_append] at this
              exact absurd this (by simp)
            · exact absurd hc (z qq (by rw [tk_succ hq1]; exact List.mem_append_right _ (List.mem_singleton.mpr rfl)))
          · refine lcN_skip (s := ()) trivial hD hS ⟨us, vs, rfl, hu, by omega, ?_⟩
            rw [hue, tk_succ hq1]
            constructor
            · intro z q hq
              rcases List.mem_append.mp hq with w | w
              · exact z q w
              · rw [List.mem_singleton.mp w]; exact hc
            · exact fun z q hq => z q (List.mem_append_left _ hq)
        · rintro D5 _ C acc _ hB5 hD5 hS5t ⟨us, vs, rfl, hu, hul, hue⟩
          rw [List.length_map, ht.1, List.take_length] at hue

          have hS6 : Same H (upd C D5 (.lst (us.map V.ref))) := hSG.trans (hS5t.trans (same_new hD5))
          refine q _ _ us vs hS6 upd_same (hu.mono (same_new hD5)) ?_
          rw [hue]
          constructor
          · rintro z ⟨g, h, h1, h2, h3⟩
            rw [hb] at h3; simp only [Bool.false_eq_true, if_false] at h3
            exact z _ (hqm g h (by omega) h1 h2) h3
          · intro z q hq h3
            obtain ⟨h0, h1, h2⟩ := hq0 q hq
            exact z ⟨q.1.toNat, q.2.toNat, by omega, by omega, by rw [hb]; exact h3⟩
end
end K39
namespace K39
open PySem PySem.Spec PyProof.Rows L2 Lw


local macro_rules | `(tactic| walk_at "look") => `(tactic| first
  | assumption
  | with_reducible exact upd_same
  | with_reducible exact rg_st
  | with_reducible exact rg_g (by assumption)
  | (with_reducible refine upd_old (by assumption) ?_; walk_at "look")
  | (with_reducible refine rg_get (by assumption) ?_; walk_at "look")
  | (with_reducible refine Same.get (by assumption) ?_; walk_at "look"))
local macro_rules | `(tactic| walk_at "cond") => `(tactic| first
  | (show _ ≠ _; omega) | exact cdivN (by omega) (by omega) | exact cmul_mod (by decide) (by decide) | exact cmulR (by omega) (by omega) | exact cmulL (by omega) (by omega) | exact cpow (by omega) (by omega) (by omega) (by omega) | (show (0:Int) ≤ _; omega))
local macro_rules | `(tactic| walk_at "at") => `(tactic| first | assumption | with_unfolding_all rfl)
local macro_rules | `(tactic| walk_at "sz") => `(tactic| first | assumption | (refine small ?_; omega) | (refine small ?_; simp only [List.length_map, List.length_append, List.length_cons, List.length_nil]; omega))
local macro_rules | `(tactic| walk_at "len") => `(tactic| first | exact size_nil | exact Nat.le_of_lt (small (by simp only [List.length_cons, List.length_nil, List.length_map]; omega)))
local macro_rules | `(tactic| walk_at "newD") => `(tactic| (refine ⟨by walk_at "len", fun p np => ?_⟩; obtain ⟨e, o', hD', n', ne'⟩ := newTD_eq (topRg _ _) (by assumption) (by assumption) np (.lst _); rw [e]; clear e))
local macro_rules | `(tactic| walk_at "new") => `(tactic| (refine ⟨by walk_at "len", fun p np => ?_⟩; obtain ⟨e, o', n'⟩ := newT_eq (topRg _ _) (by assumption) np (.lst _); rw [e]; clear e))
local macro_rules | `(tactic| walk_at "st") => `(tactic| first
  | with_reducible refine r_seq ?_
  | with_reducible refine r_var rfl ?_
  | with_reducible refine r_c ?_
  | with_reducible refine r_asg ?_
  | (with_reducible refine r_name ?_; dsimp only [List.set_cons_zero, List.set_cons_succ])
  | with_reducible refine r_sub ?_
  | with_reducible refine r_op ?_
  | with_reducible refine r_i0 ?_
  | (with_reducible refine' r_i ?k1 ?_; (case k1 => walk_at "cond"))
  | with_reducible refine r_cons ?_
  | with_reducible refine r_nil ?_
  | with_reducible refine r_cb ?_
  | with_reducible refine r_call ?_
  | with_reducible refine r_ifs ?_
  | with_reducible refine r_test ?_
  | with_reducible refine r_tB ?_
  | with_reducible refine r_bl ?_
  | with_reducible refine r_ret ?_
  | with_reducible refine r_drop ?_
  | with_reducible refine r_next ?_
  | (with_reducible refine' r_ixL ?k1 ?k2 ?_; (case k1 => walk_at "look"); (case k2 => walk_at "at"))
  | (with_reducible refine' r_setL ?k1 ?k2 ?_; (case k1 => walk_at "look"); (case k2 => walk_at "at"))
  | (with_reducible refine' r_tup (SqT.of ?k1) ?k2 ?_; (case k1 => walk_at "look"); (case k2 => rfl))
  | with_reducible refine r_gcons ?_
  | with_reducible refine r_gnil ?_
  | with_reducible refine r_aug rfl ?_
  | with_reducible refine r_augS ?_
  | with_reducible refine r_ipI ?_
  | with_reducible refine r_un ?_
  | with_reducible refine r_u ?_
  | with_reducible refine r_eq rfl ?_
  | with_reducible refine r_ne rfl ?_
  | with_reducible refine r_chain ?_
  | with_reducible refine iteF ?_
  | with_reducible refine r_not ?_
  | with_reducible refine r_and ?_
  | with_reducible refine r_or ?_
  | with_reducible refine r_andV ?_
  | with_reducible refine r_orV ?_
  | with_reducible refine r_notV ?_
  | with_reducible refine r_lst ?_
  | with_reducible refine r_bm ?_
  | with_reducible refine r_bm0 ?_
  | (with_reducible refine' And.intro (r_ty ?k1) ?_; (case k1 => walk_at "look"))
  | (with_reducible refine' r_append ?k1 ?k2 ?_; (case k1 => walk_at "look"); (case k2 => walk_at "sz"))
  | (with_reducible refine' r_lenK ?k1 ?_; (case k1 => walk_at "look"))
  | (with_reducible refine' r_listOf ?k1 ?_; (case k1 => walk_at "look"))
  | (with_reducible refine' r_sortedI ?k1 ?_; (case k1 => walk_at "look"))
  | (with_reducible refine' r_sum ?k1 ?_; (case k1 => walk_at "look"))
  | with_reducible refine r_int ?_
  | (with_reducible refine' r_draw (by assumption) ?k1 ?k2 ?_; (case k1 => omega); (case k2 => omega); intro R' n' o' h' h'')
  | with_reducible refine iteT ?_
  | with_reducible refine r_revL ?_
  | with_reducible refine r_lc ?_
  | with_reducible refine r_yes ?_
  | with_reducible refine r_sl ?_
  | with_reducible refine r_noPart ?_
  | with_reducible refine r_part ?_
  | with_reducible refine r_lc2 ?_
  | with_reducible refine r_callN ?_
  | with_reducible refine r_tupE ?_
  | with_reducible refine r_rng2 ?_
  | with_reducible refine r_i1 ?_
  | (with_reducible refine' r_slL ?k1 ?_; (case k1 => walk_at "look"))
  | with_reducible refine r_for ?_
  | with_reducible refine r_iList ?_
  | with_reducible refine r_rng1 ?_
  | with_reducible refine r_enum ?_
  | (with_reducible show Ends.nx _ _ _; dsimp only)
  | (with_reducible show Ends.rt _ _ _; dsimp only)
  | (with_reducible show Ends.ct _ _ _; dsimp only)
  | (with_reducible show Ends.bk _ _ _; dsimp only))
local macro_rules | `(tactic| walk_at "go") => `(tactic| repeat (walk_at "st"))
local macro_rules | `(tactic| walk_at "begin") => `(tactic| dsimp only [cxOf, wipe, L2.start, List.map, List.length_cons, List.length_nil, Nat.reduceAdd, Nat.reduceSub, List.replicate, List.cons_append, List.nil_append])


open Lm
def spStands : Sp := fun vs H Q _ => ∃ (a : Addr) (as : List Addr) (rs : List (List Int)) (n L c : Nat) (b : Bool), vs = [.int (c : Int), .ref a, .bl b] ∧ H a = some (.lst (as.map V.ref)) ∧ Rw H as rs ∧ Wf n L rs ∧ c ≤ n ∧ n ≤ 128 ∧ L ≤ 700 ∧
  ∀ (H' : Hp) (r : Bool), Same H H' → (r = true ↔ ¬ Alk c rs b ∧ (b = true ∨ ∀ x, ¬ Tc (Ed rs) x x)) → Q (.bl r) H'
section
variable {P : Program} {w : World} {K : PySem.W.Frag} {mg : Str → Option Value} {base : Heap}
theorem ok_stands {f f1 f2 : Addr} {fd fd1 fd2 : FuncData} (B : Blt mg) (D : DnK K mg "sketch_stands" s_sketch_stands ["count", "rows", "rings"] 2 ["rings"] f fd) (Dpairs_alike : DnK K mg "pairs_alike" s_pairs_alike ["count", "rows", "rings"] 2 ["rings"] f1 fd1)
    (Gpairs_alike : FnOk P w K mg base CX0 3 f1 fd1 ["count", "rows", "rings"] spPairs) (Dsettled_places : Dn K mg "settled_places" s_settled_places ["rows"] f2 fd2) (Gsettled_places : FnOk P w K mg base CX0 1 f2 fd2 ["rows"] spSettled) : FnOk P w K mg base CX0 4 f fd ["count", "rows", "rings"] spStands := by
  refine D.F.ok sc_sketch_stands (fun vs H Q E h => ?_) (fun cdv A outer s H vs Q E hr h => ?_)
  · obtain ⟨a, as, rs, n, L, c, b, rfl, _⟩ := h
    rfl
  · obtain ⟨a, as, rs, n, L, c, b, rfl, ha, hrw, hwf, hcn, hn, hL, q⟩ := h
    have hlr : rs.length = n := hwf.1
    have hla : as.length = n := by rw [hrw.1]; exact hwf.1
    refine ⟨_, (pss_cons (ps_if (pt_cmpR (op_neDK (K := K) rfl hr.units) (pe_callN Gpairs_alike (hr.mono (by decide)) (by rfl) Dpairs_alike.g Dpairs_alike.F.kp Dpairs_alike.kb pass0 (pa_cons (pv 0) (pa_cons (pv 1) pa_nil)) (pk_cons (pv 2) pk_nil)) (pe_lst pa_nil) (nomark _)) (pss_one (ps_ret pe_bl)) pss_nil)
      (pss_cons (ps_if (pt_val (pv 2)) (pss_one (ps_ret pe_bl)) pss_nil)
      (pss_one (ps_ret (pe_cmpR op_eq (pe_callB (call_len_seqK (K := K) rfl) (by rfl) B.m_len PySem.boot_len (pa_cons (pe_call Gsettled_places (hr.mono (by decide)) (by rfl) Dsettled_places.g Dsettled_places.F.kp Dsettled_places.b .nil pass0 (pa_cons (pv 1) pa_nil)) pa_nil)) (pe_callB (call_len_seqK (K := K) rfl) (by rfl) B.m_len PySem.boot_len (pa_cons (pv 1) pa_nil)) (nomark _)))))), ?_⟩
    walk_at "begin"
    walk_at "go"
    refine ⟨rfl, rfl, a, as, rs, n, L, c, b, rfl, ha, hrw, hwf, hcn, by omega, hL, fun H1 q1 ts qs hS1 hq1 ht1 hal => ?_⟩
    walk_at "go"
    refine ⟨size_nil, fun p np => ?_⟩
    refine r_neNil (upd_old np hq1) (ht1.mono (same_new np)) upd_same fun z hz => ?_
    have hS2 : Same H (upd H1 p (.lst [])) := hS1.trans (same_new np)
    walk_at "go"
    refine r_iteP hz (fun hc => ?_) (fun hc => ?_)
    · walk_at "go"
      exact q _ _ hS2 ⟨(fun z => nomatch z), fun z => absurd (hal.mpr z.1) hc⟩
    · have hna : ¬ Alk c rs b := hal.mp (Classical.byContradiction hc)
      walk_at "go"
      refine r_iteB (fun hb => ?_) (fun hb => ?_)
      · walk_at "go"
        exact q _ _ hS2 ⟨fun _ => ⟨hna, .inl hb⟩, fun _ => rfl⟩
      · walk_at "go"
        refine ⟨a, as, rs, n, L, rfl, hS2 _ _ ha, hrw.mono hS2, hwf, by omega, hL, fun H3 q3 ss hS3 _ hss hk => ?_⟩
        have ha3 := hS3 _ _ (hS2 _ _ ha)
        walk_at "go"
        refine q _ _ (hS2.trans hS3) ?_
        rw [List.length_map, List.length_map, hla, decide_eq_true_eq]
        constructor
        · intro e
          exact ⟨hna, .inr (hk.mp (by have := V.int.inj e; omega))⟩
        · rintro ⟨_, e | e⟩
          · rw [hb] at e; cases e
          · rw [hk.mpr e]
end
end K39
namespace K39
open PySem PySem.Spec PyProof.Rows L2 Lw


local macro_rules | `(tactic| walk_at "look") => `(tactic| first
  | assumption
  | with_reducible exact upd_same
  | with_reducible exact rg_st
  | with_reducible exact rg_g (by assumption)
  | (with_reducible refine upd_old (by assumption) ?_; walk_at "look")
  | (with_reducible refine rg_get (by assumption) ?_; walk_at "look")
  | (with_reducible refine Same.get (by assumption) ?_; walk_at "look"))
local macro_rules | `(tactic| walk_at "cond") => `(tactic| first
  | (show _ ≠ _; omega) | exact cdivN (by omega) (by omega) | exact cmul_mod (by decide) (by decide) | exact cmulR (by omega) (by omega) | exact cmulL (by omega) (by omega) | exact cpow (by omega) (by omega) (by omega) (by omega) | (show (0:Int) ≤ _; omega))
local macro_rules | `(tactic| walk_at "at") => `(tactic| first | assumption | with_unfolding_all rfl)
local macro_rules | `(tactic| walk_at "sz") => `(tactic| first | assumption | (refine small ?_; omega) | (refine small ?_; simp only [List.length_map, List.length_append, List.length_cons, List.length_nil]; omega))
local macro_rules | `(tactic| walk_at "len") => `(tactic| first | exact size_nil | exact Nat.le_of_lt (small (by simp only [List.length_cons, List.length_nil, List.length_map]; omega)))
local macro_rules | `(tactic| walk_at "newD") => `(tactic| (refine ⟨by walk_at "len", fun p np => ?_⟩; obtain ⟨e, o', hD', n', ne'⟩ := newTD_eq (topRg _ _) (by assumption) (by assumption) np (.lst _); rw [e]; clear e))
local macro_rules | `(tactic| walk_at "new") => `(tactic| (refine ⟨by walk_at "len", fun p np => ?_⟩; obtain ⟨e, o', n'⟩ := newT_eq (topRg _ _) (by assumption) np (.lst _); rw [e]; clear e))
local macro_rules | `(tactic| walk_at "st") => `(tactic| first
  | with_reducible refine r_seq ?_
  | with_reducible refine r_var rfl ?_
  | with_reducible refine r_c ?_
  | with_reducible refine r_asg ?_
  | (with_reducible refine r_name ?_; dsimp only [List.set_cons_zero, List.set_cons_succ])
  | with_reducible refine r_sub ?_
  | with_reducible refine r_op ?_
  | with_reducible refine r_i0 ?_
  | (with_reducible refine' r_i ?k1 ?_; (case k1 => walk_at "cond"))
  | with_reducible refine r_cons ?_
  | with_reducible refine r_nil ?_
  | with_reducible refine r_cb ?_
  | with_reducible refine r_call ?_
  | with_reducible refine r_ifs ?_
  | with_reducible refine r_test ?_
  | with_reducible refine r_tB ?_
  | with_reducible refine r_bl ?_
  | with_reducible refine r_ret ?_
  | with_reducible refine r_drop ?_
  | with_reducible refine r_next ?_
  | (with_reducible refine' r_ixL ?k1 ?k2 ?_; (case k1 => walk_at "look"); (case k2 => walk_at "at"))
  | (with_reducible refine' r_setL ?k1 ?k2 ?_; (case k1 => walk_at "look"); (case k2 => walk_at "at"))
  | (with_reducible refine' r_tup (SqT.of ?k1) ?k2 ?_; (case k1 => walk_at "look"); (case k2 => rfl))
  | with_reducible refine r_gcons ?_
  | with_reducible refine r_gnil ?_
  | with_reducible refine r_aug rfl ?_
  | with_reducible refine r_augS ?_
  | with_reducible refine r_ipI ?_
  | with_reducible refine r_un ?_
  | with_reducible refine r_u ?_
  | with_reducible refine r_eq rfl ?_
  | with_reducible refine r_ne rfl ?_
  | with_reducible refine r_chain ?_
  | with_reducible refine iteF ?_
  | with_reducible refine r_not ?_
  | with_reducible refine r_and ?_
  | with_reducible refine r_or ?_
  | with_reducible refine r_andV ?_
  | with_reducible refine r_orV ?_
  | with_reducible refine r_notV ?_
  | with_reducible refine r_lst ?_
  | with_reducible refine r_bm ?_
  | with_reducible refine r_bm0 ?_
  | (with_reducible refine' And.intro (r_ty ?k1) ?_; (case k1 => walk_at "look"))
  | (with_reducible refine' r_append ?k1 ?k2 ?_; (case k1 => walk_at "look"); (case k2 => walk_at "sz"))
  | (with_reducible refine' r_lenK ?k1 ?_; (case k1 => walk_at "look"))
  | (with_reducible refine' r_listOf ?k1 ?_; (case k1 => walk_at "look"))
  | (with_reducible refine' r_sortedI ?k1 ?_; (case k1 => walk_at "look"))
  | (with_reducible refine' r_sum ?k1 ?_; (case k1 => walk_at "look"))
  | with_reducible refine r_int ?_
  | (with_reducible refine' r_draw (by assumption) ?k1 ?k2 ?_; (case k1 => omega); (case k2 => omega); intro R' n' o' h' h'')
  | with_reducible refine iteT ?_
  | with_reducible refine r_revL ?_
  | with_reducible refine r_lc ?_
  | with_reducible refine r_yes ?_
  | with_reducible refine r_sl ?_
  | with_reducible refine r_noPart ?_
  | with_reducible refine r_part ?_
  | with_reducible refine r_lc2 ?_
  | with_reducible refine r_callN ?_
  | with_reducible refine r_callD ?_
  | with_reducible refine r_tupE ?_
  | with_reducible refine r_rng2 ?_
  | with_reducible refine r_i1 ?_
  | (with_reducible refine' r_slL ?k1 ?_; (case k1 => walk_at "look"))
  | with_reducible refine r_for ?_
  | with_reducible refine r_iList ?_
  | with_reducible refine r_rng1 ?_
  | with_reducible refine r_enum ?_
  | (with_reducible show Ends.nx _ _ _; dsimp only)
  | (with_reducible show Ends.rt _ _ _; dsimp only)
  | (with_reducible show Ends.ct _ _ _; dsimp only)
  | (with_reducible show Ends.bk _ _ _; dsimp only))
local macro_rules | `(tactic| walk_at "go") => `(tactic| repeat (walk_at "st"))
local macro_rules | `(tactic| walk_at "begin") => `(tactic| dsimp only [cxOf, wipe, L2.start, List.map, List.length_cons, List.length_nil, Nat.reduceAdd, Nat.reduceSub, List.replicate, List.cons_append, List.nil_append])


open Lm
local macro_rules | `(tactic| walk_at "st") => `(tactic| first
  | with_reducible refine r_dget ?_
  | with_reducible refine r_dnot ?_
  | with_reducible refine r_dput ?_
  | with_reducible refine r_dnewT ?_
  | (with_reducible refine' r_tupleOf ?k1 ?_; (case k1 => walk_at "look"))
  | (with_reducible refine' r_lenTb ?k1 ?_; (case k1 => walk_at "look")))
def nat_ (N : List Int) (a : Nat) : Int := (N[a]?).getD (-1)
def spSets : Sp := fun vs H Q _ => ∃ (a : Addr) (as : List Addr) (rs : List (List Int)) (n : Nat), vs = [.ref a] ∧ H a = some (.lst (as.map V.ref)) ∧ Rw H as rs ∧ Wf n 60 rs ∧ n ≤ 200 ∧
  ∀ (H' : Hp) (q : Addr) (N : List Int), Same H H' → H' q = some (.lst (N.map V.int)) → N.length = n → (∀ z ∈ N, -1 ≤ z) → ((∀ z ∈ N, 0 ≤ z) ↔ ∀ x, ¬ Tc (Ed rs) x x) → ((∀ z ∈ N, 0 ≤ z) → Ext rs (nat_ N)) → Q (.ref q) H'
theorem nat_at {N : List Int} {a : Nat} {z : Int} (h : N[a]? = some z) : nat_ N a = z := by unfold nat_; rw [h]; rfl
theorem at_nat {N : List Int} {a : Nat} (h : a < N.length) : N[a]? = some (nat_ N a) := by
  unfold nat_; rw [List.getElem?_eq_getElem h]; rfl
section
variable {P : Program} {w : World} {K : PySem.W.Frag} {mg : Str → Option Value} {base : Heap}
theorem ok_sets {f : Addr} {fd : FuncData} {k : Nat} (B : Blt mg) (D : Dn K mg "_law_sets" s__law_sets ["drawing"] f fd) : FnOk P w K mg base CX0 (k + 1) f fd ["drawing"] spSets := by
  refine D.F.ok sc__law_sets (fun vs H Q E h => ?_) (fun cdv A outer s H vs Q E hr h => ?_)
  · obtain ⟨a, as, rs, n, rfl, _⟩ := h
    rfl
  · obtain ⟨a, as, rs, n, rfl, ha, hrw, hwf, hn, q⟩ := h
    have hlr : rs.length = n := hwf.1
    have hla : as.length = n := by rw [hrw.1]; exact hwf.1
    have hin : In rs := In.of hwf
    refine ⟨_, (pss_cons (ps_set (i := 1) sc__law_sets.nd rfl (.inr rfl) (pe_lc (own := [("row", 7)]) rfl sc__law_sets.nd (pi_listK (K := K) rfl (pv 0)) (blkOk_by (own := [("row", 7)]) (by kernel_rfl))
        (fun _ _ _ _ _ => (pg_name (i := 7) sc__law_sets.nd rfl (.inl rfl))) (fun _ _ _ _ _ => pts_nil)
        (fun _ _ _ _ _ => (pe_un un_neg pe_int))))
      (pss_cons (ps_set (i := 2) sc__law_sets.nd rfl (.inl rfl) pe_dnewT)
      (pss_cons (ps_for PassesOwn.never rfl (pi_range1 (by rfl) B.m_range (pa_cons (pe_callB (call_len_seqK (K := K) rfl) (by rfl) B.m_len PySem.boot_len (pa_cons (pv 0) pa_nil)) pa_nil)) (pg_name (i := 3) sc__law_sets.nd rfl (.inl rfl)) (pss_cons (ps_set (i := 4) sc__law_sets.nd rfl (.inl rfl) (pe_callTy (call_list_ofK (K := K) rfl) (by rfl) B.m_list (by decide +kernel) (pa_cons (pv 1) pa_nil)))
      (pss_cons (ps_for PassesOwn.never rfl (pi_range1 (by rfl) B.m_range (pa_cons (pe_callB (call_len_seqK (K := K) rfl) (by rfl) B.m_len PySem.boot_len (pa_cons (pv 0) pa_nil)) pa_nil)) (pg_name (i := 5) sc__law_sets.nd rfl (.inl rfl)) (pss_one (ps_if (PW.pt (pw_and (pt_cmpR op_lt (pe_ix (ix_listK (K := K) rfl) (pv 1) (pv 5) (fun _ _ => rfl)) pe_int (nomark _)) (pw_and1 (pt_cmpR op_eq (pe_callB (call_len_seqK (K := K) rfl) (by rfl) B.m_len PySem.boot_len (pa_cons (pe_lc (own := [("place", 8)]) rfl sc__law_sets.nd (pi_listK (K := K) rfl (pe_ix (ix_listK (K := K) rfl) (pv 0) (pv 5) (fun _ _ => rfl))) (blkOk_by (own := [("place", 8)]) (by kernel_rfl))
        (fun _ _ _ _ _ => (pg_name (i := 8) sc__law_sets.nd rfl (.inl rfl))) (fun _ _ _ _ _ => (pts_one (pt_cmpR op_lt (pe_ix (ix_listK (K := K) rfl) (pv 1) (pv 8) (fun _ _ => rfl)) pe_int (nomark _))))
        (fun _ _ _ _ _ => (pv 8))) pa_nil)) pe_int (nomark _))))) (pss_cons (ps_set (i := 6) sc__law_sets.nd rfl (.inl rfl) (pe_callTy (call_tuple_ofK (K := K) rfl) (by rfl) B.m_tuple (by decide +kernel) (pa_cons (pe_callB (cr_sortedSetK (w := w) rfl rfl) (by rfl) B.m_sorted (by decide +kernel) (pa_cons (pe_callTy (cr_setOf (K := K) (w := w) rfl rfl rfl) (by rfl) B.m_set (by decide +kernel) (pa_cons (pe_lc (own := [("place", 8)]) rfl sc__law_sets.nd (pi_listK (K := K) rfl (pe_ix (ix_listK (K := K) rfl) (pv 0) (pv 5) (fun _ _ => rfl))) (blkOk_by (own := [("place", 8)]) (by kernel_rfl))
        (fun _ _ _ _ _ => (pg_name (i := 8) sc__law_sets.nd rfl (.inl rfl))) (fun _ _ _ _ _ => pts_nil)
        (fun _ _ _ _ _ => (pe_callTy call_int1 (by rfl) B.m_int (by decide +kernel) (pa_cons (pe_ix (ix_listK (K := K) rfl) (pv 1) (pv 8) (fun _ _ => rfl)) pa_nil)))) pa_nil)) pa_nil)) pa_nil)))
      (C8.pss_cut (ps_if (pt_cmp (pc_dnotin (hu_of hr) (pv 6) (pv 2)) (by rfl)) (pss_one (ps_dput (hu_of hr) (pv 2) (pv 6) (pe_callB call_len_dT (by rfl) B.m_len PySem.boot_len (pa_cons (pv 2) pa_nil)) rfl)) pss_nil)
      (pss_one (ps_asg (pe_dget (hu_of hr) (pv 2) (pv 6) (fun _ _ => rfl)) (pg_sub (pv 1) (pv 5) set_list))))) pss_nil)))
      (pss_one (ps_if (pt_cmpR (op_eqDK (K := K) rfl hr.units) (pv 1) (pv 4) (nomark _)) (pss_one (ps_ret (pv 1))) pss_nil)))))
      (pss_one (ps_ret (pv 1)))))), ?_⟩
    walk_at "begin"
    walk_at "go"
    refine lcT_list topH (K := K) (s0 := ()) trivial (xs := as.map V.ref) ha (fun i C acc => acc = (List.replicate i (-1 : Int)).map V.int) rfl ?_ ?_
    · rintro D1 i x _ C acc _ hD hS hx rfl
      have hi := (List.getElem?_eq_some_iff.mp hx).1
      rw [List.length_map] at hi
      walk_at "begin"
      walk_at "go"
      refine ⟨rfl, ?_⟩
      walk_at "go"
      refine lcN_put topH (s := ()) trivial hD hS ?_ ?_
      · rw [List.length_map, List.length_replicate]; omega
      · show _ = List.map V.int (List.replicate (i + 1) (-1 : Int))
        rw [List.replicate_succ', List.map_append]; rfl
    · rintro D1 _ C acc _ hB1 hD1 hS1 rfl
      rw [List.length_map, hla]
      have hSG : Same H (upd C D1 (.lst ((List.replicate n (-1 : Int)).map V.int))) := hS1.trans (same_new hD1)
      have hd1 : upd C D1 (.lst ((List.replicate n (-1 : Int)).map V.int)) D1 = some (.lst ((List.replicate n (-1 : Int)).map V.int)) := upd_same
      dsimp only at *
      generalize upd C D1 (.lst ((List.replicate n (-1 : Int)).map V.int)) = G at hSG hd1 ⊢
      clear hS1 hD1 C
      walk_at "go"
      intro Dt nDt
      have hHt : H Dt = none := hSG.free nDt
      have hH1 : H D1 = none := hB1
      have hne : D1 ≠ Dt := ne_of_none hd1 nDt
      have hSG2 := hSG.trans (same_new (o := .dT []) nDt)
      have hd2 := same_new (o := .dT []) nDt _ _ hd1
      have hdt : upd G Dt (.dT []) Dt = some (.dT (tab [])) := upd_same
      generalize upd G Dt (.dT []) = G2 at hSG2 hd2 hdt ⊢
      have ha2 := hSG2 _ _ ha
      walk_at "go"
      rw [List.length_map, hla]
      have init := Sn.init rs
      rw [hlr] at init
      refine r_forR (n := (n : Int)) (by omega) (by omega) (fun i σ X => ∃ (N : List Int) (ks : List (List Int)) (y3 y4 y5 y6 : Option V), σ = [some (.ref a), some (.ref D1), some (.ref Dt), y3, y4, y5, y6, none, none] ∧ Same H X ∧ X D1 = some (.lst (N.map V.int)) ∧ X Dt = some (.dT (tab ks)) ∧ Sn rs N ks ∧ i ≤ cnt N ∧ ks.length ≤ cnt N) ?_ ?_ ?_
      · exact ⟨_, [], _, _, _, _, rfl, hSG2, hd2, hdt, init, Nat.zero_le _, Nat.zero_le _⟩
      · rintro i σ X hi ⟨N, ks, y3, y4, y5, y6, rfl, x1, x2, x3, S, hcnt, hkc⟩
        walk_at "go"
        intro Db nDb
        have hHb : H Db = none := x1.free nDb
        have hne1 : D1 ≠ Db := ne_of_none x2 nDb
        have hne2 : Dt ≠ Db := ne_of_none x3 nDb
        have z1 := x1.trans (same_new (o := .lst (N.map V.int)) nDb)
        have z2 := same_new (o := .lst (N.map V.int)) nDb _ _ x2
        have z3 := same_new (o := .lst (N.map V.int)) nDb _ _ x3
        have z4 : upd X Db (.lst (N.map V.int)) Db = some (.lst (N.map V.int)) := upd_same
        generalize upd X Db (.lst (N.map V.int)) = X2 at z1 z2 z3 z4 ⊢
        have ha3 := z1 _ _ ha
        walk_at "go"
        rw [List.length_map, hla]
        refine r_forR (n := (n : Int)) (by omega) (by omega) (fun j σ Y => ∃ (N2 : List Int) (ks2 : List (List Int)) (y5 y6 : Option V), σ = [some (.ref a), some (.ref D1), some (.ref Dt), some (.int i), some (.ref Db), y5, y6, none, none] ∧ Same H Y ∧ Y D1 = some (.lst (N2.map V.int)) ∧ Y Dt = some (.dT (tab ks2)) ∧ Y Db = some (.lst (N.map V.int)) ∧ Sn rs N2 ks2 ∧ ks2.length ≤ cnt N2 ∧
          ((N2 = N ∧ ∀ (b : Nat) r, b < j → rs[b]? = some r → (∃ z, N2[b]? = some z ∧ 0 ≤ z) ∨ ∃ e ∈ r, ∃ y, N2[e.toNat]? = some y ∧ y < 0) ∨ cnt N < cnt N2)) ?_ ?_ ?_
        · exact ⟨N, ks, _, _, rfl, z1, z2, z3, z4, S, hkc, .inl ⟨rfl, fun b r hb => absurd hb (Nat.not_lt_zero _)⟩⟩
        · rintro j σ Y hj ⟨N2, ks2, y5, y6, rfl, w1, w2, w3, w4, S2, hk2, hpr⟩
          rw [Int.toNat_natCast] at hj
          have hN2l : N2.length = n := by rw [S2.len, hlr]
          obtain ⟨r, hr1⟩ : ∃ r, rs[j]? = some r := ⟨_, List.getElem?_eq_getElem (by omega)⟩
          have hgd := hwf.2 r (List.mem_of_getElem? hr1)
          obtain ⟨b, _, hb2, hb3⟩ := Ro.get (f := V.int) (hrw.mono w1) hr1
          have hatb : atI (as.map V.ref) (j : Int) = some (.ref b) := at_i (by omega) (by rw [Int.toNat_natCast]; exact hb2)
          have hzj := at_nat (N := N2) (a := j) (by omega)
          have hatz : atI (N2.map V.int) (j : Int) = some (.int (nat_ N2 j)) := at_i (by omega) (by rw [Int.toNat_natCast, List.getElem?_map, hzj]; rfl)
          have mem_at : ∀ e ∈ r, N2[e.toNat]? = some (nat_ N2 e.toNat) ∧ atI (N2.map V.int) e = some (.int (nat_ N2 e.toNat)) := fun e he => by
            have h1 := hgd.2.2 e he
            have h2 := at_nat (N := N2) (a := e.toNat) (by omega)
            exact ⟨h2, at_i h1.1 (by rw [List.getElem?_map, h2]; rfl)⟩
          have haY := w1 _ _ ha
          have hgl := hgd.1
          walk_at "go"
          refine r_ite (fun hneg => ?_) (fun hpos => ?_)
          · have hm1 : nat_ N2 j = -1 := by
              rcases S2.rng _ (List.mem_of_getElem? hzj) with e | e
              · exact e
              · omega
            walk_at "go"
            refine lcT_list topH (K := K) (s0 := ()) trivial (xs := r.map V.int) hb3 (fun m C acc => acc = ((r.take m).filter fun e => decide (nat_ N2 e.toNat < 0)).map V.int) rfl ?_ ?_
            · rintro D2 m x _ C2 acc _ hD2 hS2 hy rfl
              obtain ⟨e, rfl, he⟩ := ints_at hy
              have hm := (List.getElem?_eq_some_iff.mp he).1
              obtain ⟨_, hate⟩ := mem_at e (List.mem_of_getElem? he)
              have hl2 : ((r.take m).filter fun e => decide (nat_ N2 e.toNat < 0)).length ≤ 1000 := Nat.le_trans (List.length_filter_le _ _) (by rw [List.length_take]; omega)
              have hd12 := hS2 _ _ w2
              walk_at "begin"
              walk_at "go"
              refine ⟨rfl, ?_⟩
              walk_at "go"
              refine r_ite (fun hlt => ?_) (fun hlt => ?_)
              · walk_at "go"
                refine lcN_put topH (s := ()) trivial hD2 hS2 ?_ ?_
                · rw [List.length_map]; omega
                · rw [fl_put he (decide_eq_true hlt), List.map_append]; rfl
              · refine lcN_skip (s := ()) trivial hD2 hS2 ?_
                rw [fl_skip he (decide_eq_false hlt)]
            · rintro D2 _ C2 acc _ hB2 hD2 hS2 rfl
              rw [List.length_map, List.take_length]
              have hS3 := hS2.trans (same_new (o := .lst ((r.filter fun e => decide (nat_ N2 e.toNat < 0)).map V.int)) hD2)
              have hempty : (r.filter fun e => decide (nat_ N2 e.toNat < 0)).length = 0 ↔ ∀ e ∈ r, 0 ≤ nat_ N2 e.toNat := by
                rw [List.length_eq_zero_iff, List.filter_eq_nil_iff]
                exact ⟨fun h e he => by have := h e he; rw [decide_eq_true_eq] at this; omega, fun h e he => by rw [decide_eq_true_eq]; have := h e he; omega⟩
              have hd2' : upd C2 D2 (.lst ((r.filter fun e => decide (nat_ N2 e.toNat < 0)).map V.int)) D2 = some (.lst ((r.filter fun e => decide (nat_ N2 e.toNat < 0)).map V.int)) := upd_same
              generalize (r.filter fun e => decide (nat_ N2 e.toNat < 0)) = fl at hS3 hempty hd2' ⊢
              generalize upd C2 D2 (.lst (fl.map V.int)) = Y3 at hS3 hd2' ⊢
              clear hB2 hD2 hS2 C2
              have v1 := w1.trans hS3
              have v2 := hS3 _ _ w2
              have v3 := hS3 _ _ w3
              have v4 := hS3 _ _ w4
              have vb := hS3 _ _ hb3
              have va := v1 _ _ ha
              walk_at "go"
              rw [List.length_map]
              refine r_ite (fun hz => ?_) (fun hz => ?_)
              · have hall := hempty.mp (by have := V.int.inj hz; omega)
                walk_at "go"
                refine lcT_list topH (K := K) (s0 := ()) trivial (xs := r.map V.int) vb (fun m C acc => acc = ((r.take m).map fun e => nat_ N2 e.toNat).map V.int) rfl ?_ ?_
                · rintro D3 m x _ C2 acc _ hD2 hS2 hy rfl
                  obtain ⟨e, rfl, he⟩ := ints_at hy
                  have hm := (List.getElem?_eq_some_iff.mp he).1
                  obtain ⟨_, hate⟩ := mem_at e (List.mem_of_getElem? he)
                  have hd12 := hS2 _ _ v2
                  walk_at "begin"
                  walk_at "go"
                  refine ⟨rfl, ?_⟩
                  walk_at "go"
                  refine lcN_put topH (s := ()) trivial hD2 hS2 ?_ ?_
                  · rw [List.length_map, List.length_map, List.length_take]; omega
                  · rw [mp_put he, List.map_append]; rfl
                · rintro D3 _ C2 acc _ hB2 hD2 hS2 rfl
                  rw [List.length_map, List.take_length]
                  walk_at "go"
                  refine r_setOf upd_same (by rw [List.length_map]; omega) fun cc p2 hcc np2 => ?_
                  rw [List.length_map] at hcc
                  walk_at "go"
                  refine r_sortedSet upd_same (by omega) fun key p3 hpw hmem hnl np3 => ?_
                  walk_at "go"
                  intro p4 np4
                  have hS5 : Same Y3 (upd (upd (upd (upd C2 D3 (.lst ((r.map fun e => nat_ N2 e.toNat).map V.int))) p2 (SetO w p2 (fun j => decide (j ∈ (r.map fun e => nat_ N2 e.toNat))) cc)) p3 (.lst (key.map V.int))) p4 (.tup (key.map V.int))) := (((hS2.trans (same_new hD2)).trans (same_new np2)).trans (same_new np3)).trans (same_new np4)
                  have hp4 : (upd (upd (upd (upd C2 D3 (.lst ((r.map fun e => nat_ N2 e.toNat).map V.int))) p2 (SetO w p2 (fun j => decide (j ∈ (r.map fun e => nat_ N2 e.toNat))) cc)) p3 (.lst (key.map V.int))) p4 (.tup (key.map V.int))) p4 = some (.tup (key.map V.int)) := upd_same
                  have hmem2 : ∀ y, y ∈ key ↔ ∃ e ∈ r, N2[e.toNat]? = some y := fun y => by
                    rw [hmem, decide_eq_true_eq, List.mem_map]
                    constructor
                    · rintro ⟨e, he, hy⟩
                      exact ⟨e, he, by rw [(mem_at e he).1, hy]⟩
                    · rintro ⟨e, he, hy⟩
                      exact ⟨e, he, nat_at hy⟩
                  generalize upd (upd (upd (upd C2 D3 (.lst ((r.map fun e => nat_ N2 e.toNat).map V.int))) p2 (SetO w p2 (fun j => decide (j ∈ (r.map fun e => nat_ N2 e.toNat))) cc)) p3 (.lst (key.map V.int))) p4 (.tup (key.map V.int)) = Y5 at hS5 hp4 ⊢
                  rw [← tkey_kV] at hp4
                  clear hB2 np2 np3 np4 hD2 hS2 hnl hcc hmem C2
                  have u1 := v1.trans hS5
                  have u2 := hS5 _ _ v2
                  have u3 := hS5 _ _ v3
                  have u4 := hS5 _ _ v4
                  have hmm : ∀ e ∈ r, ∃ y, N2[e.toNat]? = some y ∧ 0 ≤ y := fun e he => ⟨_, (mem_at e he).1, hall e he⟩
                  have hp4D : p4 ≠ D1 ∧ p4 ≠ Dt := by
                    constructor
                    · intro z; rw [z, u2] at hp4; cases hp4
                    · intro z; rw [z, u3] at hp4; cases hp4
                  walk_at "go"
                  refine ⟨fun σ HM => ∃ (ks3 : List (List Int)) (jj : Nat), σ = [some (.ref a), some (.ref D1), some (.ref Dt), some (.int i), some (.ref Db), some (.int j), some (.ref p4), none, none] ∧ Same H HM ∧ HM D1 = some (.lst (N2.map V.int)) ∧ HM Dt = some (.dT (tab ks3)) ∧ HM Db = some (.lst (N.map V.int)) ∧
                    HM p4 = some (.tup ((tkey key).map kV)) ∧ ks3[jj]? = some key ∧ ks3.Nodup ∧ (ks3 = ks2 ∨ (ks3 = ks2 ++ [key] ∧ key ∉ ks2)), ?_, ?_⟩
                  · walk_at "go"
                    by_cases hin2 : key ∈ ks2
                    · obtain ⟨jj, hjj⟩ := List.mem_iff_getElem?.mp hin2
                      refine ⟨Dt, _, rfl, DGet.t u3 hp4, ?_⟩
                      rw [tab_get S2.nd hjj]
                      walk_at "go"
                      refine r_iteB (fun z => Bool.noConfusion z) (fun _ => ?_)
                      walk_at "go"
                      exact ⟨ks2, jj, rfl, u1, u2, u3, u4, hp4, hjj, S2.nd, .inl rfl⟩
                    · refine ⟨Dt, _, rfl, DGet.t u3 hp4, ?_⟩
                      rw [tab_none hin2]
                      walk_at "go"
                      refine r_iteB (fun _ => ?_) (fun z => absurd z (by decide))
                      have hkl : ks2.length ≤ 1000 := by have := cnt_le N2; omega
                      walk_at "go"
                      refine ⟨Dt, _, rfl, DPut.t u3 hp4 (small (by rw [tab_len]; omega)), ?_⟩
                      rw [tab_len, tab_put hin2]
                      walk_at "go"
                      refine ⟨ks2 ++ [key], ks2.length, rfl, fun x y e => by rw [upd_ne (ne_of_none e hHt)]; exact u1 _ _ e, by rw [upd_ne hne]; exact u2, upd_same, by rw [upd_ne hne2.symm]; exact u4, by rw [upd_ne hp4D.2]; exact hp4, by rw [List.getElem?_append_right (Nat.le_refl _), Nat.sub_self]; rfl, ?_, .inr ⟨rfl, hin2⟩⟩
                      rw [List.nodup_append]
                      exact ⟨S2.nd, by simp, fun x hx y hy e => hin2 (by rw [← List.mem_singleton.mp hy, ← e]; exact hx)⟩
                  · rintro σ HM ⟨ks3, jj, rfl, t1, t2, t3, t4, t5, hjj, hnd3, hks3⟩
                    have hix : ixN (N2.map V.int).length (j : Int) = some j := ix_i (by omega) (by rw [List.length_map]; omega)
                    have S3 := S2.step hr1 (by rw [hzj, hm1]) hmm hpw hmem2 hjj hks3
                    have hc3 := cnt_set (N := N2) (z := (jj : Int)) (by omega) (show N2[j]? = some (-1) by rw [hzj, hm1])
                    walk_at "go"
                    refine ⟨Dt, _, rfl, (tab_get hnd3 hjj) ▸ DGet.t t3 t5, ?_⟩
                    walk_at "go"
                    rw [setMap]
                    refine ⟨N2.set j jj, ks3, _, _, rfl, fun x y e => by rw [upd_ne (ne_of_none e hH1)]; exact t1 _ _ e, upd_same, by rw [upd_ne hne.symm]; exact t3, by rw [upd_ne hne1.symm]; exact t4, S3, ?_, .inr ?_⟩
                    · rw [hc3]
                      rcases hks3 with q | ⟨q, _⟩
                      · rw [q]; omega
                      · rw [q, List.length_append, List.length_singleton]; omega
                    rw [hc3]
                    rcases hpr with ⟨rfl, _⟩ | hp <;> omega
              · have hnall : ¬ ∀ e ∈ r, 0 ≤ nat_ N2 e.toNat := fun h => hz (by rw [hempty.mpr h]; rfl)
                walk_at "go"
                refine ⟨N2, ks2, _, _, rfl, v1, v2, v3, v4, S2, hk2, ?_⟩
                rcases hpr with ⟨rfl, hp⟩ | hp
                · refine .inl ⟨rfl, fun b s hb hs => ?_⟩
                  by_cases e : b = j
                  · subst e
                    rw [hr1] at hs; cases hs
                    refine .inr (Classical.byContradiction fun hno => hnall fun e he => ?_)
                    refine Classical.byContradiction fun hlt => hno ⟨e, he, _, (mem_at e he).1, by omega⟩
                  · exact hp b s (by omega) hs
                · exact .inr hp
          · walk_at "go"
            refine ⟨N2, ks2, _, _, rfl, w1, w2, w3, w4, S2, hk2, ?_⟩
            rcases hpr with ⟨rfl, hp⟩ | hp
            · refine .inl ⟨rfl, fun b s hb hs => ?_⟩
              by_cases e : b = j
              · subst e; exact .inl ⟨_, hzj, by omega⟩
              · exact hp b s (by omega) hs
            · exact .inr hp
        · rintro σ Y ⟨N2, ks2, y5, y6, rfl, w1, w2, w3, w4, S2, hk2, hpr⟩
          rw [Int.toNat_natCast] at hpr
          walk_at "go"
          refine r_eqI w2 w4 ?_
          walk_at "go"
          refine r_ite (fun he => ?_) (fun hne => ?_)
          · walk_at "go"
            have hst : ∀ (b : Nat) r, rs[b]? = some r → (∃ z, N2[b]? = some z ∧ 0 ≤ z) ∨ ∃ e ∈ r, ∃ y, N2[e.toNat]? = some y ∧ y < 0 := fun b r hb => by
              rcases hpr with ⟨_, hp⟩ | hp
              · exact hp b r (by rw [← hlr]; exact (List.getElem?_eq_some_iff.mp hb).1) hb
              · rw [he] at hp; omega
            refine q _ _ N2 w1 w2 (by rw [S2.len, hlr]) (fun z hz => by rcases S2.rng z hz with e | e <;> omega) ⟨S2.acyc, S2.stuck hin hst⟩ S2.ext
          · walk_at "go"
            refine ⟨N2, ks2, _, _, _, _, rfl, w1, w2, w3, S2, ?_, hk2⟩
            rcases hpr with ⟨e, _⟩ | hp
            · exact absurd e hne
            · omega
      · rintro σ X ⟨N, ks, y3, y4, y5, y6, rfl, x1, x2, x3, S, hcnt, hkc⟩
        rw [Int.toNat_natCast] at hcnt
        walk_at "go"
        have hall := cnt_all (N := N) (by rw [S.len, hlr]; exact hcnt)
        exact q _ _ N x1 x2 (by rw [S.len, hlr]) (fun z hz => by have := hall z hz; omega) ⟨S.acyc, fun _ => hall⟩ S.ext
end
end K39
namespace K39
open PySem PySem.Spec PyProof.Rows L2 Lw


local macro_rules | `(tactic| walk_at "look") => `(tactic| first
  | assumption
  | with_reducible exact upd_same
  | with_reducible exact rg_st
  | with_reducible exact rg_g (by assumption)
  | (with_reducible refine upd_old (by assumption) ?_; walk_at "look")
  | (with_reducible refine rg_get (by assumption) ?_; walk_at "look")
  | (with_reducible refine Same.get (by assumption) ?_; walk_at "look"))
local macro_rules | `(tactic| walk_at "cond") => `(tactic| first
  | (show _ ≠ _; omega) | exact cdivN (by omega) (by omega) | exact cmul_mod (by decide) (by decide) | exact cmulR (by omega) (by omega) | exact cmulL (by omega) (by omega) | exact cpow (by omega) (by omega) (by omega) (by omega) | (show (0:Int) ≤ _; omega))
local macro_rules | `(tactic| walk_at "at") => `(tactic| first | assumption | with_unfolding_all rfl)
local macro_rules | `(tactic| walk_at "sz") => `(tactic| first | assumption | (refine small ?_; omega) | (refine small ?_; simp only [List.length_map, List.length_append, List.length_cons, List.length_nil]; omega))
local macro_rules | `(tactic| walk_at "len") => `(tactic| first | exact size_nil | exact Nat.le_of_lt (small (by simp only [List.length_cons, List.length_nil, List.length_map]; omega)))
local macro_rules | `(tactic| walk_at "newD") => `(tactic| (refine ⟨by walk_at "len", fun p np => ?_⟩; obtain ⟨e, o', hD', n', ne'⟩ := newTD_eq (topRg _ _) (by assumption) (by assumption) np (.lst _); rw [e]; clear e))
local macro_rules | `(tactic| walk_at "new") => `(tactic| (refine ⟨by walk_at "len", fun p np => ?_⟩; obtain ⟨e, o', n'⟩ := newT_eq (topRg _ _) (by assumption) np (.lst _); rw [e]; clear e))
local macro_rules | `(tactic| walk_at "st") => `(tactic| first
  | with_reducible refine r_seq ?_
  | with_reducible refine r_var rfl ?_
  | with_reducible refine r_c ?_
  | with_reducible refine r_asg ?_
  | (with_reducible refine r_name ?_; dsimp only [List.set_cons_zero, List.set_cons_succ])
  | with_reducible refine r_sub ?_
  | with_reducible refine r_op ?_
  | with_reducible refine r_i0 ?_
  | (with_reducible refine' r_i ?k1 ?_; (case k1 => walk_at "cond"))
  | with_reducible refine r_cons ?_
  | with_reducible refine r_nil ?_
  | with_reducible refine r_cb ?_
  | with_reducible refine r_call ?_
  | with_reducible refine r_ifs ?_
  | with_reducible refine r_test ?_
  | with_reducible refine r_tB ?_
  | with_reducible refine r_bl ?_
  | with_reducible refine r_ret ?_
  | with_reducible refine r_drop ?_
  | with_reducible refine r_next ?_
  | (with_reducible refine' r_ixL ?k1 ?k2 ?_; (case k1 => walk_at "look"); (case k2 => walk_at "at"))
  | (with_reducible refine' r_setL ?k1 ?k2 ?_; (case k1 => walk_at "look"); (case k2 => walk_at "at"))
  | (with_reducible refine' r_tup (SqT.of ?k1) ?k2 ?_; (case k1 => walk_at "look"); (case k2 => rfl))
  | with_reducible refine r_gcons ?_
  | with_reducible refine r_gnil ?_
  | with_reducible refine r_aug rfl ?_
  | with_reducible refine r_augS ?_
  | with_reducible refine r_ipI ?_
  | with_reducible refine r_un ?_
  | with_reducible refine r_u ?_
  | with_reducible refine r_eq rfl ?_
  | with_reducible refine r_ne rfl ?_
  | with_reducible refine r_chain ?_
  | with_reducible refine iteF ?_
  | with_reducible refine r_not ?_
  | with_reducible refine r_and ?_
  | with_reducible refine r_or ?_
  | with_reducible refine r_andV ?_
  | with_reducible refine r_orV ?_
  | with_reducible refine r_notV ?_
  | with_reducible refine r_lst ?_
  | with_reducible refine r_bm ?_
  | with_reducible refine r_bm0 ?_
  | (with_reducible refine' And.intro (r_ty ?k1) ?_; (case k1 => walk_at "look"))
  | (with_reducible refine' r_append ?k1 ?k2 ?_; (case k1 => walk_at "look"); (case k2 => walk_at "sz"))
  | (with_reducible refine' r_lenK ?k1 ?_; (case k1 => walk_at "look"))
  | (with_reducible refine' r_listOf ?k1 ?_; (case k1 => walk_at "look"))
  | (with_reducible refine' r_sortedI ?k1 ?_; (case k1 => walk_at "look"))
  | (with_reducible refine' r_sum ?k1 ?_; (case k1 => walk_at "look"))
  | with_reducible refine r_int ?_
  | (with_reducible refine' r_draw (by assumption) ?k1 ?k2 ?_; (case k1 => omega); (case k2 => omega); intro R' n' o' h' h'')
  | with_reducible refine iteT ?_
  | with_reducible refine r_revL ?_
  | with_reducible refine r_lc ?_
  | with_reducible refine r_yes ?_
  | with_reducible refine r_sl ?_
  | with_reducible refine r_noPart ?_
  | with_reducible refine r_part ?_
  | with_reducible refine r_lc2 ?_
  | with_reducible refine r_callN ?_
  | with_reducible refine r_callD ?_
  | with_reducible refine r_tupE ?_
  | with_reducible refine r_rng2 ?_
  | with_reducible refine r_i1 ?_
  | (with_reducible refine' r_slL ?k1 ?_; (case k1 => walk_at "look"))
  | with_reducible refine r_for ?_
  | with_reducible refine r_iList ?_
  | with_reducible refine r_rng1 ?_
  | with_reducible refine r_enum ?_
  | (with_reducible show Ends.nx _ _ _; dsimp only)
  | (with_reducible show Ends.rt _ _ _; dsimp only)
  | (with_reducible show Ends.ct _ _ _; dsimp only)
  | (with_reducible show Ends.bk _ _ _; dsimp only))
local macro_rules | `(tactic| walk_at "go") => `(tactic| repeat (walk_at "st"))
local macro_rules | `(tactic| walk_at "begin") => `(tactic| dsimp only [cxOf, wipe, L2.start, List.map, List.length_cons, List.length_nil, Nat.reduceAdd, Nat.reduceSub, List.replicate, List.cons_append, List.nil_append])


open Lm
local macro_rules | `(tactic| walk_at "st") => `(tactic| first
  | (with_reducible refine' r_isi (r := true) (.base (.lst ?k1)) ?k2 ?_; (case k1 => walk_at "look"); (case k2 => decide +kernel))
  | (with_reducible refine' r_isi (r := true) (.base (.int _)) ?k2 ?_; (case k2 => decide +kernel))
  | (with_reducible refine' r_isi (r := true) (.base (.bl _)) ?k2 ?_; (case k2 => decide +kernel))
  | (with_reducible refine' r_isi (r := false) (.base (.int _)) ?k2 ?_; (case k2 => decide +kernel)))
local macro_rules | `(tactic| walk_at "bo") => `(tactic| repeat (first
  | walk_at "st"
  | refine r_iteB (fun _ => ?_) (fun h => absurd h (by decide))
  | refine r_iteB (fun h => absurd h (by decide)) (fun _ => ?_)
  | refine r_ite (fun h => absurd h (by first | omega | (simp only [List.length_map]; omega))) (fun _ => ?_)))
def spIsDr : Sp := fun vs H Q _ => ∃ (a : Addr) (as : List Addr) (rs : List (List Int)) (n : Nat) (most : Int), vs = [.ref a, .int most] ∧ H a = some (.lst (as.map V.ref)) ∧ Rw H as rs ∧ Wf n 1000 rs ∧ (∀ r ∈ rs, r.Pairwise (· < ·)) ∧ 1 ≤ n ∧ (n : Int) ≤ most ∧ Q (.bl true) H
section
variable {P : Program} {w : World} {K : PySem.W.Frag} {mg : Str → Option Value} {base : Heap}
theorem ok_isdr {f : Addr} {fd : FuncData} {k : Nat} (B : Blt mg) (D : Dn K mg "_law_is_drawing" s__law_is_drawing ["drawing", "most"] f fd) : FnOk P w K mg base CX0 (k + 1) f fd ["drawing", "most"] spIsDr := by
  refine D.F.ok sc__law_is_drawing (fun vs H Q E h => ?_) (fun cdv A outer s H vs Q E hr h => ?_)
  · obtain ⟨a, as, rs, n, most, rfl, _⟩ := h
    rfl
  · obtain ⟨a, as, rs, n, most, rfl, ha, hrw, hwf, hasc, hn1, hnm, q⟩ := h
    have hlr : rs.length = n := hwf.1
    have hla : as.length = n := by rw [hrw.1]; exact hwf.1
    refine ⟨_, (C8.pss_cut (ps_if (PW.pt (pw_or (pt_not (pt_val (pe_callB (call_isiK' (K := K) rfl) (by rfl) B.m_isinstance (by decide +kernel) (pa_cons (pv 0) (pa_cons (pe_bltn (v := .ty "list") (by rfl) B.m_list (by decide +kernel) rfl) pa_nil))))) (pw_or (pt_cmpR op_lt (pe_callB (call_len_seqK (K := K) rfl) (by rfl) B.m_len PySem.boot_len (pa_cons (pv 0) pa_nil)) pe_int (nomark _)) (pw_or1 (pt_cmpR op_gt (pe_callB (call_len_seqK (K := K) rfl) (by rfl) B.m_len PySem.boot_len (pa_cons (pv 0) pa_nil)) (pv 1) (nomark _)))))) (pss_one (ps_ret pe_bl)) pss_nil)
      (pss_cons (ps_for PassesOwn.never rfl (pi_listK (K := K) rfl (pv 0)) (pg_name (i := 2) sc__law_is_drawing.nd rfl (.inl rfl)) (pss_cons (ps_if (pt_not (pt_val (pe_callB (call_isiK' (K := K) rfl) (by rfl) B.m_isinstance (by decide +kernel) (pa_cons (pv 2) (pa_cons (pe_bltn (v := .ty "list") (by rfl) B.m_list (by decide +kernel) rfl) pa_nil))))) (pss_one (ps_ret pe_bl)) pss_nil)
      (pss_cons (ps_set (i := 3) sc__law_is_drawing.nd rfl (.inl rfl) (pe_un un_neg pe_int))
      (pss_one (ps_for PassesOwn.never rfl (pi_listK (K := K) rfl (pv 2)) (pg_name (i := 4) sc__law_is_drawing.nd rfl (.inl rfl)) (C8.pss_cut (ps_if (PW.pt (pw_or (pt_not (pt_val (pe_callB (call_isiK' (K := K) rfl) (by rfl) B.m_isinstance (by decide +kernel) (pa_cons (pv 4) (pa_cons (pe_bltn (v := .ty "int") (by rfl) B.m_int (by decide +kernel) rfl) pa_nil))))) (pw_or (pt_val (pe_callB (call_isiK' (K := K) rfl) (by rfl) B.m_isinstance (by decide +kernel) (pa_cons (pv 4) (pa_cons (pe_bltn (v := .ty "bool") (by rfl) B.m_bool (by decide +kernel) rfl) pa_nil)))) (pw_or (pt_cmpR op_le (pv 4) (pv 3) (nomark _)) (pw_or1 (pt_cmpR op_ge (pv 4) (pe_callB (call_len_seqK (K := K) rfl) (by rfl) B.m_len PySem.boot_len (pa_cons (pv 0) pa_nil)) (nomark _))))))) (pss_one (ps_ret pe_bl)) pss_nil)
      (pss_one (ps_set (i := 3) sc__law_is_drawing.nd rfl (.inl rfl) (pv 4)))))))))
      (pss_one (ps_ret pe_bl)))), ?_⟩
    walk_at "begin"
    walk_at "go"
    refine ⟨fun σ HM => σ = [some (.ref a), some (.int most), none, none, none] ∧ HM = H, ?_, ?_⟩
    · walk_at "bo"
      exact ⟨rfl, rfl⟩
    · rintro σ HM ⟨rfl, rfl⟩
      walk_at "go"
      refine r_forL (xs := as.map V.ref) ha (fun i σ X => ∃ (y2 y3 y4 : Option V), σ = [some (.ref a), some (.int most), y2, y3, y4] ∧ X = HM) ⟨_, _, _, rfl, rfl⟩ ?_ ?_ ?_
      · rintro i σ X _ ⟨y2, y3, y4, rfl, rfl⟩
        exact ha
      · rintro i x σ X hx ⟨y2, y3, y4, rfl, rfl⟩
        obtain ⟨b, r, rfl, _, hr1, hb⟩ := hrw.at hx
        have hgd := hwf.2 r (List.mem_of_getElem? hr1)
        have has := hasc r (List.mem_of_getElem? hr1)
        walk_at "bo"
        refine r_forL (xs := r.map V.int) hb (fun j σ X2 => ∃ (la : Int) (y4 : Option V), σ = [some (.ref a), some (.int most), some (.ref b), some (.int la), y4] ∧ X2 = X ∧ -1 ≤ la ∧ ∀ e ∈ r.drop j, la < e) ⟨_, _, rfl, rfl, Int.le_refl _, fun e he => ?_⟩ ?_ ?_ ?_
        · have := (hgd.2.2 e (List.mem_of_mem_drop he)).1
          show (-1 : Int) < e
          omega
        · rintro j σ X2 _ ⟨la, y4, rfl, rfl, _, _⟩
          exact hb
        · rintro j x σ X2 hx ⟨la, y4, rfl, rfl, hl1, hl2⟩
          obtain ⟨e, rfl, he⟩ := ints_at hx
          have hdr : r.drop j = e :: r.drop (j + 1) := by
            obtain ⟨h1, h2⟩ := List.getElem?_eq_some_iff.mp he
            rw [← h2]; exact List.drop_eq_getElem_cons h1
          have hle := hl2 e (by rw [hdr]; exact List.mem_cons_self)
          have hge := hgd.2.2 e (List.mem_of_getElem? he)
          walk_at "go"
          refine ⟨fun σ HM => σ = [some (.ref a), some (.int most), some (.ref b), some (.int la), some (.int e)] ∧ HM = X2, ?_, ?_⟩
          · walk_at "bo"
            exact ⟨rfl, rfl⟩
          · rintro σ X3 ⟨rfl, rfl⟩
            walk_at "go"
            refine ⟨e, _, rfl, rfl, by omega, fun z hz => ?_⟩
            have hp : (r.drop j).Pairwise (· < ·) := has.sublist (List.drop_sublist j r)
            rw [hdr, List.pairwise_cons] at hp
            exact hp.1 z hz
        · rintro σ X2 ⟨la, y4, rfl, rfl, _, _⟩
          exact ⟨_, _, _, rfl, rfl⟩
      · rintro σ X ⟨y2, y3, y4, rfl, rfl⟩
        walk_at "go"
        exact q
end
end K39
namespace K39
open PySem PySem.Spec PyProof.Rows L2 Lw


local macro_rules | `(tactic| walk_at "look") => `(tactic| first
  | assumption
  | with_reducible exact upd_same
  | with_reducible exact rg_st
  | with_reducible exact rg_g (by assumption)
  | (with_reducible refine upd_old (by assumption) ?_; walk_at "look")
  | (with_reducible refine rg_get (by assumption) ?_; walk_at "look")
  | (with_reducible refine Same.get (by assumption) ?_; walk_at "look"))
local macro_rules | `(tactic| walk_at "cond") => `(tactic| first
  | (show _ ≠ _; omega) | exact cdivN (by omega) (by omega) | exact cmul_mod (by decide) (by decide) | exact cmulR (by omega) (by omega) | exact cmulL (by omega) (by omega) | exact cpow (by omega) (by omega) (by omega) (by omega) | (show (0:Int) ≤ _; omega))
local macro_rules | `(tactic| walk_at "at") => `(tactic| first | assumption | with_unfolding_all rfl)
local macro_rules | `(tactic| walk_at "sz") => `(tactic| first | assumption | (refine small ?_; omega) | (refine small ?_; simp only [List.length_map, List.length_append, List.length_cons, List.length_nil]; omega))
local macro_rules | `(tactic| walk_at "len") => `(tactic| first | exact size_nil | exact Nat.le_of_lt (small (by simp only [List.length_cons, List.length_nil, List.length_map]; omega)))
local macro_rules | `(tactic| walk_at "newD") => `(tactic| (refine ⟨by walk_at "len", fun p np => ?_⟩; obtain ⟨e, o', hD', n', ne'⟩ := newTD_eq (topRg _ _) (by assumption) (by assumption) np (.lst _); rw [e]; clear e))
local macro_rules | `(tactic| walk_at "new") => `(tactic| (refine ⟨by walk_at "len", fun p np => ?_⟩; obtain ⟨e, o', n'⟩ := newT_eq (topRg _ _) (by assumption) np (.lst _); rw [e]; clear e))
local macro_rules | `(tactic| walk_at "st") => `(tactic| first
  | with_reducible refine r_seq ?_
  | with_reducible refine r_var rfl ?_
  | with_reducible refine r_c ?_
  | with_reducible refine r_asg ?_
  | (with_reducible refine r_name ?_; dsimp only [List.set_cons_zero, List.set_cons_succ])
  | with_reducible refine r_sub ?_
  | with_reducible refine r_op ?_
  | with_reducible refine r_i0 ?_
  | (with_reducible refine' r_i ?k1 ?_; (case k1 => walk_at "cond"))
  | with_reducible refine r_cons ?_
  | with_reducible refine r_nil ?_
  | with_reducible refine r_cb ?_
  | with_reducible refine r_call ?_
  | with_reducible refine r_ifs ?_
  | with_reducible refine r_test ?_
  | with_reducible refine r_tB ?_
  | with_reducible refine r_bl ?_
  | with_reducible refine r_ret ?_
  | with_reducible refine r_drop ?_
  | with_reducible refine r_next ?_
  | (with_reducible refine' r_ixL ?k1 ?k2 ?_; (case k1 => walk_at "look"); (case k2 => walk_at "at"))
  | (with_reducible refine' r_setL ?k1 ?k2 ?_; (case k1 => walk_at "look"); (case k2 => walk_at "at"))
  | (with_reducible refine' r_tup (SqT.of ?k1) ?k2 ?_; (case k1 => walk_at "look"); (case k2 => rfl))
  | with_reducible refine r_gcons ?_
  | with_reducible refine r_gnil ?_
  | with_reducible refine r_aug rfl ?_
  | with_reducible refine r_augS ?_
  | with_reducible refine r_ipI ?_
  | with_reducible refine r_un ?_
  | with_reducible refine r_u ?_
  | with_reducible refine r_eq rfl ?_
  | with_reducible refine r_ne rfl ?_
  | with_reducible refine r_chain ?_
  | with_reducible refine iteF ?_
  | with_reducible refine r_not ?_
  | with_reducible refine r_and ?_
  | with_reducible refine r_or ?_
  | with_reducible refine r_andV ?_
  | with_reducible refine r_orV ?_
  | with_reducible refine r_notV ?_
  | with_reducible refine r_lst ?_
  | with_reducible refine r_bm ?_
  | with_reducible refine r_bm0 ?_
  | (with_reducible refine' And.intro (r_ty ?k1) ?_; (case k1 => walk_at "look"))
  | (with_reducible refine' r_append ?k1 ?k2 ?_; (case k1 => walk_at "look"); (case k2 => walk_at "sz"))
  | (with_reducible refine' r_lenK ?k1 ?_; (case k1 => walk_at "look"))
  | (with_reducible refine' r_listOf ?k1 ?_; (case k1 => walk_at "look"))
  | (with_reducible refine' r_sortedI ?k1 ?_; (case k1 => walk_at "look"))
  | (with_reducible refine' r_sum ?k1 ?_; (case k1 => walk_at "look"))
  | with_reducible refine r_int ?_
  | (with_reducible refine' r_draw (by assumption) ?k1 ?k2 ?_; (case k1 => omega); (case k2 => omega); intro R' n' o' h' h'')
  | with_reducible refine iteT ?_
  | with_reducible refine r_revL ?_
  | with_reducible refine r_lc ?_
  | with_reducible refine r_yes ?_
  | with_reducible refine r_sl ?_
  | with_reducible refine r_noPart ?_
  | with_reducible refine r_part ?_
  | with_reducible refine r_lc2 ?_
  | with_reducible refine r_callN ?_
  | with_reducible refine r_callD ?_
  | with_reducible refine r_tupE ?_
  | with_reducible refine r_rng2 ?_
  | with_reducible refine r_i1 ?_
  | (with_reducible refine' r_slL ?k1 ?_; (case k1 => walk_at "look"))
  | with_reducible refine r_for ?_
  | with_reducible refine r_iList ?_
  | with_reducible refine r_rng1 ?_
  | with_reducible refine r_enum ?_
  | (with_reducible show Ends.nx _ _ _; dsimp only)
  | (with_reducible show Ends.rt _ _ _; dsimp only)
  | (with_reducible show Ends.ct _ _ _; dsimp only)
  | (with_reducible show Ends.bk _ _ _; dsimp only))
local macro_rules | `(tactic| walk_at "go") => `(tactic| repeat (walk_at "st"))
local macro_rules | `(tactic| walk_at "begin") => `(tactic| dsimp only [cxOf, wipe, L2.start, List.map, List.length_cons, List.length_nil, Nat.reduceAdd, Nat.reduceSub, List.replicate, List.cons_append, List.nil_append])


def spSk : Sp := fun vs H Q _ => ∃ (st g : Addr) (R : RS) (B : Hp), vs = [.ref st] ∧ H = rg st g R B ∧ Ok st g R B ∧
  ∀ (R' : RS) (B' : Hp) (sk a : Addr) (as : List Addr) (rs : List (List Int)) (n c : Nat), Ok st g R' B' → Same B B' → B' sk = some (.lst [.int (c : Int), .ref a]) → B' a = some (.lst (as.map V.ref)) → Rw B' as rs → Wf n 400 rs → c ≤ n → c ≤ 12 → n ≤ 42 → Q (.ref sk) (rg st g R' B')
section
variable {P : Program} {w : World} {K : PySem.W.Frag} {mg : Str → Option Value} {base : Heap}
theorem ok_free {f f1 : Addr} {fd fd1 : FuncData} (B : Blt mg) (D : Dn K mg "_law_free" s__law_free ["state"] f fd) (D_law_draw : Dn K mg "_law_draw" s__law_draw ["state", "many"] f1 fd1)
    (G_law_draw : FnOk P w K mg base CX0 1 f1 fd1 ["state", "many"] spDraw) : FnOk P w K mg base CX0 2 f fd ["state"] spSk := by
  refine D.F.ok sc__law_free (fun vs H Q E h => ?_) (fun cdv A outer s H vs Q E hr h => ?_)
  · obtain ⟨st, g, R, B, rfl, _⟩ := h
    rfl
  · obtain ⟨st, g, R, C, rfl, rfl, o, q⟩ := h
    refine ⟨_, (pss_cons (ps_set (i := 1) sc__law_free.nd rfl (.inl rfl) (pe_call G_law_draw (hr.mono (by decide)) (by rfl) D_law_draw.g D_law_draw.F.kp D_law_draw.b .nil pass0 (pa_cons (pv 0) (pa_cons pe_int pa_nil))))
      (pss_cons (ps_set (i := 2) sc__law_free.nd rfl (.inl rfl) (pe_op op_add (pv 1) (pe_call G_law_draw (hr.mono (by decide)) (by rfl) D_law_draw.g D_law_draw.F.kp D_law_draw.b .nil pass0 (pa_cons (pv 0) (pa_cons pe_int pa_nil)))))
      (pss_cons (ps_set (i := 3) sc__law_free.nd rfl (.inr rfl) (pe_op op_add pe_int (pe_call G_law_draw (hr.mono (by decide)) (by rfl) D_law_draw.g D_law_draw.F.kp D_law_draw.b .nil pass0 (pa_cons (pv 0) (pa_cons pe_int pa_nil)))))
      (pss_cons (ps_set (i := 4) sc__law_free.nd rfl (.inl rfl) (pe_lst pa_nil))
      (pss_cons (ps_for PassesOwn.never rfl (pi_range1 (by rfl) B.m_range (pa_cons (pv 2) pa_nil)) (pg_name (i := 5) sc__law_free.nd rfl (.inl rfl)) (pss_cons (ps_set (i := 6) sc__law_free.nd rfl (.inl rfl) (pv 2))
      (C8.pss_cut (ps_if (pt_cmpR op_ge (pv 5) (pv 1) (nomark _)) (pss_one (ps_set (i := 6) sc__law_free.nd rfl (.inl rfl) (pv 1))) pss_nil)
      (pss_one (ps_expr (pe_bmK (K := K) rfl PySem.F.plainAttrs_list PySem.F.slot_list_append PySem.F.type_list_append mt_append (pv 4) (pa_cons (pe_lc (own := [("k", 7)]) rfl sc__law_free.nd (pi_range1 (by rfl) B.m_range (pa_cons (pv 6) pa_nil)) (blkOk_by (own := [("k", 7)]) (by kernel_rfl))
        (fun _ _ _ _ _ => (pg_name (i := 7) sc__law_free.nd rfl (.inl rfl))) (fun _ _ _ _ _ => (pts_one (pt_cmpR op_eq (pe_call G_law_draw (hr.mono (by decide)) (by rfl) D_law_draw.g D_law_draw.F.kp D_law_draw.b .nil pass0 (pa_cons (pv 0) (pa_cons (pv 3) pa_nil))) pe_int (nomark _))))
        (fun _ _ _ _ _ => (pv 7))) pa_nil)))))))
      (pss_one (ps_ret (pe_lst (pa_cons (pv 1) (pa_cons (pv 4) pa_nil)))))))))), ?_⟩
    walk_at "begin"
    walk_at "go"
    rename_i R1 n1 o1 n10 n11 R2 n2 o2 n20 n21 R3 n3 o3 n30 n31
    refine ⟨size_nil, fun D nD => ?_⟩
    obtain ⟨e, o4, n4⟩ := newT_eq (topRg st g) o3 nD (.lst [])
    rw [e]
    walk_at "go"
    refine r_forR ?_ ?_ (fun i σ H => ∃ (R : RS) (C2 : Hp) (as : List Addr) (rs : List (List Int)) (y1 y2 y3 : Option V), σ = [some (.ref st), some (.int n1), some (.int (n1 + n2)), some (.int (2 + n3)), some (.ref D), y1, y2, y3] ∧ H = rg st g R (upd C2 D (.lst (as.map V.ref))) ∧ Ok st g R (upd C2 D (.lst (as.map V.ref))) ∧ C2 D = none ∧ Same C C2 ∧
      Rw C2 as rs ∧ as.length = i ∧ ∀ r ∈ rs, Gd ((n1 + n2).toNat : Int) 400 r) ?_ ?_ ?_
    · omega
    · omega
    · exact ⟨R3, C, [], [], none, none, none, rfl, rfl, o4, n4, Same.refl _, Rw.nil, rfl, fun r hr => nomatch hr⟩
    · rintro i σ H hi ⟨R4, C2, as, rs, y1, y2, y3, rfl, rfl, o4, hD4, hS4, hrw, hla, hwf⟩
      walk_at "go"
      refine ⟨fun σ HM => ∃ la : Int, 0 ≤ la ∧ la ≤ n1 + n2 ∧ σ = [some (.ref st), some (.int n1), some (.int (n1 + n2)), some (.int (2 + n3)), some (.ref D), some (.int i), some (.int la), y3] ∧ HM = rg st g R4 (upd C2 D (.lst (as.map V.ref))), ?_, ?_⟩
      · walk_at "go"
        refine r_ite (fun _ => ?_) (fun _ => ?_)
        · walk_at "go"
          exact ⟨n1, by omega, by omega, rfl, rfl⟩
        · walk_at "go"
          exact ⟨n1 + n2, by omega, by omega, rfl, rfl⟩
      · rintro σ HM ⟨la, l0, l1, rfl, rfl⟩
        walk_at "go"
        refine lcT_range (topRg st g) o4 ?_ ?_ (fun j C acc => ∃ r : List Int, acc = r.map V.int ∧ Up ((n1 + n2).toNat : Int) j r) ⟨[], rfl, Up.nil⟩ ?_ ?_
        · omega
        · omega
        · rintro D2 j R5 C5 acc o5 hD5 hS5 hj ⟨r, rfl, hr1⟩
          walk_at "begin"
          walk_at "go"
          refine ⟨rfl, ?_⟩
          walk_at "go"
          rename_i R6 n6 o6 n60 n61
          refine r_ite (fun _ => ?_) (fun _ => ?_)
          · walk_at "go"
            refine lcN_put (topRg st g) o6 hD5 hS5 ?_ ⟨r ++ [(j : Int)], ints_push _ _, hr1.push ?_⟩
            · rw [List.length_map]; have := hr1.1; omega
            · omega
          · exact lcN_skip o6 hD5 hS5 ⟨r, rfl, hr1.skip⟩
        · rintro D2 R6 C6 acc o6 hB6 hD6 hS6 ⟨r, rfl, hr1⟩
          obtain ⟨C7, e, q1, q2, q3, q4, q5⟩ := under (y := .lst (r.map V.int)) hD4 hB6 hS6
          rw [e] at o6 ⊢
          walk_at "go"
          rw [(setTD_eq (topRg st g) o6 _).1]
          have o9 := (setTD_eq (topRg st g) o6 (.lst ((as ++ [D2]).map V.ref))).2
          exact ⟨R6, C7, as ++ [D2], rs ++ [r], _, _, _, rfl, by rw [refs_push], o9, q1, hS4.trans q2, (hrw.mono q2).push q3, by rw [List.length_append, List.length_singleton, hla], wf_push hwf (hr1.gd (by omega))⟩
    · rintro σ H ⟨R4, C2, as, rs, y1, y2, y3, rfl, rfl, o4, hD4, hS4, hrw, hla, hwf⟩
      walk_at "go"
      walk_at "newD"
      rename_i p np o5 hD5 n5 ne5
      walk_at "go"
      obtain ⟨c, rfl⟩ : ∃ c : Nat, n1 = c := ⟨n1.toNat, by omega⟩
      have sm := same_new (o := .lst [V.int (c : Int), V.ref D]) n5
      refine q _ _ p D as rs ((c : Int) + n2).toNat c o5 ((hS4.trans sm).trans (same_new hD5)) (upd_old hD5 upd_same) upd_same (hrw.mono (sm.trans (same_new hD5))) ⟨by rw [← hrw.1, hla], hwf⟩ ?_ ?_ ?_
      · omega
      · omega
      · omega
end
end K39
namespace K39
open PySem PySem.Spec PyProof.Rows L2 Lw


local macro_rules | `(tactic| walk_at "look") => `(tactic| first
  | assumption
  | with_reducible exact upd_same
  | with_reducible exact rg_st
  | with_reducible exact rg_g (by assumption)
  | (with_reducible refine upd_old (by assumption) ?_; walk_at "look")
  | (with_reducible refine rg_get (by assumption) ?_; walk_at "look")
  | (with_reducible refine Same.get (by assumption) ?_; walk_at "look"))
local macro_rules | `(tactic| walk_at "cond") => `(tactic| first
  | (show _ ≠ _; omega) | exact cdivN (by omega) (by omega) | exact cmul_mod (by decide) (by decide) | exact cmulR (by omega) (by omega) | exact cmulL (by omega) (by omega) | exact cpow (by omega) (by omega) (by omega) (by omega) | (show (0:Int) ≤ _; omega))
local macro_rules | `(tactic| walk_at "at") => `(tactic| first | assumption | with_unfolding_all rfl)
local macro_rules | `(tactic| walk_at "sz") => `(tactic| first | assumption | (refine small ?_; omega) | (refine small ?_; simp only [List.length_map, List.length_append, List.length_cons, List.length_nil]; omega))
local macro_rules | `(tactic| walk_at "len") => `(tactic| first | exact size_nil | exact Nat.le_of_lt (small (by simp only [List.length_cons, List.length_nil, List.length_map]; omega)))
local macro_rules | `(tactic| walk_at "newD") => `(tactic| (refine ⟨by walk_at "len", fun p np => ?_⟩; obtain ⟨e, o', hD', n', ne'⟩ := newTD_eq (topRg _ _) (by assumption) (by assumption) np (.lst _); rw [e]; clear e))
local macro_rules | `(tactic| walk_at "new") => `(tactic| (refine ⟨by walk_at "len", fun p np => ?_⟩; obtain ⟨e, o', n'⟩ := newT_eq (topRg _ _) (by assumption) np (.lst _); rw [e]; clear e))
local macro_rules | `(tactic| walk_at "st") => `(tactic| first
  | with_reducible refine r_seq ?_
  | with_reducible refine r_var rfl ?_
  | with_reducible refine r_c ?_
  | with_reducible refine r_asg ?_
  | (with_reducible refine r_name ?_; dsimp only [List.set_cons_zero, List.set_cons_succ])
  | with_reducible refine r_sub ?_
  | with_reducible refine r_op ?_
  | with_reducible refine r_i0 ?_
  | (with_reducible refine' r_i ?k1 ?_; (case k1 => walk_at "cond"))
  | with_reducible refine r_cons ?_
  | with_reducible refine r_nil ?_
  | with_reducible refine r_cb ?_
  | with_reducible refine r_call ?_
  | with_reducible refine r_ifs ?_
  | with_reducible refine r_test ?_
  | with_reducible refine r_tB ?_
  | with_reducible refine r_bl ?_
  | with_reducible refine r_ret ?_
  | with_reducible refine r_drop ?_
  | with_reducible refine r_next ?_
  | (with_reducible refine' r_ixL ?k1 ?k2 ?_; (case k1 => walk_at "look"); (case k2 => walk_at "at"))
  | (with_reducible refine' r_setL ?k1 ?k2 ?_; (case k1 => walk_at "look"); (case k2 => walk_at "at"))
  | (with_reducible refine' r_tup (SqT.of ?k1) ?k2 ?_; (case k1 => walk_at "look"); (case k2 => rfl))
  | with_reducible refine r_gcons ?_
  | with_reducible refine r_gnil ?_
  | with_reducible refine r_aug rfl ?_
  | with_reducible refine r_augS ?_
  | with_reducible refine r_ipI ?_
  | with_reducible refine r_un ?_
  | with_reducible refine r_u ?_
  | with_reducible refine r_eq rfl ?_
  | with_reducible refine r_ne rfl ?_
  | with_reducible refine r_chain ?_
  | with_reducible refine iteF ?_
  | with_reducible refine r_not ?_
  | with_reducible refine r_and ?_
  | with_reducible refine r_or ?_
  | with_reducible refine r_andV ?_
  | with_reducible refine r_orV ?_
  | with_reducible refine r_notV ?_
  | with_reducible refine r_lst ?_
  | with_reducible refine r_bm ?_
  | with_reducible refine r_bm0 ?_
  | (with_reducible refine' And.intro (r_ty ?k1) ?_; (case k1 => walk_at "look"))
  | (with_reducible refine' r_append ?k1 ?k2 ?_; (case k1 => walk_at "look"); (case k2 => walk_at "sz"))
  | (with_reducible refine' r_lenK ?k1 ?_; (case k1 => walk_at "look"))
  | (with_reducible refine' r_listOf ?k1 ?_; (case k1 => walk_at "look"))
  | (with_reducible refine' r_sortedI ?k1 ?_; (case k1 => walk_at "look"))
  | (with_reducible refine' r_sum ?k1 ?_; (case k1 => walk_at "look"))
  | with_reducible refine r_int ?_
  | (with_reducible refine' r_draw (by assumption) ?k1 ?k2 ?_; (case k1 => omega); (case k2 => omega); intro R' n' o' h' h'')
  | with_reducible refine iteT ?_
  | with_reducible refine r_revL ?_
  | with_reducible refine r_lc ?_
  | with_reducible refine r_yes ?_
  | with_reducible refine r_sl ?_
  | with_reducible refine r_noPart ?_
  | with_reducible refine r_part ?_
  | with_reducible refine r_lc2 ?_
  | with_reducible refine r_callN ?_
  | with_reducible refine r_callD ?_
  | with_reducible refine r_tupE ?_
  | with_reducible refine r_rng2 ?_
  | with_reducible refine r_i1 ?_
  | (with_reducible refine' r_slL ?k1 ?_; (case k1 => walk_at "look"))
  | with_reducible refine r_for ?_
  | with_reducible refine r_iList ?_
  | with_reducible refine r_rng1 ?_
  | with_reducible refine r_enum ?_
  | (with_reducible show Ends.nx _ _ _; dsimp only)
  | (with_reducible show Ends.rt _ _ _; dsimp only)
  | (with_reducible show Ends.ct _ _ _; dsimp only)
  | (with_reducible show Ends.bk _ _ _; dsimp only))
local macro_rules | `(tactic| walk_at "go") => `(tactic| repeat (walk_at "st"))
local macro_rules | `(tactic| walk_at "begin") => `(tactic| dsimp only [cxOf, wipe, L2.start, List.map, List.length_cons, List.length_nil, Nat.reduceAdd, Nat.reduceSub, List.replicate, List.cons_append, List.nil_append])


local macro_rules | `(tactic| walk_at "st") => `(tactic| first
  | (with_reducible refine' r_inI ?k1 ?_; (case k1 => walk_at "look"))
  | (with_reducible refine' r_insert ?k1 ?k2 ?k3 ?k4 ?_; (case k1 => walk_at "look"); (case k2 => walk_at "sz"); (case k3 => omega); (case k4 => omega)))
section
variable {P : Program} {w : World} {K : PySem.W.Frag} {mg : Str → Option Value} {base : Heap}
/-- rows in another order -/
def spMoved : Sp := fun vs H Q _ => ∃ (st g : Addr) (R : RS) (B : Hp) (sk a : Addr) (as : List Addr) (rs : List (List Int)) (n c : Nat), vs = [.ref st, .ref sk] ∧ H = rg st g R B ∧ Ok st g R B ∧ B sk = some (.lst [.int (c : Int), .ref a]) ∧ B a = some (.lst (as.map V.ref)) ∧ Rw B as rs ∧ Wf n 400 rs ∧ c ≤ n ∧ n ≤ 42 ∧
  ∀ (R' : RS) (B' : Hp) (sk a : Addr) (as : List Addr) (rs : List (List Int)), Ok st g R' B' → Same B B' → B' sk = some (.lst [.int (c : Int), .ref a]) → B' a = some (.lst (as.map V.ref)) → Rw B' as rs → Wf n 400 rs → (∀ r ∈ rs, r.Pairwise (· < ·)) → Q (.ref sk) (rg st g R' B')
theorem asc_of {r s : List Int} (hp : r.Perm s) (hs : r.Pairwise (· ≤ ·)) (hn : s.Nodup) : r.Pairwise (· < ·) := by
  have h2 : r.Pairwise (· ≠ ·) := hp.nodup_iff.mpr hn
  exact hs.imp₂ (fun a b h1 h2 => by omega) h2
theorem ok_moved {f f1 : Addr} {fd fd1 : FuncData} (B : Blt mg) (D : Dn K mg "_law_moved" s__law_moved ["state", "sketch"] f fd) (D_law_draw : Dn K mg "_law_draw" s__law_draw ["state", "many"] f1 fd1)
    (G_law_draw : FnOk P w K mg base CX0 1 f1 fd1 ["state", "many"] spDraw) : FnOk P w K mg base CX0 2 f fd ["state", "sketch"] spMoved := by
  refine D.F.ok sc__law_moved (fun vs H Q E h => ?_) (fun cdv A outer s H vs Q E hr h => ?_)
  · obtain ⟨st, g, R, B, sk, a, as, rs, n, c, rfl, _⟩ := h
    rfl
  · obtain ⟨st, g, R, C, sk, a, as, rs, n, c, rfl, rfl, o, hsk, ha, hrw, hwf, hcn, hn, q⟩ := h
    have hla0 : as.length = n := by rw [hrw.1]; exact hwf.1
    have ats : atI [V.int (c : Int), V.ref a] 1 = some (.ref a) := rfl
    refine ⟨_, (pss_cons (ps_set (i := 2) sc__law_moved.nd rfl (.inl rfl) (pe_ix (ix_listK (K := K) rfl) (pv 1) pe_int (fun _ _ => rfl)))
      (pss_cons (ps_set (i := 3) sc__law_moved.nd rfl (.inr rfl) (pe_lst pa_nil))
      (pss_cons (ps_for PassesOwn.never rfl (pi_range1 (by rfl) B.m_range (pa_cons (pv 2) pa_nil)) (pg_name (i := 4) sc__law_moved.nd rfl (.inl rfl)) (pss_one (ps_expr (pe_bmK (K := K) rfl PySem.F.plainAttrs_list PySem.F.slot_list_insert PySem.F.type_list_insert mt_insert' (pv 3) (pa_cons (pe_call G_law_draw (hr.mono (by decide)) (by rfl) D_law_draw.g D_law_draw.F.kp D_law_draw.b .nil pass0 (pa_cons (pv 0) (pa_cons (pe_op op_add (pv 4) pe_int) pa_nil))) (pa_cons (pv 4) pa_nil))))))
      (pss_cons (ps_set (i := 5) sc__law_moved.nd rfl (.inl rfl) (pe_lst pa_nil))
      (pss_cons (ps_for PassesOwn.never rfl (pi_range1 (by rfl) B.m_range (pa_cons (pe_op op_sub (pe_callB (call_len_seqK (K := K) rfl) (by rfl) B.m_len PySem.boot_len (pa_cons (pe_ix (ix_listK (K := K) rfl) (pv 1) pe_int (fun _ _ => rfl)) pa_nil)) (pv 2)) pa_nil)) (pg_name (i := 4) sc__law_moved.nd rfl (.inl rfl)) (pss_one (ps_expr (pe_bmK (K := K) rfl PySem.F.plainAttrs_list PySem.F.slot_list_insert PySem.F.type_list_insert mt_insert' (pv 5) (pa_cons (pe_call G_law_draw (hr.mono (by decide)) (by rfl) D_law_draw.g D_law_draw.F.kp D_law_draw.b .nil pass0 (pa_cons (pv 0) (pa_cons (pe_op op_add (pv 4) pe_int) pa_nil))) (pa_cons (pe_op op_add (pv 2) (pv 4)) pa_nil))))))
      (pss_cons (ps_set (i := 3) sc__law_moved.nd rfl (.inr rfl) (pe_op op_cat (pv 3) (pv 5)))
      (pss_cons (ps_set (i := 6) sc__law_moved.nd rfl (.inl rfl) (pe_lst pa_nil))
      (pss_cons (ps_for PassesOwn.never rfl (pi_listK (K := K) rfl (pv 3)) (pg_name (i := 7) sc__law_moved.nd rfl (.inl rfl)) (pss_one (ps_expr (pe_bmK (K := K) rfl PySem.F.plainAttrs_list PySem.F.slot_list_append PySem.F.type_list_append mt_append (pv 6) (pa_cons (pe_callB (cr_sortedK (K := K) rfl) (by rfl) B.m_sorted (by decide +kernel) (pa_cons (pe_lc (own := [("place", 8)]) rfl sc__law_moved.nd (pi_listK (K := K) rfl (pe_ix (ix_listK (K := K) rfl) (pe_ix (ix_listK (K := K) rfl) (pv 1) pe_int (fun _ _ => rfl)) (pv 7) (fun _ _ => rfl))) (blkOk_by (own := [("place", 8)]) (by kernel_rfl))
        (fun _ _ _ _ _ => (pg_name (i := 8) sc__law_moved.nd rfl (.inl rfl))) (fun _ _ _ _ _ => pts_nil)
        (fun _ _ _ _ _ => (pe_callTy call_int1 (by rfl) B.m_int (by decide +kernel) (pa_cons (pe_bmK (K := K) rfl PySem.F.plainAttrs_list PySem.F.slot_list_index PySem.F.type_list_index (mt_indexK (K := K) rfl) (pv 3) (pa_cons (pv 8) pa_nil)) pa_nil)))) pa_nil)) pa_nil)))))
      (pss_one (ps_ret (pe_lst (pa_cons (pv 2) (pa_cons (pv 6) pa_nil))))))))))))), ?_⟩
    walk_at "begin"
    walk_at "go"
    refine ⟨size_nil, fun Do nDo => ?_⟩
    obtain ⟨e, o1, n1⟩ := newT_eq (topRg st g) o nDo (.lst [])
    rw [e]
    walk_at "go"
    refine r_forR (n := (c : Int)) (by omega) (by omega) (fun i σ H => ∃ (R : RS) (r : List Int) (y : Option V), σ = [some (.ref st), some (.ref sk), some (.int c), some (.ref Do), y, none, none, none, none] ∧ H = rg st g R (upd C Do (.lst (r.map V.int))) ∧ Ok st g R (upd C Do (.lst (r.map V.int))) ∧ r.Perm ((List.range i).map Int.ofNat)) ?_ ?_ ?_
    · exact ⟨R, [], none, rfl, rfl, o1, List.Perm.refl _⟩
    · rintro i σ H hi ⟨R1, r, y, rfl, rfl, o2, hp⟩
      have hl : r.length = i := by rw [hp.length_eq, List.length_map, List.length_range]
      walk_at "go"
      rename_i R3 n3 o3 n30 n31
      walk_at "go"
      rw [(setTD_eq (topRg st g) o3 _).1]
      refine ⟨R3, r.take n3.toNat ++ [(i : Int)] ++ r.drop n3.toNat, _, rfl, ?_, ?_, ?_⟩
      · rw [List.map_append, List.map_append, List.map_take, List.map_drop]; rfl
      · have o4 := (setTD_eq (topRg st g) o3 (.lst ((r.take n3.toNat ++ [(i : Int)] ++ r.drop n3.toNat).map V.int))).2
        exact o4
      · rw [List.range_succ, List.map_append]
        exact (perm_ins r n3.toNat (i : Int)).trans (hp.append_right _)
    · rintro σ H ⟨R1, od, y4, rfl, rfl, o2, hod⟩
      rw [Int.toNat_natCast] at hod
      have hS1 : Same C (upd C Do (.lst (od.map V.int))) := same_new n1
      have hdo : upd C Do (.lst (od.map V.int)) Do = some (.lst (od.map V.int)) := upd_same
      generalize upd C Do (.lst (od.map V.int)) = C1 at o2 hS1 hdo ⊢
      clear o1 n1 nDo
      have hsk1 := hS1 _ _ hsk
      have ha1 := hS1 _ _ ha
      walk_at "go"
      refine ⟨size_nil, fun De nDe => ?_⟩
      obtain ⟨e, o3, n3⟩ := newT_eq (topRg st g) o2 nDe (.lst [])
      rw [e]
      walk_at "go"
      rw [List.length_map, hla0]
      refine r_forR (n := (n : Int) - c) (by omega) (by omega) (fun i σ H => ∃ (R : RS) (r : List Int) (y : Option V), σ = [some (.ref st), some (.ref sk), some (.int c), some (.ref Do), y, some (.ref De), none, none, none] ∧ H = rg st g R (upd C1 De (.lst (r.map V.int))) ∧ Ok st g R (upd C1 De (.lst (r.map V.int))) ∧ r.Perm ((List.range i).map fun k : Nat => (c : Int) + k)) ?_ ?_ ?_
      · exact ⟨R1, [], _, rfl, rfl, o3, List.Perm.refl _⟩
      · rintro i σ H hi ⟨R1, r, y, rfl, rfl, o2, hp⟩
        have hl : r.length = i := by rw [hp.length_eq, List.length_map, List.length_range]
        walk_at "go"
        rename_i R3 n3 o3 n30 n31
        walk_at "go"
        rw [(setTD_eq (topRg st g) o3 _).1]
        refine ⟨R3, r.take n3.toNat ++ [(c : Int) + (i : Int)] ++ r.drop n3.toNat, _, rfl, ?_, ?_, ?_⟩
        · rw [List.map_append, List.map_append, List.map_take, List.map_drop]; rfl
        · have o4 := (setTD_eq (topRg st g) o3 (.lst ((r.take n3.toNat ++ [(c : Int) + (i : Int)] ++ r.drop n3.toNat).map V.int))).2
          exact o4
        · rw [List.range_succ, List.map_append]
          exact (perm_ins r n3.toNat ((c : Int) + i)).trans (hp.append_right _)
      · rintro σ H ⟨R4, oe, y5, rfl, rfl, o4, hoe⟩
        rw [show ((n : Int) - c).toNat = n - c by omega] at hoe
        have hS2 : Same C1 (upd C1 De (.lst (oe.map V.int))) := same_new n3
        have hde : upd C1 De (.lst (oe.map V.int)) De = some (.lst (oe.map V.int)) := upd_same
        generalize upd C1 De (.lst (oe.map V.int)) = C2 at o4 hS2 hde ⊢
        clear o3 n3 nDe
        have hdo2 := hS2 _ _ hdo
        have hol : od.length = c := by rw [hod.length_eq, List.length_map, List.length_range]
        have hel : oe.length = n - c := by rw [hoe.length_eq, List.length_map, List.length_range]
        walk_at "go"
        refine r_cat (rg_get o4 hdo2) (rg_get o4 hde) (by rw [List.length_map, List.length_map]; omega) fun p np => ?_
        rw [← List.map_append]
        obtain ⟨e, o5, n5⟩ := newT_eq (topRg st g) o4 np (.lst ((od ++ oe).map V.int))
        rw [e]
        have hS3 : Same C (upd C2 p (.lst ((od ++ oe).map V.int))) := (hS1.trans hS2).trans (same_new n5)
        have hp5 : upd C2 p (.lst ((od ++ oe).map V.int)) p = some (.lst ((od ++ oe).map V.int)) := upd_same
        have hmem : ∀ z : Int, z ∈ od ++ oe ↔ 0 ≤ z ∧ z < (n : Int) := fun z => by
          rw [List.mem_append, hod.mem_iff, hoe.mem_iff, List.mem_map, List.mem_map]
          constructor
          · rintro (⟨k, hk, rfl⟩ | ⟨k, hk, rfl⟩)
            · have := List.mem_range.mp hk
              exact ⟨Int.natCast_nonneg _, by show (k : Int) < n; omega⟩
            · have := List.mem_range.mp hk
              omega
          · rintro ⟨h0, h1⟩
            by_cases hz : z < c
            · exact .inl ⟨z.toNat, List.mem_range.mpr (by omega), by show ((z.toNat : Nat) : Int) = z; omega⟩
            · exact .inr ⟨(z - c).toNat, List.mem_range.mpr (by omega), by omega⟩
        have hlen : (od ++ oe).length = n := by rw [List.length_append, hol, hel]; omega
        generalize od ++ oe = ord at o5 hS3 hp5 hmem hlen ⊢
        generalize upd C2 p (.lst (ord.map V.int)) = C0 at o5 hS3 hp5 ⊢
        have hsk0 := hS3 _ _ hsk
        have ha0 := hS3 _ _ ha
        have hrw0 := hrw.mono hS3
        clear o4 n5 np hdo2 hde hdo hsk1 ha1 hS1 hS2 hod hoe
        walk_at "go"
        refine ⟨size_nil, fun D nD => ?_⟩
        obtain ⟨e, o6, n6⟩ := newT_eq (topRg st g) o5 nD (.lst [])
        rw [e]
        walk_at "go"
        refine r_forL (xs := ord.map V.int) (rg_get o6 (upd_old n6 hp5)) (fun i σ H' => ∃ (R : RS) (C : Hp) (as' : List Addr) (rs' : List (List Int)) (y1 : Option V), σ = [some (.ref st), some (.ref sk), some (.int c), some (.ref p), y5, some (.ref De), some (.ref D), y1, none] ∧ H' = rg st g R (upd C D (.lst (as'.map V.ref))) ∧ Ok st g R (upd C D (.lst (as'.map V.ref))) ∧ C D = none ∧ Same C0 C ∧ Rw C as' rs' ∧ as'.length = i ∧
          (∀ r ∈ rs', Gd (n : Int) 400 r) ∧ ∀ r ∈ rs', r.Pairwise (· < ·)) ?_ ?_ ?_ ?_
        · exact ⟨R4, C0, [], [], none, rfl, rfl, o6, n6, Same.refl _, Rw.nil, rfl, (fun r hr => nomatch hr), fun r hr => nomatch hr⟩
        · rintro i σ H' _ ⟨R7, C, as', rs', y1, rfl, rfl, o7, hD, hS, _⟩
          exact rg_get o7 (upd_old hD (hS _ _ hp5))
        · rintro i x σ H' hx ⟨R7, C, as', rs', y1, rfl, rfl, o7, hD, hS, hrw', hla, hwf', hasc'⟩
          obtain ⟨z, rfl, hz⟩ := ints_at hx
          obtain ⟨z0, z1⟩ := (hmem z).mp (List.mem_of_getElem? hz)
          have hi : i < n := by
            have := (List.getElem?_eq_some_iff.mp hz).1
            omega
          obtain ⟨b, hb⟩ : ∃ c, as[z.toNat]? = some c := ⟨_, List.getElem?_eq_getElem (by omega)⟩
          obtain ⟨r, hr1, hr2⟩ := (hrw0.mono hS).2 _ _ hb
          obtain ⟨w1, w3, w2⟩ := hwf.2 r (List.mem_of_getElem? hr1)
          have hat : atI (as.map V.ref) z = some (.ref b) := at_i z0 (by rw [List.getElem?_map, hb]; rfl)
          have ha' := hS _ _ ha0
          have hsk' := hS _ _ hsk0
          have hp' := hS _ _ hp5
          walk_at "go"
          refine lcT_list (topRg st g) (K := K) o7 (upd_old hD hr2) (fun j C acc => ∃ r' : List Int, acc = r'.map V.int ∧ r'.length = j ∧ (r'.map fun m => ord[m.toNat]?) = (r.take j).map some ∧ ∀ e ∈ r', 0 ≤ e ∧ e < (n : Int)) ⟨[], rfl, rfl, rfl, fun e he => nomatch he⟩ ?_ ?_
          · rintro D2 j x R8 C2 acc o8 hD2 hS2 hx2 ⟨r', rfl, hl', hi', hw'⟩
            obtain ⟨y, rfl, hy⟩ := ints_at hx2
            have hj := (List.getElem?_eq_some_iff.mp hy).1
            obtain ⟨m, hm1, hm2, hm3⟩ := first_at ((hmem y).mpr (w2 y (List.mem_of_getElem? hy)))
            have hb2 := rg_get o8 (upd_old (x := .lst (r'.map V.int)) hD2 (hS2 _ _ (upd_old hD hp')))
            walk_at "begin"
            walk_at "go"
            refine ⟨rfl, ?_⟩
            walk_at "go"
            refine r_index hb2 hm1 hm2 ?_
            walk_at "go"
            refine lcN_put (topRg st g) o8 hD2 hS2 ?_ ⟨r' ++ [(m : Int)], ints_push _ _, ?_, ?_, all_push hw' ?_⟩
            · rw [List.length_map]; omega
            · rw [List.length_append, List.length_singleton]; omega
            · rw [List.map_append, hi', List.take_add_one, hy, List.map_append]
              show _ ++ [ord[((m : Nat) : Int).toNat]?] = _
              rw [Int.toNat_natCast, hm1]; rfl
            · omega
          · rintro D2 R8 C2 acc o8 hB2 hD2 hS2 ⟨r', rfl, hl', hi', hw'⟩
            rw [List.length_map] at hl' hi'
            rw [List.take_length] at hi'
            have hnd : r'.Nodup := nodup_of_map (f := fun m : Int => ord[m.toNat]?) (by rw [hi']; exact nodup_map (fun x y e => Option.some.inj e) w3)
            obtain ⟨C3, e, q1, q2, q3, q4, q5⟩ := under (y := .lst (r'.map V.int)) hD hB2 hS2
            rw [e] at o8 ⊢
            walk_at "go"
            intro ns' p2 hp hs np
            obtain ⟨e, o9, hD4, n4, ne4⟩ := newTD_eq (topRg st g) o8 q1 np (.lst (ns'.map V.int))
            rw [e]
            walk_at "go"
            rw [(setTD_eq (topRg st g) o9 _).1]
            have o10 := (setTD_eq (topRg st g) o9 (.lst ((as' ++ [p2]).map V.ref))).2
            have sm := q2.trans (same_new (o := .lst (ns'.map V.int)) n4)
            refine ⟨R8, _, as' ++ [p2], rs' ++ [ns'], _, rfl, by rw [refs_push], o10, hD4, hS.trans sm, (hrw'.mono sm).push upd_same, by rw [List.length_append, List.length_singleton, hla], wf_push hwf' ⟨by rw [hp.length_eq]; omega, hp.nodup_iff.mpr hnd, fun e he => hw' e (hp.mem_iff.mp he)⟩, fun r hr => ?_⟩
            rcases List.mem_append.mp hr with z | z
            · exact hasc' r z
            · rw [List.mem_singleton.mp z]; exact asc_of hp hs hnd
        · rintro σ H' ⟨R7, C, as', rs', y1, rfl, rfl, o7, hD, hS, hrw', hla, hwf', hasc'⟩
          rw [List.length_map, hlen] at hla
          walk_at "go"
          walk_at "newD"
          rename_i p2 np2 o8 hD8 n8 ne8
          walk_at "go"
          have sm := same_new (o := .lst [V.int (c : Int), V.ref D]) n8
          exact q _ _ p2 D as' rs' o8 (((hS3.trans hS).trans sm).trans (same_new hD8)) (upd_old hD8 upd_same) upd_same (hrw'.mono (sm.trans (same_new hD8))) ⟨by rw [← hrw'.1, hla], hwf'⟩ hasc'
end
end K39
namespace K39
open PySem PySem.Spec PyProof.Rows L2 Lw


local macro_rules | `(tactic| walk_at "look") => `(tactic| first
  | assumption
  | with_reducible exact upd_same
  | with_reducible exact rg_st
  | with_reducible exact rg_g (by assumption)
  | (with_reducible refine upd_old (by assumption) ?_; walk_at "look")
  | (with_reducible refine rg_get (by assumption) ?_; walk_at "look")
  | (with_reducible refine Same.get (by assumption) ?_; walk_at "look"))
local macro_rules | `(tactic| walk_at "cond") => `(tactic| first
  | (show _ ≠ _; omega) | exact cdivN (by omega) (by omega) | exact cmul_mod (by decide) (by decide) | exact cmulR (by omega) (by omega) | exact cmulL (by omega) (by omega) | exact cpow (by omega) (by omega) (by omega) (by omega) | (show (0:Int) ≤ _; omega))
local macro_rules | `(tactic| walk_at "at") => `(tactic| first | assumption | with_unfolding_all rfl)
local macro_rules | `(tactic| walk_at "sz") => `(tactic| first | assumption | (refine small ?_; omega) | (refine small ?_; simp only [List.length_map, List.length_append, List.length_cons, List.length_nil]; omega))
local macro_rules | `(tactic| walk_at "len") => `(tactic| first | exact size_nil | exact Nat.le_of_lt (small (by simp only [List.length_cons, List.length_nil, List.length_map]; omega)))
local macro_rules | `(tactic| walk_at "newD") => `(tactic| (refine ⟨by walk_at "len", fun p np => ?_⟩; obtain ⟨e, o', hD', n', ne'⟩ := newTD_eq (topRg _ _) (by assumption) (by assumption) np (.lst _); rw [e]; clear e))
local macro_rules | `(tactic| walk_at "new") => `(tactic| (refine ⟨by walk_at "len", fun p np => ?_⟩; obtain ⟨e, o', n'⟩ := newT_eq (topRg _ _) (by assumption) np (.lst _); rw [e]; clear e))
local macro_rules | `(tactic| walk_at "st") => `(tactic| first
  | with_reducible refine r_seq ?_
  | with_reducible refine r_var rfl ?_
  | with_reducible refine r_c ?_
  | with_reducible refine r_asg ?_
  | (with_reducible refine r_name ?_; dsimp only [List.set_cons_zero, List.set_cons_succ])
  | with_reducible refine r_sub ?_
  | with_reducible refine r_op ?_
  | with_reducible refine r_i0 ?_
  | (with_reducible refine' r_i ?k1 ?_; (case k1 => walk_at "cond"))
  | with_reducible refine r_cons ?_
  | with_reducible refine r_nil ?_
  | with_reducible refine r_cb ?_
  | with_reducible refine r_call ?_
  | with_reducible refine r_ifs ?_
  | with_reducible refine r_test ?_
  | with_reducible refine r_tB ?_
  | with_reducible refine r_bl ?_
  | with_reducible refine r_ret ?_
  | with_reducible refine r_drop ?_
  | with_reducible refine r_next ?_
  | (with_reducible refine' r_ixL ?k1 ?k2 ?_; (case k1 => walk_at "look"); (case k2 => walk_at "at"))
  | (with_reducible refine' r_setL ?k1 ?k2 ?_; (case k1 => walk_at "look"); (case k2 => walk_at "at"))
  | (with_reducible refine' r_tup (SqT.of ?k1) ?k2 ?_; (case k1 => walk_at "look"); (case k2 => rfl))
  | with_reducible refine r_gcons ?_
  | with_reducible refine r_gnil ?_
  | with_reducible refine r_aug rfl ?_
  | with_reducible refine r_augS ?_
  | with_reducible refine r_ipI ?_
  | with_reducible refine r_un ?_
  | with_reducible refine r_u ?_
  | with_reducible refine r_eq rfl ?_
  | with_reducible refine r_ne rfl ?_
  | with_reducible refine r_chain ?_
  | with_reducible refine iteF ?_
  | with_reducible refine r_not ?_
  | with_reducible refine r_and ?_
  | with_reducible refine r_or ?_
  | with_reducible refine r_andV ?_
  | with_reducible refine r_orV ?_
  | with_reducible refine r_notV ?_
  | with_reducible refine r_lst ?_
  | with_reducible refine r_bm ?_
  | with_reducible refine r_bm0 ?_
  | (with_reducible refine' And.intro (r_ty ?k1) ?_; (case k1 => walk_at "look"))
  | (with_reducible refine' r_append ?k1 ?k2 ?_; (case k1 => walk_at "look"); (case k2 => walk_at "sz"))
  | (with_reducible refine' r_lenK ?k1 ?_; (case k1 => walk_at "look"))
  | (with_reducible refine' r_listOf ?k1 ?_; (case k1 => walk_at "look"))
  | (with_reducible refine' r_sortedI ?k1 ?_; (case k1 => walk_at "look"))
  | (with_reducible refine' r_sum ?k1 ?_; (case k1 => walk_at "look"))
  | with_reducible refine r_int ?_
  | (with_reducible refine' r_draw (by assumption) ?k1 ?k2 ?_; (case k1 => omega); (case k2 => omega); intro R' n' o' h' h'')
  | with_reducible refine iteT ?_
  | with_reducible refine r_revL ?_
  | with_reducible refine r_lc ?_
  | with_reducible refine r_yes ?_
  | with_reducible refine r_sl ?_
  | with_reducible refine r_noPart ?_
  | with_reducible refine r_part ?_
  | with_reducible refine r_lc2 ?_
  | with_reducible refine r_callN ?_
  | with_reducible refine r_callD ?_
  | with_reducible refine r_tupE ?_
  | with_reducible refine r_rng2 ?_
  | with_reducible refine r_i1 ?_
  | (with_reducible refine' r_slL ?k1 ?_; (case k1 => walk_at "look"))
  | with_reducible refine r_for ?_
  | with_reducible refine r_iList ?_
  | with_reducible refine r_rng1 ?_
  | with_reducible refine r_enum ?_
  | (with_reducible show Ends.nx _ _ _; dsimp only)
  | (with_reducible show Ends.rt _ _ _; dsimp only)
  | (with_reducible show Ends.ct _ _ _; dsimp only)
  | (with_reducible show Ends.bk _ _ _; dsimp only))
local macro_rules | `(tactic| walk_at "go") => `(tactic| repeat (walk_at "st"))
local macro_rules | `(tactic| walk_at "begin") => `(tactic| dsimp only [cxOf, wipe, L2.start, List.map, List.length_cons, List.length_nil, Nat.reduceAdd, Nat.reduceSub, List.replicate, List.cons_append, List.nil_append])


theorem gd_up {n n' : Int} {L L' : Nat} {r : List Int} (h : Gd n L r) (hn : n ≤ n') (hl : L ≤ L') : Gd n' L' r := ⟨Nat.le_trans h.1 hl, h.2.1, fun e he => by have := h.2.2 e he; omega⟩
theorem gd_put {n n' : Int} {L : Nat} {r : List Int} {z : Int} (h : Gd n L r) (h0 : 0 ≤ z) (h1 : n ≤ z) (h2 : z < n') : Gd n' (L + 1) (r ++ [z]) := by
  refine ⟨by rw [List.length_append, List.length_singleton]; have := h.1; omega, nodup_push h.2.1 fun hm => ?_, fun e he => ?_⟩
  · have := (h.2.2 z hm).2; omega
  · rcases List.mem_append.mp he with q | q
    · have := h.2.2 e q; omega
    · rw [List.mem_singleton.mp q]; omega
theorem set_all {α : Type} {P : α → Prop} {l : List α} {i : Nat} {x : α} (h : ∀ y ∈ l, P y) (hx : P x) : ∀ y ∈ l.set i x, P y := fun y hy => by
  rcases List.mem_or_eq_of_mem_set hy with q | q
  · exact h y q
  · rw [q]; exact hx
def spRanked : Sp := fun vs H Q _ => ∃ (st g : Addr) (R : RS) (B : Hp) (most bs thin : Int), vs = [.ref st, .int most, .int bs, .int thin] ∧ H = rg st g R B ∧ Ok st g R B ∧ 1 ≤ most ∧ most ≤ 13 ∧ 1 ≤ bs ∧ bs ≤ 31 ∧ 1 ≤ thin ∧ thin ≤ 100 ∧
  ∀ (R' : RS) (B' : Hp) (sk a : Addr) (as : List Addr) (rs : List (List Int)) (n c : Nat), Ok st g R' B' → Same B B' → B' sk = some (.lst [.int (c : Int), .ref a]) → B' a = some (.lst (as.map V.ref)) → Rw B' as rs → Wf n 400 rs → c ≤ n → c ≤ 12 → n ≤ 42 → Q (.ref sk) (rg st g R' B')
/-- places from c on, growing -/
def Mu (c : Int) (j : Nat) (r : List Int) : Prop := r.length ≤ j ∧ r.Nodup ∧ ∀ e ∈ r, c ≤ e ∧ e < c + j
theorem Mu.nil {c : Int} : Mu c 0 [] := ⟨Nat.le_refl _, List.nodup_nil, fun e he => nomatch he⟩
theorem Mu.skip {c : Int} {j : Nat} {r : List Int} (h : Mu c j r) : Mu c (j + 1) r := ⟨by have := h.1; omega, h.2.1, fun e he => by have := h.2.2 e he; omega⟩
theorem Mu.put {c : Int} {j : Nat} {r : List Int} (h : Mu c j r) : Mu c (j + 1) (r ++ [c + j]) := by
  refine ⟨by rw [List.length_append, List.length_singleton]; have := h.1; omega, nodup_push h.2.1 fun hm => ?_, fun e he => ?_⟩
  · have := (h.2.2 _ hm).2; omega
  · rcases List.mem_append.mp he with q | q
    · have := h.2.2 e q; omega
    · rw [List.mem_singleton.mp q]; omega
theorem gd_cat {c : Nat} {m : Nat} {r s t : List Int} {j k : Nat} (h : Up (c : Int) j r) (h2 : Mu (c : Int) k s) (ht : t.Sublist s) (hk : k ≤ m) (hL : j + k ≤ 400) : Gd ((c + m : Nat) : Int) 400 (r ++ t) := by
  have htl := ht.length_le
  refine ⟨by rw [List.length_append]; have := h.1; have := h2.1; omega, ?_, fun e he => ?_⟩
  · rw [List.nodup_append]
    refine ⟨h.2.1, h2.2.1.sublist ht, fun a ha b hb e => ?_⟩
    have h3 := h.2.2.1 a ha
    have h4 := h2.2.2 b (ht.subset hb)
    omega
  · rcases List.mem_append.mp he with q | q
    · have := h.2.2.1 e q; omega
    · have := h2.2.2 e (ht.subset q); omega
section
variable {P : Program} {w : World} {K : PySem.W.Frag} {mg : Str → Option Value} {base : Heap}
theorem ok_ranked {f f1 : Addr} {fd fd1 : FuncData} (B : Blt mg) (D : Dn K mg "_law_ranked" s__law_ranked ["state", "most", "bares", "thin"] f fd) (D_law_draw : Dn K mg "_law_draw" s__law_draw ["state", "many"] f1 fd1)
    (G_law_draw : FnOk P w K mg base CX0 1 f1 fd1 ["state", "many"] spDraw) : FnOk P w K mg base CX0 2 f fd ["state", "most", "bares", "thin"] spRanked := by
  refine D.F.ok sc__law_ranked (fun vs H Q E h => ?_) (fun cdv A outer s H vs Q E hr h => ?_)
  · obtain ⟨st, g, R, B, most, bs, thin, rfl, _⟩ := h
    rfl
  · obtain ⟨st, g, R, C, most, bs, thin, rfl, rfl, o, hb0, hb1, hb2, hb3, hb4, hb5, q⟩ := h
    refine ⟨_, (pss_cons (ps_set (i := 4) sc__law_ranked.nd rfl (.inr rfl) (pe_call G_law_draw (hr.mono (by decide)) (by rfl) D_law_draw.g D_law_draw.F.kp D_law_draw.b .nil pass0 (pa_cons (pv 0) (pa_cons (pv 1) pa_nil))))
      (pss_cons (ps_set (i := 5) sc__law_ranked.nd rfl (.inr rfl) (pe_lc (own := [("k", 12)]) rfl sc__law_ranked.nd (pi_range1 (by rfl) B.m_range (pa_cons (pe_call G_law_draw (hr.mono (by decide)) (by rfl) D_law_draw.g D_law_draw.F.kp D_law_draw.b .nil pass0 (pa_cons (pv 0) (pa_cons (pv 2) pa_nil))) pa_nil)) (blkOk_by (own := [("k", 12)]) (by kernel_rfl))
        (fun _ _ _ _ _ => (pg_name (i := 12) sc__law_ranked.nd rfl (.inl rfl))) (fun _ _ _ _ _ => pts_nil)
        (fun _ _ _ _ _ => (pe_call G_law_draw (hr.mono (by decide)) (by rfl) D_law_draw.g D_law_draw.F.kp D_law_draw.b .nil pass0 (pa_cons (pv 0) (pa_cons (pe_op op_add (pv 4) pe_int) pa_nil))))))
      (pss_cons (ps_set (i := 6) sc__law_ranked.nd rfl (.inl rfl) (pe_lst pa_nil))
      (pss_cons (ps_for PassesOwn.never rfl (pi_range1 (by rfl) B.m_range (pa_cons (pv 4) pa_nil)) (pg_name (i := 7) sc__law_ranked.nd rfl (.inr rfl)) (pss_cons (ps_setLc (i := 8) (own := [("k", 12)]) rfl sc__law_ranked.nd rfl rfl (sw_true rfl rfl rfl (by decide +kernel)) (pi_range1 (by rfl) B.m_range (pa_cons (pv 7) pa_nil)) (blkOk_by (own := [("k", 12)]) (by kernel_rfl))
        (fun _ _ _ _ _ => (pg_name (i := 12) sc__law_ranked.nd rfl (.inl rfl))) (fun _ _ _ _ _ => (pts_one (pt_cmpR op_eq (pe_call G_law_draw (hr.mono (by decide)) (by rfl) D_law_draw.g D_law_draw.F.kp D_law_draw.b .nil pass0 (pa_cons (pv 0) (pa_cons (pv 3) pa_nil))) pe_int (nomark _))))
        (fun _ _ _ _ _ => (pv 12)))
      (pss_cons (ps_setLc (i := 9) (own := [("k", 12)]) rfl sc__law_ranked.nd rfl rfl (sw_true rfl rfl rfl (by decide +kernel)) (pi_range1 (by rfl) B.m_range (pa_cons (pe_callB (call_len_seqK (K := K) rfl) (by rfl) B.m_len PySem.boot_len (pa_cons (pv 5) pa_nil)) pa_nil)) (blkOk_by (own := [("k", 12)]) (by kernel_rfl))
        (fun _ _ _ _ _ => (pg_name (i := 12) sc__law_ranked.nd rfl (.inl rfl))) (fun _ _ _ _ _ => (pts_one (pt_cmpR op_le (pe_ix (ix_listK (K := K) rfl) (pv 5) (pv 12) (fun _ _ => rfl)) (pv 7) (nomark _))))
        (fun _ _ _ _ _ => (pe_op op_add (pv 4) (pv 12))))
      (pss_one (ps_expr (pe_bmK (K := K) rfl PySem.F.plainAttrs_list PySem.F.slot_list_append PySem.F.type_list_append mt_append (pv 6) (pa_cons (pe_op op_cat (pv 8) (pe_lc (own := [("place", 13)]) rfl sc__law_ranked.nd (pi_listK (K := K) rfl (pv 9)) (blkOk_by (own := [("place", 13)]) (by kernel_rfl))
        (fun _ _ _ _ _ => (pg_name (i := 13) sc__law_ranked.nd rfl (.inl rfl))) (fun _ _ _ _ _ => (pts_one (pt_cmpR op_eq (pe_call G_law_draw (hr.mono (by decide)) (by rfl) D_law_draw.g D_law_draw.F.kp D_law_draw.b .nil pass0 (pa_cons (pv 0) (pa_cons (pv 3) pa_nil))) pe_int (nomark _))))
        (fun _ _ _ _ _ => (pv 13)))) pa_nil)))))))
      (C8.pss_cut (ps_if (PW.pt (pw_and (pt_cmpR op_gt (pv 4) pe_int (nomark _)) (pw_and1 (pt_cmpR op_eq (pe_call G_law_draw (hr.mono (by decide)) (by rfl) D_law_draw.g D_law_draw.F.kp D_law_draw.b .nil pass0 (pa_cons (pv 0) (pa_cons pe_int pa_nil))) pe_int (nomark _))))) (pss_cons (ps_set (i := 10) sc__law_ranked.nd rfl (.inl rfl) (pe_op op_add pe_int (pe_call G_law_draw (hr.mono (by decide)) (by rfl) D_law_draw.g D_law_draw.F.kp D_law_draw.b .nil pass0 (pa_cons (pv 0) (pa_cons (pe_op op_sub (pv 4) pe_int) pa_nil)))))
      (pss_one (ps_asg (pe_callTy (call_list_ofK (K := K) rfl) (by rfl) B.m_list (by decide +kernel) (pa_cons (pe_ix (ix_listK (K := K) rfl) (pv 6) (pe_call G_law_draw (hr.mono (by decide)) (by rfl) D_law_draw.g D_law_draw.F.kp D_law_draw.b .nil pass0 (pa_cons (pv 0) (pa_cons (pv 10) pa_nil))) (fun _ _ => rfl)) pa_nil)) (pg_sub (pv 6) (pv 10) set_list)))) pss_nil)
      (pss_cons (ps_for PassesOwn.never rfl (pi_listK (K := K) rfl (pv 5)) (pg_name (i := 11) sc__law_ranked.nd rfl (.inl rfl)) (pss_one (ps_expr (pe_bmK (K := K) rfl PySem.F.plainAttrs_list PySem.F.slot_list_append PySem.F.type_list_append mt_append (pv 6) (pa_cons (pe_lc (own := [("at", 7)]) rfl sc__law_ranked.nd (pi_range1 (by rfl) B.m_range (pa_cons (pv 11) pa_nil)) (blkOk_by (own := [("at", 7)]) (by kernel_rfl))
        (fun _ _ _ _ _ => (pg_name (i := 7) sc__law_ranked.nd rfl (.inl rfl))) (fun _ _ _ _ _ => (pts_one (pt_cmpR op_eq (pe_call G_law_draw (hr.mono (by decide)) (by rfl) D_law_draw.g D_law_draw.F.kp D_law_draw.b .nil pass0 (pa_cons (pv 0) (pa_cons (pv 3) pa_nil))) pe_int (nomark _))))
        (fun _ _ _ _ _ => (pv 7))) pa_nil)))))
      (pss_one (ps_ret (pe_lst (pa_cons (pv 4) (pa_cons (pv 6) pa_nil))))))))))), ?_⟩
    walk_at "begin"
    walk_at "go"
    rename_i R1 n1 o1 n10 n11 R2 n2 o2 n20 n21
    obtain ⟨c, rfl⟩ : ∃ c : Nat, n1 = c := ⟨n1.toNat, by omega⟩
    refine lcT_range (topRg st g) o2 ?_ ?_ (fun j C acc => ∃ r : List Int, acc = r.map V.int ∧ r.length = j ∧ ∀ e ∈ r, 0 ≤ e ∧ e ≤ (c : Int)) ⟨[], rfl, rfl, fun e he => nomatch he⟩ ?_ ?_
    · omega
    · omega
    · rintro D2 j R5 C5 acc o5 hD5 hS5 hj ⟨r, rfl, hr1, hr2⟩
      walk_at "begin"
      walk_at "go"
      refine ⟨rfl, ?_⟩
      walk_at "go"
      rename_i R6 n6 o6 n60 n61
      refine lcN_put (topRg st g) o6 hD5 hS5 ?_ ⟨r ++ [n6], ints_push _ _, ?_, all_push hr2 ?_⟩
      · rw [List.length_map]; omega
      · rw [List.length_append, hr1]; rfl
      · omega
    · rintro Dl R3 C3 acc o3 hB3 hD3 hS3 ⟨ls, rfl, hl1, hl2⟩
      have hS0 : Same C (upd C3 Dl (.lst (ls.map V.int))) := hS3.trans (same_new hD3)
      have hdl : upd C3 Dl (.lst (ls.map V.int)) Dl = some (.lst (ls.map V.int)) := upd_same
      generalize upd C3 Dl (.lst (ls.map V.int)) = C0 at o3 hS0 hdl ⊢
      clear hB3 hD3 hS3 C3
      walk_at "go"
      refine ⟨size_nil, fun D nD => ?_⟩
      obtain ⟨e, o5, n5⟩ := newT_eq (topRg st g) o3 nD (.lst [])
      rw [e]
      walk_at "go"
      refine r_forR (n := (c : Int)) (by omega) (by omega) (fun i σ H => ∃ (R : RS) (C2 : Hp) (as : List Addr) (rs : List (List Int)) (y1 y2 y3 : Option V), σ = [some (.ref st), some (.int most), some (.int bs), some (.int thin), some (.int c), some (.ref Dl), some (.ref D), y1, y2, y3, none, none, none, none] ∧ H = rg st g R (upd C2 D (.lst (as.map V.ref))) ∧ Ok st g R (upd C2 D (.lst (as.map V.ref))) ∧ C2 D = none ∧ Same C0 C2 ∧
        Rw C2 as rs ∧ as.length = i ∧ ∀ r ∈ rs, Gd ((c + ls.length : Nat) : Int) 400 r) ?_ ?_ ?_
      · exact ⟨R3, C0, [], [], none, none, none, rfl, rfl, o5, n5, Same.refl _, Rw.nil, rfl, fun r hr => nomatch hr⟩
      · rintro i σ H hi ⟨R5, C5, as, rs, y1, y2, y3, rfl, rfl, o5, hD5, hS5, hrw, hla, hwf⟩
        walk_at "go"
        -- row
        refine lcT_range (topRg st g) o5 ?_ ?_ (fun j C acc => ∃ r : List Int, acc = r.map V.int ∧ Up (c : Int) j r) ⟨[], rfl, Up.nil⟩ ?_ ?_
        · omega
        · omega
        · rintro D2 j R6 C6 acc o6 hD6 hS6 hj ⟨r, rfl, hr1⟩
          walk_at "begin"
          walk_at "go"
          refine ⟨rfl, ?_⟩
          walk_at "go"
          rename_i R7 n7 o7 n70 n71
          refine r_ite (fun _ => ?_) (fun _ => ?_)
          · walk_at "go"
            refine lcN_put (topRg st g) o7 hD6 hS6 ?_ ⟨r ++ [(j : Int)], ints_push _ _, hr1.push ?_⟩
            · rw [List.length_map]; have := hr1.1; omega
            · omega
          · exact lcN_skip o7 hD6 hS6 ⟨r, rfl, hr1.skip⟩
        · rintro Dr R6 C6 acc o6 hB6 hD6 hS6 ⟨r, rfl, hr1⟩
          obtain ⟨C7, e, hD7, hS7, hdr, q4, q5⟩ := under (y := .lst (r.map V.int)) hD5 hB6 hS6
          rw [e] at o6 ⊢
          have hdl7 := hS7 _ _ (hS5 _ _ hdl)
          walk_at "go"
          -- may
          rw [List.length_map]
          refine lcT_range (topRg st g) o6 ?_ ?_ (fun j C acc => ∃ r : List Int, acc = r.map V.int ∧ Mu (c : Int) j r) ⟨[], rfl, Mu.nil⟩ ?_ ?_
          · omega
          · omega
          · rintro D2 j R8 C8 acc o8 hD8 hS8 hj ⟨m, rfl, hm1⟩
            rw [Int.toNat_natCast] at hj
            obtain ⟨lv, hlv⟩ : ∃ lv, ls[j]? = some lv := ⟨_, List.getElem?_eq_getElem (by omega)⟩
            have hat : atI (ls.map V.int) (j : Int) = some (.int lv) := at_i (by omega) (by rw [Int.toNat_natCast, List.getElem?_map, hlv]; rfl)
            have hdl8 := hS8 _ _ (upd_old hD7 hdl7)
            walk_at "begin"
            walk_at "go"
            refine ⟨rfl, ?_⟩
            walk_at "go"
            refine r_ite (fun _ => ?_) (fun _ => ?_)
            · walk_at "go"
              refine lcN_put (topRg st g) o8 hD8 hS8 ?_ ⟨m ++ [(c : Int) + (j : Int)], ints_push _ _, hm1.put⟩
              · rw [List.length_map]; have := hm1.1; omega
            · exact lcN_skip o8 hD8 hS8 ⟨m, rfl, hm1.skip⟩
          · rintro Dm R8 C8 acc o8 hB8 hD8 hS8 ⟨m, rfl, hm1⟩
            rw [Int.toNat_natCast] at hm1
            obtain ⟨C9, e, hD9, hS9, hdm, q6, q7⟩ := under (y := .lst (m.map V.int)) hD7 hB8 hS8
            rw [e] at o8 ⊢
            have hdr9 := hS9 _ _ hdr
            walk_at "go"
            refine lcT_list (topRg st g) (K := K) o8 (xs := m.map V.int) (upd_old hD9 hdm) (fun j C acc => ∃ t : List Int, acc = t.map V.int ∧ t.Sublist (m.take j)) ⟨[], rfl, List.nil_sublist _⟩ ?_ ?_
            · rintro D2 j x R10 C10 acc o10 hD10 hS10 hx ⟨t, rfl, ht⟩
              obtain ⟨z, rfl, hz⟩ := ints_at hx
              have htl := ht.length_le
              rw [List.length_take] at htl
              walk_at "begin"
              walk_at "go"
              refine ⟨rfl, ?_⟩
              walk_at "go"
              rename_i R11 n11' o11 n110 n111
              rw [tk_succ hz]
              refine r_ite (fun _ => ?_) (fun _ => ?_)
              · walk_at "go"
                refine lcN_put (topRg st g) o11 hD10 hS10 ?_ ⟨t ++ [z], ints_push _ _, ht.append (List.Sublist.refl _)⟩
                · rw [List.length_map]; have := hm1.1; omega
              · exact lcN_skip o11 hD10 hS10 ⟨t, rfl, ht.trans (List.sublist_append_left _ _)⟩
            · rintro Dt R10 C10 acc o10 hB10 hD10 hS10 ⟨t, rfl, ht⟩
              rw [List.length_map, List.take_length] at ht
              have htl := ht.length_le
              have hr1l := hr1.1
              have hm1l := hm1.1
              obtain ⟨C11, e, hD11, hS11, hdt, q8, q9⟩ := under (y := .lst (t.map V.int)) hD9 hB10 hS10
              rw [e] at o10 ⊢
              refine r_cat (rg_get o10 (upd_old hD11 (hS11 _ _ hdr9))) (rg_get o10 (upd_old hD11 hdt)) (by rw [List.length_map, List.length_map]; omega) fun p np => ?_
              obtain ⟨e, o12, hD12, n12, ne12⟩ := newTD_eq (topRg st g) o10 hD11 np (.lst (r.map V.int ++ t.map V.int))
              rw [e]
              walk_at "go"
              rw [(setTD_eq (topRg st g) o12 _).1]
              have o13 := (setTD_eq (topRg st g) o12 (.lst ((as ++ [p]).map V.ref))).2
              have sm := ((hS7.trans hS9).trans hS11).trans (same_new (o := .lst (r.map V.int ++ t.map V.int)) n12)
              exact ⟨R10, _, as ++ [p], rs ++ [r ++ t], _, _, _, rfl, by rw [refs_push], o13, hD12, hS5.trans sm, (hrw.mono sm).push (by rw [upd_same, List.map_append]), by rw [List.length_append, List.length_singleton, hla], wf_push hwf (gd_cat hr1 hm1 ht (Nat.le_refl _) (by omega))⟩
      · rintro σ H ⟨R5, C5, as, rs, y1, y2, y3, rfl, rfl, o5, hD5, hS5, hrw, hla, hwf⟩
        rw [Int.toNat_natCast] at hla
        walk_at "go"
        refine ⟨fun σ HM => ∃ (R : RS) (C2 : Hp) (as : List Addr) (rs : List (List Int)) (y8 : Option V), σ = [some (.ref st), some (.int most), some (.int bs), some (.int thin), some (.int c), some (.ref Dl), some (.ref D), y1, y2, y3, y8, none, none, none] ∧ HM = rg st g R (upd C2 D (.lst (as.map V.ref))) ∧ Ok st g R (upd C2 D (.lst (as.map V.ref))) ∧ C2 D = none ∧ Same C0 C2 ∧
          Rw C2 as rs ∧ as.length = c ∧ ∀ r ∈ rs, Gd ((c + ls.length : Nat) : Int) 400 r, ?_, ?_⟩
        · walk_at "go"
          refine r_ite (fun hgt => ?_) (fun _ => ?_)
          · walk_at "go"
            rename_i R6 n6 o6 n60 n61
            refine r_ite (fun _ => ?_) (fun _ => ?_)
            · walk_at "go"
              rename_i R7 n7 o7 n70 n71 R8 n8 o8 n80 n81
              obtain ⟨r, hr⟩ : ∃ r, rs[n8.toNat]? = some r := ⟨_, List.getElem?_eq_getElem (by rw [← hrw.1]; omega)⟩
              obtain ⟨bb, _, w2, w3⟩ := Ro.get (f := V.int) hrw hr
              have hat := at_i n80 w2
              have hix : ixN (as.map V.ref).length (1 + n7) = some (1 + n7).toNat := ix_i (by omega) (by rw [List.length_map]; omega)
              walk_at "go"
              intro p np
              obtain ⟨e, o9, hD9, n9, ne9⟩ := newTD_eq (topRg st g) o8 hD5 np (.lst (r.map V.int))
              rw [e]
              walk_at "go"
              rw [refsSet, (setTD_eq (topRg st g) o9 _).1]
              have o10 := (setTD_eq (topRg st g) o9 (.lst ((as.set (1 + n7).toNat p).map V.ref))).2
              have sm := same_new (o := .lst (r.map V.int)) n9
              exact ⟨R8, _, as.set (1 + n7).toNat p, rs.set (1 + n7).toNat r, _, rfl, rfl, o10, hD9, hS5.trans sm, (hrw.mono sm).set _ upd_same, by rw [List.length_set, hla], set_all hwf (hwf r (List.mem_of_getElem? hr))⟩
            · walk_at "go"
              exact ⟨R6, C5, as, rs, _, rfl, rfl, o6, hD5, hS5, hrw, hla, hwf⟩
          · walk_at "go"
            exact ⟨R5, C5, as, rs, _, rfl, rfl, o5, hD5, hS5, hrw, hla, hwf⟩
        · rintro σ HM ⟨R6, C6, as, rs, y8, rfl, rfl, o6, hD6, hS6, hrw, hla, hwf⟩
          clear hD5 hS5 o5
          walk_at "go"
          refine r_forL (xs := ls.map V.int) (rg_get o6 (upd_old hD6 (hS6 _ _ hdl))) (fun i σ H => ∃ (R : RS) (C2 : Hp) (as : List Addr) (rs : List (List Int)) (y9 : Option V), σ = [some (.ref st), some (.int most), some (.int bs), some (.int thin), some (.int c), some (.ref Dl), some (.ref D), y1, y2, y3, y8, y9, none, none] ∧ H = rg st g R (upd C2 D (.lst (as.map V.ref))) ∧ Ok st g R (upd C2 D (.lst (as.map V.ref))) ∧ C2 D = none ∧ Same C0 C2 ∧
            Rw C2 as rs ∧ as.length = c + i ∧ ∀ r ∈ rs, Gd ((c + ls.length : Nat) : Int) 400 r) ?_ ?_ ?_ ?_
          · exact ⟨R6, C6, as, rs, _, rfl, rfl, o6, hD6, hS6, hrw, hla, hwf⟩
          · rintro i σ H _ ⟨R7, C7, as, rs, y9, rfl, rfl, o7, hD7, hS7, hrw, hla, hwf⟩
            exact rg_get o7 (upd_old hD7 (hS7 _ _ hdl))
          · rintro i x σ H hx ⟨R7, C7, as, rs, y9, rfl, rfl, o7, hD7, hS7, hrw, hla, hwf⟩
            obtain ⟨lv, rfl, hlv⟩ := ints_at hx
            obtain ⟨l0, l1⟩ := hl2 lv (List.mem_of_getElem? hlv)
            have hil := (List.getElem?_eq_some_iff.mp hlv).1
            walk_at "go"
            refine lcT_range (topRg st g) o7 ?_ ?_ (fun j C acc => ∃ r : List Int, acc = r.map V.int ∧ Up (c : Int) j r) ⟨[], rfl, Up.nil⟩ ?_ ?_
            · omega
            · omega
            · rintro D2 j R8 C8 acc o8 hD8 hS8 hj ⟨r, rfl, hr1⟩
              walk_at "begin"
              walk_at "go"
              refine ⟨rfl, ?_⟩
              walk_at "go"
              rename_i R9 n9 o9 n90 n91
              refine r_ite (fun _ => ?_) (fun _ => ?_)
              · walk_at "go"
                refine lcN_put (topRg st g) o9 hD8 hS8 ?_ ⟨r ++ [(j : Int)], ints_push _ _, hr1.push ?_⟩
                · rw [List.length_map]; have := hr1.1; omega
                · omega
              · exact lcN_skip o9 hD8 hS8 ⟨r, rfl, hr1.skip⟩
            · rintro D2 R8 C8 acc o8 hB8 hD8 hS8 ⟨r, rfl, hr1⟩
              obtain ⟨C9, e, q1, q2, q3, q4, q5⟩ := under (y := .lst (r.map V.int)) hD7 hB8 hS8
              rw [e] at o8 ⊢
              walk_at "go"
              rw [(setTD_eq (topRg st g) o8 _).1]
              have o9 := (setTD_eq (topRg st g) o8 (.lst ((as ++ [D2]).map V.ref))).2
              have hg2 := hr1.gd (L := 400) (by omega)
              exact ⟨R8, C9, as ++ [D2], rs ++ [r], _, rfl, by rw [refs_push], o9, q1, hS7.trans q2, (hrw.mono q2).push q3, by rw [List.length_append, List.length_singleton, hla]; omega, wf_push hwf (gd_up hg2 (by omega) (Nat.le_refl _))⟩
          · rintro σ H ⟨R7, C7, as, rs, y9, rfl, rfl, o7, hD7, hS7, hrw, hla, hwf⟩
            rw [List.length_map] at hla
            walk_at "go"
            walk_at "newD"
            rename_i p np o8 hD8 n8 ne8
            walk_at "go"
            have sm := same_new (o := .lst [V.int (c : Int), V.ref D]) n8
            refine q _ _ p D as rs (c + ls.length) c o8 (((hS0.trans hS7).trans sm).trans (same_new hD8)) (upd_old hD8 upd_same) upd_same (hrw.mono (sm.trans (same_new hD8))) ⟨by rw [← hrw.1, hla], hwf⟩ ?_ ?_ ?_
            · omega
            · omega
            · omega
end
end K39
namespace K39
open PySem PySem.Spec PyProof.Rows L2 Lw


local macro_rules | `(tactic| walk_at "look") => `(tactic| first
  | assumption
  | with_reducible exact upd_same
  | with_reducible exact rg_st
  | with_reducible exact rg_g (by assumption)
  | (with_reducible refine upd_old (by assumption) ?_; walk_at "look")
  | (with_reducible refine rg_get (by assumption) ?_; walk_at "look")
  | (with_reducible refine Same.get (by assumption) ?_; walk_at "look"))
local macro_rules | `(tactic| walk_at "cond") => `(tactic| first
  | (show _ ≠ _; omega) | exact cdivN (by omega) (by omega) | exact cmul_mod (by decide) (by decide) | exact cmulR (by omega) (by omega) | exact cmulL (by omega) (by omega) | exact cpow (by omega) (by omega) (by omega) (by omega) | (show (0:Int) ≤ _; omega))
local macro_rules | `(tactic| walk_at "at") => `(tactic| first | assumption | with_unfolding_all rfl)
local macro_rules | `(tactic| walk_at "sz") => `(tactic| first | assumption | (refine small ?_; omega) | (refine small ?_; simp only [List.length_map, List.length_append, List.length_cons, List.length_nil]; omega))
local macro_rules | `(tactic| walk_at "len") => `(tactic| first | exact size_nil | exact Nat.le_of_lt (small (by simp only [List.length_cons, List.length_nil, List.length_map]; omega)))
local macro_rules | `(tactic| walk_at "newD") => `(tactic| (refine ⟨by walk_at "len", fun p np => ?_⟩; obtain ⟨e, o', hD', n', ne'⟩ := newTD_eq (topRg _ _) (by assumption) (by assumption) np (.lst _); rw [e]; clear e))
local macro_rules | `(tactic| walk_at "new") => `(tactic| (refine ⟨by walk_at "len", fun p np => ?_⟩; obtain ⟨e, o', n'⟩ := newT_eq (topRg _ _) (by assumption) np (.lst _); rw [e]; clear e))
local macro_rules | `(tactic| walk_at "st") => `(tactic| first
  | with_reducible refine r_seq ?_
  | with_reducible refine r_var rfl ?_
  | with_reducible refine r_c ?_
  | with_reducible refine r_asg ?_
  | (with_reducible refine r_name ?_; dsimp only [List.set_cons_zero, List.set_cons_succ])
  | with_reducible refine r_sub ?_
  | with_reducible refine r_op ?_
  | with_reducible refine r_i0 ?_
  | (with_reducible refine' r_i ?k1 ?_; (case k1 => walk_at "cond"))
  | with_reducible refine r_cons ?_
  | with_reducible refine r_nil ?_
  | with_reducible refine r_cb ?_
  | with_reducible refine r_call ?_
  | with_reducible refine r_ifs ?_
  | with_reducible refine r_test ?_
  | with_reducible refine r_tB ?_
  | with_reducible refine r_bl ?_
  | with_reducible refine r_ret ?_
  | with_reducible refine r_drop ?_
  | with_reducible refine r_next ?_
  | (with_reducible refine' r_ixL ?k1 ?k2 ?_; (case k1 => walk_at "look"); (case k2 => walk_at "at"))
  | (with_reducible refine' r_setL ?k1 ?k2 ?_; (case k1 => walk_at "look"); (case k2 => walk_at "at"))
  | (with_reducible refine' r_tup (SqT.of ?k1) ?k2 ?_; (case k1 => walk_at "look"); (case k2 => rfl))
  | with_reducible refine r_gcons ?_
  | with_reducible refine r_gnil ?_
  | with_reducible refine r_aug rfl ?_
  | with_reducible refine r_augS ?_
  | with_reducible refine r_ipI ?_
  | with_reducible refine r_un ?_
  | with_reducible refine r_u ?_
  | with_reducible refine r_eq rfl ?_
  | with_reducible refine r_ne rfl ?_
  | with_reducible refine r_chain ?_
  | with_reducible refine iteF ?_
  | with_reducible refine r_not ?_
  | with_reducible refine r_and ?_
  | with_reducible refine r_or ?_
  | with_reducible refine r_andV ?_
  | with_reducible refine r_orV ?_
  | with_reducible refine r_notV ?_
  | with_reducible refine r_lst ?_
  | with_reducible refine r_bm ?_
  | with_reducible refine r_bm0 ?_
  | (with_reducible refine' And.intro (r_ty ?k1) ?_; (case k1 => walk_at "look"))
  | (with_reducible refine' r_append ?k1 ?k2 ?_; (case k1 => walk_at "look"); (case k2 => walk_at "sz"))
  | (with_reducible refine' r_lenK ?k1 ?_; (case k1 => walk_at "look"))
  | (with_reducible refine' r_listOf ?k1 ?_; (case k1 => walk_at "look"))
  | (with_reducible refine' r_sortedI ?k1 ?_; (case k1 => walk_at "look"))
  | (with_reducible refine' r_sum ?k1 ?_; (case k1 => walk_at "look"))
  | with_reducible refine r_int ?_
  | (with_reducible refine' r_draw (by assumption) ?k1 ?k2 ?_; (case k1 => omega); (case k2 => omega); intro R' n' o' h' h'')
  | with_reducible refine iteT ?_
  | with_reducible refine r_revL ?_
  | with_reducible refine r_lc ?_
  | with_reducible refine r_yes ?_
  | with_reducible refine r_sl ?_
  | with_reducible refine r_noPart ?_
  | with_reducible refine r_part ?_
  | with_reducible refine r_lc2 ?_
  | with_reducible refine r_callN ?_
  | with_reducible refine r_callD ?_
  | with_reducible refine r_tupE ?_
  | with_reducible refine r_rng2 ?_
  | with_reducible refine r_i1 ?_
  | (with_reducible refine' r_slL ?k1 ?_; (case k1 => walk_at "look"))
  | with_reducible refine r_for ?_
  | with_reducible refine r_iList ?_
  | with_reducible refine r_rng1 ?_
  | with_reducible refine r_enum ?_
  | (with_reducible show Ends.nx _ _ _; dsimp only)
  | (with_reducible show Ends.rt _ _ _; dsimp only)
  | (with_reducible show Ends.ct _ _ _; dsimp only)
  | (with_reducible show Ends.bk _ _ _; dsimp only))
local macro_rules | `(tactic| walk_at "go") => `(tactic| repeat (walk_at "st"))
local macro_rules | `(tactic| walk_at "begin") => `(tactic| dsimp only [cxOf, wipe, L2.start, List.map, List.length_cons, List.length_nil, Nat.reduceAdd, Nat.reduceSub, List.replicate, List.cons_append, List.nil_append])


theorem rw_append {C : Hp} {as bs : List Addr} {rs ss : List (List Int)} (h : Rw C as rs) (h2 : Rw C bs ss) : Rw C (as ++ bs) (rs ++ ss) := by
  refine ⟨by rw [List.length_append, List.length_append, h.1, h2.1], fun i b e => ?_⟩
  by_cases hi : i < as.length
  · rw [List.getElem?_append_left hi] at e
    obtain ⟨r, h3, h4⟩ := h.2 i b e
    exact ⟨r, by rw [List.getElem?_append_left (by rw [← h.1]; exact hi)]; exact h3, h4⟩
  · rw [List.getElem?_append_right (by omega)] at e
    obtain ⟨r, h3, h4⟩ := h2.2 _ b e
    exact ⟨r, by rw [List.getElem?_append_right (by rw [← h.1]; omega), ← h.1]; exact h3, h4⟩
section
variable {P : Program} {w : World} {K : PySem.W.Frag} {mg : Str → Option Value} {base : Heap}
theorem ok_chain {f f1 : Addr} {fd fd1 : FuncData} (B : Blt mg) (D : Dn K mg "_law_chain" s__law_chain ["state"] f fd) (D_law_draw : Dn K mg "_law_draw" s__law_draw ["state", "many"] f1 fd1)
    (G_law_draw : FnOk P w K mg base CX0 1 f1 fd1 ["state", "many"] spDraw) : FnOk P w K mg base CX0 2 f fd ["state"] spSk := by
  refine D.F.ok sc__law_chain (fun vs H Q E h => ?_) (fun cdv A outer s H vs Q E hr h => ?_)
  · obtain ⟨st, g, R, B, rfl, _⟩ := h
    rfl
  · obtain ⟨st, g, R, C, rfl, rfl, o, q⟩ := h
    refine ⟨_, (pss_cons (ps_set (i := 1) sc__law_chain.nd rfl (.inl rfl) (pe_op op_add pe_int (pe_call G_law_draw (hr.mono (by decide)) (by rfl) D_law_draw.g D_law_draw.F.kp D_law_draw.b .nil pass0 (pa_cons (pv 0) (pa_cons pe_int pa_nil)))))
      (pss_cons (ps_set (i := 2) sc__law_chain.nd rfl (.inl rfl) (pe_op op_cat (pe_lst (pa_cons (pe_lst pa_nil) pa_nil)) (pe_lc (own := [("at", 5)]) rfl sc__law_chain.nd (pi_range1 (by rfl) B.m_range (pa_cons (pe_op op_sub (pv 1) pe_int) pa_nil)) (blkOk_by (own := [("at", 5)]) (by kernel_rfl))
        (fun _ _ _ _ _ => (pg_name (i := 5) sc__law_chain.nd rfl (.inl rfl))) (fun _ _ _ _ _ => pts_nil)
        (fun _ _ _ _ _ => (pe_lst (pa_cons (pv 5) pa_nil))))))
      (pss_cons (ps_for PassesOwn.never rfl (pi_range1 (by rfl) B.m_range (pa_cons (pe_call G_law_draw (hr.mono (by decide)) (by rfl) D_law_draw.g D_law_draw.F.kp D_law_draw.b .nil pass0 (pa_cons (pv 0) (pa_cons pe_int pa_nil))) pa_nil)) (pg_name (i := 3) sc__law_chain.nd rfl (.inl rfl)) (pss_one (ps_expr (pe_bmK (K := K) rfl PySem.F.plainAttrs_list PySem.F.slot_list_append PySem.F.type_list_append mt_append (pv 2) (pa_cons (pe_lst (pa_cons pe_int (pa_cons (pe_op op_add pe_int (pe_call G_law_draw (hr.mono (by decide)) (by rfl) D_law_draw.g D_law_draw.F.kp D_law_draw.b .nil pass0 (pa_cons (pv 0) (pa_cons (pe_op op_sub (pv 1) pe_int) pa_nil)))) pa_nil))) pa_nil)))))
      (pss_cons (ps_set (i := 4) sc__law_chain.nd rfl (.inl rfl) (pe_callB (call_len_seqK (K := K) rfl) (by rfl) B.m_len PySem.boot_len (pa_cons (pv 2) pa_nil)))
      (pss_cons (ps_for PassesOwn.never rfl (pi_range1 (by rfl) B.m_range (pa_cons (pe_call G_law_draw (hr.mono (by decide)) (by rfl) D_law_draw.g D_law_draw.F.kp D_law_draw.b .nil pass0 (pa_cons (pv 0) (pa_cons pe_int pa_nil))) pa_nil)) (pg_name (i := 3) sc__law_chain.nd rfl (.inl rfl)) (pss_one (ps_expr (pe_bmK (K := K) rfl PySem.F.plainAttrs_list PySem.F.slot_list_append PySem.F.type_list_append mt_append (pv 2) (pa_cons (pe_lc (own := [("at", 5)]) rfl sc__law_chain.nd (pi_range1 (by rfl) B.m_range (pa_cons (pv 4) pa_nil)) (blkOk_by (own := [("at", 5)]) (by kernel_rfl))
        (fun _ _ _ _ _ => (pg_name (i := 5) sc__law_chain.nd rfl (.inl rfl))) (fun _ _ _ _ _ => (pts_one (pt_cmpR op_eq (pe_call G_law_draw (hr.mono (by decide)) (by rfl) D_law_draw.g D_law_draw.F.kp D_law_draw.b .nil pass0 (pa_cons (pv 0) (pa_cons pe_int pa_nil))) pe_int (nomark _))))
        (fun _ _ _ _ _ => (pv 5))) pa_nil)))))
      (pss_one (ps_ret (pe_lst (pa_cons (pv 4) (pa_cons (pv 2) pa_nil)))))))))), ?_⟩
    walk_at "begin"
    walk_at "go"
    rename_i R1 n1 o1 n10 n11
    refine ⟨size_nil, fun p1 np1 => ?_⟩
    obtain ⟨e, o2, m1⟩ := newT_eq (topRg st g) o1 np1 (.lst [])
    rw [e]
    walk_at "go"
    refine ⟨by walk_at "len", fun p2 np2 => ?_⟩
    obtain ⟨e, o3, m2⟩ := newT_eq (topRg st g) o2 np2 (.lst [.ref p1])
    rw [e]
    have hS1 : Same C (upd (upd C p1 (.lst [])) p2 (.lst [.ref p1])) := (same_new m1).trans (same_new m2)
    have hp1 : upd (upd C p1 (.lst [])) p2 (.lst [.ref p1]) p1 = some (.lst (([] : List Int).map V.int)) := upd_old m2 upd_same
    have hp2 : upd (upd C p1 (.lst [])) p2 (.lst [.ref p1]) p2 = some (.lst ([p1].map V.ref)) := upd_same
    generalize upd (upd C p1 (.lst [])) p2 (.lst [.ref p1]) = C1 at o3 hS1 hp1 hp2 ⊢
    clear o2 m2 np1 np2 m1
    obtain ⟨sz, hsz⟩ : ∃ sz : Nat, 2 + n1 = sz := ⟨(2 + n1).toNat, by omega⟩
    rw [hsz]
    walk_at "go"
    refine lcT_range (topRg st g) o3 ?_ ?_ (fun i C acc => ∃ (as : List Addr) (rs : List (List Int)), acc = as.map V.ref ∧ Rw C as rs ∧ as.length = i ∧ ∀ r ∈ rs, Gd (sz : Int) 400 r) ⟨[], [], rfl, Rw.nil, rfl, fun r hr => nomatch hr⟩ ?_ ?_
    · omega
    · omega
    · rintro D1 i R3 C3 acc o4 hD hS hi ⟨as, rs, rfl, hrw, hla, hwf⟩
      walk_at "begin"
      walk_at "go"
      refine ⟨rfl, ?_⟩
      walk_at "go"
      walk_at "newD"
      rename_i p np o5 hD4 n4 ne4
      have hrw2 := hrw.mono (same_new (o := .lst [V.int (i : Int)]) n4)
      refine lcN_put (topRg st g) o5 hD4 (hS.trans (same_new n4)) ?_ ⟨as ++ [p], rs ++ [[(i : Int)]], refs_push _ _, hrw2.push upd_same, ?_, wf_push hwf ⟨by show 1 ≤ 400; decide, nodup_le1 (Nat.le_refl 1), fun e he => by rw [List.mem_singleton.mp he]; omega⟩⟩
      · rw [List.length_map]; omega
      · rw [List.length_append, List.length_singleton]; omega
    · rintro D1 R3 C3 acc o4 hB hD1 hS2 ⟨as, rs, rfl, hrw0, hla, hwf⟩
      have hS3 := hS2.trans (same_new (o := .lst (as.map V.ref)) hD1)
      have hd1 : upd C3 D1 (.lst (as.map V.ref)) D1 = some (.lst (as.map V.ref)) := upd_same
      have hrw := hrw0.mono (same_new (o := .lst (as.map V.ref)) hD1)
      generalize upd C3 D1 (.lst (as.map V.ref)) = C4 at o4 hS3 hd1 hrw ⊢
      refine r_cat (rg_get o4 (hS3 _ _ hp2)) (rg_get o4 hd1) (by simp only [List.length_map, List.length_cons, List.length_nil]; omega) fun D nD => ?_
      rw [← List.map_append]
      obtain ⟨e, o5, n5⟩ := newT_eq (topRg st g) o4 nD (.lst (([p1] ++ as).map V.ref))
      rw [e]
      have hrw1 : Rw C4 ([p1] ++ as) ([[]] ++ rs) := rw_append (Rw.nil.push (r := []) (b := p1) (hS3 _ _ hp1)) hrw
      have hl1 : ([p1] ++ as).length = sz := by rw [List.length_append, hla, List.length_singleton]; omega
      have hw1 : ∀ r ∈ ([[]] ++ rs), Gd (sz : Int) 400 r := fun r hr => by
        rcases List.mem_append.mp hr with z | z
        · rw [List.mem_singleton.mp z]; exact ⟨Nat.zero_le _, List.nodup_nil, fun e he => nomatch he⟩
        · exact hwf r z
      have hSC : Same C C4 := hS1.trans hS3
      generalize [p1] ++ as = as1 at o5 hrw1 hl1 ⊢
      generalize [[]] ++ rs = rs1 at hrw1 hw1
      walk_at "go"
      rename_i R6 n6 o6 n60 n61
      refine r_forR (n := n6) (by omega) (by omega) (fun i σ H => ∃ (R : RS) (C5 : Hp) (as : List Addr) (rs : List (List Int)) (y3 : Option V), σ = [some (.ref st), some (.int sz), some (.ref D), y3, none, none] ∧ H = rg st g R (upd C5 D (.lst (as.map V.ref))) ∧ Ok st g R (upd C5 D (.lst (as.map V.ref))) ∧ C5 D = none ∧ Same C C5 ∧
        Rw C5 as rs ∧ as.length = sz + i ∧ ∀ r ∈ rs, Gd (sz : Int) 400 r) ?_ ?_ ?_
      · exact ⟨R6, C4, as1, rs1, _, rfl, rfl, o6, n5, hSC, hrw1, hl1, hw1⟩
      · rintro i σ H hi ⟨R7, C7, as, rs, y3, rfl, rfl, o7, hD7, hS7, hrw, hla, hwf⟩
        walk_at "go"
        rename_i R8 n8 o8 n80 n81
        walk_at "newD"
        rename_i p np o9 hD9 n9 ne9
        walk_at "go"
        rw [(setTD_eq (topRg st g) o9 _).1]
        have o10 := (setTD_eq (topRg st g) o9 (.lst ((as ++ [p]).map V.ref))).2
        have sm := same_new (o := .lst [V.int 0, V.int (1 + n8)]) n9
        refine ⟨R8, _, as ++ [p], rs ++ [[0, 1 + n8]], _, rfl, by rw [refs_push], o10, hD9, hS7.trans sm, (hrw.mono sm).push upd_same, by rw [List.length_append, List.length_singleton, hla]; omega, wf_push hwf ⟨by show 2 ≤ 400; decide, ?_, fun e he => ?_⟩⟩
        · simp only [List.nodup_cons, List.mem_singleton, List.not_mem_nil, not_false_eq_true, List.nodup_nil, and_true]; omega
        · simp only [List.mem_cons, List.not_mem_nil, or_false] at he
          rcases he with rfl | rfl <;> omega
      · rintro σ H ⟨R7, C7, as, rs, y3, rfl, rfl, o7, hD7, hS7, hrw, hla, hwf⟩
        walk_at "go"
        rw [List.length_map, hla]
        obtain ⟨c, hc⟩ : ∃ c : Nat, sz + n6.toNat = c := ⟨_, rfl⟩
        rw [hc] at hla ⊢
        rename_i R8 n8 o8 n80 n81
        refine r_forR (n := n8) (by omega) (by omega) (fun i σ H => ∃ (R : RS) (C5 : Hp) (as : List Addr) (rs : List (List Int)) (y3 : Option V), σ = [some (.ref st), some (.int sz), some (.ref D), y3, some (.int c), none] ∧ H = rg st g R (upd C5 D (.lst (as.map V.ref))) ∧ Ok st g R (upd C5 D (.lst (as.map V.ref))) ∧ C5 D = none ∧ Same C C5 ∧
          Rw C5 as rs ∧ as.length = c + i ∧ ∀ r ∈ rs, Gd ((c + n8.toNat : Nat) : Int) 400 r) ?_ ?_ ?_
        · exact ⟨R8, C7, as, rs, _, rfl, rfl, o8, hD7, hS7, hrw, hla, fun r hr => gd_up (hwf r hr) (by omega) (Nat.le_refl _)⟩
        · rintro i σ H hi ⟨R7, C7, as, rs, y9, rfl, rfl, o7, hD7, hS7, hrw, hla, hwf⟩
          walk_at "go"
          refine lcT_range (topRg st g) o7 ?_ ?_ (fun j C acc => ∃ r : List Int, acc = r.map V.int ∧ Up (c : Int) j r) ⟨[], rfl, Up.nil⟩ ?_ ?_
          · omega
          · omega
          · rintro D2 j R8 C8 acc o8 hD8 hS8 hj ⟨r, rfl, hr1⟩
            walk_at "begin"
            walk_at "go"
            refine ⟨rfl, ?_⟩
            walk_at "go"
            rename_i R9 n9 o9 n90 n91
            refine r_ite (fun _ => ?_) (fun _ => ?_)
            · walk_at "go"
              refine lcN_put (topRg st g) o9 hD8 hS8 ?_ ⟨r ++ [(j : Int)], ints_push _ _, hr1.push ?_⟩
              · rw [List.length_map]; have := hr1.1; omega
              · omega
            · exact lcN_skip o9 hD8 hS8 ⟨r, rfl, hr1.skip⟩
          · rintro D2 R8 C8 acc o8 hB8 hD8 hS8 ⟨r, rfl, hr1⟩
            obtain ⟨C9, e, q1, q2, q3, q4, q5⟩ := under (y := .lst (r.map V.int)) hD7 hB8 hS8
            rw [e] at o8 ⊢
            walk_at "go"
            rw [(setTD_eq (topRg st g) o8 _).1]
            have o9 := (setTD_eq (topRg st g) o8 (.lst ((as ++ [D2]).map V.ref))).2
            have hg2 := hr1.gd (L := 400) (by omega)
            exact ⟨R8, C9, as ++ [D2], rs ++ [r], _, rfl, by rw [refs_push], o9, q1, hS7.trans q2, (hrw.mono q2).push q3, by rw [List.length_append, List.length_singleton, hla]; omega, wf_push hwf (gd_up hg2 (by omega) (Nat.le_refl _))⟩
        · rintro σ H ⟨R7, C7, as, rs, y9, rfl, rfl, o7, hD7, hS7, hrw, hla, hwf⟩
          walk_at "go"
          walk_at "newD"
          rename_i p np o8 hD8 n8' ne8
          walk_at "go"
          have sm := same_new (o := .lst [V.int (c : Int), V.ref D]) n8'
          refine q _ _ p D as rs (c + n8.toNat) c o8 ((hS7.trans sm).trans (same_new hD8)) (upd_old hD8 upd_same) upd_same (hrw.mono (sm.trans (same_new hD8))) ⟨by rw [← hrw.1, hla], hwf⟩ ?_ ?_ ?_
          · omega
          · omega
          · omega
end
end K39
namespace K39
open PySem PySem.Spec PyProof.Rows L2 Lw


local macro_rules | `(tactic| walk_at "look") => `(tactic| first
  | assumption
  | with_reducible exact upd_same
  | with_reducible exact rg_st
  | with_reducible exact rg_g (by assumption)
  | (with_reducible refine upd_old (by assumption) ?_; walk_at "look")
  | (with_reducible refine rg_get (by assumption) ?_; walk_at "look")
  | (with_reducible refine Same.get (by assumption) ?_; walk_at "look"))
local macro_rules | `(tactic| walk_at "cond") => `(tactic| first
  | (show _ ≠ _; omega) | exact cdivN (by omega) (by omega) | exact cmul_mod (by decide) (by decide) | exact cmulR (by omega) (by omega) | exact cmulL (by omega) (by omega) | exact cpow (by omega) (by omega) (by omega) (by omega) | (show (0:Int) ≤ _; omega))
local macro_rules | `(tactic| walk_at "at") => `(tactic| first | assumption | with_unfolding_all rfl)
local macro_rules | `(tactic| walk_at "sz") => `(tactic| first | assumption | (refine small ?_; omega) | (refine small ?_; simp only [List.length_map, List.length_append, List.length_cons, List.length_nil]; omega))
local macro_rules | `(tactic| walk_at "len") => `(tactic| first | exact size_nil | exact Nat.le_of_lt (small (by simp only [List.length_cons, List.length_nil, List.length_map]; omega)))
local macro_rules | `(tactic| walk_at "newD") => `(tactic| (refine ⟨by walk_at "len", fun p np => ?_⟩; obtain ⟨e, o', hD', n', ne'⟩ := newTD_eq (topRg _ _) (by assumption) (by assumption) np (.lst _); rw [e]; clear e))
local macro_rules | `(tactic| walk_at "new") => `(tactic| (refine ⟨by walk_at "len", fun p np => ?_⟩; obtain ⟨e, o', n'⟩ := newT_eq (topRg _ _) (by assumption) np (.lst _); rw [e]; clear e))
local macro_rules | `(tactic| walk_at "st") => `(tactic| first
  | with_reducible refine r_seq ?_
  | with_reducible refine r_var rfl ?_
  | with_reducible refine r_c ?_
  | with_reducible refine r_asg ?_
  | (with_reducible refine r_name ?_; dsimp only [List.set_cons_zero, List.set_cons_succ])
  | with_reducible refine r_sub ?_
  | with_reducible refine r_op ?_
  | with_reducible refine r_i0 ?_
  | (with_reducible refine' r_i ?k1 ?_; (case k1 => walk_at "cond"))
  | with_reducible refine r_cons ?_
  | with_reducible refine r_nil ?_
  | with_reducible refine r_cb ?_
  | with_reducible refine r_call ?_
  | with_reducible refine r_ifs ?_
  | with_reducible refine r_test ?_
  | with_reducible refine r_tB ?_
  | with_reducible refine r_bl ?_
  | with_reducible refine r_ret ?_
  | with_reducible refine r_drop ?_
  | with_reducible refine r_next ?_
  | (with_reducible refine' r_ixL ?k1 ?k2 ?_; (case k1 => walk_at "look"); (case k2 => walk_at "at"))
  | (with_reducible refine' r_setL ?k1 ?k2 ?_; (case k1 => walk_at "look"); (case k2 => walk_at "at"))
  | (with_reducible refine' r_tup (SqT.of ?k1) ?k2 ?_; (case k1 => walk_at "look"); (case k2 => rfl))
  | with_reducible refine r_gcons ?_
  | with_reducible refine r_gnil ?_
  | with_reducible refine r_aug rfl ?_
  | with_reducible refine r_augS ?_
  | with_reducible refine r_ipI ?_
  | with_reducible refine r_un ?_
  | with_reducible refine r_u ?_
  | with_reducible refine r_eq rfl ?_
  | with_reducible refine r_ne rfl ?_
  | with_reducible refine r_chain ?_
  | with_reducible refine iteF ?_
  | with_reducible refine r_not ?_
  | with_reducible refine r_and ?_
  | with_reducible refine r_or ?_
  | with_reducible refine r_andV ?_
  | with_reducible refine r_orV ?_
  | with_reducible refine r_notV ?_
  | with_reducible refine r_lst ?_
  | with_reducible refine r_bm ?_
  | with_reducible refine r_bm0 ?_
  | (with_reducible refine' And.intro (r_ty ?k1) ?_; (case k1 => walk_at "look"))
  | (with_reducible refine' r_append ?k1 ?k2 ?_; (case k1 => walk_at "look"); (case k2 => walk_at "sz"))
  | (with_reducible refine' r_lenK ?k1 ?_; (case k1 => walk_at "look"))
  | (with_reducible refine' r_listOf ?k1 ?_; (case k1 => walk_at "look"))
  | (with_reducible refine' r_sortedI ?k1 ?_; (case k1 => walk_at "look"))
  | (with_reducible refine' r_sum ?k1 ?_; (case k1 => walk_at "look"))
  | with_reducible refine r_int ?_
  | (with_reducible refine' r_draw (by assumption) ?k1 ?k2 ?_; (case k1 => omega); (case k2 => omega); intro R' n' o' h' h'')
  | with_reducible refine iteT ?_
  | with_reducible refine r_revL ?_
  | with_reducible refine r_lc ?_
  | with_reducible refine r_yes ?_
  | with_reducible refine r_sl ?_
  | with_reducible refine r_noPart ?_
  | with_reducible refine r_part ?_
  | with_reducible refine r_lc2 ?_
  | with_reducible refine r_callN ?_
  | with_reducible refine r_callD ?_
  | with_reducible refine r_tupE ?_
  | with_reducible refine r_rng2 ?_
  | with_reducible refine r_i1 ?_
  | (with_reducible refine' r_slL ?k1 ?_; (case k1 => walk_at "look"))
  | with_reducible refine r_for ?_
  | with_reducible refine r_iList ?_
  | with_reducible refine r_rng1 ?_
  | with_reducible refine r_enum ?_
  | (with_reducible show Ends.nx _ _ _; dsimp only)
  | (with_reducible show Ends.rt _ _ _; dsimp only)
  | (with_reducible show Ends.ct _ _ _; dsimp only)
  | (with_reducible show Ends.bk _ _ _; dsimp only))
local macro_rules | `(tactic| walk_at "go") => `(tactic| repeat (walk_at "st"))
local macro_rules | `(tactic| walk_at "begin") => `(tactic| dsimp only [cxOf, wipe, L2.start, List.map, List.length_cons, List.length_nil, Nat.reduceAdd, Nat.reduceSub, List.replicate, List.cons_append, List.nil_append])


section
variable {P : Program} {w : World} {K : PySem.W.Frag} {mg : Str → Option Value} {base : Heap}
theorem ok_sketch {f f1 f2 f3 f4 : Addr} {fd fd1 fd2 fd3 fd4 : FuncData} (B : Blt mg) (D : Dn K mg "_law_sketch" s__law_sketch ["state"] f fd)
    (D_law_draw : Dn K mg "_law_draw" s__law_draw ["state", "many"] f1 fd1) (G_law_draw : FnOk P w K mg base CX0 1 f1 fd1 ["state", "many"] spDraw)
    (D_law_ranked : Dn K mg "_law_ranked" s__law_ranked ["state", "most", "bares", "thin"] f2 fd2) (G_law_ranked : FnOk P w K mg base CX0 2 f2 fd2 ["state", "most", "bares", "thin"] spRanked)
    (D_law_free : Dn K mg "_law_free" s__law_free ["state"] f3 fd3) (G_law_free : FnOk P w K mg base CX0 2 f3 fd3 ["state"] spSk)
    (D_law_chain : Dn K mg "_law_chain" s__law_chain ["state"] f4 fd4) (G_law_chain : FnOk P w K mg base CX0 2 f4 fd4 ["state"] spSk) :
    FnOk P w K mg base CX0 3 f fd ["state"] spSk := by
  refine D.F.ok sc__law_sketch (fun vs H Q E h => ?_) (fun cdv A outer s H vs Q E hr h => ?_)
  · obtain ⟨st, g, R, B, rfl, _⟩ := h
    rfl
  · obtain ⟨st, g, R, C, rfl, rfl, o, q⟩ := h
    refine ⟨_, (pss_cons (ps_set (i := 1) sc__law_sketch.nd rfl (.inl rfl) (pe_call G_law_draw (hr.mono (by decide)) (by rfl) D_law_draw.g D_law_draw.F.kp D_law_draw.b .nil pass0 (pa_cons (pv 0) (pa_cons pe_int pa_nil))))
      (pss_cons (ps_if (pt_cmpR op_eq (pv 1) pe_int (nomark _)) (pss_one (ps_ret (pe_call G_law_ranked (hr.mono (by decide)) (by rfl) D_law_ranked.g D_law_ranked.F.kp D_law_ranked.b .nil pass0 (pa_cons (pv 0) (pa_cons pe_int (pa_cons pe_int (pa_cons pe_int pa_nil))))))) pss_nil)
      (pss_cons (ps_if (pt_cmpR op_lt (pv 1) pe_int (nomark _)) (pss_one (ps_ret (pe_call G_law_free (hr.mono (by decide)) (by rfl) D_law_free.g D_law_free.F.kp D_law_free.b .nil pass0 (pa_cons (pv 0) pa_nil)))) pss_nil)
      (pss_cons (ps_if (pt_cmpR op_lt (pv 1) pe_int (nomark _)) (pss_one (ps_ret (pe_call G_law_ranked (hr.mono (by decide)) (by rfl) D_law_ranked.g D_law_ranked.F.kp D_law_ranked.b .nil pass0 (pa_cons (pv 0) (pa_cons pe_int (pa_cons pe_int (pa_cons pe_int pa_nil))))))) pss_nil)
      (pss_one (ps_ret (pe_call G_law_chain (hr.mono (by decide)) (by rfl) D_law_chain.g D_law_chain.F.kp D_law_chain.b .nil pass0 (pa_cons (pv 0) pa_nil)))))))), ?_⟩
    walk_at "begin"
    walk_at "go"
    rename_i R1 n1 o1 n10 n11
    refine r_ite (fun _ => ?_) (fun _ => ?_)
    · walk_at "go"
      exact ⟨st, g, R1, C, 13, 31, 5, rfl, rfl, o1, by decide, by decide, by decide, by decide, by decide, by decide, q⟩
    · walk_at "go"
      refine r_ite (fun _ => ?_) (fun _ => ?_)
      · walk_at "go"
        exact ⟨st, g, R1, C, rfl, rfl, o1, q⟩
      · walk_at "go"
        refine r_ite (fun _ => ?_) (fun _ => ?_)
        · walk_at "go"
          exact ⟨st, g, R1, C, 6, 5, 2, rfl, rfl, o1, by decide, by decide, by decide, by decide, by decide, by decide, q⟩
        · walk_at "go"
          exact ⟨st, g, R1, C, rfl, rfl, o1, q⟩
end
end K39
namespace K39
open PySem PySem.Spec PyProof.Rows L2 Lw


local macro_rules | `(tactic| walk_at "look") => `(tactic| first
  | assumption
  | with_reducible exact upd_same
  | with_reducible exact rg_st
  | with_reducible exact rg_g (by assumption)
  | (with_reducible refine upd_old (by assumption) ?_; walk_at "look")
  | (with_reducible refine rg_get (by assumption) ?_; walk_at "look")
  | (with_reducible refine Same.get (by assumption) ?_; walk_at "look"))
local macro_rules | `(tactic| walk_at "cond") => `(tactic| first
  | (show _ ≠ _; omega) | exact cdivN (by omega) (by omega) | exact cmul_mod (by decide) (by decide) | exact cmulR (by omega) (by omega) | exact cmulL (by omega) (by omega) | exact cpow (by omega) (by omega) (by omega) (by omega) | (show (0:Int) ≤ _; omega))
local macro_rules | `(tactic| walk_at "at") => `(tactic| first | assumption | with_unfolding_all rfl)
local macro_rules | `(tactic| walk_at "sz") => `(tactic| first | assumption | (refine small ?_; omega) | (refine small ?_; simp only [List.length_map, List.length_append, List.length_cons, List.length_nil]; omega))
local macro_rules | `(tactic| walk_at "len") => `(tactic| first | exact size_nil | exact Nat.le_of_lt (small (by simp only [List.length_cons, List.length_nil, List.length_map]; omega)))
local macro_rules | `(tactic| walk_at "newD") => `(tactic| (refine ⟨by walk_at "len", fun p np => ?_⟩; obtain ⟨e, o', hD', n', ne'⟩ := newTD_eq (topRg _ _) (by assumption) (by assumption) np (.lst _); rw [e]; clear e))
local macro_rules | `(tactic| walk_at "new") => `(tactic| (refine ⟨by walk_at "len", fun p np => ?_⟩; obtain ⟨e, o', n'⟩ := newT_eq (topRg _ _) (by assumption) np (.lst _); rw [e]; clear e))
local macro_rules | `(tactic| walk_at "st") => `(tactic| first
  | with_reducible refine r_seq ?_
  | with_reducible refine r_var rfl ?_
  | with_reducible refine r_c ?_
  | with_reducible refine r_asg ?_
  | (with_reducible refine r_name ?_; dsimp only [List.set_cons_zero, List.set_cons_succ])
  | with_reducible refine r_sub ?_
  | with_reducible refine r_op ?_
  | with_reducible refine r_i0 ?_
  | (with_reducible refine' r_i ?k1 ?_; (case k1 => walk_at "cond"))
  | with_reducible refine r_cons ?_
  | with_reducible refine r_nil ?_
  | with_reducible refine r_cb ?_
  | with_reducible refine r_call ?_
  | with_reducible refine r_ifs ?_
  | with_reducible refine r_test ?_
  | with_reducible refine r_tB ?_
  | with_reducible refine r_bl ?_
  | with_reducible refine r_ret ?_
  | with_reducible refine r_drop ?_
  | with_reducible refine r_next ?_
  | (with_reducible refine' r_ixL ?k1 ?k2 ?_; (case k1 => walk_at "look"); (case k2 => walk_at "at"))
  | (with_reducible refine' r_setL ?k1 ?k2 ?_; (case k1 => walk_at "look"); (case k2 => walk_at "at"))
  | (with_reducible refine' r_tup (SqT.of ?k1) ?k2 ?_; (case k1 => walk_at "look"); (case k2 => rfl))
  | with_reducible refine r_gcons ?_
  | with_reducible refine r_gnil ?_
  | with_reducible refine r_aug rfl ?_
  | with_reducible refine r_augS ?_
  | with_reducible refine r_ipI ?_
  | with_reducible refine r_un ?_
  | with_reducible refine r_u ?_
  | with_reducible refine r_eq rfl ?_
  | with_reducible refine r_ne rfl ?_
  | with_reducible refine r_chain ?_
  | with_reducible refine iteF ?_
  | with_reducible refine r_not ?_
  | with_reducible refine r_and ?_
  | with_reducible refine r_or ?_
  | with_reducible refine r_andV ?_
  | with_reducible refine r_orV ?_
  | with_reducible refine r_notV ?_
  | with_reducible refine r_lst ?_
  | with_reducible refine r_bm ?_
  | with_reducible refine r_bm0 ?_
  | (with_reducible refine' And.intro (r_ty ?k1) ?_; (case k1 => walk_at "look"))
  | (with_reducible refine' r_append ?k1 ?k2 ?_; (case k1 => walk_at "look"); (case k2 => walk_at "sz"))
  | (with_reducible refine' r_lenK ?k1 ?_; (case k1 => walk_at "look"))
  | (with_reducible refine' r_listOf ?k1 ?_; (case k1 => walk_at "look"))
  | (with_reducible refine' r_sortedI ?k1 ?_; (case k1 => walk_at "look"))
  | (with_reducible refine' r_sum ?k1 ?_; (case k1 => walk_at "look"))
  | with_reducible refine r_int ?_
  | (with_reducible refine' r_draw (by assumption) ?k1 ?k2 ?_; (case k1 => omega); (case k2 => omega); intro R' n' o' h' h'')
  | with_reducible refine iteT ?_
  | with_reducible refine r_revL ?_
  | with_reducible refine r_lc ?_
  | with_reducible refine r_yes ?_
  | with_reducible refine r_sl ?_
  | with_reducible refine r_noPart ?_
  | with_reducible refine r_part ?_
  | with_reducible refine r_lc2 ?_
  | with_reducible refine r_callN ?_
  | with_reducible refine r_callD ?_
  | with_reducible refine r_tupE ?_
  | with_reducible refine r_rng2 ?_
  | with_reducible refine r_i1 ?_
  | (with_reducible refine' r_slL ?k1 ?_; (case k1 => walk_at "look"))
  | with_reducible refine r_for ?_
  | with_reducible refine r_iList ?_
  | with_reducible refine r_rng1 ?_
  | with_reducible refine r_enum ?_
  | (with_reducible show Ends.nx _ _ _; dsimp only)
  | (with_reducible show Ends.rt _ _ _; dsimp only)
  | (with_reducible show Ends.ct _ _ _; dsimp only)
  | (with_reducible show Ends.bk _ _ _; dsimp only))
local macro_rules | `(tactic| walk_at "go") => `(tactic| repeat (walk_at "st"))
local macro_rules | `(tactic| walk_at "begin") => `(tactic| dsimp only [cxOf, wipe, L2.start, List.map, List.length_cons, List.length_nil, Nat.reduceAdd, Nat.reduceSub, List.replicate, List.cons_append, List.nil_append])


open Lm
theorem r_lenSetI {K : PySem.W.Frag} {σ : L2.St} {H : Hp} {Q : VK} {ta : TE} (h : ta σ H fun x H1 => ∃ (l : Addr) (ns : List Int), x = .ref l ∧ SqL K H1 l (ns.map V.int) ∧ ns.Nodup ∧ ns.length ≤ 4000 ∧ Q (.int (ns.length : Nat)) H1) : RZ.tLenSetI K ta σ H Q := h
local macro_rules | `(tactic| walk_at "st") => `(tactic| first
  | with_reducible refine r_lenSetI ?_
  | (with_reducible refine' r_inI ?k1 ?_; (case k1 => walk_at "look")))
theorem pick_mem {n : Nat} {f : Nat → Bool} {z : Int} : z ∈ pick n f ↔ 0 ≤ z ∧ z < (n : Int) ∧ f z.toNat = true := by
  unfold pick
  rw [List.mem_map]
  constructor
  · rintro ⟨k, hk, rfl⟩
    rw [List.mem_filter, List.mem_range] at hk
    exact ⟨Int.natCast_nonneg _, by show (k : Int) < n; omega, hk.2⟩
  · rintro ⟨h0, h1, h2⟩
    exact ⟨z.toNat, List.mem_filter.mpr ⟨List.mem_range.mpr (by omega), h2⟩, by show ((z.toNat : Nat) : Int) = z; omega⟩
theorem pick_asc (n : Nat) (f : Nat → Bool) : (pick n f).Pairwise (· < ·) := by
  unfold pick
  rw [List.pairwise_map]
  refine (List.Pairwise.filter f (List.pairwise_lt_range (n := n))).imp fun h => ?_
  show (_ : Int) < _
  exact Int.ofNat_lt.mpr h
def spIsBuilt : Sp := fun vs H Q _ => ∃ (t a : Addr) (ts as : List Addr) (T rs : List (List Int)) (l n c : Nat), vs = [.ref t, .int (c : Int), .ref a] ∧ H t = some (.lst (ts.map V.ref)) ∧ Rw H ts T ∧ Wf l 60 T ∧ (∀ r ∈ T, r.Pairwise (· < ·)) ∧ (∀ x, ¬ Tc (Ed T) x x) ∧
  H a = some (.lst (as.map V.ref)) ∧ Rw H as rs ∧ Wf n 60 rs ∧ (∀ r ∈ rs, r.Pairwise (· < ·)) ∧ c ≤ n ∧ Bd T rs n c ∧ (∀ g h, Bs c rs g h → g = h) ∧ n ≤ l ∧ 1 ≤ l ∧ (l : Int) ≤ 3 * n - c + 2 ∧ l ≤ 200 ∧ n ≤ 60 ∧
  ∀ H' : Hp, Same H H' → Q (.bl true) H'
section
variable {P : Program} {w : World} {K : PySem.W.Frag} {mg : Str → Option Value} {base : Heap}
theorem ok_isbuilt {f f1 f2 : Addr} {fd fd1 fd2 : FuncData} (B : Blt mg) (D : Dn K mg "_law_is_built" s__law_is_built ["told", "count", "rows"] f fd)
    (D_law_is_drawing : Dn K mg "_law_is_drawing" s__law_is_drawing ["drawing", "most"] f1 fd1) (G_law_is_drawing : FnOk P w K mg base CX0 1 f1 fd1 ["drawing", "most"] spIsDr)
    (D_law_sets : Dn K mg "_law_sets" s__law_sets ["drawing"] f2 fd2) (G_law_sets : FnOk P w K mg base CX0 1 f2 fd2 ["drawing"] spSets) : FnOk P w K mg base CX0 2 f fd ["told", "count", "rows"] spIsBuilt := by
  refine D.F.ok sc__law_is_built (fun vs H Q E h => ?_) (fun cdv A outer s H vs Q E hr h => ?_)
  · obtain ⟨t, a, ts, as, T, rs, l, n, c, rfl, _⟩ := h
    rfl
  · obtain ⟨t, a, ts, as, T, rs, l, n, c, rfl, ht, hT, hwT, haT, hacT, ha, hrw, hwf, hasc, hcn, BD, hal, hnl, hl1, hlm, hl2, hn, q⟩ := h
    have hlr : rs.length = n := hwf.1
    have hla : as.length = n := by rw [hrw.1]; exact hwf.1
    have hlT : T.length = l := hwT.1
    have hlt : ts.length = l := by rw [hT.1]; exact hwT.1
    have hin : In rs := In.of hwf
    refine ⟨_, (C8.pss_cut (ps_if (PW.pt (pw_or (pt_not (pt_val (pe_call G_law_is_drawing (hr.mono (by decide)) (by rfl) D_law_is_drawing.g D_law_is_drawing.F.kp D_law_is_drawing.b .nil pass0 (pa_cons (pv 0) (pa_cons (pe_op op_add (pe_op op_sub (pe_op op_mul pe_int (pe_callB (call_len_seqK (K := K) rfl) (by rfl) B.m_len PySem.boot_len (pa_cons (pv 2) pa_nil))) (pv 1)) pe_int) pa_nil))))) (pw_or1 (pt_cmpR op_lt (pe_callB (call_len_seqK (K := K) rfl) (by rfl) B.m_len PySem.boot_len (pa_cons (pv 0) pa_nil)) (pe_callB (call_len_seqK (K := K) rfl) (by rfl) B.m_len PySem.boot_len (pa_cons (pv 2) pa_nil)) (nomark _))))) (pss_one (ps_ret pe_bl)) pss_nil)
      (pss_cons (ps_set (i := 3) sc__law_is_built.nd rfl (.inr rfl) (pe_call G_law_sets (hr.mono (by decide)) (by rfl) D_law_sets.g D_law_sets.F.kp D_law_sets.b .nil pass0 (pa_cons (pv 0) pa_nil)))
      (C8.pss_cut (ps_if (PW.pt (pw_or (pt_cmpR (op_in_seqK (K := K) rfl) (pe_un un_neg pe_int) (pv 3) (by rfl)) (pw_or1 (pt_cmpR op_ne (RZ.pe_lenSetI (by rfl) B.m_len (by rfl) B.m_set (pe_slice (sl_listK (K := K) rfl) (pv 3) po_none (po_some (pe_callB (call_len_seqK (K := K) rfl) (by rfl) B.m_len PySem.boot_len (pa_cons (pv 2) pa_nil))))) (pe_callB (call_len_seqK (K := K) rfl) (by rfl) B.m_len PySem.boot_len (pa_cons (pv 2) pa_nil)) (nomark _))))) (pss_one (ps_ret pe_bl)) pss_nil)
      (pss_cons (ps_for PassesOwn.never rfl (pi_range1 (by rfl) B.m_range (pa_cons (pe_callB (call_len_seqK (K := K) rfl) (by rfl) B.m_len PySem.boot_len (pa_cons (pv 2) pa_nil)) pa_nil)) (pg_name (i := 4) sc__law_is_built.nd rfl (.inl rfl)) (pss_cons (ps_set (i := 5) sc__law_is_built.nd rfl (.inr rfl) (pe_lc (own := [("place", 6)]) rfl sc__law_is_built.nd (pi_listK (K := K) rfl (pe_ix (ix_listK (K := K) rfl) (pv 0) (pv 4) (fun _ _ => rfl))) (blkOk_by (own := [("place", 6)]) (by kernel_rfl))
        (fun _ _ _ _ _ => (pg_name (i := 6) sc__law_is_built.nd rfl (.inl rfl))) (fun _ _ _ _ _ => pts_nil)
        (fun _ _ _ _ _ => (pe_ix (ix_listK (K := K) rfl) (pv 3) (pv 6) (fun _ _ => rfl)))))
      (pss_one (ps_if (pt_cmpR (op_neDK (K := K) rfl hr.units) (pe_lc (own := [("k", 7)]) rfl sc__law_is_built.nd (pi_range1 (by rfl) B.m_range (pa_cons (pe_callB (call_len_seqK (K := K) rfl) (by rfl) B.m_len PySem.boot_len (pa_cons (pv 2) pa_nil)) pa_nil)) (blkOk_by (own := [("k", 7)]) (by kernel_rfl))
        (fun _ _ _ _ _ => (pg_name (i := 7) sc__law_is_built.nd rfl (.inl rfl))) (fun _ _ _ _ _ => (pts_one (pt_cmpR (op_in_seqK (K := K) rfl) (pe_ix (ix_listK (K := K) rfl) (pv 3) (pv 7) (fun _ _ => rfl)) (pv 5) (by rfl))))
        (fun _ _ _ _ _ => (pv 7))) (pe_ix (ix_listK (K := K) rfl) (pv 2) (pv 4) (fun _ _ => rfl)) (nomark _)) (pss_one (ps_ret pe_bl)) pss_nil))))
      (pss_one (ps_ret pe_bl)))))), ?_⟩
    walk_at "begin"
    walk_at "go"
    refine ⟨fun σ HM => σ = [some (.ref t), some (.int c), some (.ref a), none, none, none, none, none] ∧ HM = H, ?_, ?_⟩
    · walk_at "go"
      rw [List.length_map, hla]
      refine ⟨t, ts, T, l, _, rfl, ht, hT, ⟨hwT.1, fun r hr => (hwT.2 r hr).weak (by decide)⟩, haT, hl1, hlm, ?_⟩
      walk_at "go"
      refine r_iteB (fun z => absurd z (by decide)) (fun _ => ?_)
      walk_at "go"
      rw [List.length_map, List.length_map, hla, hlt]
      refine r_ite (fun z => absurd z (by omega)) (fun _ => ?_)
      walk_at "go"
      exact ⟨rfl, rfl⟩
    · rintro σ HM ⟨rfl, rfl⟩
      walk_at "go"
      refine ⟨t, ts, T, l, rfl, ht, hT, hwT, hl2, fun H1 q1 N hS1 hq1 hNl hN0 hNa hNe => ?_⟩
      have hN1 := hNa.mpr hacT
      have X := hNe hN1
      have ha1 := hS1 _ _ ha
      have ht1 := hS1 _ _ ht
      walk_at "go"
      have at_k : ∀ k : Nat, k < l → atI (N.map V.int) (k : Int) = some (.int (nat_ N k)) := fun k hk => at_i (by omega) (by rw [Int.toNat_natCast, List.getElem?_map, at_nat (N := N) (a := k) (by omega)]; rfl)
      refine ⟨fun σ HM => σ = [some (.ref t), some (.int c), some (.ref a), some (.ref q1), none, none, none, none] ∧ Same H1 HM, ?_, ?_⟩
      · walk_at "go"
        refine r_ite (fun z => absurd (hN1 _ z) (by decide)) (fun _ => ?_)
        walk_at "go"
        intro p np
        rw [List.length_map, hla, cut_to _ (Int.natCast_nonneg n), Int.toNat_natCast, ← List.map_take]
        have hnd : (N.take n).Nodup := by
          rw [List.Nodup, List.pairwise_iff_getElem]
          intro i j hi hj hij e
          rw [List.length_take] at hi hj
          rw [List.getElem_take, List.getElem_take] at e
          have e1 := at_nat (N := N) (a := i) (by omega)
          have e2 := at_nat (N := N) (a := j) (by omega)
          rw [List.getElem?_eq_getElem (by omega)] at e1 e2
          have := BD.inj X hin hasc hal (p := i) (q := j) (by omega) (by omega) (by rw [← Option.some.inj e1, ← Option.some.inj e2]; exact e)
          omega
        refine ⟨p, N.take n, rfl, SqL.of upd_same, hnd, by rw [List.length_take]; omega, ?_⟩
        have hS2 := same_new (o := .lst ((N.take n).map V.int)) np
        have ha2 := hS2 _ _ ha1
        walk_at "go"
        rw [List.length_map, hla, List.length_take, hNl, Nat.min_eq_left hnl]
        refine r_iten (fun z => absurd rfl z) (fun _ => ?_)
        walk_at "go"
        exact ⟨rfl, hS2⟩
      · rintro σ H2 ⟨rfl, hS2⟩
        have ha2 := hS2 _ _ ha1
        walk_at "go"
        rw [List.length_map, hla]
        refine r_forR (n := (n : Int)) (by omega) (by omega) (fun i σ X => ∃ (y4 y5 : Option V), σ = [some (.ref t), some (.int c), some (.ref a), some (.ref q1), y4, y5, none, none] ∧ Same H2 X) ⟨_, _, rfl, Same.refl _⟩ ?_ ?_
        · rintro i σ X3 hi ⟨y4, y5, rfl, x1⟩
          rw [Int.toNat_natCast] at hi
          have hS3 := (hS1.trans hS2).trans x1
          have hq3 := x1 _ _ (hS2 _ _ hq1)
          obtain ⟨tt, htt⟩ : ∃ r, T[i]? = some r := ⟨_, List.getElem?_eq_getElem (by omega)⟩
          obtain ⟨bt, _, bt2, bt3⟩ := Ro.get (f := V.int) (hT.mono hS3) htt
          have hatt : atI (ts.map V.ref) (i : Int) = some (.ref bt) := at_i (by omega) (by rw [Int.toNat_natCast]; exact bt2)
          have hgt := hwT.2 tt (List.mem_of_getElem? htt)
          have hgtl := hgt.1
          have ht3 := hS3 _ _ ht
          walk_at "go"
          refine lcT_list topH (K := K) (s0 := ()) trivial (xs := tt.map V.int) bt3 (fun j C acc => acc = ((tt.take j).map fun e => nat_ N e.toNat).map V.int) rfl ?_ ?_
          · rintro D2 j x _ C acc _ hD hS hx rfl
            obtain ⟨e, rfl, he⟩ := ints_at hx
            have hj := (List.getElem?_eq_some_iff.mp he).1
            have hge := hgt.2.2 e (List.mem_of_getElem? he)
            have hate : atI (N.map V.int) e = some (.int (nat_ N e.toNat)) := by
              have := at_k e.toNat (by omega)
              rwa [Int.toNat_of_nonneg hge.1] at this
            have hq4 := hS _ _ hq3
            walk_at "begin"
            walk_at "go"
            refine ⟨rfl, ?_⟩
            walk_at "go"
            refine lcN_put topH (s := ()) trivial hD hS ?_ ?_
            · rw [List.length_map, List.length_map, List.length_take]; omega
            · rw [mp_put he, List.map_append]; rfl
          · rintro Dh _ C acc _ hB hD hS rfl
            rw [List.length_map, List.take_length]
            have hS4 := hS.trans (same_new (o := .lst ((tt.map fun e => nat_ N e.toNat).map V.int)) hD)
            have hdh : upd C Dh (.lst ((tt.map fun e => nat_ N e.toNat).map V.int)) Dh = some (.lst ((tt.map fun e => nat_ N e.toNat).map V.int)) := upd_same
            generalize upd C Dh (.lst ((tt.map fun e => nat_ N e.toNat).map V.int)) = X4 at hS4 hdh ⊢
            clear hB hD hS C
            have hq4 := hS4 _ _ hq3
            have ha4 := hS4 _ _ (x1 _ _ ha2)
            obtain ⟨r, hr1⟩ : ∃ r, rs[i]? = some r := ⟨_, List.getElem?_eq_getElem (by omega)⟩
            obtain ⟨b, _, b2, b3⟩ := Ro.get (f := V.int) (hrw.mono (hS3.trans hS4)) hr1
            have hatr : atI (as.map V.ref) (i : Int) = some (.ref b) := at_i (by omega) (by rw [Int.toNat_natCast]; exact b2)
            walk_at "go"
            rw [List.length_map, hla]
            refine lcT_range topH (s0 := ()) trivial (n := (n : Int)) ?_ ?_ (fun j C acc => acc = (pick j fun k => decide (nat_ N k ∈ tt.map fun e => nat_ N e.toNat)).map V.int) rfl ?_ ?_
            · omega
            · omega
            · rintro D3 j _ C acc _ hD hS hj rfl
              rw [Int.toNat_natCast] at hj
              have hpl := pick_len j fun k => decide (nat_ N k ∈ tt.map fun e => nat_ N e.toNat)
              have hq5 := hS _ _ hq4
              have hdh5 := hS _ _ hdh
              have hatk := at_k j (by omega)
              walk_at "begin"
              walk_at "go"
              refine ⟨rfl, ?_⟩
              walk_at "go"
              refine r_ite (fun t => ?_) (fun t => ?_)
              · walk_at "go"
                refine lcN_put topH (s := ()) trivial hD hS ?_ ?_
                · rw [List.length_map]; omega
                · rw [pick_succ, if_pos (decide_eq_true t), ints_push]
              · refine lcN_skip (s := ()) trivial hD hS ?_
                rw [pick_succ, if_neg (by rw [decide_eq_true_eq]; exact t), List.append_nil]
            · rintro D3 _ C acc _ hB hD hS rfl
              rw [Int.toNat_natCast]
              have hS5 := hS.trans (same_new (o := .lst ((pick n fun k => decide (nat_ N k ∈ tt.map fun e => nat_ N e.toNat)).map V.int)) hD)
              have heq : (pick n fun k => decide (nat_ N k ∈ tt.map fun e => nat_ N e.toNat)) = r := by
                refine asc_eq (pick_asc _ _) (hasc r (List.mem_of_getElem? hr1)) fun z => ?_
                rw [pick_mem, decide_eq_true_eq, List.mem_map]
                constructor
                · rintro ⟨z0, z1, e, he, e2⟩
                  have := (BD.mem X hin hasc hal (a := i) (k := z.toNat) (by omega) (by omega) hr1 htt).mp ⟨e, he, e2⟩
                  rwa [Int.toNat_of_nonneg z0] at this
                · intro hz
                  have hz2 := (hwf.2 r (List.mem_of_getElem? hr1)).2.2 z hz
                  obtain ⟨e, he, e2⟩ := (BD.mem X hin hasc hal (a := i) (k := z.toNat) (by omega) (by omega) hr1 htt).mpr (by rw [Int.toNat_of_nonneg hz2.1]; exact hz)
                  exact ⟨hz2.1, hz2.2, e, he, e2⟩
              have ha5 := hS5 _ _ ha4
              have hb5 := hS5 _ _ b3
              have hd5 : upd C D3 (.lst ((pick n fun k => decide (nat_ N k ∈ tt.map fun e => nat_ N e.toNat)).map V.int)) D3 = some (.lst ((pick n fun k => decide (nat_ N k ∈ tt.map fun e => nat_ N e.toNat)).map V.int)) := upd_same
              rw [heq] at hS5 ha5 hb5 hd5 ⊢
              generalize upd C D3 (.lst (r.map V.int)) = X5 at hS5 ha5 hb5 hd5 ⊢
              walk_at "go"
              refine r_neI hd5 hb5 ?_
              walk_at "go"
              refine r_iten (fun z => absurd rfl z) (fun _ => ?_)
              walk_at "go"
              exact ⟨_, _, rfl, (x1.trans hS4).trans hS5⟩
        · rintro σ X3 ⟨y4, y5, rfl, x1⟩
          walk_at "go"
          exact q _ ((hS1.trans hS2).trans x1)
end
end K39
namespace K39
open PySem PySem.Spec PyProof.Rows L2 Lw


local macro_rules | `(tactic| walk_at "look") => `(tactic| first
  | assumption
  | with_reducible exact upd_same
  | with_reducible exact rg_st
  | with_reducible exact rg_g (by assumption)
  | (with_reducible refine upd_old (by assumption) ?_; walk_at "look")
  | (with_reducible refine rg_get (by assumption) ?_; walk_at "look")
  | (with_reducible refine Same.get (by assumption) ?_; walk_at "look"))
local macro_rules | `(tactic| walk_at "cond") => `(tactic| first
  | (show _ ≠ _; omega) | exact cdivN (by omega) (by omega) | exact cmul_mod (by decide) (by decide) | exact cmulR (by omega) (by omega) | exact cmulL (by omega) (by omega) | exact cpow (by omega) (by omega) (by omega) (by omega) | (show (0:Int) ≤ _; omega))
local macro_rules | `(tactic| walk_at "at") => `(tactic| first | assumption | with_unfolding_all rfl)
local macro_rules | `(tactic| walk_at "sz") => `(tactic| first | assumption | (refine small ?_; omega) | (refine small ?_; simp only [List.length_map, List.length_append, List.length_cons, List.length_nil]; omega))
local macro_rules | `(tactic| walk_at "len") => `(tactic| first | exact size_nil | exact Nat.le_of_lt (small (by simp only [List.length_cons, List.length_nil, List.length_map]; omega)))
local macro_rules | `(tactic| walk_at "newD") => `(tactic| (refine ⟨by walk_at "len", fun p np => ?_⟩; obtain ⟨e, o', hD', n', ne'⟩ := newTD_eq (topRg _ _) (by assumption) (by assumption) np (.lst _); rw [e]; clear e))
local macro_rules | `(tactic| walk_at "new") => `(tactic| (refine ⟨by walk_at "len", fun p np => ?_⟩; obtain ⟨e, o', n'⟩ := newT_eq (topRg _ _) (by assumption) np (.lst _); rw [e]; clear e))
local macro_rules | `(tactic| walk_at "st") => `(tactic| first
  | with_reducible refine r_seq ?_
  | with_reducible refine r_var rfl ?_
  | with_reducible refine r_c ?_
  | with_reducible refine r_asg ?_
  | (with_reducible refine r_name ?_; dsimp only [List.set_cons_zero, List.set_cons_succ])
  | with_reducible refine r_sub ?_
  | with_reducible refine r_op ?_
  | with_reducible refine r_i0 ?_
  | (with_reducible refine' r_i ?k1 ?_; (case k1 => walk_at "cond"))
  | with_reducible refine r_cons ?_
  | with_reducible refine r_nil ?_
  | with_reducible refine r_cb ?_
  | with_reducible refine r_call ?_
  | with_reducible refine r_ifs ?_
  | with_reducible refine r_test ?_
  | with_reducible refine r_tB ?_
  | with_reducible refine r_bl ?_
  | with_reducible refine r_ret ?_
  | with_reducible refine r_drop ?_
  | with_reducible refine r_next ?_
  | (with_reducible refine' r_ixL ?k1 ?k2 ?_; (case k1 => walk_at "look"); (case k2 => walk_at "at"))
  | (with_reducible refine' r_setL ?k1 ?k2 ?_; (case k1 => walk_at "look"); (case k2 => walk_at "at"))
  | (with_reducible refine' r_tup (SqT.of ?k1) ?k2 ?_; (case k1 => walk_at "look"); (case k2 => rfl))
  | with_reducible refine r_gcons ?_
  | with_reducible refine r_gnil ?_
  | with_reducible refine r_aug rfl ?_
  | with_reducible refine r_augS ?_
  | with_reducible refine r_ipI ?_
  | with_reducible refine r_un ?_
  | with_reducible refine r_u ?_
  | with_reducible refine r_eq rfl ?_
  | with_reducible refine r_ne rfl ?_
  | with_reducible refine r_chain ?_
  | with_reducible refine iteF ?_
  | with_reducible refine r_not ?_
  | with_reducible refine r_and ?_
  | with_reducible refine r_or ?_
  | with_reducible refine r_andV ?_
  | with_reducible refine r_orV ?_
  | with_reducible refine r_notV ?_
  | with_reducible refine r_lst ?_
  | with_reducible refine r_bm ?_
  | with_reducible refine r_bm0 ?_
  | (with_reducible refine' And.intro (r_ty ?k1) ?_; (case k1 => walk_at "look"))
  | (with_reducible refine' r_append ?k1 ?k2 ?_; (case k1 => walk_at "look"); (case k2 => walk_at "sz"))
  | (with_reducible refine' r_lenK ?k1 ?_; (case k1 => walk_at "look"))
  | (with_reducible refine' r_listOf ?k1 ?_; (case k1 => walk_at "look"))
  | (with_reducible refine' r_sortedI ?k1 ?_; (case k1 => walk_at "look"))
  | (with_reducible refine' r_sum ?k1 ?_; (case k1 => walk_at "look"))
  | with_reducible refine r_int ?_
  | (with_reducible refine' r_draw (by assumption) ?k1 ?k2 ?_; (case k1 => omega); (case k2 => omega); intro R' n' o' h' h'')
  | with_reducible refine iteT ?_
  | with_reducible refine r_revL ?_
  | with_reducible refine r_lc ?_
  | with_reducible refine r_yes ?_
  | with_reducible refine r_sl ?_
  | with_reducible refine r_noPart ?_
  | with_reducible refine r_part ?_
  | with_reducible refine r_lc2 ?_
  | with_reducible refine r_callN ?_
  | with_reducible refine r_callD ?_
  | with_reducible refine r_tupE ?_
  | with_reducible refine r_rng2 ?_
  | with_reducible refine r_i1 ?_
  | (with_reducible refine' r_slL ?k1 ?_; (case k1 => walk_at "look"))
  | with_reducible refine r_for ?_
  | with_reducible refine r_iList ?_
  | with_reducible refine r_rng1 ?_
  | with_reducible refine r_enum ?_
  | (with_reducible show Ends.nx _ _ _; dsimp only)
  | (with_reducible show Ends.rt _ _ _; dsimp only)
  | (with_reducible show Ends.ct _ _ _; dsimp only)
  | (with_reducible show Ends.bk _ _ _; dsimp only))
local macro_rules | `(tactic| walk_at "go") => `(tactic| repeat (walk_at "st"))
local macro_rules | `(tactic| walk_at "begin") => `(tactic| dsimp only [cxOf, wipe, L2.start, List.map, List.length_cons, List.length_nil, Nat.reduceAdd, Nat.reduceSub, List.replicate, List.cons_append, List.nil_append])


theorem rw_take {C : Hp} {as : List Addr} {rs : List (List Int)} (h : Rw C as rs) (i : Nat) : Rw C (as.take i) (rs.take i) := by
  refine ⟨by rw [List.length_take, List.length_take, h.1], fun j b e => ?_⟩
  obtain ⟨h1, h2⟩ := take_at e
  obtain ⟨r, h3, h4⟩ := h.2 j b h2
  exact ⟨r, by rw [List.getElem?_take_of_lt h1]; exact h3, h4⟩
def spMended : Sp := fun vs H Q _ => ∃ (a : Addr) (as : List Addr) (rs : List (List Int)) (n c : Nat), vs = [.int (c : Int), .ref a] ∧ H a = some (.lst (as.map V.ref)) ∧ Rw H as rs ∧ Wf n 42 rs ∧ (∀ r ∈ rs, r.Pairwise (· < ·)) ∧ c ≤ n ∧ n ≤ 30 ∧
  ∀ (H' : Hp) (q : Addr) (ms : List Addr) (rs2 : List (List Int)) (n2 : Nat), Same H H' → H' q = some (.lst (ms.map V.ref)) → Rw H' ms rs2 → Wf n2 43 rs2 → (∀ r ∈ rs2, r.Pairwise (· < ·)) → n ≤ n2 → n2 ≤ n + c → Q (.ref q) H'
section
variable {P : Program} {w : World} {K : PySem.W.Frag} {mg : Str → Option Value} {base : Heap}
theorem ok_mended {f : Addr} {fd : FuncData} {k : Nat} (B : Blt mg) (D : Dn K mg "_law_mended" s__law_mended ["count", "rows"] f fd) : FnOk P w K mg base CX0 (k + 1) f fd ["count", "rows"] spMended := by
  refine D.F.ok sc__law_mended (fun vs H Q E h => ?_) (fun cdv A outer s H vs Q E hr h => ?_)
  · obtain ⟨a, as, rs, n, c, rfl, _⟩ := h
    rfl
  · obtain ⟨a, as, rs, n, c, rfl, ha, hrw, hwf, hasc, hcn, hn, q⟩ := h
    have hlr : rs.length = n := hwf.1
    have hla : as.length = n := by rw [hrw.1]; exact hwf.1
    refine ⟨_, (pss_cons (ps_setLc (i := 2) (own := [("row", 4)]) rfl sc__law_mended.nd rfl rfl (sw_true rfl rfl rfl (by decide +kernel)) (pi_listK (K := K) rfl (pv 1)) (blkOk_by (own := [("row", 4)]) (by kernel_rfl))
        (fun _ _ _ _ _ => (pg_name (i := 4) sc__law_mended.nd rfl (.inl rfl))) (fun _ _ _ _ _ => pts_nil)
        (fun _ _ _ _ _ => (pe_callTy (call_list_ofK (K := K) rfl) (by rfl) B.m_list (by decide +kernel) (pa_cons (pv 4) pa_nil))))
      (pss_cons (ps_for PassesOwn.never rfl (pi_range1 (by rfl) B.m_range (pa_cons (pv 0) pa_nil)) (pg_name (i := 3) sc__law_mended.nd rfl (.inl rfl)) (pss_one (ps_if (pt_cmpR (op_inDK (K := K) rfl (u65 hr)) (pe_ix (ix_listK (K := K) rfl) (pv 1) (pv 3) (fun _ _ => rfl)) (pe_slice (sl_listK (K := K) rfl) (pv 1) po_none (po_some (pv 3))) (by rfl)) (pss_cons (ps_asg (pe_op op_cat (pe_ix (ix_listK (K := K) rfl) (pv 2) (pv 3) (fun _ _ => rfl)) (pe_lst (pa_cons (pe_callB (call_len_seqK (K := K) rfl) (by rfl) B.m_len PySem.boot_len (pa_cons (pv 2) pa_nil)) pa_nil))) (pg_sub (pv 2) (pv 3) set_list))
      (pss_one (ps_expr (pe_bmK (K := K) rfl PySem.F.plainAttrs_list PySem.F.slot_list_append PySem.F.type_list_append mt_append (pv 2) (pa_cons (pe_lst pa_nil) pa_nil))))) pss_nil)))
      (pss_one (ps_ret (pv 2))))), ?_⟩
    walk_at "begin"
    walk_at "go"
    refine lcT_list topH (K := K) (s0 := ()) trivial (xs := as.map V.ref) ha (fun i C acc => ∃ hs : List Addr, acc = hs.map V.ref ∧ Rw C hs (rs.take i)) ⟨[], rfl, Rw.nil⟩ ?_ ?_
    · rintro D7 i x _ C acc _ hD hS hx ⟨hs, rfl, hh⟩
      obtain ⟨b, r, rfl, hb1, hr1, hc1⟩ := (hrw.mono hS).at hx
      have hhl : hs.length ≤ i := by rw [hh.1, List.length_take]; omega
      have hi := (List.getElem?_eq_some_iff.mp hr1).1
      walk_at "begin"
      walk_at "go"
      refine ⟨rfl, ?_⟩
      walk_at "go"
      intro p np
      obtain ⟨e, _, hD5, n5, ne5⟩ := newTD_eq topH (s := ()) trivial hD np (.lst (r.map V.int))
      try dsimp only at e
      rw [e]
      refine lcN_put topH (s := ()) trivial hD5 (hS.trans (same_new n5)) ?_ ⟨hs ++ [p], refs_push _ _, ?_⟩
      · rw [List.length_map]; omega
      · rw [tk_succ hr1]
        exact (hh.mono (same_new n5)).push upd_same
    · rintro D1 _ C acc _ hB1 hD1 hS1 ⟨hs, rfl, hh0⟩
      rw [List.length_map, hla, ← hlr, List.take_length] at hh0
      walk_at "go"
      refine r_forR (n := (c : Int)) (by omega) (by omega) (fun i σ X => ∃ (C : Hp) (ms : List Addr) (rs2 : List (List Int)) (n2 : Nat) (y3 : Option V), σ = [some (.int c), some (.ref a), some (.ref D1), y3, none] ∧ X = upd C D1 (.lst (ms.map V.ref)) ∧ C D1 = none ∧ Same H C ∧ Rw C ms rs2 ∧ rs2.length = n2 ∧ n ≤ n2 ∧ n2 ≤ n + i ∧
        (∀ r ∈ rs2, Gd (n2 : Int) 43 r ∧ r.Pairwise (· < ·)) ∧ ∀ j, i ≤ j → j < n → rs2[j]? = rs[j]?) ?_ ?_ ?_
      · exact ⟨C, hs, rs, n, _, rfl, rfl, hD1, hS1, hh0, hlr, Nat.le_refl _, by omega, fun r hr => ⟨(hwf.2 r hr).weak (by decide), hasc r hr⟩, fun _ _ _ => rfl⟩
      · rintro i σ X hi ⟨C2, ms, rs2, n2, y3, rfl, rfl, hD2, hS2, hm, hl2, hn1, hn2, hg, hsame⟩
        rw [Int.toNat_natCast] at hi
        have hml : ms.length = n2 := by rw [hm.1]; exact hl2
        obtain ⟨r, hr1⟩ : ∃ r, rs[i]? = some r := ⟨_, List.getElem?_eq_getElem (by omega)⟩
        obtain ⟨b, _, b2, b3⟩ := Ro.get (f := V.int) (hrw.mono hS2) hr1
        have hatb : atI (as.map V.ref) (i : Int) = some (.ref b) := at_i (by omega) (by rw [Int.toNat_natCast]; exact b2)
        have hr2 := (hsame i (Nat.le_refl _) (by omega)).trans hr1
        obtain ⟨b', _, b2', b3'⟩ := Ro.get (f := V.int) hm hr2
        have hatb' : atI (ms.map V.ref) (i : Int) = some (.ref b') := at_i (by omega) (by rw [Int.toNat_natCast]; exact b2')
        have haC := hS2 _ _ ha
        have hgr := hwf.2 r (List.mem_of_getElem? hr1)
        walk_at "go"
        intro p np
        rw [cut_to _ (Int.natCast_nonneg i), Int.toNat_natCast, ← List.map_take]
        obtain ⟨e, _, hD5, n5, ne5⟩ := newTD_eq topH (s := ()) trivial hD2 np (.lst ((as.take i).map V.ref))
        try dsimp only at e
        rw [e]
        have s5 := same_new (o := .lst ((as.take i).map V.ref)) n5
        refine r_inR (upd_old hD5 (s5 _ _ b3)) (upd_old hD5 upd_same) ((rw_take (hrw.mono hS2) i).mono (s5.trans (same_new hD5))) ?_
        have haC5 := s5 _ _ haC
        walk_at "go"
        refine r_ite (fun _ => ?_) (fun _ => ?_)
        · walk_at "go"
          rw [List.length_map, hml]
          refine ⟨by walk_at "len", fun p6 np6 => ?_⟩
          obtain ⟨e, _, hD6, n6, ne6⟩ := newTD_eq topH (s := ()) trivial hD5 np6 (.lst [.int (n2 : Int)])
          try dsimp only at e
          rw [e]
          walk_at "go"
          refine r_cat (upd_old hD6 (same_new n6 _ _ (s5 _ _ b3'))) (upd_old hD6 upd_same) (by rw [List.length_map]; have := hgr.1; simp only [List.length_cons, List.length_nil]; omega) fun p7 np7 => ?_
          obtain ⟨e, _, hD7, n7, ne7⟩ := newTD_eq topH (s := ()) trivial hD6 np7 (.lst (r.map V.int ++ [.int (n2 : Int)]))
          try dsimp only at e
          rw [e]
          have hix : ixN (ms.map V.ref).length (i : Int) = some i := ix_i (by omega) (by rw [List.length_map]; omega)
          walk_at "go"
          rw [upd_upd, refsSet]
          refine ⟨size_nil, fun p8 np8 => ?_⟩
          obtain ⟨e, _, hD8, n8, ne8⟩ := newTD_eq topH (s := ()) trivial hD7 np8 (.lst [])
          try dsimp only at e
          rw [e]
          have hsz : ((ms.set i p7).map V.ref).length < sizeLine := small (by rw [List.length_map, List.length_set]; omega)
          walk_at "go"
          rw [upd_upd, refs_push]
          have sm6 := s5.trans (same_new (o := .lst [.int (n2 : Int)]) n6)
          have sm7 := sm6.trans (same_new (o := .lst (r.map V.int ++ [.int (n2 : Int)])) n7)
          have sm8 := sm7.trans (same_new (o := .lst []) n8)
          have hm7 : Rw (upd (upd (upd (upd C2 p (.lst ((as.take i).map V.ref))) p6 (.lst [.int (n2 : Int)])) p7 (.lst (r.map V.int ++ [.int (n2 : Int)]))) p8 (.lst [])) (ms.set i p7) (rs2.set i (r ++ [(n2 : Int)])) := ((hm.mono sm7).set i (by rw [upd_same, ints_push])).mono (same_new n8)
          refine ⟨_, ms.set i p7 ++ [p8], rs2.set i (r ++ [(n2 : Int)]) ++ [[]], n2 + 1, _, rfl, rfl, hD8, hS2.trans sm8, hm7.push (r := []) upd_same, by rw [List.length_append, List.length_set, hl2]; rfl, by omega, by omega, fun r' hr' => ?_, fun j hj hj2 => ?_⟩
          · rcases List.mem_append.mp hr' with z | z
            · rcases List.mem_or_eq_of_mem_set z with y | y
              · exact ⟨gd_up (hg r' y).1 (by omega) (Nat.le_refl _), (hg r' y).2⟩
              · rw [y]
                refine ⟨gd_put hgr (by omega) (by omega) (by omega), ?_⟩
                rw [List.pairwise_append]
                refine ⟨hasc r (List.mem_of_getElem? hr1), List.pairwise_singleton _ _, fun x hx y hy => ?_⟩
                rw [List.mem_singleton.mp hy]
                have := (hgr.2.2 x hx).2
                omega
            · rw [List.mem_singleton.mp z]
              exact ⟨⟨Nat.zero_le _, List.nodup_nil, fun e he => nomatch he⟩, List.Pairwise.nil⟩
          · rw [List.getElem?_append_left (by rw [List.length_set]; omega), List.getElem?_set_ne (by omega)]
            exact hsame j (by omega) hj2
        · walk_at "go"
          exact ⟨_, ms, rs2, n2, _, rfl, rfl, hD5, hS2.trans s5, hm.mono s5, hl2, hn1, by omega, hg, fun j hj hj2 => hsame j (by omega) hj2⟩
      · rintro σ X ⟨C2, ms, rs2, n2, y3, rfl, rfl, hD2, hS2, hm, hl2, hn1, hn2, hg, hsame⟩
        rw [Int.toNat_natCast] at hn2
        walk_at "go"
        exact q _ D1 ms rs2 n2 (hS2.trans (same_new hD2)) upd_same (hm.mono (same_new hD2)) ⟨hl2, fun r hr => (hg r hr).1.weak (by decide)⟩ (fun r hr => (hg r hr).2) hn1 hn2
end
end K39
namespace K39
open PySem PySem.Spec PyProof.Rows L2 Lw


local macro_rules | `(tactic| walk_at "look") => `(tactic| first
  | assumption
  | with_reducible exact upd_same
  | with_reducible exact rg_st
  | with_reducible exact rg_g (by assumption)
  | (with_reducible refine upd_old (by assumption) ?_; walk_at "look")
  | (with_reducible refine rg_get (by assumption) ?_; walk_at "look")
  | (with_reducible refine Same.get (by assumption) ?_; walk_at "look"))
local macro_rules | `(tactic| walk_at "cond") => `(tactic| first
  | (show _ ≠ _; omega) | exact cdivN (by omega) (by omega) | exact cmul_mod (by decide) (by decide) | exact cmulR (by omega) (by omega) | exact cmulL (by omega) (by omega) | exact cpow (by omega) (by omega) (by omega) (by omega) | (show (0:Int) ≤ _; omega))
local macro_rules | `(tactic| walk_at "at") => `(tactic| first | assumption | with_unfolding_all rfl)
local macro_rules | `(tactic| walk_at "sz") => `(tactic| first | assumption | (refine small ?_; omega) | (refine small ?_; simp only [List.length_map, List.length_append, List.length_cons, List.length_nil]; omega))
local macro_rules | `(tactic| walk_at "len") => `(tactic| first | exact size_nil | exact Nat.le_of_lt (small (by simp only [List.length_cons, List.length_nil, List.length_map]; omega)))
local macro_rules | `(tactic| walk_at "newD") => `(tactic| (refine ⟨by walk_at "len", fun p np => ?_⟩; obtain ⟨e, o', hD', n', ne'⟩ := newTD_eq (topRg _ _) (by assumption) (by assumption) np (.lst _); rw [e]; clear e))
local macro_rules | `(tactic| walk_at "new") => `(tactic| (refine ⟨by walk_at "len", fun p np => ?_⟩; obtain ⟨e, o', n'⟩ := newT_eq (topRg _ _) (by assumption) np (.lst _); rw [e]; clear e))
local macro_rules | `(tactic| walk_at "st") => `(tactic| first
  | with_reducible refine r_seq ?_
  | with_reducible refine r_var rfl ?_
  | with_reducible refine r_c ?_
  | with_reducible refine r_asg ?_
  | (with_reducible refine r_name ?_; dsimp only [List.set_cons_zero, List.set_cons_succ])
  | with_reducible refine r_sub ?_
  | with_reducible refine r_op ?_
  | with_reducible refine r_i0 ?_
  | (with_reducible refine' r_i ?k1 ?_; (case k1 => walk_at "cond"))
  | with_reducible refine r_cons ?_
  | with_reducible refine r_nil ?_
  | with_reducible refine r_cb ?_
  | with_reducible refine r_call ?_
  | with_reducible refine r_ifs ?_
  | with_reducible refine r_test ?_
  | with_reducible refine r_tB ?_
  | with_reducible refine r_bl ?_
  | with_reducible refine r_ret ?_
  | with_reducible refine r_drop ?_
  | with_reducible refine r_next ?_
  | (with_reducible refine' r_ixL ?k1 ?k2 ?_; (case k1 => walk_at "look"); (case k2 => walk_at "at"))
  | (with_reducible refine' r_setL ?k1 ?k2 ?_; (case k1 => walk_at "look"); (case k2 => walk_at "at"))
  | (with_reducible refine' r_tup (SqT.of ?k1) ?k2 ?_; (case k1 => walk_at "look"); (case k2 => rfl))
  | with_reducible refine r_gcons ?_
  | with_reducible refine r_gnil ?_
  | with_reducible refine r_aug rfl ?_
  | with_reducible refine r_augS ?_
  | with_reducible refine r_ipI ?_
  | with_reducible refine r_un ?_
  | with_reducible refine r_u ?_
  | with_reducible refine r_eq rfl ?_
  | with_reducible refine r_ne rfl ?_
  | with_reducible refine r_chain ?_
  | with_reducible refine iteF ?_
  | with_reducible refine r_not ?_
  | with_reducible refine r_and ?_
  | with_reducible refine r_or ?_
  | with_reducible refine r_andV ?_
  | with_reducible refine r_orV ?_
  | with_reducible refine r_notV ?_
  | with_reducible refine r_lst ?_
  | with_reducible refine r_bm ?_
  | with_reducible refine r_bm0 ?_
  | (with_reducible refine' And.intro (r_ty ?k1) ?_; (case k1 => walk_at "look"))
  | (with_reducible refine' r_append ?k1 ?k2 ?_; (case k1 => walk_at "look"); (case k2 => walk_at "sz"))
  | (with_reducible refine' r_lenK ?k1 ?_; (case k1 => walk_at "look"))
  | (with_reducible refine' r_listOf ?k1 ?_; (case k1 => walk_at "look"))
  | (with_reducible refine' r_sortedI ?k1 ?_; (case k1 => walk_at "look"))
  | (with_reducible refine' r_sum ?k1 ?_; (case k1 => walk_at "look"))
  | with_reducible refine r_int ?_
  | (with_reducible refine' r_draw (by assumption) ?k1 ?k2 ?_; (case k1 => omega); (case k2 => omega); intro R' n' o' h' h'')
  | with_reducible refine iteT ?_
  | with_reducible refine r_revL ?_
  | with_reducible refine r_lc ?_
  | with_reducible refine r_yes ?_
  | with_reducible refine r_sl ?_
  | with_reducible refine r_noPart ?_
  | with_reducible refine r_part ?_
  | with_reducible refine r_lc2 ?_
  | with_reducible refine r_callN ?_
  | with_reducible refine r_callD ?_
  | with_reducible refine r_tupE ?_
  | with_reducible refine r_rng2 ?_
  | with_reducible refine r_i1 ?_
  | (with_reducible refine' r_slL ?k1 ?_; (case k1 => walk_at "look"))
  | with_reducible refine r_for ?_
  | with_reducible refine r_iList ?_
  | with_reducible refine r_rng1 ?_
  | with_reducible refine r_enum ?_
  | (with_reducible show Ends.nx _ _ _; dsimp only)
  | (with_reducible show Ends.rt _ _ _; dsimp only)
  | (with_reducible show Ends.ct _ _ _; dsimp only)
  | (with_reducible show Ends.bk _ _ _; dsimp only))
local macro_rules | `(tactic| walk_at "go") => `(tactic| repeat (walk_at "st"))
local macro_rules | `(tactic| walk_at "begin") => `(tactic| dsimp only [cxOf, wipe, L2.start, List.map, List.length_cons, List.length_nil, Nat.reduceAdd, Nat.reduceSub, List.replicate, List.cons_append, List.nil_append])


open Lm
/-- the drawing when i bares have their marks -/
structure Bi (T rs : List (List Int)) (n c i : Nat) : Prop where
  len : T.length = n + i
  grp : ∀ a, a < c → T[a]? = rs[a]?
  bar : ∀ j, c + j < n → ∀ r, rs[c + j]? = some r → T[c + j]? = some (if j < i then r ++ [((n + j : Nat) : Int)] else r)
  mark : ∀ j, j < i → T[n + j]? = some [((n + (n - c) : Nat) : Int), ((n + (n - c) + (c + 1 + j) : Nat) : Int)]
theorem Bi.init {rs : List (List Int)} {n c : Nat} (h : rs.length = n) : Bi rs rs n c 0 := ⟨h, fun _ _ => rfl, fun j _ r hr => by rw [if_neg (Nat.not_lt_zero _)]; exact hr, fun j hj => absurd hj (Nat.not_lt_zero _)⟩
theorem Bi.step {T rs : List (List Int)} {n c i : Nat} (B : Bi T rs n c i) (hi : c + i < n) {r : List Int} (hr : rs[c + i]? = some r) :
    Bi (T.set (c + i) (r ++ [((n + i : Nat) : Int)]) ++ [[((n + (n - c) : Nat) : Int), ((n + (n - c) + (c + 1 + i) : Nat) : Int)]]) rs n c (i + 1) := by
  have hl := B.len
  refine ⟨by rw [List.length_append, List.length_set, hl, List.length_singleton]; omega, fun a ha => ?_, fun j hj s hs => ?_, fun j hj => ?_⟩
  · rw [List.getElem?_append_left (by rw [List.length_set]; omega), List.getElem?_set_ne (by omega)]
    exact B.grp a ha
  · rw [List.getElem?_append_left (by rw [List.length_set]; omega)]
    by_cases e : j = i
    · subst e
      rw [hr] at hs; cases hs
      rw [List.getElem?_set_self (by omega), if_pos (by omega)]
    · rw [List.getElem?_set_ne (by omega), B.bar j hj s hs]
      by_cases h2 : j < i
      · rw [if_pos h2, if_pos (by omega)]
      · rw [if_neg h2, if_neg (by omega)]
  · by_cases e : j = i
    · subst e
      rw [List.getElem?_append_right (by rw [List.length_set]; omega), List.length_set, hl, Nat.sub_self]; rfl
    · rw [List.getElem?_append_left (by rw [List.length_set]; omega), List.getElem?_set_ne (by omega)]
      exact B.mark j (by omega)
/-- an own error over ValueError, without an __init__ -/
structure ExN (K : PySem.W.Frag) (mg : Str → Option Value) (x : Str) (C : Addr) : Prop where
  g : mg x = some (.ref C)
  x : PySem.W.excIn K C [.type "ValueError", .type "Exception", .type "BaseException", .type "object"] "ValueError.__new__" = true
  k : PySem.W.keepIn K (.ref C) = true
  b : PySem.W.subIn K (.ref C) (.type "BaseException") = some true
  t : PySem.W.typeIn K (.ref C) = some (.type "type")
def Stn (c : Nat) (rs : List (List Int)) (b : Bool) : Prop := ¬ Alk c rs b ∧ (b = true ∨ ∀ x, ¬ Tc (Ed rs) x x)
def spBuild (C : Addr) : Sp := fun vs H Q E => ∃ (a : Addr) (as : List Addr) (rs : List (List Int)) (n c : Nat) (b : Bool), vs = [.int (c : Int), .ref a, .bl b] ∧ H a = some (.lst (as.map V.ref)) ∧ Rw H as rs ∧ Wf n 43 rs ∧ (∀ r ∈ rs, r.Pairwise (· < ·)) ∧ c ≤ n ∧ n ≤ 60 ∧
  (¬ Stn c rs b → ∀ H', Same H H' → E (.ref C) none H') ∧
  (Stn c rs b → ∀ (H' : Hp) (q : Addr) (ts : List Addr) (T : List (List Int)) (l : Nat), Same H H' → H q = none → H' q = some (.lst (ts.map V.ref)) → Rw H' ts T → (∀ t ∈ ts, H t = none) → ts.Nodup → Wf l 60 T → (∀ r ∈ T, r.Pairwise (· < ·)) → Bd T rs n c → ((∀ x, ¬ Tc (Ed rs) x x) → ∀ x, ¬ Tc (Ed T) x x) → n ≤ l → 1 ≤ l → (l : Int) ≤ 3 * n - c + 2 → Q (.ref q) H')
section
variable {P : Program} {w : World} {K : PySem.W.Frag} {mg : Str → Option Value} {base : Heap}
theorem ok_build {f f1 CN : Addr} {fd fd1 : FuncData} (B : Blt mg) (ENotStanding : ExN K mg "NotStanding" CN) (D : DnK K mg "build_drawing" s_build_drawing ["count", "rows", "rings"] 2 ["rings"] f fd)
    (Dsketch_stands : DnK K mg "sketch_stands" s_sketch_stands ["count", "rows", "rings"] 2 ["rings"] f1 fd1) (Gsketch_stands : FnOk P w K mg base CX0 4 f1 fd1 ["count", "rows", "rings"] spStands) :
    FnOk P w K mg base (L2.CX P w) 5 f fd ["count", "rows", "rings"] (spBuild CN) := by
  refine D.F.okX sc_build_drawing (fun vs H Q E h => ?_) (fun cdv A outer s H vs Q E hr h => ?_)
  · obtain ⟨a, as, rs, n, c, b, rfl, _⟩ := h
    rfl
  · obtain ⟨a, as, rs, n, c, b, rfl, ha, hrw, hwf, hasc, hcn, hn, qe, q⟩ := h
    have hlr : rs.length = n := hwf.1
    have hla : as.length = n := by rw [hrw.1]; exact hwf.1
    refine ⟨_, (pss_cons (ps_if (pt_not (pt_val (pe_callN Gsketch_stands (hr.mono (by decide)) (by rfl) Dsketch_stands.g Dsketch_stands.F.kp Dsketch_stands.kb pass0 (pa_cons (pv 0) (pa_cons (pv 1) pa_nil)) (pk_cons (pv 2) pk_nil)))) (pss_one (ps_raise rfl (takes_of rfl rfl rfl rfl) (pmk_own PySem.F.excBase_ValueError ENotStanding.x ENotStanding.g ENotStanding.k (raises_own ENotStanding.b ENotStanding.t) (by rfl)))) pss_nil) (PSs.nox (pss_cons (ps_setLc (i := 3) (own := [("row", 9)]) rfl sc_build_drawing.nd rfl rfl (sw_true rfl rfl rfl (by decide +kernel)) (pi_listK (K := K) rfl (pv 1)) (blkOk_by (own := [("row", 9)]) (by kernel_rfl))
        (fun _ _ _ _ _ => (pg_name (i := 9) sc_build_drawing.nd rfl (.inl rfl))) (fun _ _ _ _ _ => pts_nil)
        (fun _ _ _ _ _ => (pe_callTy (call_list_ofK (K := K) rfl) (by rfl) B.m_list (by decide +kernel) (pa_cons (pv 9) pa_nil))))
      (pss_cons (ps_set (i := 4) sc_build_drawing.nd rfl (.inl rfl) (pe_op op_sub (pe_callB (call_len_seqK (K := K) rfl) (by rfl) B.m_len PySem.boot_len (pa_cons (pv 1) pa_nil)) (pv 0)))
      (C8.pss_cut (ps_if (PW.pt (pw_and (pt_cmpR op_eq (pv 4) pe_int (nomark _)) (pw_and1 (pt_cmpR op_gt (pv 0) pe_int (nomark _))))) (pss_one (ps_ret (pv 3))) pss_nil)
      (pss_cons (ps_set (i := 5) sc_build_drawing.nd rfl (.inl rfl) (pe_callB (call_len_seqK (K := K) rfl) (by rfl) B.m_len PySem.boot_len (pa_cons (pv 1) pa_nil)))
      (pss_cons (ps_set (i := 6) sc_build_drawing.nd rfl (.inl rfl) (pe_op op_add (pv 5) (pv 4)))
      (pss_cons (ps_for PassesOwn.never rfl (pi_range1 (by rfl) B.m_range (pa_cons (pv 4) pa_nil)) (pg_name (i := 7) sc_build_drawing.nd rfl (.inl rfl)) (pss_cons (ps_expr (pe_bmK (K := K) rfl PySem.F.plainAttrs_list PySem.F.slot_list_append PySem.F.type_list_append mt_append (pe_ix (ix_listK (K := K) rfl) (pv 3) (pe_op op_add (pv 0) (pv 7)) (fun _ _ => rfl)) (pa_cons (pe_op op_add (pv 5) (pv 7)) pa_nil)))
      (pss_one (ps_expr (pe_bmK (K := K) rfl PySem.F.plainAttrs_list PySem.F.slot_list_append PySem.F.type_list_append mt_append (pv 3) (pa_cons (pe_lst (pa_cons (pv 6) (pa_cons (pe_op op_add (pe_op op_add (pe_op op_add (pv 6) (pv 0)) pe_int) (pv 7)) pa_nil))) pa_nil))))))
      (pss_cons (ps_expr (pe_bmK (K := K) rfl PySem.F.plainAttrs_list PySem.F.slot_list_append PySem.F.type_list_append mt_append (pv 3) (pa_cons (pe_lst pa_nil) pa_nil)))
      (pss_cons (ps_for PassesOwn.never rfl (pi_range1 (by rfl) B.m_range (pa_cons (pe_op op_add (pv 0) (pv 4)) pa_nil)) (pg_name (i := 8) sc_build_drawing.nd rfl (.inl rfl)) (pss_one (ps_expr (pe_bmK (K := K) rfl PySem.F.plainAttrs_list PySem.F.slot_list_append PySem.F.type_list_append mt_append (pv 3) (pa_cons (pe_lst (pa_cons (pe_op op_add (pv 6) (pv 8)) pa_nil)) pa_nil)))))
      (pss_one (ps_ret (pv 3))))))))))))), ?_⟩
    walk_at "begin"
    walk_at "go"
    refine ⟨rfl, rfl, a, as, rs, n, 43, c, b, rfl, ha, hrw, hwf, hcn, by omega, by decide, fun H1 r0 hS1 hr1 => ?_⟩
    walk_at "go"
    refine r_iteB (fun hf => ?_) (fun hf => ?_)
    · exact qe (fun z => by rw [hr1.mpr z] at hf; cases hf) H1 hS1
    · have hst : Stn c rs b := hr1.mp (by revert hf; cases r0 <;> decide)
      have q := q hst
      have ha1 := hS1 _ _ ha
      walk_at "go"
      refine lcT_list topH (K := K) (s0 := ()) trivial (xs := as.map V.ref) ha1 (fun i C acc => ∃ hs : List Addr, acc = hs.map V.ref ∧ Rw C hs (rs.take i) ∧ hs.Nodup ∧ ∀ t ∈ hs, H1 t = none) ⟨[], rfl, Rw.nil, List.nodup_nil, fun t ht => nomatch ht⟩ ?_ ?_
      · rintro D7 i x _ C acc _ hD hS hx ⟨hs, rfl, hh, hnd, hfr⟩
        obtain ⟨b, r, rfl, hb1, hr1, hc1⟩ := (hrw.mono (hS1.trans hS)).at hx
        have hhl : hs.length ≤ i := by rw [hh.1, List.length_take]; omega
        have hi := (List.getElem?_eq_some_iff.mp hr1).1
        walk_at "begin"
        walk_at "go"
        refine ⟨rfl, ?_⟩
        walk_at "go"
        intro p np
        obtain ⟨e, _, hD5, n5, ne5⟩ := newTD_eq topH (s := ()) trivial hD np (.lst (r.map V.int))
        try dsimp only at e
        rw [e]
        refine lcN_put topH (s := ()) trivial hD5 (hS.trans (same_new n5)) ?_ ⟨hs ++ [p], refs_push _ _, ?_, nodup_push hnd fun hm => ?_, fun t ht => ?_⟩
        · rw [List.length_map]; omega
        · rw [tk_succ hr1]
          exact (hh.mono (same_new n5)).push upd_same
        · obtain ⟨j, hj⟩ := List.mem_iff_getElem?.mp hm
          obtain ⟨r, _, hr⟩ := hh.2 j p hj
          rw [n5] at hr; cases hr
        · rcases List.mem_append.mp ht with z | z
          · exact hfr t z
          · rw [List.mem_singleton.mp z]; exact hS.free n5
      · rintro D1 _ C acc _ hB1 hD1 hS2 ⟨hs, rfl, hh0, hnd, hfr⟩
        rw [List.length_map, hla, ← hlr, List.take_length] at hh0
        have hneD1 : ∀ t ∈ hs, t ≠ D1 := fun t ht => by
          obtain ⟨j, hj⟩ := List.mem_iff_getElem?.mp ht
          obtain ⟨r, _, hr⟩ := hh0.2 j t hj
          exact ne_of_none hr hD1
        have hS3 : Same H (upd C D1 (.lst (hs.map V.ref))) := (hS1.trans hS2).trans (same_new hD1)
        have hh := hh0.mono (same_new (o := .lst (hs.map V.ref)) hD1)
        have hd1 : upd C D1 (.lst (hs.map V.ref)) D1 = some (.lst (hs.map V.ref)) := upd_same
        have hHD : H D1 = none := hS1.free hB1
        have hHt : ∀ t ∈ hs, H t = none := fun t ht => hS1.free (hfr t ht)
        dsimp only at *
        generalize upd C D1 (.lst (hs.map V.ref)) = G at hS3 hh hd1 ⊢
        clear hh0 hD1 hS2 C
        have hhl : hs.length = n := by rw [hh.1]; exact hlr
        have ha3 := hS3 _ _ ha
        walk_at "go"
        rw [List.length_map, hla, show (n : Int) - (c : Int) = ((n - c : Nat) : Int) by omega]
        walk_at "go"
        refine ⟨fun σ HM => σ = [some (V.int ↑c), some (V.ref a), some (V.bl b), some (V.ref D1), some (V.int ↑(n - c)), none, none, none, none, none] ∧ HM = G ∧ (c < n ∨ c = 0), ?_, ?_⟩
        · have fin : c = n → 0 < c → Q (.ref D1) G := fun e h0 => q G D1 hs rs n hS3 hHD hd1 hh hHt hnd ⟨hlr, fun r hr => (hwf.2 r hr).weak (by decide)⟩ hasc ⟨hlr, hcn, fun _ _ => rfl, fun i r hi => by omega, fun i hi => by omega, fun hi => by omega, fun hi => by omega⟩ (fun h => h) (Nat.le_refl _) (by omega) (by omega)
          walk_at "go"
          refine r_ite (fun h1 => ?_) (fun h1 => ?_)
          · have h1' := V.int.inj h1
            walk_at "go"
            refine r_ite (fun h2 => ?_) (fun h2 => ?_)
            · walk_at "go"
              exact fin (by omega) (by omega)
            · walk_at "go"
              exact ⟨rfl, rfl, .inr (by omega)⟩
          · have h1' : ((n - c : Nat) : Int) ≠ 0 := fun z => h1 (by rw [z])
            walk_at "go"
            exact ⟨rfl, rfl, .inl (by omega)⟩
        · rintro σ HM ⟨rfl, rfl, hcase⟩
          walk_at "go"
          rw [List.length_map, hla, show (n : Int) + ((n - c : Nat) : Int) = ((n + (n - c) : Nat) : Int) by omega]
          walk_at "go"
          refine r_forR (n := ((n - c : Nat) : Int)) (by omega) (by omega) (fun i σ X => ∃ (ds : List Addr) (T : List (List Int)) (y7 : Option V), σ = [some (V.int ↑c), some (V.ref a), some (V.bl b), some (V.ref D1), some (V.int ↑(n - c)), some (V.int ↑n), some (V.int ↑(n + (n - c))), y7, none, none] ∧ Same H X ∧ X D1 = some (.lst (ds.map V.ref)) ∧ Rw X ds T ∧ ds.Nodup ∧
            (∀ t ∈ ds, H t = none ∧ t ≠ D1) ∧ Bi T rs n c i ∧ ∀ r ∈ T, Gd ((n + (n - c) + 1 + n : Nat) : Int) 44 r ∧ r.Pairwise (· < ·)) ?_ ?_ ?_
          · exact ⟨hs, rs, _, rfl, hS3, hd1, hh, hnd, fun t ht => ⟨hHt t ht, hneD1 t ht⟩, Bi.init hlr, fun r hr => ⟨gd_up (hwf.2 r hr) (by omega) (by decide), hasc r hr⟩⟩
          · rintro i σ X hi ⟨ds, T, y7, rfl, x1, x2, x3, x4, x5, x6, x7⟩
            rw [Int.toNat_natCast] at hi
            obtain ⟨r, hr⟩ : ∃ r, rs[c + i]? = some r := ⟨_, List.getElem?_eq_getElem (by omega)⟩
            have hTr := x6.bar i (by omega) r hr
            rw [if_neg (Nat.lt_irrefl _)] at hTr
            obtain ⟨bb, hbb1, hbb2, hbb3⟩ := Ro.get (f := V.int) x3 hTr
            have hatb : atI (ds.map V.ref) ((c : Int) + (i : Int)) = some (.ref bb) := at_i (by omega) (by rw [show ((c : Int) + (i : Int)).toNat = c + i by omega]; exact hbb2)
            have hgr := hwf.2 r (List.mem_of_getElem? hr)
            have hgl := hgr.1
            obtain ⟨hbH, hbD⟩ := x5 bb (List.mem_of_getElem? hbb1)
            have hdl : ds.length = n + i := by rw [x3.1]; exact x6.len
            walk_at "go"
            rw [show (n : Int) + (i : Int) = ((n + i : Nat) : Int) by omega, ints_push]
            have y1 : Same H (upd X bb (.lst ((r ++ [((n + i : Nat) : Int)]).map V.int))) := fun x y e => by rw [upd_ne (ne_of_none e hbH)]; exact x1 _ _ e
            have y2 : upd X bb (.lst ((r ++ [((n + i : Nat) : Int)]).map V.int)) D1 = some (.lst (ds.map V.ref)) := by rw [upd_ne hbD.symm]; exact x2
            have y3 := x3.write x4 hbb1 (r ++ [((n + i : Nat) : Int)])
            generalize upd X bb (.lst ((r ++ [((n + i : Nat) : Int)]).map V.int)) = X2 at y1 y2 y3 ⊢
            walk_at "go"
            refine ⟨by walk_at "len", fun p np => ?_⟩
            rw [show ((n + (n - c) : Nat) : Int) + (c : Int) + 1 + (i : Int) = ((n + (n - c) + (c + 1 + i) : Nat) : Int) by omega]
            have z1 := y1.trans (same_new (o := .lst [V.int ↑(n + (n - c)), V.int ↑(n + (n - c) + (c + 1 + i))]) np)
            have z2 := same_new (o := .lst [V.int ↑(n + (n - c)), V.int ↑(n + (n - c) + (c + 1 + i))]) np _ _ y2
            have z3 := (y3.mono (same_new (o := .lst [V.int ↑(n + (n - c)), V.int ↑(n + (n - c) + (c + 1 + i))]) np)).push (r := [((n + (n - c) : Nat) : Int), ((n + (n - c) + (c + 1 + i) : Nat) : Int)]) (b := p) upd_same
            have hpD : p ≠ D1 := (ne_of_none y2 np).symm
            have hpd : p ∉ ds := fun hm => by
              obtain ⟨k, hk⟩ := List.mem_iff_getElem?.mp hm
              obtain ⟨r', _, hr'⟩ := y3.2 k p hk
              rw [np] at hr'; cases hr'
            have hpH : H p = none := y1.free np
            generalize upd X2 p (.lst [V.int ↑(n + (n - c)), V.int ↑(n + (n - c) + (c + 1 + i))]) = X3 at z1 z2 z3 ⊢
            have hsz : (ds.map V.ref).length < sizeLine := small (by rw [List.length_map]; omega)
            walk_at "go"
            rw [refs_push]
            refine ⟨ds ++ [p], _, _, rfl, fun x y e => by rw [upd_ne (ne_of_none e hHD)]; exact z1 _ _ e, upd_same, Ro.keep (f := V.int) z3 (fun t ht => upd_ne ?_), nodup_push x4 hpd, fun t ht => ?_, x6.step (by omega) hr, fun r' hr' => ?_⟩
            · rcases List.mem_append.mp ht with z | z
              · exact (x5 t z).2
              · rw [List.mem_singleton.mp z]; exact hpD
            · rcases List.mem_append.mp ht with z | z
              · exact x5 t z
              · rw [List.mem_singleton.mp z]; exact ⟨hpH, hpD⟩
            · rcases List.mem_append.mp hr' with z | z
              · rcases List.mem_or_eq_of_mem_set z with y | y
                · exact x7 r' y
                · rw [y]
                  refine ⟨gd_put hgr (by omega) (by omega) (by omega), ?_⟩
                  rw [List.pairwise_append]
                  refine ⟨hasc r (List.mem_of_getElem? hr), List.pairwise_singleton _ _, fun x hx y hy => ?_⟩
                  rw [List.mem_singleton.mp hy]
                  have := (hgr.2.2 x hx).2
                  omega
              · rw [List.mem_singleton.mp z]
                refine ⟨⟨by show 2 ≤ 44; decide, ?_, fun e he => ?_⟩, ?_⟩
                · simp only [List.nodup_cons, List.mem_singleton, List.not_mem_nil, not_false_eq_true, List.nodup_nil, and_true]; omega
                · simp only [List.mem_cons, List.not_mem_nil, or_false] at he
                  rcases he with rfl | rfl <;> omega
                · simp only [List.pairwise_cons, List.mem_singleton, forall_eq, List.not_mem_nil, false_implies, implies_true, List.Pairwise.nil, and_true]; omega
          · rintro σ X ⟨ds, T, y7, rfl, x1, x2, x3, x4, x5, x6, x7⟩
            rw [Int.toNat_natCast] at x6
            have hTl : T.length = n + (n - c) := x6.len
            have hdl : ds.length = n + (n - c) := by rw [x3.1]; exact hTl
            walk_at "go"
            refine ⟨size_nil, fun p np => ?_⟩
            have z1 := x1.trans (same_new (o := .lst []) np)
            have z2 := same_new (o := .lst []) np _ _ x2
            have z3 := (x3.mono (same_new (o := .lst []) np)).push (r := []) (b := p) upd_same
            have hpD : p ≠ D1 := (ne_of_none x2 np).symm
            have hpd : p ∉ ds := fun hm => by
              obtain ⟨k, hk⟩ := List.mem_iff_getElem?.mp hm
              obtain ⟨r', _, hr'⟩ := x3.2 k p hk
              rw [np] at hr'; cases hr'
            have hpH : H p = none := x1.free np
            generalize upd X p (.lst []) = X3 at z1 z2 z3 ⊢
            have hsz : (ds.map V.ref).length < sizeLine := small (by rw [List.length_map]; omega)
            walk_at "go"
            rw [refs_push, show (c : Int) + ((n - c : Nat) : Int) = (n : Int) by omega]
            refine r_forR (n := (n : Int)) (by omega) (by omega) (fun i σ X => ∃ (ds : List Addr) (y8 : Option V), σ = [some (V.int ↑c), some (V.ref a), some (V.bl b), some (V.ref D1), some (V.int ↑(n - c)), some (V.int ↑n), some (V.int ↑(n + (n - c))), y7, y8, none] ∧ Same H X ∧ X D1 = some (.lst (ds.map V.ref)) ∧ Rw X ds (T ++ [[]] ++ (List.range i).map fun w : Nat => [((n + (n - c) + w : Nat) : Int)]) ∧ ds.Nodup ∧
              (∀ t ∈ ds, H t = none ∧ t ≠ D1)) ?_ ?_ ?_
            · refine ⟨ds ++ [p], _, rfl, fun x y e => by rw [upd_ne (ne_of_none e hHD)]; exact z1 _ _ e, upd_same, ?_, nodup_push x4 hpd, fun t ht => ?_⟩
              · rw [List.range_zero, List.map_nil, List.append_nil]
                refine Ro.keep (f := V.int) z3 (fun t ht => upd_ne ?_)
                rcases List.mem_append.mp ht with z | z
                · exact (x5 t z).2
                · rw [List.mem_singleton.mp z]; exact hpD
              · rcases List.mem_append.mp ht with z | z
                · exact x5 t z
                · rw [List.mem_singleton.mp z]; exact ⟨hpH, hpD⟩
            · rintro i σ X hi ⟨ds, y8, rfl, x1, x2, x3, x4, x5⟩
              have hdl : ds.length = n + (n - c) + 1 + i := by rw [x3.1]; simp only [List.length_append, List.length_map, List.length_range, List.length_singleton, hTl]
              walk_at "go"
              rw [show ((n + (n - c) : Nat) : Int) + (i : Int) = ((n + (n - c) + i : Nat) : Int) by omega]
              refine ⟨by walk_at "len", fun p np => ?_⟩
              have z1 := x1.trans (same_new (o := .lst [V.int ↑(n + (n - c) + i)]) np)
              have z2 := same_new (o := .lst [V.int ↑(n + (n - c) + i)]) np _ _ x2
              have z3 := (x3.mono (same_new (o := .lst [V.int ↑(n + (n - c) + i)]) np)).push (r := [((n + (n - c) + i : Nat) : Int)]) (b := p) upd_same
              have hpD : p ≠ D1 := (ne_of_none x2 np).symm
              have hpd : p ∉ ds := fun hm => by
                obtain ⟨k, hk⟩ := List.mem_iff_getElem?.mp hm
                obtain ⟨r', _, hr'⟩ := x3.2 k p hk
                rw [np] at hr'; cases hr'
              have hpH : H p = none := x1.free np
              generalize upd X p (.lst [V.int ↑(n + (n - c) + i)]) = X3 at z1 z2 z3 ⊢
              have hsz : (ds.map V.ref).length < sizeLine := small (by rw [List.length_map]; omega)
              walk_at "go"
              rw [refs_push]
              refine ⟨ds ++ [p], _, rfl, fun x y e => by rw [upd_ne (ne_of_none e hHD)]; exact z1 _ _ e, upd_same, ?_, nodup_push x4 hpd, fun t ht => ?_⟩
              · rw [List.range_succ, List.map_append (l₁ := List.range i), ← List.append_assoc]
                refine Ro.keep (f := V.int) z3 (fun t ht => upd_ne ?_)
                rcases List.mem_append.mp ht with z | z
                · exact (x5 t z).2
                · rw [List.mem_singleton.mp z]; exact hpD
              · rcases List.mem_append.mp ht with z | z
                · exact x5 t z
                · rw [List.mem_singleton.mp z]; exact ⟨hpH, hpD⟩
            · rintro σ X ⟨ds, y8, rfl, x1, x2, x3, x4, x5⟩
              rw [Int.toNat_natCast] at x3
              walk_at "go"
              have key : ∀ r ∈ (T ++ [[]] ++ (List.range n).map fun w : Nat => [((n + (n - c) + w : Nat) : Int)]), Gd ((n + (n - c) + 1 + n : Nat) : Int) 44 r ∧ r.Pairwise (· < ·) := fun r hr => by
                rcases List.mem_append.mp hr with z | z
                · rcases List.mem_append.mp z with y | y
                  · exact x7 r y
                  · rw [List.mem_singleton.mp y]; exact ⟨⟨Nat.zero_le _, List.nodup_nil, fun e he => nomatch he⟩, List.Pairwise.nil⟩
                · obtain ⟨w, hw, rfl⟩ := List.mem_map.mp z
                  have := List.mem_range.mp hw
                  exact ⟨⟨by show 1 ≤ 44; decide, nodup_le1 (Nat.le_refl 1), fun e he => by rw [List.mem_singleton.mp he]; omega⟩, List.pairwise_singleton _ _⟩
              have tl : ∀ k : Nat, k < n + (n - c) → (T ++ [[]] ++ (List.range n).map fun w : Nat => [((n + (n - c) + w : Nat) : Int)])[k]? = T[k]? := fun k hk => by
                rw [List.append_assoc, List.getElem?_append_left (by omega)]
              refine q X D1 ds _ (n + (n - c) + 1 + n) x1 hHD x2 x3 (fun t ht => (x5 t ht).1) x4 ⟨by simp only [List.length_append, List.length_map, List.length_range, List.length_singleton, hTl], fun r hr => ((key r hr).1).weak (by decide)⟩ (fun r hr => (key r hr).2) ⟨hlr, hcn, fun k hk => ?_, fun j r hj hr => ?_, fun j hj => ?_, fun _ => ?_, fun _ w hw => ?_⟩ (acyc_of (n := n) (fun k => if k < n + (n - c) then 3 * n + 5 else k - (n + (n - c))) ?_ ?_) (by omega) (by omega) (by omega)
              · rw [tl k (by omega)]; exact x6.grp k hk
              · rw [tl (c + j) (by omega), x6.bar j hj r hr, if_pos (by omega)]
              · rw [tl (n + j) (by omega)]; exact x6.mark j (by omega)
              · rw [List.append_assoc, List.getElem?_append_right (by omega), hTl, Nat.sub_self]; rfl
              · rw [List.append_assoc, List.getElem?_append_right (by omega), hTl, show n + (n - c) + (w + 1) - (n + (n - c)) = w + 1 by omega]
                show ((List.range n).map fun w : Nat => [((n + (n - c) + w : Nat) : Int)])[w]? = _
                rw [List.getElem?_map, List.getElem?_range hw]; rfl
              · rintro k e ⟨r, hr, he⟩ hk he2
                rw [tl k (by omega)] at hr
                by_cases hkc : k < c
                · rw [x6.grp k hkc] at hr; exact ⟨r, hr, he⟩
                · obtain ⟨r0, hr0⟩ : ∃ r, rs[k]? = some r := ⟨_, List.getElem?_eq_getElem (by omega)⟩
                  have := x6.bar (k - c) (by omega) r0 (by rw [show c + (k - c) = k by omega]; exact hr0)
                  rw [show c + (k - c) = k by omega, hr, if_pos (by omega)] at this
                  have := Option.some.inj this
                  subst this
                  rcases List.mem_append.mp he with z | z
                  · exact ⟨r0, hr0, z⟩
                  · have := List.mem_singleton.mp z; omega
              · rintro k e ⟨r, hr, he⟩ hk
                by_cases hkm : k < n + (n - c)
                · rw [tl k hkm] at hr
                  have := x6.mark (k - n) (by omega)
                  rw [show n + (k - n) = k by omega, hr] at this
                  have := Option.some.inj this
                  subst this
                  simp only [List.mem_cons, List.not_mem_nil, or_false] at he
                  rw [if_pos hkm, if_neg (by omega)]
                  omega
                · rw [List.append_assoc, List.getElem?_append_right (by omega), hTl] at hr
                  obtain ⟨j, hj⟩ : ∃ j, k - (n + (n - c)) = j := ⟨_, rfl⟩
                  rw [hj] at hr
                  cases j with
                  | zero => have : ([] : List Int) = r := Option.some.inj hr; subst this; exact nomatch he
                  | succ w =>
                    have hr : ((List.range n).map fun w : Nat => [((n + (n - c) + w : Nat) : Int)])[w]? = some r := hr
                    rw [List.getElem?_map] at hr
                    cases q3 : (List.range n)[w]? with
                    | none => rw [q3] at hr; cases hr
                    | some w2 =>
                      obtain ⟨hw1, hw2⟩ := List.getElem?_eq_some_iff.mp q3
                      rw [List.getElem_range] at hw2
                      subst hw2
                      rw [q3] at hr
                      have hr := Option.some.inj hr
                      subst hr
                      have := List.mem_singleton.mp he
                      rw [if_neg (by omega), if_neg (by omega)]
                      omega
end
end K39
namespace K39
open PySem PySem.Spec PyProof.Rows L2 Lw


local macro_rules | `(tactic| walk_at "look") => `(tactic| first
  | assumption
  | with_reducible exact upd_same
  | with_reducible exact rg_st
  | with_reducible exact rg_g (by assumption)
  | (with_reducible refine upd_old (by assumption) ?_; walk_at "look")
  | (with_reducible refine rg_get (by assumption) ?_; walk_at "look")
  | (with_reducible refine Same.get (by assumption) ?_; walk_at "look"))
local macro_rules | `(tactic| walk_at "cond") => `(tactic| first
  | (show _ ≠ _; omega) | exact cdivN (by omega) (by omega) | exact cmul_mod (by decide) (by decide) | exact cmulR (by omega) (by omega) | exact cmulL (by omega) (by omega) | exact cpow (by omega) (by omega) (by omega) (by omega) | (show (0:Int) ≤ _; omega))
local macro_rules | `(tactic| walk_at "at") => `(tactic| first | assumption | with_unfolding_all rfl)
local macro_rules | `(tactic| walk_at "sz") => `(tactic| first | assumption | (refine small ?_; omega) | (refine small ?_; simp only [List.length_map, List.length_append, List.length_cons, List.length_nil]; omega))
local macro_rules | `(tactic| walk_at "len") => `(tactic| first | exact size_nil | exact Nat.le_of_lt (small (by simp only [List.length_cons, List.length_nil, List.length_map]; omega)))
local macro_rules | `(tactic| walk_at "newD") => `(tactic| (refine ⟨by walk_at "len", fun p np => ?_⟩; obtain ⟨e, o', hD', n', ne'⟩ := newTD_eq (topRg _ _) (by assumption) (by assumption) np (.lst _); rw [e]; clear e))
local macro_rules | `(tactic| walk_at "new") => `(tactic| (refine ⟨by walk_at "len", fun p np => ?_⟩; obtain ⟨e, o', n'⟩ := newT_eq (topRg _ _) (by assumption) np (.lst _); rw [e]; clear e))
local macro_rules | `(tactic| walk_at "st") => `(tactic| first
  | with_reducible refine r_seq ?_
  | with_reducible refine r_var rfl ?_
  | with_reducible refine r_c ?_
  | with_reducible refine r_asg ?_
  | (with_reducible refine r_name ?_; dsimp only [List.set_cons_zero, List.set_cons_succ])
  | with_reducible refine r_sub ?_
  | with_reducible refine r_op ?_
  | with_reducible refine r_i0 ?_
  | (with_reducible refine' r_i ?k1 ?_; (case k1 => walk_at "cond"))
  | with_reducible refine r_cons ?_
  | with_reducible refine r_nil ?_
  | with_reducible refine r_cb ?_
  | with_reducible refine r_call ?_
  | with_reducible refine r_ifs ?_
  | with_reducible refine r_test ?_
  | with_reducible refine r_tB ?_
  | with_reducible refine r_bl ?_
  | with_reducible refine r_ret ?_
  | with_reducible refine r_drop ?_
  | with_reducible refine r_next ?_
  | (with_reducible refine' r_ixL ?k1 ?k2 ?_; (case k1 => walk_at "look"); (case k2 => walk_at "at"))
  | (with_reducible refine' r_setL ?k1 ?k2 ?_; (case k1 => walk_at "look"); (case k2 => walk_at "at"))
  | (with_reducible refine' r_tup (SqT.of ?k1) ?k2 ?_; (case k1 => walk_at "look"); (case k2 => rfl))
  | with_reducible refine r_gcons ?_
  | with_reducible refine r_gnil ?_
  | with_reducible refine r_aug rfl ?_
  | with_reducible refine r_augS ?_
  | with_reducible refine r_ipI ?_
  | with_reducible refine r_un ?_
  | with_reducible refine r_u ?_
  | with_reducible refine r_eq rfl ?_
  | with_reducible refine r_ne rfl ?_
  | with_reducible refine r_chain ?_
  | with_reducible refine iteF ?_
  | with_reducible refine r_not ?_
  | with_reducible refine r_and ?_
  | with_reducible refine r_or ?_
  | with_reducible refine r_andV ?_
  | with_reducible refine r_orV ?_
  | with_reducible refine r_notV ?_
  | with_reducible refine r_lst ?_
  | with_reducible refine r_bm ?_
  | with_reducible refine r_bm0 ?_
  | (with_reducible refine' And.intro (r_ty ?k1) ?_; (case k1 => walk_at "look"))
  | (with_reducible refine' r_append ?k1 ?k2 ?_; (case k1 => walk_at "look"); (case k2 => walk_at "sz"))
  | (with_reducible refine' r_lenK ?k1 ?_; (case k1 => walk_at "look"))
  | (with_reducible refine' r_listOf ?k1 ?_; (case k1 => walk_at "look"))
  | (with_reducible refine' r_sortedI ?k1 ?_; (case k1 => walk_at "look"))
  | (with_reducible refine' r_sum ?k1 ?_; (case k1 => walk_at "look"))
  | with_reducible refine r_int ?_
  | (with_reducible refine' r_draw (by assumption) ?k1 ?k2 ?_; (case k1 => omega); (case k2 => omega); intro R' n' o' h' h'')
  | with_reducible refine iteT ?_
  | with_reducible refine r_revL ?_
  | with_reducible refine r_lc ?_
  | with_reducible refine r_yes ?_
  | with_reducible refine r_sl ?_
  | with_reducible refine r_noPart ?_
  | with_reducible refine r_part ?_
  | with_reducible refine r_lc2 ?_
  | with_reducible refine r_callN ?_
  | with_reducible refine r_callD ?_
  | with_reducible refine r_tupE ?_
  | with_reducible refine r_rng2 ?_
  | with_reducible refine r_i1 ?_
  | (with_reducible refine' r_slL ?k1 ?_; (case k1 => walk_at "look"))
  | with_reducible refine r_for ?_
  | with_reducible refine r_iList ?_
  | with_reducible refine r_rng1 ?_
  | with_reducible refine r_enum ?_
  | (with_reducible show Ends.nx _ _ _; dsimp only)
  | (with_reducible show Ends.rt _ _ _; dsimp only)
  | (with_reducible show Ends.ct _ _ _; dsimp only)
  | (with_reducible show Ends.bk _ _ _; dsimp only))
local macro_rules | `(tactic| walk_at "go") => `(tactic| repeat (walk_at "st"))
local macro_rules | `(tactic| walk_at "begin") => `(tactic| dsimp only [cxOf, wipe, L2.start, List.map, List.length_cons, List.length_nil, Nat.reduceAdd, Nat.reduceSub, List.replicate, List.cons_append, List.nil_append])


open Lm
theorem pss_when {X : Cx} {b : List Stmt} {t : TS} {P : Prop} (h : P → PSs X b t) : PSs X b (fun D σ H => P ∧ t D σ H) := ⟨fun pins s σ H D I hh => (h hh.1).run pins s σ H D I hh.2⟩
theorem zc_at {cls : Value} {d : Option Addr} {CN : Addr} {oe : Obj} (e : cls = .ref CN ∧ d = none) (h : Zc cls d oe) : Zc (.ref CN) none oe := by rw [← e.1, ← e.2]; exact h
/-- what the classes tell of an error of NotStanding -/
structure ExF (K : PySem.W.Frag) (mg : Str → Option Value) (CN cB cH cS cO cT cE : Addr) : Prop where
  c : ExcC K CN
  self : PySem.W.exmOne K (.ref CN) (.ref CN) = some true
  g_BadText : mg "BadText" = some (.ref cB)
  g_HasRing : mg "HasRing" = some (.ref cH)
  g_NoSet : mg "NoSet" = some (.ref cS)
  g_NotOpen : mg "NotOpen" = some (.ref cO)
  g_TooGreat : mg "TooGreat" = some (.ref cT)
  g_SetnestsError : mg "SetnestsError" = some (.ref cE)
  m_ValueError : mg "ValueError" = none
  k5 : PySem.W.kitAny K (.ref CN) [.ref cB, .ref cH, .ref cS, .ref cO, .ref cT] = some false
  kE : PySem.W.kitOne K (.ref CN) (.ref cE) = some true
  kV : PySem.W.kitOne K (.ref CN) (.type "ValueError") = some true
/-- what is told where it stands -/
def Tds (H H' : Hp) (rs : List (List Int)) (n c : Nat) (x : V) : Prop := ∃ (u : Addr) (ts : List Addr) (T : List (List Int)) (l : Nat), x = .ref u ∧ H u = none ∧ H' u = some (.lst (ts.map V.ref)) ∧ Rw H' ts T ∧ (∀ t ∈ ts, H t = none) ∧ ts.Nodup ∧ Wf l 60 T ∧ (∀ r ∈ T, r.Pairwise (· < ·)) ∧ Bd T rs n c ∧ ((∀ x, ¬ Tc (Ed rs) x x) → ∀ x, ¬ Tc (Ed T) x x) ∧ n ≤ l ∧ 1 ≤ l ∧ (l : Int) ≤ 3 * n - c + 2
theorem r_callSD {sp : Sp} {dvs : List V} {E : L2.St → XK} {t : TA} {σ : L2.St} {H : Hp} {Q : VK} (h : t σ H fun vs H1 => sp (vs ++ dvs) H1 Q (E σ)) : tCallSD sp dvs E t σ H Q := h
def spBuilds : Sp := fun vs H Q _ => ∃ (a : Addr) (as : List Addr) (rs : List (List Int)) (n c : Nat), vs = [.int (c : Int), .ref a] ∧ H a = some (.lst (as.map V.ref)) ∧ Rw H as rs ∧ Wf n 43 rs ∧ (∀ r ∈ rs, r.Pairwise (· < ·)) ∧ c ≤ n ∧ n ≤ 60 ∧
  ∀ (H' : Hp) (q : Addr) (wd : Str) (x : V), Same H H' → H' q = some (.lst [.str wd, x]) → ((¬ Stn c rs false ∧ wd = "refused") ∨ (Stn c rs false ∧ wd = "told" ∧ Tds H H' rs n c x)) → Q (.ref q) H'
section
variable {P : Program} {w : World} {K : PySem.W.Frag} {mg : Str → Option Value} {base : Heap}
theorem ok_builds {f f1 CN cB cH cS cO cT cE : Addr} {fd fd1 : FuncData} (B : Blt mg) (ENotStanding : ExN K mg "NotStanding" CN) (Z : ExF K mg CN cB cH cS cO cT cE) (D : Dn K mg "_law_builds" s__law_builds ["count", "rows"] f fd)
    (Dbuild_drawing : DnKD K mg "build_drawing" s_build_drawing ["count", "rows", "rings"] 2 ["rings"] [.bl false] f1 fd1) (Gbuild_drawing : FnOk P w K mg base (L2.CX P w) 5 f1 fd1 ["count", "rows", "rings"] (spBuild CN)) :
    FnOk P w K mg base CX0 6 f fd ["count", "rows"] spBuilds := by
  refine D.F.ok sc__law_builds (fun vs H Q E h => ?_) (fun cdv A outer s H vs Q E hr h => ?_)
  · obtain ⟨a, as, rs, n, c, rfl, _⟩ := h
    rfl
  · obtain ⟨a, as, rs, n, c, rfl, ha, hrw, hwf, hasc, hcn, hn, q⟩ := h
    obtain ⟨ds, hdd, hbb⟩ := Dbuild_drawing.d
    refine ⟨_, (pss_cons (ps_set (i := 2) sc__law_builds.nd rfl (.inl rfl) pe_non) (pss_cons (ps_set (i := 3) sc__law_builds.nd rfl (.inl rfl) pe_str) (pss_cons (ps_try_as (i := 4) (Wout := fun _ _ _ _ => False) rfl rfl sc__law_builds.nd rfl rfl ⟨rfl, by decide, .inl ENotStanding.g⟩ takes0 (fun W pn xe tk _ => pss_one (ps_set (i := 2) sc__law_builds.nd rfl (.inl rfl) (by exact (pe_callSD Gbuild_drawing (hr.mono (by decide)) (by rfl) Dbuild_drawing.g Dbuild_drawing.F.kp hbb hdd (fun σ => passAt tk σ) (by exact (pa_cons (pv 0) (pa_cons (pv 1) pa_nil)))))))
      (fun a oe cls d pn hz hf => pss_when (P := cls = .ref CN ∧ d = none) fun e => by exact (pss_cons (ps_set (i := 5) sc__law_builds.nd rfl (.inl rfl) (pe_callB (call_isET Z.c (zc_at e hz) hf) (by rfl) B.m_isinstance (by decide +kernel) (pa_cons (pv 4) (pa_cons (pe_tup (pa_cons (pe_glob (v := .ref cB) rfl Z.g_BadText rfl) (pa_cons (pe_glob (v := .ref cH) rfl Z.g_HasRing rfl) (pa_cons (pe_glob (v := .ref cS) rfl Z.g_NoSet rfl) (pa_cons (pe_glob (v := .ref cO) rfl Z.g_NotOpen rfl) (pa_cons (pe_glob (v := .ref cT) rfl Z.g_TooGreat rfl) pa_nil)))))) pa_nil))))
      (pss_one (ps_set (i := 3) sc__law_builds.nd rfl (.inl rfl) (pe_ix (ix_listK (K := K) rfl) (pe_lst (pa_cons pe_str (pa_cons pe_str pa_nil))) (pe_callTy call_int1 (by rfl) B.m_int (by decide +kernel) (pa_cons (pe_and (pe_callB (call_isE Z.c (zc_at e hz) hf) (by rfl) B.m_isinstance (by decide +kernel) (pa_cons (pv 4) (pa_cons (pe_glob (v := .ref cE) rfl Z.g_SetnestsError rfl) pa_nil))) (pe_and (pe_callB (call_isE Z.c (zc_at e hz) hf) (by rfl) B.m_isinstance (by decide +kernel) (pa_cons (pv 4) (pa_cons (pe_bltn (v := .ty "ValueError") (by rfl) Z.m_ValueError (by decide +kernel) rfl) pa_nil))) (pe_one (pe_not (pv 5))))) pa_nil)) (fun _ _ => rfl)))))))
      (pss_one (ps_ret (pe_lst (pa_cons (pv 3) (pa_cons (pv 2) pa_nil)))))))), ?_⟩
    walk_at "begin"
    walk_at "go"
    refine r_callSD ?_
    walk_at "go"
    refine ⟨a, as, rs, n, c, false, rfl, ha, hrw, hwf, hasc, hcn, hn, fun hns H1 hS1 => ?_, fun hst H1 u ts T l hS1 hu hu1 hT hfr hnd hwT haT BD hac h1 h2 h3 => ?_⟩
    · refine ⟨true, Z.self, fun _ a0 ha0 => ⟨⟨rfl, rfl⟩, ?_⟩, fun z => Bool.noConfusion z⟩
      dsimp only [List.set_cons_zero, List.set_cons_succ]
      walk_at "go"
      refine ⟨by walk_at "len", fun p np => ?_⟩
      walk_at "go"
      refine ⟨p, [cB, cH, cS, cO, cT], false, rfl, upd_same, Z.k5, ?_⟩
      walk_at "go"
      refine ⟨by walk_at "len", fun p2 np2 => ?_⟩
      walk_at "go"
      refine ⟨_, .ref cE, true, rfl, fun u hu => hu, Z.kE, ?_⟩
      refine ⟨true, rfl, ?_⟩
      rw [if_pos rfl]
      walk_at "go"
      refine ⟨_, .type "ValueError", true, rfl, fun u hu => hu, Z.kV, ?_⟩
      refine ⟨true, rfl, ?_⟩
      rw [if_pos rfl]
      walk_at "go"
      refine .inr ⟨true, rfl, ?_⟩
      dsimp only [if_true]
      walk_at "go"
      have hS2 := (hS1.trans (same_new (o := .tup (List.map V.ref [cB, cH, cS, cO, cT])) np)).trans (same_new (o := .lst [V.str "odd", V.str "refused"]) np2)
      refine ⟨by walk_at "len", fun p3 np3 => ?_⟩
      exact q _ p3 _ _ (hS2.trans (same_new np3)) upd_same (.inl ⟨hns, rfl⟩)
    · walk_at "go"
      refine ⟨by walk_at "len", fun p np => ?_⟩
      have s1 := same_new (o := .lst [V.str "told", V.ref u]) np
      exact q _ p _ _ (hS1.trans s1) upd_same (.inr ⟨hst, rfl, u, ts, T, l, rfl, hu, s1 _ _ hu1, hT.mono s1, hfr, hnd, hwT, haT, BD, hac, h1, h2, h3⟩)
end
end K39
namespace K39
open PySem PySem.Spec PyProof.Rows L2 Lw


local macro_rules | `(tactic| walk_at "look") => `(tactic| first
  | assumption
  | with_reducible exact upd_same
  | with_reducible exact rg_st
  | with_reducible exact rg_g (by assumption)
  | (with_reducible refine upd_old (by assumption) ?_; walk_at "look")
  | (with_reducible refine rg_get (by assumption) ?_; walk_at "look")
  | (with_reducible refine Same.get (by assumption) ?_; walk_at "look"))
local macro_rules | `(tactic| walk_at "cond") => `(tactic| first
  | (show _ ≠ _; omega) | exact cdivN (by omega) (by omega) | exact cmul_mod (by decide) (by decide) | exact cmulR (by omega) (by omega) | exact cmulL (by omega) (by omega) | exact cpow (by omega) (by omega) (by omega) (by omega) | (show (0:Int) ≤ _; omega))
local macro_rules | `(tactic| walk_at "at") => `(tactic| first | assumption | with_unfolding_all rfl)
local macro_rules | `(tactic| walk_at "sz") => `(tactic| first | assumption | (refine small ?_; omega) | (refine small ?_; simp only [List.length_map, List.length_append, List.length_cons, List.length_nil]; omega))
local macro_rules | `(tactic| walk_at "len") => `(tactic| first | exact size_nil | exact Nat.le_of_lt (small (by simp only [List.length_cons, List.length_nil, List.length_map]; omega)))
local macro_rules | `(tactic| walk_at "newD") => `(tactic| (refine ⟨by walk_at "len", fun p np => ?_⟩; obtain ⟨e, o', hD', n', ne'⟩ := newTD_eq (topRg _ _) (by assumption) (by assumption) np (.lst _); rw [e]; clear e))
local macro_rules | `(tactic| walk_at "new") => `(tactic| (refine ⟨by walk_at "len", fun p np => ?_⟩; obtain ⟨e, o', n'⟩ := newT_eq (topRg _ _) (by assumption) np (.lst _); rw [e]; clear e))
local macro_rules | `(tactic| walk_at "st") => `(tactic| first
  | with_reducible refine r_seq ?_
  | with_reducible refine r_var rfl ?_
  | with_reducible refine r_c ?_
  | with_reducible refine r_asg ?_
  | (with_reducible refine r_name ?_; dsimp only [List.set_cons_zero, List.set_cons_succ])
  | with_reducible refine r_sub ?_
  | with_reducible refine r_op ?_
  | with_reducible refine r_i0 ?_
  | (with_reducible refine' r_i ?k1 ?_; (case k1 => walk_at "cond"))
  | with_reducible refine r_cons ?_
  | with_reducible refine r_nil ?_
  | with_reducible refine r_cb ?_
  | with_reducible refine r_call ?_
  | with_reducible refine r_ifs ?_
  | with_reducible refine r_test ?_
  | with_reducible refine r_tB ?_
  | with_reducible refine r_bl ?_
  | with_reducible refine r_ret ?_
  | with_reducible refine r_drop ?_
  | with_reducible refine r_next ?_
  | (with_reducible refine' r_ixL ?k1 ?k2 ?_; (case k1 => walk_at "look"); (case k2 => walk_at "at"))
  | (with_reducible refine' r_setL ?k1 ?k2 ?_; (case k1 => walk_at "look"); (case k2 => walk_at "at"))
  | (with_reducible refine' r_tup (SqT.of ?k1) ?k2 ?_; (case k1 => walk_at "look"); (case k2 => rfl))
  | with_reducible refine r_gcons ?_
  | with_reducible refine r_gnil ?_
  | with_reducible refine r_aug rfl ?_
  | with_reducible refine r_augS ?_
  | with_reducible refine r_ipI ?_
  | with_reducible refine r_un ?_
  | with_reducible refine r_u ?_
  | with_reducible refine r_eq rfl ?_
  | with_reducible refine r_ne rfl ?_
  | with_reducible refine r_chain ?_
  | with_reducible refine iteF ?_
  | with_reducible refine r_not ?_
  | with_reducible refine r_and ?_
  | with_reducible refine r_or ?_
  | with_reducible refine r_andV ?_
  | with_reducible refine r_orV ?_
  | with_reducible refine r_notV ?_
  | with_reducible refine r_lst ?_
  | with_reducible refine r_bm ?_
  | with_reducible refine r_bm0 ?_
  | (with_reducible refine' And.intro (r_ty ?k1) ?_; (case k1 => walk_at "look"))
  | (with_reducible refine' r_append ?k1 ?k2 ?_; (case k1 => walk_at "look"); (case k2 => walk_at "sz"))
  | (with_reducible refine' r_lenK ?k1 ?_; (case k1 => walk_at "look"))
  | (with_reducible refine' r_listOf ?k1 ?_; (case k1 => walk_at "look"))
  | (with_reducible refine' r_sortedI ?k1 ?_; (case k1 => walk_at "look"))
  | (with_reducible refine' r_sum ?k1 ?_; (case k1 => walk_at "look"))
  | with_reducible refine r_int ?_
  | (with_reducible refine' r_draw (by assumption) ?k1 ?k2 ?_; (case k1 => omega); (case k2 => omega); intro R' n' o' h' h'')
  | with_reducible refine iteT ?_
  | with_reducible refine r_revL ?_
  | with_reducible refine r_lc ?_
  | with_reducible refine r_yes ?_
  | with_reducible refine r_sl ?_
  | with_reducible refine r_noPart ?_
  | with_reducible refine r_part ?_
  | with_reducible refine r_lc2 ?_
  | with_reducible refine r_callN ?_
  | with_reducible refine r_callD ?_
  | with_reducible refine r_tupE ?_
  | with_reducible refine r_rng2 ?_
  | with_reducible refine r_i1 ?_
  | (with_reducible refine' r_slL ?k1 ?_; (case k1 => walk_at "look"))
  | with_reducible refine r_for ?_
  | with_reducible refine r_iList ?_
  | with_reducible refine r_rng1 ?_
  | with_reducible refine r_enum ?_
  | (with_reducible show Ends.nx _ _ _; dsimp only)
  | (with_reducible show Ends.rt _ _ _; dsimp only)
  | (with_reducible show Ends.ct _ _ _; dsimp only)
  | (with_reducible show Ends.bk _ _ _; dsimp only))
local macro_rules | `(tactic| walk_at "go") => `(tactic| repeat (walk_at "st"))
local macro_rules | `(tactic| walk_at "begin") => `(tactic| dsimp only [cxOf, wipe, L2.start, List.map, List.length_cons, List.length_nil, Nat.reduceAdd, Nat.reduceSub, List.replicate, List.cons_append, List.nil_append])

open Lm
theorem pick_zero {n : Nat} {f : Nat → Bool} : (pick n f).length = 0 ↔ ∀ i, i < n → f i = false := by
  unfold pick
  rw [List.length_map, List.length_eq_zero_iff, List.filter_eq_nil_iff]
  constructor
  · intro h i hi
    have := h i (List.mem_range.mpr hi)
    cases q : f i with
    | false => rfl
    | true => exact absurd q this
  · intro h i hi
    rw [h i (List.mem_range.mp hi)]; decide
theorem r_neR {K : PySem.W.Frag} {H : Hp} {Q : VK} {a b : Addr} {as bs : List Addr} {xs ys : List (List Int)} (h1 : H a = some (.lst (as.map V.ref))) (h2 : H b = some (.lst (bs.map V.ref))) (r1 : Rw H as xs) (r2 : Rw H bs ys) (q : Q (.bl (!decide (xs = ys))) H) : rNeD K (.ref a) (.ref b) H Q :=
  ⟨dR xs, dR ys, dpR h1 r1, dpR h2 r2, shR xs, shR ys, by unfold dR; rw [PyData.eqv, eqR]; exact q⟩


theorem alk_false {c n : Nat} {rs : List (List Int)} (hn : rs.length = n) (hc : c ≤ n) : Alk c rs false ↔ ∃ k, k < c ∧ rs.getD k [] ∈ rs.take k := by
  constructor
  · rintro ⟨g, h, h1, h2, h3⟩
    simp only [Bool.false_eq_true, if_false] at h3
    obtain ⟨r, hr⟩ : ∃ r, rs[h]? = some r := ⟨_, List.getElem?_eq_getElem (by omega)⟩
    refine ⟨h, h2, ?_⟩
    rw [List.getD_eq_getElem?_getD, hr]
    refine List.mem_iff_getElem?.mpr ⟨g, ?_⟩
    rw [List.getElem?_take_of_lt h1, h3, hr]; rfl
  · rintro ⟨k, hk, hm⟩
    obtain ⟨r, hr⟩ : ∃ r, rs[k]? = some r := ⟨_, List.getElem?_eq_getElem (by omega)⟩
    rw [List.getD_eq_getElem?_getD, hr] at hm
    obtain ⟨g, hg⟩ := List.mem_iff_getElem?.mp hm
    obtain ⟨h1, h2⟩ := take_at hg
    refine ⟨g, k, h1, hk, ?_⟩
    simp only [Bool.false_eq_true, if_false]
    rw [h2, hr]; rfl


local macro_rules | `(tactic| walk_at "st") => `(tactic| first
  | (with_reducible refine' r_inI ?k1 ?_; (case k1 => walk_at "look")))
def spJudged : Sp := fun vs H Q _ => ∃ (a : Addr) (as : List Addr) (rs : List (List Int)) (n c : Nat), vs = [.int (c : Int), .ref a] ∧ H a = some (.lst (as.map V.ref)) ∧ Rw H as rs ∧ Wf n 43 rs ∧ (∀ r ∈ rs, r.Pairwise (· < ·)) ∧ c ≤ n ∧ n ≤ 60 ∧
  ∀ H' : Hp, Same H H' → Q (.bl true) H'
section
variable {P : Program} {w : World} {K : PySem.W.Frag} {mg : Str → Option Value} {base : Heap}
theorem ok_judged {f f1 f2 f3 f4 CN : Addr} {fd fd1 fd2 fd3 fd4 : FuncData} (B : Blt mg) (D : Dn K mg "_law_judged" s__law_judged ["count", "rows"] f fd)
    (D_law_builds : Dn K mg "_law_builds" s__law_builds ["count", "rows"] f1 fd1) (G_law_builds : FnOk P w K mg base CX0 6 f1 fd1 ["count", "rows"] spBuilds)
    (D_law_sets : Dn K mg "_law_sets" s__law_sets ["drawing"] f2 fd2) (G_law_sets : FnOk P w K mg base CX0 1 f2 fd2 ["drawing"] spSets)
    (D_law_is_built : Dn K mg "_law_is_built" s__law_is_built ["told", "count", "rows"] f3 fd3) (G_law_is_built : FnOk P w K mg base CX0 2 f3 fd3 ["told", "count", "rows"] spIsBuilt)
    (Dbuild_drawing : DnKD K mg "build_drawing" s_build_drawing ["count", "rows", "rings"] 2 ["rings"] [.bl false] f4 fd4) (Gbuild_drawing : FnOk P w K mg base (L2.CX P w) 5 f4 fd4 ["count", "rows", "rings"] (spBuild CN)) :
    FnOk P w K mg base CX0 7 f fd ["count", "rows"] spJudged := by
  refine D.F.ok sc__law_judged (fun vs H Q E h => ?_) (fun cdv A outer s H vs Q E hr h => ?_)
  · obtain ⟨a, as, rs, n, c, rfl, _⟩ := h
    rfl
  · obtain ⟨a, as, rs, n, c, rfl, ha, hrw, hwf, hasc, hcn, hn, q⟩ := h
    have hlr : rs.length = n := hwf.1
    have hla : as.length = n := by rw [hrw.1]; exact hwf.1
    have h0 : ∀ r ∈ rs, ∀ e ∈ r, 0 ≤ e := fun r hr e he => ((hwf.2 r hr).2.2 e he).1
    have hwf60 : Wf n 60 rs := ⟨hlr, fun r hr => (hwf.2 r hr).weak (by decide)⟩
    refine ⟨_, (pss_cons (ps_setLc (i := 2) (own := [("row", 5)]) rfl sc__law_judged.nd rfl rfl (sw_true rfl rfl rfl (by decide +kernel)) (pi_listK (K := K) rfl (pv 1)) (blkOk_by (own := [("row", 5)]) (by kernel_rfl))
        (fun _ _ _ _ _ => (pg_name (i := 5) sc__law_judged.nd rfl (.inl rfl))) (fun _ _ _ _ _ => pts_nil)
        (fun _ _ _ _ _ => (pe_callTy (call_list_ofK (K := K) rfl) (by rfl) B.m_list (by decide +kernel) (pa_cons (pv 5) pa_nil))))
      (pss_cons (ps_set (i := 3) sc__law_judged.nd rfl (.inl rfl) (pe_call G_law_builds (hr.mono (by decide)) (by rfl) D_law_builds.g D_law_builds.F.kp D_law_builds.b .nil pass0 (pa_cons (pv 0) (pa_cons (pv 2) pa_nil))))
      (pss_cons (ps_set (i := 4) sc__law_judged.nd rfl (.inl rfl) (pe_cmpR op_gt (pe_callB (call_len_seqK (K := K) rfl) (by rfl) B.m_len PySem.boot_len (pa_cons (pe_lc (own := [("k", 7)]) rfl sc__law_judged.nd (pi_range1 (by rfl) B.m_range (pa_cons (pv 0) pa_nil)) (blkOk_by (own := [("k", 7)]) (by kernel_rfl))
        (fun _ _ _ _ _ => (pg_name (i := 7) sc__law_judged.nd rfl (.inl rfl))) (fun _ _ _ _ _ => (pts_one (pt_cmpR (op_inDK (K := K) rfl (u65 hr)) (pe_ix (ix_listK (K := K) rfl) (pv 1) (pv 7) (fun _ _ => rfl)) (pe_slice (sl_listK (K := K) rfl) (pv 1) po_none (po_some (pv 7))) (by rfl))))
        (fun _ _ _ _ _ => (pv 7))) pa_nil)) pe_int (nomark _)))
      (C8.pss_cut (ps_if (PW.pt (pw_or (pt_val (pv 4)) (pw_or1 (pt_cmpR (op_in_seqK (K := K) rfl) (pe_un un_neg pe_int) (pe_call G_law_sets (hr.mono (by decide)) (by rfl) D_law_sets.g D_law_sets.F.kp D_law_sets.b .nil pass0 (pa_cons (pv 1) pa_nil)) (by rfl))))) (pss_one (ps_ret (pe_and (pe_cmpR op_eq (pe_ix (ix_listK (K := K) rfl) (pv 3) pe_int (fun _ _ => rfl)) pe_str (nomark _)) (pe_one (pe_cmpR (op_eqDK (K := K) rfl hr.units) (pv 2) (pv 1) (nomark _)))))) pss_nil)
      (C8.pss_cut (ps_if (PW.pt (pw_or (pt_cmpR op_ne (pe_ix (ix_listK (K := K) rfl) (pv 3) pe_int (fun _ _ => rfl)) pe_str (nomark _)) (pw_or1 (pt_not (pt_val (pe_call G_law_is_built (hr.mono (by decide)) (by rfl) D_law_is_built.g D_law_is_built.F.kp D_law_is_built.b .nil pass0 (pa_cons (pe_ix (ix_listK (K := K) rfl) (pv 3) pe_int (fun _ _ => rfl)) (pa_cons (pv 0) (pa_cons (pv 1) pa_nil))))))))) (pss_one (ps_ret pe_bl)) pss_nil)
      (pss_cons (ps_for PassesOwn.never rfl (pi_listK (K := K) rfl (pe_ix (ix_listK (K := K) rfl) (pv 3) pe_int (fun _ _ => rfl))) (pg_name (i := 5) sc__law_judged.nd rfl (.inl rfl)) (pss_one (ps_expr (pe_bmK (K := K) rfl PySem.F.plainAttrs_list PySem.F.slot_list_append PySem.F.type_list_append mt_append (pv 5) (pa_cons pe_int pa_nil)))))
      (pss_cons (ps_set (i := 6) sc__law_judged.nd rfl (.inl rfl) (pe_callN Gbuild_drawing (hr.mono (by decide)) (by rfl) Dbuild_drawing.g Dbuild_drawing.F.kp Dbuild_drawing.kb (passes_call takes0 (fun _ _ _ _ h => h)) (pa_cons (pv 0) (pa_cons (pv 2) pa_nil)) (pk_cons pe_bl pk_nil)))
      (pss_one (ps_ret (pe_and (pe_call G_law_is_built (hr.mono (by decide)) (by rfl) D_law_is_built.g D_law_is_built.F.kp D_law_is_built.b .nil pass0 (pa_cons (pv 6) (pa_cons (pv 0) (pa_cons (pv 1) pa_nil)))) (pe_one (pe_cmpR (op_eqDK (K := K) rfl hr.units) (pv 2) (pv 1) (nomark _))))))))))))), ?_⟩
    walk_at "begin"
    walk_at "go"
    refine lcT_list topH (K := K) (s0 := ()) trivial (xs := as.map V.ref) ha (fun i C acc => ∃ hs : List Addr, acc = hs.map V.ref ∧ Rw C hs (rs.take i)) ⟨[], rfl, Rw.nil⟩ ?_ ?_
    · rintro D7 i x _ C acc _ hD hS hx ⟨hs, rfl, hh⟩
      obtain ⟨b, r, rfl, hb1, hr1, hc1⟩ := (hrw.mono hS).at hx
      have hhl : hs.length ≤ i := by rw [hh.1, List.length_take]; omega
      have hi := (List.getElem?_eq_some_iff.mp hr1).1
      walk_at "begin"
      walk_at "go"
      refine ⟨rfl, ?_⟩
      walk_at "go"
      intro p np
      obtain ⟨e, _, hD5, n5, ne5⟩ := newTD_eq topH (s := ()) trivial hD np (.lst (r.map V.int))
      try dsimp only at e
      rw [e]
      refine lcN_put topH (s := ()) trivial hD5 (hS.trans (same_new n5)) ?_ ⟨hs ++ [p], refs_push _ _, ?_⟩
      · rw [List.length_map]; omega
      · rw [tk_succ hr1]
        exact (hh.mono (same_new n5)).push upd_same
    · rintro D7 _ C acc _ hB7 hD7 hS7 ⟨hs, rfl, hh0⟩
      rw [List.length_map, hla, ← hlr, List.take_length] at hh0
      have hS1 : Same H (upd C D7 (.lst (hs.map V.ref))) := hS7.trans (same_new hD7)
      have hh1 := hh0.mono (same_new (o := .lst (hs.map V.ref)) hD7)
      have hd1 : upd C D7 (.lst (hs.map V.ref)) D7 = some (.lst (hs.map V.ref)) := upd_same
      dsimp only at *
      generalize upd C D7 (.lst (hs.map V.ref)) = H1 at hS1 hh1 hd1 ⊢
      clear hh0 hB7 hD7 hS7 C
      walk_at "go"
      refine ⟨D7, hs, rs, n, c, rfl, hd1, hh1, hwf, hasc, hcn, hn, fun H2 q2 wd x hS2 hq2 hor => ?_⟩
      have hS02 := hS1.trans hS2
      have ha2 := hS02 _ _ ha
      walk_at "go"
      -- doubled
      refine lcT_range topH (s0 := ()) trivial (n := (c : Int)) ?_ ?_ (fun i C acc => acc = (pick i fun k => decide (rs.getD k [] ∈ rs.take k)).map V.int) rfl ?_ ?_
      · omega
      · omega
      · rintro D3 i _ C acc _ hD hS hi rfl
        rw [Int.toNat_natCast] at hi
        have hpl := pick_len i fun k => decide (rs.getD k [] ∈ rs.take k)
        obtain ⟨r, hr1⟩ : ∃ r, rs[i]? = some r := ⟨_, List.getElem?_eq_getElem (by omega)⟩
        have hg : rs.getD i [] = r := by rw [List.getD_eq_getElem?_getD, hr1]; rfl
        have hrwC := hrw.mono (hS02.trans hS)
        obtain ⟨b, hb1, hb2, hb3⟩ := Ro.get (f := V.int) hrwC hr1
        have hatb : atI (as.map V.ref) (i : Int) = some (.ref b) := at_i (by omega) (by rw [Int.toNat_natCast]; exact hb2)
        have haC := hS _ _ ha2
        walk_at "begin"
        walk_at "go"
        refine ⟨rfl, ?_⟩
        walk_at "go"
        intro p np
        rw [cut_to _ (Int.natCast_nonneg i), Int.toNat_natCast, ← List.map_take]
        obtain ⟨e, _, hD5, n5, ne5⟩ := newTD_eq topH (s := ()) trivial hD np (.lst ((as.take i).map V.ref))
        try dsimp only at e
        rw [e]
        refine r_inR (upd_old hD5 (same_new n5 _ _ hb3)) (upd_old hD5 upd_same) ((rw_take hrwC i).mono ((same_new n5).trans (same_new hD5))) ?_
        walk_at "go"
        refine r_ite (fun t => ?_) (fun t => ?_)
        · walk_at "go"
          refine lcN_put topH (s := ()) trivial hD5 (hS.trans (same_new n5)) ?_ ?_
          · rw [List.length_map]; omega
          · rw [pick_succ, hg, if_pos (decide_eq_true t), ints_push]
        · refine lcN_skip (s := ()) trivial hD5 (hS.trans (same_new n5)) ?_
          rw [pick_succ, hg, if_neg (by rw [decide_eq_true_eq]; exact t), List.append_nil]
      · rintro D3 _ C acc _ hB3 hD3 hS0 rfl
        rw [Int.toNat_natCast]
        have hdoub : (pick c fun k => decide (rs.getD k [] ∈ rs.take k)).length = 0 ↔ ¬ Alk c rs false := by
          rw [pick_zero, alk_false hlr hcn]
          constructor
          · rintro h ⟨k, hk, hm⟩
            have := h k hk
            rw [decide_eq_false_iff_not] at this
            exact this hm
          · intro h i hi
            rw [decide_eq_false_iff_not]
            exact fun hm => h ⟨i, hi, hm⟩
        generalize (pick c fun k => decide (rs.getD k [] ∈ rs.take k)) = pd at hdoub ⊢
        have hS3 : Same H2 (upd C D3 (.lst (pd.map V.int))) := hS0.trans (same_new hD3)
        have hd3 : upd C D3 (.lst (pd.map V.int)) D3 = some (.lst (pd.map V.int)) := upd_same
        dsimp only at *
        generalize upd C D3 (.lst (pd.map V.int)) = H3 at hS3 hd3 ⊢
        clear hB3 hD3 hS0 C
        walk_at "go"
        rw [List.length_map]
        generalize hdb1 : decide ((pd.length : Int) > 0) = db
        have hdb2 : db = false ↔ ¬ Alk c rs false := by
          rw [← hdoub, ← hdb1, decide_eq_false_iff_not]; omega
        clear hdoub hdb1 hd3
        have hS13 := hS2.trans hS3
        have hS03 := hS1.trans hS13
        have ha3 := hS03 _ _ ha
        have hrw3 := hrw.mono hS03
        have hd3 := hS13 _ _ hd1
        have hh3 := hh1.mono hS13
        have hq3 := hS3 _ _ hq2
        have at0 : atI [V.str wd, x] 0 = some (.str wd) := rfl
        have at1 : atI [V.str wd, x] 1 = some x := rfl
        have ref : ∀ HM : Hp, Same H3 HM → ¬ Stn c rs false → wd = "refused" := fun HM _ hst => hor.elim (fun z => z.2) (fun z => absurd z.1 hst)
        refine ⟨fun σ HM => σ = [some (.int c), some (.ref a), some (.ref D7), some (.ref q2), some (.bl db), none, none, none] ∧ Same H3 HM ∧ Stn c rs false, ?_, ?_⟩
        · walk_at "go"
          have fin : ∀ HM : Hp, Same H3 HM → ¬ Stn c rs false → HM q2 = some (.lst [.str "refused", x]) := fun HM s1 hst => by rw [← ref HM s1 hst]; exact s1 _ _ hq3
          have at0 : atI [V.str "refused", x] 0 = some (.str "refused") := rfl
          cases db with
          | true =>
            rw [if_pos rfl, if_pos rfl]
            have hst : ¬ Stn c rs false := fun z => by have := hdb2.mpr z.1; cases this
            have hqr := fin H3 (Same.refl _) hst
            walk_at "go"
            refine r_ite (fun _ => ?_) (fun z => absurd rfl z)
            walk_at "go"
            refine r_eqR hd3 ha3 hh3 hrw3 ?_
            rw [decide_eq_true rfl]
            exact q _ hS03
          | false =>
            rw [if_neg Bool.false_ne_true]
            walk_at "go"
            refine ⟨a, as, rs, n, rfl, ha3, hrw3, hwf60, by omega, fun H4 qn N hS4 hqn hNl hN0 hNa hNe => ?_⟩
            walk_at "go"
            refine r_ite (fun t => ?_) (fun t => ?_)
            · have hst : ¬ Stn c rs false := fun z => by
                rcases z.2 with y | y
                · cases y
                · have := hNa.mpr y _ t; omega
              have hqr := fin H4 hS4 hst
              have ha4 := hS4 _ _ ha3
              have hd4 := hS4 _ _ hd3
              walk_at "go"
              refine r_ite (fun _ => ?_) (fun z => absurd rfl z)
              walk_at "go"
              refine r_eqR hd4 ha4 (hh3.mono hS4) (hrw3.mono hS4) ?_
              rw [decide_eq_true rfl]
              exact q _ (hS03.trans hS4)
            · walk_at "go"
              exact ⟨rfl, hS4, hdb2.mp rfl, .inr (hNa.mp fun z hz => by
                have := hN0 z hz
                have h2 : z ≠ -1 := fun e => t (e ▸ hz)
                omega)⟩
        · rintro σ H4 ⟨rfl, hS4, hst⟩
          obtain ⟨_, rfl, u, ts, T, l, rfl, hu, hu1, hT, hfr, hnd, hwT, haT, BD, hac, h1, h2, h3⟩ := hor.resolve_left (fun z => z.1 hst)
          have hacy : ∀ x, ¬ Tc (Ed rs) x x := hst.2.resolve_left Bool.false_ne_true
          have hal : ∀ g h, Bs c rs g h → g = h := fun g h b => Classical.byContradiction fun e => by
            obtain ⟨x, y, k1, k2, k3⟩ := Bs.doubled hlr hcn h0 hasc hacy b e
            exact hst.1 ⟨x, y, k1, k2, by rw [if_neg Bool.false_ne_true]; exact k3⟩
          have hS24 := hS3.trans hS4
          have hS04 := hS03.trans hS4
          have hq4 := hS4 _ _ hq3
          have ha4 := hS04 _ _ ha
          have hu4 := hS24 _ _ hu1
          have hT4 := hT.mono hS24
          have hlT : T.length = l := hwT.1
          walk_at "go"
          refine ⟨fun σ HM => σ = [some (.int c), some (.ref a), some (.ref D7), some (.ref q2), some (.bl db), none, none, none] ∧ Same H4 HM, ?_, ?_⟩
          · walk_at "go"
            refine r_iten (fun z => absurd rfl z) (fun _ => ?_)
            walk_at "go"
            refine ⟨u, a, ts, as, T, rs, l, n, c, rfl, hu4, hT4, hwT, haT, hac hacy, ha4, hrw.mono hS04, hwf60, hasc, hcn, BD, hal, h1, h2, h3, by omega, hn, fun H5 hS5 => ?_⟩
            walk_at "go"
            refine r_iteB (fun z => absurd z (by decide)) (fun _ => ?_)
            walk_at "go"
            exact ⟨rfl, hS5⟩
          · rintro σ H5 ⟨rfl, hS5⟩
            have hq5 := hS5 _ _ hq4
            have hu5 := hS5 _ _ hu4
            have hT5 := hT4.mono hS5
            have hH15 : Same H1 H5 := (hS13.trans hS4).trans hS5
            have hlts : ts.length = l := by rw [hT.1]; exact hlT
            have hut : ∀ t ∈ ts, t ≠ u := fun t ht e => by
              obtain ⟨j, hj⟩ := List.mem_iff_getElem?.mp ht
              obtain ⟨r, _, hr⟩ := hT5.2 j t hj
              rw [e, hu5] at hr
              have := HO.lst.inj (Option.some.inj hr)
              cases ts with
              | nil => exact nomatch ht
              | cons z zs => cases r with
                | nil => cases this
                | cons y ys => cases this
            walk_at "go"
            refine r_forL (xs := ts.map V.ref) hu5 (fun i σ X => ∃ y5, σ = [some (V.int ↑c), some (V.ref a), some (V.ref D7), some (V.ref q2), some (V.bl db), y5, none, none] ∧ Same H1 X ∧ X u = some (.lst (ts.map V.ref)) ∧ ∀ j b, i ≤ j → ts[j]? = some b → ∃ r, T[j]? = some r ∧ X b = some (.lst (r.map V.int))) ⟨_, rfl, hH15, hu5, fun j b _ hb => hT5.2 j b hb⟩ ?_ ?_ ?_
            · rintro i σ X _ ⟨y, rfl, _, x2, _⟩
              exact x2
            · rintro i x σ X hx ⟨y, rfl, x1, x2, x3⟩
              rw [List.getElem?_map] at hx
              obtain ⟨b, hb, rfl⟩ : ∃ b, ts[i]? = some b ∧ x = V.ref b := by
                cases e : ts[i]? with
                | none => rw [e] at hx; cases hx
                | some b => rw [e] at hx; exact ⟨b, rfl, (Option.some.inj hx).symm⟩
              obtain ⟨r, hr1, hr2⟩ := x3 i b (Nat.le_refl _) hb
              have hrl := (hwT.2 r (List.mem_of_getElem? hr1)).1
              have hbm := List.mem_of_getElem? hb
              walk_at "go"
              refine ⟨_, rfl, fun p o e => ?_, ?_, fun j b' hj hb' => ?_⟩
              · rw [upd_ne (ne_of_none e (hfr b hbm))]; exact x1 _ _ e
              · rw [upd_ne (hut b hbm).symm]; exact x2
              · obtain ⟨r', h1', h2'⟩ := x3 j b' (by omega) hb'
                refine ⟨r', h1', ?_⟩
                rw [upd_ne (fun e => ?_)]
                · exact h2'
                · rw [e] at hb'
                  have := at_inj hnd hb' hb
                  omega
            · rintro σ X ⟨y, rfl, x1, _, _⟩
              have ha6 := (hS1.trans x1) _ _ ha
              have hd6 := x1 _ _ hd1
              walk_at "go"
              refine ⟨rfl, rfl, D7, hs, rs, n, c, false, rfl, hd6, hh1.mono x1, hwf, hasc, hcn, hn, fun z => absurd hst z, fun _ H7 u7 ts7 T7 l7 hS7 hu7 hu71 hT7 _ _ hwT7 haT7 BD7 hac7 k1 k2 k3 => ?_⟩
              have ha7 := hS7 _ _ ha6
              have hd7 := hS7 _ _ hd6
              walk_at "go"
              refine ⟨u7, a, ts7, as, T7, rs, l7, n, c, rfl, hu71, hT7, hwT7, haT7, hac7 hacy, ha7, hrw.mono ((hS1.trans x1).trans hS7), hwf60, hasc, hcn, BD7, hal, k1, k2, k3, by omega, hn, fun H8 hS8 => ?_⟩
              refine ⟨true, rfl, ?_⟩
              rw [if_pos rfl]
              have x8 := (x1.trans hS7).trans hS8
              walk_at "go"
              refine r_eqR (x8 _ _ hd1) ((hS1.trans x8) _ _ ha) (hh1.mono x8) (hrw.mono (hS1.trans x8)) ?_
              rw [decide_eq_true rfl]
              exact q _ (hS1.trans x8)
end
end K39
namespace K39
open PySem PySem.Spec PyProof.Rows L2 Lw


local macro_rules | `(tactic| walk_at "look") => `(tactic| first
  | assumption
  | with_reducible exact upd_same
  | with_reducible exact rg_st
  | with_reducible exact rg_g (by assumption)
  | (with_reducible refine upd_old (by assumption) ?_; walk_at "look")
  | (with_reducible refine rg_get (by assumption) ?_; walk_at "look")
  | (with_reducible refine Same.get (by assumption) ?_; walk_at "look"))
local macro_rules | `(tactic| walk_at "cond") => `(tactic| first
  | (show _ ≠ _; omega) | exact cdivN (by omega) (by omega) | exact cmul_mod (by decide) (by decide) | exact cmulR (by omega) (by omega) | exact cmulL (by omega) (by omega) | exact cpow (by omega) (by omega) (by omega) (by omega) | (show (0:Int) ≤ _; omega))
local macro_rules | `(tactic| walk_at "at") => `(tactic| first | assumption | with_unfolding_all rfl)
local macro_rules | `(tactic| walk_at "sz") => `(tactic| first | assumption | (refine small ?_; omega) | (refine small ?_; simp only [List.length_map, List.length_append, List.length_cons, List.length_nil]; omega))
local macro_rules | `(tactic| walk_at "len") => `(tactic| first | exact size_nil | exact Nat.le_of_lt (small (by simp only [List.length_cons, List.length_nil, List.length_map]; omega)))
local macro_rules | `(tactic| walk_at "newD") => `(tactic| (refine ⟨by walk_at "len", fun p np => ?_⟩; obtain ⟨e, o', hD', n', ne'⟩ := newTD_eq (topRg _ _) (by assumption) (by assumption) np (.lst _); rw [e]; clear e))
local macro_rules | `(tactic| walk_at "new") => `(tactic| (refine ⟨by walk_at "len", fun p np => ?_⟩; obtain ⟨e, o', n'⟩ := newT_eq (topRg _ _) (by assumption) np (.lst _); rw [e]; clear e))
local macro_rules | `(tactic| walk_at "st") => `(tactic| first
  | with_reducible refine r_seq ?_
  | with_reducible refine r_var rfl ?_
  | with_reducible refine r_c ?_
  | with_reducible refine r_asg ?_
  | (with_reducible refine r_name ?_; dsimp only [List.set_cons_zero, List.set_cons_succ])
  | with_reducible refine r_sub ?_
  | with_reducible refine r_op ?_
  | with_reducible refine r_i0 ?_
  | (with_reducible refine' r_i ?k1 ?_; (case k1 => walk_at "cond"))
  | with_reducible refine r_cons ?_
  | with_reducible refine r_nil ?_
  | with_reducible refine r_cb ?_
  | with_reducible refine r_call ?_
  | with_reducible refine r_ifs ?_
  | with_reducible refine r_test ?_
  | with_reducible refine r_tB ?_
  | with_reducible refine r_bl ?_
  | with_reducible refine r_ret ?_
  | with_reducible refine r_drop ?_
  | with_reducible refine r_next ?_
  | (with_reducible refine' r_ixL ?k1 ?k2 ?_; (case k1 => walk_at "look"); (case k2 => walk_at "at"))
  | (with_reducible refine' r_setL ?k1 ?k2 ?_; (case k1 => walk_at "look"); (case k2 => walk_at "at"))
  | (with_reducible refine' r_tup (SqT.of ?k1) ?k2 ?_; (case k1 => walk_at "look"); (case k2 => rfl))
  | with_reducible refine r_gcons ?_
  | with_reducible refine r_gnil ?_
  | with_reducible refine r_aug rfl ?_
  | with_reducible refine r_augS ?_
  | with_reducible refine r_ipI ?_
  | with_reducible refine r_un ?_
  | with_reducible refine r_u ?_
  | with_reducible refine r_eq rfl ?_
  | with_reducible refine r_ne rfl ?_
  | with_reducible refine r_chain ?_
  | with_reducible refine iteF ?_
  | with_reducible refine r_not ?_
  | with_reducible refine r_and ?_
  | with_reducible refine r_or ?_
  | with_reducible refine r_andV ?_
  | with_reducible refine r_orV ?_
  | with_reducible refine r_notV ?_
  | with_reducible refine r_lst ?_
  | with_reducible refine r_bm ?_
  | with_reducible refine r_bm0 ?_
  | (with_reducible refine' And.intro (r_ty ?k1) ?_; (case k1 => walk_at "look"))
  | (with_reducible refine' r_append ?k1 ?k2 ?_; (case k1 => walk_at "look"); (case k2 => walk_at "sz"))
  | (with_reducible refine' r_lenK ?k1 ?_; (case k1 => walk_at "look"))
  | (with_reducible refine' r_listOf ?k1 ?_; (case k1 => walk_at "look"))
  | (with_reducible refine' r_sortedI ?k1 ?_; (case k1 => walk_at "look"))
  | (with_reducible refine' r_sum ?k1 ?_; (case k1 => walk_at "look"))
  | with_reducible refine r_int ?_
  | (with_reducible refine' r_draw (by assumption) ?k1 ?k2 ?_; (case k1 => omega); (case k2 => omega); intro R' n' o' h' h'')
  | with_reducible refine iteT ?_
  | with_reducible refine r_revL ?_
  | with_reducible refine r_lc ?_
  | with_reducible refine r_yes ?_
  | with_reducible refine r_sl ?_
  | with_reducible refine r_noPart ?_
  | with_reducible refine r_part ?_
  | with_reducible refine r_lc2 ?_
  | with_reducible refine r_callN ?_
  | with_reducible refine r_callD ?_
  | with_reducible refine r_tupE ?_
  | with_reducible refine r_rng2 ?_
  | with_reducible refine r_i1 ?_
  | (with_reducible refine' r_slL ?k1 ?_; (case k1 => walk_at "look"))
  | with_reducible refine r_for ?_
  | with_reducible refine r_iList ?_
  | with_reducible refine r_rng1 ?_
  | with_reducible refine r_enum ?_
  | (with_reducible show Ends.nx _ _ _; dsimp only)
  | (with_reducible show Ends.rt _ _ _; dsimp only)
  | (with_reducible show Ends.ct _ _ _; dsimp only)
  | (with_reducible show Ends.bk _ _ _; dsimp only))
local macro_rules | `(tactic| walk_at "go") => `(tactic| repeat (walk_at "st"))
local macro_rules | `(tactic| walk_at "begin") => `(tactic| dsimp only [cxOf, wipe, L2.start, List.map, List.length_cons, List.length_nil, Nat.reduceAdd, Nat.reduceSub, List.replicate, List.cons_append, List.nil_append])


def spLaw (K : PySem.W.Frag) : Sp := fun vs H Q _ => ∃ (a : Addr) (ns : List Int), vs = [.ref a] ∧ SqL K H a (ns.map V.int) ∧ ns.length ≤ 63 ∧ ∀ H' : Hp, Q (.bl true) H'
theorem gd_len {n : Nat} {L : Nat} {r : List Int} (h : Gd (n : Int) L r) : r.length ≤ n := by
  have := Lm.nat_list h.2.1 h.2.2
  have h2 := Lm.nodup_le this.1 this.2
  rwa [List.length_map] at h2
section
variable {P : Program} {w : World} {K : PySem.W.Frag} {mg : Str → Option Value} {base : Heap}
theorem ok_law {f f1 f2 f3 f4 f5 : Addr} {fd fd1 fd2 fd3 fd4 fd5 : FuncData} (B : Blt mg) (D : Dn K mg "law" s_law ["script"] f fd)
    (D_law_start : Dn K mg "_law_start" s__law_start ["script"] f1 fd1) (G_law_start : FnOk P w K mg base CX0 1 f1 fd1 ["script"] (spStart K))
    (D_law_sketch : Dn K mg "_law_sketch" s__law_sketch ["state"] f2 fd2) (G_law_sketch : FnOk P w K mg base CX0 3 f2 fd2 ["state"] spSk)
    (D_law_moved : Dn K mg "_law_moved" s__law_moved ["state", "sketch"] f3 fd3) (G_law_moved : FnOk P w K mg base CX0 2 f3 fd3 ["state", "sketch"] spMoved)
    (D_law_judged : Dn K mg "_law_judged" s__law_judged ["count", "rows"] f4 fd4) (G_law_judged : FnOk P w K mg base CX0 7 f4 fd4 ["count", "rows"] spJudged)
    (D_law_mended : Dn K mg "_law_mended" s__law_mended ["count", "rows"] f5 fd5) (G_law_mended : FnOk P w K mg base CX0 1 f5 fd5 ["count", "rows"] spMended) :
    FnOk P w K mg base CX0 8 f fd ["script"] (spLaw K) := by
  refine D.F.ok sc_law (fun vs H Q E h => ?_) (fun cdv A outer s H vs Q E hr h => ?_)
  · obtain ⟨a, ns, rfl, _⟩ := h
    rfl
  · obtain ⟨sa, ns, rfl, hS, hl, q⟩ := h
    refine ⟨_, (pss_cons (ps_set (i := 1) sc_law.nd rfl (.inl rfl) (pe_call G_law_start (hr.mono (by decide)) (by rfl) D_law_start.g D_law_start.F.kp D_law_start.b .nil pass0 (pa_cons (pv 0) pa_nil)))
      (pss_cons (ps_set (i := 2) sc_law.nd rfl (.inl rfl) (pe_call G_law_moved (hr.mono (by decide)) (by rfl) D_law_moved.g D_law_moved.F.kp D_law_moved.b .nil pass0 (pa_cons (pv 1) (pa_cons (pe_call G_law_sketch (hr.mono (by decide)) (by rfl) D_law_sketch.g D_law_sketch.F.kp D_law_sketch.b .nil pass0 (pa_cons (pv 1) pa_nil)) pa_nil))))
      (pss_cons (ps_set (i := 3) sc_law.nd rfl (.inl rfl) (pe_ix (ix_listK (K := K) rfl) (pv 2) pe_int (fun _ _ => rfl)))
      (pss_cons (ps_set (i := 4) sc_law.nd rfl (.inl rfl) (pe_ix (ix_listK (K := K) rfl) (pv 2) pe_int (fun _ _ => rfl)))
      (pss_cons (ps_if (pt_not (pt_val (pe_call G_law_judged (hr.mono (by decide)) (by rfl) D_law_judged.g D_law_judged.F.kp D_law_judged.b .nil pass0 (pa_cons (pv 3) (pa_cons (pv 4) pa_nil))))) (pss_one (ps_ret pe_bl)) pss_nil)
      (pss_cons (ps_if (pt_cmpR op_gt (pe_callB (call_len_seqK (K := K) rfl) (by rfl) B.m_len PySem.boot_len (pa_cons (pv 4) pa_nil)) pe_int (nomark _)) (pss_one (ps_ret pe_bl)) pss_nil)
      (pss_one (ps_ret (pe_call G_law_judged (hr.mono (by decide)) (by rfl) D_law_judged.g D_law_judged.F.kp D_law_judged.b .nil pass0 (pa_cons (pv 3) (pa_cons (pe_call G_law_mended (hr.mono (by decide)) (by rfl) D_law_mended.g D_law_mended.F.kp D_law_mended.b .nil pass0 (pa_cons (pv 3) (pa_cons (pv 4) pa_nil))) pa_nil))))))))))), ?_⟩
    walk_at "begin"
    walk_at "go"
    refine ⟨sa, ns, rfl, hS, hl, fun st g R o => ?_⟩
    walk_at "go"
    refine ⟨st, g, R, H, rfl, rfl, o, fun R1 B1 sk a as rs n c o1 hS1 hsk ha hrw hwf hcn hc hn => ?_⟩
    walk_at "go"
    refine ⟨st, g, R1, B1, sk, a, as, rs, n, c, rfl, rfl, o1, hsk, ha, hrw, hwf, hcn, hn, fun R2 B2 sk2 a2 as2 rs2 o2 hS2 hsk2 ha2 hrw2 hwf2 hasc => ?_⟩
    have ats0 : atI [V.int (c : Int), V.ref a2] 0 = some (.int c) := rfl
    have ats : atI [V.int (c : Int), V.ref a2] 1 = some (.ref a2) := rfl
    have hla : as2.length = n := by rw [hrw2.1]; exact hwf2.1
    have hlr : rs2.length = n := hwf2.1
    have hwf3 : Wf n 42 rs2 := ⟨hlr, fun r hr => ⟨Nat.le_trans (gd_len (hwf2.2 r hr)) hn, (hwf2.2 r hr).2⟩⟩
    walk_at "go"
    have ha3 := rg_get o2 ha2
    have hrw3 := hrw2.mono (fun x y e => rg_get o2 e)
    refine ⟨a2, as2, rs2, n, c, rfl, ha3, hrw3, ⟨hlr, fun r hr => (hwf3.2 r hr).weak (by decide)⟩, hasc, hcn, by omega, fun H3 hS3 => ?_⟩
    have ha4 := hS3 _ _ ha3
    have hrw4 := hrw3.mono hS3
    clear ha3 hrw3 hS3 o2 hS2 hsk2 ha2 hrw2 hsk ha hrw hwf o1 hS1 o hS
    walk_at "go"
    refine r_iteB (fun h => absurd h (by decide)) (fun _ => ?_)
    walk_at "go"
    rw [List.length_map, hla]
    refine r_ite (fun _ => ?_) (fun hle => ?_)
    · walk_at "go"
      exact q _
    · walk_at "go"
      refine ⟨a2, as2, rs2, n, c, rfl, ha4, hrw4, hwf3, hasc, hcn, by omega, fun H5 p ms rs5 n5 hS5 hp hm hw5 hasc5 hn5 hn6 => ?_⟩
      walk_at "go"
      refine ⟨p, ms, rs5, n5, c, rfl, hp, hm, hw5, hasc5, by omega, by omega, fun H6 _ => ?_⟩
      exact q _
end
end K39
namespace K39
open PySem PySem.Spec PyProof.Rows L2 Lw
theorem all_mk {P : Program} {w : World} {K : PySem.W.Frag} {h : Heap} {mg : Str → Option Value} {fa f1 f2 f3 f4 f5 f6 f7 f8 f9 f10 f11 f12 f13 f14 f15 f16 f17 f18 f19 f20 : Addr} (X : K.In h) (G : h.Ns mainGlobals mg) (hfa : mg "law" = some (.ref fa))
    {od1 od2 od3 od4 od5 od6 od7 od8 od9 od10 od11 od12 od13 od14 od15 od16 od17 od18 od19 od20 an1 an2 an3 an4 an5 an6 an7 an8 an9 an10 an11 an12 an13 an14 an15 an16 an17 an18 an19 an20 : Option Addr} {sl1 sl2 sl3 sl4 sl5 sl6 sl7 sl8 sl9 sl10 sl11 sl12 sl13 sl14 sl15 sl16 sl17 sl18 sl19 sl20 : Array (Option Value)} {oc1 oc2 oc3 oc4 oc5 oc6 oc7 oc8 oc9 oc10 oc11 oc12 oc13 oc14 oc15 oc16 oc17 oc18 oc19 oc20 dc1 dc2 dc3 dc4 dc5 dc6 dc7 dc8 dc9 dc10 dc11 dc12 dc13 dc14 dc15 dc16 dc17 dc18 dc19 dc20 pm1 pm2 pm3 pm4 pm5 pm6 pm7 pm8 pm9 pm10 pm11 pm12 pm13 pm14 pm15 pm16 pm17 pm18 pm19 pm20 cd1 cd2 cd3 cd4 cd5 cd6 cd7 cd8 cd9 cd10 cd11 cd12 cd13 cd14 cd15 cd16 cd17 cd18 cd19 cd20 ct1 ct2 ct3 ct4 ct5 ct6 ct7 ct8 ct9 ct10 ct11 ct12 ct13 ct14 ct15 ct16 ct17 ct18 ct19 ct20 kV1 kV2 kV3 kV4 kV5 kV8 kV9 kV10 kV11 kV12 kV13 kV14 kV15 kV16 kV18 kV19 kV20 : Value}
    {kD6 : Addr}
    {kD7 : Addr}
    {kD17 : Addr}
    (a1 : PySem.W.nsIn K mainGlobals "_law_draw" = some (some (.ref f1))) (l1 : K.lookup f1 = some ⟨oc1, od1, .func (PySem.W.fnOf "_law_draw" "_law_draw" (defArgs s__law_draw) (defBody s__law_draw) (defScope s__law_draw) .none kV1 dc1 pm1 an1 cd1 ct1), sl1⟩) (c1 : PySem.W.codeIn K cd1 "_law_draw" = true) (k1 : PySem.W.keepIn K (.ref f1) = true)
    (a2 : PySem.W.nsIn K mainGlobals "_law_start" = some (some (.ref f2))) (l2 : K.lookup f2 = some ⟨oc2, od2, .func (PySem.W.fnOf "_law_start" "_law_start" (defArgs s__law_start) (defBody s__law_start) (defScope s__law_start) .none kV2 dc2 pm2 an2 cd2 ct2), sl2⟩) (c2 : PySem.W.codeIn K cd2 "_law_start" = true) (k2 : PySem.W.keepIn K (.ref f2) = true)
    (a3 : PySem.W.nsIn K mainGlobals "settled_places" = some (some (.ref f3))) (l3 : K.lookup f3 = some ⟨oc3, od3, .func (PySem.W.fnOf "settled_places" "settled_places" (defArgs s_settled_places) (defBody s_settled_places) (defScope s_settled_places) .none kV3 dc3 pm3 an3 cd3 ct3), sl3⟩) (c3 : PySem.W.codeIn K cd3 "settled_places" = true) (k3 : PySem.W.keepIn K (.ref f3) = true)
    (a4 : PySem.W.nsIn K mainGlobals "are_matched" = some (some (.ref f4))) (l4 : K.lookup f4 = some ⟨oc4, od4, .func (PySem.W.fnOf "are_matched" "are_matched" (defArgs s_are_matched) (defBody s_are_matched) (defScope s_are_matched) .none kV4 dc4 pm4 an4 cd4 ct4), sl4⟩) (c4 : PySem.W.codeIn K cd4 "are_matched" = true) (k4 : PySem.W.keepIn K (.ref f4) = true)
    (a5 : PySem.W.nsIn K mainGlobals "greatest_likeness" = some (some (.ref f5))) (l5 : K.lookup f5 = some ⟨oc5, od5, .func (PySem.W.fnOf "greatest_likeness" "greatest_likeness" (defArgs s_greatest_likeness) (defBody s_greatest_likeness) (defScope s_greatest_likeness) .none kV5 dc5 pm5 an5 cd5 ct5), sl5⟩) (c5 : PySem.W.codeIn K cd5 "greatest_likeness" = true) (k5 : PySem.W.keepIn K (.ref f5) = true)
    (a6 : PySem.W.nsIn K mainGlobals "pairs_alike" = some (some (.ref f6))) (l6 : K.lookup f6 = some ⟨oc6, od6, .func (PySem.W.fnOf "pairs_alike" "pairs_alike" (defArgs s_pairs_alike) (defBody s_pairs_alike) (defScope s_pairs_alike) .none (.ref kD6) dc6 pm6 an6 cd6 ct6), sl6⟩) (c6 : PySem.W.codeIn K cd6 "pairs_alike" = true) (k6 : PySem.W.keepIn K (.ref f6) = true)
    (a7 : PySem.W.nsIn K mainGlobals "sketch_stands" = some (some (.ref f7))) (l7 : K.lookup f7 = some ⟨oc7, od7, .func (PySem.W.fnOf "sketch_stands" "sketch_stands" (defArgs s_sketch_stands) (defBody s_sketch_stands) (defScope s_sketch_stands) .none (.ref kD7) dc7 pm7 an7 cd7 ct7), sl7⟩) (c7 : PySem.W.codeIn K cd7 "sketch_stands" = true) (k7 : PySem.W.keepIn K (.ref f7) = true)
    (q7_0 : PySem.W.nsIn K kD7 "rings" = some (some (.bool false)))
    (a8 : PySem.W.nsIn K mainGlobals "_law_sets" = some (some (.ref f8))) (l8 : K.lookup f8 = some ⟨oc8, od8, .func (PySem.W.fnOf "_law_sets" "_law_sets" (defArgs s__law_sets) (defBody s__law_sets) (defScope s__law_sets) .none kV8 dc8 pm8 an8 cd8 ct8), sl8⟩) (c8 : PySem.W.codeIn K cd8 "_law_sets" = true) (k8 : PySem.W.keepIn K (.ref f8) = true)
    (a9 : PySem.W.nsIn K mainGlobals "_law_is_drawing" = some (some (.ref f9))) (l9 : K.lookup f9 = some ⟨oc9, od9, .func (PySem.W.fnOf "_law_is_drawing" "_law_is_drawing" (defArgs s__law_is_drawing) (defBody s__law_is_drawing) (defScope s__law_is_drawing) .none kV9 dc9 pm9 an9 cd9 ct9), sl9⟩) (c9 : PySem.W.codeIn K cd9 "_law_is_drawing" = true) (k9 : PySem.W.keepIn K (.ref f9) = true)
    (a10 : PySem.W.nsIn K mainGlobals "_law_free" = some (some (.ref f10))) (l10 : K.lookup f10 = some ⟨oc10, od10, .func (PySem.W.fnOf "_law_free" "_law_free" (defArgs s__law_free) (defBody s__law_free) (defScope s__law_free) .none kV10 dc10 pm10 an10 cd10 ct10), sl10⟩) (c10 : PySem.W.codeIn K cd10 "_law_free" = true) (k10 : PySem.W.keepIn K (.ref f10) = true)
    (a11 : PySem.W.nsIn K mainGlobals "_law_moved" = some (some (.ref f11))) (l11 : K.lookup f11 = some ⟨oc11, od11, .func (PySem.W.fnOf "_law_moved" "_law_moved" (defArgs s__law_moved) (defBody s__law_moved) (defScope s__law_moved) .none kV11 dc11 pm11 an11 cd11 ct11), sl11⟩) (c11 : PySem.W.codeIn K cd11 "_law_moved" = true) (k11 : PySem.W.keepIn K (.ref f11) = true)
    (a12 : PySem.W.nsIn K mainGlobals "_law_ranked" = some (some (.ref f12))) (l12 : K.lookup f12 = some ⟨oc12, od12, .func (PySem.W.fnOf "_law_ranked" "_law_ranked" (defArgs s__law_ranked) (defBody s__law_ranked) (defScope s__law_ranked) .none kV12 dc12 pm12 an12 cd12 ct12), sl12⟩) (c12 : PySem.W.codeIn K cd12 "_law_ranked" = true) (k12 : PySem.W.keepIn K (.ref f12) = true)
    (a13 : PySem.W.nsIn K mainGlobals "_law_chain" = some (some (.ref f13))) (l13 : K.lookup f13 = some ⟨oc13, od13, .func (PySem.W.fnOf "_law_chain" "_law_chain" (defArgs s__law_chain) (defBody s__law_chain) (defScope s__law_chain) .none kV13 dc13 pm13 an13 cd13 ct13), sl13⟩) (c13 : PySem.W.codeIn K cd13 "_law_chain" = true) (k13 : PySem.W.keepIn K (.ref f13) = true)
    (a14 : PySem.W.nsIn K mainGlobals "_law_sketch" = some (some (.ref f14))) (l14 : K.lookup f14 = some ⟨oc14, od14, .func (PySem.W.fnOf "_law_sketch" "_law_sketch" (defArgs s__law_sketch) (defBody s__law_sketch) (defScope s__law_sketch) .none kV14 dc14 pm14 an14 cd14 ct14), sl14⟩) (c14 : PySem.W.codeIn K cd14 "_law_sketch" = true) (k14 : PySem.W.keepIn K (.ref f14) = true)
    (a15 : PySem.W.nsIn K mainGlobals "_law_is_built" = some (some (.ref f15))) (l15 : K.lookup f15 = some ⟨oc15, od15, .func (PySem.W.fnOf "_law_is_built" "_law_is_built" (defArgs s__law_is_built) (defBody s__law_is_built) (defScope s__law_is_built) .none kV15 dc15 pm15 an15 cd15 ct15), sl15⟩) (c15 : PySem.W.codeIn K cd15 "_law_is_built" = true) (k15 : PySem.W.keepIn K (.ref f15) = true)
    (a16 : PySem.W.nsIn K mainGlobals "_law_mended" = some (some (.ref f16))) (l16 : K.lookup f16 = some ⟨oc16, od16, .func (PySem.W.fnOf "_law_mended" "_law_mended" (defArgs s__law_mended) (defBody s__law_mended) (defScope s__law_mended) .none kV16 dc16 pm16 an16 cd16 ct16), sl16⟩) (c16 : PySem.W.codeIn K cd16 "_law_mended" = true) (k16 : PySem.W.keepIn K (.ref f16) = true)
    (a17 : PySem.W.nsIn K mainGlobals "build_drawing" = some (some (.ref f17))) (l17 : K.lookup f17 = some ⟨oc17, od17, .func (PySem.W.fnOf "build_drawing" "build_drawing" (defArgs s_build_drawing) (defBody s_build_drawing) (defScope s_build_drawing) .none (.ref kD17) dc17 pm17 an17 cd17 ct17), sl17⟩) (c17 : PySem.W.codeIn K cd17 "build_drawing" = true) (k17 : PySem.W.keepIn K (.ref f17) = true)
    (q17_0 : PySem.W.nsIn K kD17 "rings" = some (some (.bool false)))
    (a18 : PySem.W.nsIn K mainGlobals "_law_builds" = some (some (.ref f18))) (l18 : K.lookup f18 = some ⟨oc18, od18, .func (PySem.W.fnOf "_law_builds" "_law_builds" (defArgs s__law_builds) (defBody s__law_builds) (defScope s__law_builds) .none kV18 dc18 pm18 an18 cd18 ct18), sl18⟩) (c18 : PySem.W.codeIn K cd18 "_law_builds" = true) (k18 : PySem.W.keepIn K (.ref f18) = true)
    (a19 : PySem.W.nsIn K mainGlobals "_law_judged" = some (some (.ref f19))) (l19 : K.lookup f19 = some ⟨oc19, od19, .func (PySem.W.fnOf "_law_judged" "_law_judged" (defArgs s__law_judged) (defBody s__law_judged) (defScope s__law_judged) .none kV19 dc19 pm19 an19 cd19 ct19), sl19⟩) (c19 : PySem.W.codeIn K cd19 "_law_judged" = true) (k19 : PySem.W.keepIn K (.ref f19) = true)
    (a20 : PySem.W.nsIn K mainGlobals "law" = some (some (.ref f20))) (l20 : K.lookup f20 = some ⟨oc20, od20, .func (PySem.W.fnOf "law" "law" (defArgs s_law) (defBody s_law) (defScope s_law) .none kV20 dc20 pm20 an20 cd20 ct20), sl20⟩) (c20 : PySem.W.codeIn K cd20 "law" = true) (k20 : PySem.W.keepIn K (.ref f20) = true)
    (z0 : PySem.W.nsIn K mainGlobals "abs" = some none)
    (z1 : PySem.W.nsIn K mainGlobals "any" = some none)
    (z2 : PySem.W.nsIn K mainGlobals "bool" = some none)
    (z3 : PySem.W.nsIn K mainGlobals "enumerate" = some none)
    (z4 : PySem.W.nsIn K mainGlobals "int" = some none)
    (z5 : PySem.W.nsIn K mainGlobals "isinstance" = some none)
    (z6 : PySem.W.nsIn K mainGlobals "len" = some none)
    (z7 : PySem.W.nsIn K mainGlobals "list" = some none)
    (z8 : PySem.W.nsIn K mainGlobals "range" = some none)
    (z9 : PySem.W.nsIn K mainGlobals "set" = some none)
    (z10 : PySem.W.nsIn K mainGlobals "sorted" = some none)
    (z11 : PySem.W.nsIn K mainGlobals "tuple" = some none)
    {CN cB cH cS cO cT cE : Addr}
    (x_eg : PySem.W.nsIn K mainGlobals "NotStanding" = some (some (.ref CN)))
    (x_ex : PySem.W.excIn K CN [.type "ValueError", .type "Exception", .type "BaseException", .type "object"] "ValueError.__new__" = true)
    (x_ek : PySem.W.keepIn K (.ref CN) = true)
    (x_eb : PySem.W.subIn K (.ref CN) (.type "BaseException") = some true)
    (x_et : PySem.W.typeIn K (.ref CN) = some (.type "type"))
    (x_c1 : PySem.W.findIn K (.ref CN) "__getattribute__" = some (some (.builtin "BaseException.__getattribute__")))
    (x_c2 : PySem.W.findIn K (.ref CN) "__getattr__" = some none)
    (x_c3 : PySem.W.hasDictIn K CN = true)
    (x_c4 : PySem.W.findIn K (.ref CN) "__class__" = some (some (.builtin "object.__class__")))
    (x_c5 : PySem.W.specialIn K (.builtin "object.__class__") "__get__" = some (some (.builtin "getset_descriptor.__get__")))
    (x_c6 : PySem.W.takesIn K (.builtin "object.__class__") = some true)
    (x_c7 : PySem.W.mroIn K CN (.type "object") = some true)
    (x_es : PySem.W.exmOne K (.ref CN) (.ref CN) = some true)
    (x_g1 : PySem.W.nsIn K mainGlobals "BadText" = some (some (.ref cB)))
    (x_g2 : PySem.W.nsIn K mainGlobals "HasRing" = some (some (.ref cH)))
    (x_g3 : PySem.W.nsIn K mainGlobals "NoSet" = some (some (.ref cS)))
    (x_g4 : PySem.W.nsIn K mainGlobals "NotOpen" = some (some (.ref cO)))
    (x_g5 : PySem.W.nsIn K mainGlobals "TooGreat" = some (some (.ref cT)))
    (x_g6 : PySem.W.nsIn K mainGlobals "SetnestsError" = some (some (.ref cE)))
    (x_g7 : PySem.W.nsIn K mainGlobals "ValueError" = some none)
    (x_h5 : PySem.W.kitAny K (.ref CN) [.ref cB, .ref cH, .ref cS, .ref cO, .ref cT] = some false)
    (x_hE : PySem.W.kitOne K (.ref CN) (.ref cE) = some true)
    (x_hV : PySem.W.kitOne K (.ref CN) (.type "ValueError") = some true)
    : ∃ fd : FuncData, (∀ (s : Shared) (v : Value), BindsTo s fd ⟨[v], []⟩ [("script", v)]) ∧ ∀ base : Heap, K.In base → base.Ns mainGlobals mg → FnOk P w K mg base CX0 8 fa fd ["script"] (spLaw K) := by
  have e := hfa.symm.trans (PySem.W.mg_of X G a20)
  cases e
  have B : Blt mg := ⟨PySem.W.mg_none_of X G z0, PySem.W.mg_none_of X G z1, PySem.W.mg_none_of X G z2, PySem.W.mg_none_of X G z3, PySem.W.mg_none_of X G z4, PySem.W.mg_none_of X G z5, PySem.W.mg_none_of X G z6, PySem.W.mg_none_of X G z7, PySem.W.mg_none_of X G z8, PySem.W.mg_none_of X G z9, PySem.W.mg_none_of X G z10, PySem.W.mg_none_of X G z11⟩
  have EN : ExN K mg "NotStanding" CN := ⟨PySem.W.mg_of X G x_eg, x_ex, x_ek, x_eb, x_et⟩
  have Z : ExF K mg CN cB cH cS cO cT cE := ⟨⟨x_c1, x_c2, x_eb, x_c3, x_c4, x_c5, x_c6, x_c7⟩, x_es, PySem.W.mg_of X G x_g1, PySem.W.mg_of X G x_g2, PySem.W.mg_of X G x_g3, PySem.W.mg_of X G x_g4, PySem.W.mg_of X G x_g5, PySem.W.mg_of X G x_g6, PySem.W.mg_none_of X G x_g7, x_h5, x_hE, x_hV⟩
  have F1 := fun_mk (st := s__law_draw) l1 c1 k1
  have D1 : Dn K mg "_law_draw" s__law_draw ["state", "many"] f1 _ := ⟨F1, F1.binds (ps := ["state", "many"]) fun _ _ _ _ _ _ us hl => match us, hl with | [_, _], _ => rfl, PySem.W.mg_of X G a1⟩
  have F2 := fun_mk (st := s__law_start) l2 c2 k2
  have D2 : Dn K mg "_law_start" s__law_start ["script"] f2 _ := ⟨F2, F2.binds (ps := ["script"]) fun _ _ _ _ _ _ us hl => match us, hl with | [_], _ => rfl, PySem.W.mg_of X G a2⟩
  have F3 := fun_mk (st := s_settled_places) l3 c3 k3
  have D3 : Dn K mg "settled_places" s_settled_places ["rows"] f3 _ := ⟨F3, F3.binds (ps := ["rows"]) fun _ _ _ _ _ _ us hl => match us, hl with | [_], _ => rfl, PySem.W.mg_of X G a3⟩
  have F4 := fun_mk (st := s_are_matched) l4 c4 k4
  have D4 : Dn K mg "are_matched" s_are_matched ["first", "second", "related"] f4 _ := ⟨F4, F4.binds (ps := ["first", "second", "related"]) fun _ _ _ _ _ _ us hl => match us, hl with | [_, _, _], _ => rfl, PySem.W.mg_of X G a4⟩
  have F5 := fun_mk (st := s_greatest_likeness) l5 c5 k5
  have D5 : Dn K mg "greatest_likeness" s_greatest_likeness ["count", "rows"] f5 _ := ⟨F5, F5.binds (ps := ["count", "rows"]) fun _ _ _ _ _ _ us hl => match us, hl with | [_, _], _ => rfl, PySem.W.mg_of X G a5⟩
  have F6 := fun_mk (st := s_pairs_alike) l6 c6 k6
  have D6 : DnK K mg "pairs_alike" s_pairs_alike ["count", "rows", "rings"] 2 ["rings"] f6 _ := ⟨F6, kb_all F6 2 ["rings"] fun _ _ _ _ _ _ us ws h1 h2 => match us, ws, h1, h2 with | [_, _], [_], _, _ => rfl, PySem.W.mg_of X G a6⟩
  have F7 := fun_mk (st := s_sketch_stands) l7 c7 k7
  have D7 : DnK K mg "sketch_stands" s_sketch_stands ["count", "rows", "rings"] 2 ["rings"] f7 _ := ⟨F7, kb_all F7 2 ["rings"] fun _ _ _ _ _ _ us ws h1 h2 => match us, ws, h1, h2 with | [_, _], [_], _, _ => rfl, PySem.W.mg_of X G a7⟩
  have FD7 : FunD K "sketch_stands" "sketch_stands" (defArgs s_sketch_stands) (defBody s_sketch_stands) (defScope s_sketch_stands) [] [("rings", .bl false)] f7 _ := ⟨⟨oc7, od7, .none, .ref kD7, dc7, pm7, an7, cd7, ct7, sl7, rfl, l7, c7, .inl ⟨rfl, rfl⟩, .inr ⟨kD7, rfl, fun q hq => by rw [List.mem_singleton.mp hq]; exact ⟨_, q7_0, rfl⟩⟩⟩, k7⟩
  have DD7 : DnKD K mg "sketch_stands" s_sketch_stands ["count", "rows", "rings"] 2 ["rings"] [.bl false] f7 _ := ⟨D7, FD7.binds0 (ps := ["count", "rows", "rings"]) 2 (by decide) rfl fun _ _ _ _ _ _ us ks h1 h2 => match us, ks, h1, h2 with | [_, _], [_], _, _ => ⟨_, _, _, _, _, _, rfl, rfl, rfl⟩⟩
  have F8 := fun_mk (st := s__law_sets) l8 c8 k8
  have D8 : Dn K mg "_law_sets" s__law_sets ["drawing"] f8 _ := ⟨F8, F8.binds (ps := ["drawing"]) fun _ _ _ _ _ _ us hl => match us, hl with | [_], _ => rfl, PySem.W.mg_of X G a8⟩
  have F9 := fun_mk (st := s__law_is_drawing) l9 c9 k9
  have D9 : Dn K mg "_law_is_drawing" s__law_is_drawing ["drawing", "most"] f9 _ := ⟨F9, F9.binds (ps := ["drawing", "most"]) fun _ _ _ _ _ _ us hl => match us, hl with | [_, _], _ => rfl, PySem.W.mg_of X G a9⟩
  have F10 := fun_mk (st := s__law_free) l10 c10 k10
  have D10 : Dn K mg "_law_free" s__law_free ["state"] f10 _ := ⟨F10, F10.binds (ps := ["state"]) fun _ _ _ _ _ _ us hl => match us, hl with | [_], _ => rfl, PySem.W.mg_of X G a10⟩
  have F11 := fun_mk (st := s__law_moved) l11 c11 k11
  have D11 : Dn K mg "_law_moved" s__law_moved ["state", "sketch"] f11 _ := ⟨F11, F11.binds (ps := ["state", "sketch"]) fun _ _ _ _ _ _ us hl => match us, hl with | [_, _], _ => rfl, PySem.W.mg_of X G a11⟩
  have F12 := fun_mk (st := s__law_ranked) l12 c12 k12
  have D12 : Dn K mg "_law_ranked" s__law_ranked ["state", "most", "bares", "thin"] f12 _ := ⟨F12, F12.binds (ps := ["state", "most", "bares", "thin"]) fun _ _ _ _ _ _ us hl => match us, hl with | [_, _, _, _], _ => rfl, PySem.W.mg_of X G a12⟩
  have F13 := fun_mk (st := s__law_chain) l13 c13 k13
  have D13 : Dn K mg "_law_chain" s__law_chain ["state"] f13 _ := ⟨F13, F13.binds (ps := ["state"]) fun _ _ _ _ _ _ us hl => match us, hl with | [_], _ => rfl, PySem.W.mg_of X G a13⟩
  have F14 := fun_mk (st := s__law_sketch) l14 c14 k14
  have D14 : Dn K mg "_law_sketch" s__law_sketch ["state"] f14 _ := ⟨F14, F14.binds (ps := ["state"]) fun _ _ _ _ _ _ us hl => match us, hl with | [_], _ => rfl, PySem.W.mg_of X G a14⟩
  have F15 := fun_mk (st := s__law_is_built) l15 c15 k15
  have D15 : Dn K mg "_law_is_built" s__law_is_built ["told", "count", "rows"] f15 _ := ⟨F15, F15.binds (ps := ["told", "count", "rows"]) fun _ _ _ _ _ _ us hl => match us, hl with | [_, _, _], _ => rfl, PySem.W.mg_of X G a15⟩
  have F16 := fun_mk (st := s__law_mended) l16 c16 k16
  have D16 : Dn K mg "_law_mended" s__law_mended ["count", "rows"] f16 _ := ⟨F16, F16.binds (ps := ["count", "rows"]) fun _ _ _ _ _ _ us hl => match us, hl with | [_, _], _ => rfl, PySem.W.mg_of X G a16⟩
  have F17 := fun_mk (st := s_build_drawing) l17 c17 k17
  have D17 : DnK K mg "build_drawing" s_build_drawing ["count", "rows", "rings"] 2 ["rings"] f17 _ := ⟨F17, kb_all F17 2 ["rings"] fun _ _ _ _ _ _ us ws h1 h2 => match us, ws, h1, h2 with | [_, _], [_], _, _ => rfl, PySem.W.mg_of X G a17⟩
  have FD17 : FunD K "build_drawing" "build_drawing" (defArgs s_build_drawing) (defBody s_build_drawing) (defScope s_build_drawing) [] [("rings", .bl false)] f17 _ := ⟨⟨oc17, od17, .none, .ref kD17, dc17, pm17, an17, cd17, ct17, sl17, rfl, l17, c17, .inl ⟨rfl, rfl⟩, .inr ⟨kD17, rfl, fun q hq => by rw [List.mem_singleton.mp hq]; exact ⟨_, q17_0, rfl⟩⟩⟩, k17⟩
  have DD17 : DnKD K mg "build_drawing" s_build_drawing ["count", "rows", "rings"] 2 ["rings"] [.bl false] f17 _ := ⟨D17, FD17.binds0 (ps := ["count", "rows", "rings"]) 2 (by decide) rfl fun _ _ _ _ _ _ us ks h1 h2 => match us, ks, h1, h2 with | [_, _], [_], _, _ => ⟨_, _, _, _, _, _, rfl, rfl, rfl⟩⟩
  have F18 := fun_mk (st := s__law_builds) l18 c18 k18
  have D18 : Dn K mg "_law_builds" s__law_builds ["count", "rows"] f18 _ := ⟨F18, F18.binds (ps := ["count", "rows"]) fun _ _ _ _ _ _ us hl => match us, hl with | [_, _], _ => rfl, PySem.W.mg_of X G a18⟩
  have F19 := fun_mk (st := s__law_judged) l19 c19 k19
  have D19 : Dn K mg "_law_judged" s__law_judged ["count", "rows"] f19 _ := ⟨F19, F19.binds (ps := ["count", "rows"]) fun _ _ _ _ _ _ us hl => match us, hl with | [_, _], _ => rfl, PySem.W.mg_of X G a19⟩
  have F20 := fun_mk (st := s_law) l20 c20 k20
  have D20 : Dn K mg "law" s_law ["script"] fa _ := ⟨F20, F20.binds (ps := ["script"]) fun _ _ _ _ _ _ us hl => match us, hl with | [_], _ => rfl, PySem.W.mg_of X G a20⟩
  refine ⟨PySem.W.fnOf "law" "law" (defArgs s_law) (defBody s_law) (defScope s_law) .none kV20 dc20 pm20 an20 cd20 ct20, fun s v => .of_eq rfl, fun base _ _ => ?_⟩
  have G2_1 := ok_start (P := P) (w := w) (base := base) (k := 0) B D2 
  have G1_1 := ok_draw (P := P) (w := w) (base := base) (k := 0) B D1 
  have G12_2 := ok_ranked (P := P) (w := w) (base := base) B D12 D1 G1_1
  have G10_2 := ok_free (P := P) (w := w) (base := base) B D10 D1 G1_1
  have G13_2 := ok_chain (P := P) (w := w) (base := base) B D13 D1 G1_1
  have G14_3 := ok_sketch (P := P) (w := w) (base := base) B D14 D1 G1_1 D12 G12_2 D10 G10_2 D13 G13_2
  have G11_2 := ok_moved (P := P) (w := w) (base := base) B D11 D1 G1_1
  have G4_1 := ok_matched (P := P) (w := w) (base := base) (k := 0) B D4 
  have G5_2 := ok_great (P := P) (w := w) (base := base) B D5 D4 G4_1
  have G6_3 := ok_pairs (P := P) (w := w) (base := base) B D6 D5 G5_2
  have G3_1 := ok_settled (P := P) (w := w) (base := base) (k := 0) B D3 
  have G7_4 := ok_stands (P := P) (w := w) (base := base) B D7 D6 G6_3 D3 G3_1
  have G17_5 := ok_build (P := P) (w := w) (base := base) B EN D17 D7 G7_4
  have G18_6 := ok_builds (P := P) (w := w) (base := base) B EN Z D18 DD17 G17_5
  have G8_1 := ok_sets (P := P) (w := w) (base := base) (k := 0) B D8 
  have G9_1 := ok_isdr (P := P) (w := w) (base := base) (k := 0) B D9 
  have G15_2 := ok_isbuilt (P := P) (w := w) (base := base) B D15 D9 G9_1 D8 G8_1
  have G19_7 := ok_judged (P := P) (w := w) (base := base) B D19 D18 G18_6 D8 G8_1 D15 G15_2 DD17 G17_5
  have G16_1 := ok_mended (P := P) (w := w) (base := base) (k := 0) B D16 
  have G20_8 := ok_law (P := P) (w := w) (base := base) B D20 D2 G2_1 D14 G14_3 D11 G11_2 D19 G19_7 D16 G16_1
  exact G20_8
end K39
open PySem PySem.W PyProof.Rows
set_option maxHeartbeats 0 in
theorem PySem.Challenge.cw_setnests_k39_whole_built_plain_holds : PySem.Challenge.rw_setnests_k39_whole_built_plain.Holds := by
  w_on; o_law; k_head; (case hw => w_witness2)
  k_fill
  refine L2.walk_of (l := PySem.Challenge.rw_setnests_k39_whole_built_plain) (n := 63) (k := 8) (x := "script") (CX := fun _ => L2.CX0) (sp := fun w => K39.spLaw _) rfl (by decide) rfl ⟨rfl, by decide, by decide⟩ (fun w h Y => PySem.W.kIn_of Y) ?F (fun _ _ a ns hl _ hS => ⟨a, ns, rfl, hS, hl, fun _ => rfl⟩) (fun _ _ _ _ _ h => h)
  case F =>
    intro w mg fa h KX G hmg
    refine' K39.all_mk KX G hmg ?a1 ?l1 ?c1 ?k1 ?a2 ?l2 ?c2 ?k2 ?a3 ?l3 ?c3 ?k3 ?a4 ?l4 ?c4 ?k4 ?a5 ?l5 ?c5 ?k5 ?a6 ?l6 ?c6 ?k6 ?a7 ?l7 ?c7 ?k7 ?q7_0 ?a8 ?l8 ?c8 ?k8 ?a9 ?l9 ?c9 ?k9 ?a10 ?l10 ?c10 ?k10 ?a11 ?l11 ?c11 ?k11 ?a12 ?l12 ?c12 ?k12 ?a13 ?l13 ?c13 ?k13 ?a14 ?l14 ?c14 ?k14 ?a15 ?l15 ?c15 ?k15 ?a16 ?l16 ?c16 ?k16 ?a17 ?l17 ?c17 ?k17 ?q17_0 ?a18 ?l18 ?c18 ?k18 ?a19 ?l19 ?c19 ?k19 ?a20 ?l20 ?c20 ?k20 ?z0 ?z1 ?z2 ?z3 ?z4 ?z5 ?z6 ?z7 ?z8 ?z9 ?z10 ?z11 ?x_eg ?x_ex ?x_ek ?x_eb ?x_et ?x_c1 ?x_c2 ?x_c3 ?x_c4 ?x_c5 ?x_c6 ?x_c7 ?x_es ?x_g1 ?x_g2 ?x_g3 ?x_g4 ?x_g5 ?x_g6 ?x_g7 ?x_h5 ?x_hE ?x_hV
    (case a1 => k_is); (case l1 => k_is); (case c1 => k_is); (case k1 => k_is); (case a2 => k_is); (case l2 => k_is); (case c2 => k_is); (case k2 => k_is); (case a3 => k_is); (case l3 => k_is); (case c3 => k_is); (case k3 => k_is); (case a4 => k_is); (case l4 => k_is); (case c4 => k_is); (case k4 => k_is); (case a5 => k_is); (case l5 => k_is); (case c5 => k_is); (case k5 => k_is); (case a6 => k_is); (case l6 => k_is); (case c6 => k_is); (case k6 => k_is); (case a7 => k_is); (case l7 => k_is); (case c7 => k_is); (case k7 => k_is); (case q7_0 => k_is); (case a8 => k_is); (case l8 => k_is); (case c8 => k_is); (case k8 => k_is); (case a9 => k_is); (case l9 => k_is); (case c9 => k_is); (case k9 => k_is); (case a10 => k_is); (case l10 => k_is); (case c10 => k_is); (case k10 => k_is); (case a11 => k_is); (case l11 => k_is); (case c11 => k_is); (case k11 => k_is); (case a12 => k_is); (case l12 => k_is); (case c12 => k_is); (case k12 => k_is); (case a13 => k_is); (case l13 => k_is); (case c13 => k_is); (case k13 => k_is); (case a14 => k_is); (case l14 => k_is); (case c14 => k_is); (case k14 => k_is); (case a15 => k_is); (case l15 => k_is); (case c15 => k_is); (case k15 => k_is); (case a16 => k_is); (case l16 => k_is); (case c16 => k_is); (case k16 => k_is); (case a17 => k_is); (case l17 => k_is); (case c17 => k_is); (case k17 => k_is); (case q17_0 => k_is); (case a18 => k_is); (case l18 => k_is); (case c18 => k_is); (case k18 => k_is); (case a19 => k_is); (case l19 => k_is); (case c19 => k_is); (case k19 => k_is); (case a20 => k_is); (case l20 => k_is); (case c20 => k_is); (case k20 => k_is); (case z0 => k_is); (case z1 => k_is); (case z2 => k_is); (case z3 => k_is); (case z4 => k_is); (case z5 => k_is); (case z6 => k_is); (case z7 => k_is); (case z8 => k_is); (case z9 => k_is); (case z10 => k_is); (case z11 => k_is); (case x_eg => first | k_is | k_exc | kit_is | kts_exm); (case x_ex => first | k_is | k_exc | kit_is | kts_exm); (case x_ek => first | k_is | k_exc | kit_is | kts_exm); (case x_eb => first | k_is | k_exc | kit_is | kts_exm); (case x_et => first | k_is | k_exc | kit_is | kts_exm); (case x_c1 => first | k_is | k_exc | kit_is | kts_exm); (case x_c2 => first | k_is | k_exc | kit_is | kts_exm); (case x_c3 => first | k_is | k_exc | kit_is | kts_exm); (case x_c4 => first | k_is | k_exc | kit_is | kts_exm); (case x_c5 => first | k_is | k_exc | kit_is | kts_exm); (case x_c6 => first | k_is | k_exc | kit_is | kts_exm); (case x_c7 => first | k_is | k_exc | kit_is | kts_exm); (case x_es => first | k_is | k_exc | kit_is | kts_exm); (case x_g1 => first | k_is | k_exc | kit_is | kts_exm); (case x_g2 => first | k_is | k_exc | kit_is | kts_exm); (case x_g3 => first | k_is | k_exc | kit_is | kts_exm); (case x_g4 => first | k_is | k_exc | kit_is | kts_exm); (case x_g5 => first | k_is | k_exc | kit_is | kts_exm); (case x_g6 => first | k_is | k_exc | kit_is | kts_exm); (case x_g7 => first | k_is | k_exc | kit_is | kts_exm); (case x_h5 => first | k_is | k_exc | kit_is | kts_exm); (case x_hE => first | k_is | k_exc | kit_is | kts_exm); (case x_hV => first | k_is | k_exc | kit_is | kts_exm)
