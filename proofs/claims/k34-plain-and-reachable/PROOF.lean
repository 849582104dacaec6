import PyProof.Rows.All
import Wide.All
import OpenK.AllK
import Wide.FinOn
import HandS.ForMost
import HandS.Style
import HandS.IsInst
import HandS.SortInts
import HandS.More
import HandS.Codes
import HandS.Strs
import HandS.SetFor
import KE.BitLaws
import PySem.Challenge.RW_setnests_k34_plain_and_reachable
set_option Elab.async false
set_option linter.all false
set_option maxRecDepth 100000
set_option maxHeartbeats 4000000
/-! my own base: layered heaps, readings as lemmas, a stepping tactic -/
namespace Lw
open PySem PySem.Spec PyProof.Rows L2

/-! ### heaps in layers -/
theorem upd_old {H : Hp} {p a : Addr} {x o : HO} (hp : H p = none) (h : H a = some o) : upd H p x a = some o := by
  rw [upd_ne (ne_of_none h hp)]; exact h
theorem Same.get {H H' : Hp} {a : Addr} {o : HO} (s : Same H H') (h : H a = some o) : H' a = some o := s a o h
theorem same_new {H : Hp} {p : Addr} {o : HO} (h : H p = none) : Same H (upd H p o) := fun b x e => upd_old h e
/-- the draws' state: two lists above the rest -/
structure RS where
  ns : List Int
  i : Int
  m : Int
  c : Int
structure RS.Ok (R : RS) : Prop where
  i0 : 0 ≤ R.i
  i1 : R.i ≤ R.ns.length
  pos : ∀ n ∈ R.ns, 0 ≤ n
  len : R.ns.length ≤ 63
def rg (st g : Addr) (R : RS) (B : Hp) : Hp := upd (upd B g (.lst (R.ns.map V.int))) st (.lst [.ref g, .int R.i, .int R.m, .int R.c])
structure Ok (st g : Addr) (R : RS) (B : Hp) : Prop where
  ne : st ≠ g
  ok : R.Ok
  bst : B st = none
  bg : B g = none
theorem Ok.low {st g : Addr} {R : RS} {B : Hp} (o : Ok st g R B) : (upd B g (.lst (R.ns.map V.int))) st = none := by
  rw [upd_ne o.ne]; exact o.bst
theorem rg_get {st g a : Addr} {R : RS} {B : Hp} {o : HO} (k : Ok st g R B) (h : B a = some o) : rg st g R B a = some o :=
  upd_old k.low (upd_old k.bg h)
theorem rg_st {st g : Addr} {R : RS} {B : Hp} : rg st g R B st = some (.lst [.ref g, .int R.i, .int R.m, .int R.c]) := upd_same
theorem rg_g {st g : Addr} {R : RS} {B : Hp} (k : Ok st g R B) : rg st g R B g = some (.lst (R.ns.map V.int)) := by
  unfold rg; rw [upd_ne k.ne.symm, upd_same]
theorem upd_comm {H : Hp} {a b : Addr} {x y : HO} (h : a ≠ b) : upd (upd H a x) b y = upd (upd H b y) a x := by
  funext c
  by_cases h1 : c = b
  · subst h1; rw [upd_same, upd_ne h.symm, upd_same]
  · rw [upd_ne h1]
    by_cases h2 : c = a
    · subst h2; rw [upd_same, upd_same]
    · rw [upd_ne h2, upd_ne h2, upd_ne h1]
theorem upd_none {H : Hp} {a b : Addr} {x : HO} (h : upd H a x b = none) : b ≠ a ∧ H b = none := by
  by_cases e : b = a
  · subst e; rw [upd_same] at h; cases h
  · rw [upd_ne e] at h; exact ⟨e, h⟩
theorem rg_none {st g b : Addr} {R : RS} {B : Hp} (h : rg st g R B b = none) : b ≠ st ∧ b ≠ g ∧ B b = none := by
  obtain ⟨h1, h2⟩ := upd_none h
  obtain ⟨h3, h4⟩ := upd_none h2
  exact ⟨h1, h3, h4⟩
theorem rg_upd {st g b : Addr} {R : RS} {B : Hp} {o : HO} (h1 : b ≠ st) (h2 : b ≠ g) : upd (rg st g R B) b o = rg st g R (upd B b o) := by
  unfold rg; rw [upd_comm h1.symm, upd_comm h2.symm]
theorem Ok.upd {st g b : Addr} {R : RS} {B : Hp} {o : HO} (k : Ok st g R B) (h1 : b ≠ st) (h2 : b ≠ g) : Ok st g R (upd B b o) :=
  ⟨k.ne, k.ok, by rw [upd_ne h1.symm]; exact k.bst, by rw [upd_ne h2.symm]; exact k.bg⟩
/-- a new object below the draws' state -/
theorem rg_new {st g : Addr} {R : RS} {B : Hp} {o : HO} {Q : Addr → Hp → Prop} (k : Ok st g R B)
    (h : ∀ p, B p = none → p ≠ st → p ≠ g → Ok st g R (upd B p o) → Q p (rg st g R (upd B p o))) : ∀ p, rg st g R B p = none → Q p (upd (rg st g R B) p o) := fun p hp => by
  obtain ⟨h1, h2, h3⟩ := rg_none hp
  rw [rg_upd h1 h2]
  exact h p h3 h1 h2 (k.upd h1 h2)
/-- an object written below the draws' state -/
theorem rg_write {st g b : Addr} {R : RS} {B : Hp} {o o' : HO} (k : Ok st g R B) (h : B b = some o') : upd (rg st g R B) b o = rg st g R (upd B b o) ∧ Ok st g R (upd B b o) := by
  have h1 := ne_of_none h k.bst
  have h2 := ne_of_none h k.bg
  exact ⟨rg_upd h1 h2, k.upd h1 h2⟩
/-- behind a call that keeps all that was -/
theorem rg_same {st g : Addr} {R : RS} {B H : Hp} (k : Ok st g R B) (s : Same (rg st g R B) H) : ∃ B', H = rg st g R B' ∧ Ok st g R B' ∧ Same B B' := by
  refine ⟨fun b => if b = st ∨ b = g then none else H b, ?_, ⟨k.ne, k.ok, if_pos (.inl rfl), if_pos (.inr rfl)⟩, fun b o e => ?_⟩
  · funext b
    by_cases h1 : b = st
    · subst h1; rw [rg_st]; exact s _ _ rg_st
    · by_cases h2 : b = g
      · subst h2
        rw [show rg st b R (fun c => if c = st ∨ c = b then none else H c) b = some (.lst (R.ns.map V.int)) by unfold rg; rw [upd_ne h1, upd_same]]
        exact s _ _ (rg_g k)
      · unfold rg
        rw [upd_ne h1, upd_ne h2, if_neg (by intro z; rcases z with z | z; exact h1 z; exact h2 z)]
  · have h1 := ne_of_none e k.bst
    have h2 := ne_of_none e k.bg
    show (if b = st ∨ b = g then none else H b) = some o
    rw [if_neg (by intro z; rcases z with z | z; exact h1 z; exact h2 z)]
    exact s _ _ (rg_get k e)
/-- a list that is under way lies above the rest -/
theorem lay_new {C : Hp} {D : Addr} {x o : HO} {Q : Addr → Hp → Prop} (k : C D = none)
    (h : ∀ p, C p = none → p ≠ D → (upd C p o) D = none → Q p (upd (upd C p o) D x)) : ∀ p, upd C D x p = none → Q p (upd (upd C D x) p o) := fun p hp => by
  obtain ⟨h1, h2⟩ := upd_none hp
  rw [upd_comm h1.symm]
  exact h p h2 h1 (by rw [upd_ne h1.symm]; exact k)
theorem lay_same {C H : Hp} {D : Addr} {x : HO} (k : C D = none) (s : Same (upd C D x) H) : ∃ C', H = upd C' D x ∧ C' D = none ∧ Same C C' := by
  refine ⟨fun b => if b = D then none else H b, ?_, if_pos rfl, fun b o e => ?_⟩
  · funext b
    by_cases h1 : b = D
    · subst h1; rw [upd_same]; exact s _ _ upd_same
    · rw [upd_ne h1, if_neg h1]
  · have h1 := ne_of_none e k
    show (if b = D then none else H b) = some o
    rw [if_neg h1]
    exact s _ _ (upd_old k e)

/-! ### readings as lemmas -/
section
variable {K : PySem.W.Frag} {σ : L2.St} {H : Hp} {Q : VK} {D : Ends}
theorem r_seq {t u : TS} (h : t { D with nx := u D } σ H) : tSeq t u D σ H := h
theorem r_ifs {c : TT} {t u : TS} (h : c σ H fun b H1 => if b = true then t D σ H1 else u D σ H1) : tIfS c t u D σ H := h
theorem r_next (h : D.nx σ H) : tNext D σ H := h
theorem r_asg {te : TE} {g : TG} (h : te σ H fun x H1 => g x σ H1 D.nx) : tAsg te g D σ H := h
theorem r_ret {te : TE} (h : te σ H D.rt) : tRet te D σ H := h
theorem r_drop {te : TE} (h : te σ H fun _ H1 => D.nx σ H1) : tDrop te D σ H := h
theorem r_for {wi : TI} {g : TG} {tb : TS} (h : wi σ H fun J H1 => ∃ W : Nat → Nat → L2.St → Hp → Prop, (∃ m, W 0 m σ H1) ∧ ∀ i m σ H, W i m σ H →
  (J.stop i H ∧ D.nx σ H) ∨ (J.go i H ∧ ∃ N : L2.St → Hp → Prop, (∀ σ' H', N σ' H' → ∃ m', m' < m ∧ W (i + 1) m' σ' H') ∧ ∀ x H', J.yld i H x H' → g x σ H' fun σ2 H2 => tb { D with nx := N, ct := N, bk := D.nx } σ2 H2)) : tFor wi g tb D σ H := h
theorem r_name {i : Nat} {v : V} {q : L2.St → Hp → Prop} (h : q (σ.set i (some v)) H) : gName i v σ H q := h
theorem r_sub {to ti : TE} {t : TSet} {v : V} {q : L2.St → Hp → Prop} (h : to σ H fun o H1 => ti σ H1 fun i H2 => t o i v H2 fun H3 => q σ H3) : gSub to ti t v σ H q := h
theorem r_tup {n : Nat} {t : TGs} {a : Addr} {xs : List V} {q : L2.St → Hp → Prop} (h : SqT K H a xs) (e : xs.length = n) (h2 : t xs σ H q) : gTup K n t (.ref a) σ H q := ⟨a, xs, rfl, h, e, h2⟩
theorem r_gcons {t : TG} {u : TGs} {v : V} {r : List V} {q : L2.St → Hp → Prop} (h : t v σ H fun σ' H' => u r σ' H' q) : gCons t u (v :: r) σ H q := ⟨v, r, rfl, h⟩
theorem r_gnil {q : L2.St → Hp → Prop} (h : q σ H) : gNil [] σ H q := ⟨rfl, h⟩
theorem r_aug {i : Nat} {te : TE} {ti : TIp} {x : V} (e : σ[i]? = some (some x)) (h : te σ H fun y H1 => ti x y H1 fun z H2 => D.nx (σ.set i (some z)) H2) : tAug i te ti D σ H := ⟨x, e, h⟩
theorem r_augS {to ti te : TE} {tget : V → V → Hp → VK → Prop} {tip : TIp} {tset : TSet} (h : to σ H fun o H1 => ti σ H1 fun i H2 => tget o i H2 fun x H3 => te σ H3 fun y H4 => tip x y H4 fun z H5 => tset o i z H5 fun H6 => D.nx σ H6) : tAugS to ti te tget tip tset D σ H := h
theorem r_ipI {f : Int → Int → Int} {i j : Int} (h : Q (.int (f i j)) H) : ipI f (.int i) (.int j) H Q := ⟨i, j, rfl, rfl, h⟩
theorem r_test {t : TE} {q : Bool → Hp → Prop} (h : t σ H fun x H' => ∃ k, x = .bl k ∧ q k H') : tTest t σ H q := h
theorem r_tB {t : TE} {q : Bool → Hp → Prop} (h : t σ H fun x H' => ∃ k, x = .bl k ∧ q k H') : tB t σ H q := h
theorem r_bl {b : Bool} {q : Bool → Prop} (h : q b) : ∃ k, V.bl b = .bl k ∧ q k := ⟨b, rfl, h⟩
theorem r_not {t : TT} {q : Bool → Hp → Prop} (h : t σ H fun c H1 => q (!c) H1) : tNot t σ H q := h
theorem r_and {t u : TT} {q : Bool → Hp → Prop} (h : t σ H fun c H1 => if c = true then u σ H1 q else q false H1) : tAnd t u σ H q := h
theorem r_or {t u : TT} {q : Bool → Hp → Prop} (h : t σ H fun c H1 => if c = true then q true H1 else u σ H1 q) : tOr t u σ H q := h
theorem r_andV {ta tb : TE} (h : ta σ H fun x H1 => ∃ c, x = .bl c ∧ if c = true then tb σ H1 Q else Q (.bl false) H1) : tAndV ta tb σ H Q := h
theorem r_orV {ta tb : TE} (h : ta σ H fun x H1 => ∃ c, x = .bl c ∧ if c = true then Q (.bl true) H1 else tb σ H1 Q) : tOrV ta tb σ H Q := h
theorem r_notV {ta : TE} (h : ta σ H fun x H1 => ∃ c, x = .bl c ∧ Q (.bl (!c)) H1) : tNotV ta σ H Q := h
theorem r_if {t : TT} {ta tb : TE} (h : t σ H fun c H1 => if c = true then ta σ H1 Q else tb σ H1 Q) : tIf t ta tb σ H Q := h
theorem r_var {i : Nat} {v : V} (e : σ[i]? = some (some v)) (h : Q v H) : tVar i σ H Q := ⟨v, e, h⟩
theorem r_c {v : V} (h : Q v H) : tC v σ H Q := h
theorem r_op {r : R2} {ta tb : TE} (h : ta σ H fun x H1 => tb σ H1 fun y H2 => r x y H2 Q) : tOp r ta tb σ H Q := h
theorem r_un {r : V → Hp → VK → Prop} {ta : TE} (h : ta σ H fun x H1 => r x H1 Q) : tUn r ta σ H Q := h
theorem r_i0 {g : Int → Int → V} {i j : Int} (h : Q (g i j) H) : rI0 g (.int i) (.int j) H Q := ⟨i, j, rfl, rfl, h⟩
theorem r_i {C : Int → Int → Prop} {g : Int → Int → V} {i j : Int} (c : C i j) (h : Q (g i j) H) : rI C g (.int i) (.int j) H Q := ⟨i, j, rfl, rfl, c, h⟩
theorem r_u {g : Int → V} {i : Int} (h : Q (g i) H) : rU g (.int i) H Q := ⟨i, rfl, h⟩
theorem r_eq {x y : V} (e : scal x y = true) (h : Q (.bl (decide (x = y))) H) : rEq x y H Q := ⟨e, h⟩
theorem r_ne {x y : V} (e : scal x y = true) (h : Q (.bl (!decide (x = y))) H) : rNe x y H Q := ⟨e, h⟩
theorem r_chain {r r' : R2} {ta tb tc : TE} (h : ta σ H fun x H1 => tb σ H1 fun y H2 => r x y H2 fun z H3 => ∃ k, z = .bl k ∧ (if k = true then tc σ H3 fun w' H4 => r' y w' H4 Q else Q (.bl false) H3)) : tChain r r' ta tb tc σ H Q := h
theorem r_nil {q : List V → Hp → Prop} (h : q [] H) : tNil σ H q := h
theorem r_cons {ta : TE} {tr : TA} {q : List V → Hp → Prop} (h : ta σ H fun x H1 => tr σ H1 fun xs H2 => q (x :: xs) H2) : tCons ta tr σ H q := h
theorem r_cb {r : List V → Hp → VK → Prop} {t : TA} (h : t σ H fun vs H1 => r vs H1 Q) : tCB r t σ H Q := h
theorem r_call {sp : Sp} {E : XK} {t : TA} (h : t σ H fun vs H1 => sp (vs ++ []) H1 Q E) : tCall sp [] E t σ H Q := h
theorem r_lst {t : TA} (h : t σ H fun xs H1 => xs.length ≤ sizeLine ∧ ∀ p, H1 p = none → Q (.ref p) (upd H1 p (.lst xs))) : tLst t σ H Q := h
theorem r_tupE {t : TA} (h : t σ H fun xs H1 => xs.length ≤ sizeLine ∧ ∀ p, H1 p = none → Q (.ref p) (upd H1 p (.tup xs))) : tTup t σ H Q := h
theorem r_ixL {p : Addr} {xs : List V} {i : Int} {v : V} (h : H p = some (.lst xs)) (a : atI xs i = some v) (q : Q v H) : rIxL K (.ref p) (.int i) H Q := ⟨p, xs, i, v, rfl, rfl, SqL.of h, a, q⟩
theorem r_ixT {p : Addr} {xs : List V} {i : Int} {v : V} (h : H p = some (.tup xs)) (a : atI xs i = some v) (q : Q v H) : rIxT K (.ref p) (.int i) H Q := ⟨p, xs, i, v, rfl, rfl, SqT.of h, a, q⟩
theorem r_setL {p : Addr} {xs : List V} {k : Int} {j : Nat} {v : V} {q : Hp → Prop} (h : H p = some (.lst xs)) (a : ixN xs.length k = some j) (hq : q (upd H p (.lst (xs.set j v)))) : rSetL (.ref p) (.int k) v H q := ⟨p, xs, k, j, rfl, rfl, h, a, hq⟩
theorem r_len {a : Addr} {xs : List V} {F : List V → Prop} (h : H a = some (.lst xs)) (q : F xs) : ∃ p ys, [V.ref a] = [V.ref p] ∧ (SqL K H p ys ∨ SqT K H p ys) ∧ F ys := ⟨a, xs, rfl, .inl (SqL.of h), q⟩
theorem r_bm {T : String} {r : V → List V → Hp → VK → Prop} {to : TE} {t : TA} (h : to σ H fun x H1 => tyV K T x H1 ∧ t σ H1 fun xs H2 => r x xs H2 Q) : tBM K T r to t σ H Q := h
theorem r_bm0 {T : String} {r : V → List V → Hp → VK → Prop} {to : TE} (h : to σ H fun x H1 => tyV K T x H1 ∧ r x [] H1 Q) : tBM0 K T r to σ H Q := h
theorem r_ty {p : Addr} {xs : List V} (h : H p = some (.lst xs)) : tyV K "list" (.ref p) H := .inl ⟨rfl, _, SqL.of h⟩
theorem r_append {l : Addr} {xs : List V} {y : V} (h : H l = some (.lst xs)) (z : xs.length < sizeLine) (q : Q .non (upd H l (.lst (xs ++ [y])))) : rAppend (.ref l) [y] H Q := ⟨l, xs, y, rfl, rfl, h, z, q⟩
theorem r_pop {l : Addr} {xs : List V} {y : V} (h : H l = some (.lst xs)) (z : xs[xs.length - 1]? = some y) (q : Q y (upd H l (.lst xs.dropLast))) : rPop (.ref l) [] H Q := ⟨l, xs, y, rfl, rfl, h, z, q⟩
theorem r_iList {tl : TE} {R : It → Hp → Prop} (h : tl σ H fun x H1 => ∃ a, x = .ref a ∧ (∃ xs, SqL K H1 a xs) ∧ R (Itl K a) H1) : iList K tl σ H R := h
theorem r_isL {a : Addr} {xs : List V} {q : Addr → Prop} (h : H a = some (.lst xs)) (hq : q a) : ∃ b, V.ref a = .ref b ∧ (∃ xs, SqL K H b xs) ∧ q b := ⟨a, rfl, ⟨xs, SqL.of h⟩, hq⟩
theorem r_rng1 {ta : TA} {R : It → Hp → Prop} (h : ta σ H fun vs H1 => ∃ j : Int, vs = [.int j] ∧ -(2 ^ 62) ≤ j ∧ j < 2 ^ 62 ∧ R (Itr 0 j.toNat) H1) : iRng1 ta σ H R := h
theorem r_isR {j : Int} {R : It → Hp → Prop} (h1 : -(2 ^ 62) ≤ j) (h2 : j < 2 ^ 62) (hq : R (Itr 0 j.toNat) H) : ∃ k : Int, [V.int j] = [.int k] ∧ -(2 ^ 62) ≤ k ∧ k < 2 ^ 62 ∧ R (Itr 0 k.toNat) H := ⟨j, rfl, h1, h2, hq⟩
theorem r_enum {ta : TA} {R : It → Hp → Prop} (h : ta σ H fun vs H1 => ∃ a xs, vs = [.ref a] ∧ SqL K H1 a xs ∧ R (Ite K a) H1) : iEnum K ta σ H R := h
theorem r_isE {a : Addr} {xs : List V} {q : Addr → Prop} (h : H a = some (.lst xs)) (hq : q a) : ∃ b ys, [V.ref a] = [.ref b] ∧ SqL K H b ys ∧ q b := ⟨a, xs, rfl, SqL.of h, hq⟩
theorem r_abs {j : Int} {F : Int → Prop} (q : F j) : ∃ i, [V.int j] = [V.int i] ∧ F i := ⟨j, rfl, q⟩
theorem r_int {j : Int} {F : Int → Prop} {G : Prop} (q : F j) : (∃ i, [V.int j] = [V.int i] ∧ F i) ∨ G := .inl ⟨j, rfl, q⟩
theorem r_ite {p : Prop} [Decidable p] {A B : Prop} (h1 : p → A) (h2 : ¬p → B) : if decide p = true then A else B := by
  by_cases h : p
  · rw [if_pos (decide_eq_true h)]; exact h1 h
  · rw [if_neg (by rw [decide_eq_false h]; exact Bool.false_ne_true)]; exact h2 h
theorem r_iten {p : Prop} [Decidable p] {A B : Prop} (h1 : ¬p → A) (h2 : p → B) : if (!decide p) = true then A else B := by
  by_cases h : p
  · rw [if_neg (by rw [decide_eq_true h]; exact Bool.false_ne_true)]; exact h2 h
  · rw [if_pos (by rw [decide_eq_false h]; rfl)]; exact h1 h
theorem int_eq {i j : Int} : (V.int i = V.int j) ↔ i = j := ⟨fun h => V.int.inj h, fun h => by rw [h]⟩
theorem small {n : Nat} (h : n ≤ 100000) : n < sizeLine := Nat.lt_of_le_of_lt h (by decide)
end
end Lw
namespace Lw
open PySem PySem.Spec PyProof.Rows L2
theorem rg_set_st {st g : Addr} {R : RS} {B : Hp} {i m c : Int} : upd (rg st g R B) st (.lst [.ref g, .int i, .int m, .int c]) = rg st g ⟨R.ns, i, m, c⟩ B := by
  unfold rg; rw [upd_upd]
theorem rg_set_g {st g : Addr} {R : RS} {B : Hp} {ns : List Int} (k : Ok st g R B) : upd (rg st g R B) g (.lst (ns.map V.int)) = rg st g ⟨ns, R.i, R.m, R.c⟩ B := by
  unfold rg; rw [upd_comm k.ne, upd_upd]
theorem Ok.re {st g : Addr} {R R' : RS} {B : Hp} (k : Ok st g R B) (h : R'.Ok) : Ok st g R' B := ⟨k.ne, h, k.bst, k.bg⟩
theorem Ok.base {st g : Addr} {R : RS} {B C : Hp} (k : Ok st g R B) (h1 : C st = none) (h2 : C g = none) : Ok st g R C := ⟨k.ne, k.ok, h1, h2⟩
theorem at_i {xs : List V} {z : Int} {v : V} (h0 : 0 ≤ z) (h : xs[z.toNat]? = some v) : atI xs z = some v := at_of (j := z.toNat) (by omega) h
theorem ix_i {n : Nat} {z : Int} (h0 : 0 ≤ z) (h : z < n) : ixN n z = some z.toNat := by unfold ixN; rw [if_pos h0, if_pos h]
theorem setMap (l : List Int) (j : Nat) (x : Int) : (l.map V.int).set j (.int x) = (l.set j x).map V.int := by rw [List.map_set]
/-- a draw -/
def spDraw : Sp := fun vs H Q _ => ∃ (st g : Addr) (R : RS) (B : Hp) (many : Int), vs = [.ref st, .int many] ∧ H = rg st g R B ∧ Ok st g R B ∧ 1 ≤ many ∧ many < 1073741824 ∧
  ∀ R' n, RS.Ok R' → 0 ≤ n → n < many → Q (.int n) (rg st g R' B)
def spStart (K : PySem.W.Frag) : Sp := fun vs H Q _ => ∃ (a : Addr) (ns : List Int), vs = [.ref a] ∧ SqL K H a (ns.map V.int) ∧ ns.length ≤ 63 ∧
  ∀ st g R, Ok st g R H → Q (.ref st) (rg st g R H)
theorem r_draw {st g : Addr} {R : RS} {B : Hp} {many : Int} {Q : VK} {E : XK} (k : Ok st g R B) (h1 : 1 ≤ many) (h2 : many < 1073741824) (q : ∀ R' n, Ok st g R' B → 0 ≤ n → n < many → Q (.int n) (rg st g R' B)) :
    spDraw ([.ref st, .int many] ++ []) (rg st g R B) Q E := ⟨st, g, R, B, many, rfl, rfl, k, h1, h2, fun R' n h => q R' n (k.re h)⟩
end Lw
namespace Lw
open PySem PySem.Spec PyProof.Rows L2
theorem cmul_mod {x y m : Int} (h : 0 < m) (h2 : m ≤ 4294967296) : CMul (x.fmod m) y := by
  have a := Int.fmod_nonneg_of_pos x h
  have b := Int.fmod_lt_of_pos x h
  exact .inl ⟨by omega, by omega⟩
end Lw
namespace Lw
open PySem PySem.Spec PyProof.Rows L2
theorem cdivN {i j : Int} (h : 0 < j) (h2 : j < 1073741824) : CDivN i j := ⟨by omega, by omega⟩
end Lw
namespace Lw
open PySem PySem.Spec PyProof.Rows L2
theorem cmulL {i j : Int} (h : -18446744073709551616 < i) (h2 : i < 18446744073709551616) : CMul i j := .inl ⟨h, h2⟩
theorem cmulR {i j : Int} (h : -18446744073709551616 < j) (h2 : j < 18446744073709551616) : CMul i j := .inr ⟨h, h2⟩
theorem cpow {i j : Int} (h : 0 ≤ j) (h2 : j ≤ 1000000) (h3 : -18446744073709551616 < i) (h4 : i < 18446744073709551616) : CPow i j := ⟨h, h2, by
  show i.natAbs < 18446744073709551616
  omega⟩
end Lw
namespace Lw
open PySem PySem.Spec PyProof.Rows L2
section
variable {K : PySem.W.Frag} {σ : L2.St} {H : Hp} {D : Ends} {g : TG} {tb : TS}
/-- for x in a list -/
theorem r_forS {a : Addr} {xs : List V} (hx : SqL K H a xs) (Pv : Nat → L2.St → Hp → Prop) (h0 : Pv 0 σ H) (hl : ∀ i σ H, i ≤ xs.length → Pv i σ H → SqL K H a xs)
    (hs : ∀ i x σ H, xs[i]? = some x → Pv i σ H → g x σ H fun σ2 H2 => tb { D with nx := Pv (i + 1), ct := Pv (i + 1), bk := D.nx } σ2 H2) (hd : ∀ σ H, Pv xs.length σ H → D.nx σ H) :
    ∃ b, V.ref a = .ref b ∧ (∃ xs, SqL K H b xs) ∧ ∃ W : Nat → Nat → L2.St → Hp → Prop, (∃ m, W 0 m σ H) ∧ ∀ i m σ H, W i m σ H →
      ((Itl K b).stop i H ∧ D.nx σ H) ∨ ((Itl K b).go i H ∧ ∃ N : L2.St → Hp → Prop, (∀ σ' H', N σ' H' → ∃ m', m' < m ∧ W (i + 1) m' σ' H') ∧ ∀ x H', (Itl K b).yld i H x H' → g x σ H' fun σ2 H2 => tb { D with nx := N, ct := N, bk := D.nx } σ2 H2) :=
  ⟨a, rfl, ⟨xs, hx⟩, for_list Pv h0 hl hs hd⟩
theorem r_forL {a : Addr} {xs : List V} (hx : H a = some (.lst xs)) (Pv : Nat → L2.St → Hp → Prop) (h0 : Pv 0 σ H) (hl : ∀ i σ H, i ≤ xs.length → Pv i σ H → H a = some (.lst xs))
    (hs : ∀ i x σ H, xs[i]? = some x → Pv i σ H → g x σ H fun σ2 H2 => tb { D with nx := Pv (i + 1), ct := Pv (i + 1), bk := D.nx } σ2 H2) (hd : ∀ σ H, Pv xs.length σ H → D.nx σ H) :
    ∃ b, V.ref a = .ref b ∧ (∃ xs, SqL K H b xs) ∧ ∃ W : Nat → Nat → L2.St → Hp → Prop, (∃ m, W 0 m σ H) ∧ ∀ i m σ H, W i m σ H →
      ((Itl K b).stop i H ∧ D.nx σ H) ∨ ((Itl K b).go i H ∧ ∃ N : L2.St → Hp → Prop, (∀ σ' H', N σ' H' → ∃ m', m' < m ∧ W (i + 1) m' σ' H') ∧ ∀ x H', (Itl K b).yld i H x H' → g x σ H' fun σ2 H2 => tb { D with nx := N, ct := N, bk := D.nx } σ2 H2) :=
  r_forS (SqL.of hx) Pv h0 (fun i σ H h1 h2 => SqL.of (hl i σ H h1 h2)) hs hd
/-- for k in range(n) -/
theorem r_forR {n : Int} (h1 : -4611686018427387904 ≤ n) (h2 : n < 4611686018427387904) (Pv : Nat → L2.St → Hp → Prop) (h0 : Pv 0 σ H)
    (hs : ∀ i σ H, i < n.toNat → Pv i σ H → g (.int i) σ H fun σ2 H2 => tb { D with nx := Pv (i + 1), ct := Pv (i + 1), bk := D.nx } σ2 H2) (hd : ∀ σ H, Pv n.toNat σ H → D.nx σ H) :
    ∃ j : Int, [V.int n] = [.int j] ∧ -(2 ^ 62) ≤ j ∧ j < 2 ^ 62 ∧ ∃ W : Nat → Nat → L2.St → Hp → Prop, (∃ m, W 0 m σ H) ∧ ∀ i m σ H, W i m σ H →
      ((Itr 0 j.toNat).stop i H ∧ D.nx σ H) ∨ ((Itr 0 j.toNat).go i H ∧ ∃ N : L2.St → Hp → Prop, (∀ σ' H', N σ' H' → ∃ m', m' < m ∧ W (i + 1) m' σ' H') ∧ ∀ x H', (Itr 0 j.toNat).yld i H x H' → g x σ H' fun σ2 H2 => tb { D with nx := N, ct := N, bk := D.nx } σ2 H2) :=
  ⟨n, rfl, h1, h2, for_range Pv h0 (fun i σ H hi hp => by rw [Int.zero_add]; exact hs i σ H hi hp) hd⟩
end
theorem size_nil : ([] : List V).length ≤ sizeLine := Nat.zero_le _
theorem size_le {xs : List V} {n : Nat} (e : xs.length = n) (h : n ≤ 1000) : xs.length ≤ sizeLine := by rw [e]; exact Nat.le_of_lt (small (by omega))
end Lw
namespace Lw
open PySem PySem.Spec PyProof.Rows L2
/-! ### what lies above the growing heap -/
structure TopOk {S : Type} (F : S → Hp → Hp) (ok : S → Hp → Prop) : Prop where
  new : ∀ s C p, ok s C → F s C p = none → C p = none ∧ ∀ o, upd (F s C) p o = F s (upd C p o) ∧ ok s (upd C p o)
  write : ∀ s C b o o', ok s C → C b = some o' → upd (F s C) b o = F s (upd C b o) ∧ ok s (upd C b o)
  get : ∀ s C a o, ok s C → C a = some o → F s C a = some o
theorem topRg (st g : Addr) : TopOk (rg st g) (Ok st g) where
  new := fun R C p k h => by
    obtain ⟨h1, h2, h3⟩ := rg_none h
    exact ⟨h3, fun o => ⟨rg_upd h1 h2, k.upd h1 h2⟩⟩
  write := fun R C b o o' k h => rg_write k h
  get := fun R C a o k h => rg_get k h
theorem topH : TopOk (fun (_ : Unit) (C : Hp) => C) (fun _ _ => True) where
  new := fun _ C p _ h => ⟨h, fun o => ⟨rfl, trivial⟩⟩
  write := fun _ C b o o' _ h => ⟨rfl, trivial⟩
  get := fun _ C a o _ h => h
section
variable {S : Type} {F : S → Hp → Hp} {ok : S → Hp → Prop} (T : TopOk F ok)
include T
theorem newT {s : S} {C : Hp} {o : HO} {Q : Addr → Hp → Prop} (k : ok s C) (h : ∀ p, C p = none → ok s (upd C p o) → Q p (F s (upd C p o))) : ∀ p, F s C p = none → Q p (upd (F s C) p o) := fun p hp => by
  obtain ⟨h1, h2⟩ := T.new s C p k hp
  rw [(h2 o).1]
  exact h p h1 (h2 o).2
/-- a new object below a list that is under way -/
theorem newTD {s : S} {C : Hp} {D : Addr} {x o : HO} {Q : Addr → Hp → Prop} (k : ok s (upd C D x)) (hD : C D = none)
    (h : ∀ p, C p = none → p ≠ D → ok s (upd (upd C p o) D x) → (upd C p o) D = none → Q p (F s (upd (upd C p o) D x))) : ∀ p, F s (upd C D x) p = none → Q p (upd (F s (upd C D x)) p o) := fun p hp => by
  obtain ⟨h1, h2⟩ := T.new s (upd C D x) p k hp
  obtain ⟨h3, h4⟩ := upd_none h1
  have e := h2 o
  rw [upd_comm h3.symm] at e
  rw [e.1]
  exact h p h4 h3 e.2 (by rw [upd_ne h3.symm]; exact hD)
/-- what a turn of a comprehension is to reach -/
def LcN (F : S → Hp → Hp) (ok : S → Hp → Prop) (B : Hp) (D : Addr) (Pv : Hp → List V → Prop) : Hp → Prop := fun H' => ∃ s C acc, H' = F s (upd C D (.lst acc)) ∧ ok s (upd C D (.lst acc)) ∧ C D = none ∧ Same B C ∧ Pv C acc
omit T in
theorem lcN_skip {s : S} {B C : Hp} {D : Addr} {acc : List V} {Pv : Hp → List V → Prop} (k : ok s (upd C D (.lst acc))) (hD : C D = none) (hS : Same B C) (h : Pv C acc) : LcN F ok B D Pv (F s (upd C D (.lst acc))) := ⟨s, C, acc, rfl, k, hD, hS, h⟩
theorem lcN_put {s : S} {B C : Hp} {D : Addr} {acc : List V} {y : V} {Pv : Hp → List V → Prop} (k : ok s (upd C D (.lst acc))) (hD : C D = none) (hS : Same B C) (hz : acc.length ≤ 100000) (h : Pv C (acc ++ [y])) :
    ∃ acc', (F s (upd C D (.lst acc))) D = some (.lst acc') ∧ acc'.length < sizeLine ∧ LcN F ok B D Pv (upd (F s (upd C D (.lst acc))) D (.lst (acc' ++ [y]))) := by
  obtain ⟨e1, e2⟩ := T.write s _ D (.lst (acc ++ [y])) (.lst acc) k upd_same
  rw [upd_upd] at e1 e2
  exact ⟨acc, T.get _ _ _ _ k upd_same, small hz, s, C, acc ++ [y], e1, e2, hD, hS, h⟩
variable {σ : L2.St} {g : TG} {tt : TT} {te : TE} {vs : List Nat} {Q : Addr → Hp → Prop}
theorem lcT_range {s0 : S} {B : Hp} (k : ok s0 B) {n : Int} (h1 : -4611686018427387904 ≤ n) (h2 : n < 4611686018427387904) (Pv : Nat → Hp → List V → Prop) (h0 : Pv 0 B [])
    (hs : ∀ D i s C acc, ok s (upd C D (.lst acc)) → C D = none → Same B C → i < n.toNat → Pv i C acc → g (.int i) (wipe σ vs) (F s (upd C D (.lst acc))) fun σ2 H2 => wipe σ2 vs = wipe σ vs ∧ tt σ2 H2 fun b H3 =>
      if b = true then te σ2 H3 fun y H4 => ∃ acc', H4 D = some (.lst acc') ∧ acc'.length < sizeLine ∧ LcN F ok B D (Pv (i + 1)) (upd H4 D (.lst (acc' ++ [y]))) else LcN F ok B D (Pv (i + 1)) H3)
    (hd : ∀ D s C acc, ok s (upd C D (.lst acc)) → B D = none → C D = none → Same B C → Pv n.toNat C acc → Q D (F s (upd C D (.lst acc)))) :
    ∃ j : Int, [V.int n] = [.int j] ∧ -(2 ^ 62) ≤ j ∧ j < 2 ^ 62 ∧ ∀ D, (F s0 B) D = none → ∃ W : Nat → Nat → Hp → Prop, (∃ m, W 0 m (upd (F s0 B) D (.lst []))) ∧ ∀ i m H, W i m H →
      ((Itr 0 j.toNat).stop i H ∧ Q D H) ∨ ((Itr 0 j.toNat).go i H ∧ ∃ Nx : Hp → Prop, (∀ H', Nx H' → ∃ m', m' < m ∧ W (i + 1) m' H') ∧ ∀ x H', (Itr 0 j.toNat).yld i H x H' → g x (wipe σ vs) H' fun σ2 H2 => wipe σ2 vs = wipe σ vs ∧ tt σ2 H2 fun b H3 =>
        if b = true then te σ2 H3 fun y H4 => ∃ acc, H4 D = some (.lst acc) ∧ acc.length < sizeLine ∧ Nx (upd H4 D (.lst (acc ++ [y]))) else Nx H3) := by
  refine ⟨n, rfl, h1, h2, fun D hD => ?_⟩
  obtain ⟨hB, hn⟩ := T.new s0 B D k hD
  refine lc_range (fun i H => LcN F ok B D (Pv i) H) ?_ ?_ ?_
  · rw [(hn _).1]
    exact ⟨s0, B, [], rfl, (hn _).2, hB, Same.refl B, h0⟩
  · rintro i H hi ⟨s, C, acc, rfl, k', hD', hS, hp⟩
    rw [Int.zero_add]
    exact hs D i s C acc k' hD' hS hi hp
  · rintro H ⟨s, C, acc, rfl, k', hD', hS, hp⟩
    exact hd D s C acc k' hB hD' hS hp
theorem lcT_list {K : PySem.W.Frag} {s0 : S} {B : Hp} (k : ok s0 B) {a : Addr} {xs : List V} (ha : B a = some (.lst xs)) (Pv : Nat → Hp → List V → Prop) (h0 : Pv 0 B [])
    (hs : ∀ D i x s C acc, ok s (upd C D (.lst acc)) → C D = none → Same B C → xs[i]? = some x → Pv i C acc → g x (wipe σ vs) (F s (upd C D (.lst acc))) fun σ2 H2 => wipe σ2 vs = wipe σ vs ∧ tt σ2 H2 fun b H3 =>
      if b = true then te σ2 H3 fun y H4 => ∃ acc', H4 D = some (.lst acc') ∧ acc'.length < sizeLine ∧ LcN F ok B D (Pv (i + 1)) (upd H4 D (.lst (acc' ++ [y]))) else LcN F ok B D (Pv (i + 1)) H3)
    (hd : ∀ D s C acc, ok s (upd C D (.lst acc)) → B D = none → C D = none → Same B C → Pv xs.length C acc → Q D (F s (upd C D (.lst acc)))) :
    ∃ b, V.ref a = .ref b ∧ (∃ xs, SqL K (F s0 B) b xs) ∧ ∀ D, (F s0 B) D = none → ∃ W : Nat → Nat → Hp → Prop, (∃ m, W 0 m (upd (F s0 B) D (.lst []))) ∧ ∀ i m H, W i m H →
      ((Itl K b).stop i H ∧ Q D H) ∨ ((Itl K b).go i H ∧ ∃ Nx : Hp → Prop, (∀ H', Nx H' → ∃ m', m' < m ∧ W (i + 1) m' H') ∧ ∀ x H', (Itl K b).yld i H x H' → g x (wipe σ vs) H' fun σ2 H2 => wipe σ2 vs = wipe σ vs ∧ tt σ2 H2 fun b H3 =>
        if b = true then te σ2 H3 fun y H4 => ∃ acc, H4 D = some (.lst acc) ∧ acc.length < sizeLine ∧ Nx (upd H4 D (.lst (acc ++ [y]))) else Nx H3) := by
  refine ⟨a, rfl, ⟨xs, SqL.of (T.get _ _ _ _ k ha)⟩, fun D hD => ?_⟩
  obtain ⟨hB, hn⟩ := T.new s0 B D k hD
  refine lc_list (xs := xs) (fun i H => LcN F ok B D (Pv i) H) ?_ ?_ ?_ ?_
  · rw [(hn _).1]
    exact ⟨s0, B, [], rfl, (hn _).2, hB, Same.refl B, h0⟩
  · rintro i H _ ⟨s, C, acc, rfl, k', hD', hS, hp⟩
    exact SqL.of (T.get _ _ _ _ k' (upd_old hD' (hS _ _ ha)))
  · rintro i x H hx ⟨s, C, acc, rfl, k', hD', hS, hp⟩
    exact hs D i x s C acc k' hD' hS hx hp
  · rintro H ⟨s, C, acc, rfl, k', hD', hS, hp⟩
    exact hd D s C acc k' hB hD' hS hp
end
section
variable {σ : L2.St} {H : Hp} {Q : VK}
theorem r_lc {wi : TI} {g : TG} {tt : TT} {te : TE} {vs : List Nat} (h : wi σ H fun J H1 => ∀ D, H1 D = none → ∃ W : Nat → Nat → Hp → Prop, (∃ m, W 0 m (upd H1 D (.lst []))) ∧ ∀ i m H, W i m H →
  (J.stop i H ∧ Q (.ref D) H) ∨ (J.go i H ∧ ∃ Nx : Hp → Prop, (∀ H', Nx H' → ∃ m', m' < m ∧ W (i + 1) m' H') ∧ ∀ x H', J.yld i H x H' → g x (wipe σ vs) H' fun σ2 H2 => wipe σ2 vs = wipe σ vs ∧ tt σ2 H2 fun b H3 =>
    if b = true then te σ2 H3 fun y H4 => ∃ acc, H4 D = some (.lst acc) ∧ acc.length < sizeLine ∧ Nx (upd H4 D (.lst (acc ++ [y]))) else Nx H3)) : tLc wi g tt te vs σ H Q := h
theorem r_yes {q : Bool → Hp → Prop} (h : q true H) : tYes σ H q := h
end
/-! ### rows of ints -/
def Rw (C : Hp) (as : List Addr) (rs : List (List Int)) : Prop := as.length = rs.length ∧ ∀ (i : Nat) (b : Addr), as[i]? = some b → ∃ r, rs[i]? = some r ∧ C b = some (.lst (r.map V.int))
theorem Rw.nil {C : Hp} : Rw C [] [] := ⟨rfl, fun i b h => by simp at h⟩
theorem Rw.mono {C C' : Hp} {as : List Addr} {rs : List (List Int)} (h : Rw C as rs) (s : Same C C') : Rw C' as rs :=
  ⟨h.1, fun i b e => by obtain ⟨r, h1, h2⟩ := h.2 i b e; exact ⟨r, h1, s _ _ h2⟩⟩
theorem Rw.push {C : Hp} {as : List Addr} {rs : List (List Int)} {b : Addr} {r : List Int} (h : Rw C as rs) (e : C b = some (.lst (r.map V.int))) : Rw C (as ++ [b]) (rs ++ [r]) := by
  refine ⟨by rw [List.length_append, List.length_append, h.1]; rfl, fun i c hc => ?_⟩
  by_cases hi : i < as.length
  · rw [List.getElem?_append_left hi] at hc
    obtain ⟨r', h1, h2⟩ := h.2 i c hc
    exact ⟨r', by rw [List.getElem?_append_left (by rw [← h.1]; exact hi)]; exact h1, h2⟩
  · have h3 := (List.getElem?_eq_some_iff.mp hc).1
    rw [List.length_append, List.length_singleton] at h3
    have e2 : i = as.length := by omega
    rw [e2, List.getElem?_append_right (Nat.le_refl _), Nat.sub_self] at hc
    have e3 : b = c := Option.some.inj hc
    refine ⟨r, ?_, e3 ▸ e⟩
    rw [e2, h.1, List.getElem?_append_right (Nat.le_refl _), Nat.sub_self]; rfl
theorem Rw.set {C : Hp} {as : List Addr} {rs : List (List Int)} {b : Addr} {r : List Int} (h : Rw C as rs) (j : Nat) (e : C b = some (.lst (r.map V.int))) : Rw C (as.set j b) (rs.set j r) := by
  refine ⟨by rw [List.length_set, List.length_set, h.1], fun i c hc => ?_⟩
  rw [List.getElem?_set] at hc
  split at hc
  · rename_i hj
    split at hc
    · rename_i hl
      refine ⟨r, ?_, (Option.some.inj hc) ▸ e⟩
      rw [List.getElem?_set, if_pos hj, if_pos (by rw [← h.1]; exact hl)]
    · cases hc
  · rename_i hj
    obtain ⟨r', h1, h2⟩ := h.2 i c hc
    exact ⟨r', by rw [List.getElem?_set, if_neg hj]; exact h1, h2⟩
/-- a row of places below n, at most L of them, each once -/
def Gd (n : Int) (L : Nat) (r : List Int) : Prop := r.length ≤ L ∧ r.Nodup ∧ ∀ e ∈ r, 0 ≤ e ∧ e < n
def Wf (n L : Nat) (rs : List (List Int)) : Prop := rs.length = n ∧ ∀ r ∈ rs, Gd (n : Int) L r
end Lw
namespace Lw
open PySem PySem.Spec PyProof.Rows L2
/-- a list that was made (y at D2) below one that is under way (x at D1) -/
theorem under {C1 C2 : Hp} {D1 D2 : Addr} {x y : HO} (h1 : C1 D1 = none) (h2 : (upd C1 D1 x) D2 = none) (hS : Same (upd C1 D1 x) C2) :
    ∃ C3, upd C2 D2 y = upd C3 D1 x ∧ C3 D1 = none ∧ Same C1 C3 ∧ C3 D2 = some y ∧ C1 D2 = none ∧ D2 ≠ D1 := by
  obtain ⟨n1, n2⟩ := upd_none h2
  obtain ⟨C3, e, e1, e2⟩ := lay_same h1 hS
  refine ⟨upd C3 D2 y, ?_, by rw [upd_ne n1.symm]; exact e1, fun b o hb => ?_, upd_same, n2, n1⟩
  · rw [e, upd_comm n1.symm]
  · rw [upd_ne (ne_of_none hb n2)]; exact e2 _ _ hb
theorem ints_push (r : List Int) (z : Int) : r.map V.int ++ [.int z] = (r ++ [z]).map V.int := by rw [List.map_append]; rfl
theorem refs_push (r : List Addr) (z : Addr) : r.map V.ref ++ [.ref z] = (r ++ [z]).map V.ref := by rw [List.map_append]; rfl
theorem wf_push {n : Int} {L : Nat} {rs : List (List Int)} {r : List Int} (h : ∀ r ∈ rs, Gd n L r) (h1 : Gd n L r) : ∀ r' ∈ rs ++ [r], Gd n L r' := fun r' hr => by
  rcases List.mem_append.mp hr with e | e
  · exact h r' e
  · rw [List.mem_singleton.mp e]; exact h1
/-- a row that is grown by something greater -/
def Up (n : Int) (j : Nat) (r : List Int) : Prop := r.length ≤ j ∧ r.Nodup ∧ (∀ e ∈ r, 0 ≤ e ∧ e < n) ∧ ∀ e ∈ r, e < (j : Int)
theorem Up.nil {n : Int} : Up n 0 [] := ⟨Nat.le_refl _, List.nodup_nil, (fun e he => nomatch he), (fun e he => nomatch he)⟩
theorem Up.skip {n : Int} {j : Nat} {r : List Int} (h : Up n j r) : Up n (j + 1) r := ⟨by have := h.1; omega, h.2.1, h.2.2.1, fun e he => by have := h.2.2.2 e he; omega⟩
theorem nodup_push {α : Type} {r : List α} {z : α} (h : r.Nodup) (hz : z ∉ r) : (r ++ [z]).Nodup := by
  rw [List.nodup_append]
  exact ⟨h, by simp, fun a ha b hb e => hz (by rw [← List.mem_singleton.mp hb, ← e]; exact ha)⟩
theorem Up.push {n : Int} {j : Nat} {r : List Int} (h : Up n j r) (hj : (j : Int) < n) : Up n (j + 1) (r ++ [(j : Int)]) := by
  refine ⟨by rw [List.length_append, List.length_singleton]; have := h.1; omega, nodup_push h.2.1 fun hm => ?_, fun e he => ?_, fun e he => ?_⟩
  · have := h.2.2.2 _ hm; omega
  · rcases List.mem_append.mp he with q | q
    · exact h.2.2.1 e q
    · rw [List.mem_singleton.mp q]; omega
  · rcases List.mem_append.mp he with q | q
    · have := h.2.2.2 e q; omega
    · rw [List.mem_singleton.mp q]; omega
theorem Up.gd {n : Int} {j L : Nat} {r : List Int} (h : Up n j r) (hj : j ≤ L) : Gd n L r := ⟨by have := h.1; omega, h.2.1, h.2.2.1⟩
theorem Gd.weak {n : Int} {L L' : Nat} {r : List Int} (h : Gd n L r) (hl : L ≤ L') : Gd n L' r := ⟨Nat.le_trans h.1 hl, h.2⟩
theorem all_push {P : Int → Prop} {r : List Int} {z : Int} (h : ∀ e ∈ r, P e) (hz : P z) : ∀ e ∈ r ++ [z], P e := fun e he => by
  rcases List.mem_append.mp he with q | q
  · exact h e q
  · rw [List.mem_singleton.mp q]; exact hz
end Lw
namespace Lw
open PySem PySem.Spec PyProof.Rows L2
section
variable {S : Type} {F : S → Hp → Hp} {ok : S → Hp → Prop} (T : TopOk F ok)
include T
theorem newT_eq {s : S} {C : Hp} {p : Addr} (k : ok s C) (hp : F s C p = none) (o : HO) : upd (F s C) p o = F s (upd C p o) ∧ ok s (upd C p o) ∧ C p = none := by
  obtain ⟨h1, h2⟩ := T.new s C p k hp
  exact ⟨(h2 o).1, (h2 o).2, h1⟩
theorem newTD_eq {s : S} {C : Hp} {D p : Addr} {x : HO} (k : ok s (upd C D x)) (hD : C D = none) (hp : F s (upd C D x) p = none) (o : HO) :
    upd (F s (upd C D x)) p o = F s (upd (upd C p o) D x) ∧ ok s (upd (upd C p o) D x) ∧ (upd C p o) D = none ∧ C p = none ∧ p ≠ D := by
  obtain ⟨h1, h2⟩ := T.new s (upd C D x) p k hp
  obtain ⟨h3, h4⟩ := upd_none h1
  have e := h2 o
  rw [upd_comm h3.symm] at e
  exact ⟨e.1, e.2, by rw [upd_ne h3.symm]; exact hD, h4, h3⟩
theorem setTD_eq {s : S} {C : Hp} {D : Addr} {x : HO} (k : ok s (upd C D x)) (y : HO) : upd (F s (upd C D x)) D y = F s (upd C D y) ∧ ok s (upd C D y) := by
  have e := T.write s _ D y x k upd_same
  rw [upd_upd] at e
  exact e
end
theorem refsSet (l : List Addr) (j : Nat) (x : Addr) : (l.map V.ref).set j (.ref x) = (l.set j x).map V.ref := by rw [List.map_set]
theorem refsRev (l : List Addr) : (l.map V.ref).reverse = l.reverse.map V.ref := by rw [List.map_reverse]
theorem Rw.rev {C : Hp} {as : List Addr} {rs : List (List Int)} (h : Rw C as rs) : Rw C as.reverse rs.reverse := by
  refine ⟨by rw [List.length_reverse, List.length_reverse, h.1], fun i b e => ?_⟩
  have hi := (List.getElem?_eq_some_iff.mp e).1
  rw [List.length_reverse] at hi
  rw [List.getElem?_reverse hi] at e
  obtain ⟨r, h1, h2⟩ := h.2 _ b e
  exact ⟨r, by rw [List.getElem?_reverse (by rw [← h.1]; exact hi), ← h.1]; exact h1, h2⟩
theorem Rw.at {C : Hp} {as : List Addr} {rs : List (List Int)} {i : Nat} {x : V} (h : Rw C as rs) (e : (as.map V.ref)[i]? = some x) : ∃ b r, x = .ref b ∧ as[i]? = some b ∧ rs[i]? = some r ∧ C b = some (.lst (r.map V.int)) := by
  rw [List.getElem?_map] at e
  cases q : as[i]? with
  | none => rw [q] at e; cases e
  | some b =>
    rw [q] at e
    obtain ⟨r, h1, h2⟩ := h.2 i b q
    exact ⟨b, r, (Option.some.inj e).symm, rfl, h1, h2⟩
theorem ints_at {r : List Int} {i : Nat} {x : V} (e : (r.map V.int)[i]? = some x) : ∃ z, x = .int z ∧ r[i]? = some z := by
  rw [List.getElem?_map] at e
  cases q : r[i]? with
  | none => rw [q] at e; cases e
  | some z => rw [q] at e; exact ⟨z, (Option.some.inj e).symm, rfl⟩
theorem r_revL {K : PySem.W.Frag} {σ : L2.St} {H : Hp} {Q : VK} {te : TE} (h : te σ H fun x H1 => ∃ a xs, x = .ref a ∧ SqL K H1 a xs ∧ ∀ p, H1 p = none → Q (.ref p) (upd H1 p (.lst xs.reverse))) : tRevL K te σ H Q := h
theorem r_isrev {K : PySem.W.Frag} {H : Hp} {a : Addr} {xs : List V} {q : List V → Prop} (h : H a = some (.lst xs)) (hq : q xs) : ∃ b ys, V.ref a = .ref b ∧ SqL K H b ys ∧ q ys := ⟨a, xs, rfl, SqL.of h, hq⟩
end Lw
namespace Lw
open PySem PySem.Spec PyProof.Rows L2
/-! ### the rules with the written part named (so that they stand within a comprehension's block) -/
section
variable {X : Cx} {K : PySem.W.Frag} {tg : Expr}
theorem pi_listK (h : X.K = K) {l : Expr} {tl : TE} (hl : PE X l tl) : PI X tg l (iList K tl) := by subst h; exact pi_list hl
theorem pi_tupK (h : X.K = K) {l : Expr} {tl : TE} (hl : PE X l tl) : PI X tg l (iTup K tl) := by subst h; exact pi_tup hl
theorem pi_enumK (h : X.K = K) {e : Expr} {ta : TA} {p pos tpos : Pos} {elts : List Expr} {kk : Nat} (hg : Gl X "enumerate") (hm : X.mg "enumerate" = none) (ha : PA X [e] ta) (hs : starEach [e] X.env = [(false, eval e X.env)] := by rfl) :
    PI X (.Tuple elts kk tpos) (.Call (.Name "enumerate" p) [e] [] pos) (iEnum K ta) := by subst h; exact pi_enum hg hm ha hs
theorem pi_zipK (h : X.K = K) {e e2 : Expr} {ta : TA} {p pos tpos : Pos} {elts : List Expr} {kk : Nat} (hg : Gl X "zip") (hm : X.mg "zip" = none) (ha : PA X [e, e2] ta)
    (hs : starEach [e, e2] X.env = (false, eval e X.env) :: starEach [e2] X.env := by rfl) (hpl : (backTo pos (starEach [e2] X.env)).any (·.1) = false := by rfl) :
    PI X (.Tuple elts kk tpos) (.Call (.Name "zip" p) [e, e2] [] pos) (iZip K ta) := by subst h; exact pi_zip hg hm ha hs hpl
theorem pi_reversedK (h : X.K = K) {e : Expr} {ta : TA} {p pos : Pos} (hg : Gl X "reversed") (hm : X.mg "reversed" = none) (ha : PA X [e] ta) (hs : starEach [e] X.env = [(false, eval e X.env)] := by rfl) : PI X tg (.Call (.Name "reversed" p) [e] [] pos) (iRev K ta) := by subst h; exact pi_reversed hg hm ha hs
theorem ix_listK (h : X.K = K) : IxR X (rIxL K) := by subst h; exact ix_list
theorem ix_tupK (h : X.K = K) : IxR X (rIxT K) := by subst h; exact ix_tup
theorem sl_listK (h : X.K = K) : SlR X (rSlL K) := by subst h; exact sl_list
theorem sl_tupK (h : X.K = K) : SlR X (rSlT K) := by subst h; exact sl_tup
theorem op_in_seqK (h : X.K = K) : OpR X (compareOp .In) (rIn K false) := by subst h; exact op_in_seq
theorem op_notIn_seqK (h : X.K = K) : OpR X (compareOp .NotIn) (rIn K true) := by subst h; exact op_notIn_seq
theorem op_eqDK (h : X.K = K) (hu : X.A.units + 64 < cLine) : OpR X (compareOp .Eq) (rEqD K) := by subst h; exact op_eqD hu
theorem op_neDK (h : X.K = K) (hu : X.A.units + 64 < cLine) : OpR X (compareOp .NotEq) (rNeD K) := by subst h; exact op_neD hu
theorem op_catTK (h : X.K = K) : OpR X (binaryOp .Add) (rCatT K) := by subst h; exact op_catT
def rLen (K : PySem.W.Frag) : List V → Hp → VK → Prop := fun xs H Q => ∃ p ys, xs = [V.ref p] ∧ (SqL K H p ys ∨ SqT K H p ys) ∧ Q (.int ys.length) H
theorem call_len_seqK (h : X.K = K) : CallR X (.builtin "len") (rLen K) := by subst h; exact call_len_seq
def rListOf (K : PySem.W.Frag) : List V → Hp → VK → Prop := fun xs H Q => ∃ p ys, xs = [V.ref p] ∧ (SqL K H p ys ∨ SqT K H p ys) ∧ ∀ l, H l = none → Q (.ref l) (upd H l (.lst ys))
theorem call_list_ofK (h : X.K = K) : CallR X (.type "list") (rListOf K) := by subst h; exact call_list_of
theorem cr_sumK (h : X.K = K) (hc : X.calm = true) : CallR X (.builtin "sum") (rSum K) := by subst h; exact cr_sum hc
theorem cr_maxK (h : X.K = K) (hc : X.calm = true) : CallR X (.builtin "max") (rMax K) := by subst h; exact cr_max hc
theorem cr_minK (h : X.K = K) (hc : X.calm = true) : CallR X (.builtin "min") (rMin K) := by subst h; exact cr_min hc
theorem cr_sortedK (h : X.K = K) : CallR X (.builtin "sorted") (rSortedI K) := by subst h; exact cr_sortedI
theorem cr_sortedSK (h : X.K = K) : CallR X (.builtin "sorted") (rSortedS K) := by subst h; exact cr_sortedS
theorem cr_anyK (h : X.K = K) (hc : X.calm = true) : CallR X (.builtin "any") (rAny K) := by subst h; exact cr_any hc
theorem cr_allK (h : X.K = K) (hc : X.calm = true) : CallR X (.builtin "all") (rAll K) := by subst h; exact cr_all hc
theorem call_isiK' (h : X.K = K) : CallR X (.builtin "isinstance") (rIsi K) := by subst h; exact call_isi
theorem mt_indexK (h : X.K = K) : MtR X "list.index" (rIndex K) := by subst h; exact mt_index
def rInsert : V → List V → Hp → VK → Prop := fun x vs H Q => ∃ (l : Addr) (xs : List V) (i : Int) (y : V), x = .ref l ∧ vs = [.int i, y] ∧ H l = some (.lst xs) ∧ xs.length < sizeLine ∧ 0 ≤ i ∧ i < 2 ^ 63 ∧
    Q .non (upd H l (.lst (xs.take i.toNat ++ [y] ++ xs.drop i.toNat)))
theorem mt_insert' : MtR X "list.insert" rInsert := mt_insert
theorem pg_tupK (h : X.K = K) {pos : Pos} {es : List Expr} {k : Nat} {t : TGs} {n : Nat} (hc : X.calm = true) (hp : PGs X es t)
    (hn : (assignEach es X.env).length = n := by rfl) (hst : (assignEach es X.env).findIdx? (·.1) = none := by rfl) : PG X (.Tuple es k pos) (gTup K n t) := by subst h; exact pg_tup hc hp hn hst
theorem pe_revLK (h : X.K = K) {e : Expr} {te : TE} {k : Nat} {p1 p2 p3 pos : Pos} (he : PE X e te) : PE X (.Subscript e (.Slice none none (some (.UnaryOp .USub (.Constant (.int 1) k p1) p2)) p3) pos) (tRevL K te) := by subst h; exact pe_revL he
theorem pt_truthK (h : X.K = K) {a : Expr} {ta : TE} (ha : PE X a ta) (he : ∀ whole, isTrue a X.env whole = (do let v ← whole; standAt a.pos; holding [v] (truthy v))) :
    PT X a (fun σ H Q => ta σ H fun x H1 => ∃ k, TruV K x H1 k ∧ Q k H1) := by subst h; exact pt_truth ha he
/-- xs[i] read for xs[i] op= e -/
theorem get_listK (h : X.K = K) : PGet X (rIxL K) := by
  subst h
  intro pins s σ H o i ov iv Q I rx ry h
  obtain ⟨p, xs, i, z, rfl, rfl, hq, he, q⟩ := h
  cases rx
  obtain ⟨t, rfl⟩ := ry
  obtain ⟨its, r, pl, hz⟩ := I.list hq
  obtain ⟨j, h1, h2, h3, h4, h5⟩ := atI_get he
  obtain ⟨w, ew, rw'⟩ := r.get h2
  have hl := r.length
  have hn := line63
  have fin : EP X pins σ Q w s := ⟨z, H, I, rw', q⟩
  by_cases h0 : 0 ≤ i
  · have hj : i.toNat = j := by
      rw [seqIndex_of h0 h5] at h1
      exact Option.some.inj h1
    exact wpAny_getItem_list pl.isList h0 (by omega) (by rw [hj]; simpa using ew) fin
  · have hj : (i + (its.toArray.size : Int)).toNat = j := by
      rw [seqIndex_neg (by omega) h4] at h1
      rw [List.size_toArray, ← hl]
      exact Option.some.inj h1
    exact wpAny_getItem_list_neg pl.isList (by omega) (by rw [List.size_toArray] <;> omega) (by omega) (by rw [hj]; simpa using ew) fin
theorem pe_bm0K (h : X.K = K) {o : Expr} {to : TE} {name : Str} {apos cpos : Pos} {T id : String} {r : V → List V → Hp → VK → Prop} (pa : PlainAttrs T) (slot : Slot T name id) (hty : typeOf (.builtin id) = pure (.type "method_descriptor")) (hm : MtR X id r) (ho : PE X o to)
    (hbase : attributeBase o name X.env (eval o X.env) = eval o X.env := by rfl) (hline : (apos.endLine == cpos.line) = true := by rfl) : PE X (.Call (.Attribute o name apos) [] [] cpos) (tBM0 K T r to) := by subst h; exact pe_bm0 pa slot hty hm ho hbase hline
theorem pe_bmK (h : X.K = K) {o e : Expr} {es : List Expr} {to : TE} {t : TA} {name : Str} {apos cpos : Pos} {T id : String} {r : V → List V → Hp → VK → Prop} (pa : PlainAttrs T) (slot : Slot T name id) (hty : typeOf (.builtin id) = pure (.type "method_descriptor")) (hm : MtR X id r) (ho : PE X o to) (ha : PA X (e :: es) t)
    (hbase : attributeBase o name X.env (eval o X.env) = eval o X.env := by rfl)
    (hfew : ((backTo cpos (starEach (e :: es) X.env)).all (fun x => !x.1) && (backToKw cpos (keywordEach [] X.env)).all (fun x => x.1.isSome)
      && decide ((e :: es).length + ([] : List Keyword).length + (if ([] : List Keyword).isEmpty then 0 else 1) < 30)) = true := by rfl)
    (hline : (apos.endLine == cpos.line) = true := by rfl) (hs : starEach (e :: es) X.env = (false, eval e X.env) :: starEach es X.env := by rfl) (hplain : (backTo cpos (starEach es X.env)).any (·.1) = false := by rfl) :
    PE X (.Call (.Attribute o name apos) (e :: es) [] cpos) (tBM K T r to t) := by subst h; exact pe_bm pa slot hty hm ho ha hbase hfew hline hs hplain
end
section
variable {K : PySem.W.Frag} {H : Hp} {Q : VK}
theorem r_lenK {a : Addr} {xs : List V} (h : H a = some (.lst xs)) (q : Q (.int xs.length) H) : rLen K [.ref a] H Q := ⟨a, xs, rfl, .inl (SqL.of h), q⟩
theorem r_lenT {a : Addr} {xs : List V} (h : H a = some (.tup xs)) (q : Q (.int xs.length) H) : rLen K [.ref a] H Q := ⟨a, xs, rfl, .inr (SqT.of h), q⟩
theorem r_listOf {a : Addr} {xs : List V} (h : H a = some (.lst xs)) (q : ∀ l, H l = none → Q (.ref l) (upd H l (.lst xs))) : rListOf K [.ref a] H Q := ⟨a, xs, rfl, .inl (SqL.of h), q⟩
theorem r_sortedI {a : Addr} {ns : List Int} (h : H a = some (.lst (ns.map V.int))) (q : ∀ (ns' : List Int) (p : Addr), ns'.Perm ns → ns'.Pairwise (· ≤ ·) → H p = none → Q (.ref p) (upd H p (.lst (ns'.map V.int)))) : rSortedI K [.ref a] H Q := ⟨a, ns, rfl, SqL.of h, q⟩
theorem r_sum {a : Addr} {ns : List Int} (h : H a = some (.lst (ns.map V.int))) (q : Q (.int ns.sum) H) : rSum K [.ref a] H Q := ⟨a, ns, rfl, SqL.of h, q⟩
theorem r_insert {l : Addr} {xs : List V} {i : Int} {y : V} (h : H l = some (.lst xs)) (hz : xs.length < sizeLine) (h0 : 0 ≤ i) (h1 : i < 9223372036854775808) (q : Q .non (upd H l (.lst (xs.take i.toNat ++ [y] ++ xs.drop i.toNat)))) : rInsert (.ref l) [.int i, y] H Q := ⟨l, xs, i, y, rfl, rfl, h, hz, h0, h1, q⟩
end
end Lw
namespace Lw
theorem nodup_le1 {α : Type} {r : List α} (h : r.length ≤ 1) : r.Nodup := by
  match r, h with
  | [], _ => exact List.nodup_nil
  | [x], _ => simp
theorem nodup_of_map {α β : Type} {f : α → β} {l : List α} (h : (l.map f).Nodup) : l.Nodup := by
  induction l with
  | nil => exact List.nodup_nil
  | cons a r ih =>
    rw [List.map_cons, List.nodup_cons] at h
    exact List.nodup_cons.mpr ⟨fun hm => h.1 (List.mem_map.mpr ⟨a, hm, rfl⟩), ih h.2⟩
theorem nodup_map {α β : Type} {f : α → β} (hf : ∀ x y, f x = f y → x = y) {l : List α} (h : l.Nodup) : (l.map f).Nodup := by
  induction l with
  | nil => exact List.nodup_nil
  | cons a r ih =>
    rw [List.nodup_cons] at h
    rw [List.map_cons, List.nodup_cons]
    refine ⟨fun hm => ?_, ih h.2⟩
    obtain ⟨b, hb, e⟩ := List.mem_map.mp hm
    exact h.1 (hf _ _ e ▸ hb)
theorem nodup_lt {l : List Int} (h : l.Pairwise (· < ·)) : l.Nodup := h.imp fun {a b} q => Int.ne_of_lt q
theorem nodup_take {α : Type} {l : List α} (n : Nat) (h : l.Nodup) : (l.take n).Nodup := h.sublist (List.take_sublist n l)
end Lw
/-! plain mathematics: drawings as relations; no program in sight -/
namespace Lm
/-- places in order, each once, below n: at most n of them -/
theorem nodup_le {n : Nat} : ∀ {l : List Nat}, l.Nodup → (∀ x ∈ l, x < n) → l.length ≤ n := by
  induction n with
  | zero =>
    intro l _ h
    match l, h with
    | [], _ => exact Nat.le_refl _
    | x :: _, h => exact absurd (h x List.mem_cons_self) (Nat.not_lt_zero _)
  | succ n ih =>
    intro l hn h
    have h1 : (l.erase n).length ≤ n := ih (hn.erase n) fun x hx => by
      have h2 := (List.Nodup.mem_erase_iff hn).mp hx
      have := h x h2.2
      have h3 := h2.1
      omega
    have h2 : l.length ≤ (l.erase n).length + 1 := by
      by_cases hm : n ∈ l
      · rw [List.length_erase_of_mem hm]; omega
      · rw [List.erase_of_not_mem hm]; omega
    omega
theorem nodup_all {n : Nat} {l : List Nat} (hn : l.Nodup) (h : ∀ x ∈ l, x < n) (hl : l.length = n) : ∀ x, x < n → x ∈ l := fun x hx => by
  by_cases hm : x ∈ l
  · exact hm
  · have h1 : (x :: l).length ≤ n := nodup_le (List.nodup_cons.mpr ⟨hm, hn⟩) fun y hy => by
      rcases List.mem_cons.mp hy with e | e
      · rw [e]; exact hx
      · exact h y e
    rw [List.length_cons] at h1
    omega
/-- a walk of n + 1 places below n meets one twice -/
theorem twice {n : Nat} (f : Nat → Nat) (h : ∀ i, i ≤ n → f i < n) : ∃ i j, i < j ∧ j ≤ n ∧ f i = f j := by
  refine Classical.byContradiction fun hc => ?_
  have nd : ((List.range (n + 1)).map f).Nodup := by
    rw [List.Nodup, List.pairwise_map]
    refine List.Pairwise.imp_of_mem (fun {a b} ha hb hab => ?_) List.pairwise_lt_range
    exact fun e => hc ⟨a, b, hab, by have := List.mem_range.mp hb; omega, e⟩
  have h1 := nodup_le nd fun x hx => by
    obtain ⟨i, hi, rfl⟩ := List.mem_map.mp hx
    exact h i (by have := List.mem_range.mp hi; omega)
  rw [List.length_map, List.length_range] at h1
  omega
/-! ### paths -/
variable (E : Nat → Nat → Prop)
/-- by one step or more -/
inductive Tc : Nat → Nat → Prop
  | one {a b : Nat} : E a b → Tc a b
  | more {a b c : Nat} : Tc a b → E b c → Tc a c
/-- by any number of steps -/
def Rc (a b : Nat) : Prop := a = b ∨ Tc E a b
variable {E}
theorem Tc.trans {a b c : Nat} (h : Tc E a b) (h2 : Tc E b c) : Tc E a c := by
  induction h2 with
  | one e => exact .more h e
  | more _ e ih => exact .more ih e
theorem Tc.front {a b c : Nat} (e : E a b) (h : Tc E b c) : Tc E a c := Tc.trans (.one e) h
theorem Rc.step {a b c : Nat} (h : Rc E a b) (e : E b c) : Rc E a c := by
  rcases h with rfl | h
  · exact .inr (.one e)
  · exact .inr (.more h e)
/-- what is closed and holds the start holds all that is reached -/
theorem Rc.closed {P : Nat → Prop} {a b : Nat} (h : Rc E a b) (ha : P a) (hc : ∀ x y, P x → E x y → P y) : P b := by
  rcases h with rfl | h
  · exact ha
  · induction h with
    | one e => exact hc _ _ ha e
    | more _ e ih => exact hc _ _ ih e
/-- a measure that falls along each step: no ring -/
theorem no_ring {μ : Nat → Nat} (h : ∀ a b, E a b → μ b < μ a) {a b : Nat} (t : Tc E a b) : μ b < μ a := by
  induction t with
  | one e => exact h _ _ e
  | more _ e ih => exact Nat.lt_trans (h _ _ e) ih
/-- where each place of U leads on into U there is a ring -/
theorem ring_of {n : Nat} {U : Nat → Prop} (hb : ∀ a, U a → a < n) (hs : ∀ a, U a → ∃ b, U b ∧ E a b) {a : Nat} (ha : U a) : ∃ k, U k ∧ Tc E k k := by
  have ch1 : ∀ x, ∃ y, U x → U y ∧ E x y := fun x => by
    by_cases h : U x
    · obtain ⟨y, hy⟩ := hs x h
      exact ⟨y, fun _ => hy⟩
    · exact ⟨0, fun q => absurd q h⟩
  have ch : ∃ g : Nat → Nat, ∀ x, U x → U (g x) ∧ E x (g x) := ⟨fun x => Classical.choose (ch1 x), fun x => Classical.choose_spec (ch1 x)⟩
  obtain ⟨g, hg⟩ := ch
  have hf : ∀ i, U (Nat.rec (motive := fun _ => Nat) a (fun _ x => g x) i) := by
    intro i
    induction i with
    | zero => exact ha
    | succ i ih => exact (hg _ ih).1
  generalize hF : (fun i => (Nat.rec (motive := fun _ => Nat) a (fun _ x => g x) i : Nat)) = F at *
  have hF0 : ∀ i, U (F i) := fun i => by rw [← hF]; exact hf i
  have hF1 : ∀ i, E (F i) (F (i + 1)) := fun i => by
    have := (hg (F i) (hF0 i)).2
    rw [← hF] at this ⊢
    exact this
  obtain ⟨i, j, hij, _, e⟩ := twice (n := n) F fun i _ => hb _ (hF0 i)
  have path : ∀ d, Tc E (F i) (F (i + d + 1)) := fun d => by
    induction d with
    | zero => exact .one (hF1 i)
    | succ d ih => exact .more ih (hF1 (i + d + 1))
  have h2 := path (j - i - 1)
  rw [show i + (j - i - 1) + 1 = j by omega, ← e] at h2
  exact ⟨F i, hF0 i, h2⟩
/-! ### the closure, place by place -/
/-- a path whose inner places are below k -/
inductive Via (E : Nat → Nat → Prop) (k : Nat) : Nat → Nat → Prop
  | one {a b : Nat} : E a b → Via E k a b
  | more {a b c : Nat} : Via E k a b → b < k → E b c → Via E k a c
theorem Via.tc {k a b : Nat} (h : Via E k a b) : Tc E a b := by
  induction h with
  | one e => exact .one e
  | more _ _ e ih => exact .more ih e
theorem Via.mono {k l a b : Nat} (h : Via E k a b) (hl : k ≤ l) : Via E l a b := by
  induction h with
  | one e => exact .one e
  | more _ h e ih => exact .more ih (Nat.lt_of_lt_of_le h hl) e
theorem Via.of {n a b : Nat} (hn : ∀ a b, E a b → b < n) (h : Tc E a b) : Via E n a b := by
  induction h with
  | one e => exact .one e
  | @more b c h e ih =>
    refine .more ih ?_ e
    cases h with
    | one e' => exact hn _ _ e'
    | more _ e' => exact hn _ _ e'
theorem Via.app {k a b c : Nat} (h : Via E k a b) (hb : b < k) (h2 : Via E k b c) : Via E k a c := by
  induction h2 with
  | one e => exact .more h hb e
  | more _ hk e ih => exact .more ih hk e
/-- a path by places below k + 1 is one below k, or goes by k -/
theorem Via.split {k a c : Nat} (h : Via E (k + 1) a c) : Via E k a c ∨ (Via E k a k ∧ Via E k k c) := by
  induction h with
  | one e => exact .inl (.one e)
  | @more b c h hb e ih =>
    by_cases hk : b = k
    · subst hk
      refine .inr ⟨?_, .one e⟩
      rcases ih with q | q
      · exact q
      · exact q.1
    · rcases ih with q | q
      · exact .inl (.more q (by omega) e)
      · exact .inr ⟨q.1, .more q.2 (by omega) e⟩
theorem Via.join {k a c : Nat} (h : Via E k a k) (h2 : Via E k k c) : Via E (k + 1) a c := (h.mono (Nat.le_succ k)).app (Nat.lt_succ_self k) (h2.mono (Nat.le_succ k))
end Lm
namespace Lm
/-! ### rows of places -/
/-- place b stands in the row of place a -/
def Ed (rs : List (List Int)) (a b : Nat) : Prop := ∃ r, rs[a]? = some r ∧ (b : Int) ∈ r
/-- every place in a row is one of the rows' own -/
def In (rs : List (List Int)) : Prop := ∀ r ∈ rs, ∀ e ∈ r, 0 ≤ e ∧ e < (rs.length : Int)
theorem In.lt {rs : List (List Int)} (h : In rs) {a b : Nat} (e : Ed rs a b) : b < rs.length := by
  obtain ⟨r, hr, hb⟩ := e
  have := (h r (List.mem_of_getElem? hr) _ hb).2
  omega
theorem In.gt {rs : List (List Int)} {a b : Nat} (e : Ed rs a b) : a < rs.length := by
  obtain ⟨r, hr, _⟩ := e
  exact (List.getElem?_eq_some_iff.mp hr).1
/-! ### all that is reached -/
structure Ds (rs : List (List Int)) (p : Nat) (bs : List Bool) (ws : List Int) (X : Nat → Prop) : Prop where
  len : bs.length = rs.length
  start : bs[p]? = some true
  reach : ∀ i : Nat, bs[i]? = some true → Rc (Ed rs) p i
  wait : ∀ w ∈ ws, 0 ≤ w ∧ w < (rs.length : Int) ∧ bs[w.toNat]? = some true
  closed : ∀ i : Nat, bs[i]? = some true → (i : Int) ∈ ws ∨ X i ∨ ∀ c, Ed rs i c → bs[c]? = some true
section
variable {rs : List (List Int)} {p : Nat} {bs : List Bool} {ws : List Int} {X : Nat → Prop}
theorem Ds.init {n : Nat} (hn : rs.length = n) (hp : p < n) : Ds rs p ((List.replicate n false).set p true) [(p : Int)] (fun _ => False) := by
  refine ⟨by rw [List.length_set, List.length_replicate, hn], ?_, fun i hi => ?_, fun w hw => ?_, fun i hi => ?_⟩
  · rw [List.getElem?_set_self (by rw [List.length_replicate]; exact hp)]
  · by_cases e : p = i
    · exact .inl e
    · rw [List.getElem?_set_ne e, List.getElem?_replicate] at hi
      split at hi <;> cases hi
  · rw [List.mem_singleton.mp hw]
    refine ⟨by omega, by omega, ?_⟩
    rw [Int.toNat_natCast, List.getElem?_set_self (by rw [List.length_replicate]; exact hp)]
  · by_cases e : p = i
    · exact .inl (by rw [e]; exact List.mem_singleton.mpr rfl)
    · rw [List.getElem?_set_ne e, List.getElem?_replicate] at hi
      split at hi <;> cases hi
theorem Ds.pop {w : Int} (d : Ds rs p bs ws (fun _ => False)) (hw : ws[ws.length - 1]? = some w) : Ds rs p bs ws.dropLast (fun i => i = w.toNat) := by
  have hne : ws ≠ [] := fun e => by rw [e] at hw; simp at hw
  have e1 : ws = ws.dropLast ++ [w] := by
    have h2 := List.dropLast_concat_getLast hne
    have h3 : ws.getLast hne = w := by
      rw [List.getLast_eq_getElem]
      exact (List.getElem?_eq_some_iff.mp hw).2
    rw [h3] at h2
    exact h2.symm
  refine ⟨d.len, d.start, d.reach, fun x hx => d.wait x ?_, fun i hi => ?_⟩
  · rw [e1]; exact List.mem_append_left _ hx
  · rcases d.closed i hi with q | q | q
    · rw [e1] at q
      rcases List.mem_append.mp q with z | z
      · exact .inl z
      · exact .inr (.inl (by have := List.mem_singleton.mp z; omega))
    · exact q.elim
    · exact .inr (.inr q)
theorem Ds.mark {cur h : Nat} (d : Ds rs p bs ws X) (hc : bs[cur]? = some true) (e : Ed rs cur h) (hi : h < rs.length) : Ds rs p (bs.set h true) (ws ++ [(h : Int)]) X := by
  have hl : h < bs.length := by rw [d.len]; exact hi
  have keep : ∀ i : Nat, bs[i]? = some true → (bs.set h true)[i]? = some true := fun i q => by
    by_cases z : h = i
    · rw [← z, List.getElem?_set_self hl]
    · rw [List.getElem?_set_ne z]; exact q
  refine ⟨by rw [List.length_set]; exact d.len, keep _ d.start, fun i q => ?_, fun w hw => ?_, fun i q => ?_⟩
  · by_cases z : h = i
    · rw [← z]; exact (d.reach cur hc).step e
    · rw [List.getElem?_set_ne z] at q; exact d.reach i q
  · rcases List.mem_append.mp hw with z | z
    · exact ⟨(d.wait w z).1, (d.wait w z).2.1, keep _ (d.wait w z).2.2⟩
    · rw [List.mem_singleton.mp z]
      exact ⟨by omega, by omega, by rw [Int.toNat_natCast, List.getElem?_set_self hl]⟩
  · by_cases z : h = i
    · exact .inl (by rw [← z]; exact List.mem_append_right _ (List.mem_singleton.mpr rfl))
    · rw [List.getElem?_set_ne z] at q
      rcases d.closed i q with y | y | y
      · exact .inl (List.mem_append_left _ y)
      · exact .inr (.inl y)
      · exact .inr (.inr fun c hc => keep c (y c hc))
theorem Ds.done {cur : Nat} (d : Ds rs p bs ws (fun i => i = cur)) (h : ∀ c, Ed rs cur c → bs[c]? = some true) : Ds rs p bs ws (fun _ => False) :=
  ⟨d.len, d.start, d.reach, d.wait, fun i hi => by
    rcases d.closed i hi with q | q | q
    · exact .inl q
    · exact .inr (.inr (by rw [q]; exact h))
    · exact .inr (.inr q)⟩
theorem Ds.final (d : Ds rs p bs [] (fun _ => False)) (i : Nat) : bs[i]? = some true ↔ Rc (Ed rs) p i := by
  refine ⟨d.reach i, fun h => h.closed (P := fun i => bs[i]? = some true) d.start fun x y hx e => ?_⟩
  rcases d.closed x hx with q | q | q
  · exact absurd q List.not_mem_nil
  · exact q.elim
  · exact q y e
theorem count_set {bs : List Bool} {h : Nat} (e : bs[h]? = some false) : (bs.set h true).count false + 1 = bs.count false := by
  induction bs generalizing h with
  | nil => simp at e
  | cons b r ih =>
    cases h with
    | zero =>
      have : b = false := Option.some.inj e
      subst this
      simp
    | succ h =>
      have h2 := ih (h := h) e
      rw [List.set_cons_succ, List.count_cons, List.count_cons]
      omega
end
/-! ### settled places -/
/-- how many of a row's places are not among those -/
def miss (S : List Int) (r : List Int) : Nat := r.countP fun h => decide (h ∉ S)
theorem miss_zero {S r : List Int} : miss S r = 0 ↔ ∀ h ∈ r, h ∈ S := by
  unfold miss
  rw [List.countP_eq_zero]
  constructor
  · intro q h hr
    have := q h hr
    simpa using this
  · intro q h hr
    have := q h hr
    simpa using this
theorem miss_push {S r : List Int} {l : Int} (hl : l ∉ S) : miss S r = miss (S ++ [l]) r + r.count l := by
  unfold miss
  induction r with
  | nil => rfl
  | cons a r ih =>
    rw [List.countP_cons, List.countP_cons, List.count_cons, ih]
    by_cases e : a = l
    · subst e
      simp [hl]; omega
    · by_cases h : a ∈ S
      · simp [h, e]
      · simp [h, e]; omega
theorem miss_nil {r : List Int} : miss [] r = r.length := by
  unfold miss
  rw [List.countP_eq_length.mpr]
  intro a _
  simp
end Lm

namespace Lm
theorem nodup_miss {n : Nat} : ∀ {l : List Nat}, l.Nodup → (∀ x ∈ l, x < n) → l.length < n → ∃ x, x < n ∧ x ∉ l := by
  induction n with
  | zero => intro l _ _ h; exact absurd h (Nat.not_lt_zero _)
  | succ n ih =>
    intro l hn h hl
    by_cases hm : n ∈ l
    · have e := List.length_erase_of_mem hm
      have hp := List.length_pos_of_mem hm
      obtain ⟨x, hx, hx2⟩ := ih (hn.erase n) (fun x hx => by
        have h2 := (List.Nodup.mem_erase_iff hn).mp hx
        have := h x h2.2
        have h3 := h2.1
        omega) (by omega)
      exact ⟨x, by omega, fun q => hx2 ((List.Nodup.mem_erase_iff hn).mpr ⟨by omega, q⟩)⟩
    · exact ⟨n, Nat.lt_succ_self n, hm⟩
theorem nat_list {ss : List Int} {n : Nat} (hn : ss.Nodup) (h : ∀ s ∈ ss, 0 ≤ s ∧ s < (n : Int)) : (ss.map Int.toNat).Nodup ∧ ∀ x ∈ ss.map Int.toNat, x < n := by
  constructor
  · rw [List.Nodup, List.pairwise_map]
    refine List.Pairwise.imp_of_mem (fun {a b} ha hb hab e => ?_) hn
    have := h a ha
    have := h b hb
    exact hab (by omega)
  · intro x hx
    obtain ⟨s, hs, rfl⟩ := List.mem_map.mp hx
    have := h s hs
    omega
theorem at_inj {α : Type} {l : List α} (hn : l.Nodup) {i j : Nat} {x : α} (hi : l[i]? = some x) (hj : l[j]? = some x) : i = j := by
  obtain ⟨h1, e1⟩ := List.getElem?_eq_some_iff.mp hi
  obtain ⟨h2, e2⟩ := List.getElem?_eq_some_iff.mp hj
  exact (List.getElem_inj hn).mp (e1.trans e2.symm)
/-- who holds whom -/
def Hd (rs hs : List (List Int)) : Prop := hs.length = rs.length ∧ (∀ l ∈ hs, ∀ e ∈ l, 0 ≤ e ∧ e < (rs.length : Int)) ∧
  ∀ (l p : Nat) hl r, hs[l]? = some hl → rs[p]? = some r → hl.count (p : Int) = r.count (l : Int)
structure Kn (rs : List (List Int)) (ms ss : List Int) (q : Nat) : Prop where
  nd : ss.Nodup
  rng : ∀ s ∈ ss, 0 ≤ s ∧ s < (rs.length : Int)
  le : q ≤ ss.length
  len : ms.length = rs.length
  val : ∀ (p : Nat) r, rs[p]? = some r → ms[p]? = some ((miss (ss.take q) r : Nat) : Int)
  zero : ∀ (p : Nat) r, rs[p]? = some r → ((p : Int) ∈ ss ↔ miss (ss.take q) r = 0)
  ord : ∀ (i : Nat) s r, ss[i]? = some s → rs[s.toNat]? = some r → ∀ h ∈ r, ∃ j, j < i ∧ ss[j]? = some h
/-- within a turn: l is the settled place at q, done are those of its holders -/
structure Km (rs : List (List Int)) (ms ss : List Int) (q : Nat) (l : Int) (done : List Int) : Prop where
  nd : ss.Nodup
  rng : ∀ s ∈ ss, 0 ≤ s ∧ s < (rs.length : Int)
  cur : ss[q]? = some l
  len : ms.length = rs.length
  val : ∀ (p : Nat) r, rs[p]? = some r → ∃ v : Nat, ms[p]? = some (v : Int) ∧ v + done.count (p : Int) = miss (ss.take q) r ∧ ((p : Int) ∈ ss ↔ v = 0)
  ord : ∀ (i : Nat) s r, ss[i]? = some s → rs[s.toNat]? = some r → ∀ h ∈ r, ∃ j, j < i ∧ ss[j]? = some h
section
variable {rs hs : List (List Int)} {ms ss : List Int} {q : Nat} {l : Int}
theorem Kn.lt (k : Kn rs ms ss q) : ss.length ≤ rs.length := by
  obtain ⟨h1, h2⟩ := nat_list k.nd k.rng
  have := nodup_le h1 h2
  rwa [List.length_map] at this
theorem Km.lt {done : List Int} (k : Km rs ms ss q l done) : ss.length ≤ rs.length := by
  obtain ⟨h1, h2⟩ := nat_list k.nd k.rng
  have := nodup_le h1 h2
  rwa [List.length_map] at this
theorem Kn.open (k : Kn rs ms ss q) (h : ss[q]? = some l) : Km rs ms ss q l [] :=
  ⟨k.nd, k.rng, h, k.len, fun p r hr => ⟨_, k.val p r hr, by rw [List.count_nil]; rfl, k.zero p r hr⟩, k.ord⟩
theorem not_before (nd : ss.Nodup) (h : ss[q]? = some l) : l ∉ ss.take q := fun hm => by
  obtain ⟨i, hi⟩ := List.mem_iff_getElem?.mp hm
  have hi2 := (List.getElem?_eq_some_iff.mp hi).1
  rw [List.length_take] at hi2
  rw [List.getElem?_take_of_lt (by omega)] at hi
  have := at_inj nd hi h
  omega
theorem take_succ_of (h : ss[q]? = some l) : ss.take (q + 1) = ss.take q ++ [l] := by rw [List.take_add_one, h]; rfl
theorem Km.count {done rest : List Int} (k : Km rs ms ss q l done) (hd : Hd rs hs) (hl0 : 0 ≤ l) (hl : hs[l.toNat]? = some (done ++ rest)) {p : Nat} {r : List Int} (hr : rs[p]? = some r) :
    miss (ss.take q) r = miss (ss.take (q + 1)) r + done.count (p : Int) + rest.count (p : Int) := by
  have h1 := hd.2.2 _ _ _ _ hl hr
  rw [List.count_append, show ((l.toNat : Nat) : Int) = l by omega] at h1
  rw [take_succ_of k.cur, miss_push (r := r) (not_before k.nd k.cur), ← h1]
  omega
/-- one holder more -/
theorem Km.step {done rest : List Int} {h : Int} (k : Km rs ms ss q l done) (hd : Hd rs hs) (hl0 : 0 ≤ l) (hl : hs[l.toNat]? = some (done ++ h :: rest)) :
    ∃ v : Nat, 0 ≤ h ∧ h < (rs.length : Int) ∧ ms[h.toNat]? = some ((v + 1 : Nat) : Int) ∧
      (v ≠ 0 → Km rs (ms.set h.toNat (v : Int)) ss q l (done ++ [h])) ∧ (v = 0 → Km rs (ms.set h.toNat 0) (ss ++ [h]) q l (done ++ [h])) := by
  have hrg := hd.2.1 _ (List.mem_of_getElem? hl) h (List.mem_append_right _ List.mem_cons_self)
  have eh : ((h.toNat : Nat) : Int) = h := by omega
  have hlt : h.toNat < rs.length := by omega
  have hr : rs[h.toNat]? = some rs[h.toNat] := List.getElem?_eq_getElem hlt
  obtain ⟨v, hv1, hv2, hv3⟩ := k.val _ _ hr
  have hc := k.count hd hl0 hl hr
  rw [eh] at hc hv2 hv3
  rw [List.count_cons_self] at hc
  obtain ⟨u, rfl⟩ : ∃ u, v = u + 1 := ⟨v - 1, by omega⟩
  have hns : h ∉ ss := fun hm => by have := hv3.mp hm; omega
  have hq : q < ss.length := (List.getElem?_eq_some_iff.mp k.cur).1
  have cnt : ∀ p : Nat, p ≠ h.toNat → (done ++ [h]).count (p : Int) = done.count (p : Int) := fun p hp => by
    rw [List.count_append, List.count_singleton]
    have : ¬ h = (p : Int) := by omega
    simp [this]
  have cnt2 : (done ++ [h]).count h = done.count h + 1 := by rw [List.count_append, List.count_singleton_self]
  have hml : h.toNat < ms.length := by rw [k.len]; exact hlt
  refine ⟨u, hrg.1, hrg.2, hv1, fun hu => ?_, fun hu => ?_⟩
  · refine ⟨k.nd, k.rng, k.cur, by rw [List.length_set]; exact k.len, fun p r hp => ?_, k.ord⟩
    by_cases e : p = h.toNat
    · subst e
      rw [hp] at hr
      cases hr
      rw [eh]
      refine ⟨u, List.getElem?_set_self hml, by rw [cnt2]; omega, fun hm => absurd hm hns, fun z => absurd z hu⟩
    · rw [List.getElem?_set_ne (Ne.symm e), cnt p e]
      exact k.val p r hp
  · subst hu
    have et : (ss ++ [h]).take q = ss.take q := List.take_append_of_le_length (Nat.le_of_lt hq)
    refine ⟨?_, fun s hs => ?_, by rw [List.getElem?_append_left hq]; exact k.cur, by rw [List.length_set]; exact k.len, fun p r hp => ?_, fun i s r hi hs x hx => ?_⟩
    · rw [List.nodup_append]
      exact ⟨k.nd, by simp, fun a ha b hb e => hns (by rw [← List.mem_singleton.mp hb, ← e]; exact ha)⟩
    · rcases List.mem_append.mp hs with z | z
      · exact k.rng s z
      · rw [List.mem_singleton.mp z]; exact hrg
    · rw [et]
      by_cases e : p = h.toNat
      · subst e
        rw [hp] at hr
        cases hr
        rw [eh]
        exact ⟨0, List.getElem?_set_self hml, by rw [cnt2]; omega, fun _ => rfl, fun _ => List.mem_append_right _ (List.mem_singleton.mpr rfl)⟩
      · rw [List.getElem?_set_ne (Ne.symm e), cnt p e]
        obtain ⟨v, a1, a2, a3⟩ := k.val p r hp
        refine ⟨v, a1, a2, ?_⟩
        rw [← a3]
        constructor
        · intro hm
          rcases List.mem_append.mp hm with z | z
          · exact z
          · have := List.mem_singleton.mp z
            omega
        · exact fun hm => List.mem_append_left _ hm
    · by_cases hil : i < ss.length
      · rw [List.getElem?_append_left hil] at hi
        obtain ⟨j, hj, hj2⟩ := k.ord i s r hi hs x hx
        exact ⟨j, hj, by rw [List.getElem?_append_left (by omega)]; exact hj2⟩
      · have h3 := (List.getElem?_eq_some_iff.mp hi).1
        rw [List.length_append, List.length_singleton] at h3
        have ei : i = ss.length := by omega
        rw [ei, List.getElem?_append_right (Nat.le_refl _), Nat.sub_self] at hi
        have es : h = s := Option.some.inj hi
        rw [← es, hr] at hs
        have er := Option.some.inj hs
        have hz : miss (ss.take (q + 1)) rs[h.toNat] = 0 := by omega
        have hm := miss_zero.mp hz x (by rw [er]; exact hx)
        obtain ⟨j, hj⟩ := List.mem_iff_getElem?.mp hm
        have hj2 := (List.getElem?_eq_some_iff.mp hj).1
        rw [List.length_take] at hj2
        rw [List.getElem?_take_of_lt (by omega)] at hj
        exact ⟨j, by omega, by rw [List.getElem?_append_left (by omega)]; exact hj⟩
/-- the turn's end -/
theorem Km.close {done : List Int} (k : Km rs ms ss q l done) (hd : Hd rs hs) (hl0 : 0 ≤ l) (hl : hs[l.toNat]? = some done) : Kn rs ms ss (q + 1) := by
  have hq : q < ss.length := (List.getElem?_eq_some_iff.mp k.cur).1
  refine ⟨k.nd, k.rng, hq, k.len, fun p r hr => ?_, fun p r hr => ?_, k.ord⟩
  · obtain ⟨v, a1, a2, a3⟩ := k.val p r hr
    have hc := k.count (rest := []) hd hl0 (by rw [List.append_nil]; exact hl) hr
    rw [List.count_nil] at hc
    rw [a1]
    congr 2
    omega
  · obtain ⟨v, a1, a2, a3⟩ := k.val p r hr
    have hc := k.count (rest := []) hd hl0 (by rw [List.append_nil]; exact hl) hr
    rw [List.count_nil] at hc
    rw [a3]
    omega
theorem Kn.final (k : Kn rs ms ss q) (hq : ss.length ≤ q) (hin : In rs) : ss.length = rs.length ↔ ∀ x, ¬ Tc (Ed rs) x x := by
  have et : ss.take q = ss := List.take_of_length_le hq
  constructor
  · intro hl x t
    have path : ∀ {a b : Nat}, Tc (Ed rs) a b → ∀ i : Nat, ss[i]? = some (a : Int) → ∃ j, j < i ∧ ss[j]? = some (b : Int) := by
      intro a b t
      induction t with
      | one e =>
        intro i hi
        obtain ⟨r, hr, hb⟩ := e
        exact k.ord i _ r hi (by rw [Int.toNat_natCast]; exact hr) _ hb
      | more _ e ih =>
        intro i hi
        obtain ⟨j, hj, hj2⟩ := ih i hi
        obtain ⟨r, hr, hb⟩ := e
        obtain ⟨m, hm, hm2⟩ := k.ord j _ r hj2 (by rw [Int.toNat_natCast]; exact hr) _ hb
        exact ⟨m, Nat.lt_trans hm hj, hm2⟩
    have hx : x < rs.length := by
      cases t with
      | one e => exact In.gt e
      | more t e => exact hin.lt e
    obtain ⟨h1, h2⟩ := nat_list k.nd k.rng
    have hm := nodup_all h1 h2 (by rw [List.length_map]; exact hl) x hx
    obtain ⟨s, hs, es⟩ := List.mem_map.mp hm
    have hr := k.rng s hs
    have e2 : s = (x : Int) := by omega
    rw [e2] at hs
    obtain ⟨i, hi⟩ := List.mem_iff_getElem?.mp hs
    obtain ⟨j, hj, hj2⟩ := path t i hi
    have := at_inj k.nd hi hj2
    omega
  · intro hno
    refine Classical.byContradiction fun hl => ?_
    have hlt : ss.length < rs.length := Nat.lt_of_le_of_ne k.lt hl
    obtain ⟨h1, h2⟩ := nat_list k.nd k.rng
    obtain ⟨x, hx, hx2⟩ := nodup_miss h1 h2 (by rw [List.length_map]; exact hlt)
    have hU : (x : Int) ∉ ss := fun hm => hx2 (List.mem_map.mpr ⟨_, hm, Int.toNat_natCast x⟩)
    obtain ⟨y, _, hy⟩ := ring_of (E := Ed rs) (n := rs.length) (U := fun v => v < rs.length ∧ (v : Int) ∉ ss) (fun a h => h.1) (fun a ha => by
      have hr : rs[a]? = some rs[a] := List.getElem?_eq_getElem ha.1
      have hz : miss ss rs[a] ≠ 0 := fun z => ha.2 ((k.zero a _ hr).mpr (by rw [et]; exact z))
      obtain ⟨h, hh, hns⟩ : ∃ h, h ∈ rs[a] ∧ h ∉ ss := Classical.byContradiction fun hc => hz (miss_zero.mpr fun h hh => Classical.byContradiction fun q => hc ⟨h, hh, q⟩)
      have hg := hin _ (List.mem_of_getElem? hr) h hh
      have eh : ((h.toNat : Nat) : Int) = h := by omega
      exact ⟨h.toNat, ⟨by omega, by rw [eh]; exact hns⟩, rs[a], hr, by rw [eh]; exact hh⟩) ⟨hx, hU⟩
    exact hno y hy
end
end Lm
namespace Lm
/-! ### bits -/
theorem tb_add {i : Nat} : ∀ {x j : Nat}, x.testBit i = false → (2 ^ i + x).testBit j = (decide (i = j) || x.testBit j) := by
  induction i with
  | zero =>
    intro x j h
    have h0 : x % 2 = 0 := by
      rw [Nat.testBit_zero] at h
      have := of_decide_eq_false h
      omega
    cases j with
    | zero =>
      rw [Nat.testBit_zero]
      have : (2 ^ 0 + x) % 2 = 1 := by show (1 + x) % 2 = 1; omega
      rw [this]
      simp
    | succ j =>
      rw [Nat.testBit_succ, Nat.testBit_succ]
      have : (2 ^ 0 + x) / 2 = x / 2 := by show (1 + x) / 2 = x / 2; omega
      rw [this]
      simp
  | succ i ih =>
    intro x j h
    rw [Nat.testBit_succ] at h
    have e1 : (2 ^ (i + 1) + x) / 2 = 2 ^ i + x / 2 := by
      rw [Nat.pow_succ]; omega
    cases j with
    | zero =>
      rw [Nat.testBit_zero, Nat.testBit_zero]
      have : (2 ^ (i + 1) + x) % 2 = x % 2 := by rw [Nat.pow_succ]; omega
      rw [this]
      simp
    | succ j =>
      rw [Nat.testBit_succ, Nat.testBit_succ, e1, ih h]
      congr 1
      simp
/-- the mask of a row -/
def mask : List Int → Nat
  | [] => 0
  | e :: r => 2 ^ e.toNat + mask r
theorem mask_bit : ∀ {r : List Int}, r.Nodup → (∀ e ∈ r, 0 ≤ e) → ∀ b : Nat, (mask r).testBit b = true ↔ (b : Int) ∈ r
  | [], _, _, b => by simp [mask]
  | e :: r, hn, h0, b => by
    obtain ⟨hn1, hn2⟩ := List.nodup_cons.mp hn
    have h1 := h0 e List.mem_cons_self
    have ih := mask_bit hn2 (fun x hx => h0 x (List.mem_cons_of_mem _ hx))
    have hz : (mask r).testBit e.toNat = false := by
      cases q : (mask r).testBit e.toNat with
      | false => rfl
      | true =>
        have := (ih e.toNat).mp q
        rw [show ((e.toNat : Nat) : Int) = e by omega] at this
        exact absurd this hn1
    show (2 ^ e.toNat + mask r).testBit b = true ↔ _
    rw [tb_add hz, Bool.or_eq_true, decide_eq_true_eq, ih b, List.mem_cons]
    constructor
    · rintro (q | q)
      · exact .inl (by omega)
      · exact .inr q
    · rintro (q | q)
      · exact .inl (by omega)
      · exact .inr q
theorem mask_sum : ∀ r : List Int, ((mask r : Nat) : Int) = (r.map fun e => 1 * (2 : Int) ^ e.toNat).sum
  | [] => rfl
  | e :: r => by
    rw [List.map_cons, List.sum_cons, ← mask_sum r, Int.one_mul]
    show (((2 ^ e.toNat + mask r : Nat)) : Int) = _
    rw [Int.natCast_add, Int.natCast_pow]
    rfl
/-- masks in the stage k, those below a done -/
def Ms (rs : List (List Int)) (k a : Nat) (ms : List Nat) : Prop := ms.length = rs.length ∧
  ∀ (c m : Nat), ms[c]? = some m → ∀ b, m.testBit b = true ↔ (c < a ∧ Via (Ed rs) (k + 1) c b) ∨ (a ≤ c ∧ Via (Ed rs) k c b)
theorem via0 {rs : List (List Int)} {a b : Nat} : Via (Ed rs) 0 a b ↔ Ed rs a b := by
  constructor
  · intro h
    cases h with
    | one e => exact e
    | more _ h _ => exact absurd h (Nat.not_lt_zero _)
  · exact .one
theorem Ms.init {rs : List (List Int)} (hn : ∀ r ∈ rs, r.Nodup) (hin : In rs) : Ms rs 0 0 (rs.map mask) := by
  refine ⟨List.length_map .., fun c m hm b => ?_⟩
  rw [List.getElem?_map] at hm
  cases hr : rs[c]? with
  | none => rw [hr] at hm; cases hm
  | some r =>
    rw [hr] at hm
    rw [← Option.some.inj hm, mask_bit (hn r (List.mem_of_getElem? hr)) (fun e he => (hin r (List.mem_of_getElem? hr) e he).1)]
    constructor
    · exact fun h => .inr ⟨Nat.zero_le _, via0.mpr ⟨r, hr, h⟩⟩
    · rintro (⟨h, _⟩ | ⟨_, h⟩)
      · exact absurd h (Nat.not_lt_zero _)
      · obtain ⟨r', hr', hb⟩ := via0.mp h
        rw [hr] at hr'
        rw [Option.some.inj hr']; exact hb
/-- the mask at k is alike in both stages -/
theorem Ms.own {rs : List (List Int)} {k a : Nat} {ms : List Nat} (h : Ms rs k a ms) {m : Nat} (hm : ms[k]? = some m) (b : Nat) : m.testBit b = true ↔ Via (Ed rs) k k b := by
  rw [h.2 k m hm b]
  constructor
  · rintro (⟨_, q⟩ | ⟨_, q⟩)
    · rcases q.split with z | z
      · exact z
      · exact z.2
    · exact q
  · intro q
    by_cases hk : k < a
    · exact .inl ⟨hk, q.mono (Nat.le_succ k)⟩
    · exact .inr ⟨by omega, q⟩
theorem Ms.next {rs : List (List Int)} {k a : Nat} {ms : List Nat} (h : Ms rs k a ms) {x : Nat} (hx : ∀ b, x.testBit b = true ↔ Via (Ed rs) (k + 1) a b) (ha : a < rs.length) : Ms rs k (a + 1) (ms.set a x) := by
  refine ⟨by rw [List.length_set]; exact h.1, fun c m hm b => ?_⟩
  by_cases e : a = c
  · subst e
    rw [List.getElem?_set_self (by rw [h.1]; exact ha)] at hm
    rw [← Option.some.inj hm, hx b]
    constructor
    · exact fun q => .inl ⟨Nat.lt_succ_self _, q⟩
    · rintro (⟨_, q⟩ | ⟨q, _⟩)
      · exact q
      · omega
  · rw [List.getElem?_set_ne e] at hm
    rw [h.2 c m hm b]
    constructor
    · rintro (⟨q, v⟩ | ⟨q, v⟩)
      · exact .inl ⟨by omega, v⟩
      · exact .inr ⟨by omega, v⟩
    · rintro (⟨q, v⟩ | ⟨q, v⟩)
      · exact .inl ⟨by omega, v⟩
      · exact .inr ⟨by omega, v⟩
theorem Ms.yes {rs : List (List Int)} {k a : Nat} {ms : List Nat} (h : Ms rs k a ms) {x y : Nat} (hx : ms[a]? = some x) (hy : ms[k]? = some y) (t : x.testBit k = true) : Ms rs k (a + 1) (ms.set a (x ||| y)) := by
  have ha : a < rs.length := by rw [← h.1]; exact (List.getElem?_eq_some_iff.mp hx).1
  have hx2 : ∀ b, x.testBit b = true ↔ Via (Ed rs) k a b := fun b => by
    rw [h.2 a x hx b]
    constructor
    · rintro (⟨q, _⟩ | ⟨_, q⟩)
      · omega
      · exact q
    · exact fun q => .inr ⟨Nat.le_refl _, q⟩
  have hak := (hx2 k).mp t
  refine h.next (fun b => ?_) ha
  rw [Nat.testBit_or, Bool.or_eq_true, hx2 b, h.own hy b]
  constructor
  · rintro (q | q)
    · exact q.mono (Nat.le_succ k)
    · exact hak.join q
  · intro q
    rcases q.split with z | z
    · exact .inl z
    · exact .inr z.2
theorem Ms.no {rs : List (List Int)} {k a : Nat} {ms : List Nat} (h : Ms rs k a ms) {x : Nat} (hx : ms[a]? = some x) (t : x.testBit k = false) : Ms rs k (a + 1) ms := by
  have ha : a < rs.length := by rw [← h.1]; exact (List.getElem?_eq_some_iff.mp hx).1
  have hx2 : ∀ b, x.testBit b = true ↔ Via (Ed rs) k a b := fun b => by
    rw [h.2 a x hx b]
    constructor
    · rintro (⟨q, _⟩ | ⟨_, q⟩)
      · omega
      · exact q
    · exact fun q => .inr ⟨Nat.le_refl _, q⟩
  have h2 := h.next (x := x) (fun b => by
    rw [hx2 b]
    constructor
    · exact fun q => q.mono (Nat.le_succ k)
    · intro q
      rcases q.split with z | z
      · exact z
      · have := (hx2 k).mpr z.1
        rw [t] at this
        cases this) ha
  have e : ms.set a x = ms := by
    obtain ⟨hl, e⟩ := List.getElem?_eq_some_iff.mp hx
    rw [← e, List.set_getElem_self]
  rw [e] at h2
  exact h2
theorem Ms.turn {rs : List (List Int)} {k : Nat} {ms : List Nat} (h : Ms rs k rs.length ms) : Ms rs (k + 1) 0 ms := by
  refine ⟨h.1, fun c m hm b => ?_⟩
  have hc : c < rs.length := by rw [← h.1]; exact (List.getElem?_eq_some_iff.mp hm).1
  rw [h.2 c m hm b]
  constructor
  · rintro (⟨_, q⟩ | ⟨q, _⟩)
    · exact .inr ⟨Nat.zero_le _, q⟩
    · omega
  · rintro (⟨q, _⟩ | ⟨_, q⟩)
    · omega
    · exact .inl ⟨hc, q⟩
theorem Ms.final {rs : List (List Int)} {ms : List Nat} (h : Ms rs rs.length 0 ms) (hin : In rs) {c m : Nat} (hm : ms[c]? = some m) (b : Nat) : m.testBit b = true ↔ Tc (Ed rs) c b := by
  rw [h.2 c m hm b]
  constructor
  · rintro (⟨q, _⟩ | ⟨_, q⟩)
    · omega
    · exact q.tc
  · exact fun q => .inr ⟨Nat.zero_le _, Via.of (fun _ _ e => hin.lt e) q⟩
end Lm
namespace Lm
/-! ### the holders, row by row -/
def Hpt (rs hs : List (List Int)) (i : Nat) (done : List Int) : Prop := hs.length = rs.length ∧ (∀ l ∈ hs, ∀ e ∈ l, 0 ≤ e ∧ e < (rs.length : Int)) ∧
  ∀ (l p : Nat) hl, hs[l]? = some hl → hl.count (p : Int) = if p < i then (rs.getD p []).count (l : Int) else if p = i then done.count (l : Int) else 0
theorem Hpt.init (rs : List (List Int)) : Hpt rs (List.replicate rs.length []) 0 [] := by
  refine ⟨List.length_replicate, fun l hl e he => ?_, fun l p hl h => ?_⟩
  · rw [(List.mem_replicate.mp hl).2] at he; exact nomatch he
  · rw [List.getElem?_replicate] at h
    split at h
    · rw [← Option.some.inj h]; simp
    · cases h
theorem Hpt.step {rs hs : List (List Int)} {i : Nat} {done : List Int} (k : Hpt rs hs i done) (hi : i < rs.length) {h : Int} (h0 : 0 ≤ h) {hl : List Int} (e : hs[h.toNat]? = some hl) : Hpt rs (hs.set h.toNat (hl ++ [(i : Int)])) i (done ++ [h]) := by
  have hlt := (List.getElem?_eq_some_iff.mp e).1
  refine ⟨by rw [List.length_set]; exact k.1, fun l hm x hx => ?_, fun l p hl' hp => ?_⟩
  · rcases List.mem_or_eq_of_mem_set hm with q | q
    · exact k.2.1 l q x hx
    · rw [q] at hx
      rcases List.mem_append.mp hx with z | z
      · exact k.2.1 hl (List.mem_of_getElem? e) x z
      · rw [List.mem_singleton.mp z]; omega
  · rw [List.getElem?_set] at hp
    by_cases q : h.toNat = l
    · rw [if_pos q, if_pos hlt] at hp
      have c := k.2.2 l p hl (by rw [← q]; exact e)
      rw [← Option.some.inj hp, List.count_append, c, List.count_append]
      have el : h = (l : Int) := by omega
      rw [el]
      by_cases a : p < i
      · have t : ¬ i = p := by omega
        have t2 : ¬ (i : Int) = (p : Int) := by omega
        rw [List.count_singleton, if_pos a, if_pos a]
        simp [t, t2]
      · by_cases b : p = i
        · subst b; simp
        · have t : ¬ i = p := by omega
          have t2 : ¬ (i : Int) = (p : Int) := by omega
          rw [List.count_singleton, if_neg a, if_neg a, if_neg b, if_neg b]
          simp [t, t2]
    · rw [if_neg q] at hp
      have el : ¬ h = (l : Int) := by omega
      rw [k.2.2 l p hl' hp, List.count_append]
      simp [el]
theorem Hpt.row {rs hs : List (List Int)} {i : Nat} {r : List Int} (k : Hpt rs hs i r) (hr : rs[i]? = some r) : Hpt rs hs (i + 1) [] := by
  refine ⟨k.1, k.2.1, fun l p hl h => ?_⟩
  rw [k.2.2 l p hl h]
  by_cases a : p < i
  · rw [if_pos a, if_pos (by omega)]
  · by_cases b : p = i
    · subst b
      rw [if_neg a, if_pos rfl, if_pos (by omega), List.getD_eq_getElem?_getD, hr]; rfl
    · rw [if_neg a, if_neg b, if_neg (by omega)]; simp
theorem Hpt.final {rs hs : List (List Int)} (k : Hpt rs hs rs.length []) : Hd rs hs := by
  refine ⟨k.1, k.2.1, fun l p hl r h1 h2 => ?_⟩
  have hp := (List.getElem?_eq_some_iff.mp h2).1
  rw [k.2.2 l p hl h1, if_pos hp, List.getD_eq_getElem?_getD, h2]; rfl
/-- the start: the places of empty rows -/
theorem Kn.init {rs : List (List Int)} {ss : List Int} (nd : ss.Nodup) (h : ∀ p : Int, p ∈ ss ↔ 0 ≤ p ∧ rs[p.toNat]? = some []) : Kn rs (rs.map fun r => (r.length : Int)) ss 0 := by
  refine ⟨nd, fun s hs => ?_, Nat.zero_le _, List.length_map .., fun p r hr => ?_, fun p r hr => ?_, fun i s r hi hr x hx => ?_⟩
  · obtain ⟨h0, h1⟩ := (h s).mp hs
    have := (List.getElem?_eq_some_iff.mp h1).1
    omega
  · rw [List.getElem?_map, hr, List.take_zero, miss_nil]; rfl
  · rw [List.take_zero, miss_nil, h, Int.toNat_natCast, hr]
    constructor
    · rintro ⟨_, e⟩; rw [Option.some.inj e]; rfl
    · intro e
      exact ⟨by omega, by rw [List.length_eq_zero_iff.mp e]⟩
  · obtain ⟨_, h1⟩ := (h s).mp (List.mem_of_getElem? hi)
    rw [hr] at h1
    rw [Option.some.inj h1] at hx
    exact nomatch hx
end Lm
/-! set(xs) of a list of ints -/
namespace Lw
open PySem PySem.Spec PyProof.Rows L2
section
variable {P : Program} {w : World} {A : Around} {E : Value → Shared → Prop} {s : Shared}
set_option maxHeartbeats 3200000 in
theorem mk_set_of_list {l : Addr} {its : Array Value} (ns : List Int) {Q : Value → Shared → Prop} (hA : A.handled = none) (hL : s.heap.IsList l its) (hI : IntsAre its.toList ns) (room : ns.length + 1 < scanBound)
    (fin : ∀ (h2 : Heap) (tk c : Nat), SetR w h2 s.heap.objs.size (fun j => decide (j ∈ ns)) c → c ≤ ns.length → (∀ b o, s.heap.get? b = some o → h2.get? b = some o) → Q (.ref s.heap.objs.size) { s with heap := h2, toks := tk }) :
    wpAny (model P w) A (call (.type "set") [.ref l]) Q E s := by
  have len : its.size = ns.length := by rw [← Array.length_toList]; exact IntsAre.length hI
  obtain ⟨c0, t0, mro⟩ := PySem.F.called_set.mro
  have u1 := PySem.F.called_set.made
  have u2 := PySem.F.called_set.sub
  have u3 := PySem.F.called_set.notType
  have u4 := PySem.F.called_set.canCreate
  have u5 := PySem.F.typeCall_set_1 (.ref l)
  refine wpAny_call (codeAny_of_tree ?_)
  show wpAny _ _ (callAny (.type "set") _) _ _ _
  refine wpAny_pure ⟨Code.quiet_builtin _ (by decide +kernel), codeAny_builtin PySem.F.entry_type_call ?_⟩
  rw [Around.under_plain (weight_type_call_type "set" [.ref l] []) rfl]
  repeat (any_goals (first | assumption | wp_step))
  -- the empty set is laid
  generalize hN : ({ cls := .type "set", dict := none, data := .set #[] 0 (.fresh 0 0 (!w.params.followText "set-order")) } : Obj) = N
  refine codeAny_mono (code_set_led1 (.ref l) (E := E) (Q₁ := fun x z => x = .ref s.heap.objs.size ∧ z = { s with heap := s.heap.push N }) ⟨rfl, by rw [hN]⟩) fun r z hr => ?_
  match r, hr with
  | .error e, hr => exact hr
  | .ok .next, hr => exact hr.elim
  | .ok .brk, hr => exact hr.elim
  | .ok .cont, hr => exact hr.elim
  | .ok (.ret x), hr =>
    obtain ⟨rfl, rfl⟩ := hr
    have at0 : (s.heap.push N).get? s.heap.objs.size = some N := Heap.get?_push_size _ (by rw [← hN]; rfl)
    have isSet : Shared.TypeIs { s with heap := s.heap.push N } (.ref s.heap.objs.size) "set" := ⟨_, at0, by rw [← hN]⟩
    have v1 := PySem.F.called_set.init.lookup
    have v2 := PySem.F.called_set.init.bind (.ref s.heap.objs.size)
    repeat (any_goals (first | assumption | wp_step))
    refine codeAny_mono (codeAny_call_builtin (R := wants (fun r z => r = .none ∧ ∃ h2 tk c, z = { s with heap := h2, toks := tk } ∧ SetR w h2 s.heap.objs.size (fun j => decide (j ∈ ns)) c ∧ c ≤ ns.length ∧ ∀ b o, s.heap.get? b = some o → h2.get? b = some o) E)
      PySem.F.called_set.init.plain PySem.F.entry_set_init (check_set_init_1 isSet ?_)) fun r z hr => ?_
    · -- the items are laid in, one by one
      subst hN
      obtain ⟨⟨ocl, odi, oda, osl⟩, at1, e1, n1, e2⟩ := id hL
      simp only at e1 e2
      subst e1; subst e2
      have at2 : (s.heap.push { cls := .type "set", dict := none, data := .set #[] 0 (.fresh 0 0 (!w.params.followText "set-order")) }).get? l = some { cls := .type "list", dict := odi, data := .seq its n1, slots := osl } := Heap.get?_push_of_some _ at1
      have x1 := PySem.F.sub_list_set
      have x2 := PySem.F.sub_list_frozenset
      have x3 : (Value.type "list" == Value.type "dict") = false := by decide
      have lst1 : (s.heap.push { cls := .type "set", dict := none, data := .set #[] 0 (.fresh 0 0 (!w.params.followText "set-order")) }).IsList l its := ⟨_, at2, rfl, n1, rfl⟩
      unfold Builtin.«set.__init__» noKeywords Builtin.Frozenset.updateFrom
      generalize hp : pyIter = pit
      wp_walk
      subst hp
      refine wpAny_pyIter_list lst1 ?_
      refine wpAny_bind (wpAny_runValue ?_)
      have below : l < s.heap.objs.size := Heap.lt_size at1
      have size1 : ∀ o, (s.heap.push o).objs.size = s.heap.objs.size + 1 := fun o => Heap.size_push ..
      have nl : ∀ o, l ≠ (s.heap.push o).objs.size := fun o => by rw [size1]; exact Nat.ne_of_lt (Nat.lt_succ_of_lt below)
      have nS : ∀ o, s.heap.objs.size ∉ [(s.heap.push o).objs.size, l] := fun o z => by
        rcases List.mem_cons.mp z with z | z
        · rw [size1] at z; exact absurd z (Nat.ne_of_lt (Nat.lt_succ_self _))
        · exact absurd (List.mem_singleton.mp z) (Nat.ne_of_gt below)
      have vals : ∀ (i : Nat) (v : Value), its[i]? = some v → ∃ k t, ns[i]? = some k ∧ v = .int k t := fun i v hv => by
        have hi : i < ns.length := by rw [← len]; exact (Array.getElem?_eq_some_iff.mp hv).1
        obtain ⟨t, e⟩ := PyProof.Rows.IntsAre.int_at hI i v (by rw [Array.getElem?_toList]; exact hv)
        exact ⟨ns[i], t, List.getElem?_eq_getElem hi, by rw [e, List.getD_eq_getElem?_getD, List.getElem?_eq_getElem hi]; rfl⟩
      refine set_update_ints ((Walks.list (by simp [hA]) _ l (nl _) its).toS) s.heap.objs.size (nS _) ns len room vals (its.size - 0) 0 _ (by omega) (Nat.zero_le _) ⟨⟨_, Heap.get?_push_size _ rfl, rfl, rfl⟩, lst1.push _⟩ ?_ ?_
      · refine ⟨0, Nat.le_refl 0, setR_new_at ?_⟩
        exact Heap.get?_push_of_some _ at0
      · rintro ⟨h3, g3, d3, t3, o3⟩ c mv hc hS
        have q1 : g3 = s.gens := mv.gens
        have q2 : d3 = s.drawn := mv.drawn
        have q3 : o3 = s.os := mv.os
        subst q1 q2 q3
        show wpAny _ _ _ _ _ _
        refine wpAny_pure ?_
        show wpAny _ _ (ret Value.none) _ _ _
        refine wpAny_pure ⟨rfl, h3, t3, c, rfl, hS, by rw [← len]; exact hc, fun b o e => ?_⟩
        have hb := Heap.lt_size e
        refine mv.heap b o (fun z => ?_) (Heap.get?_push_of_some _ (Heap.get?_push_of_some _ e))
        rcases List.mem_cons.mp z with z | z
        · exact absurd z (Nat.ne_of_lt hb)
        · rw [List.mem_singleton.mp z, size1] at hb
          exact absurd hb (Nat.not_lt_of_le (Nat.le_succ _))
    · match r, hr with
      | .error e, hr => exact hr
      | .ok .next, hr => exact hr.elim
      | .ok .brk, hr => exact hr.elim
      | .ok .cont, hr => exact hr.elim
      | .ok (.ret x), hr =>
        obtain ⟨rfl, h3, t3, c, rfl, hS, hc, hk⟩ := hr
        repeat (any_goals (first | assumption | wp_step))
        exact fin _ _ _ hS hc hk
end
/-- set(xs) -/
def rSetOf (w : World) (K : PySem.W.Frag) : List V → Hp → VK → Prop := fun vs H Q => ∃ (a : Addr) (ns : List Int), vs = [V.ref a] ∧ SqL K H a (ns.map V.int) ∧ ns.length ≤ 1000 ∧
  ∀ (c : Nat) (p : Addr), c ≤ ns.length → H p = none → Q (.ref p) (upd H p (SetO w p (fun j => decide (j ∈ ns)) c))
section
variable {X : Cx} {K : PySem.W.Frag} {w : World}
theorem cr_setOf (h : X.K = K) (hw : X.w = w) (hc : X.calm = true) : CallR X (.type "set") (rSetOf w K) := by
  subst h hw
  intro pins s σ H xs us Q I r hq
  obtain ⟨a, ns, rfl, hS, hl, q⟩ := hq
  rw [Vals.ref1 r]
  obtain ⟨its, rv, pl, hz⟩ := I.list hS
  refine mk_set_of_list ns (I.ok.hd hc) pl.isList (by simpa using Vals.ints rv) (by unfold scanBound; omega) fun h2 tk c R hcn keep => ?_
  have hn : H s.heap.objs.size = none := I.hok.fresh (Nat.le_refl _)
  exact ⟨.ref _, upd H s.heap.objs.size (SetO X.w s.heap.objs.size (fun j => decide (j ∈ ns)) c), I.laid (t' := tk) keep (Nat.le_refl _) (setO_new R), rfl, q c _ hcn hn⟩
theorem cr_sortedSetK (hw : X.w = w) (hc : X.calm = true) : CallR X (.builtin "sorted") (rSortedSet w) := by subst hw; exact cr_sortedSet hc
end
end Lw
namespace Lw
open PySem PySem.Spec PyProof.Rows L2
section
variable {K : PySem.W.Frag} {w : World} {H : Hp} {Q : VK}
theorem r_setOf {a : Addr} {ns : List Int} (h : H a = some (.lst (ns.map V.int))) (hl : ns.length ≤ 1000) (q : ∀ (c : Nat) (p : Addr), c ≤ ns.length → H p = none → Q (.ref p) (upd H p (SetO w p (fun j => decide (j ∈ ns)) c))) : rSetOf w K [.ref a] H Q := ⟨a, ns, rfl, SqL.of h, hl, q⟩
theorem r_sortedSet {a : Addr} {S : Int → Bool} {n : Nat} (h : H a = some (SetO w a S n)) (hl : n < 64) (q : ∀ (ns : List Int) (p : Addr), ns.Pairwise (· < ·) → (∀ k : Int, k ∈ ns ↔ S k = true) → ns.length = n → H p = none → Q (.ref p) (upd H p (.lst (ns.map V.int)))) : rSortedSet w [.ref a] H Q := ⟨a, S, n, rfl, h, hl, q⟩
theorem r_index {a : Addr} {ns : List Int} {y : Int} {j : Nat} (h : H a = some (.lst (ns.map V.int))) (h1 : ns[j]? = some y) (h2 : ∀ m, m < j → ns[m]? ≠ some y) (q : Q (.int j) H) : rIndex K (.ref a) [.int y] H Q := by
  refine ⟨a, ns.map V.int, .int y, j, .int y, rfl, rfl, SqL.of h, rfl, ?_, by rw [List.getElem?_map, h1]; rfl, by simp [eqV], fun m z' hm hz => ?_, q⟩
  · rw [List.all_map]; exact List.all_eq_true.mpr fun x _ => rfl
  · rw [List.getElem?_map] at hz
    cases e : ns[m]? with
    | none => rw [e] at hz; cases hz
    | some x =>
      rw [e] at hz
      rw [← Option.some.inj hz]
      have hne : x ≠ y := fun z => h2 m hm (by rw [e, z])
      simp [eqV, hne]
end
theorem first_at {ns : List Int} {y : Int} (h : y ∈ ns) : ∃ j : Nat, ns[j]? = some y ∧ (∀ m, m < j → ns[m]? ≠ some y) ∧ j < ns.length := by
  induction ns with
  | nil => cases h
  | cons a r ih =>
    by_cases e : a = y
    · exact ⟨0, by rw [e]; rfl, fun m hm => absurd hm (Nat.not_lt_zero _), Nat.succ_pos _⟩
    · have h2 : y ∈ r := by
        rcases List.mem_cons.mp h with q | q
        · exact absurd q.symm e
        · exact q
      obtain ⟨j, h3, h4, h5⟩ := ih h2
      refine ⟨j + 1, h3, fun m hm => ?_, Nat.succ_lt_succ h5⟩
      cases m with
      | zero => exact fun q => e (Option.some.inj q)
      | succ m => exact h4 m (Nat.lt_of_succ_lt_succ hm)
end Lw
namespace Lw
theorem perm_ins {α : Type} (r : List α) (n : Nat) (k : α) : (r.take n ++ [k] ++ r.drop n).Perm (r ++ [k]) := by
  rw [List.append_assoc]
  have h := (List.perm_append_comm (l₁ := [k]) (l₂ := r.drop n)).append_left (r.take n)
  have e : r.take n ++ (r.drop n ++ [k]) = r ++ [k] := by rw [← List.append_assoc, List.take_append_drop]
  rw [e] at h
  exact h
end Lw
namespace Lw
open PySem PySem.Spec PyProof.Rows L2
section
variable {K : PySem.W.Frag} {H : Hp} {Q : VK}
theorem r_inI {neg : Bool} {a : Addr} {ns : List Int} {z : Int} (h : H a = some (.lst (ns.map V.int))) (q : Q (.bl (if neg then !decide (z ∈ ns) else decide (z ∈ ns))) H) : rIn K neg (.int z) (.ref a) H Q := by
  have e : inV (.int z) (ns.map V.int) = decide (z ∈ ns) := by
    unfold inV
    rw [List.any_map]
    by_cases h : z ∈ ns
    · rw [decide_eq_true h]; exact List.any_eq_true.mpr ⟨z, h, by simp [eqV]⟩
    · rw [decide_eq_false h]
      refine List.any_eq_false.mpr fun x hx => ?_
      have hne : x ≠ z := fun e => h (e ▸ hx)
      simp [eqV, hne]
  refine ⟨a, ns.map V.int, rfl, .inl (SqL.of h), rfl, ?_, ?_⟩
  · rw [List.all_map]; exact List.all_eq_true.mpr fun x _ => rfl
  · rw [e]; exact q
theorem r_cat {a b : Addr} {xs ys : List V} (h1 : H a = some (.lst xs)) (h2 : H b = some (.lst ys)) (hz : xs.length + ys.length ≤ 100000) (q : ∀ p, H p = none → Q (.ref p) (upd H p (.lst (xs ++ ys)))) : rCat (.ref a) (.ref b) H Q := ⟨a, b, xs, ys, rfl, rfl, h1, h2, Nat.le_of_lt (small hz), q⟩
theorem r_iteB {b : Bool} {A B : Prop} (h1 : b = true → A) (h2 : b = false → B) : if b = true then A else B := by
  cases b
  · rw [if_neg (by decide)]; exact h2 rfl
  · rw [if_pos rfl]; exact h1 rfl
end
end Lw
namespace K34
open PySem PySem.Spec PyProof.Rows L2 Lw

def topS (i : Nat) : Stmt := PySem.Challenge.pw_setnests_k34_plain_and_reachable.main.body.getD i (.Pass ⟨0, 0, 0, 0⟩)
abbrev s_reachable : Stmt := topS 1
theorem sc_reachable : FnScope ["drawing", "place", "reached", "waiting", "current", "held", "row", "at"] ["drawing", "place"] (defScope s_reachable) := ⟨rfl, rfl, rfl, by decide +kernel, rfl, by decide +kernel, by decide +kernel⟩

abbrev s_settled_places : Stmt := topS 2
theorem sc_settled_places : FnScope ["rows", "holders", "missing", "place", "row", "held", "settled", "at", "lower", "holder"] ["rows"] (defScope s_settled_places) := ⟨rfl, rfl, rfl, by decide +kernel, rfl, by decide +kernel, by decide +kernel⟩

abbrev s_is_plain : Stmt := topS 3
theorem sc_is_plain : FnScope ["drawing"] ["drawing"] (defScope s_is_plain) := ⟨rfl, rfl, rfl, by decide +kernel, rfl, by decide +kernel, by decide +kernel⟩

abbrev s__law_start : Stmt := topS 5
theorem sc__law_start : FnScope ["script", "great", "mixed", "cell"] ["script"] (defScope s__law_start) := ⟨rfl, rfl, rfl, by decide +kernel, rfl, by decide +kernel, by decide +kernel⟩

abbrev s__law_draw : Stmt := topS 6
theorem sc__law_draw : FnScope ["state", "many", "rest", "one", "two", "three"] ["state", "many"] (defScope s__law_draw) := ⟨rfl, rfl, rfl, by decide +kernel, rfl, by decide +kernel, by decide +kernel⟩

abbrev s__law_track : Stmt := topS 7
theorem sc__law_track : FnScope ["state", "most", "size", "rows", "at", "row", "place"] ["state", "most"] (defScope s__law_track) := ⟨rfl, rfl, rfl, by decide +kernel, rfl, by decide +kernel, by decide +kernel⟩

abbrev s__law_lower : Stmt := topS 8
theorem sc__law_lower : FnScope ["state", "most", "size", "thin", "at", "k"] ["state", "most"] (defScope s__law_lower) := ⟨rfl, rfl, rfl, by decide +kernel, rfl, by decide +kernel, by decide +kernel⟩

abbrev s__law_wide : Stmt := topS 9
theorem sc__law_wide : FnScope ["state", "size", "rows", "at", "many", "k"] ["state"] (defScope s__law_wide) := ⟨rfl, rfl, rfl, by decide +kernel, rfl, by decide +kernel, by decide +kernel⟩

abbrev s__law_any : Stmt := topS 10
theorem sc__law_any : FnScope ["state", "most", "size", "thin", "at", "k"] ["state", "most"] (defScope s__law_any) := ⟨rfl, rfl, rfl, by decide +kernel, rfl, by decide +kernel, by decide +kernel⟩

abbrev s__law_order : Stmt := topS 11
theorem sc__law_order : FnScope ["state", "size", "order", "k"] ["state", "size"] (defScope s__law_order) := ⟨rfl, rfl, rfl, by decide +kernel, rfl, by decide +kernel, by decide +kernel⟩

abbrev s__law_moved : Stmt := topS 12
theorem sc__law_moved : FnScope ["rows", "order", "moved", "old", "place"] ["rows", "order"] (defScope s__law_moved) := ⟨rfl, rfl, rfl, by decide +kernel, rfl, by decide +kernel, by decide +kernel⟩

abbrev s__law_ringed : Stmt := topS 13
theorem sc__law_ringed : FnScope ["state", "rows", "order", "many", "ringed", "k", "place", "onward", "row", "held"] ["state", "rows"] (defScope s__law_ringed) := ⟨rfl, rfl, rfl, by decide +kernel, rfl, by decide +kernel, by decide +kernel⟩

abbrev s__law_drawing : Stmt := topS 14
theorem sc__law_drawing : FnScope ["state", "way", "rows"] ["state"] (defScope s__law_drawing) := ⟨rfl, rfl, rfl, by decide +kernel, rfl, by decide +kernel, by decide +kernel⟩

abbrev s__law_onward : Stmt := topS 15
theorem sc__law_onward : FnScope ["drawing", "masks", "k", "at", "row", "place"] ["drawing"] (defScope s__law_onward) := ⟨rfl, rfl, rfl, by decide +kernel, rfl, by decide +kernel, by decide +kernel⟩

abbrev s__law_ints : Stmt := topS 16
theorem sc__law_ints : FnScope ["told", "due", "number"] ["told", "due"] (defScope s__law_ints) := ⟨rfl, rfl, rfl, by decide +kernel, rfl, by decide +kernel, by decide +kernel⟩

abbrev s__law_reaches : Stmt := topS 17
theorem sc__law_reaches : FnScope ["handed", "masks", "place", "due", "told", "at"] ["handed", "masks", "place"] (defScope s__law_reaches) := ⟨rfl, rfl, rfl, by decide +kernel, rfl, by decide +kernel, by decide +kernel⟩

abbrev s_law : Stmt := topS 18
theorem sc_law : FnScope ["script", "state", "drawing", "masks", "ringed", "handed", "told", "k", "place", "again", "row"] ["script"] (defScope s_law) := ⟨rfl, rfl, rfl, by decide +kernel, rfl, by decide +kernel, by decide +kernel⟩

structure Blt (mg : Str → Option Value) : Prop where
  m_len : mg "len" = none
  m_abs : mg "abs" = none
  m_int : mg "int" = none
  m_range : mg "range" = none
  m_enumerate : mg "enumerate" = none
  m_sorted : mg "sorted" = none
  m_set : mg "set" = none
  m_list : mg "list" = none
  m_sum : mg "sum" = none
  m_isinstance : mg "isinstance" = none
  m_bool : mg "bool" = none
/-- a def stands at f -/
structure Dn (K : PySem.W.Frag) (mg : Str → Option Value) (x : Str) (st : Stmt) (ps : List Str) (f : Addr) (fd : FuncData) : Prop where
  F : Fun K x x st f fd
  b : Binds K fd ps []
  g : mg x = some (.ref f)
end K34
namespace K34
open PySem PySem.Spec PyProof.Rows L2 Lw


local macro_rules | `(tactic| walk_at "look") => `(tactic| first
  | assumption
  | with_reducible exact upd_same
  | with_reducible exact rg_st
  | with_reducible exact rg_g (by assumption)
  | (with_reducible refine upd_old (by assumption) ?_; walk_at "look")
  | (with_reducible refine rg_get (by assumption) ?_; walk_at "look")
  | (with_reducible refine Same.get (by assumption) ?_; walk_at "look"))
local macro_rules | `(tactic| walk_at "cond") => `(tactic| first
  | (show _ ≠ _; omega) | exact cdivN (by omega) (by omega) | exact cmul_mod (by decide) (by decide) | exact cmulR (by omega) (by omega) | exact cmulL (by omega) (by omega) | exact cpow (by omega) (by omega) (by omega) (by omega) | (show (0:Int) ≤ _; omega))
local macro_rules | `(tactic| walk_at "at") => `(tactic| first | assumption | with_unfolding_all rfl)
local macro_rules | `(tactic| walk_at "sz") => `(tactic| first | assumption | (refine small ?_; omega) | (refine small ?_; simp only [List.length_map, List.length_append, List.length_cons, List.length_nil]; omega))
local macro_rules | `(tactic| walk_at "len") => `(tactic| first | exact size_nil | exact Nat.le_of_lt (small (by simp only [List.length_cons, List.length_nil, List.length_map]; omega)))
local macro_rules | `(tactic| walk_at "newD") => `(tactic| (refine ⟨by walk_at "len", fun p np => ?_⟩; obtain ⟨e, o', hD', n', ne'⟩ := newTD_eq (topRg _ _) (by assumption) (by assumption) np (.lst _); rw [e]; clear e))
local macro_rules | `(tactic| walk_at "new") => `(tactic| (refine ⟨by walk_at "len", fun p np => ?_⟩; obtain ⟨e, o', n'⟩ := newT_eq (topRg _ _) (by assumption) np (.lst _); rw [e]; clear e))
local macro_rules | `(tactic| walk_at "st") => `(tactic| first
  | with_reducible refine r_seq ?_
  | with_reducible refine r_var rfl ?_
  | with_reducible refine r_c ?_
  | with_reducible refine r_asg ?_
  | (with_reducible refine r_name ?_; dsimp only [List.set_cons_zero, List.set_cons_succ])
  | with_reducible refine r_sub ?_
  | with_reducible refine r_op ?_
  | with_reducible refine r_i0 ?_
  | (with_reducible refine' r_i ?k1 ?_; (case k1 => walk_at "cond"))
  | with_reducible refine r_cons ?_
  | with_reducible refine r_nil ?_
  | with_reducible refine r_cb ?_
  | with_reducible refine r_call ?_
  | with_reducible refine r_ifs ?_
  | with_reducible refine r_test ?_
  | with_reducible refine r_tB ?_
  | with_reducible refine r_bl ?_
  | with_reducible refine r_ret ?_
  | with_reducible refine r_drop ?_
  | with_reducible refine r_next ?_
  | (with_reducible refine' r_ixL ?k1 ?k2 ?_; (case k1 => walk_at "look"); (case k2 => walk_at "at"))
  | (with_reducible refine' r_setL ?k1 ?k2 ?_; (case k1 => walk_at "look"); (case k2 => walk_at "at"))
  | with_reducible refine r_aug rfl ?_
  | with_reducible refine r_augS ?_
  | with_reducible refine r_ipI ?_
  | with_reducible refine r_un ?_
  | with_reducible refine r_u ?_
  | with_reducible refine r_eq rfl ?_
  | with_reducible refine r_ne rfl ?_
  | with_reducible refine r_chain ?_
  | with_reducible refine iteF ?_
  | with_reducible refine r_not ?_
  | with_reducible refine r_and ?_
  | with_reducible refine r_or ?_
  | with_reducible refine r_andV ?_
  | with_reducible refine r_orV ?_
  | with_reducible refine r_notV ?_
  | with_reducible refine r_lst ?_
  | with_reducible refine r_bm ?_
  | with_reducible refine r_bm0 ?_
  | (with_reducible refine' And.intro (r_ty ?k1) ?_; (case k1 => walk_at "look"))
  | (with_reducible refine' r_append ?k1 ?k2 ?_; (case k1 => walk_at "look"); (case k2 => walk_at "sz"))
  | (with_reducible refine' r_lenK ?k1 ?_; (case k1 => walk_at "look"))
  | (with_reducible refine' r_listOf ?k1 ?_; (case k1 => walk_at "look"))
  | (with_reducible refine' r_sortedI ?k1 ?_; (case k1 => walk_at "look"))
  | (with_reducible refine' r_sum ?k1 ?_; (case k1 => walk_at "look"))
  | with_reducible refine r_int ?_
  | (with_reducible refine' r_draw (by assumption) ?k1 ?k2 ?_; (case k1 => omega); (case k2 => omega); intro R' n' o' h' h'')
  | with_reducible refine iteT ?_
  | with_reducible refine r_revL ?_
  | with_reducible refine r_lc ?_
  | with_reducible refine r_yes ?_
  | with_reducible refine r_for ?_
  | with_reducible refine r_iList ?_
  | with_reducible refine r_rng1 ?_
  | with_reducible refine r_enum ?_
  | (with_reducible show Ends.nx _ _ _; dsimp only)
  | (with_reducible show Ends.rt _ _ _; dsimp only)
  | (with_reducible show Ends.ct _ _ _; dsimp only)
  | (with_reducible show Ends.bk _ _ _; dsimp only))
local macro_rules | `(tactic| walk_at "go") => `(tactic| repeat (walk_at "st"))
local macro_rules | `(tactic| walk_at "begin") => `(tactic| dsimp only [cxOf, wipe, L2.start, List.map, List.length_cons, List.length_nil, Nat.reduceAdd, Nat.reduceSub, List.replicate, List.cons_append, List.nil_append])

section
variable {P : Program} {w : World} {K : PySem.W.Frag} {mg : Str → Option Value} {base : Heap}
theorem ok_draw {f : Addr} {fd : FuncData} {k : Nat} (B : Blt mg) (D : Dn K mg "_law_draw" s__law_draw ["state", "many"] f fd) : FnOk P w K mg base CX0 (k + 1) f fd ["state", "many"] spDraw := by
  refine D.F.ok sc__law_draw (fun vs H Q E h => ?_) (fun cdv A outer s H vs Q E hr h => ?_)
  · obtain ⟨st, g, R, B, many, rfl, _⟩ := h
    rfl
  · obtain ⟨st, g, R, C, many, rfl, rfl, o, h1, h2, q⟩ := h
    refine ⟨_, (pss_cons (ps_if (pt_cmpR op_lt (pe_ix (ix_listK (K := K) rfl) (pv 0) pe_int (fun _ _ => rfl)) (pe_callB (call_len_seqK (K := K) rfl) (by rfl) B.m_len PySem.boot_len (pa_cons (pe_ix (ix_listK (K := K) rfl) (pv 0) pe_int (fun _ _ => rfl)) pa_nil)) (nomark _)) (pss_cons (ps_set (i := 2) sc__law_draw.nd rfl (.inl rfl) (pe_ix (ix_listK (K := K) rfl) (pe_ix (ix_listK (K := K) rfl) (pv 0) pe_int (fun _ _ => rfl)) (pe_ix (ix_listK (K := K) rfl) (pv 0) pe_int (fun _ _ => rfl)) (fun _ _ => rfl)))
      (pss_cons (ps_asg (pe_op op_fdivN (pv 2) (pv 1)) (pg_sub (pe_ix (ix_listK (K := K) rfl) (pv 0) pe_int (fun _ _ => rfl)) (pe_ix (ix_listK (K := K) rfl) (pv 0) pe_int (fun _ _ => rfl)) set_list))
      (pss_cons (ps_if (pt_cmpR op_eq (pe_op op_fdivN (pv 2) (pv 1)) pe_int (nomark _)) (pss_one (ps_asg (pe_op op_add (pe_ix (ix_listK (K := K) rfl) (pv 0) pe_int (fun _ _ => rfl)) pe_int) (pg_sub (pv 0) pe_int set_list))) pss_nil)
      (pss_one (ps_ret (pe_op op_modN (pe_callTy call_int1 (by rfl) B.m_int (by decide +kernel) (pa_cons (pv 2) pa_nil)) (pv 1))))))) pss_nil)
      (pss_cons (ps_asg (pe_op op_add (pe_ix (ix_listK (K := K) rfl) (pv 0) pe_int (fun _ _ => rfl)) pe_int) (pg_sub (pv 0) pe_int set_list))
      (pss_cons (ps_set (i := 3) sc__law_draw.nd rfl (.inl rfl) (pe_op op_modN (pe_callTy call_int1 (by rfl) B.m_int (by decide +kernel) (pa_cons (pe_op op_add (pe_ix (ix_listK (K := K) rfl) (pv 0) pe_int (fun _ _ => rfl)) (pe_op op_mul (pe_ix (ix_listK (K := K) rfl) (pv 0) pe_int (fun _ _ => rfl)) pe_int)) pa_nil)) pe_int))
      (pss_cons (ps_set (i := 4) sc__law_draw.nd rfl (.inl rfl) (pe_op op_modN (pe_callTy call_int1 (by rfl) B.m_int (by decide +kernel) (pa_cons (pe_op op_add (pe_op op_mul (pv 3) (pv 3)) (pe_op op_mul (pe_ix (ix_listK (K := K) rfl) (pv 0) pe_int (fun _ _ => rfl)) pe_int)) pa_nil)) pe_int))
      (pss_cons (ps_set (i := 5) sc__law_draw.nd rfl (.inl rfl) (pe_op op_modN (pe_callTy call_int1 (by rfl) B.m_int (by decide +kernel) (pa_cons (pe_op op_add (pe_op op_mul (pv 4) (pv 4)) (pv 3)) pa_nil)) pe_int))
      (pss_one (ps_ret (pe_op op_modN (pe_callTy call_int1 (by rfl) B.m_int (by decide +kernel) (pa_cons (pe_op op_fdivN (pv 5) pe_int) pa_nil)) (pv 1))))))))), ?_⟩
    walk_at "begin"
    walk_at "go"
    have fin : ∀ n : Int, 0 ≤ n → 0 ≤ n.fmod many ∧ n.fmod many < many := fun n _ => ⟨Int.fmod_nonneg_of_pos n (by omega), Int.fmod_lt_of_pos n (by omega)⟩
    refine r_ite (fun hlt => ?_) (fun _ => ?_)
    · have hl2 := hlt
      rw [List.length_map] at hl2
      have i0 := o.ok.i0
      have hi : R.i.toNat < R.ns.length := by omega
      obtain ⟨z, hz⟩ : ∃ z, R.ns[R.i.toNat]? = some z := ⟨_, List.getElem?_eq_getElem hi⟩
      have hz0 : 0 ≤ z := o.ok.pos z (List.mem_of_getElem? hz)
      have ha : atI (R.ns.map V.int) R.i = some (.int z) := at_i i0 (by rw [List.getElem?_map, hz]; rfl)
      have hx : ixN (R.ns.map V.int).length R.i = some R.i.toNat := ix_i i0 hlt
      have hd0 : 0 ≤ z.fdiv many := Int.fdiv_nonneg hz0 (by omega)
      walk_at "go"
      rw [setMap, rg_set_g o]
      have ok1 : RS.Ok ⟨R.ns.set R.i.toNat (z.fdiv many), R.i, R.m, R.c⟩ := by
        refine ⟨i0, ?_, fun n hn => ?_, ?_⟩
        · show R.i ≤ ((R.ns.set _ _).length : Int); rw [List.length_set]; exact o.ok.i1
        · rcases List.mem_or_eq_of_mem_set hn with e | e
          · exact o.ok.pos n e
          · rw [e]; exact hd0
        · show (R.ns.set _ _).length ≤ 63; rw [List.length_set]; exact o.ok.len
      have o1 := o.re ok1
      walk_at "go"
      refine r_ite (fun _ => ?_) (fun _ => ?_)
      · walk_at "go"
        rw [show [V.ref g, V.int R.i, V.int R.m, V.int R.c].set (Int.toNat 1) (V.int (R.i + 1)) = [V.ref g, V.int (R.i + 1), V.int R.m, V.int R.c] from rfl, rg_set_st]
        have ok2 : RS.Ok ⟨R.ns.set R.i.toNat (z.fdiv many), R.i + 1, R.m, R.c⟩ := ⟨by show (0:Int) ≤ R.i + 1; omega, by show R.i + 1 ≤ ((R.ns.set _ _).length : Int); rw [List.length_set]; omega, ok1.pos, ok1.len⟩
        walk_at "go"
        exact q _ _ ok2 (fin z hz0).1 (fin z hz0).2
      · walk_at "go"
        exact q _ _ ok1 (fin z hz0).1 (fin z hz0).2
    · walk_at "go"
      rw [show [V.ref g, V.int R.i, V.int R.m, V.int R.c].set (Int.toNat 3) (V.int (R.c + 1)) = [V.ref g, V.int R.i, V.int R.m, V.int (R.c + 1)] from rfl, rg_set_st]
      have ok1 : RS.Ok ⟨R.ns, R.i, R.m, R.c + 1⟩ := ⟨o.ok.i0, o.ok.i1, o.ok.pos, o.ok.len⟩
      have o1 := o.re ok1
      walk_at "go"
      refine q _ _ ok1 (fin _ ?_).1 (fin _ ?_).2
      all_goals exact Int.fdiv_nonneg (Int.fmod_nonneg_of_pos _ (by decide)) (by decide)
end
end K34
namespace K34
open PySem PySem.Spec PyProof.Rows L2 Lw


local macro_rules | `(tactic| walk_at "look") => `(tactic| first
  | assumption
  | with_reducible exact upd_same
  | with_reducible exact rg_st
  | with_reducible exact rg_g (by assumption)
  | (with_reducible refine upd_old (by assumption) ?_; walk_at "look")
  | (with_reducible refine rg_get (by assumption) ?_; walk_at "look")
  | (with_reducible refine Same.get (by assumption) ?_; walk_at "look"))
local macro_rules | `(tactic| walk_at "cond") => `(tactic| first
  | (show _ ≠ _; omega) | exact cdivN (by omega) (by omega) | exact cmul_mod (by decide) (by decide) | exact cmulR (by omega) (by omega) | exact cmulL (by omega) (by omega) | exact cpow (by omega) (by omega) (by omega) (by omega) | (show (0:Int) ≤ _; omega))
local macro_rules | `(tactic| walk_at "at") => `(tactic| first | assumption | with_unfolding_all rfl)
local macro_rules | `(tactic| walk_at "sz") => `(tactic| first | assumption | (refine small ?_; omega) | (refine small ?_; simp only [List.length_map, List.length_append, List.length_cons, List.length_nil]; omega))
local macro_rules | `(tactic| walk_at "len") => `(tactic| first | exact size_nil | exact Nat.le_of_lt (small (by simp only [List.length_cons, List.length_nil, List.length_map]; omega)))
local macro_rules | `(tactic| walk_at "newD") => `(tactic| (refine ⟨by walk_at "len", fun p np => ?_⟩; obtain ⟨e, o', hD', n', ne'⟩ := newTD_eq (topRg _ _) (by assumption) (by assumption) np (.lst _); rw [e]; clear e))
local macro_rules | `(tactic| walk_at "new") => `(tactic| (refine ⟨by walk_at "len", fun p np => ?_⟩; obtain ⟨e, o', n'⟩ := newT_eq (topRg _ _) (by assumption) np (.lst _); rw [e]; clear e))
local macro_rules | `(tactic| walk_at "st") => `(tactic| first
  | with_reducible refine r_seq ?_
  | with_reducible refine r_var rfl ?_
  | with_reducible refine r_c ?_
  | with_reducible refine r_asg ?_
  | (with_reducible refine r_name ?_; dsimp only [List.set_cons_zero, List.set_cons_succ])
  | with_reducible refine r_sub ?_
  | with_reducible refine r_op ?_
  | with_reducible refine r_i0 ?_
  | (with_reducible refine' r_i ?k1 ?_; (case k1 => walk_at "cond"))
  | with_reducible refine r_cons ?_
  | with_reducible refine r_nil ?_
  | with_reducible refine r_cb ?_
  | with_reducible refine r_call ?_
  | with_reducible refine r_ifs ?_
  | with_reducible refine r_test ?_
  | with_reducible refine r_tB ?_
  | with_reducible refine r_bl ?_
  | with_reducible refine r_ret ?_
  | with_reducible refine r_drop ?_
  | with_reducible refine r_next ?_
  | (with_reducible refine' r_ixL ?k1 ?k2 ?_; (case k1 => walk_at "look"); (case k2 => walk_at "at"))
  | (with_reducible refine' r_setL ?k1 ?k2 ?_; (case k1 => walk_at "look"); (case k2 => walk_at "at"))
  | with_reducible refine r_aug rfl ?_
  | with_reducible refine r_augS ?_
  | with_reducible refine r_ipI ?_
  | with_reducible refine r_un ?_
  | with_reducible refine r_u ?_
  | with_reducible refine r_eq rfl ?_
  | with_reducible refine r_ne rfl ?_
  | with_reducible refine r_chain ?_
  | with_reducible refine iteF ?_
  | with_reducible refine r_not ?_
  | with_reducible refine r_and ?_
  | with_reducible refine r_or ?_
  | with_reducible refine r_andV ?_
  | with_reducible refine r_orV ?_
  | with_reducible refine r_notV ?_
  | with_reducible refine r_lst ?_
  | with_reducible refine r_bm ?_
  | with_reducible refine r_bm0 ?_
  | (with_reducible refine' And.intro (r_ty ?k1) ?_; (case k1 => walk_at "look"))
  | (with_reducible refine' r_append ?k1 ?k2 ?_; (case k1 => walk_at "look"); (case k2 => walk_at "sz"))
  | (with_reducible refine' r_lenK ?k1 ?_; (case k1 => walk_at "look"))
  | (with_reducible refine' r_listOf ?k1 ?_; (case k1 => walk_at "look"))
  | (with_reducible refine' r_sortedI ?k1 ?_; (case k1 => walk_at "look"))
  | (with_reducible refine' r_sum ?k1 ?_; (case k1 => walk_at "look"))
  | with_reducible refine r_int ?_
  | (with_reducible refine' r_draw (by assumption) ?k1 ?k2 ?_; (case k1 => omega); (case k2 => omega); intro R' n' o' h' h'')
  | with_reducible refine iteT ?_
  | with_reducible refine r_revL ?_
  | with_reducible refine r_lc ?_
  | with_reducible refine r_yes ?_
  | with_reducible refine r_for ?_
  | with_reducible refine r_iList ?_
  | with_reducible refine r_rng1 ?_
  | with_reducible refine r_enum ?_
  | (with_reducible show Ends.nx _ _ _; dsimp only)
  | (with_reducible show Ends.rt _ _ _; dsimp only)
  | (with_reducible show Ends.ct _ _ _; dsimp only)
  | (with_reducible show Ends.bk _ _ _; dsimp only))
local macro_rules | `(tactic| walk_at "go") => `(tactic| repeat (walk_at "st"))
local macro_rules | `(tactic| walk_at "begin") => `(tactic| dsimp only [cxOf, wipe, L2.start, List.map, List.length_cons, List.length_nil, Nat.reduceAdd, Nat.reduceSub, List.replicate, List.cons_append, List.nil_append])

local macro_rules | `(tactic| walk_at "st") => `(tactic| with_reducible refine r_abs ?_)
section
variable {P : Program} {w : World} {K : PySem.W.Frag} {mg : Str → Option Value} {base : Heap}
theorem ok_start {f : Addr} {fd : FuncData} {k : Nat} (B : Blt mg) (D : Dn K mg "_law_start" s__law_start ["script"] f fd) : FnOk P w K mg base CX0 (k + 1) f fd ["script"] (spStart K) := by
  refine D.F.ok sc__law_start (fun vs H Q E h => ?_) (fun cdv A outer s H vs Q E hr h => ?_)
  · obtain ⟨a, ns, rfl, _⟩ := h
    rfl
  · obtain ⟨a, ns, rfl, hS, hl, q⟩ := h
    refine ⟨_, (pss_cons (ps_set (i := 1) sc__law_start.nd rfl (.inl rfl) (pe_lst pa_nil))
      (pss_cons (ps_set (i := 2) sc__law_start.nd rfl (.inl rfl) pe_int)
      (pss_cons (ps_for PassesOwn.never rfl (pi_listK (K := K) rfl (pv 0)) (pg_name (i := 3) sc__law_start.nd rfl (.inl rfl)) (pss_cons (ps_if (pt_cmpR op_ge (pe_callB call_abs (by rfl) B.m_abs (by decide +kernel) (pa_cons (pv 3) pa_nil)) (pe_op op_pow pe_int pe_int) (nomark _)) (pss_one (ps_expr (pe_bmK (K := K) rfl PySem.F.plainAttrs_list PySem.F.slot_list_append PySem.F.type_list_append mt_append (pv 1) (pa_cons (pe_callB call_abs (by rfl) B.m_abs (by decide +kernel) (pa_cons (pv 3) pa_nil)) pa_nil)))) pss_nil)
      (pss_one (ps_set (i := 2) sc__law_start.nd rfl (.inl rfl) (pe_op op_modN (pe_callTy call_int1 (by rfl) B.m_int (by decide +kernel) (pa_cons (pe_op op_add (pe_op op_add (pe_op op_mul (pv 2) pe_int) (pe_callB call_abs (by rfl) B.m_abs (by decide +kernel) (pa_cons (pv 3) pa_nil))) pe_int) pa_nil)) pe_int)))))
      (pss_one (ps_ret (pe_lst (pa_cons (pv 1) (pa_cons pe_int (pa_cons (pv 2) (pa_cons pe_int pa_nil)))))))))), ?_⟩
    walk_at "begin"
    walk_at "go"
    refine ⟨size_nil, fun p np => ?_⟩
    walk_at "go"
    refine r_forS (xs := ns.map V.int) (Same.seq (same_new np) hS) (fun i σ H' => ∃ (gs : List Int) (m : Int) (y : Option V), σ = [some (.ref a), some (.ref p), some (.int m), y] ∧ H' = upd H p (.lst (gs.map V.int)) ∧ gs.length ≤ i ∧ (∀ n ∈ gs, 0 ≤ n) ∧ 0 ≤ m ∧ m < 2147483647) ?_ ?_ ?_ ?_
    · exact ⟨[], 1, none, rfl, rfl, Nat.le_refl _, (fun n hn => nomatch hn), by decide, by decide⟩
    · rintro i σ H' _ ⟨gs, m, y, _, rfl, _⟩
      exact Same.seq (same_new np) hS
    · rintro i x σ H' hx ⟨gs, m, y, rfl, rfl, h1, h2, h3, h4⟩
      obtain ⟨z, rfl⟩ : ∃ z : Int, x = .int z := by
        rw [List.getElem?_map] at hx
        cases e : ns[i]? with
        | none => rw [e] at hx; cases hx
        | some z => rw [e] at hx; exact ⟨z, (Option.some.inj hx).symm⟩
      have hi : i < 63 := by
        have := (List.getElem?_eq_some_iff.mp hx).1
        rw [List.length_map] at this
        omega
      walk_at "go"
      have fm : ∀ t : Int, 0 ≤ t.fmod 2147483647 ∧ t.fmod 2147483647 < 2147483647 := fun t => ⟨Int.fmod_nonneg_of_pos _ (by decide), Int.fmod_lt_of_pos _ (by decide)⟩
      refine r_ite (fun _ => ?_) (fun _ => ?_)
      · walk_at "go"
        refine ⟨gs ++ [if z < 0 then -z else z], _, _, rfl, by rw [upd_upd, List.map_append]; rfl, by rw [List.length_append, List.length_singleton]; omega, fun n hn => ?_, (fm _).1, (fm _).2⟩
        rcases List.mem_append.mp hn with e | e
        · exact h2 n e
        · rw [List.mem_singleton.mp e]; split <;> omega
      · walk_at "go"
        exact ⟨gs, _, _, rfl, rfl, by omega, h2, (fm _).1, (fm _).2⟩
    · rintro σ H' ⟨gs, m, y, rfl, rfl, h1, h2, h3, h4⟩
      walk_at "go"
      refine ⟨size_le (n := 4) rfl (by decide), fun st ns' => ?_⟩
      have hne : st ≠ p := (upd_none ns').1
      rw [List.length_map] at h1
      exact q st p ⟨gs, 0, m, 0⟩ ⟨hne, ⟨Int.le_refl _, by show (0:Int) ≤ (gs.length : Int); omega, h2, by show gs.length ≤ 63; omega⟩, (upd_none ns').2, np⟩
end
end K34
namespace K34
open PySem PySem.Spec PyProof.Rows L2 Lw


local macro_rules | `(tactic| walk_at "look") => `(tactic| first
  | assumption
  | with_reducible exact upd_same
  | with_reducible exact rg_st
  | with_reducible exact rg_g (by assumption)
  | (with_reducible refine upd_old (by assumption) ?_; walk_at "look")
  | (with_reducible refine rg_get (by assumption) ?_; walk_at "look")
  | (with_reducible refine Same.get (by assumption) ?_; walk_at "look"))
local macro_rules | `(tactic| walk_at "cond") => `(tactic| first
  | (show _ ≠ _; omega) | exact cdivN (by omega) (by omega) | exact cmul_mod (by decide) (by decide) | exact cmulR (by omega) (by omega) | exact cmulL (by omega) (by omega) | exact cpow (by omega) (by omega) (by omega) (by omega) | (show (0:Int) ≤ _; omega))
local macro_rules | `(tactic| walk_at "at") => `(tactic| first | assumption | with_unfolding_all rfl)
local macro_rules | `(tactic| walk_at "sz") => `(tactic| first | assumption | (refine small ?_; omega) | (refine small ?_; simp only [List.length_map, List.length_append, List.length_cons, List.length_nil]; omega))
local macro_rules | `(tactic| walk_at "len") => `(tactic| first | exact size_nil | exact Nat.le_of_lt (small (by simp only [List.length_cons, List.length_nil, List.length_map]; omega)))
local macro_rules | `(tactic| walk_at "newD") => `(tactic| (refine ⟨by walk_at "len", fun p np => ?_⟩; obtain ⟨e, o', hD', n', ne'⟩ := newTD_eq (topRg _ _) (by assumption) (by assumption) np (.lst _); rw [e]; clear e))
local macro_rules | `(tactic| walk_at "new") => `(tactic| (refine ⟨by walk_at "len", fun p np => ?_⟩; obtain ⟨e, o', n'⟩ := newT_eq (topRg _ _) (by assumption) np (.lst _); rw [e]; clear e))
local macro_rules | `(tactic| walk_at "st") => `(tactic| first
  | with_reducible refine r_seq ?_
  | with_reducible refine r_var rfl ?_
  | with_reducible refine r_c ?_
  | with_reducible refine r_asg ?_
  | (with_reducible refine r_name ?_; dsimp only [List.set_cons_zero, List.set_cons_succ])
  | with_reducible refine r_sub ?_
  | with_reducible refine r_op ?_
  | with_reducible refine r_i0 ?_
  | (with_reducible refine' r_i ?k1 ?_; (case k1 => walk_at "cond"))
  | with_reducible refine r_cons ?_
  | with_reducible refine r_nil ?_
  | with_reducible refine r_cb ?_
  | with_reducible refine r_call ?_
  | with_reducible refine r_ifs ?_
  | with_reducible refine r_test ?_
  | with_reducible refine r_tB ?_
  | with_reducible refine r_bl ?_
  | with_reducible refine r_ret ?_
  | with_reducible refine r_drop ?_
  | with_reducible refine r_next ?_
  | (with_reducible refine' r_ixL ?k1 ?k2 ?_; (case k1 => walk_at "look"); (case k2 => walk_at "at"))
  | (with_reducible refine' r_setL ?k1 ?k2 ?_; (case k1 => walk_at "look"); (case k2 => walk_at "at"))
  | with_reducible refine r_aug rfl ?_
  | with_reducible refine r_augS ?_
  | with_reducible refine r_ipI ?_
  | with_reducible refine r_un ?_
  | with_reducible refine r_u ?_
  | with_reducible refine r_eq rfl ?_
  | with_reducible refine r_ne rfl ?_
  | with_reducible refine r_chain ?_
  | with_reducible refine iteF ?_
  | with_reducible refine r_not ?_
  | with_reducible refine r_and ?_
  | with_reducible refine r_or ?_
  | with_reducible refine r_andV ?_
  | with_reducible refine r_orV ?_
  | with_reducible refine r_notV ?_
  | with_reducible refine r_lst ?_
  | with_reducible refine r_bm ?_
  | with_reducible refine r_bm0 ?_
  | (with_reducible refine' And.intro (r_ty ?k1) ?_; (case k1 => walk_at "look"))
  | (with_reducible refine' r_append ?k1 ?k2 ?_; (case k1 => walk_at "look"); (case k2 => walk_at "sz"))
  | (with_reducible refine' r_lenK ?k1 ?_; (case k1 => walk_at "look"))
  | (with_reducible refine' r_listOf ?k1 ?_; (case k1 => walk_at "look"))
  | (with_reducible refine' r_sortedI ?k1 ?_; (case k1 => walk_at "look"))
  | (with_reducible refine' r_sum ?k1 ?_; (case k1 => walk_at "look"))
  | with_reducible refine r_int ?_
  | (with_reducible refine' r_draw (by assumption) ?k1 ?k2 ?_; (case k1 => omega); (case k2 => omega); intro R' n' o' h' h'')
  | with_reducible refine iteT ?_
  | with_reducible refine r_revL ?_
  | with_reducible refine r_lc ?_
  | with_reducible refine r_yes ?_
  | with_reducible refine r_for ?_
  | with_reducible refine r_iList ?_
  | with_reducible refine r_rng1 ?_
  | with_reducible refine r_enum ?_
  | (with_reducible show Ends.nx _ _ _; dsimp only)
  | (with_reducible show Ends.rt _ _ _; dsimp only)
  | (with_reducible show Ends.ct _ _ _; dsimp only)
  | (with_reducible show Ends.bk _ _ _; dsimp only))
local macro_rules | `(tactic| walk_at "go") => `(tactic| repeat (walk_at "st"))
local macro_rules | `(tactic| walk_at "begin") => `(tactic| dsimp only [cxOf, wipe, L2.start, List.map, List.length_cons, List.length_nil, Nat.reduceAdd, Nat.reduceSub, List.replicate, List.cons_append, List.nil_append])


def PostRows (st g : Addr) (B : Hp) (Q : VK) (L : Nat) : Prop := ∀ (R' : RS) (B' : Hp) (a : Addr) (as : List Addr) (rs : List (List Int)) (n : Nat), Ok st g R' B' → Same B B' → B a = none →
  B' a = some (.lst (as.map V.ref)) → Rw B' as rs → Wf n L rs → 1 ≤ n → n ≤ 128 → Q (.ref a) (rg st g R' B')
/-- rows drawn below a bound -/
def spGen (L : Nat) : Sp := fun vs H Q _ => ∃ (st g : Addr) (R : RS) (B : Hp) (most : Int), vs = [.ref st, .int most] ∧ H = rg st g R B ∧ Ok st g R B ∧ 1 ≤ most ∧ most ≤ 128 ∧ PostRows st g B Q L
section
variable {P : Program} {w : World} {K : PySem.W.Frag} {mg : Str → Option Value} {base : Heap}
theorem ok_lower {f f1 : Addr} {fd fd1 : FuncData} (B : Blt mg) (D : Dn K mg "_law_lower" s__law_lower ["state", "most"] f fd) (D_law_draw : Dn K mg "_law_draw" s__law_draw ["state", "many"] f1 fd1)
    (G_law_draw : FnOk P w K mg base CX0 1 f1 fd1 ["state", "many"] spDraw) : FnOk P w K mg base CX0 2 f fd ["state", "most"] (spGen 200) := by
  refine D.F.ok sc__law_lower (fun vs H Q E h => ?_) (fun cdv A outer s H vs Q E hr h => ?_)
  · obtain ⟨st, g, R, B, most, rfl, _⟩ := h
    rfl
  · obtain ⟨st, g, R, C, most, rfl, rfl, o, h1, h2, q⟩ := h
    refine ⟨_, (pss_cons (ps_set (i := 2) sc__law_lower.nd rfl (.inl rfl) (pe_op op_add pe_int (pe_call G_law_draw (hr.mono (by decide)) (by rfl) D_law_draw.g D_law_draw.F.kp D_law_draw.b .nil pass0 (pa_cons (pv 0) (pa_cons (pv 1) pa_nil)))))
      (pss_cons (ps_set (i := 3) sc__law_lower.nd rfl (.inr rfl) (pe_op op_add pe_int (pe_call G_law_draw (hr.mono (by decide)) (by rfl) D_law_draw.g D_law_draw.F.kp D_law_draw.b .nil pass0 (pa_cons (pv 0) (pa_cons pe_int pa_nil)))))
      (pss_one (ps_ret (pe_lc (own := [("at", 4)]) rfl sc__law_lower.nd (pi_range1 (by rfl) B.m_range (pa_cons (pv 2) pa_nil)) (blkOk_by (own := [("at", 4)]) (by kernel_rfl))
        (fun _ _ _ _ _ => (pg_name (i := 4) sc__law_lower.nd rfl (.inl rfl))) (fun _ _ _ _ _ => pts_nil)
        (fun _ _ _ _ _ => (pe_lc (own := [("k", 5)]) rfl sc__law_lower.nd (pi_range1 (by rfl) B.m_range (pa_cons (pv 4) pa_nil)) (blkOk_by (own := [("k", 5)]) (by kernel_rfl))
        (fun _ _ _ _ _ => (pg_name (i := 5) sc__law_lower.nd rfl (.inl rfl))) (fun _ _ _ _ _ => (pts_one (pt_cmpR op_eq (pe_call G_law_draw (hr.mono (by decide)) (by rfl) D_law_draw.g D_law_draw.F.kp D_law_draw.b .nil pass0 (pa_cons (pv 0) (pa_cons (pv 3) pa_nil))) pe_int (nomark _))))
        (fun _ _ _ _ _ => (pv 5))))))))), ?_⟩
    walk_at "begin"
    walk_at "go"
    rename_i R1 n1 o1 n10 n11 R2 n2 o2 n20 n21
    refine lcT_range (topRg st g) o2 ?_ ?_ (fun i C acc => ∃ (as : List Addr) (rs : List (List Int)), acc = as.map V.ref ∧ Rw C as rs ∧ as.length = i ∧ ∀ r ∈ rs, Gd ((1 + n1).toNat : Int) 200 r)
      ⟨[], [], rfl, Rw.nil, rfl, fun r hr => nomatch hr⟩ ?_ ?_
    · omega
    · omega
    · rintro D1 i R3 C1 acc o3 hD1 hS1 hi ⟨as, rs, rfl, hrw, hla, hwf⟩
      walk_at "begin"
      walk_at "go"
      refine ⟨rfl, ?_⟩
      walk_at "go"
      refine lcT_range (topRg st g) o3 ?_ ?_ (fun j C acc => ∃ r : List Int, acc = r.map V.int ∧ Up ((1 + n1).toNat : Int) j r) ⟨[], rfl, Up.nil⟩ ?_ ?_
      · omega
      · omega
      · rintro D2 j R4 C2 acc o4 hD2 hS2 hj ⟨r, rfl, hr1⟩
        walk_at "begin"
        walk_at "go"
        refine ⟨rfl, ?_⟩
        walk_at "go"
        rename_i R5 n5 o5 n50 n51
        refine r_ite (fun _ => ?_) (fun _ => ?_)
        · walk_at "go"
          refine lcN_put (topRg st g) o5 hD2 hS2 ?_ ⟨r ++ [(j : Int)], ints_push _ _, hr1.push ?_⟩
          · rw [List.length_map]; have := hr1.1; omega
          · omega
        · exact lcN_skip o5 hD2 hS2 ⟨r, rfl, hr1.skip⟩
      · rintro D2 R4 C2 acc o4 hB2 hD2 hS2 ⟨r, rfl, hr1⟩
        obtain ⟨C3, e, q1, q2, q3, q4, q5⟩ := under (y := .lst (r.map V.int)) hD1 hB2 hS2
        rw [e] at o4 ⊢
        refine lcN_put (topRg st g) o4 q1 (hS1.trans q2) ?_ ⟨as ++ [D2], rs ++ [r], refs_push _ _, (hrw.mono q2).push q3, ?_, wf_push hwf (hr1.gd ?_)⟩
        · rw [List.length_map]; omega
        · rw [List.length_append, List.length_singleton]; omega
        · omega
    · rintro D1 R3 C1 acc o3 hB hD1 hS1 ⟨as, rs, rfl, hrw, hla, hwf⟩
      exact q R3 _ D1 as rs (1 + n1).toNat o3 (hS1.trans (same_new hD1)) hB upd_same (hrw.mono (same_new hD1)) ⟨by rw [← hrw.1, hla], hwf⟩ (by omega) (by omega)
theorem ok_any {f f1 : Addr} {fd fd1 : FuncData} (B : Blt mg) (D : Dn K mg "_law_any" s__law_any ["state", "most"] f fd) (D_law_draw : Dn K mg "_law_draw" s__law_draw ["state", "many"] f1 fd1)
    (G_law_draw : FnOk P w K mg base CX0 1 f1 fd1 ["state", "many"] spDraw) : FnOk P w K mg base CX0 2 f fd ["state", "most"] (spGen 200) := by
  refine D.F.ok sc__law_any (fun vs H Q E h => ?_) (fun cdv A outer s H vs Q E hr h => ?_)
  · obtain ⟨st, g, R, B, most, rfl, _⟩ := h
    rfl
  · obtain ⟨st, g, R, C, most, rfl, rfl, o, h1, h2, q⟩ := h
    refine ⟨_, (pss_cons (ps_set (i := 2) sc__law_any.nd rfl (.inr rfl) (pe_op op_add pe_int (pe_call G_law_draw (hr.mono (by decide)) (by rfl) D_law_draw.g D_law_draw.F.kp D_law_draw.b .nil pass0 (pa_cons (pv 0) (pa_cons (pv 1) pa_nil)))))
      (pss_cons (ps_set (i := 3) sc__law_any.nd rfl (.inr rfl) (pe_op op_add pe_int (pe_call G_law_draw (hr.mono (by decide)) (by rfl) D_law_draw.g D_law_draw.F.kp D_law_draw.b .nil pass0 (pa_cons (pv 0) (pa_cons pe_int pa_nil)))))
      (pss_one (ps_ret (pe_lc (own := [("at", 4)]) rfl sc__law_any.nd (pi_range1 (by rfl) B.m_range (pa_cons (pv 2) pa_nil)) (blkOk_by (own := [("at", 4)]) (by kernel_rfl))
        (fun _ _ _ _ _ => (pg_name (i := 4) sc__law_any.nd rfl (.inl rfl))) (fun _ _ _ _ _ => pts_nil)
        (fun _ _ _ _ _ => (pe_lc (own := [("k", 5)]) rfl sc__law_any.nd (pi_range1 (by rfl) B.m_range (pa_cons (pv 2) pa_nil)) (blkOk_by (own := [("k", 5)]) (by kernel_rfl))
        (fun _ _ _ _ _ => (pg_name (i := 5) sc__law_any.nd rfl (.inl rfl))) (fun _ _ _ _ _ => (pts_one (pt_cmpR op_eq (pe_call G_law_draw (hr.mono (by decide)) (by rfl) D_law_draw.g D_law_draw.F.kp D_law_draw.b .nil pass0 (pa_cons (pv 0) (pa_cons (pv 3) pa_nil))) pe_int (nomark _))))
        (fun _ _ _ _ _ => (pv 5))))))))), ?_⟩
    walk_at "begin"
    walk_at "go"
    rename_i R1 n1 o1 n10 n11 R2 n2 o2 n20 n21
    refine lcT_range (topRg st g) o2 ?_ ?_ (fun i C acc => ∃ (as : List Addr) (rs : List (List Int)), acc = as.map V.ref ∧ Rw C as rs ∧ as.length = i ∧ ∀ r ∈ rs, Gd ((1 + n1).toNat : Int) 200 r)
      ⟨[], [], rfl, Rw.nil, rfl, fun r hr => nomatch hr⟩ ?_ ?_
    · omega
    · omega
    · rintro D1 i R3 C1 acc o3 hD1 hS1 hi ⟨as, rs, rfl, hrw, hla, hwf⟩
      walk_at "begin"
      walk_at "go"
      refine ⟨rfl, ?_⟩
      walk_at "go"
      refine lcT_range (topRg st g) o3 ?_ ?_ (fun j C acc => ∃ r : List Int, acc = r.map V.int ∧ Up ((1 + n1).toNat : Int) j r) ⟨[], rfl, Up.nil⟩ ?_ ?_
      · omega
      · omega
      · rintro D2 j R4 C2 acc o4 hD2 hS2 hj ⟨r, rfl, hr1⟩
        walk_at "begin"
        walk_at "go"
        refine ⟨rfl, ?_⟩
        walk_at "go"
        rename_i R5 n5 o5 n50 n51
        refine r_ite (fun _ => ?_) (fun _ => ?_)
        · walk_at "go"
          refine lcN_put (topRg st g) o5 hD2 hS2 ?_ ⟨r ++ [(j : Int)], ints_push _ _, hr1.push ?_⟩
          · rw [List.length_map]; have := hr1.1; omega
          · omega
        · exact lcN_skip o5 hD2 hS2 ⟨r, rfl, hr1.skip⟩
      · rintro D2 R4 C2 acc o4 hB2 hD2 hS2 ⟨r, rfl, hr1⟩
        obtain ⟨C3, e, q1, q2, q3, q4, q5⟩ := under (y := .lst (r.map V.int)) hD1 hB2 hS2
        rw [e] at o4 ⊢
        refine lcN_put (topRg st g) o4 q1 (hS1.trans q2) ?_ ⟨as ++ [D2], rs ++ [r], refs_push _ _, (hrw.mono q2).push q3, ?_, wf_push hwf (hr1.gd ?_)⟩
        · rw [List.length_map]; omega
        · rw [List.length_append, List.length_singleton]; omega
        · omega
    · rintro D1 R3 C1 acc o3 hB hD1 hS1 ⟨as, rs, rfl, hrw, hla, hwf⟩
      exact q R3 _ D1 as rs (1 + n1).toNat o3 (hS1.trans (same_new hD1)) hB upd_same (hrw.mono (same_new hD1)) ⟨by rw [← hrw.1, hla], hwf⟩ (by omega) (by omega)
end
end K34
namespace K34
open PySem PySem.Spec PyProof.Rows L2 Lw


local macro_rules | `(tactic| walk_at "look") => `(tactic| first
  | assumption
  | with_reducible exact upd_same
  | with_reducible exact rg_st
  | with_reducible exact rg_g (by assumption)
  | (with_reducible refine upd_old (by assumption) ?_; walk_at "look")
  | (with_reducible refine rg_get (by assumption) ?_; walk_at "look")
  | (with_reducible refine Same.get (by assumption) ?_; walk_at "look"))
local macro_rules | `(tactic| walk_at "cond") => `(tactic| first
  | (show _ ≠ _; omega) | exact cdivN (by omega) (by omega) | exact cmul_mod (by decide) (by decide) | exact cmulR (by omega) (by omega) | exact cmulL (by omega) (by omega) | exact cpow (by omega) (by omega) (by omega) (by omega) | (show (0:Int) ≤ _; omega))
local macro_rules | `(tactic| walk_at "at") => `(tactic| first | assumption | with_unfolding_all rfl)
local macro_rules | `(tactic| walk_at "sz") => `(tactic| first | assumption | (refine small ?_; omega) | (refine small ?_; simp only [List.length_map, List.length_append, List.length_cons, List.length_nil]; omega))
local macro_rules | `(tactic| walk_at "len") => `(tactic| first | exact size_nil | exact Nat.le_of_lt (small (by simp only [List.length_cons, List.length_nil, List.length_map]; omega)))
local macro_rules | `(tactic| walk_at "newD") => `(tactic| (refine ⟨by walk_at "len", fun p np => ?_⟩; obtain ⟨e, o', hD', n', ne'⟩ := newTD_eq (topRg _ _) (by assumption) (by assumption) np (.lst _); rw [e]; clear e))
local macro_rules | `(tactic| walk_at "new") => `(tactic| (refine ⟨by walk_at "len", fun p np => ?_⟩; obtain ⟨e, o', n'⟩ := newT_eq (topRg _ _) (by assumption) np (.lst _); rw [e]; clear e))
local macro_rules | `(tactic| walk_at "st") => `(tactic| first
  | with_reducible refine r_seq ?_
  | with_reducible refine r_var rfl ?_
  | with_reducible refine r_c ?_
  | with_reducible refine r_asg ?_
  | (with_reducible refine r_name ?_; dsimp only [List.set_cons_zero, List.set_cons_succ])
  | with_reducible refine r_sub ?_
  | with_reducible refine r_op ?_
  | with_reducible refine r_i0 ?_
  | (with_reducible refine' r_i ?k1 ?_; (case k1 => walk_at "cond"))
  | with_reducible refine r_cons ?_
  | with_reducible refine r_nil ?_
  | with_reducible refine r_cb ?_
  | with_reducible refine r_call ?_
  | with_reducible refine r_ifs ?_
  | with_reducible refine r_test ?_
  | with_reducible refine r_tB ?_
  | with_reducible refine r_bl ?_
  | with_reducible refine r_ret ?_
  | with_reducible refine r_drop ?_
  | with_reducible refine r_next ?_
  | (with_reducible refine' r_ixL ?k1 ?k2 ?_; (case k1 => walk_at "look"); (case k2 => walk_at "at"))
  | (with_reducible refine' r_setL ?k1 ?k2 ?_; (case k1 => walk_at "look"); (case k2 => walk_at "at"))
  | with_reducible refine r_aug rfl ?_
  | with_reducible refine r_augS ?_
  | with_reducible refine r_ipI ?_
  | with_reducible refine r_un ?_
  | with_reducible refine r_u ?_
  | with_reducible refine r_eq rfl ?_
  | with_reducible refine r_ne rfl ?_
  | with_reducible refine r_chain ?_
  | with_reducible refine iteF ?_
  | with_reducible refine r_not ?_
  | with_reducible refine r_and ?_
  | with_reducible refine r_or ?_
  | with_reducible refine r_andV ?_
  | with_reducible refine r_orV ?_
  | with_reducible refine r_notV ?_
  | with_reducible refine r_lst ?_
  | with_reducible refine r_bm ?_
  | with_reducible refine r_bm0 ?_
  | (with_reducible refine' And.intro (r_ty ?k1) ?_; (case k1 => walk_at "look"))
  | (with_reducible refine' r_append ?k1 ?k2 ?_; (case k1 => walk_at "look"); (case k2 => walk_at "sz"))
  | (with_reducible refine' r_lenK ?k1 ?_; (case k1 => walk_at "look"))
  | (with_reducible refine' r_listOf ?k1 ?_; (case k1 => walk_at "look"))
  | (with_reducible refine' r_sortedI ?k1 ?_; (case k1 => walk_at "look"))
  | (with_reducible refine' r_sum ?k1 ?_; (case k1 => walk_at "look"))
  | with_reducible refine r_int ?_
  | (with_reducible refine' r_draw (by assumption) ?k1 ?k2 ?_; (case k1 => omega); (case k2 => omega); intro R' n' o' h' h'')
  | with_reducible refine iteT ?_
  | with_reducible refine r_revL ?_
  | with_reducible refine r_lc ?_
  | with_reducible refine r_yes ?_
  | with_reducible refine r_for ?_
  | with_reducible refine r_iList ?_
  | with_reducible refine r_rng1 ?_
  | with_reducible refine r_enum ?_
  | (with_reducible show Ends.nx _ _ _; dsimp only)
  | (with_reducible show Ends.rt _ _ _; dsimp only)
  | (with_reducible show Ends.ct _ _ _; dsimp only)
  | (with_reducible show Ends.bk _ _ _; dsimp only))
local macro_rules | `(tactic| walk_at "go") => `(tactic| repeat (walk_at "st"))
local macro_rules | `(tactic| walk_at "begin") => `(tactic| dsimp only [cxOf, wipe, L2.start, List.map, List.length_cons, List.length_nil, Nat.reduceAdd, Nat.reduceSub, List.replicate, List.cons_append, List.nil_append])


theorem rg_five {n : Int} {p1 p2 p3 p4 p5 : Addr} (h0 : 0 ≤ n) (h1 : n < 5) : ∃ q, atI [V.ref p1, V.ref p2, V.ref p3, V.ref p4, V.ref p5] n = some (V.ref q) ∧ (q = p1 ∨ q = p2 ∨ q = p3 ∨ q = p4 ∨ q = p5) := by
  have : n = 0 ∨ n = 1 ∨ n = 2 ∨ n = 3 ∨ n = 4 := by omega
  rcases this with rfl | rfl | rfl | rfl | rfl
  · exact ⟨p1, rfl, .inl rfl⟩
  · exact ⟨p2, rfl, .inr (.inl rfl)⟩
  · exact ⟨p3, rfl, .inr (.inr (.inl rfl))⟩
  · exact ⟨p4, rfl, .inr (.inr (.inr (.inl rfl)))⟩
  · exact ⟨p5, rfl, .inr (.inr (.inr (.inr rfl)))⟩
section
variable {P : Program} {w : World} {K : PySem.W.Frag} {mg : Str → Option Value} {base : Heap}
theorem ok_track {f f1 : Addr} {fd fd1 : FuncData} (B : Blt mg) (D : Dn K mg "_law_track" s__law_track ["state", "most"] f fd) (D_law_draw : Dn K mg "_law_draw" s__law_draw ["state", "many"] f1 fd1)
    (G_law_draw : FnOk P w K mg base CX0 1 f1 fd1 ["state", "many"] spDraw) : FnOk P w K mg base CX0 2 f fd ["state", "most"] (spGen 200) := by
  refine D.F.ok sc__law_track (fun vs H Q E h => ?_) (fun cdv A outer s H vs Q E hr h => ?_)
  · obtain ⟨st, g, R, B, most, rfl, _⟩ := h
    rfl
  · obtain ⟨st, g, R, C, most, rfl, rfl, o, h1, h2, q⟩ := h
    refine ⟨_, (pss_cons (ps_set (i := 2) sc__law_track.nd rfl (.inr rfl) (pe_op op_add pe_int (pe_call G_law_draw (hr.mono (by decide)) (by rfl) D_law_draw.g D_law_draw.F.kp D_law_draw.b .nil pass0 (pa_cons (pv 0) (pa_cons (pv 1) pa_nil)))))
      (pss_cons (ps_setLc (i := 3) (own := [("at", 4)]) rfl sc__law_track.nd rfl rfl (sw_true rfl rfl rfl (by decide +kernel)) (pi_range1 (by rfl) B.m_range (pa_cons (pv 2) pa_nil)) (blkOk_by (own := [("at", 4)]) (by kernel_rfl))
        (fun _ _ _ _ _ => (pg_name (i := 4) sc__law_track.nd rfl (.inl rfl))) (fun _ _ _ _ _ => pts_nil)
        (fun _ _ _ _ _ => (pe_lst (pa_cons (pe_op op_sub (pv 4) pe_int) pa_nil))))
      (pss_cons (ps_asg (pe_ix (ix_listK (K := K) rfl) (pe_lst (pa_cons (pe_lst pa_nil) (pa_cons (pe_lst pa_nil) (pa_cons (pe_lst (pa_cons pe_int pa_nil)) (pa_cons (pe_lst (pa_cons (pe_op op_sub (pv 2) pe_int) pa_nil)) (pa_cons (pe_lst (pa_cons (pe_call G_law_draw (hr.mono (by decide)) (by rfl) D_law_draw.g D_law_draw.F.kp D_law_draw.b .nil pass0 (pa_cons (pv 0) (pa_cons (pv 2) pa_nil))) pa_nil)) pa_nil)))))) (pe_call G_law_draw (hr.mono (by decide)) (by rfl) D_law_draw.g D_law_draw.F.kp D_law_draw.b .nil pass0 (pa_cons (pv 0) (pa_cons pe_int pa_nil))) (fun _ _ => rfl)) (pg_sub (pv 3) pe_int set_list))
      (pss_cons (ps_if (pt_cmpR op_eq (pe_call G_law_draw (hr.mono (by decide)) (by rfl) D_law_draw.g D_law_draw.F.kp D_law_draw.b .nil pass0 (pa_cons (pv 0) (pa_cons pe_int pa_nil))) pe_int (nomark _)) (pss_one (ps_ret (pv 3))) pss_nil)
      (pss_one (ps_ret (pe_lc (own := [("row", 5)]) rfl sc__law_track.nd (pi_listK (K := K) rfl (pe_revLK (K := K) rfl (pv 3))) (blkOk_by (own := [("row", 5)]) (by kernel_rfl))
        (fun _ _ _ _ _ => (pg_name (i := 5) sc__law_track.nd rfl (.inl rfl))) (fun _ _ _ _ _ => pts_nil)
        (fun _ _ _ _ _ => (pe_lc (own := [("place", 6)]) rfl sc__law_track.nd (pi_listK (K := K) rfl (pv 5)) (blkOk_by (own := [("place", 6)]) (by kernel_rfl))
        (fun _ _ _ _ _ => (pg_name (i := 6) sc__law_track.nd rfl (.inl rfl))) (fun _ _ _ _ _ => pts_nil)
        (fun _ _ _ _ _ => (pe_op op_sub (pe_op op_sub (pv 2) pe_int) (pv 6)))))))))))), ?_⟩
    walk_at "begin"
    walk_at "go"
    rename_i R1 n1 o1 n10 n11
    refine lcT_range (topRg st g) o1 ?_ ?_ (fun i C acc => ∃ (as : List Addr) (rs : List (List Int)), acc = as.map V.ref ∧ Rw C as rs ∧ as.length = i ∧ ∀ (j : Nat) r, rs[j]? = some r → r = [(j : Int) - 1])
      ⟨[], [], rfl, Rw.nil, rfl, fun j r hr => by simp at hr⟩ ?_ ?_
    · omega
    · omega
    · rintro D1 i R3 C1 acc o3 hD1 hS1 hi ⟨as, rs, rfl, hrw, hla, hwf⟩
      walk_at "begin"
      walk_at "go"
      refine ⟨rfl, ?_⟩
      walk_at "go"
      walk_at "newD"
      rename_i p np o4 hD4 n4 ne4
      have hrw2 := hrw.mono (same_new (o := .lst [V.int (i - 1)]) n4)
      refine lcN_put (topRg st g) o4 hD4 (hS1.trans (same_new n4)) ?_ ⟨as ++ [p], rs ++ [[(i : Int) - 1]], refs_push _ _, hrw2.push upd_same, ?_, fun j r hr => ?_⟩
      · rw [List.length_map]; omega
      · rw [List.length_append, List.length_singleton]; omega
      · rw [List.getElem?_append] at hr
        split at hr
        · exact hwf j r hr
        · rename_i hj
          have e1 := hrw.1
          have e2 : j - rs.length = 0 := by
            have := (List.getElem?_eq_some_iff.mp hr).1
            rw [List.length_singleton] at this
            omega
          have e3 : j = i := by omega
          rw [e2] at hr
          rw [e3]
          exact (Option.some.inj hr).symm
    · rintro D1 R3 C1 acc o3 hB hD1 hS1 ⟨as, rs, rfl, hrw, hla, hwf⟩
      walk_at "go"
      walk_at "newD"
      rename_i p1 np1 o4 hD4 n4 ne4
      walk_at "go"
      walk_at "newD"
      rename_i p2 np2 o5 hD5 n5 ne5
      walk_at "go"
      walk_at "newD"
      rename_i p3 np3 o6 hD6 n6 ne6
      walk_at "go"
      walk_at "newD"
      rename_i p4 np4 o7 hD7 n7 ne7
      walk_at "go"
      rename_i R8 z8 o8 z80 z81
      walk_at "newD"
      rename_i p5 np5 o9 hD9 n9 ne9
      walk_at "go"
      walk_at "newD"
      rename_i p6 np6 o10 hD10 n10' ne10
      walk_at "go"
      rename_i R11 z11 o11 z110 z111
      obtain ⟨q0, hq1, hq2⟩ := rg_five (p1 := p1) (p2 := p2) (p3 := p3) (p4 := p4) (p5 := p5) z110 z111
      have sm := (((((same_new (o := .lst []) n4).trans (same_new (o := .lst []) n5)).trans (same_new (o := .lst [.int 0]) n6)).trans (same_new (o := .lst [.int (1 + n1 - 1)]) n7)).trans (same_new (o := .lst [.int z8]) n9)).trans (same_new (o := .lst [.ref p1, .ref p2, .ref p3, .ref p4, .ref p5]) n10')
      have hD12 := hD10
      have hr : ∃ r : List Int, upd (upd (upd (upd (upd (upd C1 p1 (.lst [])) p2 (.lst [])) p3 (.lst [.int 0])) p4 (.lst [.int (1 + n1 - 1)])) p5 (.lst [.int z8])) p6 (.lst [.ref p1, .ref p2, .ref p3, .ref p4, .ref p5]) q0 = some (.lst (r.map V.int)) ∧ r.length ≤ 1 ∧ ∀ e ∈ r, 0 ≤ e ∧ e < 1 + n1 := by
        rcases hq2 with rfl | rfl | rfl | rfl | rfl
        · exact ⟨[], by show _ = some (HO.lst []); walk_at "look", by decide, fun e h => nomatch h⟩
        · exact ⟨[], by show _ = some (HO.lst []); walk_at "look", by decide, fun e h => nomatch h⟩
        · exact ⟨[0], by show _ = some (HO.lst [.int 0]); walk_at "look", by decide, fun e h => by rw [List.mem_singleton.mp h]; omega⟩
        · exact ⟨[1 + n1 - 1], by show _ = some (HO.lst [.int (1 + n1 - 1)]); walk_at "look", by show 1 ≤ 1; decide, fun e h => by rw [List.mem_singleton.mp h]; omega⟩
        · exact ⟨[z8], by show _ = some (HO.lst [.int z8]); walk_at "look", by show 1 ≤ 1; decide, fun e h => by rw [List.mem_singleton.mp h]; omega⟩
      walk_at "go"
      generalize upd (upd (upd (upd (upd (upd C1 p1 (.lst [])) p2 (.lst [])) p3 (.lst [.int 0])) p4 (.lst [.int (1 + n1 - 1)])) p5 (.lst [.int z8])) p6 (.lst [.ref p1, .ref p2, .ref p3, .ref p4, .ref p5]) = C2 at o11 sm hD12 hr ⊢
      obtain ⟨r, hr1, hr2, hr3⟩ := hr
      clear o10 hD10 n10' o9 hD9 n9 o8 np6 np5 np4 np3 np2 o7 o6 o5 n7 n6 n5 hD7 hD6 hD5 o4 hD4 np1 hq2 hq1
      have hx : ixN (List.map V.ref as).length 0 = some 0 := ix_i (by decide) (by rw [List.length_map]; omega)
      walk_at "go"
      rw [refsSet, (setTD_eq (topRg st g) o11 _).1]
      have o12 := (setTD_eq (topRg st g) o11 (.lst ((as.set 0 q0).map V.ref))).2
      have hrw2 := (hrw.mono sm).set 0 hr1
      have hwf2 : ∀ r' ∈ rs.set 0 r, Gd ((1 + n1).toNat : Int) 200 r' := fun r' hm => by
        obtain ⟨j, hj⟩ := List.mem_iff_getElem?.mp hm
        rw [List.getElem?_set] at hj
        split at hj
        · split at hj
          · rw [← Option.some.inj hj]
            exact ⟨by omega, nodup_le1 hr2, fun e he => by have := hr3 e he; omega⟩
          · cases hj
        · have h3 := hwf j r' hj
          have h4 := (List.getElem?_eq_some_iff.mp hj).1
          have h5 := hrw.1
          rw [h3]
          exact ⟨by show 1 ≤ 200; decide, nodup_le1 (Nat.le_refl 1), fun e he => by rw [List.mem_singleton.mp he]; omega⟩
      have hlen : (rs.set 0 r).length = (1 + n1).toNat := by rw [List.length_set, ← hrw.1, hla]
      walk_at "go"
      rename_i R13 z13 o13 z130 z131
      refine r_ite (fun _ => ?_) (fun _ => ?_)
      · walk_at "go"
        exact q R13 _ D1 (as.set 0 q0) (rs.set 0 r) (1 + n1).toNat o13 ((hS1.trans sm).trans (same_new hD12)) hB upd_same (hrw2.mono (same_new hD12)) ⟨hlen, hwf2⟩ (by omega) (by omega)
      · walk_at "go"
        have hD1 : (upd C2 D1 (HO.lst ((as.set 0 q0).map V.ref))) D1 = some (.lst ((as.set 0 q0).map V.ref)) := upd_same
        refine r_isrev (xs := (as.set 0 q0).map V.ref) (by walk_at "look") (fun p np => ?_)
        obtain ⟨e, o14, n14⟩ := newT_eq (topRg st g) o13 np (.lst ((as.set 0 q0).map V.ref).reverse)
        rw [e]
        rw [refsRev] at o14 ⊢
        have hrw3 := (hrw2.rev.mono (same_new (o := .lst ((as.set 0 q0).map V.ref)) hD12)).mono (same_new (o := .lst ((as.set 0 q0).reverse.map V.ref)) n14)
        have hwf3 : ∀ r' ∈ (rs.set 0 r).reverse, Gd ((1 + n1).toNat : Int) 200 r' := fun r' hm => hwf2 r' (List.mem_reverse.mp hm)
        have hlen3 : ((as.set 0 q0).reverse.map V.ref).length = (1 + n1).toNat := by rw [List.length_map, List.length_reverse, List.length_set, hla]
        have hS14 := (hS1.trans sm).trans ((same_new (o := .lst ((as.set 0 q0).map V.ref)) hD12).trans (same_new (o := .lst ((as.set 0 q0).reverse.map V.ref)) n14))
        have hpx : (upd (upd C2 D1 (HO.lst ((as.set 0 q0).map V.ref))) p (HO.lst ((as.set 0 q0).reverse.map V.ref))) p = some (.lst ((as.set 0 q0).reverse.map V.ref)) := upd_same
        generalize upd (upd C2 D1 (HO.lst ((as.set 0 q0).map V.ref))) p (HO.lst ((as.set 0 q0).reverse.map V.ref)) = C5 at o14 hS14 hrw3 hpx ⊢
        generalize (as.set 0 q0).reverse = as3 at hrw3 hlen3 hpx ⊢
        generalize (rs.set 0 r).reverse = rs3 at hrw3 hwf3 ⊢
        clear hrw2 hwf2 o13 o12 o11 hx n14 hD1 np e hlen
        refine lcT_list (topRg st g) o14 hpx (fun i C acc => ∃ (as : List Addr) (rs : List (List Int)), acc = as.map V.ref ∧ Rw C as rs ∧ as.length = i ∧ ∀ r ∈ rs, Gd ((1 + n1).toNat : Int) 200 r)
          ⟨[], [], rfl, Rw.nil, rfl, fun r hr => nomatch hr⟩ ?_ ?_
        · rintro D2 i x R4 C4 acc o4 hD4 hS4 hx ⟨as2, rs2, rfl, hrw4, hla4, hwf4⟩
          obtain ⟨b, r1, rfl, _, hr1', hb⟩ := (hrw3.mono hS4).at hx
          have hi : i < 128 := by
            have := (List.getElem?_eq_some_iff.mp hx).1
            omega
          obtain ⟨w1, w3, w2⟩ := hwf3 r1 (List.mem_of_getElem? hr1')
          walk_at "begin"
          walk_at "go"
          refine ⟨rfl, ?_⟩
          walk_at "go"
          refine lcT_list (topRg st g) o4 (upd_old hD4 hb) (fun j C acc => acc = ((r1.take j).map fun z => 1 + n1 - 1 - z).map V.int) rfl ?_ ?_
          · rintro D3 j x R5 C6 acc o5 hD5 hS5 hx5 rfl
            obtain ⟨z, rfl, hz⟩ := ints_at hx5
            have hz2 := w2 z (List.mem_of_getElem? hz)
            have hj := (List.getElem?_eq_some_iff.mp hz).1
            walk_at "begin"
            walk_at "go"
            refine ⟨rfl, ?_⟩
            walk_at "go"
            refine lcN_put (topRg st g) o5 hD5 hS5 ?_ ?_
            · rw [List.length_map, List.length_map, List.length_take]; omega
            · rw [ints_push, List.take_add_one, hz]
              show List.map V.int (_ ++ [_]) = List.map V.int (List.map _ (_ ++ [z]))
              rw [List.map_append (l₂ := [z])]; rfl
          · rintro D3 R5 C6 acc o5 hB5 hD5 hS5 rfl
            rw [List.length_map, List.take_length] at o5 ⊢
            obtain ⟨C7, e, q1, q2, q3, q4, q5⟩ := under (y := .lst ((r1.map fun z => 1 + n1 - 1 - z).map V.int)) hD4 hB5 hS5
            rw [e] at o5 ⊢
            refine lcN_put (topRg st g) o5 q1 (hS4.trans q2) ?_ ⟨as2 ++ [D3], rs2 ++ [r1.map fun z => 1 + n1 - 1 - z], refs_push _ _, (hrw4.mono q2).push q3, ?_, wf_push hwf4 ⟨?_, nodup_map (fun x y e => by omega) w3, fun e he => ?_⟩⟩
            · rw [List.length_map]; omega
            · rw [List.length_append, List.length_singleton]; omega
            · rw [List.length_map]; exact w1
            · obtain ⟨z, hz, rfl⟩ := List.mem_map.mp he
              have := w2 z hz
              omega
        · rintro D2 R4 C4 acc o4 hB4 hD4 hS4 ⟨as2, rs2, rfl, hrw4, hla4, hwf4⟩
          rw [hlen3] at hla4
          have hB : C D2 = none := hS14.free hB4
          exact q R4 _ D2 as2 rs2 (1 + n1).toNat o4 ((hS14.trans hS4).trans (same_new hD4)) hB upd_same (hrw4.mono (same_new hD4)) ⟨by rw [← hrw4.1, hla4], hwf4⟩ (by omega) (by omega)
end
end K34
namespace K34
open PySem PySem.Spec PyProof.Rows L2 Lw


local macro_rules | `(tactic| walk_at "look") => `(tactic| first
  | assumption
  | with_reducible exact upd_same
  | with_reducible exact rg_st
  | with_reducible exact rg_g (by assumption)
  | (with_reducible refine upd_old (by assumption) ?_; walk_at "look")
  | (with_reducible refine rg_get (by assumption) ?_; walk_at "look")
  | (with_reducible refine Same.get (by assumption) ?_; walk_at "look"))
local macro_rules | `(tactic| walk_at "cond") => `(tactic| first
  | (show _ ≠ _; omega) | exact cdivN (by omega) (by omega) | exact cmul_mod (by decide) (by decide) | exact cmulR (by omega) (by omega) | exact cmulL (by omega) (by omega) | exact cpow (by omega) (by omega) (by omega) (by omega) | (show (0:Int) ≤ _; omega))
local macro_rules | `(tactic| walk_at "at") => `(tactic| first | assumption | with_unfolding_all rfl)
local macro_rules | `(tactic| walk_at "sz") => `(tactic| first | assumption | (refine small ?_; omega) | (refine small ?_; simp only [List.length_map, List.length_append, List.length_cons, List.length_nil]; omega))
local macro_rules | `(tactic| walk_at "len") => `(tactic| first | exact size_nil | exact Nat.le_of_lt (small (by simp only [List.length_cons, List.length_nil, List.length_map]; omega)))
local macro_rules | `(tactic| walk_at "newD") => `(tactic| (refine ⟨by walk_at "len", fun p np => ?_⟩; obtain ⟨e, o', hD', n', ne'⟩ := newTD_eq (topRg _ _) (by assumption) (by assumption) np (.lst _); rw [e]; clear e))
local macro_rules | `(tactic| walk_at "new") => `(tactic| (refine ⟨by walk_at "len", fun p np => ?_⟩; obtain ⟨e, o', n'⟩ := newT_eq (topRg _ _) (by assumption) np (.lst _); rw [e]; clear e))
local macro_rules | `(tactic| walk_at "st") => `(tactic| first
  | with_reducible refine r_seq ?_
  | with_reducible refine r_var rfl ?_
  | with_reducible refine r_c ?_
  | with_reducible refine r_asg ?_
  | (with_reducible refine r_name ?_; dsimp only [List.set_cons_zero, List.set_cons_succ])
  | with_reducible refine r_sub ?_
  | with_reducible refine r_op ?_
  | with_reducible refine r_i0 ?_
  | (with_reducible refine' r_i ?k1 ?_; (case k1 => walk_at "cond"))
  | with_reducible refine r_cons ?_
  | with_reducible refine r_nil ?_
  | with_reducible refine r_cb ?_
  | with_reducible refine r_call ?_
  | with_reducible refine r_ifs ?_
  | with_reducible refine r_test ?_
  | with_reducible refine r_tB ?_
  | with_reducible refine r_bl ?_
  | with_reducible refine r_ret ?_
  | with_reducible refine r_drop ?_
  | with_reducible refine r_next ?_
  | (with_reducible refine' r_ixL ?k1 ?k2 ?_; (case k1 => walk_at "look"); (case k2 => walk_at "at"))
  | (with_reducible refine' r_setL ?k1 ?k2 ?_; (case k1 => walk_at "look"); (case k2 => walk_at "at"))
  | with_reducible refine r_aug rfl ?_
  | with_reducible refine r_augS ?_
  | with_reducible refine r_ipI ?_
  | with_reducible refine r_un ?_
  | with_reducible refine r_u ?_
  | with_reducible refine r_eq rfl ?_
  | with_reducible refine r_ne rfl ?_
  | with_reducible refine r_chain ?_
  | with_reducible refine iteF ?_
  | with_reducible refine r_not ?_
  | with_reducible refine r_and ?_
  | with_reducible refine r_or ?_
  | with_reducible refine r_andV ?_
  | with_reducible refine r_orV ?_
  | with_reducible refine r_notV ?_
  | with_reducible refine r_lst ?_
  | with_reducible refine r_bm ?_
  | with_reducible refine r_bm0 ?_
  | (with_reducible refine' And.intro (r_ty ?k1) ?_; (case k1 => walk_at "look"))
  | (with_reducible refine' r_append ?k1 ?k2 ?_; (case k1 => walk_at "look"); (case k2 => walk_at "sz"))
  | (with_reducible refine' r_lenK ?k1 ?_; (case k1 => walk_at "look"))
  | (with_reducible refine' r_listOf ?k1 ?_; (case k1 => walk_at "look"))
  | (with_reducible refine' r_sortedI ?k1 ?_; (case k1 => walk_at "look"))
  | (with_reducible refine' r_sum ?k1 ?_; (case k1 => walk_at "look"))
  | with_reducible refine r_int ?_
  | (with_reducible refine' r_draw (by assumption) ?k1 ?k2 ?_; (case k1 => omega); (case k2 => omega); intro R' n' o' h' h'')
  | with_reducible refine iteT ?_
  | with_reducible refine r_revL ?_
  | with_reducible refine r_lc ?_
  | with_reducible refine r_yes ?_
  | with_reducible refine r_for ?_
  | with_reducible refine r_iList ?_
  | with_reducible refine r_rng1 ?_
  | with_reducible refine r_enum ?_
  | (with_reducible show Ends.nx _ _ _; dsimp only)
  | (with_reducible show Ends.rt _ _ _; dsimp only)
  | (with_reducible show Ends.ct _ _ _; dsimp only)
  | (with_reducible show Ends.bk _ _ _; dsimp only))
local macro_rules | `(tactic| walk_at "go") => `(tactic| repeat (walk_at "st"))
local macro_rules | `(tactic| walk_at "begin") => `(tactic| dsimp only [cxOf, wipe, L2.start, List.map, List.length_cons, List.length_nil, Nat.reduceAdd, Nat.reduceSub, List.replicate, List.cons_append, List.nil_append])


local macro_rules | `(tactic| walk_at "st") => `(tactic| first
  | (with_reducible refine' r_setOf ?k1 ?k2 ?_; (case k1 => walk_at "look"); (case k2 => omega))
  | (with_reducible refine' r_sortedSet ?k1 ?k2 ?_; (case k1 => walk_at "look"); (case k2 => omega))
  | (with_reducible refine' r_insert ?k1 ?k2 ?k3 ?k4 ?_; (case k1 => walk_at "look"); (case k2 => walk_at "sz"); (case k3 => omega); (case k4 => omega)))
/-- a drawn order -/
def spOrder : Sp := fun vs H Q _ => ∃ (st g : Addr) (R : RS) (B : Hp) (size : Int), vs = [.ref st, .int size] ∧ H = rg st g R B ∧ Ok st g R B ∧ 0 ≤ size ∧ size ≤ 200 ∧
  ∀ (R' : RS) (B' : Hp) (a : Addr) (r : List Int), Ok st g R' B' → Same B B' → B a = none → B' a = some (.lst (r.map V.int)) → r.Perm ((List.range size.toNat).map Int.ofNat) → Q (.ref a) (rg st g R' B')
def spWide : Sp := fun vs H Q _ => ∃ (st g : Addr) (R : RS) (B : Hp), vs = [.ref st] ∧ H = rg st g R B ∧ Ok st g R B ∧ PostRows st g B Q 200
theorem at_four {n : Int} (h0 : 0 ≤ n) (h1 : n < 4) : ∃ q : Int, atI [V.int 20, V.int 20, V.int 20, V.int 119] n = some (V.int q) ∧ 20 ≤ q ∧ q ≤ 119 := by
  have : n = 0 ∨ n = 1 ∨ n = 2 ∨ n = 3 := by omega
  rcases this with rfl | rfl | rfl | rfl
  · exact ⟨20, rfl, by decide, by decide⟩
  · exact ⟨20, rfl, by decide, by decide⟩
  · exact ⟨20, rfl, by decide, by decide⟩
  · exact ⟨119, rfl, by decide, by decide⟩
section
variable {P : Program} {w : World} {K : PySem.W.Frag} {mg : Str → Option Value} {base : Heap}
theorem ok_order {f f1 : Addr} {fd fd1 : FuncData} (B : Blt mg) (D : Dn K mg "_law_order" s__law_order ["state", "size"] f fd) (D_law_draw : Dn K mg "_law_draw" s__law_draw ["state", "many"] f1 fd1)
    (G_law_draw : FnOk P w K mg base CX0 1 f1 fd1 ["state", "many"] spDraw) : FnOk P w K mg base CX0 2 f fd ["state", "size"] spOrder := by
  refine D.F.ok sc__law_order (fun vs H Q E h => ?_) (fun cdv A outer s H vs Q E hr h => ?_)
  · obtain ⟨st, g, R, B, most, rfl, _⟩ := h
    rfl
  · obtain ⟨st, g, R, C, size, rfl, rfl, o, h1, h2, q⟩ := h
    refine ⟨_, (pss_cons (ps_set (i := 2) sc__law_order.nd rfl (.inl rfl) (pe_lst pa_nil))
      (pss_cons (ps_for PassesOwn.never rfl (pi_range1 (by rfl) B.m_range (pa_cons (pv 1) pa_nil)) (pg_name (i := 3) sc__law_order.nd rfl (.inl rfl)) (pss_one (ps_expr (pe_bmK (K := K) rfl PySem.F.plainAttrs_list PySem.F.slot_list_insert PySem.F.type_list_insert mt_insert' (pv 2) (pa_cons (pe_call G_law_draw (hr.mono (by decide)) (by rfl) D_law_draw.g D_law_draw.F.kp D_law_draw.b .nil pass0 (pa_cons (pv 0) (pa_cons (pe_op op_add (pv 3) pe_int) pa_nil))) (pa_cons (pv 3) pa_nil))))))
      (pss_one (ps_ret (pv 2))))), ?_⟩
    walk_at "begin"
    walk_at "go"
    refine ⟨size_nil, fun D nD => ?_⟩
    obtain ⟨e, o1, n1⟩ := newT_eq (topRg st g) o nD (.lst [])
    rw [e]
    walk_at "go"
    refine r_forR ?_ ?_ (fun i σ H => ∃ (R : RS) (r : List Int) (y : Option V), σ = [some (.ref st), some (.int size), some (.ref D), y] ∧ H = rg st g R (upd C D (.lst (r.map V.int))) ∧ Ok st g R (upd C D (.lst (r.map V.int))) ∧ r.Perm ((List.range i).map Int.ofNat)) ?_ ?_ ?_
    · omega
    · omega
    · exact ⟨R, [], none, rfl, rfl, o1, List.Perm.refl _⟩
    · rintro i σ H hi ⟨R1, r, y, rfl, rfl, o2, hp⟩
      have hl : r.length = i := by rw [hp.length_eq, List.length_map, List.length_range]
      walk_at "go"
      rename_i R3 n3 o3 n30 n31
      walk_at "go"
      rw [(setTD_eq (topRg st g) o3 _).1]
      refine ⟨R3, r.take n3.toNat ++ [(i : Int)] ++ r.drop n3.toNat, _, rfl, ?_, ?_, ?_⟩
      · rw [List.map_append, List.map_append, List.map_take, List.map_drop]; rfl
      · have o4 := (setTD_eq (topRg st g) o3 (.lst ((r.take n3.toNat ++ [(i : Int)] ++ r.drop n3.toNat).map V.int))).2
        exact o4
      · rw [List.range_succ, List.map_append]
        exact (perm_ins r n3.toNat (i : Int)).trans (hp.append_right _)
    · rintro σ H ⟨R1, r, y, rfl, rfl, o2, hp⟩
      walk_at "go"
      exact q R1 _ D r o2 (same_new n1) n1 upd_same hp
theorem ok_wide {f f1 : Addr} {fd fd1 : FuncData} (B : Blt mg) (D : Dn K mg "_law_wide" s__law_wide ["state"] f fd) (D_law_draw : Dn K mg "_law_draw" s__law_draw ["state", "many"] f1 fd1)
    (G_law_draw : FnOk P w K mg base CX0 1 f1 fd1 ["state", "many"] spDraw) : FnOk P w K mg base CX0 2 f fd ["state"] spWide := by
  refine D.F.ok sc__law_wide (fun vs H Q E h => ?_) (fun cdv A outer s H vs Q E hr h => ?_)
  · obtain ⟨st, g, R, B, rfl, _⟩ := h
    rfl
  · obtain ⟨st, g, R, C, rfl, rfl, o, q⟩ := h
    refine ⟨_, (pss_cons (ps_set (i := 1) sc__law_wide.nd rfl (.inl rfl) (pe_op op_add pe_int (pe_call G_law_draw (hr.mono (by decide)) (by rfl) D_law_draw.g D_law_draw.F.kp D_law_draw.b .nil pass0 (pa_cons (pv 0) (pa_cons (pe_ix (ix_listK (K := K) rfl) (pe_lst (pa_cons pe_int (pa_cons pe_int (pa_cons pe_int (pa_cons pe_int pa_nil))))) (pe_call G_law_draw (hr.mono (by decide)) (by rfl) D_law_draw.g D_law_draw.F.kp D_law_draw.b .nil pass0 (pa_cons (pv 0) (pa_cons pe_int pa_nil))) (fun _ _ => rfl)) pa_nil)))))
      (pss_cons (ps_set (i := 2) sc__law_wide.nd rfl (.inl rfl) (pe_lst pa_nil))
      (pss_cons (ps_for PassesOwn.never rfl (pi_range1 (by rfl) B.m_range (pa_cons (pv 1) pa_nil)) (pg_name (i := 3) sc__law_wide.nd rfl (.inr rfl)) (pss_cons (ps_set (i := 4) sc__law_wide.nd rfl (.inl rfl) (pe_call G_law_draw (hr.mono (by decide)) (by rfl) D_law_draw.g D_law_draw.F.kp D_law_draw.b .nil pass0 (pa_cons (pv 0) (pa_cons pe_int pa_nil))))
      (pss_one (ps_expr (pe_bmK (K := K) rfl PySem.F.plainAttrs_list PySem.F.slot_list_append PySem.F.type_list_append mt_append (pv 2) (pa_cons (pe_callB (cr_sortedSetK (w := w) rfl rfl) (by rfl) B.m_sorted (by decide +kernel) (pa_cons (pe_callTy (cr_setOf (K := K) (w := w) rfl rfl rfl) (by rfl) B.m_set (by decide +kernel) (pa_cons (pe_lc (own := [("k", 5)]) rfl sc__law_wide.nd (pi_range1 (by rfl) B.m_range (pa_cons (pv 4) pa_nil)) (blkOk_by (own := [("k", 5)]) (by kernel_rfl))
        (fun _ _ _ _ _ => (pg_name (i := 5) sc__law_wide.nd rfl (.inl rfl))) (fun _ _ _ _ _ => (pts_one (pt_cmpR op_gt (pv 3) pe_int (nomark _))))
        (fun _ _ _ _ _ => (pe_callTy call_int1 (by rfl) B.m_int (by decide +kernel) (pa_cons (pe_call G_law_draw (hr.mono (by decide)) (by rfl) D_law_draw.g D_law_draw.F.kp D_law_draw.b .nil pass0 (pa_cons (pv 0) (pa_cons (pv 3) pa_nil))) pa_nil)))) pa_nil)) pa_nil)) pa_nil))))))
      (pss_one (ps_ret (pv 2)))))), ?_⟩
    walk_at "begin"
    walk_at "go"
    walk_at "new"
    rename_i p0 np0 o0 n0
    walk_at "go"
    rename_i R1 z1 o1 z10 z11
    obtain ⟨m, hm, hm1, hm2⟩ := at_four z10 z11
    walk_at "go"
    rename_i R2 z2 o2 z20 z21
    walk_at "go"
    have hS0 := same_new (o := .lst [.int 20, .int 20, .int 20, .int 119]) n0
    generalize upd C p0 (.lst [.int 20, .int 20, .int 20, .int 119]) = C1 at o2 hS0 ⊢
    clear o1 o0 np0
    refine ⟨size_nil, fun D nD => ?_⟩
    obtain ⟨e, o3, n3⟩ := newT_eq (topRg st g) o2 nD (.lst [])
    rw [e]
    walk_at "go"
    refine r_forR ?_ ?_ (fun i σ H => ∃ (R : RS) (C2 : Hp) (as : List Addr) (rs : List (List Int)) (y1 y2 y3 : Option V), σ = [some (.ref st), some (.int (10 + z2)), some (.ref D), y1, y2, y3] ∧ H = rg st g R (upd C2 D (.lst (as.map V.ref))) ∧ Ok st g R (upd C2 D (.lst (as.map V.ref))) ∧ C2 D = none ∧ Same C1 C2 ∧
      Rw C2 as rs ∧ as.length = i ∧ ∀ r ∈ rs, Gd ((10 + z2).toNat : Int) 200 r) ?_ ?_ ?_
    · omega
    · omega
    · exact ⟨R2, C1, [], [], none, none, none, rfl, rfl, o3, n3, Same.refl _, Rw.nil, rfl, fun r hr => nomatch hr⟩
    · rintro i σ H hi ⟨R4, C2, as, rs, y1, y2, y3, rfl, rfl, o4, hD4, hS4, hrw, hla, hwf⟩
      walk_at "go"
      rename_i R5 z5 o5 z50 z51
      walk_at "go"
      refine lcT_range (topRg st g) o5 ?_ ?_ (fun j C acc => ∃ r : List Int, acc = r.map V.int ∧ r.length ≤ j ∧ ∀ e ∈ r, 0 ≤ e ∧ e < (i : Int)) ⟨[], rfl, Nat.le_refl _, fun e he => nomatch he⟩ ?_ ?_
      · omega
      · omega
      · rintro D2 j R6 C6 acc o6 hD6 hS6 hj ⟨r, rfl, hr1, hr2⟩
        walk_at "begin"
        walk_at "go"
        refine ⟨rfl, ?_⟩
        walk_at "go"
        refine r_ite (fun hpos => ?_) (fun _ => ?_)
        · walk_at "go"
          rename_i R7 z7 o7 z70 z71
          walk_at "go"
          refine lcN_put (topRg st g) o7 hD6 hS6 ?_ ⟨r ++ [z7], ints_push _ _, ?_, all_push hr2 ?_⟩
          · rw [List.length_map]; omega
          · rw [List.length_append, List.length_singleton]; omega
          · omega
        · exact lcN_skip o6 hD6 hS6 ⟨r, rfl, by omega, hr2⟩
      · rintro D2 R6 C6 acc o6 hB6 hD6 hS6 ⟨r, rfl, hr1, hr2⟩
        obtain ⟨C7, e, q1, q2, q3, q4, q5⟩ := under (y := .lst (r.map V.int)) hD4 hB6 hS6
        rw [e] at o6 ⊢
        walk_at "go"
        intro c p hc np
        obtain ⟨e, o7, hD7, n7, ne7⟩ := newTD_eq (topRg st g) o6 q1 np (SetO w p (fun j => decide (j ∈ r)) c)
        rw [e]
        walk_at "go"
        intro r2 p2 hs2 hm2 hl2 np2
        obtain ⟨e, o8, hD8, n8, ne8⟩ := newTD_eq (topRg st g) o7 hD7 np2 (.lst (r2.map V.int))
        rw [e]
        walk_at "go"
        rw [(setTD_eq (topRg st g) o8 _).1]
        have o9 := (setTD_eq (topRg st g) o8 (.lst ((as ++ [p2]).map V.ref))).2
        have sm := (q2.trans (same_new (o := SetO w p (fun j => decide (j ∈ r)) c) n7)).trans (same_new (o := .lst (r2.map V.int)) n8)
        refine ⟨R6, _, as ++ [p2], rs ++ [r2], _, _, _, rfl, by rw [refs_push], o9, hD8, hS4.trans sm, (hrw.mono sm).push upd_same, by rw [List.length_append, List.length_singleton, hla], wf_push hwf ⟨by omega, nodup_lt hs2, fun e he => ?_⟩⟩
        have h9 := (hm2 e).mp he
        have h10 := hr2 e (of_decide_eq_true h9)
        omega
    · rintro σ H ⟨R4, C2, as, rs, y1, y2, y3, rfl, rfl, o4, hD4, hS4, hrw, hla, hwf⟩
      walk_at "go"
      have hD : C D = none := hS0.free n3
      exact q R4 _ D as rs (10 + z2).toNat o4 ((hS0.trans hS4).trans (same_new hD4)) hD upd_same (hrw.mono (same_new hD4)) ⟨by rw [← hrw.1, hla], hwf⟩ (by omega) (by omega)
end
end K34
namespace K34
open PySem PySem.Spec PyProof.Rows L2 Lw


local macro_rules | `(tactic| walk_at "look") => `(tactic| first
  | assumption
  | with_reducible exact upd_same
  | with_reducible exact rg_st
  | with_reducible exact rg_g (by assumption)
  | (with_reducible refine upd_old (by assumption) ?_; walk_at "look")
  | (with_reducible refine rg_get (by assumption) ?_; walk_at "look")
  | (with_reducible refine Same.get (by assumption) ?_; walk_at "look"))
local macro_rules | `(tactic| walk_at "cond") => `(tactic| first
  | (show _ ≠ _; omega) | exact cdivN (by omega) (by omega) | exact cmul_mod (by decide) (by decide) | exact cmulR (by omega) (by omega) | exact cmulL (by omega) (by omega) | exact cpow (by omega) (by omega) (by omega) (by omega) | (show (0:Int) ≤ _; omega))
local macro_rules | `(tactic| walk_at "at") => `(tactic| first | assumption | with_unfolding_all rfl)
local macro_rules | `(tactic| walk_at "sz") => `(tactic| first | assumption | (refine small ?_; omega) | (refine small ?_; simp only [List.length_map, List.length_append, List.length_cons, List.length_nil]; omega))
local macro_rules | `(tactic| walk_at "len") => `(tactic| first | exact size_nil | exact Nat.le_of_lt (small (by simp only [List.length_cons, List.length_nil, List.length_map]; omega)))
local macro_rules | `(tactic| walk_at "newD") => `(tactic| (refine ⟨by walk_at "len", fun p np => ?_⟩; obtain ⟨e, o', hD', n', ne'⟩ := newTD_eq (topRg _ _) (by assumption) (by assumption) np (.lst _); rw [e]; clear e))
local macro_rules | `(tactic| walk_at "new") => `(tactic| (refine ⟨by walk_at "len", fun p np => ?_⟩; obtain ⟨e, o', n'⟩ := newT_eq (topRg _ _) (by assumption) np (.lst _); rw [e]; clear e))
local macro_rules | `(tactic| walk_at "st") => `(tactic| first
  | with_reducible refine r_seq ?_
  | with_reducible refine r_var rfl ?_
  | with_reducible refine r_c ?_
  | with_reducible refine r_asg ?_
  | (with_reducible refine r_name ?_; dsimp only [List.set_cons_zero, List.set_cons_succ])
  | with_reducible refine r_sub ?_
  | with_reducible refine r_op ?_
  | with_reducible refine r_i0 ?_
  | (with_reducible refine' r_i ?k1 ?_; (case k1 => walk_at "cond"))
  | with_reducible refine r_cons ?_
  | with_reducible refine r_nil ?_
  | with_reducible refine r_cb ?_
  | with_reducible refine r_call ?_
  | with_reducible refine r_ifs ?_
  | with_reducible refine r_test ?_
  | with_reducible refine r_tB ?_
  | with_reducible refine r_bl ?_
  | with_reducible refine r_ret ?_
  | with_reducible refine r_drop ?_
  | with_reducible refine r_next ?_
  | (with_reducible refine' r_ixL ?k1 ?k2 ?_; (case k1 => walk_at "look"); (case k2 => walk_at "at"))
  | (with_reducible refine' r_setL ?k1 ?k2 ?_; (case k1 => walk_at "look"); (case k2 => walk_at "at"))
  | with_reducible refine r_aug rfl ?_
  | with_reducible refine r_augS ?_
  | with_reducible refine r_ipI ?_
  | with_reducible refine r_un ?_
  | with_reducible refine r_u ?_
  | with_reducible refine r_eq rfl ?_
  | with_reducible refine r_ne rfl ?_
  | with_reducible refine r_chain ?_
  | with_reducible refine iteF ?_
  | with_reducible refine r_not ?_
  | with_reducible refine r_and ?_
  | with_reducible refine r_or ?_
  | with_reducible refine r_andV ?_
  | with_reducible refine r_orV ?_
  | with_reducible refine r_notV ?_
  | with_reducible refine r_lst ?_
  | with_reducible refine r_bm ?_
  | with_reducible refine r_bm0 ?_
  | (with_reducible refine' And.intro (r_ty ?k1) ?_; (case k1 => walk_at "look"))
  | (with_reducible refine' r_append ?k1 ?k2 ?_; (case k1 => walk_at "look"); (case k2 => walk_at "sz"))
  | (with_reducible refine' r_lenK ?k1 ?_; (case k1 => walk_at "look"))
  | (with_reducible refine' r_listOf ?k1 ?_; (case k1 => walk_at "look"))
  | (with_reducible refine' r_sortedI ?k1 ?_; (case k1 => walk_at "look"))
  | (with_reducible refine' r_sum ?k1 ?_; (case k1 => walk_at "look"))
  | with_reducible refine r_int ?_
  | (with_reducible refine' r_draw (by assumption) ?k1 ?k2 ?_; (case k1 => omega); (case k2 => omega); intro R' n' o' h' h'')
  | with_reducible refine iteT ?_
  | with_reducible refine r_revL ?_
  | with_reducible refine r_lc ?_
  | with_reducible refine r_yes ?_
  | with_reducible refine r_for ?_
  | with_reducible refine r_iList ?_
  | with_reducible refine r_rng1 ?_
  | with_reducible refine r_enum ?_
  | (with_reducible show Ends.nx _ _ _; dsimp only)
  | (with_reducible show Ends.rt _ _ _; dsimp only)
  | (with_reducible show Ends.ct _ _ _; dsimp only)
  | (with_reducible show Ends.bk _ _ _; dsimp only))
local macro_rules | `(tactic| walk_at "go") => `(tactic| repeat (walk_at "st"))
local macro_rules | `(tactic| walk_at "begin") => `(tactic| dsimp only [cxOf, wipe, L2.start, List.map, List.length_cons, List.length_nil, Nat.reduceAdd, Nat.reduceSub, List.replicate, List.cons_append, List.nil_append])


local macro_rules | `(tactic| walk_at "st") => `(tactic| first
  | (with_reducible refine' r_inI ?k1 ?_; (case k1 => walk_at "look"))
  | (with_reducible refine' r_cat ?k1 ?k2 ?k3 ?_; (case k1 => walk_at "look"); (case k2 => walk_at "look"); (case k3 => (simp only [List.length_map, List.length_cons, List.length_nil]; omega))))
/-- rows given another order -/
def spMoved : Sp := fun vs H Q _ => ∃ (a b : Addr) (as : List Addr) (rs : List (List Int)) (n L : Nat) (od : List Int), vs = [.ref a, .ref b] ∧ H a = some (.lst (as.map V.ref)) ∧ Rw H as rs ∧ Wf n L rs ∧ n ≤ 200 ∧ L ≤ 1000 ∧
  H b = some (.lst (od.map V.int)) ∧ od.Perm ((List.range n).map Int.ofNat) ∧
  ∀ (H' : Hp) (p : Addr) (as' : List Addr) (rs' : List (List Int)), Same H H' → H p = none → H' p = some (.lst (as'.map V.ref)) → Rw H' as' rs' → Wf n L rs' → (∀ c ∈ as', H c = none) → Q (.ref p) H'
def spRinged : Sp := fun vs H Q _ => ∃ (st g : Addr) (R : RS) (B : Hp) (a : Addr) (as : List Addr) (rs : List (List Int)) (n L : Nat), vs = [.ref st, .ref a] ∧ H = rg st g R B ∧ Ok st g R B ∧
  B a = some (.lst (as.map V.ref)) ∧ Rw B as rs ∧ Wf n L rs ∧ 1 ≤ n ∧ n ≤ 128 ∧ L ≤ 200 ∧ PostRows st g B Q (L + 128)
theorem mem_order {od : List Int} {n : Nat} (h : od.Perm ((List.range n).map Int.ofNat)) {z : Int} : z ∈ od ↔ 0 ≤ z ∧ z < n := by
  rw [h.mem_iff, List.mem_map]
  constructor
  · rintro ⟨k, hk, rfl⟩
    have := List.mem_range.mp hk
    exact ⟨Int.natCast_nonneg _, by show (k : Int) < n; omega⟩
  · rintro ⟨h0, h1⟩
    exact ⟨z.toNat, List.mem_range.mpr (by omega), by show ((z.toNat : Nat) : Int) = z; omega⟩
theorem len_order {od : List Int} {n : Nat} (h : od.Perm ((List.range n).map Int.ofNat)) : od.length = n := by rw [h.length_eq, List.length_map, List.length_range]
section
variable {P : Program} {w : World} {K : PySem.W.Frag} {mg : Str → Option Value} {base : Heap}
theorem ok_moved {f : Addr} {fd : FuncData} {k : Nat} (B : Blt mg) (D : Dn K mg "_law_moved" s__law_moved ["rows", "order"] f fd) : FnOk P w K mg base CX0 (k + 1) f fd ["rows", "order"] spMoved := by
  refine D.F.ok sc__law_moved (fun vs H Q E h => ?_) (fun cdv A outer s H vs Q E hr h => ?_)
  · obtain ⟨a, b, as, rs, n, L, od, rfl, _⟩ := h
    rfl
  · obtain ⟨a, b, as, rs, n, L, od, rfl, ha, hrw, hwf, hn, hL, hb, hod, q⟩ := h
    refine ⟨_, (pss_cons (ps_set (i := 2) sc__law_moved.nd rfl (.inl rfl) (pe_lst pa_nil))
      (pss_cons (ps_for PassesOwn.never rfl (pi_listK (K := K) rfl (pv 1)) (pg_name (i := 3) sc__law_moved.nd rfl (.inl rfl)) (pss_one (ps_expr (pe_bmK (K := K) rfl PySem.F.plainAttrs_list PySem.F.slot_list_append PySem.F.type_list_append mt_append (pv 2) (pa_cons (pe_callB (cr_sortedK (K := K) rfl) (by rfl) B.m_sorted (by decide +kernel) (pa_cons (pe_lc (own := [("place", 4)]) rfl sc__law_moved.nd (pi_listK (K := K) rfl (pe_ix (ix_listK (K := K) rfl) (pv 0) (pv 3) (fun _ _ => rfl))) (blkOk_by (own := [("place", 4)]) (by kernel_rfl))
        (fun _ _ _ _ _ => (pg_name (i := 4) sc__law_moved.nd rfl (.inl rfl))) (fun _ _ _ _ _ => pts_nil)
        (fun _ _ _ _ _ => (pe_callTy call_int1 (by rfl) B.m_int (by decide +kernel) (pa_cons (pe_bmK (K := K) rfl PySem.F.plainAttrs_list PySem.F.slot_list_index PySem.F.type_list_index (mt_indexK (K := K) rfl) (pv 1) (pa_cons (pv 4) pa_nil)) pa_nil)))) pa_nil)) pa_nil)))))
      (pss_one (ps_ret (pv 2))))), ?_⟩
    walk_at "begin"
    walk_at "go"
    refine ⟨size_nil, fun D nD => ?_⟩
    walk_at "go"
    refine r_forL (xs := od.map V.int) (by walk_at "look") (fun i σ H' => ∃ (C : Hp) (as' : List Addr) (rs' : List (List Int)) (y1 y2 : Option V), σ = [some (.ref a), some (.ref b), some (.ref D), y1, y2] ∧ H' = upd C D (.lst (as'.map V.ref)) ∧ C D = none ∧ Same H C ∧ Rw C as' rs' ∧ as'.length = i ∧
      (∀ r ∈ rs', Gd (n : Int) L r) ∧ ∀ c ∈ as', H c = none) ?_ ?_ ?_ ?_
    · exact ⟨H, [], [], none, none, rfl, rfl, nD, Same.refl _, Rw.nil, rfl, (fun r hr => nomatch hr), (fun c hc => nomatch hc)⟩
    · rintro i σ H' _ ⟨C, as', rs', y1, y2, rfl, rfl, hD, hS, _⟩
      exact upd_old hD (hS _ _ hb)
    · rintro i x σ H' hx ⟨C, as', rs', y1, y2, rfl, rfl, hD, hS, hrw', hla, hwf', hfr'⟩
      obtain ⟨z, rfl, hz⟩ := ints_at hx
      obtain ⟨z0, z1⟩ := (mem_order hod).mp (List.mem_of_getElem? hz)
      have hi : i < n := by
        have := (List.getElem?_eq_some_iff.mp hz).1
        rw [len_order hod] at this
        exact this
      have hla0 : as.length = n := by rw [hrw.1]; exact hwf.1
      obtain ⟨c, hc⟩ : ∃ c, as[z.toNat]? = some c := ⟨_, List.getElem?_eq_getElem (by omega)⟩
      obtain ⟨r, hr1, hr2⟩ := (hrw.mono hS).2 _ _ hc
      obtain ⟨w1, w3, w2⟩ := hwf.2 r (List.mem_of_getElem? hr1)
      have hat : atI (as.map V.ref) z = some (.ref c) := at_i z0 (by rw [List.getElem?_map, hc]; rfl)
      have ha' : upd C D (.lst (as'.map V.ref)) a = some (.lst (as.map V.ref)) := upd_old hD (hS _ _ ha)
      have hb' := hS _ _ hb
      walk_at "go"
      refine lcT_list topH (K := K) (s0 := ()) trivial (upd_old hD hr2) (fun j C acc => ∃ r' : List Int, acc = r'.map V.int ∧ r'.length = j ∧ (r'.map fun m => od[m.toNat]?) = (r.take j).map some ∧ ∀ e ∈ r', 0 ≤ e ∧ e < (n : Int)) ⟨[], rfl, rfl, rfl, fun e he => nomatch he⟩ ?_ ?_
      · rintro D2 j x _ C2 acc _ hD2 hS2 hx2 ⟨r', rfl, hl', hi', hw'⟩
        obtain ⟨y, rfl, hy⟩ := ints_at hx2
        have hj := (List.getElem?_eq_some_iff.mp hy).1
        obtain ⟨m, hm1, hm2, hm3⟩ := first_at ((mem_order hod).mpr (w2 y (List.mem_of_getElem? hy)))
        have hb2 : upd C2 D2 (.lst (r'.map V.int)) b = some (.lst (od.map V.int)) := upd_old hD2 (hS2 _ _ (upd_old hD hb'))
        rw [len_order hod] at hm3
        walk_at "begin"
        walk_at "go"
        refine ⟨rfl, ?_⟩
        walk_at "go"
        refine r_index hb2 hm1 hm2 ?_
        walk_at "go"
        refine lcN_put topH (s := ()) trivial hD2 hS2 ?_ ⟨r' ++ [(m : Int)], ints_push _ _, ?_, ?_, all_push hw' ?_⟩
        · rw [List.length_map]; omega
        · rw [List.length_append, List.length_singleton]; omega
        · rw [List.map_append, hi', List.take_add_one, hy, List.map_append]
          show _ ++ [od[((m : Nat) : Int).toNat]?] = _
          rw [Int.toNat_natCast, hm1]; rfl
        · omega
      · rintro D2 _ C2 acc _ hB2 hD2 hS2 ⟨r', rfl, hl', hi', hw'⟩
        rw [List.length_map] at hl' hi'
        rw [List.take_length] at hi'
        have hnd : r'.Nodup := nodup_of_map (f := fun m : Int => od[m.toNat]?) (by rw [hi']; exact nodup_map (fun x y e => Option.some.inj e) w3)
        obtain ⟨C3, e, q1, q2, q3, q4, q5⟩ := under (y := .lst (r'.map V.int)) hD hB2 hS2
        try dsimp only
        rw [e]
        walk_at "go"
        intro ns' p hp hs np
        obtain ⟨e, _, hD4, n4, ne4⟩ := newTD_eq topH (s := ()) trivial q1 np (.lst (ns'.map V.int))
        try dsimp only at e
        rw [e]
        walk_at "go"
        rw [upd_upd]
        have sm := q2.trans (same_new (o := .lst (ns'.map V.int)) n4)
        refine ⟨_, as' ++ [p], rs' ++ [ns'], _, _, rfl, by rw [refs_push], hD4, hS.trans sm, (hrw'.mono sm).push upd_same, by rw [List.length_append, List.length_singleton, hla], wf_push hwf' ⟨by rw [hp.length_eq]; omega, hp.nodup_iff.mpr hnd, fun e he => hw' e (hp.mem_iff.mp he)⟩, fun c hc => ?_⟩
        rcases List.mem_append.mp hc with z | z
        · exact hfr' c z
        · rw [List.mem_singleton.mp z]; exact (hS.trans q2).free n4
    · rintro σ H' ⟨C, as', rs', y1, y2, rfl, rfl, hD, hS, hrw', hla, hwf', hfr'⟩
      walk_at "go"
      rw [List.length_map, len_order hod] at hla
      exact q _ D as' rs' (hS.trans (same_new hD)) nD upd_same (hrw'.mono (same_new hD)) ⟨by rw [← hrw'.1, hla], hwf'⟩ hfr'
theorem ok_ringed {f f1 f2 : Addr} {fd fd1 fd2 : FuncData} (B : Blt mg) (D : Dn K mg "_law_ringed" s__law_ringed ["state", "rows"] f fd) (D_law_draw : Dn K mg "_law_draw" s__law_draw ["state", "many"] f1 fd1)
    (G_law_draw : FnOk P w K mg base CX0 1 f1 fd1 ["state", "many"] spDraw) (D_law_order : Dn K mg "_law_order" s__law_order ["state", "size"] f2 fd2) (G_law_order : FnOk P w K mg base CX0 2 f2 fd2 ["state", "size"] spOrder) :
    FnOk P w K mg base CX0 3 f fd ["state", "rows"] spRinged := by
  refine D.F.ok sc__law_ringed (fun vs H Q E h => ?_) (fun cdv A outer s H vs Q E hr h => ?_)
  · obtain ⟨st, g, R, B, a, as, rs, n, L, rfl, _⟩ := h
    rfl
  · obtain ⟨st, g, R, C, a, as, rs, n, L, rfl, rfl, o, ha, hrw, hwf, hn1, hn2, hL, q⟩ := h
    have hla : as.length = n := by rw [hrw.1]; exact hwf.1
    refine ⟨_, (pss_cons (ps_set (i := 2) sc__law_ringed.nd rfl (.inl rfl) (pe_call G_law_order (hr.mono (by decide)) (by rfl) D_law_order.g D_law_order.F.kp D_law_order.b .nil pass0 (pa_cons (pv 0) (pa_cons (pe_callB (call_len_seqK (K := K) rfl) (by rfl) B.m_len PySem.boot_len (pa_cons (pv 1) pa_nil)) pa_nil))))
      (pss_cons (ps_set (i := 3) sc__law_ringed.nd rfl (.inl rfl) (pe_op op_add pe_int (pe_call G_law_draw (hr.mono (by decide)) (by rfl) D_law_draw.g D_law_draw.F.kp D_law_draw.b .nil pass0 (pa_cons (pv 0) (pa_cons (pe_callB (call_len_seqK (K := K) rfl) (by rfl) B.m_len PySem.boot_len (pa_cons (pv 1) pa_nil)) pa_nil)))))
      (pss_cons (ps_setLc (i := 4) (own := [("row", 8)]) rfl sc__law_ringed.nd rfl rfl (sw_true rfl rfl rfl (by decide +kernel)) (pi_listK (K := K) rfl (pv 1)) (blkOk_by (own := [("row", 8)]) (by kernel_rfl))
        (fun _ _ _ _ _ => (pg_name (i := 8) sc__law_ringed.nd rfl (.inl rfl))) (fun _ _ _ _ _ => pts_nil)
        (fun _ _ _ _ _ => (pe_callTy (call_list_ofK (K := K) rfl) (by rfl) B.m_list (by decide +kernel) (pa_cons (pv 8) pa_nil))))
      (pss_cons (ps_for PassesOwn.never rfl (pi_range1 (by rfl) B.m_range (pa_cons (pv 3) pa_nil)) (pg_name (i := 5) sc__law_ringed.nd rfl (.inl rfl)) (pss_cons (ps_set (i := 6) sc__law_ringed.nd rfl (.inl rfl) (pe_ix (ix_listK (K := K) rfl) (pv 2) (pv 5) (fun _ _ => rfl)))
      (pss_cons (ps_set (i := 7) sc__law_ringed.nd rfl (.inl rfl) (pe_ix (ix_listK (K := K) rfl) (pv 2) pe_int (fun _ _ => rfl)))
      (C8.pss_cut (ps_if (pt_cmpR op_lt (pe_op op_add (pv 5) pe_int) (pv 3) (nomark _)) (pss_one (ps_set (i := 7) sc__law_ringed.nd rfl (.inl rfl) (pe_ix (ix_listK (K := K) rfl) (pv 2) (pe_op op_add (pv 5) pe_int) (fun _ _ => rfl)))) pss_nil)
      (pss_one (ps_if (pt_cmpR (op_notIn_seqK (K := K) rfl) (pv 7) (pe_ix (ix_listK (K := K) rfl) (pv 4) (pv 6) (fun _ _ => rfl)) (by rfl)) (pss_one (ps_asg (pe_callB (cr_sortedK (K := K) rfl) (by rfl) B.m_sorted (by decide +kernel) (pa_cons (pe_lc (own := [("held", 9)]) rfl sc__law_ringed.nd (pi_listK (K := K) rfl (pe_op op_cat (pe_ix (ix_listK (K := K) rfl) (pv 4) (pv 6) (fun _ _ => rfl)) (pe_lst (pa_cons (pv 7) pa_nil)))) (blkOk_by (own := [("held", 9)]) (by kernel_rfl))
        (fun _ _ _ _ _ => (pg_name (i := 9) sc__law_ringed.nd rfl (.inl rfl))) (fun _ _ _ _ _ => pts_nil)
        (fun _ _ _ _ _ => (pe_callTy call_int1 (by rfl) B.m_int (by decide +kernel) (pa_cons (pv 9) pa_nil)))) pa_nil)) (pg_sub (pv 4) (pv 6) set_list))) pss_nil))))))
      (pss_one (ps_ret (pv 4))))))), ?_⟩
    walk_at "begin"
    walk_at "go"
    rw [List.length_map, hla]
    refine ⟨st, g, R, C, n, rfl, rfl, o, by omega, by omega, fun R1 C1 b od o1 hS1 nb hb hod => ?_⟩
    have ha1 := hS1 _ _ ha
    have hrw1 := hrw.mono hS1
    rw [Int.toNat_natCast] at hod
    walk_at "go"
    rw [List.length_map, hla]
    walk_at "go"
    rename_i R2 z2 o2 z20 z21
    walk_at "go"
    refine lcT_list (topRg st g) o2 ha1 (fun i C acc => ∃ (as' : List Addr) (rs' : List (List Int)), acc = as'.map V.ref ∧ Rw C as' rs' ∧ as'.length = i ∧ ∀ r ∈ rs', Gd (n : Int) L r)
      ⟨[], [], rfl, Rw.nil, rfl, fun r hr => nomatch hr⟩ ?_ ?_
    · rintro D1 i x R3 C3 acc o3 hD3 hS3 hx ⟨as', rs', rfl, hrw', hla', hwf'⟩
      obtain ⟨c, r1, rfl, _, hr1', hc⟩ := (hrw1.mono hS3).at hx
      have hi := (List.getElem?_eq_some_iff.mp hx).1
      rw [List.length_map, hla] at hi
      have w1 := hwf.2 r1 (List.mem_of_getElem? hr1')
      walk_at "begin"
      walk_at "go"
      refine ⟨rfl, ?_⟩
      walk_at "go"
      intro p np
      obtain ⟨e, o4, hD4, n4, ne4⟩ := newTD_eq (topRg st g) o3 hD3 np (.lst (r1.map V.int))
      rw [e]
      refine lcN_put (topRg st g) o4 hD4 (hS3.trans (same_new n4)) ?_ ⟨as' ++ [p], rs' ++ [r1], refs_push _ _, (hrw'.mono (same_new n4)).push upd_same, ?_, wf_push hwf' w1⟩
      · rw [List.length_map]; omega
      · rw [List.length_append, List.length_singleton]; omega
    · rintro D1 R3 C3 acc o3 hB3 hD3 hS3 ⟨as', rs', rfl, hrw', hla', hwf'⟩
      rw [List.length_map, hla] at hla'
      have hb3 : C3 b = some (.lst (od.map V.int)) := hS3 _ _ hb
      walk_at "go"
      refine r_forR ?_ ?_ (fun i σ H => ∃ (R : RS) (C : Hp) (as' : List Addr) (rs' : List (List Int)) (y5 y6 y7 y8 y9 : Option V), σ = [some (.ref st), some (.ref a), some (.ref b), some (.int (1 + z2)), some (.ref D1), y5, y6, y7, y8, y9] ∧ H = rg st g R (upd C D1 (.lst (as'.map V.ref))) ∧ Ok st g R (upd C D1 (.lst (as'.map V.ref))) ∧ C D1 = none ∧ Same C3 C ∧
        Rw C as' rs' ∧ as'.length = n ∧ ∀ r ∈ rs', Gd (n : Int) (L + i) r) ?_ ?_ ?_
      · omega
      · omega
      · exact ⟨R3, C3, as', rs', _, _, _, _, _, rfl, rfl, o3, hD3, Same.refl _, hrw', hla', hwf'⟩
      · rintro i σ H hi ⟨R4, C4, as4, rs4, y5, y6, y7, y8, y9, rfl, rfl, o4, hD4, hS4, hrw4, hla4, hwf4⟩
        have hb4 : rg st g R4 (upd C4 D1 (.lst (as4.map V.ref))) b = some (.lst (od.map V.int)) := rg_get o4 (upd_old hD4 (hS4 _ _ hb3))
        have hlo := len_order hod
        have at_od : ∀ z : Int, 0 ≤ z → z < n → ∃ y, atI (od.map V.int) z = some (.int y) ∧ 0 ≤ y ∧ y < n := fun z h0 h1 => by
          obtain ⟨y, hy⟩ : ∃ y, od[z.toNat]? = some y := ⟨_, List.getElem?_eq_getElem (by omega)⟩
          obtain ⟨q0, q1⟩ := (mem_order hod).mp (List.mem_of_getElem? hy)
          exact ⟨y, at_i h0 (by rw [List.getElem?_map, hy]; rfl), q0, q1⟩
        obtain ⟨pl, hpl, pl0, pl1⟩ := at_od i (by omega) (by omega)
        obtain ⟨on, hon, on0, on1⟩ := at_od 0 (by omega) (by omega)
        walk_at "go"
        refine ⟨fun σ H => ∃ on : Int, 0 ≤ on ∧ on < n ∧ σ = [some (.ref st), some (.ref a), some (.ref b), some (.int (1 + z2)), some (.ref D1), some (.int i), some (.int pl), some (.int on), y8, y9] ∧ H = rg st g R4 (upd C4 D1 (.lst (as4.map V.ref))), ?_, ?_⟩
        · walk_at "go"
          refine r_ite (fun hlt => ?_) (fun _ => ?_)
          · obtain ⟨on2, hon2, on20, on21⟩ := at_od (i + 1) (by omega) (by omega)
            walk_at "go"
            exact ⟨on2, on20, on21, rfl, rfl⟩
          · walk_at "go"
            exact ⟨on, on0, on1, rfl, rfl⟩
        · rintro σ H ⟨on2, on20, on21, rfl, rfl⟩
          obtain ⟨c, hc⟩ : ∃ c, as4[pl.toNat]? = some c := ⟨_, List.getElem?_eq_getElem (by omega)⟩
          obtain ⟨r, hr1, hr2⟩ := hrw4.2 _ _ hc
          have hat : atI (as4.map V.ref) pl = some (.ref c) := at_i pl0 (by rw [List.getElem?_map, hc]; rfl)
          have hix : ixN (as4.map V.ref).length pl = some pl.toNat := ix_i pl0 (by rw [List.length_map]; omega)
          obtain ⟨w1, w3, w2⟩ := hwf4 r (List.mem_of_getElem? hr1)
          walk_at "go"
          refine r_iteB (fun hnm => ?_) (fun _ => ?_)
          · walk_at "go"
            walk_at "newD"
            rename_i p1 np1 o5 hD5 n5 ne5
            have hr5 := (same_new (o := .lst [V.int on2]) n5) _ _ hr2
            walk_at "go"
            intro p2 np2
            obtain ⟨e, o6, hD6, n6, ne6⟩ := newTD_eq (topRg st g) o5 hD5 np2 (.lst (r.map V.int ++ [.int on2]))
            rw [e]
            rw [ints_push] at o6 hD6 ⊢
            refine lcT_list (topRg st g) o6 (xs := (r ++ [on2]).map V.int) (upd_old hD6 upd_same) (fun j C acc => acc = ((r ++ [on2]).take j).map V.int) rfl ?_ ?_
            · rintro D2 j x R7 C7 acc o7 hD7 hS7 hx7 rfl
              obtain ⟨y, rfl, hy⟩ := ints_at hx7
              have hj := (List.getElem?_eq_some_iff.mp hy).1
              rw [List.length_append, List.length_singleton] at hj
              walk_at "begin"
              walk_at "go"
              refine ⟨rfl, ?_⟩
              walk_at "go"
              refine lcN_put (topRg st g) o7 hD7 hS7 ?_ ?_
              · rw [List.length_map, List.length_take]; omega
              · rw [ints_push, List.take_add_one, hy]; rfl
            · rintro D2 R7 C7 acc o7 hB7 hD7 hS7 rfl
              rw [List.length_map, List.take_length] at o7 ⊢
              obtain ⟨C8, e, q1, q2, q3, q4, q5⟩ := under (y := .lst ((r ++ [on2]).map V.int)) hD6 hB7 hS7
              rw [e] at o7 ⊢
              walk_at "go"
              intro ns' p hp hs np
              obtain ⟨e, o9, hD9, n9, ne9⟩ := newTD_eq (topRg st g) o7 q1 np (.lst (ns'.map V.int))
              rw [e]
              walk_at "go"
              rw [refsSet, (setTD_eq (topRg st g) o9 _).1]
              have o10 := (setTD_eq (topRg st g) o9 (.lst ((as4.set pl.toNat p).map V.ref))).2
              have sm := (((same_new (o := .lst [V.int on2]) n5).trans (same_new (o := .lst ((r ++ [on2]).map V.int)) n6)).trans q2).trans (same_new (o := .lst (ns'.map V.int)) n9)
              refine ⟨R7, _, as4.set pl.toNat p, rs4.set pl.toNat ns', _, _, _, _, _, rfl, rfl, o10, hD9, hS4.trans sm, (hrw4.mono sm).set _ upd_same, by rw [List.length_set, hla4], fun r' hm => ?_⟩
              rcases List.mem_or_eq_of_mem_set hm with e | e
              · exact (hwf4 r' e).weak (by omega)
              · have hno : on2 ∉ r := fun hm => by
                  have : (!decide (on2 ∈ r)) = true := hnm
                  rw [decide_eq_true hm] at this
                  cases this
                rw [e]
                refine ⟨by rw [hp.length_eq, List.length_append, List.length_singleton]; omega, hp.nodup_iff.mpr (nodup_push w3 hno), fun z hz => ?_⟩
                rcases List.mem_append.mp (hp.mem_iff.mp hz) with q | q
                · exact w2 z q
                · rw [List.mem_singleton.mp q]; exact ⟨on20, on21⟩
          · walk_at "go"
            exact ⟨R4, C4, as4, rs4, _, _, _, _, _, rfl, rfl, o4, hD4, hS4, hrw4, hla4, fun r' hm => (hwf4 r' hm).weak (by omega)⟩
      · rintro σ H ⟨R4, C4, as4, rs4, y5, y6, y7, y8, y9, rfl, rfl, o4, hD4, hS4, hrw4, hla4, hwf4⟩
        walk_at "go"
        have hB1 : C D1 = none := hS1.free hB3
        exact q R4 _ D1 as4 rs4 n o4 (((hS1.trans hS3).trans hS4).trans (same_new hD4)) hB1 upd_same (hrw4.mono (same_new hD4)) ⟨by rw [← hrw4.1, hla4], fun r hr => (hwf4 r hr).weak (by omega)⟩ (by omega) (by omega)
end
end K34
namespace K34
open PySem PySem.Spec PyProof.Rows L2 Lw


local macro_rules | `(tactic| walk_at "look") => `(tactic| first
  | assumption
  | with_reducible exact upd_same
  | with_reducible exact rg_st
  | with_reducible exact rg_g (by assumption)
  | (with_reducible refine upd_old (by assumption) ?_; walk_at "look")
  | (with_reducible refine rg_get (by assumption) ?_; walk_at "look")
  | (with_reducible refine Same.get (by assumption) ?_; walk_at "look"))
local macro_rules | `(tactic| walk_at "cond") => `(tactic| first
  | (show _ ≠ _; omega) | exact cdivN (by omega) (by omega) | exact cmul_mod (by decide) (by decide) | exact cmulR (by omega) (by omega) | exact cmulL (by omega) (by omega) | exact cpow (by omega) (by omega) (by omega) (by omega) | (show (0:Int) ≤ _; omega))
local macro_rules | `(tactic| walk_at "at") => `(tactic| first | assumption | with_unfolding_all rfl)
local macro_rules | `(tactic| walk_at "sz") => `(tactic| first | assumption | (refine small ?_; omega) | (refine small ?_; simp only [List.length_map, List.length_append, List.length_cons, List.length_nil]; omega))
local macro_rules | `(tactic| walk_at "len") => `(tactic| first | exact size_nil | exact Nat.le_of_lt (small (by simp only [List.length_cons, List.length_nil, List.length_map]; omega)))
local macro_rules | `(tactic| walk_at "newD") => `(tactic| (refine ⟨by walk_at "len", fun p np => ?_⟩; obtain ⟨e, o', hD', n', ne'⟩ := newTD_eq (topRg _ _) (by assumption) (by assumption) np (.lst _); rw [e]; clear e))
local macro_rules | `(tactic| walk_at "new") => `(tactic| (refine ⟨by walk_at "len", fun p np => ?_⟩; obtain ⟨e, o', n'⟩ := newT_eq (topRg _ _) (by assumption) np (.lst _); rw [e]; clear e))
local macro_rules | `(tactic| walk_at "st") => `(tactic| first
  | with_reducible refine r_seq ?_
  | with_reducible refine r_var rfl ?_
  | with_reducible refine r_c ?_
  | with_reducible refine r_asg ?_
  | (with_reducible refine r_name ?_; dsimp only [List.set_cons_zero, List.set_cons_succ])
  | with_reducible refine r_sub ?_
  | with_reducible refine r_op ?_
  | with_reducible refine r_i0 ?_
  | (with_reducible refine' r_i ?k1 ?_; (case k1 => walk_at "cond"))
  | with_reducible refine r_cons ?_
  | with_reducible refine r_nil ?_
  | with_reducible refine r_cb ?_
  | with_reducible refine r_call ?_
  | with_reducible refine r_ifs ?_
  | with_reducible refine r_test ?_
  | with_reducible refine r_tB ?_
  | with_reducible refine r_bl ?_
  | with_reducible refine r_ret ?_
  | with_reducible refine r_drop ?_
  | with_reducible refine r_next ?_
  | (with_reducible refine' r_ixL ?k1 ?k2 ?_; (case k1 => walk_at "look"); (case k2 => walk_at "at"))
  | (with_reducible refine' r_setL ?k1 ?k2 ?_; (case k1 => walk_at "look"); (case k2 => walk_at "at"))
  | with_reducible refine r_aug rfl ?_
  | with_reducible refine r_augS ?_
  | with_reducible refine r_ipI ?_
  | with_reducible refine r_un ?_
  | with_reducible refine r_u ?_
  | with_reducible refine r_eq rfl ?_
  | with_reducible refine r_ne rfl ?_
  | with_reducible refine r_chain ?_
  | with_reducible refine iteF ?_
  | with_reducible refine r_not ?_
  | with_reducible refine r_and ?_
  | with_reducible refine r_or ?_
  | with_reducible refine r_andV ?_
  | with_reducible refine r_orV ?_
  | with_reducible refine r_notV ?_
  | with_reducible refine r_lst ?_
  | with_reducible refine r_bm ?_
  | with_reducible refine r_bm0 ?_
  | (with_reducible refine' And.intro (r_ty ?k1) ?_; (case k1 => walk_at "look"))
  | (with_reducible refine' r_append ?k1 ?k2 ?_; (case k1 => walk_at "look"); (case k2 => walk_at "sz"))
  | (with_reducible refine' r_lenK ?k1 ?_; (case k1 => walk_at "look"))
  | (with_reducible refine' r_listOf ?k1 ?_; (case k1 => walk_at "look"))
  | (with_reducible refine' r_sortedI ?k1 ?_; (case k1 => walk_at "look"))
  | (with_reducible refine' r_sum ?k1 ?_; (case k1 => walk_at "look"))
  | with_reducible refine r_int ?_
  | (with_reducible refine' r_draw (by assumption) ?k1 ?k2 ?_; (case k1 => omega); (case k2 => omega); intro R' n' o' h' h'')
  | with_reducible refine iteT ?_
  | with_reducible refine r_revL ?_
  | with_reducible refine r_lc ?_
  | with_reducible refine r_yes ?_
  | with_reducible refine r_for ?_
  | with_reducible refine r_iList ?_
  | with_reducible refine r_rng1 ?_
  | with_reducible refine r_enum ?_
  | (with_reducible show Ends.nx _ _ _; dsimp only)
  | (with_reducible show Ends.rt _ _ _; dsimp only)
  | (with_reducible show Ends.ct _ _ _; dsimp only)
  | (with_reducible show Ends.bk _ _ _; dsimp only))
local macro_rules | `(tactic| walk_at "go") => `(tactic| repeat (walk_at "st"))
local macro_rules | `(tactic| walk_at "begin") => `(tactic| dsimp only [cxOf, wipe, L2.start, List.map, List.length_cons, List.length_nil, Nat.reduceAdd, Nat.reduceSub, List.replicate, List.cons_append, List.nil_append])


def spDrawing : Sp := fun vs H Q _ => ∃ (st g : Addr) (R : RS) (B : Hp), vs = [.ref st] ∧ H = rg st g R B ∧ Ok st g R B ∧ PostRows st g B Q 400
theorem Wf.weak {n L L' : Nat} {rs : List (List Int)} (h : Wf n L rs) (hl : L ≤ L') : Wf n L' rs := ⟨h.1, fun r hr => (h.2 r hr).weak hl⟩
section
variable {P : Program} {w : World} {K : PySem.W.Frag} {mg : Str → Option Value} {base : Heap}
theorem ok_drawing {f f1 f2 f3 f4 f5 f6 f7 f8 : Addr} {fd fd1 fd2 fd3 fd4 fd5 fd6 fd7 fd8 : FuncData} (B : Blt mg) (D : Dn K mg "_law_drawing" s__law_drawing ["state"] f fd)
    (D_law_draw : Dn K mg "_law_draw" s__law_draw ["state", "many"] f1 fd1) (G_law_draw : FnOk P w K mg base CX0 1 f1 fd1 ["state", "many"] spDraw)
    (D_law_order : Dn K mg "_law_order" s__law_order ["state", "size"] f2 fd2) (G_law_order : FnOk P w K mg base CX0 2 f2 fd2 ["state", "size"] spOrder)
    (D_law_track : Dn K mg "_law_track" s__law_track ["state", "most"] f3 fd3) (G_law_track : FnOk P w K mg base CX0 2 f3 fd3 ["state", "most"] (spGen 200))
    (D_law_any : Dn K mg "_law_any" s__law_any ["state", "most"] f4 fd4) (G_law_any : FnOk P w K mg base CX0 2 f4 fd4 ["state", "most"] (spGen 200))
    (D_law_lower : Dn K mg "_law_lower" s__law_lower ["state", "most"] f5 fd5) (G_law_lower : FnOk P w K mg base CX0 2 f5 fd5 ["state", "most"] (spGen 200))
    (D_law_wide : Dn K mg "_law_wide" s__law_wide ["state"] f6 fd6) (G_law_wide : FnOk P w K mg base CX0 2 f6 fd6 ["state"] spWide)
    (D_law_ringed : Dn K mg "_law_ringed" s__law_ringed ["state", "rows"] f7 fd7) (G_law_ringed : FnOk P w K mg base CX0 3 f7 fd7 ["state", "rows"] spRinged)
    (D_law_moved : Dn K mg "_law_moved" s__law_moved ["rows", "order"] f8 fd8) (G_law_moved : FnOk P w K mg base CX0 1 f8 fd8 ["rows", "order"] spMoved) :
    FnOk P w K mg base CX0 4 f fd ["state"] spDrawing := by
  refine D.F.ok sc__law_drawing (fun vs H Q E h => ?_) (fun cdv A outer s H vs Q E hr h => ?_)
  · obtain ⟨st, g, R, B, rfl, _⟩ := h
    rfl
  · obtain ⟨st, g, R, C, rfl, rfl, o, q⟩ := h
    refine ⟨_, (pss_cons (ps_set (i := 1) sc__law_drawing.nd rfl (.inl rfl) (pe_call G_law_draw (hr.mono (by decide)) (by rfl) D_law_draw.g D_law_draw.F.kp D_law_draw.b .nil pass0 (pa_cons (pv 0) (pa_cons pe_int pa_nil))))
      (pss_cons (ps_if (pt_cmpR op_eq (pv 1) pe_int (nomark _)) (pss_one (ps_ret (pe_call G_law_track (hr.mono (by decide)) (by rfl) D_law_track.g D_law_track.F.kp D_law_track.b .nil pass0 (pa_cons (pv 0) (pa_cons pe_int pa_nil))))) pss_nil)
      (C8.pss_cut (ps_if (pt_chain op_lt op_lt pe_int (pv 1) pe_int) (pss_one (ps_ret (pe_call G_law_any (hr.mono (by decide)) (by rfl) D_law_any.g D_law_any.F.kp D_law_any.b .nil pass0 (pa_cons (pv 0) (pa_cons pe_int pa_nil))))) pss_nil)
      (pss_cons (ps_set (i := 2) sc__law_drawing.nd rfl (.inl rfl) (pe_call G_law_lower (hr.mono (by decide)) (by rfl) D_law_lower.g D_law_lower.F.kp D_law_lower.b .nil pass0 (pa_cons (pv 0) (pa_cons pe_int pa_nil))))
      (C8.pss_cut (ps_if (pt_cmpR op_eq (pv 1) pe_int (nomark _)) (pss_cons (ps_set (i := 2) sc__law_drawing.nd rfl (.inl rfl) (pe_call G_law_wide (hr.mono (by decide)) (by rfl) D_law_wide.g D_law_wide.F.kp D_law_wide.b .nil pass0 (pa_cons (pv 0) pa_nil)))
      (pss_one (ps_set (i := 1) sc__law_drawing.nd rfl (.inl rfl) (pe_op op_add pe_int (pe_call G_law_draw (hr.mono (by decide)) (by rfl) D_law_draw.g D_law_draw.F.kp D_law_draw.b .nil pass0 (pa_cons (pv 0) (pa_cons pe_int pa_nil))))))) pss_nil)
      (C8.pss_cut (ps_if (pt_cmpR op_lt (pv 1) pe_int (nomark _)) (pss_one (ps_set (i := 2) sc__law_drawing.nd rfl (.inl rfl) (pe_call G_law_ringed (hr.mono (by decide)) (by rfl) D_law_ringed.g D_law_ringed.F.kp D_law_ringed.b .nil pass0 (pa_cons (pv 0) (pa_cons (pv 2) pa_nil))))) pss_nil)
      (pss_one (ps_ret (pe_call G_law_moved (hr.mono (by decide)) (by rfl) D_law_moved.g D_law_moved.F.kp D_law_moved.b .nil pass0 (pa_cons (pv 2) (pa_cons (pe_call G_law_order (hr.mono (by decide)) (by rfl) D_law_order.g D_law_order.F.kp D_law_order.b .nil pass0 (pa_cons (pv 0) (pa_cons (pe_callB (call_len_seqK (K := K) rfl) (by rfl) B.m_len PySem.boot_len (pa_cons (pv 2) pa_nil)) pa_nil))) pa_nil))))))))))), ?_⟩
    walk_at "begin"
    walk_at "go"
    rename_i R1 way o1 w0 w1
    walk_at "go"
    refine r_ite (fun _ => ?_) (fun hne => ?_)
    · walk_at "go"
      exact ⟨st, g, R1, C, 128, rfl, rfl, o1, by decide, by decide, fun R' B' a as rs n h1 h2 h3 h4 h5 h6 h7 h8 => q R' B' a as rs n h1 h2 h3 h4 h5 (Wf.weak h6 (by decide)) h7 h8⟩
    · walk_at "go"
      have anyc : spGen 200 ([V.ref st, V.int 8] ++ []) (rg st g R1 C) Q E0 := ⟨st, g, R1, C, 8, rfl, rfl, o1, by decide, by decide, fun R' B' a as rs n h1 h2 h3 h4 h5 h6 h7 h8 => q R' B' a as rs n h1 h2 h3 h4 h5 (Wf.weak h6 (by decide)) h7 h8⟩
      refine ⟨fun σ H => σ = [some (.ref st), some (.int way), none] ∧ H = rg st g R1 C, ?_, ?_⟩
      · walk_at "go"
        refine r_ite (fun _ => ?_) (fun _ => ?_)
        · walk_at "go"
          refine r_ite (fun _ => ?_) (fun _ => ?_)
          · walk_at "go"
            exact anyc
          · walk_at "go"
            exact ⟨rfl, rfl⟩
        · walk_at "go"
          exact ⟨rfl, rfl⟩
      · rintro σ H ⟨rfl, rfl⟩
        walk_at "go"
        refine ⟨st, g, R1, C, 9, rfl, rfl, o1, by decide, by decide, fun R2 C2 a2 as2 rs2 n2 o2 hS2 na2 ha2 hrw2 hwf2 hn20 hn21 => ?_⟩
        walk_at "go"
        refine ⟨fun σ H => ∃ (R3 : RS) (C3 : Hp) (a3 : Addr) (as3 : List Addr) (rs3 : List (List Int)) (n3 : Nat) (way3 : Int), σ = [some (.ref st), some (.int way3), some (.ref a3)] ∧ H = rg st g R3 C3 ∧ Ok st g R3 C3 ∧ Same C C3 ∧ C3 a3 = some (.lst (as3.map V.ref)) ∧ Rw C3 as3 rs3 ∧ Wf n3 200 rs3 ∧ 1 ≤ n3 ∧ n3 ≤ 128, ?_, ?_⟩
        · walk_at "go"
          refine r_ite (fun _ => ?_) (fun _ => ?_)
          · walk_at "go"
            refine ⟨st, g, R2, C2, rfl, rfl, o2, fun R4 C4 a4 as4 rs4 n4 o4 hS4 na4 ha4 hrw4 hwf4 hn40 hn41 => ?_⟩
            walk_at "go"
            rename_i R5 z5 o5 z50 z51
            walk_at "go"
            exact ⟨R5, C4, a4, as4, rs4, n4, _, rfl, rfl, o5, hS2.trans hS4, ha4, hrw4, hwf4, hn40, hn41⟩
          · walk_at "go"
            exact ⟨R2, C2, a2, as2, rs2, n2, _, rfl, rfl, o2, hS2, ha2, hrw2, hwf2, hn20, hn21⟩
        · rintro σ H ⟨R3, C3, a3, as3, rs3, n3, way3, rfl, rfl, o3, hS3, ha3, hrw3, hwf3, hn30, hn31⟩
          walk_at "go"
          refine ⟨fun σ H => ∃ (R4 : RS) (C4 : Hp) (a4 : Addr) (as4 : List Addr) (rs4 : List (List Int)) (n4 : Nat), σ = [some (.ref st), some (.int way3), some (.ref a4)] ∧ H = rg st g R4 C4 ∧ Ok st g R4 C4 ∧ Same C C4 ∧ C4 a4 = some (.lst (as4.map V.ref)) ∧ Rw C4 as4 rs4 ∧ Wf n4 400 rs4 ∧ 1 ≤ n4 ∧ n4 ≤ 128, ?_, ?_⟩
          · walk_at "go"
            refine r_ite (fun _ => ?_) (fun _ => ?_)
            · walk_at "go"
              refine ⟨st, g, R3, C3, a3, as3, rs3, n3, 200, rfl, rfl, o3, ha3, hrw3, hwf3, hn30, hn31, by decide, fun R4 C4 a4 as4 rs4 n4 o4 hS4 na4 ha4 hrw4 hwf4 hn40 hn41 => ?_⟩
              walk_at "go"
              exact ⟨R4, C4, a4, as4, rs4, n4, rfl, rfl, o4, hS3.trans hS4, ha4, hrw4, Wf.weak hwf4 (by decide), hn40, hn41⟩
            · walk_at "go"
              exact ⟨R3, C3, a3, as3, rs3, n3, rfl, rfl, o3, hS3, ha3, hrw3, Wf.weak hwf3 (by decide), hn30, hn31⟩
          · rintro σ H ⟨R4, C4, a4, as4, rs4, n4, rfl, rfl, o4, hS4, ha4, hrw4, hwf4, hn40, hn41⟩
            walk_at "go"
            have hla : as4.length = n4 := by rw [hrw4.1]; exact hwf4.1
            rw [List.length_map, hla]
            refine ⟨st, g, R4, C4, n4, rfl, rfl, o4, by omega, by omega, fun R5 C5 b od o5 hS5 nb hb hod => ?_⟩
            rw [Int.toNat_natCast] at hod
            walk_at "go"
            refine ⟨a4, b, as4, rs4, n4, 400, od, rfl, rg_get o5 (hS5 _ _ ha4), (hrw4.mono hS5).mono (fun x y e => rg_get o5 e), hwf4, by omega, by decide, rg_get o5 hb, hod, fun H' p as' rs' hS' np hp hrw' hwf' hfr => ?_⟩
            obtain ⟨B', rfl, o6, hS6⟩ := rg_same o5 hS'
            obtain ⟨_, _, np3⟩ := rg_none np
            have npo := rg_none np
            have hSC : Same C C5 := hS4.trans hS5
            have hp6 : B' p = some (.lst (as'.map V.ref)) := by
              have : rg st g R5 B' p = B' p := by unfold rg; rw [upd_ne npo.1, upd_ne npo.2.1]
              rw [← this]; exact hp
            refine q R5 B' p as' rs' n4 o6 (hSC.trans hS6) (hSC.free np3) hp6 ⟨hrw'.1, fun i c hc => ?_⟩ hwf' hn40 hn41
            obtain ⟨r, hr1, hr2⟩ := hrw'.2 i c hc
            obtain ⟨nc1, nc2, _⟩ := rg_none (hfr c (List.mem_of_getElem? hc))
            refine ⟨r, hr1, ?_⟩
            have : rg st g R5 B' c = B' c := by unfold rg; rw [upd_ne nc1, upd_ne nc2]
            rw [← this]; exact hr2
end
end K34
namespace K34
open PySem PySem.Spec PyProof.Rows L2 Lw


local macro_rules | `(tactic| walk_at "look") => `(tactic| first
  | assumption
  | with_reducible exact upd_same
  | with_reducible exact rg_st
  | with_reducible exact rg_g (by assumption)
  | (with_reducible refine upd_old (by assumption) ?_; walk_at "look")
  | (with_reducible refine rg_get (by assumption) ?_; walk_at "look")
  | (with_reducible refine Same.get (by assumption) ?_; walk_at "look"))
local macro_rules | `(tactic| walk_at "cond") => `(tactic| first
  | (show _ ≠ _; omega) | exact cdivN (by omega) (by omega) | exact cmul_mod (by decide) (by decide) | exact cmulR (by omega) (by omega) | exact cmulL (by omega) (by omega) | exact cpow (by omega) (by omega) (by omega) (by omega) | (show (0:Int) ≤ _; omega))
local macro_rules | `(tactic| walk_at "at") => `(tactic| first | assumption | with_unfolding_all rfl)
local macro_rules | `(tactic| walk_at "sz") => `(tactic| first | assumption | (refine small ?_; omega) | (refine small ?_; simp only [List.length_map, List.length_append, List.length_cons, List.length_nil]; omega))
local macro_rules | `(tactic| walk_at "len") => `(tactic| first | exact size_nil | exact Nat.le_of_lt (small (by simp only [List.length_cons, List.length_nil, List.length_map]; omega)))
local macro_rules | `(tactic| walk_at "newD") => `(tactic| (refine ⟨by walk_at "len", fun p np => ?_⟩; obtain ⟨e, o', hD', n', ne'⟩ := newTD_eq (topRg _ _) (by assumption) (by assumption) np (.lst _); rw [e]; clear e))
local macro_rules | `(tactic| walk_at "new") => `(tactic| (refine ⟨by walk_at "len", fun p np => ?_⟩; obtain ⟨e, o', n'⟩ := newT_eq (topRg _ _) (by assumption) np (.lst _); rw [e]; clear e))
local macro_rules | `(tactic| walk_at "st") => `(tactic| first
  | with_reducible refine r_seq ?_
  | with_reducible refine r_var rfl ?_
  | with_reducible refine r_c ?_
  | with_reducible refine r_asg ?_
  | (with_reducible refine r_name ?_; dsimp only [List.set_cons_zero, List.set_cons_succ])
  | with_reducible refine r_sub ?_
  | with_reducible refine r_op ?_
  | with_reducible refine r_i0 ?_
  | (with_reducible refine' r_i ?k1 ?_; (case k1 => walk_at "cond"))
  | with_reducible refine r_cons ?_
  | with_reducible refine r_nil ?_
  | with_reducible refine r_cb ?_
  | with_reducible refine r_call ?_
  | with_reducible refine r_ifs ?_
  | with_reducible refine r_test ?_
  | with_reducible refine r_tB ?_
  | with_reducible refine r_bl ?_
  | with_reducible refine r_ret ?_
  | with_reducible refine r_drop ?_
  | with_reducible refine r_next ?_
  | (with_reducible refine' r_ixL ?k1 ?k2 ?_; (case k1 => walk_at "look"); (case k2 => walk_at "at"))
  | (with_reducible refine' r_setL ?k1 ?k2 ?_; (case k1 => walk_at "look"); (case k2 => walk_at "at"))
  | with_reducible refine r_aug rfl ?_
  | with_reducible refine r_augS ?_
  | with_reducible refine r_ipI ?_
  | with_reducible refine r_un ?_
  | with_reducible refine r_u ?_
  | with_reducible refine r_eq rfl ?_
  | with_reducible refine r_ne rfl ?_
  | with_reducible refine r_chain ?_
  | with_reducible refine iteF ?_
  | with_reducible refine r_not ?_
  | with_reducible refine r_and ?_
  | with_reducible refine r_or ?_
  | with_reducible refine r_andV ?_
  | with_reducible refine r_orV ?_
  | with_reducible refine r_notV ?_
  | with_reducible refine r_lst ?_
  | with_reducible refine r_bm ?_
  | with_reducible refine r_bm0 ?_
  | (with_reducible refine' And.intro (r_ty ?k1) ?_; (case k1 => walk_at "look"))
  | (with_reducible refine' r_append ?k1 ?k2 ?_; (case k1 => walk_at "look"); (case k2 => walk_at "sz"))
  | (with_reducible refine' r_lenK ?k1 ?_; (case k1 => walk_at "look"))
  | (with_reducible refine' r_listOf ?k1 ?_; (case k1 => walk_at "look"))
  | (with_reducible refine' r_sortedI ?k1 ?_; (case k1 => walk_at "look"))
  | (with_reducible refine' r_sum ?k1 ?_; (case k1 => walk_at "look"))
  | with_reducible refine r_int ?_
  | (with_reducible refine' r_draw (by assumption) ?k1 ?k2 ?_; (case k1 => omega); (case k2 => omega); intro R' n' o' h' h'')
  | with_reducible refine iteT ?_
  | with_reducible refine r_revL ?_
  | with_reducible refine r_lc ?_
  | with_reducible refine r_yes ?_
  | with_reducible refine r_for ?_
  | with_reducible refine r_iList ?_
  | with_reducible refine r_rng1 ?_
  | with_reducible refine r_enum ?_
  | (with_reducible show Ends.nx _ _ _; dsimp only)
  | (with_reducible show Ends.rt _ _ _; dsimp only)
  | (with_reducible show Ends.ct _ _ _; dsimp only)
  | (with_reducible show Ends.bk _ _ _; dsimp only))
local macro_rules | `(tactic| walk_at "go") => `(tactic| repeat (walk_at "st"))
local macro_rules | `(tactic| walk_at "begin") => `(tactic| dsimp only [cxOf, wipe, L2.start, List.map, List.length_cons, List.length_nil, Nat.reduceAdd, Nat.reduceSub, List.replicate, List.cons_append, List.nil_append])


open Lm
def msV (ms : List Nat) : List V := (ms.map Int.ofNat).map V.int
theorem msV_at {ms : List Nat} {i m : Nat} (h : ms[i]? = some m) : (msV ms)[i]? = some (.int (m : Int)) := by
  unfold msV; rw [List.getElem?_map, List.getElem?_map, h]; rfl
theorem msV_set (ms : List Nat) (i m : Nat) : (msV ms).set i (.int (m : Int)) = msV (ms.set i m) := by
  unfold msV; rw [List.map_set, List.map_set]; rfl
theorem msV_len (ms : List Nat) : (msV ms).length = ms.length := by unfold msV; rw [List.length_map, List.length_map]
theorem bit_test (m k : Nat) : (V.int (Builtin.bitAnd ((m : Int) / 2 ^ (k : Int).toNat) 1) = V.int 1) ↔ m.testBit k = true := by
  rw [int_eq, PyProof.Rows.bitAnd_m1, Int.toNat_natCast, Nat.testBit_eq_decide_div_mod_eq, decide_eq_true_eq]
  have : (m : Int) / 2 ^ k % 2 = ((m / 2 ^ k % 2 : Nat) : Int) := by
    rw [Int.natCast_emod, Int.natCast_ediv, Int.natCast_pow]; rfl
  rw [this]
  omega
theorem In.of {n L : Nat} {rs : List (List Int)} (h : Wf n L rs) : In rs := fun r hr e he => by
  have := (h.2 r hr).2.2 e he
  rw [h.1]; exact this
def spOnward : Sp := fun vs H Q _ => ∃ (a : Addr) (as : List Addr) (rs : List (List Int)) (n L : Nat), vs = [.ref a] ∧ H a = some (.lst (as.map V.ref)) ∧ Rw H as rs ∧ Wf n L rs ∧ n ≤ 128 ∧ L ≤ 1000 ∧
  ∀ (H' : Hp) (p : Addr) (ms : List Nat), Same H H' → H p = none → H' p = some (.lst (msV ms)) → ms.length = n → (∀ c m, ms[c]? = some m → ∀ b, m.testBit b = true ↔ Tc (Ed rs) c b) → Q (.ref p) H'
section
variable {P : Program} {w : World} {K : PySem.W.Frag} {mg : Str → Option Value} {base : Heap}
theorem ok_onward {f : Addr} {fd : FuncData} {k : Nat} (B : Blt mg) (D : Dn K mg "_law_onward" s__law_onward ["drawing"] f fd) : FnOk P w K mg base CX0 (k + 1) f fd ["drawing"] spOnward := by
  refine D.F.ok sc__law_onward (fun vs H Q E h => ?_) (fun cdv A outer s H vs Q E hr h => ?_)
  · obtain ⟨a, as, rs, n, L, rfl, _⟩ := h
    rfl
  · obtain ⟨a, as, rs, n, L, rfl, ha, hrw, hwf, hn, hL, q⟩ := h
    have hla : as.length = n := by rw [hrw.1]; exact hwf.1
    refine ⟨_, (pss_cons (ps_setLc (i := 1) (own := [("row", 4)]) rfl sc__law_onward.nd rfl rfl (sw_true rfl rfl rfl (by decide +kernel)) (pi_listK (K := K) rfl (pv 0)) (blkOk_by (own := [("row", 4)]) (by kernel_rfl))
        (fun _ _ _ _ _ => (pg_name (i := 4) sc__law_onward.nd rfl (.inl rfl))) (fun _ _ _ _ _ => pts_nil)
        (fun _ _ _ _ _ => (pe_callB (cr_sumK (K := K) rfl rfl) (by rfl) B.m_sum (by decide +kernel) (pa_cons (pe_lc (own := [("place", 5)]) rfl sc__law_onward.nd (pi_listK (K := K) rfl (pv 4)) (blkOk_by (own := [("place", 5)]) (by kernel_rfl))
        (fun _ _ _ _ _ => (pg_name (i := 5) sc__law_onward.nd rfl (.inl rfl))) (fun _ _ _ _ _ => pts_nil)
        (fun _ _ _ _ _ => (pe_op op_shl pe_int (pv 5)))) pa_nil))))
      (pss_cons (ps_for PassesOwn.never rfl (pi_range1 (by rfl) B.m_range (pa_cons (pe_callB (call_len_seqK (K := K) rfl) (by rfl) B.m_len PySem.boot_len (pa_cons (pv 0) pa_nil)) pa_nil)) (pg_name (i := 2) sc__law_onward.nd rfl (.inl rfl)) (pss_one (ps_for PassesOwn.never rfl (pi_range1 (by rfl) B.m_range (pa_cons (pe_callB (call_len_seqK (K := K) rfl) (by rfl) B.m_len PySem.boot_len (pa_cons (pv 0) pa_nil)) pa_nil)) (pg_name (i := 3) sc__law_onward.nd rfl (.inl rfl)) (pss_one (ps_if (pt_cmpR op_eq (pe_op op_and (pe_op op_shr (pe_ix (ix_listK (K := K) rfl) (pv 1) (pv 3) (fun _ _ => rfl)) (pv 2)) pe_int) pe_int (nomark _)) (pss_one (ps_asg (pe_op op_or (pe_ix (ix_listK (K := K) rfl) (pv 1) (pv 3) (fun _ _ => rfl)) (pe_ix (ix_listK (K := K) rfl) (pv 1) (pv 2) (fun _ _ => rfl))) (pg_sub (pv 1) (pv 3) set_list))) pss_nil)))))
      (pss_one (ps_ret (pv 1))))), ?_⟩
    walk_at "begin"
    walk_at "go"
    refine lcT_list topH (K := K) (s0 := ()) trivial ha (fun i C acc => acc = msV ((rs.take i).map mask)) rfl ?_ ?_
    · rintro D1 i x _ C acc _ hD hS hx rfl
      obtain ⟨b, r, rfl, _, hr1, hb⟩ := (hrw.mono hS).at hx
      have hi := (List.getElem?_eq_some_iff.mp hx).1
      rw [List.length_map, hla] at hi
      obtain ⟨w1, w3, w2⟩ := hwf.2 r (List.mem_of_getElem? hr1)
      walk_at "begin"
      walk_at "go"
      refine ⟨rfl, ?_⟩
      walk_at "go"
      refine lcT_list topH (K := K) (s0 := ()) trivial (upd_old hD hb) (fun j C acc => acc = ((r.take j).map fun e => 1 * (2 : Int) ^ e.toNat).map V.int) rfl ?_ ?_
      · rintro D2 j x _ C2 acc _ hD2 hS2 hx2 rfl
        obtain ⟨z, rfl, hz⟩ := ints_at hx2
        have hz2 := w2 z (List.mem_of_getElem? hz)
        have hj := (List.getElem?_eq_some_iff.mp hz).1
        walk_at "begin"
        walk_at "go"
        refine ⟨rfl, ?_⟩
        walk_at "go"
        refine lcN_put topH (s := ()) trivial hD2 hS2 ?_ ?_
        · rw [List.length_map, List.length_map, List.length_take]; omega
        · rw [ints_push, List.take_add_one, hz]
          show List.map V.int (_ ++ [_]) = List.map V.int (List.map _ (_ ++ [z]))
          rw [List.map_append (l₂ := [z])]; rfl
      · rintro D2 _ C2 acc _ hB2 hD2 hS2 rfl
        rw [List.length_map, List.take_length]
        obtain ⟨C3, e, q1, q2, q3, q4, q5⟩ := under (y := .lst ((r.map fun e => 1 * (2 : Int) ^ e.toNat).map V.int)) hD hB2 hS2
        try dsimp only
        rw [e]
        walk_at "go"
        rw [← mask_sum]
        refine lcN_put topH (s := ()) trivial q1 (hS.trans q2) ?_ ?_
        · rw [msV_len, List.length_map, List.length_take]; omega
        · rw [List.take_add_one, hr1, List.map_append]
          unfold msV
          rw [List.map_append, List.map_append]; rfl
    · rintro D1 _ C acc _ hB hD hS rfl
      rw [List.length_map, hla, ← hwf.1, List.take_length]
      have hl := hwf.1
      have ha1 := hS _ _ ha
      try dsimp only
      walk_at "go"
      rw [List.length_map, hla]
      refine r_forR ?_ ?_ (fun k σ H => ∃ (ms : List Nat) (y2 y3 y4 y5 : Option V), σ = [some (.ref a), some (.ref D1), y2, y3, y4, y5] ∧ H = upd C D1 (.lst (msV ms)) ∧ Ms rs k 0 ms) ?_ ?_ ?_
      · omega
      · omega
      · exact ⟨rs.map mask, _, _, _, _, rfl, rfl, Ms.init (fun r hr => (hwf.2 r hr).2.1) (In.of hwf)⟩
      · rintro k σ H' hk ⟨ms, y2, y3, y4, y5, rfl, rfl, hms⟩
        rw [Int.toNat_natCast] at hk
        walk_at "go"
        rw [List.length_map, hla]
        refine r_forR ?_ ?_ (fun i σ H => ∃ (ms : List Nat) (y3 y4 y5 : Option V), σ = [some (.ref a), some (.ref D1), some (.int k), y3, y4, y5] ∧ H = upd C D1 (.lst (msV ms)) ∧ Ms rs k i ms) ?_ ?_ ?_
        · omega
        · omega
        · exact ⟨ms, _, _, _, rfl, rfl, hms⟩
        · rintro i σ H' hi ⟨ms, y3, y4, y5, rfl, rfl, hms⟩
          rw [Int.toNat_natCast] at hi
          have hml := hms.1
          obtain ⟨x, hx⟩ : ∃ x, ms[i]? = some x := ⟨_, List.getElem?_eq_getElem (by omega)⟩
          obtain ⟨y, hy⟩ : ∃ y, ms[k]? = some y := ⟨_, List.getElem?_eq_getElem (by omega)⟩
          have ax : atI (msV ms) (i : Int) = some (.int (x : Int)) := atI_nat (msV_at hx)
          have ay : atI (msV ms) (k : Int) = some (.int (y : Int)) := atI_nat (msV_at hy)
          have ix : ixN (msV ms).length (i : Int) = some i := ix_i (by omega) (by rw [msV_len]; omega)
          walk_at "go"
          refine r_ite (fun t => ?_) (fun t => ?_)
          · walk_at "go"
            have t2 := (bit_test x k).mp t
            rw [Bits.bitOr_pp (by omega) (by omega), Int.toNat_natCast, Int.toNat_natCast, msV_set, upd_upd]
            exact ⟨_, _, _, _, rfl, rfl, hms.yes hx hy t2⟩
          · walk_at "go"
            have t2 : x.testBit k = false := by
              cases e : x.testBit k with
              | false => rfl
              | true => exact absurd ((bit_test x k).mpr e) t
            exact ⟨_, _, _, _, rfl, rfl, hms.no hx t2⟩
        · rintro σ H' ⟨ms, y3, y4, y5, rfl, rfl, hms⟩
          rw [Int.toNat_natCast, ← hl] at hms
          exact ⟨ms, _, _, _, _, rfl, rfl, hms.turn⟩
      · rintro σ H' ⟨ms, y2, y3, y4, y5, rfl, rfl, hms⟩
        rw [Int.toNat_natCast, ← hl] at hms
        walk_at "go"
        exact q _ D1 ms (hS.trans (same_new hD)) hB upd_same (by rw [hms.1, hl]) fun c m hm b => hms.final (In.of hwf) hm b
end
end K34
/-! lists of ints and lists of lists of ints as data, for == -/
namespace Lw
open PySem PySem.Spec PyProof.Rows L2
def dI (xs : List Int) : PyData := .list (xs.map PyData.int)
def dR (rs : List (List Int)) : PyData := .list (rs.map dI)
section
variable {K : PySem.W.Frag} {H : Hp}
theorem dpAllI : ∀ xs : List Int, DpAll K H (xs.map V.int) (xs.map PyData.int)
  | [] => .nil
  | x :: r => .cons (.int x) (dpAllI r)
theorem dpI {a : Addr} {xs : List Int} (h : H a = some (.lst (xs.map V.int))) : Dp K H (.ref a) (dI xs) := .lst (SqL.of h) (dpAllI xs)
theorem dpAllR : ∀ {as : List Addr} {rs : List (List Int)}, Rw H as rs → DpAll K H (as.map V.ref) (rs.map dI)
  | [], [], _ => .nil
  | [], _ :: _, h => by have := h.1; simp at this
  | _ :: _, [], h => by have := h.1; simp at this
  | a :: as, r :: rs, h => by
    obtain ⟨r', h1, h2⟩ := h.2 0 a rfl
    have e : r = r' := Option.some.inj h1
    refine .cons (dpI (by rw [e]; exact h2)) (dpAllR ⟨by have := h.1; simpa using this, fun i b hb => ?_⟩)
    obtain ⟨r2, h3, h4⟩ := h.2 (i + 1) b hb
    exact ⟨r2, h3, h4⟩
theorem dpR {a : Addr} {as : List Addr} {rs : List (List Int)} (h : H a = some (.lst (as.map V.ref))) (hr : Rw H as rs) : Dp K H (.ref a) (dR rs) := .lst (SqL.of h) (dpAllR hr)
end
theorem layI : ∀ xs : List Int, PyData.canLayAll0 (xs.map PyData.int) = true
  | [] => rfl
  | x :: r => by
    show (true && PyData.canLayAll0 (r.map PyData.int)) = true
    rw [layI r]; rfl
theorem layR : ∀ rs : List (List Int), PyData.canLayAll0 (rs.map dI) = true
  | [] => rfl
  | x :: r => by
    show (PyData.canLay0 (dI x) && PyData.canLayAll0 (r.map dI)) = true
    rw [layR r]
    show (PyData.canLayAll0 (x.map PyData.int) && true) = true
    rw [layI x]; rfl
theorem eqI : ∀ xs ys : List Int, PyData.eqvAll (xs.map PyData.int) (ys.map PyData.int) = decide (xs = ys)
  | [], [] => by simp [PyData.eqvAll]
  | [], _ :: _ => by simp [PyData.eqvAll]
  | _ :: _, [] => by simp [PyData.eqvAll]
  | x :: xs, y :: ys => by
    rw [List.map_cons, List.map_cons, PyData.eqvAll, eqI xs ys, PyData.eqv]
    by_cases h : x = y <;> by_cases h2 : xs = ys <;> simp [h, h2]
theorem eqR : ∀ xs ys : List (List Int), PyData.eqvAll (xs.map dI) (ys.map dI) = decide (xs = ys)
  | [], [] => by simp [PyData.eqvAll]
  | [], _ :: _ => by simp [PyData.eqvAll]
  | _ :: _, [] => by simp [PyData.eqvAll]
  | x :: xs, y :: ys => by
    rw [List.map_cons, List.map_cons, PyData.eqvAll, eqR xs ys, show PyData.eqv (dI x) (dI y) = decide (x = y) from by unfold dI; rw [PyData.eqv, eqI]]
    by_cases h : x = y <;> by_cases h2 : xs = ys <;> simp [h, h2]
end Lw
namespace Lw
open PySem PySem.Spec PyProof.Rows L2
theorem depI : ∀ xs : List Int, PyData.depthAll (xs.map PyData.int) = 0
  | [] => by simp [PyData.depthAll]
  | x :: r => by rw [List.map_cons, PyData.depthAll, depI r, PyData.depth]; rfl
theorem depR : ∀ rs : List (List Int), PyData.depthAll (rs.map dI) ≤ 1
  | [] => by simp [PyData.depthAll]
  | x :: r => by
    rw [List.map_cons, PyData.depthAll, show PyData.depth (dI x) = 1 from by unfold dI; rw [PyData.depth, depI]]
    exact Nat.max_le.mpr ⟨Nat.le_refl 1, depR r⟩
theorem shI (xs : List Int) : SeqAt.shaped (dI xs) = true := by
  unfold SeqAt.shaped
  rw [show PyData.canLay0 (dI xs) = true from by unfold dI; rw [PyData.canLay0]; exact layI xs, show PyData.depth (dI xs) = 1 from by unfold dI; rw [PyData.depth, depI]]
  rfl
theorem shR (rs : List (List Int)) : SeqAt.shaped (dR rs) = true := by
  unfold SeqAt.shaped
  rw [show PyData.canLay0 (dR rs) = true from by unfold dR; rw [PyData.canLay0]; exact layR rs]
  have h : PyData.depth (dR rs) ≤ 64 := by unfold dR; rw [PyData.depth]; have := depR rs; omega
  rw [decide_eq_true h]; rfl
section
variable {K : PySem.W.Frag} {σ : L2.St} {H : Hp} {Q : VK} {D : Ends}
theorem r_eqI {a b : Addr} {xs ys : List Int} (h1 : H a = some (.lst (xs.map V.int))) (h2 : H b = some (.lst (ys.map V.int))) (q : Q (.bl (decide (xs = ys))) H) : rEqD K (.ref a) (.ref b) H Q :=
  ⟨dI xs, dI ys, dpI h1, dpI h2, shI xs, shI ys, by unfold dI; rw [PyData.eqv, eqI]; exact q⟩
theorem r_neI {a b : Addr} {xs ys : List Int} (h1 : H a = some (.lst (xs.map V.int))) (h2 : H b = some (.lst (ys.map V.int))) (q : Q (.bl (!decide (xs = ys))) H) : rNeD K (.ref a) (.ref b) H Q :=
  ⟨dI xs, dI ys, dpI h1, dpI h2, shI xs, shI ys, by unfold dI; rw [PyData.eqv, eqI]; exact q⟩
theorem r_eqR {a b : Addr} {as bs : List Addr} {xs ys : List (List Int)} (h1 : H a = some (.lst (as.map V.ref))) (h2 : H b = some (.lst (bs.map V.ref))) (r1 : Rw H as xs) (r2 : Rw H bs ys) (q : Q (.bl (decide (xs = ys))) H) : rEqD K (.ref a) (.ref b) H Q :=
  ⟨dR xs, dR ys, dpR h1 r1, dpR h2 r2, shR xs, shR ys, by unfold dR; rw [PyData.eqv, eqR]; exact q⟩
theorem r_while {c : TT} {tb : TS} (Pv : Nat → L2.St → Hp → Prop) (h0 : ∃ m, Pv m σ H) (hs : ∀ m σ H, Pv m σ H → c σ H fun b H1 => if b = true then ∃ N : L2.St → Hp → Prop, (∀ σ' H', N σ' H' → ∃ m', m' < m ∧ Pv m' σ' H') ∧ tb { D with nx := N, ct := N, bk := D.nx } σ H1 else D.nx σ H1) : tWhile c tb D σ H := ⟨Pv, h0, hs⟩
end
end Lw
namespace K34
open PySem PySem.Spec PyProof.Rows L2 Lw


local macro_rules | `(tactic| walk_at "look") => `(tactic| first
  | assumption
  | with_reducible exact upd_same
  | with_reducible exact rg_st
  | with_reducible exact rg_g (by assumption)
  | (with_reducible refine upd_old (by assumption) ?_; walk_at "look")
  | (with_reducible refine rg_get (by assumption) ?_; walk_at "look")
  | (with_reducible refine Same.get (by assumption) ?_; walk_at "look"))
local macro_rules | `(tactic| walk_at "cond") => `(tactic| first
  | (show _ ≠ _; omega) | exact cdivN (by omega) (by omega) | exact cmul_mod (by decide) (by decide) | exact cmulR (by omega) (by omega) | exact cmulL (by omega) (by omega) | exact cpow (by omega) (by omega) (by omega) (by omega) | (show (0:Int) ≤ _; omega))
local macro_rules | `(tactic| walk_at "at") => `(tactic| first | assumption | with_unfolding_all rfl)
local macro_rules | `(tactic| walk_at "sz") => `(tactic| first | assumption | (refine small ?_; omega) | (refine small ?_; simp only [List.length_map, List.length_append, List.length_cons, List.length_nil]; omega))
local macro_rules | `(tactic| walk_at "len") => `(tactic| first | exact size_nil | exact Nat.le_of_lt (small (by simp only [List.length_cons, List.length_nil, List.length_map]; omega)))
local macro_rules | `(tactic| walk_at "newD") => `(tactic| (refine ⟨by walk_at "len", fun p np => ?_⟩; obtain ⟨e, o', hD', n', ne'⟩ := newTD_eq (topRg _ _) (by assumption) (by assumption) np (.lst _); rw [e]; clear e))
local macro_rules | `(tactic| walk_at "new") => `(tactic| (refine ⟨by walk_at "len", fun p np => ?_⟩; obtain ⟨e, o', n'⟩ := newT_eq (topRg _ _) (by assumption) np (.lst _); rw [e]; clear e))
local macro_rules | `(tactic| walk_at "st") => `(tactic| first
  | with_reducible refine r_seq ?_
  | with_reducible refine r_var rfl ?_
  | with_reducible refine r_c ?_
  | with_reducible refine r_asg ?_
  | (with_reducible refine r_name ?_; dsimp only [List.set_cons_zero, List.set_cons_succ])
  | with_reducible refine r_sub ?_
  | with_reducible refine r_op ?_
  | with_reducible refine r_i0 ?_
  | (with_reducible refine' r_i ?k1 ?_; (case k1 => walk_at "cond"))
  | with_reducible refine r_cons ?_
  | with_reducible refine r_nil ?_
  | with_reducible refine r_cb ?_
  | with_reducible refine r_call ?_
  | with_reducible refine r_ifs ?_
  | with_reducible refine r_test ?_
  | with_reducible refine r_tB ?_
  | with_reducible refine r_bl ?_
  | with_reducible refine r_ret ?_
  | with_reducible refine r_drop ?_
  | with_reducible refine r_next ?_
  | (with_reducible refine' r_ixL ?k1 ?k2 ?_; (case k1 => walk_at "look"); (case k2 => walk_at "at"))
  | (with_reducible refine' r_setL ?k1 ?k2 ?_; (case k1 => walk_at "look"); (case k2 => walk_at "at"))
  | with_reducible refine r_aug rfl ?_
  | with_reducible refine r_augS ?_
  | with_reducible refine r_ipI ?_
  | with_reducible refine r_un ?_
  | with_reducible refine r_u ?_
  | with_reducible refine r_eq rfl ?_
  | with_reducible refine r_ne rfl ?_
  | with_reducible refine r_chain ?_
  | with_reducible refine iteF ?_
  | with_reducible refine r_not ?_
  | with_reducible refine r_and ?_
  | with_reducible refine r_or ?_
  | with_reducible refine r_andV ?_
  | with_reducible refine r_orV ?_
  | with_reducible refine r_notV ?_
  | with_reducible refine r_lst ?_
  | with_reducible refine r_bm ?_
  | with_reducible refine r_bm0 ?_
  | (with_reducible refine' And.intro (r_ty ?k1) ?_; (case k1 => walk_at "look"))
  | (with_reducible refine' r_append ?k1 ?k2 ?_; (case k1 => walk_at "look"); (case k2 => walk_at "sz"))
  | (with_reducible refine' r_lenK ?k1 ?_; (case k1 => walk_at "look"))
  | (with_reducible refine' r_listOf ?k1 ?_; (case k1 => walk_at "look"))
  | (with_reducible refine' r_sortedI ?k1 ?_; (case k1 => walk_at "look"))
  | (with_reducible refine' r_sum ?k1 ?_; (case k1 => walk_at "look"))
  | with_reducible refine r_int ?_
  | (with_reducible refine' r_draw (by assumption) ?k1 ?k2 ?_; (case k1 => omega); (case k2 => omega); intro R' n' o' h' h'')
  | with_reducible refine iteT ?_
  | with_reducible refine r_revL ?_
  | with_reducible refine r_lc ?_
  | with_reducible refine r_yes ?_
  | with_reducible refine r_for ?_
  | with_reducible refine r_iList ?_
  | with_reducible refine r_rng1 ?_
  | with_reducible refine r_enum ?_
  | (with_reducible show Ends.nx _ _ _; dsimp only)
  | (with_reducible show Ends.rt _ _ _; dsimp only)
  | (with_reducible show Ends.ct _ _ _; dsimp only)
  | (with_reducible show Ends.bk _ _ _; dsimp only))
local macro_rules | `(tactic| walk_at "go") => `(tactic| repeat (walk_at "st"))
local macro_rules | `(tactic| walk_at "begin") => `(tactic| dsimp only [cxOf, wipe, L2.start, List.map, List.length_cons, List.length_nil, Nat.reduceAdd, Nat.reduceSub, List.replicate, List.cons_append, List.nil_append])


open Lm
def bsV (bs : List Bool) : List V := bs.map V.bl
theorem bsV_at {bs : List Bool} {i : Nat} {b : Bool} (h : bs[i]? = some b) : (bsV bs)[i]? = some (.bl b) := by unfold bsV; rw [List.getElem?_map, h]; rfl
theorem bsV_set (bs : List Bool) (i : Nat) (b : Bool) : (bsV bs).set i (.bl b) = bsV (bs.set i b) := by unfold bsV; rw [List.map_set]
theorem bsV_len (bs : List Bool) : (bsV bs).length = bs.length := by unfold bsV; rw [List.length_map]
/-- the numbers below n of which f says yes -/
def pick (n : Nat) (f : Nat → Bool) : List Int := ((List.range n).filter f).map Int.ofNat
theorem pick_succ (n : Nat) (f : Nat → Bool) : pick (n + 1) f = pick n f ++ if f n then [(n : Int)] else [] := by
  unfold pick
  rw [List.range_succ, List.filter_append, List.map_append]
  congr 1
  rw [List.filter_cons]
  split <;> rfl
theorem pick_len (n : Nat) (f : Nat → Bool) : (pick n f).length ≤ n := by
  unfold pick
  rw [List.length_map]
  exact Nat.le_trans (List.length_filter_le _ _) (by rw [List.length_range]; exact Nat.le_refl _)
theorem pick_congr {n : Nat} {f f' : Nat → Bool} (h : ∀ i, i < n → f i = f' i) : pick n f = pick n f' := by
  unfold pick
  rw [List.filter_congr fun i hi => h i (List.mem_range.mp hi)]
def spReach : Sp := fun vs H Q _ => ∃ (a : Addr) (as : List Addr) (rs : List (List Int)) (n L : Nat) (p : Int), vs = [.ref a, .int p] ∧ H a = some (.lst (as.map V.ref)) ∧ Rw H as rs ∧ Wf n L rs ∧ n ≤ 128 ∧ L ≤ 1000 ∧ 0 ≤ p ∧ p < n ∧
  ∀ (H' : Hp) (q : Addr) (f : Nat → Bool), Same H H' → H q = none → H' q = some (.lst ((pick n f).map V.int)) → (∀ i, i < n → (f i = true ↔ Rc (Ed rs) p.toNat i)) → Q (.ref q) H'
section
variable {P : Program} {w : World} {K : PySem.W.Frag} {mg : Str → Option Value} {base : Heap}
theorem ok_reachable {f : Addr} {fd : FuncData} {k : Nat} (B : Blt mg) (D : Dn K mg "reachable" s_reachable ["drawing", "place"] f fd) : FnOk P w K mg base CX0 (k + 1) f fd ["drawing", "place"] spReach := by
  refine D.F.ok sc_reachable (fun vs H Q E h => ?_) (fun cdv A outer s H vs Q E hr h => ?_)
  · obtain ⟨a, as, rs, n, L, p, rfl, _⟩ := h
    rfl
  · obtain ⟨a, as, rs, n, L, p, rfl, ha, hrw, hwf, hn, hL, hp0, hp1, q⟩ := h
    have hla : as.length = n := by rw [hrw.1]; exact hwf.1
    have hlr : rs.length = n := hwf.1
    refine ⟨_, (pss_cons (ps_set (i := 2) sc_reachable.nd rfl (.inr rfl) (pe_lc (own := [("row", 6)]) rfl sc_reachable.nd (pi_listK (K := K) rfl (pv 0)) (blkOk_by (own := [("row", 6)]) (by kernel_rfl))
        (fun _ _ _ _ _ => (pg_name (i := 6) sc_reachable.nd rfl (.inl rfl))) (fun _ _ _ _ _ => pts_nil)
        (fun _ _ _ _ _ => pe_bl)))
      (pss_cons (ps_asg pe_bl (pg_sub (pv 2) (pv 1) set_list))
      (pss_cons (ps_set (i := 3) sc_reachable.nd rfl (.inl rfl) (pe_lst (pa_cons (pv 1) pa_nil)))
      (pss_cons (ps_while PassesOwn.never (pt_cmpR (op_neDK (K := K) rfl hr.units) (pv 3) (pe_lst pa_nil) (nomark _)) (pss_cons (ps_set (i := 4) sc_reachable.nd rfl (.inl rfl) (pe_bm0K (K := K) rfl PySem.F.plainAttrs_list PySem.F.slot_list_pop PySem.F.type_list_pop mt_pop (pv 3)))
      (pss_one (ps_for PassesOwn.never rfl (pi_listK (K := K) rfl (pe_ix (ix_listK (K := K) rfl) (pv 0) (pv 4) (fun _ _ => rfl))) (pg_name (i := 5) sc_reachable.nd rfl (.inl rfl)) (pss_one (ps_if (pt_not (pt_val (pe_ix (ix_listK (K := K) rfl) (pv 2) (pv 5) (fun _ _ => rfl)))) (pss_cons (ps_asg pe_bl (pg_sub (pv 2) (pv 5) set_list))
      (pss_one (ps_expr (pe_bmK (K := K) rfl PySem.F.plainAttrs_list PySem.F.slot_list_append PySem.F.type_list_append mt_append (pv 3) (pa_cons (pv 5) pa_nil))))) pss_nil))))))
      (pss_one (ps_ret (pe_lc (own := [("at", 7)]) rfl sc_reachable.nd (pi_range1 (by rfl) B.m_range (pa_cons (pe_callB (call_len_seqK (K := K) rfl) (by rfl) B.m_len PySem.boot_len (pa_cons (pv 0) pa_nil)) pa_nil)) (blkOk_by (own := [("at", 7)]) (by kernel_rfl))
        (fun _ _ _ _ _ => (pg_name (i := 7) sc_reachable.nd rfl (.inl rfl))) (fun _ _ _ _ _ => (pts_one (pt_val (pe_ix (ix_listK (K := K) rfl) (pv 2) (pv 7) (fun _ _ => rfl)))))
        (fun _ _ _ _ _ => (pv 7))))))))), ?_⟩
    walk_at "begin"
    walk_at "go"
    refine lcT_list topH (K := K) (s0 := ()) trivial ha (fun i C acc => acc = bsV (List.replicate i false)) rfl ?_ ?_
    · rintro D1 i x _ C acc _ hD hS hx rfl
      have hi := (List.getElem?_eq_some_iff.mp hx).1
      rw [List.length_map, hla] at hi
      walk_at "begin"
      walk_at "go"
      refine ⟨rfl, ?_⟩
      walk_at "go"
      refine lcN_put topH (s := ()) trivial hD hS ?_ ?_
      · rw [bsV_len, List.length_replicate]; omega
      · show List.map V.bl (List.replicate i false) ++ [V.bl false] = List.map V.bl (List.replicate (i + 1) false)
        rw [List.replicate_succ', List.map_append]; rfl
    · rintro D1 _ C acc _ hB hD hS rfl
      rw [List.length_map, hla]
      have ha1 := hS _ _ ha
      have hix : ixN (bsV (List.replicate n false)).length p = some p.toNat := ix_i hp0 (by rw [bsV_len, List.length_replicate]; exact hp1)
      try dsimp only
      walk_at "go"
      rw [bsV_set, upd_upd]
      refine ⟨by walk_at "len", fun W nW => ?_⟩
      obtain ⟨e, _, hDW, nW2, neW⟩ := newTD_eq topH (s := ()) trivial hD nW (.lst [.int p])
      try dsimp only at e
      walk_at "go"
      have d0 := Ds.init (rs := rs) (n := n) hlr (p := p.toNat) (by omega)
      rw [show ((p.toNat : Nat) : Int) = p by omega] at d0
      have hS0 : Same H C := hS
      refine r_while (fun m σ H' => ∃ (C' : Hp) (bs : List Bool) (ws : List Int) (y4 y5 : Option V), σ = [some (.ref a), some (.int p), some (.ref D1), some (.ref W), y4, y5, none, none] ∧ H' = upd (upd C' D1 (.lst (bsV bs))) W (.lst (ws.map V.int)) ∧ C' D1 = none ∧ C' W = none ∧ Same C C' ∧
        Ds rs p.toNat bs ws (fun _ => False) ∧ 2 * bs.count false + ws.length = m ∧ m ≤ 1000) ?_ ?_
      · refine ⟨_, C, (List.replicate n false).set p.toNat true, [p], none, none, rfl, rfl, hD, nW2, Same.refl _, d0, rfl, ?_⟩
        have h1 := ((List.replicate n false).set p.toNat true).count_le_length (a := false)
        rw [List.length_set, List.length_replicate] at h1
        show 2 * _ + 1 ≤ 1000
        omega
      · rintro m σ H' ⟨C', bs, ws, y4, y5, rfl, rfl, hD', hW', hS', d, hm, hm2⟩
        have neq : W ≠ D1 := neW
        have hD2 : upd C' D1 (.lst (bsV bs)) W = none := by rw [upd_ne neq]; exact hW'
        walk_at "go"
        refine ⟨size_nil, fun e0 ne0 => ?_⟩
        have hw0 : upd (upd C' D1 (.lst (bsV bs))) W (.lst (ws.map V.int)) W = some (.lst (ws.map V.int)) := upd_same
        refine r_neI (xs := ws) (ys := []) (upd_old ne0 hw0) upd_same ?_
        walk_at "go"
        obtain ⟨n1, n2⟩ := upd_none ne0
        obtain ⟨n3, n4⟩ := upd_none n2
        have eH : upd (upd (upd C' D1 (.lst (bsV bs))) W (.lst (ws.map V.int))) e0 (.lst []) = upd (upd (upd C' e0 (.lst [])) D1 (.lst (bsV bs))) W (.lst (ws.map V.int)) := by
          rw [upd_comm n1.symm, upd_comm n3.symm]
        rw [eH]
        have hS2 := hS'.trans (same_new (o := .lst []) n4)
        have hD3 : upd C' e0 (.lst []) D1 = none := by rw [upd_ne n3.symm]; exact hD'
        have hW3 : upd C' e0 (.lst []) W = none := by rw [upd_ne n1.symm]; exact hW'
        generalize upd C' e0 (.lst []) = C2 at hS2 hD3 hW3 ⊢
        clear eH hw0 ne0 n2 n4 hD2 hS' hD' hW' d0 hDW e nW nW2 hix
        have hS3 : Same H C2 := hS0.trans hS2
        have ha2 := hS3 _ _ ha
        have hrw2 := hrw.mono hS3
        have hDW : upd C2 D1 (.lst (bsV bs)) W = none := by rw [upd_ne neq]; exact hW3
        refine r_iten (fun hne => ?_) (fun he => ?_)
        · obtain ⟨w', hw⟩ : ∃ w', ws[ws.length - 1]? = some w' := ⟨_, List.getElem?_eq_getElem (by have := List.length_pos_iff.mpr hne; omega)⟩
          have hwm : (ws.map V.int)[(ws.map V.int).length - 1]? = some (.int w') := by rw [List.length_map, List.getElem?_map, hw]; rfl
          obtain ⟨w0, w1, w2⟩ := d.wait w' (List.mem_of_getElem? hw)
          have dp := d.pop hw
          have hlen : ws.dropLast.length + 1 = ws.length := by rw [List.length_dropLast]; have := List.length_pos_iff.mpr hne; omega
          obtain ⟨c, hc⟩ : ∃ c, as[w'.toNat]? = some c := ⟨_, List.getElem?_eq_getElem (by omega)⟩
          obtain ⟨r, hr1, hr2⟩ := hrw2.2 _ _ hc
          obtain ⟨g1, g2, g3⟩ := hwf.2 r (List.mem_of_getElem? hr1)
          have hat : atI (as.map V.ref) w' = some (.ref c) := at_i w0 (by rw [List.getElem?_map, hc]; rfl)
          refine ⟨_, fun _ _ h => h, ?_⟩
          walk_at "go"
          refine r_pop upd_same hwm ?_
          rw [upd_upd, ← List.map_dropLast]
          walk_at "go"
          have hDWx : ∀ x, upd C2 D1 x W = none := fun x => by rw [upd_ne neq]; exact hW3
          have hA : ∀ x y, upd (upd C2 D1 x) W y a = some (.lst (as.map V.ref)) := fun x y => upd_old (hDWx x) (upd_old hD3 ha2)
          refine r_forL (xs := r.map V.int) (upd_old (hDWx _) (upd_old hD3 hr2)) (fun j σ H' => ∃ (bs' : List Bool) (ws' : List Int) (y5 : Option V), σ = [some (.ref a), some (.int p), some (.ref D1), some (.ref W), some (.int w'), y5, none, none] ∧ H' = upd (upd C2 D1 (.lst (bsV bs'))) W (.lst (ws'.map V.int)) ∧
            Ds rs p.toNat bs' ws' (fun i => i = w'.toNat) ∧ (∀ x ∈ r.take j, bs'[x.toNat]? = some true) ∧ bs'[w'.toNat]? = some true ∧ 2 * bs'.count false + ws'.length < m) ?_ ?_ ?_ ?_
          · exact ⟨bs, ws.dropLast, _, rfl, rfl, dp, (fun x hx => nomatch hx), w2, by omega⟩
          · rintro j σ H' _ ⟨bs', ws', y5, rfl, rfl, _⟩
            exact upd_old (hDWx _) (upd_old hD3 hr2)
          · rintro j x σ H' hx ⟨bs', ws', y5, rfl, rfl, d', hdone, hcur, hlt⟩
            obtain ⟨z, rfl, hz⟩ := ints_at hx
            obtain ⟨z0, z1⟩ := g3 z (List.mem_of_getElem? hz)
            have hbl : bs'.length = n := by rw [d'.len, hlr]
            obtain ⟨b, hb⟩ : ∃ b, bs'[z.toNat]? = some b := ⟨_, List.getElem?_eq_getElem (by omega)⟩
            have hatz : atI (bsV bs') z = some (.bl b) := at_i z0 (bsV_at hb)
            have hixz : ixN (bsV bs').length z = some z.toNat := ix_i z0 (by rw [bsV_len]; omega)
            have ez : ((z.toNat : Nat) : Int) = z := by omega
            have hed : Ed rs w'.toNat z.toNat := ⟨r, hr1, by rw [ez]; exact List.mem_of_getElem? hz⟩
            have hr0 : upd (upd C2 D1 (.lst (bsV bs'))) W (.lst (ws'.map V.int)) D1 = some (.lst (bsV bs')) := upd_old (hDWx _) upd_same
            have hwl : ws'.length ≤ 10000 := by omega
            walk_at "go"
            cases b with
            | true =>
              walk_at "go"
              refine ⟨bs', ws', _, rfl, rfl, d', fun y hy => ?_, hcur, hlt⟩
              rw [List.take_add_one, hz] at hy
              rcases List.mem_append.mp hy with q | q
              · exact hdone y q
              · rw [List.mem_singleton.mp q]; exact hb
            | false =>
              refine iteT ?_
              walk_at "go"
              rw [bsV_set, upd_comm neq, upd_upd]
              walk_at "go"
              rw [upd_upd, ints_push]
              have dm := d'.mark hcur hed (by omega)
              rw [ez] at dm
              have hcs := count_set hb
              have keep : ∀ i : Nat, bs'[i]? = some true → (bs'.set z.toNat true)[i]? = some true := fun i q => by
                by_cases e : z.toNat = i
                · rw [← e, List.getElem?_set_self (by omega)]
                · rw [List.getElem?_set_ne e]; exact q
              refine ⟨bs'.set z.toNat true, ws' ++ [z], _, rfl, rfl, dm, fun y hy => ?_, keep _ hcur, by rw [List.length_append, List.length_singleton]; omega⟩
              rw [List.take_add_one, hz] at hy
              rcases List.mem_append.mp hy with q | q
              · exact keep _ (hdone y q)
              · rw [List.mem_singleton.mp q, List.getElem?_set_self (by omega)]
          · rintro σ H' ⟨bs', ws', y5, rfl, rfl, d', hdone, hcur, hlt⟩
            rw [List.length_map, List.take_length] at hdone
            refine ⟨_, hlt, C2, bs', ws', _, _, rfl, rfl, hD3, hW3, hS2, d'.done fun c hc => ?_, rfl, by omega⟩
            obtain ⟨r', hr', hc'⟩ := hc
            rw [hr1] at hr'
            have := hdone _ (by rw [Option.some.inj hr']; exact hc')
            rw [Int.toNat_natCast] at this
            exact this
        · subst he
          walk_at "go"
          rw [List.length_map, hla]
          refine lcT_range topH (s0 := ()) (B := upd (upd C2 D1 (.lst (bsV bs))) W (.lst (List.map V.int []))) trivial ?_ ?_ (fun i C acc => acc = (pick i fun i => bs[i]? == some true).map V.int) rfl ?_ ?_
          · omega
          · omega
          · rintro D2 i _ C3 acc _ hD3' hS3' hi rfl
            rw [Int.toNat_natCast] at hi
            obtain ⟨b, hb⟩ : ∃ b, bs[i]? = some b := ⟨_, List.getElem?_eq_getElem (by rw [d.len]; omega)⟩
            have hatz : atI (bsV bs) (i : Int) = some (.bl b) := atI_nat (bsV_at hb)
            have hr0 : upd (upd C2 D1 (.lst (bsV bs))) W (.lst (List.map V.int [])) D1 = some (.lst (bsV bs)) := upd_old (by rw [upd_ne neq]; exact hW3) upd_same
            have hr1 : upd C3 D2 (.lst ((pick i fun i => bs[i]? == some true).map V.int)) D1 = some (.lst (bsV bs)) := upd_old hD3' (hS3' _ _ hr0)
            have hpl := pick_len i fun i => bs[i]? == some true
            walk_at "begin"
            walk_at "go"
            refine ⟨rfl, ?_⟩
            walk_at "go"
            cases b with
            | true =>
              walk_at "go"
              refine lcN_put topH (s := ()) trivial hD3' hS3' ?_ ?_
              · rw [List.length_map]; omega
              · rw [pick_succ, hb, ints_push]; rfl
            | false =>
              walk_at "go"
              refine lcN_skip (s := ()) trivial hD3' hS3' ?_
              rw [pick_succ, hb]
              show _ = List.map V.int (_ ++ [])
              rw [List.append_nil]
          · rintro D2 _ C3 acc _ hB2 hD3' hS3' rfl
            rw [Int.toNat_natCast]
            obtain ⟨b1, b2⟩ := upd_none hB2
            obtain ⟨b3, b4⟩ := upd_none b2
            have hSa : Same H (upd (upd C2 D1 (.lst (bsV bs))) W (.lst (List.map V.int []))) := fun x y e => by
              have h1 := hS3 _ _ e
              exact upd_old (by rw [upd_ne neq]; exact hW3) (upd_old hD3 h1)
            refine q _ D2 (fun i => bs[i]? == some true) ((hSa.trans hS3').trans (same_new hD3')) (hSa.free hB2) upd_same fun i _ => ?_
            rw [beq_iff_eq]
            exact d.final i
end
end K34
/-! enumerate: loops and comprehensions; rows that are written -/
namespace Lw
open PySem PySem.Spec PyProof.Rows L2
section
variable {K : PySem.W.Frag} {σ : L2.St} {H : Hp} {D : Ends} {g : TG} {tb : TS}
theorem r_forE {a : Addr} {xs : List V} (hx : H a = some (.lst xs)) (Pv : Nat → L2.St → Hp → Prop) (h0 : Pv 0 σ H) (hl : ∀ i σ H, i ≤ xs.length → Pv i σ H → H a = some (.lst xs))
    (hs : ∀ i x σ H t, xs[i]? = some x → Pv i σ H → H t = none → g (.ref t) σ (upd H t (.tup [.int (i : Nat), x])) fun σ2 H2 => tb { D with nx := Pv (i + 1), ct := Pv (i + 1), bk := D.nx } σ2 H2) (hd : ∀ σ H, Pv xs.length σ H → D.nx σ H) :
    ∃ b ys, [V.ref a] = [.ref b] ∧ SqL K H b ys ∧ ∃ W : Nat → Nat → L2.St → Hp → Prop, (∃ m, W 0 m σ H) ∧ ∀ i m σ H, W i m σ H →
      ((Ite K b).stop i H ∧ D.nx σ H) ∨ ((Ite K b).go i H ∧ ∃ N : L2.St → Hp → Prop, (∀ σ' H', N σ' H' → ∃ m', m' < m ∧ W (i + 1) m' σ' H') ∧ ∀ x H', (Ite K b).yld i H x H' → g x σ H' fun σ2 H2 => tb { D with nx := N, ct := N, bk := D.nx } σ2 H2) := by
  refine ⟨a, xs, rfl, SqL.of hx, fun i m σ H => m = xs.length - i ∧ i ≤ xs.length ∧ Pv i σ H, ⟨xs.length, by simp, Nat.zero_le _, h0⟩, ?_⟩
  rintro i m σ H ⟨rfl, hi, p⟩
  have q := hl i σ H hi p
  by_cases hlt : i < xs.length
  · refine .inr ⟨⟨xs, xs[i], SqL.of q, by simp [hlt]⟩, Pv (i + 1), fun σ' H' p' => ⟨xs.length - (i + 1), by omega, rfl, hlt, p'⟩, fun x H' y => ?_⟩
    obtain ⟨t, x', rfl, nt, rfl, y⟩ := y
    exact hs i x' σ H t (y xs (SqL.of q)) p nt
  · have e : i = xs.length := by omega
    subst e
    exact .inl ⟨⟨xs, SqL.of q, Nat.le_refl _⟩, hd σ H p⟩
end
section
variable {S : Type} {F : S → Hp → Hp} {ok : S → Hp → Prop} (T : TopOk F ok) {σ : L2.St} {g : TG} {tt : TT} {te : TE} {vs : List Nat} {Q : Addr → Hp → Prop}
include T
theorem lcT_enum {K : PySem.W.Frag} {s0 : S} {B : Hp} (k : ok s0 B) {a : Addr} {xs : List V} (ha : B a = some (.lst xs)) (Pv : Nat → Hp → List V → Prop) (mono : ∀ i C C' acc, Same C C' → Pv i C acc → Pv i C' acc) (h0 : Pv 0 B [])
    (hs : ∀ D i x s C acc t, ok s (upd C D (.lst acc)) → C D = none → Same B C → xs[i]? = some x → C t = some (.tup [.int (i : Nat), x]) → Pv i C acc → g (.ref t) (wipe σ vs) (F s (upd C D (.lst acc))) fun σ2 H2 => wipe σ2 vs = wipe σ vs ∧ tt σ2 H2 fun b H3 =>
      if b = true then te σ2 H3 fun y H4 => ∃ acc', H4 D = some (.lst acc') ∧ acc'.length < sizeLine ∧ LcN F ok B D (Pv (i + 1)) (upd H4 D (.lst (acc' ++ [y]))) else LcN F ok B D (Pv (i + 1)) H3)
    (hd : ∀ D s C acc, ok s (upd C D (.lst acc)) → B D = none → C D = none → Same B C → Pv xs.length C acc → Q D (F s (upd C D (.lst acc)))) :
    ∃ b ys, [V.ref a] = [.ref b] ∧ SqL K (F s0 B) b ys ∧ ∀ D, (F s0 B) D = none → ∃ W : Nat → Nat → Hp → Prop, (∃ m, W 0 m (upd (F s0 B) D (.lst []))) ∧ ∀ i m H, W i m H →
      ((Ite K b).stop i H ∧ Q D H) ∨ ((Ite K b).go i H ∧ ∃ Nx : Hp → Prop, (∀ H', Nx H' → ∃ m', m' < m ∧ W (i + 1) m' H') ∧ ∀ x H', (Ite K b).yld i H x H' → g x (wipe σ vs) H' fun σ2 H2 => wipe σ2 vs = wipe σ vs ∧ tt σ2 H2 fun b H3 =>
        if b = true then te σ2 H3 fun y H4 => ∃ acc, H4 D = some (.lst acc) ∧ acc.length < sizeLine ∧ Nx (upd H4 D (.lst (acc ++ [y]))) else Nx H3) := by
  refine ⟨a, xs, rfl, SqL.of (T.get _ _ _ _ k ha), fun D hD => ?_⟩
  obtain ⟨hB, hn⟩ := T.new s0 B D k hD
  refine ⟨fun i m H => m = xs.length - i ∧ i ≤ xs.length ∧ LcN F ok B D (Pv i) H, ⟨xs.length, by simp, Nat.zero_le _, ?_⟩, ?_⟩
  · rw [(hn _).1]
    exact ⟨s0, B, [], rfl, (hn _).2, hB, Same.refl B, h0⟩
  · rintro i m H ⟨rfl, hi, s, C, acc, rfl, k', hD', hS, hp⟩
    have hA : SqL K (F s (upd C D (.lst acc))) a xs := SqL.of (T.get _ _ _ _ k' (upd_old hD' (hS _ _ ha)))
    by_cases hlt : i < xs.length
    · refine .inr ⟨⟨xs, xs[i], hA, by simp [hlt]⟩, fun H' => LcN F ok B D (Pv (i + 1)) H', fun H' p' => ⟨xs.length - (i + 1), by omega, rfl, hlt, p'⟩, fun x H' y => ?_⟩
      obtain ⟨t, x', rfl, nt, rfl, y⟩ := y
      obtain ⟨e, k2, hD2, n2, ne2⟩ := newTD_eq T k' hD' nt (.tup [.int (i : Nat), x'])
      rw [e]
      exact hs D i x' s _ acc t k2 hD2 (hS.trans (same_new n2)) (y xs hA) upd_same (mono _ _ _ _ (same_new n2) hp)
    · have e : i = xs.length := by omega
      subst e
      exact .inl ⟨⟨xs, hA, Nat.le_refl _⟩, hd D s C acc k' hB hD' hS hp⟩
end
theorem Rw.write {C : Hp} {as : List Addr} {rs : List (List Int)} (h : Rw C as rs) (hn : as.Nodup) {k : Nat} {b : Addr} (hb : as[k]? = some b) (r' : List Int) : Rw (upd C b (.lst (r'.map V.int))) as (rs.set k r') := by
  refine ⟨by rw [List.length_set, h.1], fun i c hc => ?_⟩
  by_cases e : k = i
  · subst e
    rw [hb] at hc
    cases hc
    have hk := (List.getElem?_eq_some_iff.mp hb).1
    exact ⟨r', List.getElem?_set_self (by rw [← h.1]; exact hk), upd_same⟩
  · obtain ⟨r, h1, h2⟩ := h.2 i c hc
    have hne : c ≠ b := fun q => by
      rw [q] at hc
      exact e (nd_ix hn hb hc)
    exact ⟨r, by rw [List.getElem?_set_ne e]; exact h1, by rw [upd_ne hne]; exact h2⟩
theorem r_enumE {K : PySem.W.Frag} {σ : L2.St} {H : Hp} {ta : TA} {R : It → Hp → Prop} (h : ta σ H fun vs H1 => ∃ a xs, vs = [.ref a] ∧ SqL K H1 a xs ∧ R (Ite K a) H1) : iEnum K ta σ H R := h
end Lw
namespace Lw
open PySem PySem.Spec PyProof.Rows L2
theorem r_isi {K : PySem.W.Frag} {H : Hp} {Q : VK} {x : V} {a b : String} {r : Bool} (ty : TyX K H x (.type a)) (k : kitB a b = some r) (q : Q (.bl r) H) : rIsi K [x, .ty b] H Q := ⟨x, .ty b, .type a, .type b, r, rfl, .ty b, ty, kit_ty k, q⟩
end Lw
namespace K34
open PySem PySem.Spec PyProof.Rows L2 Lw


local macro_rules | `(tactic| walk_at "look") => `(tactic| first
  | assumption
  | with_reducible exact upd_same
  | with_reducible exact rg_st
  | with_reducible exact rg_g (by assumption)
  | (with_reducible refine upd_old (by assumption) ?_; walk_at "look")
  | (with_reducible refine rg_get (by assumption) ?_; walk_at "look")
  | (with_reducible refine Same.get (by assumption) ?_; walk_at "look"))
local macro_rules | `(tactic| walk_at "cond") => `(tactic| first
  | (show _ ≠ _; omega) | exact cdivN (by omega) (by omega) | exact cmul_mod (by decide) (by decide) | exact cmulR (by omega) (by omega) | exact cmulL (by omega) (by omega) | exact cpow (by omega) (by omega) (by omega) (by omega) | (show (0:Int) ≤ _; omega))
local macro_rules | `(tactic| walk_at "at") => `(tactic| first | assumption | with_unfolding_all rfl)
local macro_rules | `(tactic| walk_at "sz") => `(tactic| first | assumption | (refine small ?_; omega) | (refine small ?_; simp only [List.length_map, List.length_append, List.length_cons, List.length_nil]; omega))
local macro_rules | `(tactic| walk_at "len") => `(tactic| first | exact size_nil | exact Nat.le_of_lt (small (by simp only [List.length_cons, List.length_nil, List.length_map]; omega)))
local macro_rules | `(tactic| walk_at "newD") => `(tactic| (refine ⟨by walk_at "len", fun p np => ?_⟩; obtain ⟨e, o', hD', n', ne'⟩ := newTD_eq (topRg _ _) (by assumption) (by assumption) np (.lst _); rw [e]; clear e))
local macro_rules | `(tactic| walk_at "new") => `(tactic| (refine ⟨by walk_at "len", fun p np => ?_⟩; obtain ⟨e, o', n'⟩ := newT_eq (topRg _ _) (by assumption) np (.lst _); rw [e]; clear e))
local macro_rules | `(tactic| walk_at "st") => `(tactic| first
  | with_reducible refine r_seq ?_
  | with_reducible refine r_var rfl ?_
  | with_reducible refine r_c ?_
  | with_reducible refine r_asg ?_
  | (with_reducible refine r_name ?_; dsimp only [List.set_cons_zero, List.set_cons_succ])
  | with_reducible refine r_sub ?_
  | with_reducible refine r_op ?_
  | with_reducible refine r_i0 ?_
  | (with_reducible refine' r_i ?k1 ?_; (case k1 => walk_at "cond"))
  | with_reducible refine r_cons ?_
  | with_reducible refine r_nil ?_
  | with_reducible refine r_cb ?_
  | with_reducible refine r_call ?_
  | with_reducible refine r_ifs ?_
  | with_reducible refine r_test ?_
  | with_reducible refine r_tB ?_
  | with_reducible refine r_bl ?_
  | with_reducible refine r_ret ?_
  | with_reducible refine r_drop ?_
  | with_reducible refine r_next ?_
  | (with_reducible refine' r_ixL ?k1 ?k2 ?_; (case k1 => walk_at "look"); (case k2 => walk_at "at"))
  | (with_reducible refine' r_setL ?k1 ?k2 ?_; (case k1 => walk_at "look"); (case k2 => walk_at "at"))
  | (with_reducible refine' r_tup (SqT.of ?k1) ?k2 ?_; (case k1 => walk_at "look"); (case k2 => rfl))
  | with_reducible refine r_gcons ?_
  | with_reducible refine r_gnil ?_
  | with_reducible refine r_aug rfl ?_
  | with_reducible refine r_augS ?_
  | with_reducible refine r_ipI ?_
  | with_reducible refine r_un ?_
  | with_reducible refine r_u ?_
  | with_reducible refine r_eq rfl ?_
  | with_reducible refine r_ne rfl ?_
  | with_reducible refine r_chain ?_
  | with_reducible refine iteF ?_
  | with_reducible refine r_not ?_
  | with_reducible refine r_and ?_
  | with_reducible refine r_or ?_
  | with_reducible refine r_andV ?_
  | with_reducible refine r_orV ?_
  | with_reducible refine r_notV ?_
  | with_reducible refine r_lst ?_
  | with_reducible refine r_bm ?_
  | with_reducible refine r_bm0 ?_
  | (with_reducible refine' And.intro (r_ty ?k1) ?_; (case k1 => walk_at "look"))
  | (with_reducible refine' r_append ?k1 ?k2 ?_; (case k1 => walk_at "look"); (case k2 => walk_at "sz"))
  | (with_reducible refine' r_lenK ?k1 ?_; (case k1 => walk_at "look"))
  | (with_reducible refine' r_listOf ?k1 ?_; (case k1 => walk_at "look"))
  | (with_reducible refine' r_sortedI ?k1 ?_; (case k1 => walk_at "look"))
  | (with_reducible refine' r_sum ?k1 ?_; (case k1 => walk_at "look"))
  | with_reducible refine r_int ?_
  | (with_reducible refine' r_draw (by assumption) ?k1 ?k2 ?_; (case k1 => omega); (case k2 => omega); intro R' n' o' h' h'')
  | with_reducible refine iteT ?_
  | with_reducible refine r_revL ?_
  | with_reducible refine r_lc ?_
  | with_reducible refine r_yes ?_
  | with_reducible refine r_for ?_
  | with_reducible refine r_iList ?_
  | with_reducible refine r_rng1 ?_
  | with_reducible refine r_enum ?_
  | (with_reducible show Ends.nx _ _ _; dsimp only)
  | (with_reducible show Ends.rt _ _ _; dsimp only)
  | (with_reducible show Ends.ct _ _ _; dsimp only)
  | (with_reducible show Ends.bk _ _ _; dsimp only))
local macro_rules | `(tactic| walk_at "go") => `(tactic| repeat (walk_at "st"))
local macro_rules | `(tactic| walk_at "begin") => `(tactic| dsimp only [cxOf, wipe, L2.start, List.map, List.length_cons, List.length_nil, Nat.reduceAdd, Nat.reduceSub, List.replicate, List.cons_append, List.nil_append])


open Lm
def spSettled : Sp := fun vs H Q _ => ∃ (a : Addr) (as : List Addr) (rs : List (List Int)) (n L : Nat), vs = [.ref a] ∧ H a = some (.lst (as.map V.ref)) ∧ Rw H as rs ∧ Wf n L rs ∧ n ≤ 128 ∧ L ≤ 700 ∧
  ∀ (H' : Hp) (q : Addr) (ss : List Int), Same H H' → H q = none → H' q = some (.lst (ss.map V.int)) → (ss.length = n ↔ ∀ x, ¬ Tc (Ed rs) x x) → Q (.ref q) H'
section
variable {P : Program} {w : World} {K : PySem.W.Frag} {mg : Str → Option Value} {base : Heap}
theorem ok_settled {f : Addr} {fd : FuncData} {k : Nat} (B : Blt mg) (D : Dn K mg "settled_places" s_settled_places ["rows"] f fd) : FnOk P w K mg base CX0 (k + 1) f fd ["rows"] spSettled := by
  refine D.F.ok sc_settled_places (fun vs H Q E h => ?_) (fun cdv A outer s H vs Q E hr h => ?_)
  · obtain ⟨a, as, rs, n, L, rfl, _⟩ := h
    rfl
  · obtain ⟨a, as, rs, n, L, rfl, ha, hrw, hwf, hn, hL, q⟩ := h
    have hla : as.length = n := by rw [hrw.1]; exact hwf.1
    have hlr : rs.length = n := hwf.1
    refine ⟨_, (pss_cons (ps_setLc (i := 1) (own := [("row", 4)]) rfl sc_settled_places.nd rfl rfl (sw_true rfl rfl rfl (by decide +kernel)) (pi_listK (K := K) rfl (pv 0)) (blkOk_by (own := [("row", 4)]) (by kernel_rfl))
        (fun _ _ _ _ _ => (pg_name (i := 4) sc_settled_places.nd rfl (.inl rfl))) (fun _ _ _ _ _ => pts_nil)
        (fun _ _ _ _ _ => (pe_lst pa_nil)))
      (pss_cons (ps_setLc (i := 2) (own := [("row", 4)]) rfl sc_settled_places.nd rfl rfl (sw_true rfl rfl rfl (by decide +kernel)) (pi_listK (K := K) rfl (pv 0)) (blkOk_by (own := [("row", 4)]) (by kernel_rfl))
        (fun _ _ _ _ _ => (pg_name (i := 4) sc_settled_places.nd rfl (.inl rfl))) (fun _ _ _ _ _ => pts_nil)
        (fun _ _ _ _ _ => (pe_callB (call_len_seqK (K := K) rfl) (by rfl) B.m_len PySem.boot_len (pa_cons (pv 4) pa_nil))))
      (pss_cons (ps_for PassesOwn.never rfl (pi_enumK (K := K) rfl (by rfl) B.m_enumerate (pa_cons (pv 0) pa_nil)) (pg_tupK (K := K) (n := 2) rfl rfl (pgs_cons (pg_name (i := 3) sc_settled_places.nd rfl (.inl rfl)) (pgs_cons (pg_name (i := 4) sc_settled_places.nd rfl (.inl rfl)) pgs_nil))) (pss_one (ps_for PassesOwn.never rfl (pi_listK (K := K) rfl (pv 4)) (pg_name (i := 5) sc_settled_places.nd rfl (.inl rfl)) (pss_one (ps_expr (pe_bmK (K := K) rfl PySem.F.plainAttrs_list PySem.F.slot_list_append PySem.F.type_list_append mt_append (pe_ix (ix_listK (K := K) rfl) (pv 1) (pv 5) (fun _ _ => rfl)) (pa_cons (pv 3) pa_nil)))))))
      (pss_cons (ps_setLc (i := 6) (own := [("place", 3), ("row", 4)]) rfl sc_settled_places.nd rfl rfl (sw_true rfl rfl rfl (by decide +kernel)) (pi_enumK (K := K) rfl (by rfl) B.m_enumerate (pa_cons (pv 0) pa_nil)) (blkOk_by (own := [("place", 3), ("row", 4)]) (by kernel_rfl))
        (fun _ _ _ _ _ => (pg_tupK (K := K) (n := 2) rfl rfl (pgs_cons (pg_name (i := 3) sc_settled_places.nd rfl (.inl rfl)) (pgs_cons (pg_name (i := 4) sc_settled_places.nd rfl (.inl rfl)) pgs_nil)))) (fun _ _ _ _ _ => (pts_one (pt_cmpR (op_eqDK (K := K) rfl hr.units) (pv 4) (pe_lst pa_nil) (nomark _))))
        (fun _ _ _ _ _ => (pv 3)))
      (pss_cons (ps_set (i := 7) sc_settled_places.nd rfl (.inl rfl) pe_int)
      (pss_cons (ps_while PassesOwn.never (pt_cmpR op_lt (pv 7) (pe_callB (call_len_seqK (K := K) rfl) (by rfl) B.m_len PySem.boot_len (pa_cons (pv 6) pa_nil)) (nomark _)) (pss_cons (ps_set (i := 8) sc_settled_places.nd rfl (.inl rfl) (pe_ix (ix_listK (K := K) rfl) (pv 6) (pv 7) (fun _ _ => rfl)))
      (pss_cons (ps_for PassesOwn.never rfl (pi_listK (K := K) rfl (pe_ix (ix_listK (K := K) rfl) (pv 1) (pv 8) (fun _ _ => rfl))) (pg_name (i := 9) sc_settled_places.nd rfl (.inl rfl)) (pss_cons (ps_augS (pv 2) (pv 9) (get_listK (K := K) rfl) pe_int ip_sub set_list)
      (pss_one (ps_if (pt_cmpR op_eq (pe_ix (ix_listK (K := K) rfl) (pv 2) (pv 9) (fun _ _ => rfl)) pe_int (nomark _)) (pss_one (ps_expr (pe_bmK (K := K) rfl PySem.F.plainAttrs_list PySem.F.slot_list_append PySem.F.type_list_append mt_append (pv 6) (pa_cons (pv 9) pa_nil)))) pss_nil))))
      (pss_one (ps_aug (i := 7) sc_settled_places.nd rfl (.inl rfl) pe_int ip_add)))))
      (pss_one (ps_ret (pv 6))))))))), ?_⟩
    walk_at "begin"
    walk_at "go"
    -- the holders
    refine lcT_list topH (K := K) (s0 := ()) trivial ha (fun i C acc => ∃ as' : List Addr, acc = as'.map V.ref ∧ Rw C as' (List.replicate i []) ∧ as'.Nodup ∧ ∀ b ∈ as', H b = none) ⟨[], rfl, Rw.nil, List.nodup_nil, fun b hb => nomatch hb⟩ ?_ ?_
    · rintro D1 i x _ C acc _ hD hS hx ⟨as', rfl, h1, h2, h3⟩
      have hi := (List.getElem?_eq_some_iff.mp hx).1
      rw [List.length_map, hla] at hi
      have hl1 : as'.length = i := by rw [h1.1, List.length_replicate]
      walk_at "begin"
      walk_at "go"
      refine ⟨rfl, ?_⟩
      walk_at "go"
      refine ⟨size_nil, fun p np => ?_⟩
      obtain ⟨e, _, hD4, n4, ne4⟩ := newTD_eq topH (s := ()) trivial hD np (.lst [])
      try dsimp only at e
      rw [e]
      have h5 := (h1.mono (same_new (o := .lst []) n4)).push (r := []) (b := p) upd_same
      refine lcN_put topH (s := ()) trivial hD4 (hS.trans (same_new n4)) ?_ ⟨as' ++ [p], refs_push _ _, ?_, nodup_push h2 fun hm => ?_, fun b hb => ?_⟩
      · rw [List.length_map]; omega
      · have h6 : Rw (upd C p (.lst [])) (as' ++ [p]) (List.replicate (i + 1) []) := by rw [List.replicate_succ']; exact h5
        exact h6
      · obtain ⟨j, hj⟩ := List.mem_iff_getElem?.mp hm
        obtain ⟨r, _, hr⟩ := h1.2 j p hj
        rw [n4] at hr; cases hr
      · rcases List.mem_append.mp hb with z | z
        · exact h3 b z
        · rw [List.mem_singleton.mp z]; exact hS.free n4
    · rintro D1 _ C acc _ hB1 hD1 hS1 ⟨as', rfl, h1, h2, h3⟩
      rw [List.length_map, hla] at h1
      have hl1 : as'.length = n := by rw [h1.1, List.length_replicate]
      have hneD1 : ∀ b ∈ as', b ≠ D1 := fun b hb => by
        obtain ⟨j, hj⟩ := List.mem_iff_getElem?.mp hb
        obtain ⟨r, _, hr⟩ := h1.2 j b hj
        exact ne_of_none hr hD1
      have ha1 := hS1 _ _ ha
      have hS1' := hS1.trans (same_new (o := .lst (as'.map V.ref)) hD1)
      have hrw1 := hrw.mono hS1'
      have h1' := h1.mono (same_new (o := .lst (as'.map V.ref)) hD1)
      have hd1 : upd C D1 (.lst (as'.map V.ref)) D1 = some (.lst (as'.map V.ref)) := upd_same
      generalize upd C D1 (.lst (as'.map V.ref)) = C1 at hS1' hrw1 h1' hd1 ⊢
      clear h1 hS1 ha1 hD1
      have ha1 := hS1' _ _ ha
      walk_at "go"
      -- what is missing
      refine lcT_list topH (K := K) (s0 := ()) trivial ha1 (fun i C acc => acc = ((rs.take i).map fun r => (r.length : Int)).map V.int) rfl ?_ ?_
      · rintro D2 i x _ C2 acc _ hD hS hx rfl
        obtain ⟨c, r, rfl, _, hr1, hc⟩ := (hrw1.mono hS).at hx
        have hi := (List.getElem?_eq_some_iff.mp hx).1
        rw [List.length_map, hla] at hi
        walk_at "begin"
        walk_at "go"
        refine ⟨rfl, ?_⟩
        walk_at "go"
        rw [List.length_map]
        refine lcN_put topH (s := ()) trivial hD hS ?_ ?_
        · rw [List.length_map, List.length_map, List.length_take]; omega
        · rw [ints_push, List.take_add_one, hr1]
          show List.map V.int (_ ++ [_]) = List.map V.int (List.map _ (_ ++ [r]))
          rw [List.map_append (l₂ := [r])]; rfl
      · rintro D2 _ C2 acc _ hB2 hD2 hS2 rfl
        rw [List.length_map, hla, ← hlr, List.take_length]
        have hH2 : Same H C2 := hS1'.trans hS2
        have hd2 := hS2 _ _ hd1
        have hs2 := h1'.mono hS2
        have ms0 : (rs.map fun r => (r.length : Int)).length = n := by rw [List.length_map, hlr]
        generalize hms : (rs.map fun r => (r.length : Int)) = ms at ms0 ⊢
        walk_at "go"
        -- who holds whom
        refine r_forE (xs := as.map V.ref) (upd_old hD2 (hH2 _ _ ha)) (fun i σ H' => ∃ (C : Hp) (hs : List (List Int)) (y3 y4 y5 : Option V), σ = [some (.ref a), some (.ref D1), some (.ref D2), y3, y4, y5, none, none, none, none] ∧ H' = upd C D2 (.lst (ms.map V.int)) ∧ C D2 = none ∧ C D1 = some (.lst (as'.map V.ref)) ∧
          Rw C as' hs ∧ Same H C ∧ Hpt rs hs i [] ∧ ∀ l ∈ hs, l.length ≤ i * L) ?_ ?_ ?_ ?_
        · refine ⟨C2, _, _, _, _, rfl, rfl, hD2, hd2, hs2, hH2, ?_, fun l hl => ?_⟩
          · rw [← hlr]; exact Hpt.init rs
          · rw [(List.mem_replicate.mp hl).2]; exact Nat.zero_le _
        · rintro i σ H' _ ⟨C, hs, y3, y4, y5, rfl, rfl, e1, e2, e3, e4, e5, e6⟩
          exact upd_old e1 (e4 _ _ ha)
        · rintro i x σ H' t hx ⟨C, hs, y3, y4, y5, rfl, rfl, e1, e2, e3, e4, e5, e6⟩ nt
          have hi := (List.getElem?_eq_some_iff.mp hx).1
          rw [List.length_map, hla] at hi
          obtain ⟨e, _, f1, nt2, net⟩ := newTD_eq topH (s := ()) trivial e1 nt (.tup [.int (i : Nat), x])
          try dsimp only at e
          rw [e]
          have sm := same_new (o := .tup [.int (i : Nat), x]) nt2
          have hT : upd (upd C t (.tup [.int (i : Nat), x])) D2 (.lst (ms.map V.int)) t = some (.tup [.int (i : Nat), x]) := upd_old f1 upd_same
          have f2 := sm _ _ e2
          have f3 := e3.mono sm
          have f4 := e4.trans sm
          generalize upd C t (.tup [.int (i : Nat), x]) = C3 at f1 f2 f3 f4 hT ⊢
          obtain ⟨c, r, rfl, _, hr1, hc⟩ := (hrw.mono f4).at hx
          obtain ⟨g1, g2, g3⟩ := hwf.2 r (List.mem_of_getElem? hr1)
          refine r_tup (SqT.of hT) rfl ?_
          walk_at "go"
          refine r_forL (xs := r.map V.int) (upd_old f1 hc) (fun j σ H' => ∃ (C : Hp) (hs : List (List Int)) (y5 : Option V), σ = [some (.ref a), some (.ref D1), some (.ref D2), some (.int i), some (.ref c), y5, none, none, none, none] ∧ H' = upd C D2 (.lst (ms.map V.int)) ∧ C D2 = none ∧ C D1 = some (.lst (as'.map V.ref)) ∧
            Rw C as' hs ∧ Same H C ∧ C c = some (.lst (r.map V.int)) ∧ Hpt rs hs i (r.take j) ∧ ∀ l ∈ hs, l.length ≤ i * L + j) ?_ ?_ ?_ ?_
          · exact ⟨C3, hs, _, rfl, rfl, f1, f2, f3, f4, hc, e5, e6⟩
          · rintro j σ H' _ ⟨C, hs, y5, rfl, rfl, e1, e2, e3, e4, e7, e5, e6⟩
            exact upd_old e1 e7
          · rintro j y σ H' hy ⟨C, hs, y5, rfl, rfl, e1, e2, e3, e4, e7, e5, e6⟩
            obtain ⟨z, rfl, hz⟩ := ints_at hy
            have hj := (List.getElem?_eq_some_iff.mp hz).1
            obtain ⟨z0, z1⟩ := g3 z (List.mem_of_getElem? hz)
            obtain ⟨b, hb⟩ : ∃ b, as'[z.toNat]? = some b := ⟨_, List.getElem?_eq_getElem (by omega)⟩
            obtain ⟨hl, hl1, hl2⟩ := e3.2 _ _ hb
            have hlen := e6 hl (List.mem_of_getElem? hl1)
            have hatb : atI (as'.map V.ref) z = some (.ref b) := at_i z0 (by rw [List.getElem?_map, hb]; rfl)
            have hiL : i * L ≤ 127 * 700 := Nat.mul_le_mul (by omega) hL
            have hsz : (hl.map V.int).length < sizeLine := small (by rw [List.length_map]; omega)
            have hbD2 : b ≠ D2 := ne_of_none hl2 e1
            walk_at "go"
            rw [upd_comm hbD2.symm, ints_push]
            have hbm := List.mem_of_getElem? hb
            have hcb : c ≠ b := ne_of_none (hrw.2 i c ‹_› |>.choose_spec.2) (h3 b hbm)
            refine ⟨_, hs.set z.toNat (hl ++ [(i : Int)]), _, rfl, rfl, by rw [upd_ne hbD2.symm]; exact e1, by rw [upd_ne (hneD1 b hbm).symm]; exact e2, e3.write h2 hb _, fun x y e => by rw [upd_ne (ne_of_none e (h3 b hbm))]; exact e4 _ _ e, by rw [upd_ne hcb]; exact e7, ?_, fun l hm => ?_⟩
            · rw [List.take_add_one, hz]
              exact e5.step (by omega) z0 hl1
            · rcases List.mem_or_eq_of_mem_set hm with q | q
              · have := e6 l q; omega
              · rw [q, List.length_append, List.length_singleton]; omega
          · rintro σ H' ⟨C, hs, y5, rfl, rfl, e1, e2, e3, e4, e7, e5, e6⟩
            rw [List.length_map, List.take_length] at e5
            rw [List.length_map] at e6
            exact ⟨C, hs, _, _, _, rfl, rfl, e1, e2, e3, e4, e5.row hr1, fun l hl => by have := e6 l hl; rw [Nat.add_mul]; omega⟩
        · rintro σ H' ⟨C, hs, y3, y4, y5, rfl, rfl, e1, e2, e3, e4, e5, e6⟩
          rw [List.length_map, hla, ← hlr] at e5
          have hd := e5.final
          walk_at "go"
          -- the places of empty rows
          refine lcT_enum topH (s0 := ()) (B := upd C D2 (.lst (ms.map V.int))) trivial (xs := as.map V.ref) (upd_old e1 (e4 _ _ ha)) (fun i C acc => acc = (pick i fun p => rs[p]? == some []).map V.int) (fun i C C' acc _ h => h) rfl ?_ ?_
          · rintro D3 i x _ C3 acc t _ hD3 hS3 hx ht rfl
            have hi := (List.getElem?_eq_some_iff.mp hx).1
            rw [List.length_map, hla] at hi
            have hSC : Same H C3 := fun x y e => hS3 _ _ (upd_old e1 (e4 _ _ e))
            obtain ⟨c, r, rfl, _, hr1, hc⟩ := (hrw.mono hSC).at hx
            have hpl := pick_len i fun p => rs[p]? == some []
            walk_at "begin"
            refine r_tup (SqT.of (upd_old hD3 ht)) rfl ?_
            walk_at "go"
            refine ⟨rfl, ?_⟩
            walk_at "go"
            refine ⟨size_nil, fun p np => ?_⟩
            obtain ⟨e, _, f1, nt2, net⟩ := newTD_eq topH (s := ()) trivial hD3 np (.lst [])
            try dsimp only at e
            rw [e]
            have sm := same_new (o := .lst []) nt2
            refine r_eqI (xs := r) (ys := []) (upd_old f1 (sm _ _ hc)) (upd_old f1 upd_same) ?_
            walk_at "go"
            refine r_ite (fun he => ?_) (fun he => ?_)
            · walk_at "go"
              refine lcN_put topH (s := ()) trivial f1 (hS3.trans sm) ?_ ?_
              · rw [List.length_map]; omega
              · rw [pick_succ, hr1, he, ints_push]; rfl
            · refine lcN_skip (s := ()) trivial f1 (hS3.trans sm) ?_
              rw [pick_succ, hr1, show (some r == some ([] : List Int)) = false from by simpa using he]
              show _ = List.map V.int (_ ++ [])
              rw [List.append_nil]
          · rintro D3 _ C3 acc _ hB3 hD3 hS3 rfl
            rw [List.length_map, hla]
            obtain ⟨C4, e, f1, sm⟩ := lay_same e1 hS3
            subst e
            have hne : D3 ≠ D2 := (upd_none hB3).1
            have hC4 : C4 D3 = none := (upd_none hD3).2
            have hSC : Same H C4 := e4.trans sm
            have hBH : H D3 = none := e4.free (upd_none hB3).2
            have hd4 := sm _ _ e2
            have hs4 := e3.mono sm
            have knd : (pick n fun p => rs[p]? == some []).Nodup := by
              unfold pick
              exact nodup_map (fun x y e => Int.ofNat.inj e) (List.Nodup.sublist List.filter_sublist List.nodup_range)
            have kn0 := Kn.init (rs := rs) knd fun p => by
              unfold pick
              rw [List.mem_map]
              constructor
              · rintro ⟨m, hm, rfl⟩
                have := (List.mem_filter.mp hm).2
                exact ⟨Int.natCast_nonneg _, by show rs[((m : Nat) : Int).toNat]? = some []; rw [Int.toNat_natCast]; simpa using this⟩
              · rintro ⟨h0, h1⟩
                refine ⟨p.toNat, List.mem_filter.mpr ⟨List.mem_range.mpr ?_, by simpa using h1⟩, by show ((p.toNat : Nat) : Int) = p; omega⟩
                have := (List.getElem?_eq_some_iff.mp h1).1
                omega
            rw [hms] at kn0
            generalize (pick n fun p => rs[p]? == some []) = ss0 at kn0 ⊢
            walk_at "go"
            refine r_while (fun m σ H' => ∃ (ms ss : List Int) (qq : Nat) (y8 y9 : Option V), σ = [some (.ref a), some (.ref D1), some (.ref D2), y3, y4, y5, some (.ref D3), some (.int qq), y8, y9] ∧ H' = upd (upd C4 D2 (.lst (ms.map V.int))) D3 (.lst (ss.map V.int)) ∧ Kn rs ms ss qq ∧ m = n - qq) ?_ ?_
            · exact ⟨n, ms, ss0, 0, none, none, rfl, rfl, kn0, rfl⟩
            · rintro m σ H' ⟨ms, ss, qq, y8, y9, rfl, rfl, kn, hm⟩
              have hlt := kn.lt
              have hD3' : ∀ x, upd C4 D2 x D3 = none := fun x => by rw [upd_ne hne]; exact hC4
              have h3 : ∀ x y, upd (upd C4 D2 x) D3 y D3 = some y := fun x y => upd_same
              walk_at "go"
              rw [List.length_map]
              refine r_ite (fun hlt2 => ?_) (fun hge => ?_)
              · have hq : qq < ss.length := by omega
                obtain ⟨l, hl⟩ : ∃ l, ss[qq]? = some l := ⟨_, List.getElem?_eq_getElem hq⟩
                obtain ⟨l0, l1⟩ := kn.rng l (List.mem_of_getElem? hl)
                have hatl : atI (ss.map V.int) (qq : Int) = some (.int l) := atI_nat (by rw [List.getElem?_map, hl]; rfl)
                obtain ⟨b, hb⟩ : ∃ b, as'[l.toNat]? = some b := ⟨_, List.getElem?_eq_getElem (by omega)⟩
                obtain ⟨hh, hh1, hh2⟩ := hs4.2 _ _ hb
                have hatb : atI (as'.map V.ref) l = some (.ref b) := at_i l0 (by rw [List.getElem?_map, hb]; rfl)
                have hd5 : ∀ x y, upd (upd C4 D2 x) D3 y D1 = some (.lst (as'.map V.ref)) := fun x y => upd_old (hD3' x) (upd_old f1 hd4)
                have hb5 : ∀ x y, upd (upd C4 D2 x) D3 y b = some (.lst (hh.map V.int)) := fun x y => upd_old (hD3' x) (upd_old f1 hh2)
                have km := kn.open hl
                refine ⟨_, fun _ _ h => h, ?_⟩
                have hd6 := hd5 (.lst (ms.map V.int)) (.lst (ss.map V.int))
                walk_at "go"
                refine r_forL (xs := hh.map V.int) (hb5 _ _) (fun j σ H' => ∃ (ms ss : List Int) (y9 : Option V), σ = [some (.ref a), some (.ref D1), some (.ref D2), y3, y4, y5, some (.ref D3), some (.int qq), some (.int l), y9] ∧ H' = upd (upd C4 D2 (.lst (ms.map V.int))) D3 (.lst (ss.map V.int)) ∧ Km rs ms ss qq l (hh.take j)) ?_ ?_ ?_ ?_
                · exact ⟨ms, ss, _, rfl, rfl, km⟩
                · rintro j σ H' _ ⟨ms, ss, y9, rfl, rfl, km⟩
                  exact hb5 _ _
                · rintro j x σ H' hx ⟨ms, ss, y9, rfl, rfl, km⟩
                  obtain ⟨z, rfl, hz⟩ := ints_at hx
                  have hdrop : hh = hh.take j ++ z :: hh.drop (j + 1) := by
                    have hj := (List.getElem?_eq_some_iff.mp hz).1
                    have e := (List.getElem?_eq_some_iff.mp hz).2
                    rw [← e, List.getElem_cons_drop, List.take_append_drop]
                  obtain ⟨v, z0, z1, hv, hyes, hno⟩ := km.step hd l0 (by rw [hh1]; exact congrArg some hdrop)
                  have hsl := km.lt
                  have hml : ms.length = n := by rw [km.len, hlr]
                  have hatv : atI (ms.map V.int) z = some (.int ((v + 1 : Nat) : Int)) := at_i z0 (by rw [List.getElem?_map, hv]; rfl)
                  have hixv : ixN (ms.map V.int).length z = some z.toNat := ix_i z0 (by rw [List.length_map]; omega)
                  have hd2 : upd (upd C4 D2 (.lst (ms.map V.int))) D3 (.lst (ss.map V.int)) D2 = some (.lst (ms.map V.int)) := upd_old (hD3' _) upd_same
                  have htake : hh.take (j + 1) = hh.take j ++ [z] := by rw [List.take_add_one, hz]; rfl
                  walk_at "go"
                  rw [show ((v + 1 : Nat) : Int) - 1 = (v : Int) by omega, setMap, upd_comm hne, upd_upd]
                  have hatw : atI ((ms.set z.toNat (v : Int)).map V.int) z = some (.int (v : Int)) := at_i z0 (by rw [List.getElem?_map, List.getElem?_set_self (by omega)]; rfl)
                  have hd2' : upd (upd C4 D2 (.lst ((ms.set z.toNat (v : Int)).map V.int))) D3 (.lst (ss.map V.int)) D2 = some (.lst ((ms.set z.toNat (v : Int)).map V.int)) := upd_old (hD3' _) upd_same
                  walk_at "go"
                  refine r_ite (fun h0 => ?_) (fun h0 => ?_)
                  · have hv0 : v = 0 := by have := int_eq.mp h0; omega
                    subst hv0
                    walk_at "go"
                    rw [upd_upd, ints_push]
                    exact ⟨_, _, _, rfl, rfl, by rw [htake]; exact hno rfl⟩
                  · walk_at "go"
                    exact ⟨_, _, _, rfl, rfl, by rw [htake]; exact hyes fun e => h0 (by rw [e]; rfl)⟩
                · rintro σ H' ⟨ms, ss, y9, rfl, rfl, km⟩
                  rw [List.length_map, List.take_length] at km
                  have kn2 := km.close hd l0 hh1
                  walk_at "go"
                  exact ⟨n - (qq + 1), by omega, ms, ss, qq + 1, _, _, rfl, rfl, kn2, rfl⟩
              · walk_at "go"
                have hfin := kn.final (by omega) (In.of hwf)
                rw [hlr] at hfin
                refine q _ D3 ss (fun x y e => upd_old (hD3' _) (upd_old f1 (hSC _ _ e))) hBH upd_same hfin
end
end K34
namespace K34
open PySem PySem.Spec PyProof.Rows L2 Lw


local macro_rules | `(tactic| walk_at "look") => `(tactic| first
  | assumption
  | with_reducible exact upd_same
  | with_reducible exact rg_st
  | with_reducible exact rg_g (by assumption)
  | (with_reducible refine upd_old (by assumption) ?_; walk_at "look")
  | (with_reducible refine rg_get (by assumption) ?_; walk_at "look")
  | (with_reducible refine Same.get (by assumption) ?_; walk_at "look"))
local macro_rules | `(tactic| walk_at "cond") => `(tactic| first
  | (show _ ≠ _; omega) | exact cdivN (by omega) (by omega) | exact cmul_mod (by decide) (by decide) | exact cmulR (by omega) (by omega) | exact cmulL (by omega) (by omega) | exact cpow (by omega) (by omega) (by omega) (by omega) | (show (0:Int) ≤ _; omega))
local macro_rules | `(tactic| walk_at "at") => `(tactic| first | assumption | with_unfolding_all rfl)
local macro_rules | `(tactic| walk_at "sz") => `(tactic| first | assumption | (refine small ?_; omega) | (refine small ?_; simp only [List.length_map, List.length_append, List.length_cons, List.length_nil]; omega))
local macro_rules | `(tactic| walk_at "len") => `(tactic| first | exact size_nil | exact Nat.le_of_lt (small (by simp only [List.length_cons, List.length_nil, List.length_map]; omega)))
local macro_rules | `(tactic| walk_at "newD") => `(tactic| (refine ⟨by walk_at "len", fun p np => ?_⟩; obtain ⟨e, o', hD', n', ne'⟩ := newTD_eq (topRg _ _) (by assumption) (by assumption) np (.lst _); rw [e]; clear e))
local macro_rules | `(tactic| walk_at "new") => `(tactic| (refine ⟨by walk_at "len", fun p np => ?_⟩; obtain ⟨e, o', n'⟩ := newT_eq (topRg _ _) (by assumption) np (.lst _); rw [e]; clear e))
local macro_rules | `(tactic| walk_at "st") => `(tactic| first
  | with_reducible refine r_seq ?_
  | with_reducible refine r_var rfl ?_
  | with_reducible refine r_c ?_
  | with_reducible refine r_asg ?_
  | (with_reducible refine r_name ?_; dsimp only [List.set_cons_zero, List.set_cons_succ])
  | with_reducible refine r_sub ?_
  | with_reducible refine r_op ?_
  | with_reducible refine r_i0 ?_
  | (with_reducible refine' r_i ?k1 ?_; (case k1 => walk_at "cond"))
  | with_reducible refine r_cons ?_
  | with_reducible refine r_nil ?_
  | with_reducible refine r_cb ?_
  | with_reducible refine r_call ?_
  | with_reducible refine r_ifs ?_
  | with_reducible refine r_test ?_
  | with_reducible refine r_tB ?_
  | with_reducible refine r_bl ?_
  | with_reducible refine r_ret ?_
  | with_reducible refine r_drop ?_
  | with_reducible refine r_next ?_
  | (with_reducible refine' r_ixL ?k1 ?k2 ?_; (case k1 => walk_at "look"); (case k2 => walk_at "at"))
  | (with_reducible refine' r_setL ?k1 ?k2 ?_; (case k1 => walk_at "look"); (case k2 => walk_at "at"))
  | (with_reducible refine' r_tup (SqT.of ?k1) ?k2 ?_; (case k1 => walk_at "look"); (case k2 => rfl))
  | with_reducible refine r_gcons ?_
  | with_reducible refine r_gnil ?_
  | with_reducible refine r_aug rfl ?_
  | with_reducible refine r_augS ?_
  | with_reducible refine r_ipI ?_
  | with_reducible refine r_un ?_
  | with_reducible refine r_u ?_
  | with_reducible refine r_eq rfl ?_
  | with_reducible refine r_ne rfl ?_
  | with_reducible refine r_chain ?_
  | with_reducible refine iteF ?_
  | with_reducible refine r_not ?_
  | with_reducible refine r_and ?_
  | with_reducible refine r_or ?_
  | with_reducible refine r_andV ?_
  | with_reducible refine r_orV ?_
  | with_reducible refine r_notV ?_
  | with_reducible refine r_lst ?_
  | with_reducible refine r_bm ?_
  | with_reducible refine r_bm0 ?_
  | (with_reducible refine' And.intro (r_ty ?k1) ?_; (case k1 => walk_at "look"))
  | (with_reducible refine' r_append ?k1 ?k2 ?_; (case k1 => walk_at "look"); (case k2 => walk_at "sz"))
  | (with_reducible refine' r_lenK ?k1 ?_; (case k1 => walk_at "look"))
  | (with_reducible refine' r_listOf ?k1 ?_; (case k1 => walk_at "look"))
  | (with_reducible refine' r_sortedI ?k1 ?_; (case k1 => walk_at "look"))
  | (with_reducible refine' r_sum ?k1 ?_; (case k1 => walk_at "look"))
  | with_reducible refine r_int ?_
  | (with_reducible refine' r_draw (by assumption) ?k1 ?k2 ?_; (case k1 => omega); (case k2 => omega); intro R' n' o' h' h'')
  | with_reducible refine iteT ?_
  | with_reducible refine r_revL ?_
  | with_reducible refine r_lc ?_
  | with_reducible refine r_yes ?_
  | with_reducible refine r_for ?_
  | with_reducible refine r_iList ?_
  | with_reducible refine r_rng1 ?_
  | with_reducible refine r_enum ?_
  | (with_reducible show Ends.nx _ _ _; dsimp only)
  | (with_reducible show Ends.rt _ _ _; dsimp only)
  | (with_reducible show Ends.ct _ _ _; dsimp only)
  | (with_reducible show Ends.bk _ _ _; dsimp only))
local macro_rules | `(tactic| walk_at "go") => `(tactic| repeat (walk_at "st"))
local macro_rules | `(tactic| walk_at "begin") => `(tactic| dsimp only [cxOf, wipe, L2.start, List.map, List.length_cons, List.length_nil, Nat.reduceAdd, Nat.reduceSub, List.replicate, List.cons_append, List.nil_append])


open Lm
local macro_rules | `(tactic| walk_at "st") => `(tactic| first
  | (with_reducible refine' r_inI ?k1 ?_; (case k1 => walk_at "look"))
  | (with_reducible refine' r_isi (r := true) (.base (.lst ?k1)) ?k2 ?_; (case k1 => walk_at "look"); (case k2 => decide +kernel))
  | (with_reducible refine' r_isi (r := true) (.base (.int _)) ?k2 ?_; (case k2 => decide +kernel))
  | (with_reducible refine' r_isi (r := true) (.base (.bl _)) ?k2 ?_; (case k2 => decide +kernel))
  | (with_reducible refine' r_isi (r := false) (.base (.int _)) ?k2 ?_; (case k2 => decide +kernel)))
def spPlain : Sp := fun vs H Q _ => ∃ (a : Addr) (as : List Addr) (rs : List (List Int)) (n L : Nat), vs = [.ref a] ∧ H a = some (.lst (as.map V.ref)) ∧ Rw H as rs ∧ Wf n L rs ∧ n ≤ 128 ∧ L ≤ 700 ∧
  ∀ (H' : Hp) (b : Bool), Same H H' → (b = true ↔ ∀ x, ¬ Tc (Ed rs) x x) → Q (.bl b) H'
def spInts : Sp := fun vs H Q _ => ∃ (t d : Addr) (xs ys : List Int), vs = [.ref t, .ref d] ∧ H t = some (.lst (xs.map V.int)) ∧ H d = some (.lst (ys.map V.int)) ∧ Q (.bl (decide (xs = ys))) H
section
variable {P : Program} {w : World} {K : PySem.W.Frag} {mg : Str → Option Value} {base : Heap}
theorem ok_plain {f f1 : Addr} {fd fd1 : FuncData} (B : Blt mg) (D : Dn K mg "is_plain" s_is_plain ["drawing"] f fd) (Dsettled_places : Dn K mg "settled_places" s_settled_places ["rows"] f1 fd1)
    (Gsettled_places : FnOk P w K mg base CX0 1 f1 fd1 ["rows"] spSettled) : FnOk P w K mg base CX0 2 f fd ["drawing"] spPlain := by
  refine D.F.ok sc_is_plain (fun vs H Q E h => ?_) (fun cdv A outer s H vs Q E hr h => ?_)
  · obtain ⟨a, as, rs, n, L, rfl, _⟩ := h
    rfl
  · obtain ⟨a, as, rs, n, L, rfl, ha, hrw, hwf, hn, hL, q⟩ := h
    have hla : as.length = n := by rw [hrw.1]; exact hwf.1
    refine ⟨_, (pss_one (ps_ret (pe_cmpR op_eq (pe_callB (call_len_seqK (K := K) rfl) (by rfl) B.m_len PySem.boot_len (pa_cons (pe_call Gsettled_places (hr.mono (by decide)) (by rfl) Dsettled_places.g Dsettled_places.F.kp Dsettled_places.b .nil pass0 (pa_cons (pv 0) pa_nil)) pa_nil)) (pe_callB (call_len_seqK (K := K) rfl) (by rfl) B.m_len PySem.boot_len (pa_cons (pv 0) pa_nil)) (nomark _)))), ?_⟩
    walk_at "begin"
    walk_at "go"
    refine ⟨a, as, rs, n, L, rfl, ha, hrw, hwf, hn, hL, fun H' p ss hS np hp hss => ?_⟩
    have ha' := hS _ _ ha
    walk_at "go"
    refine q H' _ hS ?_
    rw [List.length_map, List.length_map, hla, decide_eq_true_eq, int_eq, ← hss]
    omega
theorem ok_ints {f : Addr} {fd : FuncData} {k : Nat} (B : Blt mg) (D : Dn K mg "_law_ints" s__law_ints ["told", "due"] f fd) : FnOk P w K mg base CX0 (k + 1) f fd ["told", "due"] spInts := by
  refine D.F.ok sc__law_ints (fun vs H Q E h => ?_) (fun cdv A outer s H vs Q E hr h => ?_)
  · obtain ⟨t, d, xs, ys, rfl, _⟩ := h
    rfl
  · obtain ⟨t, d, xs, ys, rfl, ht, hd, q⟩ := h
    refine ⟨_, (C8.pss_cut (ps_if (PW.pt (pw_or (pt_not (pt_val (pe_callB (call_isiK' (K := K) rfl) (by rfl) B.m_isinstance (by decide +kernel) (pa_cons (pv 0) (pa_cons (pe_bltn (v := .ty "list") (by rfl) B.m_list (by decide +kernel) rfl) pa_nil))))) (pw_or1 (pt_cmpR op_ne (pe_callB (call_len_seqK (K := K) rfl) (by rfl) B.m_len PySem.boot_len (pa_cons (pv 0) pa_nil)) (pe_callB (call_len_seqK (K := K) rfl) (by rfl) B.m_len PySem.boot_len (pa_cons (pv 1) pa_nil)) (nomark _))))) (pss_one (ps_ret pe_bl)) pss_nil)
      (pss_cons (ps_for PassesOwn.never rfl (pi_listK (K := K) rfl (pv 0)) (pg_name (i := 2) sc__law_ints.nd rfl (.inl rfl)) (pss_one (ps_if (PW.pt (pw_or (pt_not (pt_val (pe_callB (call_isiK' (K := K) rfl) (by rfl) B.m_isinstance (by decide +kernel) (pa_cons (pv 2) (pa_cons (pe_bltn (v := .ty "int") (by rfl) B.m_int (by decide +kernel) rfl) pa_nil))))) (pw_or1 (pt_val (pe_callB (call_isiK' (K := K) rfl) (by rfl) B.m_isinstance (by decide +kernel) (pa_cons (pv 2) (pa_cons (pe_bltn (v := .ty "bool") (by rfl) B.m_bool (by decide +kernel) rfl) pa_nil))))))) (pss_one (ps_ret pe_bl)) pss_nil)))
      (pss_one (ps_ret (pe_cmpR (op_eqDK (K := K) rfl hr.units) (pv 0) (pv 1) (nomark _)))))), ?_⟩
    walk_at "begin"
    walk_at "go"
    refine ⟨fun σ H' => σ = [some (.ref t), some (.ref d), none] ∧ H' = H, ?_, ?_⟩
    · walk_at "go"
      refine iteF ?_
      walk_at "go"
      rw [List.length_map, List.length_map]
      refine r_iten (fun hne => ?_) (fun _ => ?_)
      · walk_at "go"
        have hx : xs ≠ ys := fun e => hne (by rw [e])
        rw [decide_eq_false hx] at q
        exact q
      · walk_at "go"
        exact ⟨rfl, rfl⟩
    · rintro σ H' ⟨rfl, rfl⟩
      walk_at "go"
      refine r_forL (xs := xs.map V.int) ht (fun i σ H => ∃ y, σ = [some (.ref t), some (.ref d), y] ∧ H = H') ⟨none, rfl, rfl⟩ ?_ ?_ ?_
      · rintro i σ H _ ⟨y, rfl, rfl⟩
        exact ht
      · rintro i x σ H hx ⟨y, rfl, rfl⟩
        obtain ⟨z, rfl, hz⟩ := ints_at hx
        walk_at "go"
        refine iteF ?_
        walk_at "go"
        exact ⟨_, rfl, rfl⟩
      · rintro σ H ⟨y, rfl, rfl⟩
        walk_at "go"
        exact r_eqI ht hd q
end
end K34
namespace K34
open PySem PySem.Spec PyProof.Rows L2 Lw


local macro_rules | `(tactic| walk_at "look") => `(tactic| first
  | assumption
  | with_reducible exact upd_same
  | with_reducible exact rg_st
  | with_reducible exact rg_g (by assumption)
  | (with_reducible refine upd_old (by assumption) ?_; walk_at "look")
  | (with_reducible refine rg_get (by assumption) ?_; walk_at "look")
  | (with_reducible refine Same.get (by assumption) ?_; walk_at "look"))
local macro_rules | `(tactic| walk_at "cond") => `(tactic| first
  | (show _ ≠ _; omega) | exact cdivN (by omega) (by omega) | exact cmul_mod (by decide) (by decide) | exact cmulR (by omega) (by omega) | exact cmulL (by omega) (by omega) | exact cpow (by omega) (by omega) (by omega) (by omega) | (show (0:Int) ≤ _; omega))
local macro_rules | `(tactic| walk_at "at") => `(tactic| first | assumption | with_unfolding_all rfl)
local macro_rules | `(tactic| walk_at "sz") => `(tactic| first | assumption | (refine small ?_; omega) | (refine small ?_; simp only [List.length_map, List.length_append, List.length_cons, List.length_nil]; omega))
local macro_rules | `(tactic| walk_at "len") => `(tactic| first | exact size_nil | exact Nat.le_of_lt (small (by simp only [List.length_cons, List.length_nil, List.length_map]; omega)))
local macro_rules | `(tactic| walk_at "newD") => `(tactic| (refine ⟨by walk_at "len", fun p np => ?_⟩; obtain ⟨e, o', hD', n', ne'⟩ := newTD_eq (topRg _ _) (by assumption) (by assumption) np (.lst _); rw [e]; clear e))
local macro_rules | `(tactic| walk_at "new") => `(tactic| (refine ⟨by walk_at "len", fun p np => ?_⟩; obtain ⟨e, o', n'⟩ := newT_eq (topRg _ _) (by assumption) np (.lst _); rw [e]; clear e))
local macro_rules | `(tactic| walk_at "st") => `(tactic| first
  | with_reducible refine r_seq ?_
  | with_reducible refine r_var rfl ?_
  | with_reducible refine r_c ?_
  | with_reducible refine r_asg ?_
  | (with_reducible refine r_name ?_; dsimp only [List.set_cons_zero, List.set_cons_succ])
  | with_reducible refine r_sub ?_
  | with_reducible refine r_op ?_
  | with_reducible refine r_i0 ?_
  | (with_reducible refine' r_i ?k1 ?_; (case k1 => walk_at "cond"))
  | with_reducible refine r_cons ?_
  | with_reducible refine r_nil ?_
  | with_reducible refine r_cb ?_
  | with_reducible refine r_call ?_
  | with_reducible refine r_ifs ?_
  | with_reducible refine r_test ?_
  | with_reducible refine r_tB ?_
  | with_reducible refine r_bl ?_
  | with_reducible refine r_ret ?_
  | with_reducible refine r_drop ?_
  | with_reducible refine r_next ?_
  | (with_reducible refine' r_ixL ?k1 ?k2 ?_; (case k1 => walk_at "look"); (case k2 => walk_at "at"))
  | (with_reducible refine' r_setL ?k1 ?k2 ?_; (case k1 => walk_at "look"); (case k2 => walk_at "at"))
  | (with_reducible refine' r_tup (SqT.of ?k1) ?k2 ?_; (case k1 => walk_at "look"); (case k2 => rfl))
  | with_reducible refine r_gcons ?_
  | with_reducible refine r_gnil ?_
  | with_reducible refine r_aug rfl ?_
  | with_reducible refine r_augS ?_
  | with_reducible refine r_ipI ?_
  | with_reducible refine r_un ?_
  | with_reducible refine r_u ?_
  | with_reducible refine r_eq rfl ?_
  | with_reducible refine r_ne rfl ?_
  | with_reducible refine r_chain ?_
  | with_reducible refine iteF ?_
  | with_reducible refine r_not ?_
  | with_reducible refine r_and ?_
  | with_reducible refine r_or ?_
  | with_reducible refine r_andV ?_
  | with_reducible refine r_orV ?_
  | with_reducible refine r_notV ?_
  | with_reducible refine r_lst ?_
  | with_reducible refine r_bm ?_
  | with_reducible refine r_bm0 ?_
  | (with_reducible refine' And.intro (r_ty ?k1) ?_; (case k1 => walk_at "look"))
  | (with_reducible refine' r_append ?k1 ?k2 ?_; (case k1 => walk_at "look"); (case k2 => walk_at "sz"))
  | (with_reducible refine' r_lenK ?k1 ?_; (case k1 => walk_at "look"))
  | (with_reducible refine' r_listOf ?k1 ?_; (case k1 => walk_at "look"))
  | (with_reducible refine' r_sortedI ?k1 ?_; (case k1 => walk_at "look"))
  | (with_reducible refine' r_sum ?k1 ?_; (case k1 => walk_at "look"))
  | with_reducible refine r_int ?_
  | (with_reducible refine' r_draw (by assumption) ?k1 ?k2 ?_; (case k1 => omega); (case k2 => omega); intro R' n' o' h' h'')
  | with_reducible refine iteT ?_
  | with_reducible refine r_revL ?_
  | with_reducible refine r_lc ?_
  | with_reducible refine r_yes ?_
  | with_reducible refine r_for ?_
  | with_reducible refine r_iList ?_
  | with_reducible refine r_rng1 ?_
  | with_reducible refine r_enum ?_
  | (with_reducible show Ends.nx _ _ _; dsimp only)
  | (with_reducible show Ends.rt _ _ _; dsimp only)
  | (with_reducible show Ends.ct _ _ _; dsimp only)
  | (with_reducible show Ends.bk _ _ _; dsimp only))
local macro_rules | `(tactic| walk_at "go") => `(tactic| repeat (walk_at "st"))
local macro_rules | `(tactic| walk_at "begin") => `(tactic| dsimp only [cxOf, wipe, L2.start, List.map, List.length_cons, List.length_nil, Nat.reduceAdd, Nat.reduceSub, List.replicate, List.cons_append, List.nil_append])


open Lm
local macro_rules | `(tactic| walk_at "st") => `(tactic| first
  | (with_reducible refine' r_isi (r := true) (.base (.lst ?k1)) ?k2 ?_; (case k1 => walk_at "look"); (case k2 => decide +kernel))
  | (with_reducible refine' r_isi (r := true) (.base (.int _)) ?k2 ?_; (case k2 => decide +kernel))
  | (with_reducible refine' r_isi (r := true) (.base (.bl _)) ?k2 ?_; (case k2 => decide +kernel))
  | (with_reducible refine' r_isi (r := false) (.base (.int _)) ?k2 ?_; (case k2 => decide +kernel)))
def spReaches : Sp := fun vs H Q _ => ∃ (a m : Addr) (as : List Addr) (rs : List (List Int)) (n L : Nat) (ms : List Nat) (p : Int), vs = [.ref a, .ref m, .int p] ∧ H a = some (.lst (as.map V.ref)) ∧ Rw H as rs ∧ Wf n L rs ∧ n ≤ 128 ∧ L ≤ 700 ∧
  H m = some (.lst (msV ms)) ∧ ms.length = n ∧ (∀ c m, ms[c]? = some m → ∀ b, m.testBit b = true ↔ Tc (Ed rs) c b) ∧ 0 ≤ p ∧ p < n ∧ ∀ H' : Hp, Same H H' → Q (.bl true) H'
section
variable {P : Program} {w : World} {K : PySem.W.Frag} {mg : Str → Option Value} {base : Heap}
theorem ok_reaches {f f1 f2 : Addr} {fd fd1 fd2 : FuncData} (B : Blt mg) (D : Dn K mg "_law_reaches" s__law_reaches ["handed", "masks", "place"] f fd)
    (Dreachable : Dn K mg "reachable" s_reachable ["drawing", "place"] f1 fd1) (Greachable : FnOk P w K mg base CX0 1 f1 fd1 ["drawing", "place"] spReach)
    (D_law_ints : Dn K mg "_law_ints" s__law_ints ["told", "due"] f2 fd2) (G_law_ints : FnOk P w K mg base CX0 1 f2 fd2 ["told", "due"] spInts) :
    FnOk P w K mg base CX0 2 f fd ["handed", "masks", "place"] spReaches := by
  refine D.F.ok sc__law_reaches (fun vs H Q E h => ?_) (fun cdv A outer s H vs Q E hr h => ?_)
  · obtain ⟨a, m, as, rs, n, L, ms, p, rfl, _⟩ := h
    rfl
  · obtain ⟨a, m, as, rs, n, L, ms, p, rfl, ha, hrw, hwf, hn, hL, hm, hml, hms, hp0, hp1, q⟩ := h
    have hla : as.length = n := by rw [hrw.1]; exact hwf.1
    obtain ⟨x, hx⟩ : ∃ x, ms[p.toNat]? = some x := ⟨_, List.getElem?_eq_getElem (by omega)⟩
    have hatx : atI (msV ms) p = some (.int (x : Int)) := at_i hp0 (msV_at hx)
    refine ⟨_, (pss_cons (ps_setLc (i := 3) (own := [("at", 5)]) rfl sc__law_reaches.nd rfl rfl (sw_true rfl rfl rfl (by decide +kernel)) (pi_range1 (by rfl) B.m_range (pa_cons (pe_callB (call_len_seqK (K := K) rfl) (by rfl) B.m_len PySem.boot_len (pa_cons (pv 0) pa_nil)) pa_nil)) (blkOk_by (own := [("at", 5)]) (by kernel_rfl))
        (fun _ _ _ _ _ => (pg_name (i := 5) sc__law_reaches.nd rfl (.inl rfl))) (fun _ _ _ _ _ => (pts_one (PW.pt (pw_or (pt_cmpR op_eq (pv 5) (pv 2) (nomark _)) (pw_or1 (pt_cmpR op_eq (pe_op op_and (pe_op op_shr (pe_ix (ix_listK (K := K) rfl) (pv 1) (pv 2) (fun _ _ => rfl)) (pv 5)) pe_int) pe_int (nomark _)))))))
        (fun _ _ _ _ _ => (pv 5)))
      (pss_cons (ps_set (i := 4) sc__law_reaches.nd rfl (.inl rfl) (pe_call Greachable (hr.mono (by decide)) (by rfl) Dreachable.g Dreachable.F.kp Dreachable.b .nil pass0 (pa_cons (pv 0) (pa_cons (pv 2) pa_nil))))
      (pss_cons (ps_if (pt_not (pt_val (pe_call G_law_ints (hr.mono (by decide)) (by rfl) D_law_ints.g D_law_ints.F.kp D_law_ints.b .nil pass0 (pa_cons (pv 4) (pa_cons (pv 3) pa_nil))))) (pss_one (ps_ret pe_bl)) pss_nil)
      (pss_cons (ps_expr (pe_bmK (K := K) rfl PySem.F.plainAttrs_list PySem.F.slot_list_append PySem.F.type_list_append mt_append (pv 4) (pa_cons (pv 2) pa_nil)))
      (pss_cons (ps_asg pe_int (pg_sub (pv 4) pe_int set_list))
      (pss_one (ps_ret (pe_call G_law_ints (hr.mono (by decide)) (by rfl) D_law_ints.g D_law_ints.F.kp D_law_ints.b .nil pass0 (pa_cons (pe_call Greachable (hr.mono (by decide)) (by rfl) Dreachable.g Dreachable.F.kp Dreachable.b .nil pass0 (pa_cons (pv 0) (pa_cons (pv 2) pa_nil))) (pa_cons (pv 3) pa_nil)))))))))), ?_⟩
    walk_at "begin"
    walk_at "go"
    rw [List.length_map, hla]
    refine lcT_range topH (s0 := ()) (B := H) trivial ?_ ?_ (fun i C acc => acc = (pick i fun i => decide ((i : Int) = p) || x.testBit i).map V.int) rfl ?_ ?_
    · omega
    · omega
    · rintro D1 i _ C acc _ hD hS hi rfl
      have hpl := pick_len i fun i => decide ((i : Int) = p) || x.testBit i
      have hmC := hS _ _ hm
      rw [Int.toNat_natCast] at hi
      walk_at "begin"
      walk_at "go"
      refine ⟨rfl, ?_⟩
      walk_at "go"
      have yes : (decide ((i : Int) = p) || x.testBit i) = true → ∃ acc', upd C D1 (.lst ((pick i fun i => decide ((i : Int) = p) || x.testBit i).map V.int)) D1 = some (.lst acc') ∧ acc'.length < sizeLine ∧
          LcN (fun (_ : Unit) C => C) (fun _ _ => True) H D1 (fun C acc => acc = (pick (i + 1) fun i => decide ((i : Int) = p) || x.testBit i).map V.int) (upd (upd C D1 (.lst ((pick i fun i => decide ((i : Int) = p) || x.testBit i).map V.int))) D1 (.lst (acc' ++ [.int i]))) := fun e => by
        refine lcN_put topH (s := ()) trivial hD hS ?_ ?_
        · rw [List.length_map]; omega
        · rw [pick_succ, if_pos e, ints_push]
      refine r_ite (fun he => ?_) (fun he => ?_)
      · walk_at "go"
        exact yes (by rw [decide_eq_true (int_eq.mp he)]; rfl)
      · walk_at "go"
        refine r_ite (fun t => ?_) (fun t => ?_)
        · walk_at "go"
          exact yes (by rw [(bit_test x i).mp t]; exact Bool.or_true _)
        · refine lcN_skip (s := ()) trivial hD hS ?_
          have e1 : x.testBit i = false := by
            cases e : x.testBit i with
            | false => rfl
            | true => exact absurd ((bit_test x i).mpr e) t
          have e2 : decide ((i : Int) = p) = false := decide_eq_false fun e => he (by rw [e])
          rw [pick_succ, e1, e2]
          show _ = List.map V.int (_ ++ [])
          rw [List.append_nil]
    · rintro D1 _ C acc _ hB hD hS rfl
      rw [Int.toNat_natCast]
      generalize hdue : (pick n fun i => decide ((i : Int) = p) || x.testBit i) = due
      have hS1 := hS.trans (same_new (o := .lst (due.map V.int)) hD)
      have hd1 : upd C D1 (.lst (due.map V.int)) D1 = some (.lst (due.map V.int)) := upd_same
      generalize upd C D1 (.lst (due.map V.int)) = C1 at hS1 hd1 ⊢
      clear hS hD
      have same_due : ∀ f : Nat → Bool, (∀ i, i < n → (f i = true ↔ Rc (Ed rs) p.toNat i)) → pick n f = due := fun f hf => by
        rw [← hdue]
        refine pick_congr fun i hi => ?_
        rw [Bool.eq_iff_iff, hf i hi, Bool.or_eq_true, decide_eq_true_eq, hms p.toNat x hx i]
        unfold Rc
        constructor
        · rintro (e | e)
          · exact .inl (by omega)
          · exact .inr e
        · rintro (e | e)
          · exact .inl (by omega)
          · exact .inr e
      walk_at "go"
      refine ⟨a, as, rs, n, L, p, rfl, hS1 _ _ ha, hrw.mono hS1, hwf, hn, by omega, hp0, hp1, fun H2 t f2 hS2 nt ht hf2 => ?_⟩
      rw [same_due f2 hf2] at ht
      have hd2 := hS2 _ _ hd1
      walk_at "go"
      refine ⟨t, D1, due, due, rfl, ht, hd2, ?_⟩
      rw [decide_eq_true rfl]
      walk_at "go"
      refine iteF ?_
      walk_at "go"
      have hdl : due.length ≤ n := by rw [← hdue]; exact pick_len _ _
      refine r_append ht (small (by rw [List.length_map]; omega)) ?_
      walk_at "go"
      have hix : ixN (due.map V.int ++ [V.int p]).length 0 = some 0 := ix_i (by decide) (by rw [List.length_append, List.length_singleton]; omega)
      walk_at "go"
      rw [upd_upd]
      have sm : ∀ y, Same C1 (upd H2 t y) := fun y b o e => by rw [upd_ne (ne_of_none e nt)]; exact hS2 _ _ e
      have sm2 : ∀ y, Same H (upd H2 t y) := fun y => hS1.trans (sm y)
      walk_at "go"
      refine ⟨a, as, rs, n, L, p, rfl, sm2 _ _ _ ha, hrw.mono (sm2 _), hwf, hn, by omega, hp0, hp1, fun H4 t4 f4 hS4 nt4 ht4 hf4 => ?_⟩
      rw [same_due f4 hf4] at ht4
      walk_at "go"
      refine ⟨t4, D1, due, due, rfl, ht4, hS4 _ _ (sm _ _ _ hd1), ?_⟩
      rw [decide_eq_true rfl]
      exact q H4 ((sm2 _).trans hS4)
end
end K34
namespace K34
open PySem PySem.Spec PyProof.Rows L2 Lw


local macro_rules | `(tactic| walk_at "look") => `(tactic| first
  | assumption
  | with_reducible exact upd_same
  | with_reducible exact rg_st
  | with_reducible exact rg_g (by assumption)
  | (with_reducible refine upd_old (by assumption) ?_; walk_at "look")
  | (with_reducible refine rg_get (by assumption) ?_; walk_at "look")
  | (with_reducible refine Same.get (by assumption) ?_; walk_at "look"))
local macro_rules | `(tactic| walk_at "cond") => `(tactic| first
  | (show _ ≠ _; omega) | exact cdivN (by omega) (by omega) | exact cmul_mod (by decide) (by decide) | exact cmulR (by omega) (by omega) | exact cmulL (by omega) (by omega) | exact cpow (by omega) (by omega) (by omega) (by omega) | (show (0:Int) ≤ _; omega))
local macro_rules | `(tactic| walk_at "at") => `(tactic| first | assumption | with_unfolding_all rfl)
local macro_rules | `(tactic| walk_at "sz") => `(tactic| first | assumption | (refine small ?_; omega) | (refine small ?_; simp only [List.length_map, List.length_append, List.length_cons, List.length_nil]; omega))
local macro_rules | `(tactic| walk_at "len") => `(tactic| first | exact size_nil | exact Nat.le_of_lt (small (by simp only [List.length_cons, List.length_nil, List.length_map]; omega)))
local macro_rules | `(tactic| walk_at "newD") => `(tactic| (refine ⟨by walk_at "len", fun p np => ?_⟩; obtain ⟨e, o', hD', n', ne'⟩ := newTD_eq (topRg _ _) (by assumption) (by assumption) np (.lst _); rw [e]; clear e))
local macro_rules | `(tactic| walk_at "new") => `(tactic| (refine ⟨by walk_at "len", fun p np => ?_⟩; obtain ⟨e, o', n'⟩ := newT_eq (topRg _ _) (by assumption) np (.lst _); rw [e]; clear e))
local macro_rules | `(tactic| walk_at "st") => `(tactic| first
  | with_reducible refine r_seq ?_
  | with_reducible refine r_var rfl ?_
  | with_reducible refine r_c ?_
  | with_reducible refine r_asg ?_
  | (with_reducible refine r_name ?_; dsimp only [List.set_cons_zero, List.set_cons_succ])
  | with_reducible refine r_sub ?_
  | with_reducible refine r_op ?_
  | with_reducible refine r_i0 ?_
  | (with_reducible refine' r_i ?k1 ?_; (case k1 => walk_at "cond"))
  | with_reducible refine r_cons ?_
  | with_reducible refine r_nil ?_
  | with_reducible refine r_cb ?_
  | with_reducible refine r_call ?_
  | with_reducible refine r_ifs ?_
  | with_reducible refine r_test ?_
  | with_reducible refine r_tB ?_
  | with_reducible refine r_bl ?_
  | with_reducible refine r_ret ?_
  | with_reducible refine r_drop ?_
  | with_reducible refine r_next ?_
  | (with_reducible refine' r_ixL ?k1 ?k2 ?_; (case k1 => walk_at "look"); (case k2 => walk_at "at"))
  | (with_reducible refine' r_setL ?k1 ?k2 ?_; (case k1 => walk_at "look"); (case k2 => walk_at "at"))
  | (with_reducible refine' r_tup (SqT.of ?k1) ?k2 ?_; (case k1 => walk_at "look"); (case k2 => rfl))
  | with_reducible refine r_gcons ?_
  | with_reducible refine r_gnil ?_
  | with_reducible refine r_aug rfl ?_
  | with_reducible refine r_augS ?_
  | with_reducible refine r_ipI ?_
  | with_reducible refine r_un ?_
  | with_reducible refine r_u ?_
  | with_reducible refine r_eq rfl ?_
  | with_reducible refine r_ne rfl ?_
  | with_reducible refine r_chain ?_
  | with_reducible refine iteF ?_
  | with_reducible refine r_not ?_
  | with_reducible refine r_and ?_
  | with_reducible refine r_or ?_
  | with_reducible refine r_andV ?_
  | with_reducible refine r_orV ?_
  | with_reducible refine r_notV ?_
  | with_reducible refine r_lst ?_
  | with_reducible refine r_bm ?_
  | with_reducible refine r_bm0 ?_
  | (with_reducible refine' And.intro (r_ty ?k1) ?_; (case k1 => walk_at "look"))
  | (with_reducible refine' r_append ?k1 ?k2 ?_; (case k1 => walk_at "look"); (case k2 => walk_at "sz"))
  | (with_reducible refine' r_lenK ?k1 ?_; (case k1 => walk_at "look"))
  | (with_reducible refine' r_listOf ?k1 ?_; (case k1 => walk_at "look"))
  | (with_reducible refine' r_sortedI ?k1 ?_; (case k1 => walk_at "look"))
  | (with_reducible refine' r_sum ?k1 ?_; (case k1 => walk_at "look"))
  | with_reducible refine r_int ?_
  | (with_reducible refine' r_draw (by assumption) ?k1 ?k2 ?_; (case k1 => omega); (case k2 => omega); intro R' n' o' h' h'')
  | with_reducible refine iteT ?_
  | with_reducible refine r_revL ?_
  | with_reducible refine r_lc ?_
  | with_reducible refine r_yes ?_
  | with_reducible refine r_for ?_
  | with_reducible refine r_iList ?_
  | with_reducible refine r_rng1 ?_
  | with_reducible refine r_enum ?_
  | (with_reducible show Ends.nx _ _ _; dsimp only)
  | (with_reducible show Ends.rt _ _ _; dsimp only)
  | (with_reducible show Ends.ct _ _ _; dsimp only)
  | (with_reducible show Ends.bk _ _ _; dsimp only))
local macro_rules | `(tactic| walk_at "go") => `(tactic| repeat (walk_at "st"))
local macro_rules | `(tactic| walk_at "begin") => `(tactic| dsimp only [cxOf, wipe, L2.start, List.map, List.length_cons, List.length_nil, Nat.reduceAdd, Nat.reduceSub, List.replicate, List.cons_append, List.nil_append])


open Lm
local macro_rules | `(tactic| walk_at "st") => `(tactic| first
  | (with_reducible refine' r_isi (r := true) (.base (.bl _)) ?k2 ?_; (case k2 => decide +kernel)))
theorem rg_back {st g b : Addr} {R : RS} {B : Hp} {o : HO} (h : rg st g R B b = some o) (h1 : b ≠ st) (h2 : b ≠ g) : B b = some o := by
  unfold rg at h; rw [upd_ne h1, upd_ne h2] at h; exact h
def spLaw (K : PySem.W.Frag) : Sp := fun vs H Q _ => ∃ (a : Addr) (ns : List Int), vs = [.ref a] ∧ SqL K H a (ns.map V.int) ∧ ns.length ≤ 63 ∧ ∀ H' : Hp, Q (.bl true) H'
section
variable {P : Program} {w : World} {K : PySem.W.Frag} {mg : Str → Option Value} {base : Heap}
theorem ok_law {f f1 f2 f3 f4 f5 f6 : Addr} {fd fd1 fd2 fd3 fd4 fd5 fd6 : FuncData} (B : Blt mg) (D : Dn K mg "law" s_law ["script"] f fd)
    (D_law_start : Dn K mg "_law_start" s__law_start ["script"] f1 fd1) (G_law_start : FnOk P w K mg base CX0 1 f1 fd1 ["script"] (spStart K))
    (D_law_draw : Dn K mg "_law_draw" s__law_draw ["state", "many"] f2 fd2) (G_law_draw : FnOk P w K mg base CX0 1 f2 fd2 ["state", "many"] spDraw)
    (D_law_drawing : Dn K mg "_law_drawing" s__law_drawing ["state"] f3 fd3) (G_law_drawing : FnOk P w K mg base CX0 4 f3 fd3 ["state"] spDrawing)
    (D_law_onward : Dn K mg "_law_onward" s__law_onward ["drawing"] f4 fd4) (G_law_onward : FnOk P w K mg base CX0 1 f4 fd4 ["drawing"] spOnward)
    (Dis_plain : Dn K mg "is_plain" s_is_plain ["drawing"] f5 fd5) (Gis_plain : FnOk P w K mg base CX0 2 f5 fd5 ["drawing"] spPlain)
    (D_law_reaches : Dn K mg "_law_reaches" s__law_reaches ["handed", "masks", "place"] f6 fd6) (G_law_reaches : FnOk P w K mg base CX0 2 f6 fd6 ["handed", "masks", "place"] spReaches) :
    FnOk P w K mg base CX0 5 f fd ["script"] (spLaw K) := by
  refine D.F.ok sc_law (fun vs H Q E h => ?_) (fun cdv A outer s H vs Q E hr h => ?_)
  · obtain ⟨a, ns, rfl, _⟩ := h
    rfl
  · obtain ⟨sa, ns, rfl, hS, hl, q⟩ := h
    refine ⟨_, (pss_cons (ps_set (i := 1) sc_law.nd rfl (.inl rfl) (pe_call G_law_start (hr.mono (by decide)) (by rfl) D_law_start.g D_law_start.F.kp D_law_start.b .nil pass0 (pa_cons (pv 0) pa_nil)))
      (pss_cons (ps_set (i := 2) sc_law.nd rfl (.inl rfl) (pe_call G_law_drawing (hr.mono (by decide)) (by rfl) D_law_drawing.g D_law_drawing.F.kp D_law_drawing.b .nil pass0 (pa_cons (pv 1) pa_nil)))
      (pss_cons (ps_set (i := 3) sc_law.nd rfl (.inr rfl) (pe_call G_law_onward (hr.mono (by decide)) (by rfl) D_law_onward.g D_law_onward.F.kp D_law_onward.b .nil pass0 (pa_cons (pv 2) pa_nil)))
      (pss_cons (ps_setLc (i := 4) (own := [("k", 7)]) rfl sc_law.nd rfl rfl (sw_true rfl rfl rfl (by decide +kernel)) (pi_range1 (by rfl) B.m_range (pa_cons (pe_callB (call_len_seqK (K := K) rfl) (by rfl) B.m_len PySem.boot_len (pa_cons (pv 2) pa_nil)) pa_nil)) (blkOk_by (own := [("k", 7)]) (by kernel_rfl))
        (fun _ _ _ _ _ => (pg_name (i := 7) sc_law.nd rfl (.inl rfl))) (fun _ _ _ _ _ => (pts_one (pt_cmpR op_eq (pe_op op_and (pe_op op_shr (pe_ix (ix_listK (K := K) rfl) (pv 3) (pv 7) (fun _ _ => rfl)) (pv 7)) pe_int) pe_int (nomark _))))
        (fun _ _ _ _ _ => (pv 7)))
      (pss_cons (ps_setLc (i := 5) (own := [("row", 10)]) rfl sc_law.nd rfl rfl (sw_true rfl rfl rfl (by decide +kernel)) (pi_listK (K := K) rfl (pv 2)) (blkOk_by (own := [("row", 10)]) (by kernel_rfl))
        (fun _ _ _ _ _ => (pg_name (i := 10) sc_law.nd rfl (.inl rfl))) (fun _ _ _ _ _ => pts_nil)
        (fun _ _ _ _ _ => (pe_callTy (call_list_ofK (K := K) rfl) (by rfl) B.m_list (by decide +kernel) (pa_cons (pv 10) pa_nil))))
      (pss_cons (ps_set (i := 6) sc_law.nd rfl (.inl rfl) (pe_call Gis_plain (hr.mono (by decide)) (by rfl) Dis_plain.g Dis_plain.F.kp Dis_plain.b .nil pass0 (pa_cons (pv 5) pa_nil)))
      (C8.pss_cut (ps_if (PW.pt (pw_or (pt_not (pt_val (pe_callB (call_isiK' (K := K) rfl) (by rfl) B.m_isinstance (by decide +kernel) (pa_cons (pv 6) (pa_cons (pe_bltn (v := .ty "bool") (by rfl) B.m_bool (by decide +kernel) rfl) pa_nil))))) (pw_or1 (pt_cmpR op_ne (pv 6) (pe_cmpR op_eq (pe_callB (call_len_seqK (K := K) rfl) (by rfl) B.m_len PySem.boot_len (pa_cons (pv 4) pa_nil)) pe_int (nomark _)) (nomark _))))) (pss_one (ps_ret pe_bl)) pss_nil)
      (pss_cons (ps_for PassesOwn.never rfl (pi_range1 (by rfl) B.m_range (pa_cons pe_int pa_nil)) (pg_name (i := 7) sc_law.nd rfl (.inl rfl)) (pss_cons (ps_set (i := 8) sc_law.nd rfl (.inl rfl) (pe_call G_law_draw (hr.mono (by decide)) (by rfl) D_law_draw.g D_law_draw.F.kp D_law_draw.b .nil pass0 (pa_cons (pv 1) (pa_cons (pe_callB (call_len_seqK (K := K) rfl) (by rfl) B.m_len PySem.boot_len (pa_cons (pv 2) pa_nil)) pa_nil))))
      (C8.pss_cut (ps_if (PW.pt (pw_and (pt_cmpR op_eq (pv 7) pe_int (nomark _)) (pw_and1 (pt_cmpR op_gt (pe_callB (call_len_seqK (K := K) rfl) (by rfl) B.m_len PySem.boot_len (pa_cons (pv 4) pa_nil)) pe_int (nomark _))))) (pss_one (ps_set (i := 8) sc_law.nd rfl (.inl rfl) (pe_ix (ix_listK (K := K) rfl) (pv 4) (pe_call G_law_draw (hr.mono (by decide)) (by rfl) D_law_draw.g D_law_draw.F.kp D_law_draw.b .nil pass0 (pa_cons (pv 1) (pa_cons (pe_callB (call_len_seqK (K := K) rfl) (by rfl) B.m_len PySem.boot_len (pa_cons (pv 4) pa_nil)) pa_nil))) (fun _ _ => rfl)))) pss_nil)
      (pss_one (ps_if (pt_not (pt_val (pe_call G_law_reaches (hr.mono (by decide)) (by rfl) D_law_reaches.g D_law_reaches.F.kp D_law_reaches.b .nil pass0 (pa_cons (pv 5) (pa_cons (pv 3) (pa_cons (pv 8) pa_nil)))))) (pss_one (ps_ret pe_bl)) pss_nil)))))
      (pss_cons (ps_set (i := 9) sc_law.nd rfl (.inl rfl) (pe_call Gis_plain (hr.mono (by decide)) (by rfl) Dis_plain.g Dis_plain.F.kp Dis_plain.b .nil pass0 (pa_cons (pv 5) pa_nil)))
      (pss_one (ps_ret (pe_and (pe_callB (call_isiK' (K := K) rfl) (by rfl) B.m_isinstance (by decide +kernel) (pa_cons (pv 9) (pa_cons (pe_bltn (v := .ty "bool") (by rfl) B.m_bool (by decide +kernel) rfl) pa_nil))) (pe_and (pe_cmpR op_eq (pv 9) (pv 6) (nomark _)) (pe_one (pe_cmpR (op_eqDK (K := K) rfl hr.units) (pv 5) (pv 2) (nomark _)))))))))))))))), ?_⟩
    walk_at "begin"
    walk_at "go"
    refine ⟨sa, ns, rfl, hS, hl, fun st g R o => ?_⟩
    walk_at "go"
    refine ⟨st, g, R, H, rfl, rfl, o, fun R1 B1 a as rs n o1 hS1 na ha hrw hwf hn1 hn2 => ?_⟩
    have hla : as.length = n := by rw [hrw.1]; exact hwf.1
    walk_at "go"
    refine ⟨a, as, rs, n, 400, rfl, rg_get o1 ha, hrw.mono (fun x y e => rg_get o1 e), hwf, hn2, by decide, fun H2 m ms hS2 nm hm hml hms => ?_⟩
    obtain ⟨B2, rfl, o2, hS2'⟩ := rg_same o1 hS2
    have hmne := rg_none nm
    have hm2 : B2 m = some (.lst (msV ms)) := rg_back hm hmne.1 hmne.2.1
    have ha2 := hS2' _ _ ha
    have hrw2 := hrw.mono hS2'
    clear hm nm hS2
    walk_at "go"
    rw [List.length_map, hla]
    refine lcT_range (topRg st g) o2 ?_ ?_ (fun i C acc => acc = (pick i fun i => (ms.getD i 0).testBit i).map V.int) rfl ?_ ?_
    · omega
    · omega
    · rintro D1 i R3 C acc o3 hD hSC hi rfl
      rw [Int.toNat_natCast] at hi
      have hpl := pick_len i fun i => (ms.getD i 0).testBit i
      have hmC := hSC _ _ hm2
      obtain ⟨x, hx⟩ : ∃ x, ms[i]? = some x := ⟨_, List.getElem?_eq_getElem (by omega)⟩
      have hatx : atI (msV ms) (i : Int) = some (.int (x : Int)) := atI_nat (msV_at hx)
      have hg : ms.getD i 0 = x := by rw [List.getD_eq_getElem?_getD, hx]; rfl
      have hmC2 : rg st g R3 (upd C D1 (.lst ((pick i fun i => (ms.getD i 0).testBit i).map V.int))) m = some (.lst (msV ms)) := rg_get o3 (upd_old hD hmC)
      walk_at "begin"
      walk_at "go"
      refine ⟨rfl, ?_⟩
      walk_at "go"
      refine r_ite (fun t => ?_) (fun t => ?_)
      · walk_at "go"
        refine lcN_put (topRg st g) o3 hD hSC ?_ ?_
        · rw [List.length_map]; omega
        · rw [pick_succ, hg, if_pos ((bit_test x i).mp t), ints_push]
      · refine lcN_skip o3 hD hSC ?_
        rw [pick_succ, hg, if_neg fun e => t ((bit_test x i).mpr e), List.append_nil]
    · rintro D1 R3 C acc o3 hB hD hSC rfl
      rw [Int.toNat_natCast] at o3 ⊢
      have hpl := pick_len n fun i => (ms.getD i 0).testBit i
      have hpk : ∀ e ∈ (pick n fun i => (ms.getD i 0).testBit i), 0 ≤ e ∧ e < (n : Int) := fun e he => by
        unfold pick at he
        obtain ⟨i, hi, rfl⟩ := List.mem_map.mp he
        have := List.mem_range.mp (List.mem_filter.mp hi).1
        exact ⟨Int.natCast_nonneg _, by show (i : Int) < n; omega⟩
      have hbit : ∀ i, i < n → ((ms.getD i 0).testBit i = true ↔ Tc (Ed rs) i i) := fun i hi => by
        obtain ⟨x, hx⟩ : ∃ x, ms[i]? = some x := ⟨_, List.getElem?_eq_getElem (by omega)⟩
        rw [List.getD_eq_getElem?_getD, hx]
        exact hms i x hx i
      have hin := In.of hwf
      have hnone : (pick n fun i => (ms.getD i 0).testBit i).length = 0 ↔ ∀ x, ¬ Tc (Ed rs) x x := by
        constructor
        · intro h0 x t
          have hx : x < n := by
            rw [← hwf.1]
            cases t with
            | one e => exact In.gt e
            | more t e => exact hin.lt e
          have hm : ((x : Nat) : Int) ∈ (pick n fun i => (ms.getD i 0).testBit i) := by
            unfold pick
            exact List.mem_map.mpr ⟨x, List.mem_filter.mpr ⟨List.mem_range.mpr hx, (hbit x hx).mpr t⟩, rfl⟩
          rw [List.length_eq_zero_iff.mp h0] at hm
          exact nomatch hm
        · intro hno
          rw [List.length_eq_zero_iff]
          refine List.eq_nil_iff_forall_not_mem.mpr fun e he => ?_
          unfold pick at he
          obtain ⟨i, hi, rfl⟩ := List.mem_map.mp he
          obtain ⟨h1, h2⟩ := List.mem_filter.mp hi
          exact hno i ((hbit i (List.mem_range.mp h1)).mp h2)
      generalize (pick n fun i => (ms.getD i 0).testBit i) = rg0 at *
      have hr1 : upd C D1 (.lst (rg0.map V.int)) D1 = some (.lst (rg0.map V.int)) := upd_same
      have hS3 := hSC.trans (same_new (o := .lst (rg0.map V.int)) hD)
      generalize upd C D1 (.lst (rg0.map V.int)) = C1 at o3 hr1 hS3 ⊢
      have ha3 := hS3 _ _ ha2
      have hrw3 := hrw2.mono hS3
      have hm3 := hS3 _ _ hm2
      clear hSC hD
      walk_at "go"
      refine lcT_list (topRg st g) o3 ha3 (fun i C acc => ∃ as' : List Addr, acc = as'.map V.ref ∧ Rw C as' (rs.take i)) ⟨[], rfl, Rw.nil⟩ ?_ ?_
      · rintro D2 i x R4 C4 acc o4 hD4 hS4 hx ⟨as', rfl, hrw4⟩
        obtain ⟨c, r, rfl, _, hr1', hc⟩ := (hrw3.mono hS4).at hx
        have hi := (List.getElem?_eq_some_iff.mp hx).1
        rw [List.length_map, hla] at hi
        walk_at "begin"
        walk_at "go"
        refine ⟨rfl, ?_⟩
        walk_at "go"
        intro p np
        obtain ⟨e, o5, hD5, n5, ne5⟩ := newTD_eq (topRg st g) o4 hD4 np (.lst (r.map V.int))
        rw [e]
        refine lcN_put (topRg st g) o5 hD5 (hS4.trans (same_new n5)) ?_ ⟨as' ++ [p], refs_push _ _, ?_⟩
        · rw [List.length_map, hrw4.1, List.length_take]; omega
        · rw [List.take_add_one, hr1']
          exact (hrw4.mono (same_new n5)).push upd_same
      · rintro D2 R4 C4 acc o4 hB4 hD4 hS4 ⟨as', rfl, hrw4⟩
        rw [List.length_map, hla, ← hwf.1, List.take_length] at hrw4
        have hh : upd C4 D2 (.lst (as'.map V.ref)) D2 = some (.lst (as'.map V.ref)) := upd_same
        have hS5 := hS4.trans (same_new (o := .lst (as'.map V.ref)) hD4)
        have hrwh := hrw4.mono (same_new (o := .lst (as'.map V.ref)) hD4)
        generalize upd C4 D2 (.lst (as'.map V.ref)) = C5 at o4 hh hS5 hrwh ⊢
        clear hrw4 hS4 hD4
        walk_at "go"
        refine ⟨D2, as', rs, n, 400, rfl, rg_get o4 hh, hrwh.mono (fun x y e => rg_get o4 e), hwf, hn2, by decide, fun H6 b hS6 hb => ?_⟩
        obtain ⟨B6, rfl, o6, hS6'⟩ := rg_same o4 hS6
        have hall := hS5.trans hS6'
        have hh6 := hS6' _ _ hh
        have hrw6 := hrwh.mono hS6'
        have ha6 := hall _ _ ha3
        have hm6 := hall _ _ hm3
        have hr6 := hall _ _ hr1
        have hrwa6 := hrw3.mono hall
        clear hS6
        walk_at "go"
        have hbl : b = decide (rg0.length = 0) := by
          rw [Bool.eq_iff_iff, hb, decide_eq_true_eq, hnone]
        refine ⟨fun σ H => σ = [some (.ref sa), some (.ref st), some (.ref a), some (.ref m), some (.ref D1), some (.ref D2), some (.bl b), none, none, none, none] ∧ H = rg st g R4 B6, ?_, ?_⟩
        · walk_at "go"
          refine iteF ?_
          walk_at "go"
          rw [List.length_map]
          refine r_iten (fun hne => ?_) (fun _ => ?_)
          · refine absurd ?_ hne
            rw [hbl]
            congr 1
            rw [Bool.eq_iff_iff, decide_eq_true_eq, decide_eq_true_eq, int_eq]
            omega
          · walk_at "go"
            exact ⟨rfl, rfl⟩
        · rintro σ H' ⟨rfl, rfl⟩
          walk_at "go"
          refine r_forR (by decide) (by decide) (fun i σ H' => ∃ (R : RS) (B : Hp) (y7 y8 : Option V), σ = [some (.ref sa), some (.ref st), some (.ref a), some (.ref m), some (.ref D1), some (.ref D2), some (.bl b), y7, y8, none, none] ∧ H' = rg st g R B ∧ Ok st g R B ∧ Same B6 B) ?_ ?_ ?_
          · exact ⟨R4, B6, none, none, rfl, rfl, o6, Same.refl _⟩
          · rintro i σ H' hi ⟨R7, B7, y7, y8, rfl, rfl, o7, hS7⟩
            have ha7 := hS7 _ _ ha6
            have hm7 := hS7 _ _ hm6
            have hr7 := hS7 _ _ hr6
            have hh7 := hS7 _ _ hh6
            have hrw7 := hrw6.mono hS7
            walk_at "go"
            rw [List.length_map, hla]
            walk_at "go"
            rename_i R8 z8 o8 z80 z81
            walk_at "go"
            refine ⟨fun σ H => ∃ (R : RS) (pl : Int), σ = [some (.ref sa), some (.ref st), some (.ref a), some (.ref m), some (.ref D1), some (.ref D2), some (.bl b), some (.int i), some (.int pl), none, none] ∧ H = rg st g R B7 ∧ Ok st g R B7 ∧ 0 ≤ pl ∧ pl < n, ?_, ?_⟩
            · walk_at "go"
              refine r_ite (fun _ => ?_) (fun _ => ?_)
              · walk_at "go"
                rw [List.length_map]
                refine r_ite (fun hpos => ?_) (fun _ => ?_)
                · walk_at "go"
                  rw [List.length_map]
                  walk_at "go"
                  rename_i R9 z9 o9 z90 z91
                  obtain ⟨e, he⟩ : ∃ e, rg0[z9.toNat]? = some e := ⟨_, List.getElem?_eq_getElem (by omega)⟩
                  obtain ⟨e0, e1⟩ := hpk e (List.mem_of_getElem? he)
                  have hate : atI (rg0.map V.int) z9 = some (.int e) := at_i z90 (by rw [List.getElem?_map, he]; rfl)
                  walk_at "go"
                  exact ⟨R9, e, rfl, rfl, o9, e0, e1⟩
                · walk_at "go"
                  exact ⟨R8, z8, rfl, rfl, o8, z80, z81⟩
              · walk_at "go"
                exact ⟨R8, z8, rfl, rfl, o8, z80, z81⟩
            · rintro σ H' ⟨R9, pl, rfl, rfl, o9, p0, p1⟩
              walk_at "go"
              refine ⟨D2, m, as', rs, n, 400, ms, pl, rfl, rg_get o9 hh7, hrw7.mono (fun x y e => rg_get o9 e), hwf, hn2, by decide, rg_get o9 hm7, hml, hms, p0, p1, fun H10 hS10 => ?_⟩
              obtain ⟨B10, rfl, o10, hS10'⟩ := rg_same o9 hS10
              walk_at "go"
              refine iteF ?_
              walk_at "go"
              exact ⟨R9, B10, _, _, rfl, rfl, o10, hS7.trans hS10'⟩
          · rintro σ H' ⟨R7, B7, y7, y8, rfl, rfl, o7, hS7⟩
            have hh7 := hS7 _ _ hh6
            have hrw7 := hrw6.mono hS7
            walk_at "go"
            refine ⟨D2, as', rs, n, 400, rfl, rg_get o7 hh7, hrw7.mono (fun x y e => rg_get o7 e), hwf, hn2, by decide, fun H8 b2 hS8 hb2 => ?_⟩
            obtain ⟨B8, rfl, o8, hS8'⟩ := rg_same o7 hS8
            have hbb : b2 = b := by rw [Bool.eq_iff_iff, hb2, hb]
            have hh8 := hS8' _ _ hh7
            have hrw8 := hrw7.mono hS8'
            have ha8 := hS8' _ _ (hS7 _ _ ha6)
            have hrwa8 := (hrwa6.mono hS7).mono hS8'
            walk_at "go"
            rw [hbb]
            refine r_ite (fun _ => ?_) (fun hne => absurd rfl hne)
            walk_at "go"
            refine r_eqR (rg_get o8 hh8) (rg_get o8 ha8) (hrw8.mono (fun x y e => rg_get o8 e)) (hrwa8.mono (fun x y e => rg_get o8 e)) ?_
            rw [decide_eq_true rfl]
            exact q _
end
end K34
namespace K34
open PySem PySem.Spec PyProof.Rows L2 Lw
theorem all_mk {P : Program} {w : World} {K : PySem.W.Frag} {h : Heap} {mg : Str → Option Value} {fa f1 f2 f3 f4 f5 f6 f7 f8 f9 f10 f11 f12 f13 f14 f15 f16 f17 : Addr} (X : K.In h) (G : h.Ns mainGlobals mg) (hfa : mg "law" = some (.ref fa))
    {od1 od2 od3 od4 od5 od6 od7 od8 od9 od10 od11 od12 od13 od14 od15 od16 od17 an1 an2 an3 an4 an5 an6 an7 an8 an9 an10 an11 an12 an13 an14 an15 an16 an17 : Option Addr} {sl1 sl2 sl3 sl4 sl5 sl6 sl7 sl8 sl9 sl10 sl11 sl12 sl13 sl14 sl15 sl16 sl17 : Array (Option Value)} {oc1 oc2 oc3 oc4 oc5 oc6 oc7 oc8 oc9 oc10 oc11 oc12 oc13 oc14 oc15 oc16 oc17 kV1 kV2 kV3 kV4 kV5 kV6 kV7 kV8 kV9 kV10 kV11 kV12 kV13 kV14 kV15 kV16 kV17 dc1 dc2 dc3 dc4 dc5 dc6 dc7 dc8 dc9 dc10 dc11 dc12 dc13 dc14 dc15 dc16 dc17 pm1 pm2 pm3 pm4 pm5 pm6 pm7 pm8 pm9 pm10 pm11 pm12 pm13 pm14 pm15 pm16 pm17 cd1 cd2 cd3 cd4 cd5 cd6 cd7 cd8 cd9 cd10 cd11 cd12 cd13 cd14 cd15 cd16 cd17 ct1 ct2 ct3 ct4 ct5 ct6 ct7 ct8 ct9 ct10 ct11 ct12 ct13 ct14 ct15 ct16 ct17 : Value}
    (a1 : PySem.W.nsIn K mainGlobals "_law_draw" = some (some (.ref f1))) (l1 : K.lookup f1 = some ⟨oc1, od1, .func (PySem.W.fnOf "_law_draw" "_law_draw" (defArgs s__law_draw) (defBody s__law_draw) (defScope s__law_draw) .none kV1 dc1 pm1 an1 cd1 ct1), sl1⟩) (c1 : PySem.W.codeIn K cd1 "_law_draw" = true) (k1 : PySem.W.keepIn K (.ref f1) = true)
    (a2 : PySem.W.nsIn K mainGlobals "_law_start" = some (some (.ref f2))) (l2 : K.lookup f2 = some ⟨oc2, od2, .func (PySem.W.fnOf "_law_start" "_law_start" (defArgs s__law_start) (defBody s__law_start) (defScope s__law_start) .none kV2 dc2 pm2 an2 cd2 ct2), sl2⟩) (c2 : PySem.W.codeIn K cd2 "_law_start" = true) (k2 : PySem.W.keepIn K (.ref f2) = true)
    (a3 : PySem.W.nsIn K mainGlobals "_law_lower" = some (some (.ref f3))) (l3 : K.lookup f3 = some ⟨oc3, od3, .func (PySem.W.fnOf "_law_lower" "_law_lower" (defArgs s__law_lower) (defBody s__law_lower) (defScope s__law_lower) .none kV3 dc3 pm3 an3 cd3 ct3), sl3⟩) (c3 : PySem.W.codeIn K cd3 "_law_lower" = true) (k3 : PySem.W.keepIn K (.ref f3) = true)
    (a4 : PySem.W.nsIn K mainGlobals "_law_any" = some (some (.ref f4))) (l4 : K.lookup f4 = some ⟨oc4, od4, .func (PySem.W.fnOf "_law_any" "_law_any" (defArgs s__law_any) (defBody s__law_any) (defScope s__law_any) .none kV4 dc4 pm4 an4 cd4 ct4), sl4⟩) (c4 : PySem.W.codeIn K cd4 "_law_any" = true) (k4 : PySem.W.keepIn K (.ref f4) = true)
    (a5 : PySem.W.nsIn K mainGlobals "_law_track" = some (some (.ref f5))) (l5 : K.lookup f5 = some ⟨oc5, od5, .func (PySem.W.fnOf "_law_track" "_law_track" (defArgs s__law_track) (defBody s__law_track) (defScope s__law_track) .none kV5 dc5 pm5 an5 cd5 ct5), sl5⟩) (c5 : PySem.W.codeIn K cd5 "_law_track" = true) (k5 : PySem.W.keepIn K (.ref f5) = true)
    (a6 : PySem.W.nsIn K mainGlobals "_law_order" = some (some (.ref f6))) (l6 : K.lookup f6 = some ⟨oc6, od6, .func (PySem.W.fnOf "_law_order" "_law_order" (defArgs s__law_order) (defBody s__law_order) (defScope s__law_order) .none kV6 dc6 pm6 an6 cd6 ct6), sl6⟩) (c6 : PySem.W.codeIn K cd6 "_law_order" = true) (k6 : PySem.W.keepIn K (.ref f6) = true)
    (a7 : PySem.W.nsIn K mainGlobals "_law_wide" = some (some (.ref f7))) (l7 : K.lookup f7 = some ⟨oc7, od7, .func (PySem.W.fnOf "_law_wide" "_law_wide" (defArgs s__law_wide) (defBody s__law_wide) (defScope s__law_wide) .none kV7 dc7 pm7 an7 cd7 ct7), sl7⟩) (c7 : PySem.W.codeIn K cd7 "_law_wide" = true) (k7 : PySem.W.keepIn K (.ref f7) = true)
    (a8 : PySem.W.nsIn K mainGlobals "_law_moved" = some (some (.ref f8))) (l8 : K.lookup f8 = some ⟨oc8, od8, .func (PySem.W.fnOf "_law_moved" "_law_moved" (defArgs s__law_moved) (defBody s__law_moved) (defScope s__law_moved) .none kV8 dc8 pm8 an8 cd8 ct8), sl8⟩) (c8 : PySem.W.codeIn K cd8 "_law_moved" = true) (k8 : PySem.W.keepIn K (.ref f8) = true)
    (a9 : PySem.W.nsIn K mainGlobals "_law_ringed" = some (some (.ref f9))) (l9 : K.lookup f9 = some ⟨oc9, od9, .func (PySem.W.fnOf "_law_ringed" "_law_ringed" (defArgs s__law_ringed) (defBody s__law_ringed) (defScope s__law_ringed) .none kV9 dc9 pm9 an9 cd9 ct9), sl9⟩) (c9 : PySem.W.codeIn K cd9 "_law_ringed" = true) (k9 : PySem.W.keepIn K (.ref f9) = true)
    (a10 : PySem.W.nsIn K mainGlobals "_law_drawing" = some (some (.ref f10))) (l10 : K.lookup f10 = some ⟨oc10, od10, .func (PySem.W.fnOf "_law_drawing" "_law_drawing" (defArgs s__law_drawing) (defBody s__law_drawing) (defScope s__law_drawing) .none kV10 dc10 pm10 an10 cd10 ct10), sl10⟩) (c10 : PySem.W.codeIn K cd10 "_law_drawing" = true) (k10 : PySem.W.keepIn K (.ref f10) = true)
    (a11 : PySem.W.nsIn K mainGlobals "_law_onward" = some (some (.ref f11))) (l11 : K.lookup f11 = some ⟨oc11, od11, .func (PySem.W.fnOf "_law_onward" "_law_onward" (defArgs s__law_onward) (defBody s__law_onward) (defScope s__law_onward) .none kV11 dc11 pm11 an11 cd11 ct11), sl11⟩) (c11 : PySem.W.codeIn K cd11 "_law_onward" = true) (k11 : PySem.W.keepIn K (.ref f11) = true)
    (a12 : PySem.W.nsIn K mainGlobals "reachable" = some (some (.ref f12))) (l12 : K.lookup f12 = some ⟨oc12, od12, .func (PySem.W.fnOf "reachable" "reachable" (defArgs s_reachable) (defBody s_reachable) (defScope s_reachable) .none kV12 dc12 pm12 an12 cd12 ct12), sl12⟩) (c12 : PySem.W.codeIn K cd12 "reachable" = true) (k12 : PySem.W.keepIn K (.ref f12) = true)
    (a13 : PySem.W.nsIn K mainGlobals "settled_places" = some (some (.ref f13))) (l13 : K.lookup f13 = some ⟨oc13, od13, .func (PySem.W.fnOf "settled_places" "settled_places" (defArgs s_settled_places) (defBody s_settled_places) (defScope s_settled_places) .none kV13 dc13 pm13 an13 cd13 ct13), sl13⟩) (c13 : PySem.W.codeIn K cd13 "settled_places" = true) (k13 : PySem.W.keepIn K (.ref f13) = true)
    (a14 : PySem.W.nsIn K mainGlobals "is_plain" = some (some (.ref f14))) (l14 : K.lookup f14 = some ⟨oc14, od14, .func (PySem.W.fnOf "is_plain" "is_plain" (defArgs s_is_plain) (defBody s_is_plain) (defScope s_is_plain) .none kV14 dc14 pm14 an14 cd14 ct14), sl14⟩) (c14 : PySem.W.codeIn K cd14 "is_plain" = true) (k14 : PySem.W.keepIn K (.ref f14) = true)
    (a15 : PySem.W.nsIn K mainGlobals "_law_ints" = some (some (.ref f15))) (l15 : K.lookup f15 = some ⟨oc15, od15, .func (PySem.W.fnOf "_law_ints" "_law_ints" (defArgs s__law_ints) (defBody s__law_ints) (defScope s__law_ints) .none kV15 dc15 pm15 an15 cd15 ct15), sl15⟩) (c15 : PySem.W.codeIn K cd15 "_law_ints" = true) (k15 : PySem.W.keepIn K (.ref f15) = true)
    (a16 : PySem.W.nsIn K mainGlobals "_law_reaches" = some (some (.ref f16))) (l16 : K.lookup f16 = some ⟨oc16, od16, .func (PySem.W.fnOf "_law_reaches" "_law_reaches" (defArgs s__law_reaches) (defBody s__law_reaches) (defScope s__law_reaches) .none kV16 dc16 pm16 an16 cd16 ct16), sl16⟩) (c16 : PySem.W.codeIn K cd16 "_law_reaches" = true) (k16 : PySem.W.keepIn K (.ref f16) = true)
    (a17 : PySem.W.nsIn K mainGlobals "law" = some (some (.ref f17))) (l17 : K.lookup f17 = some ⟨oc17, od17, .func (PySem.W.fnOf "law" "law" (defArgs s_law) (defBody s_law) (defScope s_law) .none kV17 dc17 pm17 an17 cd17 ct17), sl17⟩) (c17 : PySem.W.codeIn K cd17 "law" = true) (k17 : PySem.W.keepIn K (.ref f17) = true)
    (z0 : PySem.W.nsIn K mainGlobals "len" = some none)
    (z1 : PySem.W.nsIn K mainGlobals "abs" = some none)
    (z2 : PySem.W.nsIn K mainGlobals "int" = some none)
    (z3 : PySem.W.nsIn K mainGlobals "range" = some none)
    (z4 : PySem.W.nsIn K mainGlobals "enumerate" = some none)
    (z5 : PySem.W.nsIn K mainGlobals "sorted" = some none)
    (z6 : PySem.W.nsIn K mainGlobals "set" = some none)
    (z7 : PySem.W.nsIn K mainGlobals "list" = some none)
    (z8 : PySem.W.nsIn K mainGlobals "sum" = some none)
    (z9 : PySem.W.nsIn K mainGlobals "isinstance" = some none)
    (z10 : PySem.W.nsIn K mainGlobals "bool" = some none)
    : ∃ fd : FuncData, (∀ (s : Shared) (v : Value), BindsTo s fd ⟨[v], []⟩ [("script", v)]) ∧ ∀ base : Heap, K.In base → base.Ns mainGlobals mg → FnOk P w K mg base CX0 5 fa fd ["script"] (spLaw K) := by
  have e := hfa.symm.trans (PySem.W.mg_of X G a17)
  cases e
  have B : Blt mg := ⟨PySem.W.mg_none_of X G z0, PySem.W.mg_none_of X G z1, PySem.W.mg_none_of X G z2, PySem.W.mg_none_of X G z3, PySem.W.mg_none_of X G z4, PySem.W.mg_none_of X G z5, PySem.W.mg_none_of X G z6, PySem.W.mg_none_of X G z7, PySem.W.mg_none_of X G z8, PySem.W.mg_none_of X G z9, PySem.W.mg_none_of X G z10⟩
  have F1 := fun_mk (st := s__law_draw) l1 c1 k1
  have D1 : Dn K mg "_law_draw" s__law_draw ["state", "many"] f1 _ := ⟨F1, F1.binds (ps := ["state", "many"]) fun _ _ _ _ _ _ us hl => match us, hl with | [_, _], _ => rfl, PySem.W.mg_of X G a1⟩
  have F2 := fun_mk (st := s__law_start) l2 c2 k2
  have D2 : Dn K mg "_law_start" s__law_start ["script"] f2 _ := ⟨F2, F2.binds (ps := ["script"]) fun _ _ _ _ _ _ us hl => match us, hl with | [_], _ => rfl, PySem.W.mg_of X G a2⟩
  have F3 := fun_mk (st := s__law_lower) l3 c3 k3
  have D3 : Dn K mg "_law_lower" s__law_lower ["state", "most"] f3 _ := ⟨F3, F3.binds (ps := ["state", "most"]) fun _ _ _ _ _ _ us hl => match us, hl with | [_, _], _ => rfl, PySem.W.mg_of X G a3⟩
  have F4 := fun_mk (st := s__law_any) l4 c4 k4
  have D4 : Dn K mg "_law_any" s__law_any ["state", "most"] f4 _ := ⟨F4, F4.binds (ps := ["state", "most"]) fun _ _ _ _ _ _ us hl => match us, hl with | [_, _], _ => rfl, PySem.W.mg_of X G a4⟩
  have F5 := fun_mk (st := s__law_track) l5 c5 k5
  have D5 : Dn K mg "_law_track" s__law_track ["state", "most"] f5 _ := ⟨F5, F5.binds (ps := ["state", "most"]) fun _ _ _ _ _ _ us hl => match us, hl with | [_, _], _ => rfl, PySem.W.mg_of X G a5⟩
  have F6 := fun_mk (st := s__law_order) l6 c6 k6
  have D6 : Dn K mg "_law_order" s__law_order ["state", "size"] f6 _ := ⟨F6, F6.binds (ps := ["state", "size"]) fun _ _ _ _ _ _ us hl => match us, hl with | [_, _], _ => rfl, PySem.W.mg_of X G a6⟩
  have F7 := fun_mk (st := s__law_wide) l7 c7 k7
  have D7 : Dn K mg "_law_wide" s__law_wide ["state"] f7 _ := ⟨F7, F7.binds (ps := ["state"]) fun _ _ _ _ _ _ us hl => match us, hl with | [_], _ => rfl, PySem.W.mg_of X G a7⟩
  have F8 := fun_mk (st := s__law_moved) l8 c8 k8
  have D8 : Dn K mg "_law_moved" s__law_moved ["rows", "order"] f8 _ := ⟨F8, F8.binds (ps := ["rows", "order"]) fun _ _ _ _ _ _ us hl => match us, hl with | [_, _], _ => rfl, PySem.W.mg_of X G a8⟩
  have F9 := fun_mk (st := s__law_ringed) l9 c9 k9
  have D9 : Dn K mg "_law_ringed" s__law_ringed ["state", "rows"] f9 _ := ⟨F9, F9.binds (ps := ["state", "rows"]) fun _ _ _ _ _ _ us hl => match us, hl with | [_, _], _ => rfl, PySem.W.mg_of X G a9⟩
  have F10 := fun_mk (st := s__law_drawing) l10 c10 k10
  have D10 : Dn K mg "_law_drawing" s__law_drawing ["state"] f10 _ := ⟨F10, F10.binds (ps := ["state"]) fun _ _ _ _ _ _ us hl => match us, hl with | [_], _ => rfl, PySem.W.mg_of X G a10⟩
  have F11 := fun_mk (st := s__law_onward) l11 c11 k11
  have D11 : Dn K mg "_law_onward" s__law_onward ["drawing"] f11 _ := ⟨F11, F11.binds (ps := ["drawing"]) fun _ _ _ _ _ _ us hl => match us, hl with | [_], _ => rfl, PySem.W.mg_of X G a11⟩
  have F12 := fun_mk (st := s_reachable) l12 c12 k12
  have D12 : Dn K mg "reachable" s_reachable ["drawing", "place"] f12 _ := ⟨F12, F12.binds (ps := ["drawing", "place"]) fun _ _ _ _ _ _ us hl => match us, hl with | [_, _], _ => rfl, PySem.W.mg_of X G a12⟩
  have F13 := fun_mk (st := s_settled_places) l13 c13 k13
  have D13 : Dn K mg "settled_places" s_settled_places ["rows"] f13 _ := ⟨F13, F13.binds (ps := ["rows"]) fun _ _ _ _ _ _ us hl => match us, hl with | [_], _ => rfl, PySem.W.mg_of X G a13⟩
  have F14 := fun_mk (st := s_is_plain) l14 c14 k14
  have D14 : Dn K mg "is_plain" s_is_plain ["drawing"] f14 _ := ⟨F14, F14.binds (ps := ["drawing"]) fun _ _ _ _ _ _ us hl => match us, hl with | [_], _ => rfl, PySem.W.mg_of X G a14⟩
  have F15 := fun_mk (st := s__law_ints) l15 c15 k15
  have D15 : Dn K mg "_law_ints" s__law_ints ["told", "due"] f15 _ := ⟨F15, F15.binds (ps := ["told", "due"]) fun _ _ _ _ _ _ us hl => match us, hl with | [_, _], _ => rfl, PySem.W.mg_of X G a15⟩
  have F16 := fun_mk (st := s__law_reaches) l16 c16 k16
  have D16 : Dn K mg "_law_reaches" s__law_reaches ["handed", "masks", "place"] f16 _ := ⟨F16, F16.binds (ps := ["handed", "masks", "place"]) fun _ _ _ _ _ _ us hl => match us, hl with | [_, _, _], _ => rfl, PySem.W.mg_of X G a16⟩
  have F17 := fun_mk (st := s_law) l17 c17 k17
  have D17 : Dn K mg "law" s_law ["script"] fa _ := ⟨F17, F17.binds (ps := ["script"]) fun _ _ _ _ _ _ us hl => match us, hl with | [_], _ => rfl, PySem.W.mg_of X G a17⟩
  refine ⟨PySem.W.fnOf "law" "law" (defArgs s_law) (defBody s_law) (defScope s_law) .none kV17 dc17 pm17 an17 cd17 ct17, fun s v => .of_eq rfl, fun base _ _ => ?_⟩
  have G2_1 := ok_start (P := P) (w := w) (base := base) (k := 0) B D2 
  have G1_1 := ok_draw (P := P) (w := w) (base := base) (k := 0) B D1 
  have G6_2 := ok_order (P := P) (w := w) (base := base) B D6 D1 G1_1
  have G5_2 := ok_track (P := P) (w := w) (base := base) B D5 D1 G1_1
  have G4_2 := ok_any (P := P) (w := w) (base := base) B D4 D1 G1_1
  have G3_2 := ok_lower (P := P) (w := w) (base := base) B D3 D1 G1_1
  have G7_2 := ok_wide (P := P) (w := w) (base := base) B D7 D1 G1_1
  have G9_3 := ok_ringed (P := P) (w := w) (base := base) B D9 D1 G1_1 D6 G6_2
  have G8_1 := ok_moved (P := P) (w := w) (base := base) (k := 0) B D8 
  have G10_4 := ok_drawing (P := P) (w := w) (base := base) B D10 D1 G1_1 D6 G6_2 D5 G5_2 D4 G4_2 D3 G3_2 D7 G7_2 D9 G9_3 D8 G8_1
  have G11_1 := ok_onward (P := P) (w := w) (base := base) (k := 0) B D11 
  have G13_1 := ok_settled (P := P) (w := w) (base := base) (k := 0) B D13 
  have G14_2 := ok_plain (P := P) (w := w) (base := base) B D14 D13 G13_1
  have G12_1 := ok_reachable (P := P) (w := w) (base := base) (k := 0) B D12 
  have G15_1 := ok_ints (P := P) (w := w) (base := base) (k := 0) B D15 
  have G16_2 := ok_reaches (P := P) (w := w) (base := base) B D16 D12 G12_1 D15 G15_1
  have G17_5 := ok_law (P := P) (w := w) (base := base) B D17 D2 G2_1 D1 G1_1 D10 G10_4 D11 G11_1 D14 G14_2 D16 G16_2
  exact G17_5
end K34
open PySem PySem.W PyProof.Rows
set_option maxHeartbeats 0 in
theorem PySem.Challenge.cw_setnests_k34_plain_and_reachable_holds : PySem.Challenge.rw_setnests_k34_plain_and_reachable.Holds := by
  w_on; o_law; k_head; (case hw => w_witness2)
  k_fill
  refine L2.walk_of (l := PySem.Challenge.rw_setnests_k34_plain_and_reachable) (n := 63) (k := 5) (x := "script") (CX := fun _ => L2.CX0) (sp := fun w => K34.spLaw _) rfl (by decide) rfl ⟨rfl, by decide, by decide⟩ (fun w h Y => PySem.W.kIn_of Y) ?F (fun _ _ a ns hl _ hS => ⟨a, ns, rfl, hS, hl, fun _ => rfl⟩) (fun _ _ _ _ _ h => h)
  case F =>
    intro w mg fa h KX G hmg
    refine' K34.all_mk KX G hmg ?a1 ?l1 ?c1 ?k1 ?a2 ?l2 ?c2 ?k2 ?a3 ?l3 ?c3 ?k3 ?a4 ?l4 ?c4 ?k4 ?a5 ?l5 ?c5 ?k5 ?a6 ?l6 ?c6 ?k6 ?a7 ?l7 ?c7 ?k7 ?a8 ?l8 ?c8 ?k8 ?a9 ?l9 ?c9 ?k9 ?a10 ?l10 ?c10 ?k10 ?a11 ?l11 ?c11 ?k11 ?a12 ?l12 ?c12 ?k12 ?a13 ?l13 ?c13 ?k13 ?a14 ?l14 ?c14 ?k14 ?a15 ?l15 ?c15 ?k15 ?a16 ?l16 ?c16 ?k16 ?a17 ?l17 ?c17 ?k17 ?z0 ?z1 ?z2 ?z3 ?z4 ?z5 ?z6 ?z7 ?z8 ?z9 ?z10
    (case a1 => k_is); (case l1 => k_is); (case c1 => k_is); (case k1 => k_is); (case a2 => k_is); (case l2 => k_is); (case c2 => k_is); (case k2 => k_is); (case a3 => k_is); (case l3 => k_is); (case c3 => k_is); (case k3 => k_is); (case a4 => k_is); (case l4 => k_is); (case c4 => k_is); (case k4 => k_is); (case a5 => k_is); (case l5 => k_is); (case c5 => k_is); (case k5 => k_is); (case a6 => k_is); (case l6 => k_is); (case c6 => k_is); (case k6 => k_is); (case a7 => k_is); (case l7 => k_is); (case c7 => k_is); (case k7 => k_is); (case a8 => k_is); (case l8 => k_is); (case c8 => k_is); (case k8 => k_is); (case a9 => k_is); (case l9 => k_is); (case c9 => k_is); (case k9 => k_is); (case a10 => k_is); (case l10 => k_is); (case c10 => k_is); (case k10 => k_is); (case a11 => k_is); (case l11 => k_is); (case c11 => k_is); (case k11 => k_is); (case a12 => k_is); (case l12 => k_is); (case c12 => k_is); (case k12 => k_is); (case a13 => k_is); (case l13 => k_is); (case c13 => k_is); (case k13 => k_is); (case a14 => k_is); (case l14 => k_is); (case c14 => k_is); (case k14 => k_is); (case a15 => k_is); (case l15 => k_is); (case c15 => k_is); (case k15 => k_is); (case a16 => k_is); (case l16 => k_is); (case c16 => k_is); (case k16 => k_is); (case a17 => k_is); (case l17 => k_is); (case c17 => k_is); (case k17 => k_is); (case z0 => k_is); (case z1 => k_is); (case z2 => k_is); (case z3 => k_is); (case z4 => k_is); (case z5 => k_is); (case z6 => k_is); (case z7 => k_is); (case z8 => k_is); (case z9 => k_is); (case z10 => k_is)
