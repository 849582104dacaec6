import PyProof.Rows.All
import HandS.SortOrd
import KE.KSortAsk
import Wide.All
import OpenK.AllK
import Wide.FinOn
import HandS.ForMost
import HandS.Style
import HandS.IsInst
import HandS.SortInts
import HandS.More
import HandS.Codes
import HandS.Strs
import HandS.SetFor
import HandS.Deep
import HandS.Defaults
import HandS.Dict
import HandS.TupLen
import HandS.ForExc
import HandS.ExcIs
import HandS.CallSlots
import HandS.ClsMeth
import HandS.Property
import HandS.ListItems
import HandS.CallLocal
import HandS.MakeKwOnly
import HandS.Walk
import PyProof.Rows.SortH.SortRunsSt
import HandS.OwnEq
import HandS.IterVal
import KE.KOwnIter
import KE.LtData
import KE.DataMinMax
import HandS.SortKw
import HandS.Star
import HandS.Rev
import HandS.Text
import HandS.RaiseMore
import PyProof.P3In
import PyProof.StrLawsIn
import PyProof.StrBlock2
import PyProof.Rows.StrJoinRep
import PyProof.Draws
import PyProof.EnumMake
import HandS.Steps
import HandS.Conv
import PyProof.ListStr
import HandS.Base
import HandS.Call
import PyProof.RulesMatch
import HandS.SetTxt0
import PyProof.Rows.SortShellAny
import HandS.Wide
import HandS.Small
import HandS.HeadHook3
import KE.RegKIsAll
import KE.RegKTryMore
import KE.RegKSuper
import PySem.Challenge.RW_setnests_k16_whole_shapes
set_option Elab.async false
set_option linter.all false
set_option maxRecDepth 100000
set_option maxHeartbeats 4000000
namespace Lw
open PySem PySem.W PyProof.Rows SrtO
/-- each question is about places below n, and behind the answers of lt stands P -/
def AskP {α : Type} (n : Nat) (lt : Nat → Nat → Bool) : KasT α → (α → Prop) → Prop
  | .ret a, P => P a
  | .ask i j k, P => i < n ∧ j < n ∧ AskP n lt (k (lt i j)) P
section
variable {n : Nat} {lt : Nat → Nat → Bool}
theorem AskP.imp {α : Type} {P Q : α → Prop} (h : ∀ a, P a → Q a) : ∀ {t : KasT α}, AskP n lt t P → AskP n lt t Q
  | .ret a, x => h a x
  | .ask i j k, ⟨h1, h2, h3⟩ => ⟨h1, h2, AskP.imp h h3⟩
theorem AskP.bind {α β : Type} {P : α → Prop} {Q : β → Prop} {f : α → KasT β} : ∀ {t : KasT α}, AskP n lt t P → (∀ a, P a → AskP n lt (f a) Q) → AskP n lt (t.bind f) Q
  | .ret a, x, h => h a x
  | .ask i j k, ⟨h1, h2, h3⟩, h => ⟨h1, h2, AskP.bind h3 h⟩
/-- with a comparison that keeps I -/
theorem AskP.wp {α : Type} {P : α → Prop} {I : Shared → Prop} {cmp : Nat → Nat → (Bool → Shared → Prop) → Shared → Prop} {Q : α → Shared → Prop} (hc : ∀ i j s C, i < n → j < n → I s → (∀ s', I s' → C (lt i j) s') → cmp i j C s) (hq : ∀ a s, P a → I s → Q a s) :
    ∀ {t : KasT α} {s : Shared}, AskP n lt t P → I s → t.kasWp cmp Q s
  | .ret a, s, x, hi => hq a s x hi
  | .ask i j k, s, ⟨h1, h2, h3⟩, hi => hc i j s _ h1 h2 hi fun s' hi' => AskP.wp hc hq h3 hi'
variable (O : Swo lt)
include O
end
end Lw
namespace Lw
open PySem PySem.Spec PyProof.Rows L2
theorem upd_old {H : Hp} {p a : Addr} {x o : HO} (hp : H p = none) (h : H a = some o) : upd H p x a = some o := by
  rw [upd_ne (ne_of_none h hp)]; exact h
theorem Same.get {H H' : Hp} {a : Addr} {o : HO} (s : Same H H') (h : H a = some o) : H' a = some o := s a o h
theorem same_new {H : Hp} {p : Addr} {o : HO} (h : H p = none) : Same H (upd H p o) := fun b x e => upd_old h e
/-- the draws' state: two lists above the rest -/
structure RS where
  ns : List Int
  i : Int
  m : Int
  c : Int
structure RS.Ok (R : RS) : Prop where
  i0 : 0 ≤ R.i
  i1 : R.i ≤ R.ns.length
  pos : ∀ n ∈ R.ns, 0 ≤ n
  len : R.ns.length ≤ 63
def rg (st g : Addr) (R : RS) (B : Hp) : Hp := upd (upd B g (.lst (R.ns.map V.int))) st (.lst [.ref g, .int R.i, .int R.m, .int R.c])
structure Ok (st g : Addr) (R : RS) (B : Hp) : Prop where
  ne : st ≠ g
  ok : R.Ok
  bst : B st = none
  bg : B g = none
theorem Ok.low {st g : Addr} {R : RS} {B : Hp} (o : Ok st g R B) : (upd B g (.lst (R.ns.map V.int))) st = none := by
  rw [upd_ne o.ne]; exact o.bst
theorem rg_get {st g a : Addr} {R : RS} {B : Hp} {o : HO} (k : Ok st g R B) (h : B a = some o) : rg st g R B a = some o :=
  upd_old k.low (upd_old k.bg h)
theorem rg_st {st g : Addr} {R : RS} {B : Hp} : rg st g R B st = some (.lst [.ref g, .int R.i, .int R.m, .int R.c]) := upd_same
theorem rg_g {st g : Addr} {R : RS} {B : Hp} (k : Ok st g R B) : rg st g R B g = some (.lst (R.ns.map V.int)) := by
  unfold rg; rw [upd_ne k.ne.symm, upd_same]
theorem upd_comm {H : Hp} {a b : Addr} {x y : HO} (h : a ≠ b) : upd (upd H a x) b y = upd (upd H b y) a x := by
  funext c
  by_cases h1 : c = b
  · subst h1; rw [upd_same, upd_ne h.symm, upd_same]
  · rw [upd_ne h1]
    by_cases h2 : c = a
    · subst h2; rw [upd_same, upd_same]
    · rw [upd_ne h2, upd_ne h2, upd_ne h1]
theorem upd_none {H : Hp} {a b : Addr} {x : HO} (h : upd H a x b = none) : b ≠ a ∧ H b = none := by
  by_cases e : b = a
  · subst e; rw [upd_same] at h; cases h
  · rw [upd_ne e] at h; exact ⟨e, h⟩
theorem rg_none {st g b : Addr} {R : RS} {B : Hp} (h : rg st g R B b = none) : b ≠ st ∧ b ≠ g ∧ B b = none := by
  obtain ⟨h1, h2⟩ := upd_none h
  obtain ⟨h3, h4⟩ := upd_none h2
  exact ⟨h1, h3, h4⟩
theorem rg_upd {st g b : Addr} {R : RS} {B : Hp} {o : HO} (h1 : b ≠ st) (h2 : b ≠ g) : upd (rg st g R B) b o = rg st g R (upd B b o) := by
  unfold rg; rw [upd_comm h1.symm, upd_comm h2.symm]
theorem Ok.upd {st g b : Addr} {R : RS} {B : Hp} {o : HO} (k : Ok st g R B) (h1 : b ≠ st) (h2 : b ≠ g) : Ok st g R (upd B b o) :=
  ⟨k.ne, k.ok, by rw [upd_ne h1.symm]; exact k.bst, by rw [upd_ne h2.symm]; exact k.bg⟩
/-- an object written below the draws' state -/
theorem rg_write {st g b : Addr} {R : RS} {B : Hp} {o o' : HO} (k : Ok st g R B) (h : B b = some o') : upd (rg st g R B) b o = rg st g R (upd B b o) ∧ Ok st g R (upd B b o) := by
  have h1 := ne_of_none h k.bst
  have h2 := ne_of_none h k.bg
  exact ⟨rg_upd h1 h2, k.upd h1 h2⟩
/-- behind a call that keeps all that was -/
theorem rg_same {st g : Addr} {R : RS} {B H : Hp} (k : Ok st g R B) (s : Same (rg st g R B) H) : ∃ B', H = rg st g R B' ∧ Ok st g R B' ∧ Same B B' := by
  refine ⟨fun b => if b = st ∨ b = g then none else H b, ?_, ⟨k.ne, k.ok, if_pos (.inl rfl), if_pos (.inr rfl)⟩, fun b o e => ?_⟩
  · funext b
    by_cases h1 : b = st
    · subst h1; rw [rg_st]; exact s _ _ rg_st
    · by_cases h2 : b = g
      · subst h2
        rw [show rg st b R (fun c => if c = st ∨ c = b then none else H c) b = some (.lst (R.ns.map V.int)) by unfold rg; rw [upd_ne h1, upd_same]]
        exact s _ _ (rg_g k)
      · unfold rg
        rw [upd_ne h1, upd_ne h2, if_neg (by intro z; rcases z with z | z; exact h1 z; exact h2 z)]
  · have h1 := ne_of_none e k.bst
    have h2 := ne_of_none e k.bg
    show (if b = st ∨ b = g then none else H b) = some o
    rw [if_neg (by intro z; rcases z with z | z; exact h1 z; exact h2 z)]
    exact s _ _ (rg_get k e)
section
variable {K : PySem.W.Frag} {σ : L2.St} {H : Hp} {Q : VK} {D : Ends}
theorem r_seq {t u : TS} (h : t { D with nx := u D } σ H) : tSeq t u D σ H := h
theorem r_ifs {c : TT} {t u : TS} (h : c σ H fun b H1 => if b = true then t D σ H1 else u D σ H1) : tIfS c t u D σ H := h
theorem r_next (h : D.nx σ H) : tNext D σ H := h
theorem r_asg {te : TE} {g : TG} (h : te σ H fun x H1 => g x σ H1 D.nx) : tAsg te g D σ H := h
theorem r_ret {te : TE} (h : te σ H D.rt) : tRet te D σ H := h
theorem r_drop {te : TE} (h : te σ H fun _ H1 => D.nx σ H1) : tDrop te D σ H := h
theorem r_for {wi : TI} {g : TG} {tb : TS} (h : wi σ H fun J H1 => ∃ W : Nat → Nat → L2.St → Hp → Prop, (∃ m, W 0 m σ H1) ∧ ∀ i m σ H, W i m σ H →
  (J.stop i H ∧ D.nx σ H) ∨ (J.go i H ∧ ∃ N : L2.St → Hp → Prop, (∀ σ' H', N σ' H' → ∃ m', m' < m ∧ W (i + 1) m' σ' H') ∧ ∀ x H', J.yld i H x H' → g x σ H' fun σ2 H2 => tb { D with nx := N, ct := N, bk := D.nx } σ2 H2)) : tFor wi g tb D σ H := h
theorem r_name {i : Nat} {v : V} {q : L2.St → Hp → Prop} (h : q (σ.set i (some v)) H) : gName i v σ H q := h
theorem r_sub {to ti : TE} {t : TSet} {v : V} {q : L2.St → Hp → Prop} (h : to σ H fun o H1 => ti σ H1 fun i H2 => t o i v H2 fun H3 => q σ H3) : gSub to ti t v σ H q := h
theorem r_tup {n : Nat} {t : TGs} {a : Addr} {xs : List V} {q : L2.St → Hp → Prop} (h : SqT K H a xs) (e : xs.length = n) (h2 : t xs σ H q) : gTup K n t (.ref a) σ H q := ⟨a, xs, rfl, h, e, h2⟩
theorem r_gcons {t : TG} {u : TGs} {v : V} {r : List V} {q : L2.St → Hp → Prop} (h : t v σ H fun σ' H' => u r σ' H' q) : gCons t u (v :: r) σ H q := ⟨v, r, rfl, h⟩
theorem r_gnil {q : L2.St → Hp → Prop} (h : q σ H) : gNil [] σ H q := ⟨rfl, h⟩
theorem r_aug {i : Nat} {te : TE} {ti : TIp} {x : V} (e : σ[i]? = some (some x)) (h : te σ H fun y H1 => ti x y H1 fun z H2 => D.nx (σ.set i (some z)) H2) : tAug i te ti D σ H := ⟨x, e, h⟩
theorem r_augS {to ti te : TE} {tget : V → V → Hp → VK → Prop} {tip : TIp} {tset : TSet} (h : to σ H fun o H1 => ti σ H1 fun i H2 => tget o i H2 fun x H3 => te σ H3 fun y H4 => tip x y H4 fun z H5 => tset o i z H5 fun H6 => D.nx σ H6) : tAugS to ti te tget tip tset D σ H := h
theorem r_ipI {f : Int → Int → Int} {i j : Int} (h : Q (.int (f i j)) H) : ipI f (.int i) (.int j) H Q := ⟨i, j, rfl, rfl, h⟩
theorem r_test {t : TE} {q : Bool → Hp → Prop} (h : t σ H fun x H' => ∃ k, x = .bl k ∧ q k H') : tTest t σ H q := h
theorem r_tB {t : TE} {q : Bool → Hp → Prop} (h : t σ H fun x H' => ∃ k, x = .bl k ∧ q k H') : tB t σ H q := h
theorem r_bl {b : Bool} {q : Bool → Prop} (h : q b) : ∃ k, V.bl b = .bl k ∧ q k := ⟨b, rfl, h⟩
theorem r_not {t : TT} {q : Bool → Hp → Prop} (h : t σ H fun c H1 => q (!c) H1) : tNot t σ H q := h
theorem r_and {t u : TT} {q : Bool → Hp → Prop} (h : t σ H fun c H1 => if c = true then u σ H1 q else q false H1) : tAnd t u σ H q := h
theorem r_or {t u : TT} {q : Bool → Hp → Prop} (h : t σ H fun c H1 => if c = true then q true H1 else u σ H1 q) : tOr t u σ H q := h
theorem r_andV {ta tb : TE} (h : ta σ H fun x H1 => ∃ c, x = .bl c ∧ if c = true then tb σ H1 Q else Q (.bl false) H1) : tAndV ta tb σ H Q := h
theorem r_orV {ta tb : TE} (h : ta σ H fun x H1 => ∃ c, x = .bl c ∧ if c = true then Q (.bl true) H1 else tb σ H1 Q) : tOrV ta tb σ H Q := h
theorem r_notV {ta : TE} (h : ta σ H fun x H1 => ∃ c, x = .bl c ∧ Q (.bl (!c)) H1) : tNotV ta σ H Q := h
theorem r_var {i : Nat} {v : V} (e : σ[i]? = some (some v)) (h : Q v H) : tVar i σ H Q := ⟨v, e, h⟩
theorem r_c {v : V} (h : Q v H) : tC v σ H Q := h
theorem r_op {r : R2} {ta tb : TE} (h : ta σ H fun x H1 => tb σ H1 fun y H2 => r x y H2 Q) : tOp r ta tb σ H Q := h
theorem r_un {r : V → Hp → VK → Prop} {ta : TE} (h : ta σ H fun x H1 => r x H1 Q) : tUn r ta σ H Q := h
theorem r_i0 {g : Int → Int → V} {i j : Int} (h : Q (g i j) H) : rI0 g (.int i) (.int j) H Q := ⟨i, j, rfl, rfl, h⟩
theorem r_i {C : Int → Int → Prop} {g : Int → Int → V} {i j : Int} (c : C i j) (h : Q (g i j) H) : rI C g (.int i) (.int j) H Q := ⟨i, j, rfl, rfl, c, h⟩
theorem r_u {g : Int → V} {i : Int} (h : Q (g i) H) : rU g (.int i) H Q := ⟨i, rfl, h⟩
theorem r_eq {x y : V} (e : scal x y = true) (h : Q (.bl (decide (x = y))) H) : rEq x y H Q := ⟨e, h⟩
theorem r_ne {x y : V} (e : scal x y = true) (h : Q (.bl (!decide (x = y))) H) : rNe x y H Q := ⟨e, h⟩
theorem r_chain {r r' : R2} {ta tb tc : TE} (h : ta σ H fun x H1 => tb σ H1 fun y H2 => r x y H2 fun z H3 => ∃ k, z = .bl k ∧ (if k = true then tc σ H3 fun w' H4 => r' y w' H4 Q else Q (.bl false) H3)) : tChain r r' ta tb tc σ H Q := h
theorem r_nil {q : List V → Hp → Prop} (h : q [] H) : tNil σ H q := h
theorem r_cons {ta : TE} {tr : TA} {q : List V → Hp → Prop} (h : ta σ H fun x H1 => tr σ H1 fun xs H2 => q (x :: xs) H2) : tCons ta tr σ H q := h
theorem r_cb {r : List V → Hp → VK → Prop} {t : TA} (h : t σ H fun vs H1 => r vs H1 Q) : tCB r t σ H Q := h
theorem r_call {sp : Sp} {E : XK} {t : TA} (h : t σ H fun vs H1 => sp (vs ++ []) H1 Q E) : tCall sp [] E t σ H Q := h
theorem r_lst {t : TA} (h : t σ H fun xs H1 => xs.length ≤ sizeLine ∧ ∀ p, H1 p = none → Q (.ref p) (upd H1 p (.lst xs))) : tLst t σ H Q := h
theorem r_tupE {t : TA} (h : t σ H fun xs H1 => xs.length ≤ sizeLine ∧ ∀ p, H1 p = none → Q (.ref p) (upd H1 p (.tup xs))) : tTup t σ H Q := h
theorem r_ixL {p : Addr} {xs : List V} {i : Int} {v : V} (h : H p = some (.lst xs)) (a : atI xs i = some v) (q : Q v H) : rIxL K (.ref p) (.int i) H Q := ⟨p, xs, i, v, rfl, rfl, SqL.of h, a, q⟩
theorem r_setL {p : Addr} {xs : List V} {k : Int} {j : Nat} {v : V} {q : Hp → Prop} (h : H p = some (.lst xs)) (a : ixN xs.length k = some j) (hq : q (upd H p (.lst (xs.set j v)))) : rSetL (.ref p) (.int k) v H q := ⟨p, xs, k, j, rfl, rfl, h, a, hq⟩
theorem r_bm {T : String} {r : V → List V → Hp → VK → Prop} {to : TE} {t : TA} (h : to σ H fun x H1 => tyV K T x H1 ∧ t σ H1 fun xs H2 => r x xs H2 Q) : tBM K T r to t σ H Q := h
theorem r_bm0 {T : String} {r : V → List V → Hp → VK → Prop} {to : TE} (h : to σ H fun x H1 => tyV K T x H1 ∧ r x [] H1 Q) : tBM0 K T r to σ H Q := h
theorem r_ty {p : Addr} {xs : List V} (h : H p = some (.lst xs)) : tyV K "list" (.ref p) H := .inl ⟨rfl, _, SqL.of h⟩
theorem r_append {l : Addr} {xs : List V} {y : V} (h : H l = some (.lst xs)) (z : xs.length < sizeLine) (q : Q .non (upd H l (.lst (xs ++ [y])))) : rAppend (.ref l) [y] H Q := ⟨l, xs, y, rfl, rfl, h, z, q⟩
theorem r_iList {tl : TE} {R : It → Hp → Prop} (h : tl σ H fun x H1 => ∃ a, x = .ref a ∧ (∃ xs, SqL K H1 a xs) ∧ R (Itl K a) H1) : iList K tl σ H R := h
theorem r_rng1 {ta : TA} {R : It → Hp → Prop} (h : ta σ H fun vs H1 => ∃ j : Int, vs = [.int j] ∧ -(2 ^ 62) ≤ j ∧ j < 2 ^ 62 ∧ R (Itr 0 j.toNat) H1) : iRng1 ta σ H R := h
theorem r_enum {ta : TA} {R : It → Hp → Prop} (h : ta σ H fun vs H1 => ∃ a xs, vs = [.ref a] ∧ SqL K H1 a xs ∧ R (Ite K a) H1) : iEnum K ta σ H R := h
theorem r_abs {j : Int} {F : Int → Prop} (q : F j) : ∃ i, [V.int j] = [V.int i] ∧ F i := ⟨j, rfl, q⟩
theorem r_int {j : Int} {F : Int → Prop} {G : Prop} (q : F j) : (∃ i, [V.int j] = [V.int i] ∧ F i) ∨ G := .inl ⟨j, rfl, q⟩
theorem r_ite {p : Prop} [Decidable p] {A B : Prop} (h1 : p → A) (h2 : ¬p → B) : if decide p = true then A else B := by
  by_cases h : p
  · rw [if_pos (decide_eq_true h)]; exact h1 h
  · rw [if_neg (by rw [decide_eq_false h]; exact Bool.false_ne_true)]; exact h2 h
theorem r_iten {p : Prop} [Decidable p] {A B : Prop} (h1 : ¬p → A) (h2 : p → B) : if (!decide p) = true then A else B := by
  by_cases h : p
  · rw [if_neg (by rw [decide_eq_true h]; exact Bool.false_ne_true)]; exact h2 h
  · rw [if_pos (by rw [decide_eq_false h]; rfl)]; exact h1 h
theorem small {n : Nat} (h : n ≤ 100000) : n < sizeLine := Nat.lt_of_le_of_lt h (by decide)
end
end Lw
namespace Lw
open PySem PySem.Spec PyProof.Rows L2
theorem rg_set_st {st g : Addr} {R : RS} {B : Hp} {i m c : Int} : upd (rg st g R B) st (.lst [.ref g, .int i, .int m, .int c]) = rg st g ⟨R.ns, i, m, c⟩ B := by
  unfold rg; rw [upd_upd]
theorem rg_set_g {st g : Addr} {R : RS} {B : Hp} {ns : List Int} (k : Ok st g R B) : upd (rg st g R B) g (.lst (ns.map V.int)) = rg st g ⟨ns, R.i, R.m, R.c⟩ B := by
  unfold rg; rw [upd_comm k.ne, upd_upd]
theorem Ok.re {st g : Addr} {R R' : RS} {B : Hp} (k : Ok st g R B) (h : R'.Ok) : Ok st g R' B := ⟨k.ne, h, k.bst, k.bg⟩
theorem Ok.base {st g : Addr} {R : RS} {B C : Hp} (k : Ok st g R B) (h1 : C st = none) (h2 : C g = none) : Ok st g R C := ⟨k.ne, k.ok, h1, h2⟩
theorem at_i {xs : List V} {z : Int} {v : V} (h0 : 0 ≤ z) (h : xs[z.toNat]? = some v) : atI xs z = some v := at_of (j := z.toNat) (by omega) h
theorem ix_i {n : Nat} {z : Int} (h0 : 0 ≤ z) (h : z < n) : ixN n z = some z.toNat := by unfold ixN; rw [if_pos h0, if_pos h]
theorem setMap (l : List Int) (j : Nat) (x : Int) : (l.map V.int).set j (.int x) = (l.set j x).map V.int := by rw [List.map_set]
/-- a draw -/
def spDraw : Sp := fun vs H Q _ => ∃ (st g : Addr) (R : RS) (B : Hp) (many : Int), vs = [.ref st, .int many] ∧ H = rg st g R B ∧ Ok st g R B ∧ 1 ≤ many ∧ many < 1073741824 ∧
  ∀ R' n, RS.Ok R' → 0 ≤ n → n < many → Q (.int n) (rg st g R' B)
def spStart (K : PySem.W.Frag) : Sp := fun vs H Q _ => ∃ (a : Addr) (ns : List Int), vs = [.ref a] ∧ SqL K H a (ns.map V.int) ∧ ns.length ≤ 63 ∧
  ∀ st g R, Ok st g R H → Q (.ref st) (rg st g R H)
theorem r_draw {st g : Addr} {R : RS} {B : Hp} {many : Int} {Q : VK} {E : XK} (k : Ok st g R B) (h1 : 1 ≤ many) (h2 : many < 1073741824) (q : ∀ R' n, Ok st g R' B → 0 ≤ n → n < many → Q (.int n) (rg st g R' B)) :
    spDraw ([.ref st, .int many] ++ []) (rg st g R B) Q E := ⟨st, g, R, B, many, rfl, rfl, k, h1, h2, fun R' n h => q R' n (k.re h)⟩
end Lw
namespace Lw
open PySem PySem.Spec PyProof.Rows L2
theorem cmul_mod {x y m : Int} (h : 0 < m) (h2 : m ≤ 4294967296) : CMul (x.fmod m) y := by
  have a := Int.fmod_nonneg_of_pos x h
  have b := Int.fmod_lt_of_pos x h
  exact .inl ⟨by omega, by omega⟩
end Lw
namespace Lw
open PySem PySem.Spec PyProof.Rows L2
theorem cdivN {i j : Int} (h : 0 < j) (h2 : j < 1073741824) : CDivN i j := ⟨by omega, by omega⟩
end Lw
namespace Lw
open PySem PySem.Spec PyProof.Rows L2
theorem cmulL {i j : Int} (h : -18446744073709551616 < i) (h2 : i < 18446744073709551616) : CMul i j := .inl ⟨h, h2⟩
theorem cmulR {i j : Int} (h : -18446744073709551616 < j) (h2 : j < 18446744073709551616) : CMul i j := .inr ⟨h, h2⟩
theorem cpow {i j : Int} (h : 0 ≤ j) (h2 : j ≤ 1000000) (h3 : -18446744073709551616 < i) (h4 : i < 18446744073709551616) : CPow i j := ⟨h, h2, by
  show i.natAbs < 18446744073709551616
  omega⟩
end Lw
namespace Lw
open PySem PySem.Spec PyProof.Rows L2
section
variable {K : PySem.W.Frag} {σ : L2.St} {H : Hp} {D : Ends} {g : TG} {tb : TS}
/-- for x in a list -/
theorem r_forS {a : Addr} {xs : List V} (hx : SqL K H a xs) (Pv : Nat → L2.St → Hp → Prop) (h0 : Pv 0 σ H) (hl : ∀ i σ H, i ≤ xs.length → Pv i σ H → SqL K H a xs)
    (hs : ∀ i x σ H, xs[i]? = some x → Pv i σ H → g x σ H fun σ2 H2 => tb { D with nx := Pv (i + 1), ct := Pv (i + 1), bk := D.nx } σ2 H2) (hd : ∀ σ H, Pv xs.length σ H → D.nx σ H) :
    ∃ b, V.ref a = .ref b ∧ (∃ xs, SqL K H b xs) ∧ ∃ W : Nat → Nat → L2.St → Hp → Prop, (∃ m, W 0 m σ H) ∧ ∀ i m σ H, W i m σ H →
      ((Itl K b).stop i H ∧ D.nx σ H) ∨ ((Itl K b).go i H ∧ ∃ N : L2.St → Hp → Prop, (∀ σ' H', N σ' H' → ∃ m', m' < m ∧ W (i + 1) m' σ' H') ∧ ∀ x H', (Itl K b).yld i H x H' → g x σ H' fun σ2 H2 => tb { D with nx := N, ct := N, bk := D.nx } σ2 H2) :=
  ⟨a, rfl, ⟨xs, hx⟩, for_list Pv h0 hl hs hd⟩
theorem r_forL {a : Addr} {xs : List V} (hx : H a = some (.lst xs)) (Pv : Nat → L2.St → Hp → Prop) (h0 : Pv 0 σ H) (hl : ∀ i σ H, i ≤ xs.length → Pv i σ H → H a = some (.lst xs))
    (hs : ∀ i x σ H, xs[i]? = some x → Pv i σ H → g x σ H fun σ2 H2 => tb { D with nx := Pv (i + 1), ct := Pv (i + 1), bk := D.nx } σ2 H2) (hd : ∀ σ H, Pv xs.length σ H → D.nx σ H) :
    ∃ b, V.ref a = .ref b ∧ (∃ xs, SqL K H b xs) ∧ ∃ W : Nat → Nat → L2.St → Hp → Prop, (∃ m, W 0 m σ H) ∧ ∀ i m σ H, W i m σ H →
      ((Itl K b).stop i H ∧ D.nx σ H) ∨ ((Itl K b).go i H ∧ ∃ N : L2.St → Hp → Prop, (∀ σ' H', N σ' H' → ∃ m', m' < m ∧ W (i + 1) m' σ' H') ∧ ∀ x H', (Itl K b).yld i H x H' → g x σ H' fun σ2 H2 => tb { D with nx := N, ct := N, bk := D.nx } σ2 H2) :=
  r_forS (SqL.of hx) Pv h0 (fun i σ H h1 h2 => SqL.of (hl i σ H h1 h2)) hs hd
/-- for k in range(n) -/
theorem r_forR {n : Int} (h1 : -4611686018427387904 ≤ n) (h2 : n < 4611686018427387904) (Pv : Nat → L2.St → Hp → Prop) (h0 : Pv 0 σ H)
    (hs : ∀ i σ H, i < n.toNat → Pv i σ H → g (.int i) σ H fun σ2 H2 => tb { D with nx := Pv (i + 1), ct := Pv (i + 1), bk := D.nx } σ2 H2) (hd : ∀ σ H, Pv n.toNat σ H → D.nx σ H) :
    ∃ j : Int, [V.int n] = [.int j] ∧ -(2 ^ 62) ≤ j ∧ j < 2 ^ 62 ∧ ∃ W : Nat → Nat → L2.St → Hp → Prop, (∃ m, W 0 m σ H) ∧ ∀ i m σ H, W i m σ H →
      ((Itr 0 j.toNat).stop i H ∧ D.nx σ H) ∨ ((Itr 0 j.toNat).go i H ∧ ∃ N : L2.St → Hp → Prop, (∀ σ' H', N σ' H' → ∃ m', m' < m ∧ W (i + 1) m' σ' H') ∧ ∀ x H', (Itr 0 j.toNat).yld i H x H' → g x σ H' fun σ2 H2 => tb { D with nx := N, ct := N, bk := D.nx } σ2 H2) :=
  ⟨n, rfl, h1, h2, for_range Pv h0 (fun i σ H hi hp => by rw [Int.zero_add]; exact hs i σ H hi hp) hd⟩
end
theorem size_nil : ([] : List V).length ≤ sizeLine := Nat.zero_le _
theorem size_le {xs : List V} {n : Nat} (e : xs.length = n) (h : n ≤ 1000) : xs.length ≤ sizeLine := by rw [e]; exact Nat.le_of_lt (small (by omega))
end Lw
namespace Lw
open PySem PySem.Spec PyProof.Rows L2
structure TopOk {S : Type} (F : S → Hp → Hp) (ok : S → Hp → Prop) : Prop where
  new : ∀ s C p, ok s C → F s C p = none → C p = none ∧ ∀ o, upd (F s C) p o = F s (upd C p o) ∧ ok s (upd C p o)
  write : ∀ s C b o o', ok s C → C b = some o' → upd (F s C) b o = F s (upd C b o) ∧ ok s (upd C b o)
  get : ∀ s C a o, ok s C → C a = some o → F s C a = some o
theorem topRg (st g : Addr) : TopOk (rg st g) (Ok st g) where
  new := fun R C p k h => by
    obtain ⟨h1, h2, h3⟩ := rg_none h
    exact ⟨h3, fun o => ⟨rg_upd h1 h2, k.upd h1 h2⟩⟩
  write := fun R C b o o' k h => rg_write k h
  get := fun R C a o k h => rg_get k h
theorem topH : TopOk (fun (_ : Unit) (C : Hp) => C) (fun _ _ => True) where
  new := fun _ C p _ h => ⟨h, fun o => ⟨rfl, trivial⟩⟩
  write := fun _ C b o o' _ h => ⟨rfl, trivial⟩
  get := fun _ C a o _ h => h
section
variable {S : Type} {F : S → Hp → Hp} {ok : S → Hp → Prop} (T : TopOk F ok)
include T
/-- what a turn of a comprehension is to reach -/
def LcN (F : S → Hp → Hp) (ok : S → Hp → Prop) (B : Hp) (D : Addr) (Pv : Hp → List V → Prop) : Hp → Prop := fun H' => ∃ s C acc, H' = F s (upd C D (.lst acc)) ∧ ok s (upd C D (.lst acc)) ∧ C D = none ∧ Same B C ∧ Pv C acc
omit T in
theorem lcN_skip {s : S} {B C : Hp} {D : Addr} {acc : List V} {Pv : Hp → List V → Prop} (k : ok s (upd C D (.lst acc))) (hD : C D = none) (hS : Same B C) (h : Pv C acc) : LcN F ok B D Pv (F s (upd C D (.lst acc))) := ⟨s, C, acc, rfl, k, hD, hS, h⟩
theorem lcN_put {s : S} {B C : Hp} {D : Addr} {acc : List V} {y : V} {Pv : Hp → List V → Prop} (k : ok s (upd C D (.lst acc))) (hD : C D = none) (hS : Same B C) (hz : acc.length ≤ 100000) (h : Pv C (acc ++ [y])) :
    ∃ acc', (F s (upd C D (.lst acc))) D = some (.lst acc') ∧ acc'.length < sizeLine ∧ LcN F ok B D Pv (upd (F s (upd C D (.lst acc))) D (.lst (acc' ++ [y]))) := by
  obtain ⟨e1, e2⟩ := T.write s _ D (.lst (acc ++ [y])) (.lst acc) k upd_same
  rw [upd_upd] at e1 e2
  exact ⟨acc, T.get _ _ _ _ k upd_same, small hz, s, C, acc ++ [y], e1, e2, hD, hS, h⟩
variable {σ : L2.St} {g : TG} {tt : TT} {te : TE} {vs : List Nat} {Q : Addr → Hp → Prop}
theorem lcT_range {s0 : S} {B : Hp} (k : ok s0 B) {n : Int} (h1 : -4611686018427387904 ≤ n) (h2 : n < 4611686018427387904) (Pv : Nat → Hp → List V → Prop) (h0 : Pv 0 B [])
    (hs : ∀ D i s C acc, ok s (upd C D (.lst acc)) → C D = none → Same B C → i < n.toNat → Pv i C acc → g (.int i) (wipe σ vs) (F s (upd C D (.lst acc))) fun σ2 H2 => wipe σ2 vs = wipe σ vs ∧ tt σ2 H2 fun b H3 =>
      if b = true then te σ2 H3 fun y H4 => ∃ acc', H4 D = some (.lst acc') ∧ acc'.length < sizeLine ∧ LcN F ok B D (Pv (i + 1)) (upd H4 D (.lst (acc' ++ [y]))) else LcN F ok B D (Pv (i + 1)) H3)
    (hd : ∀ D s C acc, ok s (upd C D (.lst acc)) → B D = none → C D = none → Same B C → Pv n.toNat C acc → Q D (F s (upd C D (.lst acc)))) :
    ∃ j : Int, [V.int n] = [.int j] ∧ -(2 ^ 62) ≤ j ∧ j < 2 ^ 62 ∧ ∀ D, (F s0 B) D = none → ∃ W : Nat → Nat → Hp → Prop, (∃ m, W 0 m (upd (F s0 B) D (.lst []))) ∧ ∀ i m H, W i m H →
      ((Itr 0 j.toNat).stop i H ∧ Q D H) ∨ ((Itr 0 j.toNat).go i H ∧ ∃ Nx : Hp → Prop, (∀ H', Nx H' → ∃ m', m' < m ∧ W (i + 1) m' H') ∧ ∀ x H', (Itr 0 j.toNat).yld i H x H' → g x (wipe σ vs) H' fun σ2 H2 => wipe σ2 vs = wipe σ vs ∧ tt σ2 H2 fun b H3 =>
        if b = true then te σ2 H3 fun y H4 => ∃ acc, H4 D = some (.lst acc) ∧ acc.length < sizeLine ∧ Nx (upd H4 D (.lst (acc ++ [y]))) else Nx H3) := by
  refine ⟨n, rfl, h1, h2, fun D hD => ?_⟩
  obtain ⟨hB, hn⟩ := T.new s0 B D k hD
  refine lc_range (fun i H => LcN F ok B D (Pv i) H) ?_ ?_ ?_
  · rw [(hn _).1]
    exact ⟨s0, B, [], rfl, (hn _).2, hB, Same.refl B, h0⟩
  · rintro i H hi ⟨s, C, acc, rfl, k', hD', hS, hp⟩
    rw [Int.zero_add]
    exact hs D i s C acc k' hD' hS hi hp
  · rintro H ⟨s, C, acc, rfl, k', hD', hS, hp⟩
    exact hd D s C acc k' hB hD' hS hp
theorem lcT_list {K : PySem.W.Frag} {s0 : S} {B : Hp} (k : ok s0 B) {a : Addr} {xs : List V} (ha : B a = some (.lst xs)) (Pv : Nat → Hp → List V → Prop) (h0 : Pv 0 B [])
    (hs : ∀ D i x s C acc, ok s (upd C D (.lst acc)) → C D = none → Same B C → xs[i]? = some x → Pv i C acc → g x (wipe σ vs) (F s (upd C D (.lst acc))) fun σ2 H2 => wipe σ2 vs = wipe σ vs ∧ tt σ2 H2 fun b H3 =>
      if b = true then te σ2 H3 fun y H4 => ∃ acc', H4 D = some (.lst acc') ∧ acc'.length < sizeLine ∧ LcN F ok B D (Pv (i + 1)) (upd H4 D (.lst (acc' ++ [y]))) else LcN F ok B D (Pv (i + 1)) H3)
    (hd : ∀ D s C acc, ok s (upd C D (.lst acc)) → B D = none → C D = none → Same B C → Pv xs.length C acc → Q D (F s (upd C D (.lst acc)))) :
    ∃ b, V.ref a = .ref b ∧ (∃ xs, SqL K (F s0 B) b xs) ∧ ∀ D, (F s0 B) D = none → ∃ W : Nat → Nat → Hp → Prop, (∃ m, W 0 m (upd (F s0 B) D (.lst []))) ∧ ∀ i m H, W i m H →
      ((Itl K b).stop i H ∧ Q D H) ∨ ((Itl K b).go i H ∧ ∃ Nx : Hp → Prop, (∀ H', Nx H' → ∃ m', m' < m ∧ W (i + 1) m' H') ∧ ∀ x H', (Itl K b).yld i H x H' → g x (wipe σ vs) H' fun σ2 H2 => wipe σ2 vs = wipe σ vs ∧ tt σ2 H2 fun b H3 =>
        if b = true then te σ2 H3 fun y H4 => ∃ acc, H4 D = some (.lst acc) ∧ acc.length < sizeLine ∧ Nx (upd H4 D (.lst (acc ++ [y]))) else Nx H3) := by
  refine ⟨a, rfl, ⟨xs, SqL.of (T.get _ _ _ _ k ha)⟩, fun D hD => ?_⟩
  obtain ⟨hB, hn⟩ := T.new s0 B D k hD
  refine lc_list (xs := xs) (fun i H => LcN F ok B D (Pv i) H) ?_ ?_ ?_ ?_
  · rw [(hn _).1]
    exact ⟨s0, B, [], rfl, (hn _).2, hB, Same.refl B, h0⟩
  · rintro i H _ ⟨s, C, acc, rfl, k', hD', hS, hp⟩
    exact SqL.of (T.get _ _ _ _ k' (upd_old hD' (hS _ _ ha)))
  · rintro i x H hx ⟨s, C, acc, rfl, k', hD', hS, hp⟩
    exact hs D i x s C acc k' hD' hS hx hp
  · rintro H ⟨s, C, acc, rfl, k', hD', hS, hp⟩
    exact hd D s C acc k' hB hD' hS hp
end
section
variable {σ : L2.St} {H : Hp} {Q : VK}
theorem r_lc {wi : TI} {g : TG} {tt : TT} {te : TE} {vs : List Nat} (h : wi σ H fun J H1 => ∀ D, H1 D = none → ∃ W : Nat → Nat → Hp → Prop, (∃ m, W 0 m (upd H1 D (.lst []))) ∧ ∀ i m H, W i m H →
  (J.stop i H ∧ Q (.ref D) H) ∨ (J.go i H ∧ ∃ Nx : Hp → Prop, (∀ H', Nx H' → ∃ m', m' < m ∧ W (i + 1) m' H') ∧ ∀ x H', J.yld i H x H' → g x (wipe σ vs) H' fun σ2 H2 => wipe σ2 vs = wipe σ vs ∧ tt σ2 H2 fun b H3 =>
    if b = true then te σ2 H3 fun y H4 => ∃ acc, H4 D = some (.lst acc) ∧ acc.length < sizeLine ∧ Nx (upd H4 D (.lst (acc ++ [y]))) else Nx H3)) : tLc wi g tt te vs σ H Q := h
theorem r_yes {q : Bool → Hp → Prop} (h : q true H) : tYes σ H q := h
end
def Rw (C : Hp) (as : List Addr) (rs : List (List Int)) : Prop := as.length = rs.length ∧ ∀ (i : Nat) (b : Addr), as[i]? = some b → ∃ r, rs[i]? = some r ∧ C b = some (.lst (r.map V.int))
theorem Rw.nil {C : Hp} : Rw C [] [] := ⟨rfl, fun i b h => by simp at h⟩
theorem Rw.mono {C C' : Hp} {as : List Addr} {rs : List (List Int)} (h : Rw C as rs) (s : Same C C') : Rw C' as rs :=
  ⟨h.1, fun i b e => by obtain ⟨r, h1, h2⟩ := h.2 i b e; exact ⟨r, h1, s _ _ h2⟩⟩
theorem Rw.push {C : Hp} {as : List Addr} {rs : List (List Int)} {b : Addr} {r : List Int} (h : Rw C as rs) (e : C b = some (.lst (r.map V.int))) : Rw C (as ++ [b]) (rs ++ [r]) := by
  refine ⟨by rw [List.length_append, List.length_append, h.1]; rfl, fun i c hc => ?_⟩
  by_cases hi : i < as.length
  · rw [List.getElem?_append_left hi] at hc
    obtain ⟨r', h1, h2⟩ := h.2 i c hc
    exact ⟨r', by rw [List.getElem?_append_left (by rw [← h.1]; exact hi)]; exact h1, h2⟩
  · have h3 := (List.getElem?_eq_some_iff.mp hc).1
    rw [List.length_append, List.length_singleton] at h3
    have e2 : i = as.length := by omega
    rw [e2, List.getElem?_append_right (Nat.le_refl _), Nat.sub_self] at hc
    have e3 : b = c := Option.some.inj hc
    refine ⟨r, ?_, e3 ▸ e⟩
    rw [e2, h.1, List.getElem?_append_right (Nat.le_refl _), Nat.sub_self]; rfl
theorem Rw.set {C : Hp} {as : List Addr} {rs : List (List Int)} {b : Addr} {r : List Int} (h : Rw C as rs) (j : Nat) (e : C b = some (.lst (r.map V.int))) : Rw C (as.set j b) (rs.set j r) := by
  refine ⟨by rw [List.length_set, List.length_set, h.1], fun i c hc => ?_⟩
  rw [List.getElem?_set] at hc
  split at hc
  · rename_i hj
    split at hc
    · rename_i hl
      refine ⟨r, ?_, (Option.some.inj hc) ▸ e⟩
      rw [List.getElem?_set, if_pos hj, if_pos (by rw [← h.1]; exact hl)]
    · cases hc
  · rename_i hj
    obtain ⟨r', h1, h2⟩ := h.2 i c hc
    exact ⟨r', by rw [List.getElem?_set, if_neg hj]; exact h1, h2⟩
end Lw
namespace Lw
open PySem PySem.Spec PyProof.Rows L2
theorem ints_push (r : List Int) (z : Int) : r.map V.int ++ [.int z] = (r ++ [z]).map V.int := by rw [List.map_append]; rfl
/-- a row that is grown by something greater -/
def Up (n : Int) (j : Nat) (r : List Int) : Prop := r.length ≤ j ∧ r.Nodup ∧ (∀ e ∈ r, 0 ≤ e ∧ e < n) ∧ ∀ e ∈ r, e < (j : Int)
theorem Up.nil {n : Int} : Up n 0 [] := ⟨Nat.le_refl _, List.nodup_nil, (fun e he => nomatch he), (fun e he => nomatch he)⟩
theorem Up.skip {n : Int} {j : Nat} {r : List Int} (h : Up n j r) : Up n (j + 1) r := ⟨by have := h.1; omega, h.2.1, h.2.2.1, fun e he => by have := h.2.2.2 e he; omega⟩
theorem nodup_push {α : Type} {r : List α} {z : α} (h : r.Nodup) (hz : z ∉ r) : (r ++ [z]).Nodup := by
  rw [List.nodup_append]
  exact ⟨h, by simp, fun a ha b hb e => hz (by rw [← List.mem_singleton.mp hb, ← e]; exact ha)⟩
theorem Up.push {n : Int} {j : Nat} {r : List Int} (h : Up n j r) (hj : (j : Int) < n) : Up n (j + 1) (r ++ [(j : Int)]) := by
  refine ⟨by rw [List.length_append, List.length_singleton]; have := h.1; omega, nodup_push h.2.1 fun hm => ?_, fun e he => ?_, fun e he => ?_⟩
  · have := h.2.2.2 _ hm; omega
  · rcases List.mem_append.mp he with q | q
    · exact h.2.2.1 e q
    · rw [List.mem_singleton.mp q]; omega
  · rcases List.mem_append.mp he with q | q
    · have := h.2.2.2 e q; omega
    · rw [List.mem_singleton.mp q]; omega
end Lw
namespace Lw
open PySem PySem.Spec PyProof.Rows L2
section
variable {S : Type} {F : S → Hp → Hp} {ok : S → Hp → Prop} (T : TopOk F ok)
include T
theorem newT_eq {s : S} {C : Hp} {p : Addr} (k : ok s C) (hp : F s C p = none) (o : HO) : upd (F s C) p o = F s (upd C p o) ∧ ok s (upd C p o) ∧ C p = none := by
  obtain ⟨h1, h2⟩ := T.new s C p k hp
  exact ⟨(h2 o).1, (h2 o).2, h1⟩
theorem newTD_eq {s : S} {C : Hp} {D p : Addr} {x : HO} (k : ok s (upd C D x)) (hD : C D = none) (hp : F s (upd C D x) p = none) (o : HO) :
    upd (F s (upd C D x)) p o = F s (upd (upd C p o) D x) ∧ ok s (upd (upd C p o) D x) ∧ (upd C p o) D = none ∧ C p = none ∧ p ≠ D := by
  obtain ⟨h1, h2⟩ := T.new s (upd C D x) p k hp
  obtain ⟨h3, h4⟩ := upd_none h1
  have e := h2 o
  rw [upd_comm h3.symm] at e
  exact ⟨e.1, e.2, by rw [upd_ne h3.symm]; exact hD, h4, h3⟩
end
theorem Rw.at {C : Hp} {as : List Addr} {rs : List (List Int)} {i : Nat} {x : V} (h : Rw C as rs) (e : (as.map V.ref)[i]? = some x) : ∃ b r, x = .ref b ∧ as[i]? = some b ∧ rs[i]? = some r ∧ C b = some (.lst (r.map V.int)) := by
  rw [List.getElem?_map] at e
  cases q : as[i]? with
  | none => rw [q] at e; cases e
  | some b =>
    rw [q] at e
    obtain ⟨r, h1, h2⟩ := h.2 i b q
    exact ⟨b, r, (Option.some.inj e).symm, rfl, h1, h2⟩
theorem r_revL {K : PySem.W.Frag} {σ : L2.St} {H : Hp} {Q : VK} {te : TE} (h : te σ H fun x H1 => ∃ a xs, x = .ref a ∧ SqL K H1 a xs ∧ ∀ p, H1 p = none → Q (.ref p) (upd H1 p (.lst xs.reverse))) : tRevL K te σ H Q := h
end Lw
namespace Lw
open PySem PySem.Spec PyProof.Rows L2
section
variable {X : Cx} {K : PySem.W.Frag} {tg : Expr}
theorem pi_listK (h : X.K = K) {l : Expr} {tl : TE} (hl : PE X l tl) : PI X tg l (iList K tl) := by subst h; exact pi_list hl
theorem pi_tupK (h : X.K = K) {l : Expr} {tl : TE} (hl : PE X l tl) : PI X tg l (iTup K tl) := by subst h; exact pi_tup hl
theorem pi_enumK (h : X.K = K) {e : Expr} {ta : TA} {p pos tpos : Pos} {elts : List Expr} {kk : Nat} (hg : Gl X "enumerate") (hm : X.mg "enumerate" = none) (ha : PA X [e] ta) (hs : starEach [e] X.env = [(false, eval e X.env)] := by rfl) :
    PI X (.Tuple elts kk tpos) (.Call (.Name "enumerate" p) [e] [] pos) (iEnum K ta) := by subst h; exact pi_enum hg hm ha hs
theorem ix_listK (h : X.K = K) : IxR X (rIxL K) := by subst h; exact ix_list
theorem ix_tupK (h : X.K = K) : IxR X (rIxT K) := by subst h; exact ix_tup
theorem sl_listK (h : X.K = K) : SlR X (rSlL K) := by subst h; exact sl_list
theorem sl_tupK (h : X.K = K) : SlR X (rSlT K) := by subst h; exact sl_tup
theorem op_in_seqK (h : X.K = K) : OpR X (compareOp .In) (rIn K false) := by subst h; exact op_in_seq
theorem op_notIn_seqK (h : X.K = K) : OpR X (compareOp .NotIn) (rIn K true) := by subst h; exact op_notIn_seq
def rLen (K : PySem.W.Frag) : List V → Hp → VK → Prop := fun xs H Q => ∃ p ys, xs = [V.ref p] ∧ (SqL K H p ys ∨ SqT K H p ys) ∧ Q (.int ys.length) H
theorem call_len_seqK (h : X.K = K) : CallR X (.builtin "len") (rLen K) := by subst h; exact call_len_seq
def rListOf (K : PySem.W.Frag) : List V → Hp → VK → Prop := fun xs H Q => ∃ p ys, xs = [V.ref p] ∧ (SqL K H p ys ∨ SqT K H p ys) ∧ ∀ l, H l = none → Q (.ref l) (upd H l (.lst ys))
theorem call_isiK' (h : X.K = K) : CallR X (.builtin "isinstance") (rIsi K) := by subst h; exact call_isi
theorem pg_tupK (h : X.K = K) {pos : Pos} {es : List Expr} {k : Nat} {t : TGs} {n : Nat} (hc : X.calm = true) (hp : PGs X es t)
    (hn : (assignEach es X.env).length = n := by rfl) (hst : (assignEach es X.env).findIdx? (·.1) = none := by rfl) : PG X (.Tuple es k pos) (gTup K n t) := by subst h; exact pg_tup hc hp hn hst
theorem pt_truthK (h : X.K = K) {a : Expr} {ta : TE} (ha : PE X a ta) (he : ∀ whole, isTrue a X.env whole = (do let v ← whole; standAt a.pos; holding [v] (truthy v))) :
    PT X a (fun σ H Q => ta σ H fun x H1 => ∃ k, TruV K x H1 k ∧ Q k H1) := by subst h; exact pt_truth ha he
theorem pe_bmK (h : X.K = K) {o e : Expr} {es : List Expr} {to : TE} {t : TA} {name : Str} {apos cpos : Pos} {T id : String} {r : V → List V → Hp → VK → Prop} (pa : PlainAttrs T) (slot : Slot T name id) (hty : typeOf (.builtin id) = pure (.type "method_descriptor")) (hm : MtR X id r) (ho : PE X o to) (ha : PA X (e :: es) t)
    (hbase : attributeBase o name X.env (eval o X.env) = eval o X.env := by rfl)
    (hfew : ((backTo cpos (starEach (e :: es) X.env)).all (fun x => !x.1) && (backToKw cpos (keywordEach [] X.env)).all (fun x => x.1.isSome)
      && decide ((e :: es).length + ([] : List Keyword).length + (if ([] : List Keyword).isEmpty then 0 else 1) < 30)) = true := by rfl)
    (hline : (apos.endLine == cpos.line) = true := by rfl) (hs : starEach (e :: es) X.env = (false, eval e X.env) :: starEach es X.env := by rfl) (hplain : (backTo cpos (starEach es X.env)).any (·.1) = false := by rfl) :
    PE X (.Call (.Attribute o name apos) (e :: es) [] cpos) (tBM K T r to t) := by subst h; exact pe_bm pa slot hty hm ho ha hbase hfew hline hs hplain
end
section
variable {K : PySem.W.Frag} {H : Hp} {Q : VK}
theorem r_lenK {a : Addr} {xs : List V} (h : H a = some (.lst xs)) (q : Q (.int xs.length) H) : rLen K [.ref a] H Q := ⟨a, xs, rfl, .inl (SqL.of h), q⟩
theorem r_listOf {a : Addr} {xs : List V} (h : H a = some (.lst xs)) (q : ∀ l, H l = none → Q (.ref l) (upd H l (.lst xs))) : rListOf K [.ref a] H Q := ⟨a, xs, rfl, .inl (SqL.of h), q⟩
theorem r_sortedI {a : Addr} {ns : List Int} (h : H a = some (.lst (ns.map V.int))) (q : ∀ (ns' : List Int) (p : Addr), ns'.Perm ns → ns'.Pairwise (· ≤ ·) → H p = none → Q (.ref p) (upd H p (.lst (ns'.map V.int)))) : rSortedI K [.ref a] H Q := ⟨a, ns, rfl, SqL.of h, q⟩
theorem r_sum {a : Addr} {ns : List Int} (h : H a = some (.lst (ns.map V.int))) (q : Q (.int ns.sum) H) : rSum K [.ref a] H Q := ⟨a, ns, rfl, SqL.of h, q⟩
end
end Lw
namespace Lw
end Lw
namespace Lw
open PySem PySem.Spec PyProof.Rows L2
end Lw
namespace Lw
open PySem PySem.Spec PyProof.Rows L2
section
variable {K : PySem.W.Frag} {σ : L2.St} {H : Hp} {Q : VK} {D : Ends}
theorem r_while {c : TT} {tb : TS} (Pv : Nat → L2.St → Hp → Prop) (h0 : ∃ m, Pv m σ H) (hs : ∀ m σ H, Pv m σ H → c σ H fun b H1 => if b = true then ∃ N : L2.St → Hp → Prop, (∀ σ' H', N σ' H' → ∃ m', m' < m ∧ Pv m' σ' H') ∧ tb { D with nx := N, ct := N, bk := D.nx } σ H1 else D.nx σ H1) : tWhile c tb D σ H := ⟨Pv, h0, hs⟩
end
end Lw
namespace Lw
open PySem PySem.Spec PyProof.Rows L2
section
variable {K : PySem.W.Frag} {σ : L2.St} {H : Hp} {D : Ends} {g : TG} {tb : TS}
theorem r_forE {a : Addr} {xs : List V} (hx : H a = some (.lst xs)) (Pv : Nat → L2.St → Hp → Prop) (h0 : Pv 0 σ H) (hl : ∀ i σ H, i ≤ xs.length → Pv i σ H → H a = some (.lst xs))
    (hs : ∀ i x σ H t, xs[i]? = some x → Pv i σ H → H t = none → g (.ref t) σ (upd H t (.tup [.int (i : Nat), x])) fun σ2 H2 => tb { D with nx := Pv (i + 1), ct := Pv (i + 1), bk := D.nx } σ2 H2) (hd : ∀ σ H, Pv xs.length σ H → D.nx σ H) :
    ∃ b ys, [V.ref a] = [.ref b] ∧ SqL K H b ys ∧ ∃ W : Nat → Nat → L2.St → Hp → Prop, (∃ m, W 0 m σ H) ∧ ∀ i m σ H, W i m σ H →
      ((Ite K b).stop i H ∧ D.nx σ H) ∨ ((Ite K b).go i H ∧ ∃ N : L2.St → Hp → Prop, (∀ σ' H', N σ' H' → ∃ m', m' < m ∧ W (i + 1) m' σ' H') ∧ ∀ x H', (Ite K b).yld i H x H' → g x σ H' fun σ2 H2 => tb { D with nx := N, ct := N, bk := D.nx } σ2 H2) := by
  refine ⟨a, xs, rfl, SqL.of hx, fun i m σ H => m = xs.length - i ∧ i ≤ xs.length ∧ Pv i σ H, ⟨xs.length, by simp, Nat.zero_le _, h0⟩, ?_⟩
  rintro i m σ H ⟨rfl, hi, p⟩
  have q := hl i σ H hi p
  by_cases hlt : i < xs.length
  · refine .inr ⟨⟨xs, xs[i], SqL.of q, by simp [hlt]⟩, Pv (i + 1), fun σ' H' p' => ⟨xs.length - (i + 1), by omega, rfl, hlt, p'⟩, fun x H' y => ?_⟩
    obtain ⟨t, x', rfl, nt, rfl, y⟩ := y
    exact hs i x' σ H t (y xs (SqL.of q)) p nt
  · have e : i = xs.length := by omega
    subst e
    exact .inl ⟨⟨xs, SqL.of q, Nat.le_refl _⟩, hd σ H p⟩
end
section
variable {S : Type} {F : S → Hp → Hp} {ok : S → Hp → Prop} (T : TopOk F ok) {σ : L2.St} {g : TG} {tt : TT} {te : TE} {vs : List Nat} {Q : Addr → Hp → Prop}
include T
theorem lcT_enum {K : PySem.W.Frag} {s0 : S} {B : Hp} (k : ok s0 B) {a : Addr} {xs : List V} (ha : B a = some (.lst xs)) (Pv : Nat → Hp → List V → Prop) (mono : ∀ i C C' acc, Same C C' → Pv i C acc → Pv i C' acc) (h0 : Pv 0 B [])
    (hs : ∀ D i x s C acc t, ok s (upd C D (.lst acc)) → C D = none → Same B C → xs[i]? = some x → C t = some (.tup [.int (i : Nat), x]) → Pv i C acc → g (.ref t) (wipe σ vs) (F s (upd C D (.lst acc))) fun σ2 H2 => wipe σ2 vs = wipe σ vs ∧ tt σ2 H2 fun b H3 =>
      if b = true then te σ2 H3 fun y H4 => ∃ acc', H4 D = some (.lst acc') ∧ acc'.length < sizeLine ∧ LcN F ok B D (Pv (i + 1)) (upd H4 D (.lst (acc' ++ [y]))) else LcN F ok B D (Pv (i + 1)) H3)
    (hd : ∀ D s C acc, ok s (upd C D (.lst acc)) → B D = none → C D = none → Same B C → Pv xs.length C acc → Q D (F s (upd C D (.lst acc)))) :
    ∃ b ys, [V.ref a] = [.ref b] ∧ SqL K (F s0 B) b ys ∧ ∀ D, (F s0 B) D = none → ∃ W : Nat → Nat → Hp → Prop, (∃ m, W 0 m (upd (F s0 B) D (.lst []))) ∧ ∀ i m H, W i m H →
      ((Ite K b).stop i H ∧ Q D H) ∨ ((Ite K b).go i H ∧ ∃ Nx : Hp → Prop, (∀ H', Nx H' → ∃ m', m' < m ∧ W (i + 1) m' H') ∧ ∀ x H', (Ite K b).yld i H x H' → g x (wipe σ vs) H' fun σ2 H2 => wipe σ2 vs = wipe σ vs ∧ tt σ2 H2 fun b H3 =>
        if b = true then te σ2 H3 fun y H4 => ∃ acc, H4 D = some (.lst acc) ∧ acc.length < sizeLine ∧ Nx (upd H4 D (.lst (acc ++ [y]))) else Nx H3) := by
  refine ⟨a, xs, rfl, SqL.of (T.get _ _ _ _ k ha), fun D hD => ?_⟩
  obtain ⟨hB, hn⟩ := T.new s0 B D k hD
  refine ⟨fun i m H => m = xs.length - i ∧ i ≤ xs.length ∧ LcN F ok B D (Pv i) H, ⟨xs.length, by simp, Nat.zero_le _, ?_⟩, ?_⟩
  · rw [(hn _).1]
    exact ⟨s0, B, [], rfl, (hn _).2, hB, Same.refl B, h0⟩
  · rintro i m H ⟨rfl, hi, s, C, acc, rfl, k', hD', hS, hp⟩
    have hA : SqL K (F s (upd C D (.lst acc))) a xs := SqL.of (T.get _ _ _ _ k' (upd_old hD' (hS _ _ ha)))
    by_cases hlt : i < xs.length
    · refine .inr ⟨⟨xs, xs[i], hA, by simp [hlt]⟩, fun H' => LcN F ok B D (Pv (i + 1)) H', fun H' p' => ⟨xs.length - (i + 1), by omega, rfl, hlt, p'⟩, fun x H' y => ?_⟩
      obtain ⟨t, x', rfl, nt, rfl, y⟩ := y
      obtain ⟨e, k2, hD2, n2, ne2⟩ := newTD_eq T k' hD' nt (.tup [.int (i : Nat), x'])
      rw [e]
      exact hs D i x' s _ acc t k2 hD2 (hS.trans (same_new n2)) (y xs hA) upd_same (mono _ _ _ _ (same_new n2) hp)
    · have e : i = xs.length := by omega
      subst e
      exact .inl ⟨⟨xs, hA, Nat.le_refl _⟩, hd D s C acc k' hB hD' hS hp⟩
end
theorem Rw.write {C : Hp} {as : List Addr} {rs : List (List Int)} (h : Rw C as rs) (hn : as.Nodup) {k : Nat} {b : Addr} (hb : as[k]? = some b) (r' : List Int) : Rw (upd C b (.lst (r'.map V.int))) as (rs.set k r') := by
  refine ⟨by rw [List.length_set, h.1], fun i c hc => ?_⟩
  by_cases e : k = i
  · subst e
    rw [hb] at hc
    cases hc
    have hk := (List.getElem?_eq_some_iff.mp hb).1
    exact ⟨r', List.getElem?_set_self (by rw [← h.1]; exact hk), upd_same⟩
  · obtain ⟨r, h1, h2⟩ := h.2 i c hc
    have hne : c ≠ b := fun q => by
      rw [q] at hc
      exact e (nd_ix hn hb hc)
    exact ⟨r, by rw [List.getElem?_set_ne e]; exact h1, by rw [upd_ne hne]; exact h2⟩
end Lw
namespace Lw
open PySem PySem.Spec PyProof.Rows L2
end Lw
namespace Lw
open PySem PySem.Spec PyProof.Rows L2
end Lw
namespace Lw
open PySem PySem.Spec PyProof.Rows L2
end Lw
namespace Lw
end Lw
namespace Lw
open PySem PySem.Spec PyProof.Rows L2
section
variable {K : PySem.W.Frag} {H : Hp} {Q : VK}
theorem r_cat {a b : Addr} {xs ys : List V} (h1 : H a = some (.lst xs)) (h2 : H b = some (.lst ys)) (hz : xs.length + ys.length ≤ 100000) (q : ∀ p, H p = none → Q (.ref p) (upd H p (.lst (xs ++ ys)))) : rCat (.ref a) (.ref b) H Q := ⟨a, b, xs, ys, rfl, rfl, h1, h2, Nat.le_of_lt (small hz), q⟩
end
end Lw
namespace Lw
open PySem PySem.Spec PyProof.Rows L2
def Ro {α : Type} (f : α → V) (C : Hp) (as : List Addr) (rs : List (List α)) : Prop := as.length = rs.length ∧ ∀ (i : Nat) (b : Addr), as[i]? = some b → ∃ r, rs[i]? = some r ∧ C b = some (.lst (r.map f))
section
variable {α : Type} {f : α → V}
theorem Ro.nil {C : Hp} : Ro f C [] [] := ⟨rfl, fun i b h => by simp at h⟩
theorem Ro.mono {C C' : Hp} {as : List Addr} {rs : List (List α)} (h : Ro f C as rs) (s : Same C C') : Ro f C' as rs :=
  ⟨h.1, fun i b e => by obtain ⟨r, h1, h2⟩ := h.2 i b e; exact ⟨r, h1, s _ _ h2⟩⟩
theorem Ro.push {C : Hp} {as : List Addr} {rs : List (List α)} {b : Addr} {r : List α} (h : Ro f C as rs) (e : C b = some (.lst (r.map f))) : Ro f C (as ++ [b]) (rs ++ [r]) := by
  refine ⟨by rw [List.length_append, List.length_append, h.1]; rfl, fun i c hc => ?_⟩
  by_cases hi : i < as.length
  · rw [List.getElem?_append_left hi] at hc
    obtain ⟨r', h1, h2⟩ := h.2 i c hc
    exact ⟨r', by rw [List.getElem?_append_left (by rw [← h.1]; exact hi)]; exact h1, h2⟩
  · rw [List.getElem?_append_right (by omega)] at hc
    have h0 : i - as.length = 0 := by
      have := (List.getElem?_eq_some_iff.mp hc).1
      rw [List.length_singleton] at this; omega
    rw [h0] at hc
    cases hc
    exact ⟨r, by rw [List.getElem?_append_right (by rw [← h.1]; omega), ← h.1, h0]; rfl, e⟩
theorem Ro.at {C : Hp} {as : List Addr} {rs : List (List α)} {i : Nat} {x : V} (h : Ro f C as rs) (e : (as.map V.ref)[i]? = some x) : ∃ b r, x = .ref b ∧ as[i]? = some b ∧ rs[i]? = some r ∧ C b = some (.lst (r.map f)) := by
  rw [List.getElem?_map] at e
  cases q : as[i]? with
  | none => rw [q] at e; cases e
  | some b =>
    rw [q] at e
    obtain ⟨r, h1, h2⟩ := h.2 i b q
    exact ⟨b, r, (Option.some.inj e).symm, rfl, h1, h2⟩
theorem Ro.get {C : Hp} {as : List Addr} {rs : List (List α)} {i : Nat} {r : List α} (h : Ro f C as rs) (e : rs[i]? = some r) : ∃ b, as[i]? = some b ∧ (as.map V.ref)[i]? = some (.ref b) ∧ C b = some (.lst (r.map f)) := by
  have hi : i < as.length := by rw [h.1]; exact (List.getElem?_eq_some_iff.mp e).1
  obtain ⟨r', h1, h2⟩ := h.2 i _ (List.getElem?_eq_getElem hi)
  rw [e] at h1; cases h1
  exact ⟨_, List.getElem?_eq_getElem hi, by rw [List.getElem?_map, List.getElem?_eq_getElem hi]; rfl, h2⟩
theorem Ro.write {C : Hp} {as : List Addr} {rs : List (List α)} (h : Ro f C as rs) (hn : as.Nodup) {k : Nat} {b : Addr} (hb : as[k]? = some b) (r' : List α) : Ro f (upd C b (.lst (r'.map f))) as (rs.set k r') := by
  refine ⟨by rw [List.length_set, h.1], fun i c hc => ?_⟩
  by_cases e : k = i
  · subst e
    rw [hb] at hc
    cases hc
    exact ⟨r', List.getElem?_set_self (by rw [← h.1]; exact (List.getElem?_eq_some_iff.mp hb).1), upd_same⟩
  · obtain ⟨r, h1, h2⟩ := h.2 i c hc
    refine ⟨r, by rw [List.getElem?_set_ne e]; exact h1, ?_⟩
    rw [upd_ne]
    · exact h2
    · intro z
      subst z
      obtain ⟨h3, e3⟩ := List.getElem?_eq_some_iff.mp hb
      obtain ⟨h4, e4⟩ := List.getElem?_eq_some_iff.mp hc
      exact e ((List.getElem_inj hn).mp (e3.trans e4.symm))
end
def Tp (C : Hp) (ts : List Addr) (qs : List (Int × Int)) : Prop := ts.length = qs.length ∧ ∀ (i : Nat) (b : Addr), ts[i]? = some b → ∃ q, qs[i]? = some q ∧ C b = some (.tup [.int q.1, .int q.2])
theorem Tp.nil {C : Hp} : Tp C [] [] := ⟨rfl, fun i b h => by simp at h⟩
theorem Tp.mono {C C' : Hp} {ts : List Addr} {qs : List (Int × Int)} (h : Tp C ts qs) (s : Same C C') : Tp C' ts qs :=
  ⟨h.1, fun i b e => by obtain ⟨r, h1, h2⟩ := h.2 i b e; exact ⟨r, h1, s _ _ h2⟩⟩
theorem Tp.push {C : Hp} {ts : List Addr} {qs : List (Int × Int)} {b : Addr} {q : Int × Int} (h : Tp C ts qs) (e : C b = some (.tup [.int q.1, .int q.2])) : Tp C (ts ++ [b]) (qs ++ [q]) := by
  refine ⟨by rw [List.length_append, List.length_append, h.1]; rfl, fun i c hc => ?_⟩
  by_cases hi : i < ts.length
  · rw [List.getElem?_append_left hi] at hc
    obtain ⟨r', h1, h2⟩ := h.2 i c hc
    exact ⟨r', by rw [List.getElem?_append_left (by rw [← h.1]; exact hi)]; exact h1, h2⟩
  · rw [List.getElem?_append_right (by omega)] at hc
    have h0 : i - ts.length = 0 := by
      have := (List.getElem?_eq_some_iff.mp hc).1
      rw [List.length_singleton] at this; omega
    rw [h0] at hc
    cases hc
    exact ⟨q, by rw [List.getElem?_append_right (by rw [← h.1]; omega), ← h.1, h0]; rfl, e⟩
theorem Tp.at {C : Hp} {ts : List Addr} {qs : List (Int × Int)} {i : Nat} {x : V} (h : Tp C ts qs) (e : (ts.map V.ref)[i]? = some x) : ∃ b q, x = .ref b ∧ ts[i]? = some b ∧ qs[i]? = some q ∧ C b = some (.tup [.int q.1, .int q.2]) := by
  rw [List.getElem?_map] at e
  cases q : ts[i]? with
  | none => rw [q] at e; cases e
  | some b =>
    rw [q] at e
    obtain ⟨r, h1, h2⟩ := h.2 i b q
    exact ⟨b, r, (Option.some.inj e).symm, rfl, h1, h2⟩
theorem Tp.keep {C C' : Hp} {ts : List Addr} {qs : List (Int × Int)} (h : Tp C ts qs) (s : ∀ t ∈ ts, C' t = C t) : Tp C' ts qs :=
  ⟨h.1, fun i b e => by obtain ⟨r, h1, h2⟩ := h.2 i b e; exact ⟨r, h1, by rw [s b (List.mem_of_getElem? e)]; exact h2⟩⟩
theorem Ro.keep {α : Type} {f : α → V} {C C' : Hp} {as : List Addr} {rs : List (List α)} (h : Ro f C as rs) (s : ∀ t ∈ as, C' t = C t) : Ro f C' as rs :=
  ⟨h.1, fun i b e => by obtain ⟨r, h1, h2⟩ := h.2 i b e; exact ⟨r, h1, by rw [s b (List.mem_of_getElem? e)]; exact h2⟩⟩
theorem fl_put {α : Type} {p : α → Bool} {r : List α} {i : Nat} {x : α} (hx : r[i]? = some x) (hp : p x = true) : (r.take (i + 1)).filter p = (r.take i).filter p ++ [x] := by
  rw [List.take_add_one, hx, List.filter_append]; simp [hp]
theorem fl_skip {α : Type} {p : α → Bool} {r : List α} {i : Nat} {x : α} (hx : r[i]? = some x) (hp : p x = false) : (r.take (i + 1)).filter p = (r.take i).filter p := by
  rw [List.take_add_one, hx, List.filter_append]; simp [hp]
section
variable {S : Type} {F : S → Hp → Hp} {ok : S → Hp → Prop} (T : TopOk F ok) {σ σ2 : L2.St} {g g1 : TG} {tt tt1 : TT} {te : TE} {vs vs1 : List Nat} {wi1 : TI} {Q : Addr → Hp → Prop}
def Lin (vs1 : List Nat) (g1 : TG) (tt1 : TT) (te : TE) (σ2 : L2.St) (D : Addr) (Nx : Hp → Prop) : It → Hp → Prop := fun J1 H4 => ∃ W1 : Nat → Nat → Hp → Prop, (∃ m, W1 0 m H4) ∧ ∀ j k H, W1 j k H →
  (J1.stop j H ∧ Nx H) ∨ (J1.go j H ∧ ∃ Nx1 : Hp → Prop, (∀ H', Nx1 H' → ∃ k', k' < k ∧ W1 (j + 1) k' H') ∧ ∀ x H', J1.yld j H x H' → g1 x (wipe σ2 vs1) H' fun σ3 H5 => wipe σ3 vs1 = wipe σ2 vs1 ∧ tt1 σ3 H5 fun b H6 =>
    if b = true then te σ3 H6 fun y H7 => ∃ acc, H7 D = some (.lst acc) ∧ acc.length < sizeLine ∧ Nx1 (upd H7 D (.lst (acc ++ [y]))) else Nx1 H6)
include T
end
section
variable {σ : L2.St} {H : Hp} {Q : VK}
theorem r_lc2 {wi : TI} {g : TG} {tt : TT} {wi1 : TI} {g1 : TG} {tt1 : TT} {te : TE} {vs vs1 : List Nat} (h : wi σ H fun J H1 => ∀ D, H1 D = none → ∃ W : Nat → Nat → Hp → Prop, (∃ m, W 0 m (upd H1 D (.lst []))) ∧ ∀ i m H, W i m H →
  (J.stop i H ∧ Q (.ref D) H) ∨ (J.go i H ∧ ∃ Nx : Hp → Prop, (∀ H', Nx H' → ∃ m', m' < m ∧ W (i + 1) m' H') ∧ ∀ x H', J.yld i H x H' → g x (wipe σ vs) H' fun σ2 H2 => wipe σ2 vs = wipe σ vs ∧ tt σ2 H2 fun b H3 =>
    if b = true then wi1 σ2 H3 fun J1 H4 => ∃ W1 : Nat → Nat → Hp → Prop, (∃ m, W1 0 m H4) ∧ ∀ j k H, W1 j k H →
      (J1.stop j H ∧ Nx H) ∨ (J1.go j H ∧ ∃ Nx1 : Hp → Prop, (∀ H', Nx1 H' → ∃ k', k' < k ∧ W1 (j + 1) k' H') ∧ ∀ x H', J1.yld j H x H' → g1 x (wipe σ2 vs1) H' fun σ3 H5 => wipe σ3 vs1 = wipe σ2 vs1 ∧ tt1 σ3 H5 fun b H6 =>
        if b = true then te σ3 H6 fun y H7 => ∃ acc, H7 D = some (.lst acc) ∧ acc.length < sizeLine ∧ Nx1 (upd H7 D (.lst (acc ++ [y]))) else Nx1 H6)
    else Nx H3)) : tLc2 wi g tt wi1 g1 tt1 te vs vs1 σ H Q := h
theorem r_rng2 {ta : TA} {R : It → Hp → Prop} (h : ta σ H fun vs H1 => ∃ i j : Int, vs = [.int i, .int j] ∧ (-(2 ^ 62) ≤ i ∧ i < 2 ^ 62 ∧ -(2 ^ 62) ≤ j ∧ j < 2 ^ 62) ∧ R (Itr i (j - i).toNat) H1) : iRng2 ta σ H R := h
theorem r_callN {n m : Nat} {sp : Sp} {gV : List V → List V → List V} {E : XK} {t tk : TA} (h : t σ H fun vs H1 => tk σ H1 fun zs H2 => vs.length = n ∧ zs.length = m ∧ sp (gV vs zs) H2 Q E) : tCallN n m sp gV E t tk σ H Q := h
theorem r_callD {sp : Sp} {ds : List V} {E : XK} {t : TA} (h : t σ H fun vs H1 => sp (vs ++ ds) H1 Q E) : tCall sp ds E t σ H Q := h
end
def pick (n : Nat) (f : Nat → Bool) : List Int := ((List.range n).filter f).map Int.ofNat
theorem pick_succ (n : Nat) (f : Nat → Bool) : pick (n + 1) f = pick n f ++ if f n then [(n : Int)] else [] := by
  unfold pick
  rw [List.range_succ, List.filter_append, List.map_append]
  congr 1
  rw [List.filter_cons]
  split <;> rfl
theorem pick_len (n : Nat) (f : Nat → Bool) : (pick n f).length ≤ n := by
  unfold pick
  rw [List.length_map]
  exact Nat.le_trans (List.length_filter_le _ _) (by rw [List.length_range]; exact Nat.le_refl _)
end Lw
namespace Lw
open PySem PySem.Spec PyProof.Rows L2
theorem cut_to (xs : List V) {c : Int} (h : 0 ≤ c) : cutV xs none (some c) = xs.take c.toNat := by
  obtain ⟨n, rfl⟩ : ∃ n : Nat, c = n := ⟨c.toNat, by omega⟩
  unfold cutV
  rw [HT.sIx_none, HT.sIx_nat, List.drop_zero, Nat.sub_zero, Int.toNat_natCast]
  by_cases hn : n ≤ xs.length
  · rw [Nat.min_eq_left hn]
  · rw [Nat.min_eq_right (by omega), List.take_length, List.take_of_length_le (by omega)]
theorem cut_from (xs : List V) {c : Int} (h : 0 ≤ c) : cutV xs (some c) none = xs.drop c.toNat := by
  obtain ⟨n, rfl⟩ : ∃ n : Nat, c = n := ⟨c.toNat, by omega⟩
  unfold cutV
  rw [HT.sIx_none, HT.sIx_nat, Int.toNat_natCast, List.take_of_length_le (by rw [List.length_drop]; omega)]
  by_cases hn : n ≤ xs.length
  · rw [Nat.min_eq_left hn]
  · rw [Nat.min_eq_right (by omega), List.drop_length, List.drop_of_length_le (by omega)]
section
variable {K : PySem.W.Frag} {σ : L2.St} {H : Hp} {Q : VK}
theorem r_sl {r : V → Option Int → Option Int → Hp → VK → Prop} {te : TE} {tl th : TO} (h : te σ H fun x H1 => tl σ H1 fun l H2 => th σ H2 fun u H3 => r x l u H3 Q) : L2.tSl r te tl th σ H Q := h
theorem r_noPart {q : Option Int → Hp → Prop} (h : q none H) : tNoPart σ H q := h
theorem r_part {t : TE} {q : Option Int → Hp → Prop} (h : t σ H fun x H1 => ∃ i, x = .int i ∧ q (some i) H1) : tPart t σ H q := h
theorem r_i1 {j : Int} {F : Int → Prop} (h : F j) : ∃ i, V.int j = .int i ∧ F i := ⟨j, rfl, h⟩
theorem r_slL {a : Addr} {xs : List V} {lo hi : Option Int} (h : H a = some (.lst xs)) (q : ∀ p, H p = none → Q (.ref p) (upd H p (.lst (cutV xs lo hi)))) : rSlL K (.ref a) lo hi H Q := ⟨a, xs, rfl, SqL.of h, q⟩
end
end Lw
namespace Lw
open PySem PySem.Spec PyProof.Rows L2
mutual
def pl : PyData → Bool
  | .none => true
  | .bool _ => false
  | .int _ => true
  | .str _ => true
  | .list xs => plAll xs
  | .tuple xs => plAll xs
  | .dict _ => false
def plAll : List PyData → Bool
  | [] => true
  | x :: r => pl x && plAll r
end
mutual
theorem eqv_iff : ∀ a b : PyData, pl a = true → pl b = true → (PyData.eqv a b = true ↔ a = b)
  | .none, b, _, hb => by cases b <;> simp [PyData.eqv]
  | .bool _, _, ha, _ => by simp [pl] at ha
  | .int i, b, _, hb => by cases b <;> simp [PyData.eqv, pl] at hb ⊢
  | .str s, b, _, hb => by cases b <;> simp [PyData.eqv, pl] at hb ⊢
  | .list xs, b, ha, hb => by
    cases b with
    | list ys =>
      rw [PyData.eqv, eqvAll_iff xs ys (by simpa [pl] using ha) (by simpa [pl] using hb)]
      exact ⟨fun h => by rw [h], fun h => by cases h; rfl⟩
    | _ => simp [PyData.eqv]
  | .tuple xs, b, ha, hb => by
    cases b with
    | tuple ys =>
      rw [PyData.eqv, eqvAll_iff xs ys (by simpa [pl] using ha) (by simpa [pl] using hb)]
      exact ⟨fun h => by rw [h], fun h => by cases h; rfl⟩
    | _ => simp [PyData.eqv]
  | .dict _, _, ha, _ => by simp [pl] at ha
theorem eqvAll_iff : ∀ a b : List PyData, plAll a = true → plAll b = true → (PyData.eqvAll a b = true ↔ a = b)
  | [], [], _, _ => by simp [PyData.eqvAll]
  | [], _ :: _, _, _ => by simp [PyData.eqvAll]
  | _ :: _, [], _, _ => by simp [PyData.eqvAll]
  | x :: xs, y :: ys, ha, hb => by
    simp only [plAll, Bool.and_eq_true] at ha hb
    rw [PyData.eqvAll, Bool.and_eq_true, eqv_iff x y ha.1 hb.1, eqvAll_iff xs ys ha.2 hb.2]
    exact ⟨fun h => by rw [h.1, h.2], fun h => by cases h; exact ⟨rfl, rfl⟩⟩
end
section
variable {K : PySem.W.Frag} {H H' : Hp}
mutual
theorem dp_mono (s : Same H H') : ∀ {v : V} {d : PyData}, Dp K H v d → Dp K H' v d
  | _, _, .non => .non
  | _, _, .bl b => .bl b
  | _, _, .int i => .int i
  | _, _, .str x => .str x
  | _, _, .lst h a => .lst (s.seq h) (dpAll_mono s a)
  | _, _, .tup h a => .tup (h.imp (fun h => h.imp (fun h => s _ _ h) (fun ⟨o, h⟩ => ⟨o, s _ _ h⟩)) id) (dpAll_mono s a)
theorem dpAll_mono (s : Same H H') : ∀ {vs : List V} {ds : List PyData}, DpAll K H vs ds → DpAll K H' vs ds
  | _, _, .nil => .nil
  | _, _, .cons h a => .cons (dp_mono s h) (dpAll_mono s a)
end
theorem dpAll_len : ∀ {vs : List V} {ds : List PyData}, DpAll K H vs ds → vs.length = ds.length
  | _, _, .nil => rfl
  | _, _, .cons _ a => congrArg Nat.succ (dpAll_len a)
theorem dpAll_at : ∀ {vs : List V} {ds : List PyData} {i : Nat} {v : V}, DpAll K H vs ds → vs[i]? = some v → ∃ d, ds[i]? = some d ∧ Dp K H v d
  | _, _, _, _, .nil, e => by simp at e
  | _, _, 0, _, .cons h a, e => by cases e; exact ⟨_, rfl, h⟩
  | _, _, i + 1, v, .cons h a, e => dpAll_at (i := i) (v := v) a (by simpa using e)
end
def dT (q : Int × Int) : PyData := .tuple [.int q.1, .int q.2]
end Lw
namespace Lw
open PySem PySem.Spec PyProof.Rows L2
def tkey (k : List Int) : List Key := k.map Sum.inl
end Lw
namespace Lw
open PySem PySem.Spec PyProof.Rows L2
section
variable {K : PySem.W.Frag} {σ : L2.St} {H : Hp} {Q : VK} {D : Ends}
theorem r_dget {td ty : TE} (h : td σ H fun x H1 => ty σ H1 fun y H2 => ∃ a v, x = .ref a ∧ DGet H2 a y (some v) ∧ Q v H2) : tDGet td ty σ H Q := h
theorem r_dput {td ty tv : TE} (h : tv σ H fun v H1 => td σ H1 fun x H2 => ty σ H2 fun y H3 => ∃ a H4, x = .ref a ∧ DPut H3 a y v H4 ∧ D.nx σ H4) : sDPut td ty tv D σ H := h
end
end Lw
namespace PySem
open Sem (wp)
section
variable {prog : Program} {w : World} {K : Type} [DecidableEq K] (knd : KeyKind prog w K)
def IsPairKey (h : Heap) (k : K × List K) (a : Addr) : Prop := ∃ o v b n, h.get? a = some o ∧ o.cls = .type "tuple" ∧ o.data = .seq #[v, .ref b] n ∧ knd.is k.1 v = true ∧ IsTupleKey knd h k.2 b
variable {knd}
theorem IsPairKey.typeIs {s : Shared} {k : K × List K} {a : Addr} (x : IsPairKey knd s.heap k a) : s.TypeIs (.ref a) "tuple" := let ⟨o, _, _, _, ho, hc, _⟩ := x; ⟨o, ho, hc⟩
theorem IsPairKey.inj {h : Heap} {a : Addr} {x y : K × List K} (hx : IsPairKey knd h x a) (hy : IsPairKey knd h y a) : x = y := by
  obtain ⟨o, v, b, n, ho, _, hd, h1, h2⟩ := hx
  obtain ⟨o', v', b', n', ho', _, hd', h1', h2'⟩ := hy
  obtain rfl : o = o' := Option.some.inj (ho.symm.trans ho')
  rw [hd] at hd'
  injection hd' with q _
  have q2 := congrArg Array.toList q
  simp only [List.cons.injEq, Value.ref.injEq, and_true] at q2
  obtain ⟨rfl, rfl⟩ := q2
  exact Prod.ext (knd.inj _ _ _ h1 h1') (h2.inj h2')
theorem IsPairKey.keeps {h h' : Heap} {k : K × List K} {a d : Addr} {o : Obj} {es ep} (x : IsPairKey knd h k a) (ho : h.get? d = some o) (hd : o.data = .dict es ep) (hs : Heap.SameBut d h h') : IsPairKey knd h' k a := by
  obtain ⟨o', v, b, n, ho', hc, hd', h1, h2⟩ := x
  have hne : a ≠ d := by
    rintro rfl
    obtain rfl : o' = o := Option.some.inj (ho'.symm.trans ho)
    rw [hd] at hd'; exact nomatch hd'
  exact ⟨o', v, b, n, (hs.2 a hne).trans ho', hc, hd', h1, h2.keeps ho hd hs⟩
def pairKeyHash (knd : KeyKind prog w K) (k : K × List K) : Int := reduceHash (Builtin.Tuple.tupleHashOf [knd.hash k.1, tupleKeyHash knd k.2])
variable {A : Around} {E : Value → Shared → Prop} {s : Shared}
theorem wpAny_pyHash_pair {k : K × List K} {a : Addr} {Q : Int → Shared → Prop} (hu : A.units + 1 < cLine) (hk : IsPairKey knd s.heap k a) (h : Q (pairKeyHash knd k) { s with toks := s.toks + (k.2.length + 3) }) :
    wpAny (model prog w) A (pyHash (.ref a)) Q E s := by
  have hT := hk.typeIs
  obtain ⟨o, v, b', n, ho, _, hd, h1, h2⟩ := hk
  unfold pyHash
  first | unfold pyHashByItsType | skip
  first | refine wpAny_bind (wpAny_cRoomFor_or (.inr (by omega)) ?_) | skip
  refine wpAny_bind (wpAny_specialOf hT F.slot_tuple_hash.lookup ?_)
  show wpAny _ _ (if (some (Value.builtin "tuple.__hash__") == some Value.none) = true then _ else _) Q E s
  rw [if_neg (by rw [beq_builtin_none]; exact Bool.false_ne_true)]
  refine wpAny_bind (wpAny_specialOf hT F.slot_tuple_hash.lookup ?_)
  show wpAny _ _ (callSpecialIfBoundUnlessNone? (.ref a) "__hash__" _ >>= _) Q E s
  refine wpAny_bind (wpAny_callSpecialIfBoundUnlessNone?_slot hT F.slot_tuple_hash (wpAny_call_entry F.slot_tuple_hash hT F.entry_tuple_hash ?_ (F.args_tuple_hash_1 _)))
  show wpAny _ _ (Builtin.Tuple.tupleItemsOf (.ref a) >>= _) _ _ s
  refine wpAny_bind (wpAny_tupleItemsOf ho hd ?_)
  refine wpAny_bind ?_
  rw [← Array.forIn_toList]
  refine wpAny_forIn_list _
    (fun rest (b : Array Int) s' => (rest = [v, .ref b'] ∧ b.toList = [] ∧ s' = s) ∨ (rest = [.ref b'] ∧ b.toList = [knd.hash k.1] ∧ s' = { s with toks := s.toks + 1 }) ∨
      (rest = [] ∧ b.toList = [knd.hash k.1, tupleKeyHash knd k.2] ∧ s' = { s with toks := s.toks + (k.2.length + 2) }))
    _ ?_ ?_ _ _ (.inl ⟨rfl, rfl, rfl⟩)
  · rintro x rest b s' (⟨hr, hb, rfl⟩ | ⟨hr, hb, rfl⟩ | ⟨hr, _, _⟩)
    · obtain ⟨rfl, rfl⟩ := List.cons.inj hr
      refine wpAny_bind (knd.pyHash h1 ?_)
      first
        | exact wpAny_pure (.inr (.inl ⟨rfl, by simp [hb], rfl⟩))
        | exact wpAny_bind (wpAny_pure (wpAny_pure (.inr (.inl ⟨rfl, by simp [hb], rfl⟩))))
    · obtain ⟨rfl, rfl⟩ := List.cons.inj hr
      refine wpAny_bind (wpAny_pyHash_tuple (s := { s with toks := s.toks + 1 }) ?_ h2 ?_)
      · exact hu
      · first
          | exact wpAny_pure (.inr (.inr ⟨rfl, by simp [hb], by simp; omega⟩))
          | exact wpAny_bind (wpAny_pure (wpAny_pure (.inr (.inr ⟨rfl, by simp [hb], by simp; omega⟩))))
    · cases hr
  · rintro b s' (⟨hr, _⟩ | ⟨hr, _⟩ | ⟨_, hb, rfl⟩)
    · cases hr
    · cases hr
    · show wpAny _ _ (retInt (Builtin.Tuple.tupleHashOf b.toList)) _ _ _
      rw [hb]
      refine wpAny_ret_mkInt ?_
      show wpAny _ _ (if (decide (-(2 : Int) ^ 63 ≤ Builtin.Tuple.tupleHashOf [knd.hash k.1, tupleKeyHash knd k.2]) && decide (Builtin.Tuple.tupleHashOf [knd.hash k.1, tupleKeyHash knd k.2] < 2 ^ 63)) = true then _ else _) Q E _
      unfold pairKeyHash reduceHash at h
      by_cases hr : (decide (-(2 : Int) ^ 63 ≤ Builtin.Tuple.tupleHashOf [knd.hash k.1, tupleKeyHash knd k.2]) && decide (Builtin.Tuple.tupleHashOf [knd.hash k.1, tupleKeyHash knd k.2] < 2 ^ 63)) = true
      · rw [if_pos hr]
        rw [if_pos hr] at h
        exact wpAny_pure (by simpa [Nat.add_assoc] using h)
      · rw [if_neg hr]
        rw [if_neg hr] at h
        exact wpAny_bind (wpAny_rule (wpAny_pure (by simpa [Nat.add_assoc] using h)))
theorem wpAny_eqIsQuiet_tup {ks : List K} {a : Addr} {m : Nat} {Q : Bool → Shared → Prop} (hk : IsTupleKey knd s.heap ks a) (h : Q true s) : wpAny (model prog w) A (eqIsQuiet (m + 1) (.ref a)) Q E s := by
  have hT := hk.typeIs
  obtain ⟨o, items, n, ho, _, hd, hi⟩ := hk
  unfold eqIsQuiet
  refine wpAny_bind (wpAny_specialOf hT F.slot_tuple_eq.lookup ?_)
  show wpAny _ _ (isInstance (.ref a) (.type "tuple") >>= _) _ _ s
  refine wpAny_bind (wpAny_isInstance hT isSubtype_tuple_tuple ?_)
  simp only [Bool.not_true, Bool.false_eq_true, if_false]
  refine wpAny_bind (wpAny_seqItems ho hd ?_)
  refine wpAny_bind ?_
  show wpAny _ _ (forIn items _ _) _ _ s
  rw [← Array.forIn_toList]
  refine wpAny_forIn_list _ (fun rest r s' => r.1 = none ∧ s' = s ∧ ∀ v ∈ rest, carriedByValue v = true) _ ?_ ?_ _ _ ⟨rfl, rfl, hi.byValue⟩
  · rintro v rest r s' ⟨hr, rfl, hall⟩
    rw [eqIsQuiet_byValue _ (hall v List.mem_cons_self)]
    refine wpAny_bind (wpAny_pure ?_)
    simp only [Bool.not_true, Bool.false_eq_true, if_false]
    exact wpAny_pure ⟨rfl, rfl, fun u hu' => hall u (List.mem_cons_of_mem _ hu')⟩
  · rintro ⟨r1, r2⟩ s' ⟨hr, rfl, _⟩
    simp only at hr
    subst hr
    exact wpAny_pure h
theorem wpAny_eqIsQuiet_pair {k : K × List K} {a : Addr} {Q : Bool → Shared → Prop} (hk : IsPairKey knd s.heap k a) (h : Q true s) : wpAny (model prog w) A (eqIsQuiet 8 (.ref a)) Q E s := by
  have hT := hk.typeIs
  obtain ⟨o, v, b', n, ho, _, hd, h1, h2⟩ := hk
  unfold eqIsQuiet
  refine wpAny_bind (wpAny_specialOf hT F.slot_tuple_eq.lookup ?_)
  show wpAny _ _ (isInstance (.ref a) (.type "tuple") >>= _) _ _ s
  refine wpAny_bind (wpAny_isInstance hT isSubtype_tuple_tuple ?_)
  simp only [Bool.not_true, Bool.false_eq_true, if_false]
  refine wpAny_bind (wpAny_seqItems ho hd ?_)
  refine wpAny_bind ?_
  show wpAny _ _ (forIn #[v, Value.ref b'] _ _) _ _ s
  rw [← Array.forIn_toList]
  refine wpAny_forIn_list _ (fun rest r s' => r.1 = none ∧ s' = s ∧ ∀ u ∈ rest, u = v ∨ u = .ref b') _ ?_ ?_ _ _ ⟨rfl, rfl, fun u hu => by simpa using hu⟩
  · rintro u rest r s' ⟨hr, rfl, hall⟩
    have hnext : ∀ u ∈ rest, u = v ∨ u = .ref b' := fun u hu' => hall u (List.mem_cons_of_mem _ hu')
    rcases hall u List.mem_cons_self with e | e
    · subst e
      rw [eqIsQuiet_byValue _ (knd.byValue _ _ h1)]
      refine wpAny_bind (wpAny_pure ?_)
      simp only [Bool.not_true, Bool.false_eq_true, if_false]
      exact wpAny_pure ⟨rfl, rfl, hnext⟩
    · subst e
      refine wpAny_bind (wpAny_eqIsQuiet_tup (m := 6) h2 ?_)
      simp only [Bool.not_true, Bool.false_eq_true, if_false]
      exact wpAny_pure ⟨rfl, rfl, hnext⟩
  · rintro ⟨r1, r2⟩ s' ⟨hr, rfl, _⟩
    simp only at hr
    subst hr
    exact wpAny_pure h
theorem pair_eq_tree {x y : K × List K} {a b : Addr} {P : Fin → Shared → Prop} (hu : A.units < cLine) (hx : IsPairKey knd s.heap x a) (hy : IsPairKey knd s.heap y b) (h : P (.done (.ret (.bool (decide (x = y))))) s) :
    wpAny (model prog w) A (Builtin.«tuple.__eq__» ⟨[.ref a, .ref b], []⟩) P E s := by
  have hTb := hy.typeIs
  obtain ⟨oa, va, ba, na, hoa, _, hda, hia, hja⟩ := hx
  obtain ⟨ob, vb, bb, nb, hob, _, hdb, hib, hjb⟩ := hy
  show wpAny _ _ (isInstance (.ref b) (.type "tuple") >>= _) _ _ s
  refine wpAny_bind (wpAny_isInstance hTb isSubtype_tuple_tuple ?_)
  simp only [Bool.not_true, Bool.false_eq_true, if_false]
  refine wpAny_bind (wpAny_tupleItemsOf hoa hda ?_)
  refine wpAny_bind (wpAny_tupleItemsOf hob hdb ?_)
  refine wpAny_bind ?_
  refine wpAny_forIn_list _
    (fun rest r s' => r.1 = none ∧ s' = s ∧ ((rest = [(va, vb), (.ref ba, .ref bb)]) ∨ (rest = [(.ref ba, .ref bb)] ∧ x.1 = y.1) ∨ (rest = [] ∧ x.1 = y.1 ∧ x.2 = y.2)))
    _ ?_ ?_ _ _ ⟨rfl, rfl, .inl rfl⟩
  · rintro ⟨u, v⟩ rest r s' ⟨hr, rfl, (hz | ⟨hz, e1⟩ | ⟨hz, _⟩)⟩
    · obtain ⟨e, rfl⟩ := List.cons.inj hz
      obtain ⟨rfl, rfl⟩ := Prod.mk.inj e
      refine wpAny_bind (knd.eqBool (a := x.1) (b := y.1) hia hib ?_)
      by_cases hk : x.1 = y.1
      · rw [decide_eq_true hk]
        simp only [Bool.not_true, Bool.false_eq_true, if_false]
        exact wpAny_pure ⟨by first | trivial | rfl, by first | trivial | rfl, .inr (.inl ⟨by first | trivial | rfl, hk⟩)⟩
      · rw [decide_eq_false hk]
        simp only [Bool.not_false, if_true]
        have hf : decide (x = y) = false := by simp [Prod.ext_iff, hk]
        rw [hf] at h
        exact wpAny_bind (wpAny_pure (wpAny_pure (wpAny_pure h)))
    · obtain ⟨e, rfl⟩ := List.cons.inj hz
      obtain ⟨rfl, rfl⟩ := Prod.mk.inj e
      refine wpAny_bind (wpAny_eqBool_tuple hu hja hjb ?_)
      by_cases hk : x.2 = y.2
      · rw [decide_eq_true hk]
        simp only [Bool.not_true, Bool.false_eq_true, if_false]
        exact wpAny_pure ⟨by first | trivial | rfl, by first | trivial | rfl, .inr (.inr ⟨by first | trivial | rfl, e1, hk⟩)⟩
      · rw [decide_eq_false hk]
        simp only [Bool.not_false, if_true]
        have hf : decide (x = y) = false := by simp [Prod.ext_iff, hk]
        rw [hf] at h
        exact wpAny_bind (wpAny_pure (wpAny_pure (wpAny_pure h)))
    · cases hz
  · rintro ⟨r1, r2⟩ s' ⟨hr, rfl, (hz | ⟨hz, _⟩ | ⟨_, e1, e2⟩)⟩
    · cases hz
    · cases hz
    · simp only at hr
      subst hr
      refine wpAny_pure ?_
      have hfin : decide (x = y) = true := decide_eq_true (Prod.ext e1 e2)
      rw [hfin] at h
      exact h
theorem wpAny_eqBool_pair {x y : K × List K} {a b : Addr} {Q : Bool → Shared → Prop} (hu : A.units + 1 < cLine) (hx : IsPairKey knd s.heap x a) (hy : IsPairKey knd s.heap y b) (h : Q (decide (x = y)) s) :
    wpAny (model prog w) A (eqBool (.ref a) (.ref b)) Q E s := by
  unfold eqBool
  try with_reducible refine wpAny_holding ?_
  show wpAny _ _ (if (Value.ref a == Value.ref b) = true then _ else _) Q E s
  by_cases hab : (Value.ref a == Value.ref b) = true
  · rw [if_pos hab]
    have e : a = b := by have := eq_of_beq hab; injection this
    subst e
    obtain rfl := hx.inj hy
    exact wpAny_bind (wpAny_rule (wpAny_pure (by simpa using h)))
  · rw [if_neg hab]
    exact wpAny_bind (wpAny_richCompare_same_room (op := .Eq) hx.typeIs hy.typeIs F.slot_tuple_eq
      (wpAny_call_entry F.slot_tuple_eq hx.typeIs F.entry_tuple_eq (pair_eq_tree (by first | exact hu | (show _ < _; omega)) hx hy ⟨_, rfl, (fun e => nomatch e), wpAny_truthy_bool h⟩) (F.args_tuple_eq_2 _ _)) (by omega))
end
def pairKind {prog : Program} {w : World} {K : Type} [DecidableEq K] (knd : KeyKind prog w K) : HeapKind prog w (K × List K) where
  is := IsPairKey knd
  hash := pairKeyHash knd
  draws := fun k => k.2.length + 3
  room := fun A => A.units + 1 < cLine
  inj := fun hx hy => hx.inj hy
  keeps := fun x ho hd hs => x.keeps ho hd hs
  pyHash := fun hu hk h => wpAny_pyHash_pair hu hk h
  eqBool := fun hu hx hy h => wpAny_eqBool_pair hu hx hy h
  quiet := fun hk h => wpAny_eqIsQuiet_pair hk h
end PySem
namespace L2
open PySem PySem.Spec PyProof.Rows
abbrev PKey := Key × List Key
/-- the dict at d, its entries told -/
def NdO (P : Program) (w : World) (d : Addr) (xs : List (PKey × Addr × Value)) : HO := .ext fun h => (d == sysModules) = false ∧ xs.length ≤ sizeLine ∧ ∃ o es ep, h.get? d = some o ∧ o.ExactDict ∧ o.data = .dict es ep ∧ es.toList = xs.map (entryOfKey (pairKind (mixKind P w))) ∧ (xs.map (·.1)).Nodup
abbrev KN (H : Hp) : List (PKey × V) → List (PKey × Addr × Value) → Prop := Paired fun p q => p.1 = q.1 ∧ (∃ b, H q.2.1 = some (.tup [kV p.1.1, .ref b]) ∧ H b = some (.tup (p.1.2.map kV))) ∧ RelV p.2 q.2.2
theorem KN.val {H : Hp} {kvs : List (PKey × V)} {xs : List (PKey × Addr × Value)} (r : KN H kvs xs) (k : PKey) : RelO (valV kvs k) ((atKey xs k).map (·.2)) := by
  induction r with
  | nil => exact True.intro
  | @cons p q ps qs h t ih =>
    obtain ⟨k1, v⟩ := p
    obtain ⟨k2, b, u⟩ := q
    obtain ⟨e, _, rv⟩ := h
    cases (show k1 = k2 from e)
    by_cases hk : k1 = k
    · subst hk; simpa [valV, atKey, List.find?_cons, RelO] using rv
    · have e1 : valV ((k1, v) :: ps) k = valV ps k := by simp [valV, List.find?_cons, hk]
      have e2 : (atKey ((k1, b, u) :: qs) k).map (·.2) = (atKey qs k).map (·.2) := by simp [atKey, List.find?_cons, hk]
      rw [e1, e2]; exact ih
theorem KN.repl {H : Hp} {kvs : List (PKey × V)} {xs : List (PKey × Addr × Value)} (r : KN H kvs xs) (k : PKey) {y : V} {u : Value} (ry : RelV y u) :
    KN H (kvs.map fun kv => if kv.1 = k then (kv.1, y) else kv) (xs.map (putAt k u)) := by
  induction r with
  | nil => exact .nil
  | @cons p q ps qs h t ih =>
    obtain ⟨k1, v⟩ := p
    obtain ⟨k2, b, u0⟩ := q
    obtain ⟨e, hb, rv⟩ := h
    cases (show k1 = k2 from e)
    by_cases hk : k1 = k
    · simp only [List.map_cons, putAt, hk, if_true]
      exact .cons ⟨rfl, by subst hk; exact hb, ry⟩ ih
    · simp only [List.map_cons, putAt, hk, if_false]
      exact .cons ⟨rfl, hb, rv⟩ ih
theorem KN.snoc {H : Hp} : ∀ {kvs : List (PKey × V)} {xs : List (PKey × Addr × Value)}, KN H kvs xs → ∀ {p : PKey × V} {q : PKey × Addr × Value}, (p.1 = q.1 ∧ (∃ b, H q.2.1 = some (.tup [kV p.1.1, .ref b]) ∧ H b = some (.tup (p.1.2.map kV))) ∧ RelV p.2 q.2.2) → KN H (kvs ++ [p]) (xs ++ [q])
  | _, _, .nil, _, _, h => .cons h .nil
  | _, _, .cons r t, _, _, h => .cons r (KN.snoc t h)
theorem KN.put {H : Hp} {kvs : List (PKey × V)} {xs : List (PKey × Addr × Value)} (r : KN H kvs xs) (k : PKey) {a b : Addr} {y : V} {u : Value} (ha : H a = some (.tup [kV k.1, .ref b])) (hb : H b = some (.tup (k.2.map kV))) (ry : RelV y u) :
    KN H (putK kvs k y) (storedH xs k a u) := by
  have hv := r.val k
  have hs := hv.isSome_eq
  rw [Option.isSome_map] at hs
  unfold putK storedH
  rw [valV_any, hs]
  by_cases q : (atKey xs k).isSome = true
  · rw [if_pos q, if_pos q]; exact r.repl k ry
  · rw [if_neg q, if_neg q]
    exact r.snoc ⟨rfl, ⟨b, ha, hb⟩, ry⟩
theorem KN.keeps {H H' : Hp} {kvs : List (PKey × V)} {xs : List (PKey × Addr × Value)} (r : KN H kvs xs) (ht : ∀ b ys, H b = some (.tup ys) → H' b = some (.tup ys)) : KN H' kvs xs :=
  Paired.mapP r fun p q z => ⟨z.1, let ⟨b, h1, h2⟩ := z.2.1; ⟨b, ht _ _ h1, ht _ _ h2⟩, z.2.2⟩
/-- the dict at d holds these pairs -/
def Nd (P : Program) (w : World) (H : Hp) (d : Addr) (kvs : List (PKey × V)) : Prop := ∃ xs, H d = some (NdO P w d xs) ∧ KN H kvs xs
theorem Nd.keep {P : Program} {w : World} {H H' : Hp} {d : Addr} {kvs : List (PKey × V)} (n : Nd P w H d kvs) (hd : H' d = H d) (ht : ∀ b ys, H b = some (.tup ys) → H' b = some (.tup ys)) : Nd P w H' d kvs :=
  let ⟨xs, h1, h2⟩ := n; ⟨xs, hd.trans h1, h2.keeps ht⟩
end L2
namespace Lm
/-- places in order, each once, below n: at most n of them -/
theorem nodup_le {n : Nat} : ∀ {l : List Nat}, l.Nodup → (∀ x ∈ l, x < n) → l.length ≤ n := by
  induction n with
  | zero =>
    intro l _ h
    match l, h with
    | [], _ => exact Nat.le_refl _
    | x :: _, h => exact absurd (h x List.mem_cons_self) (Nat.not_lt_zero _)
  | succ n ih =>
    intro l hn h
    have h1 : (l.erase n).length ≤ n := ih (hn.erase n) fun x hx => by
      have h2 := (List.Nodup.mem_erase_iff hn).mp hx
      have := h x h2.2
      have h3 := h2.1
      omega
    have h2 : l.length ≤ (l.erase n).length + 1 := by
      by_cases hm : n ∈ l
      · rw [List.length_erase_of_mem hm]; omega
      · rw [List.erase_of_not_mem hm]; omega
    omega
variable (E : Nat → Nat → Prop)
/-- by one step or more -/
inductive Tc : Nat → Nat → Prop
  | one {a b : Nat} : E a b → Tc a b
  | more {a b c : Nat} : Tc a b → E b c → Tc a c
/-- by any number of steps -/
def Rc (a b : Nat) : Prop := a = b ∨ Tc E a b
variable {E}
theorem Tc.trans {a b c : Nat} (h : Tc E a b) (h2 : Tc E b c) : Tc E a c := by
  induction h2 with
  | one e => exact .more h e
  | more _ e ih => exact .more ih e
theorem Rc.step {a b c : Nat} (h : Rc E a b) (e : E b c) : Rc E a c := by
  rcases h with rfl | h
  · exact .inr (.one e)
  · exact .inr (.more h e)
/-- what is closed and holds the start holds all that is reached -/
theorem Rc.closed {P : Nat → Prop} {a b : Nat} (h : Rc E a b) (ha : P a) (hc : ∀ x y, P x → E x y → P y) : P b := by
  rcases h with rfl | h
  · exact ha
  · induction h with
    | one e => exact hc _ _ ha e
    | more _ e ih => exact hc _ _ ih e
/-- a path whose inner places are below k -/
inductive Via (E : Nat → Nat → Prop) (k : Nat) : Nat → Nat → Prop
  | one {a b : Nat} : E a b → Via E k a b
  | more {a b c : Nat} : Via E k a b → b < k → E b c → Via E k a c
theorem Via.mono {k l a b : Nat} (h : Via E k a b) (hl : k ≤ l) : Via E l a b := by
  induction h with
  | one e => exact .one e
  | more _ h e ih => exact .more ih (Nat.lt_of_lt_of_le h hl) e
theorem Via.of {n a b : Nat} (hn : ∀ a b, E a b → b < n) (h : Tc E a b) : Via E n a b := by
  induction h with
  | one e => exact .one e
  | @more b c h e ih =>
    refine .more ih ?_ e
    cases h with
    | one e' => exact hn _ _ e'
    | more _ e' => exact hn _ _ e'
theorem Via.app {k a b c : Nat} (h : Via E k a b) (hb : b < k) (h2 : Via E k b c) : Via E k a c := by
  induction h2 with
  | one e => exact .more h hb e
  | more _ hk e ih => exact .more ih hk e
/-- a path by places below k + 1 is one below k, or goes by k -/
theorem Via.split {k a c : Nat} (h : Via E (k + 1) a c) : Via E k a c ∨ (Via E k a k ∧ Via E k k c) := by
  induction h with
  | one e => exact .inl (.one e)
  | @more b c h hb e ih =>
    by_cases hk : b = k
    · subst hk
      refine .inr ⟨?_, .one e⟩
      rcases ih with q | q
      · exact q
      · exact q.1
    · rcases ih with q | q
      · exact .inl (.more q (by omega) e)
      · exact .inr ⟨q.1, .more q.2 (by omega) e⟩
end Lm
namespace Lm
/-- place b stands in the row of place a -/
def Ed (rs : List (List Int)) (a b : Nat) : Prop := ∃ r, rs[a]? = some r ∧ (b : Int) ∈ r
/-- every place in a row is one of the rows' own -/
def In (rs : List (List Int)) : Prop := ∀ r ∈ rs, ∀ e ∈ r, 0 ≤ e ∧ e < (rs.length : Int)
theorem In.lt {rs : List (List Int)} (h : In rs) {a b : Nat} (e : Ed rs a b) : b < rs.length := by
  obtain ⟨r, hr, hb⟩ := e
  have := (h r (List.mem_of_getElem? hr) _ hb).2
  omega
structure Ds (rs : List (List Int)) (p : Nat) (bs : List Bool) (ws : List Int) (X : Nat → Prop) : Prop where
  len : bs.length = rs.length
  start : bs[p]? = some true
  reach : ∀ i : Nat, bs[i]? = some true → Rc (Ed rs) p i
  wait : ∀ w ∈ ws, 0 ≤ w ∧ w < (rs.length : Int) ∧ bs[w.toNat]? = some true
  closed : ∀ i : Nat, bs[i]? = some true → (i : Int) ∈ ws ∨ X i ∨ ∀ c, Ed rs i c → bs[c]? = some true
section
variable {rs : List (List Int)} {p : Nat} {bs : List Bool} {ws : List Int} {X : Nat → Prop}
theorem Ds.init {n : Nat} (hn : rs.length = n) (hp : p < n) : Ds rs p ((List.replicate n false).set p true) [(p : Int)] (fun _ => False) := by
  refine ⟨by rw [List.length_set, List.length_replicate, hn], ?_, fun i hi => ?_, fun w hw => ?_, fun i hi => ?_⟩
  · rw [List.getElem?_set_self (by rw [List.length_replicate]; exact hp)]
  · by_cases e : p = i
    · exact .inl e
    · rw [List.getElem?_set_ne e, List.getElem?_replicate] at hi
      split at hi <;> cases hi
  · rw [List.mem_singleton.mp hw]
    refine ⟨by omega, by omega, ?_⟩
    rw [Int.toNat_natCast, List.getElem?_set_self (by rw [List.length_replicate]; exact hp)]
  · by_cases e : p = i
    · exact .inl (by rw [e]; exact List.mem_singleton.mpr rfl)
    · rw [List.getElem?_set_ne e, List.getElem?_replicate] at hi
      split at hi <;> cases hi
theorem Ds.mark {cur h : Nat} (d : Ds rs p bs ws X) (hc : bs[cur]? = some true) (e : Ed rs cur h) (hi : h < rs.length) : Ds rs p (bs.set h true) (ws ++ [(h : Int)]) X := by
  have hl : h < bs.length := by rw [d.len]; exact hi
  have keep : ∀ i : Nat, bs[i]? = some true → (bs.set h true)[i]? = some true := fun i q => by
    by_cases z : h = i
    · rw [← z, List.getElem?_set_self hl]
    · rw [List.getElem?_set_ne z]; exact q
  refine ⟨by rw [List.length_set]; exact d.len, keep _ d.start, fun i q => ?_, fun w hw => ?_, fun i q => ?_⟩
  · by_cases z : h = i
    · rw [← z]; exact (d.reach cur hc).step e
    · rw [List.getElem?_set_ne z] at q; exact d.reach i q
  · rcases List.mem_append.mp hw with z | z
    · exact ⟨(d.wait w z).1, (d.wait w z).2.1, keep _ (d.wait w z).2.2⟩
    · rw [List.mem_singleton.mp z]
      exact ⟨by omega, by omega, by rw [Int.toNat_natCast, List.getElem?_set_self hl]⟩
  · by_cases z : h = i
    · exact .inl (by rw [← z]; exact List.mem_append_right _ (List.mem_singleton.mpr rfl))
    · rw [List.getElem?_set_ne z] at q
      rcases d.closed i q with y | y | y
      · exact .inl (List.mem_append_left _ y)
      · exact .inr (.inl y)
      · exact .inr (.inr fun c hc => keep c (y c hc))
theorem Ds.done {cur : Nat} (d : Ds rs p bs ws (fun i => i = cur)) (h : ∀ c, Ed rs cur c → bs[c]? = some true) : Ds rs p bs ws (fun _ => False) :=
  ⟨d.len, d.start, d.reach, d.wait, fun i hi => by
    rcases d.closed i hi with q | q | q
    · exact .inl q
    · exact .inr (.inr (by rw [q]; exact h))
    · exact .inr (.inr q)⟩
end
/-- how many of a row's places are not among those -/
def miss (S : List Int) (r : List Int) : Nat := r.countP fun h => decide (h ∉ S)
theorem miss_zero {S r : List Int} : miss S r = 0 ↔ ∀ h ∈ r, h ∈ S := by
  unfold miss
  rw [List.countP_eq_zero]
  constructor
  · intro q h hr
    have := q h hr
    simpa using this
  · intro q h hr
    have := q h hr
    simpa using this
theorem miss_push {S r : List Int} {l : Int} (hl : l ∉ S) : miss S r = miss (S ++ [l]) r + r.count l := by
  unfold miss
  induction r with
  | nil => rfl
  | cons a r ih =>
    rw [List.countP_cons, List.countP_cons, List.count_cons, ih]
    by_cases e : a = l
    · subst e
      simp [hl]; omega
    · by_cases h : a ∈ S
      · simp [h, e]
      · simp [h, e]; omega
theorem miss_nil {r : List Int} : miss [] r = r.length := by
  unfold miss
  rw [List.countP_eq_length.mpr]
  intro a _
  simp
end Lm
namespace Lm
theorem nat_list {ss : List Int} {n : Nat} (hn : ss.Nodup) (h : ∀ s ∈ ss, 0 ≤ s ∧ s < (n : Int)) : (ss.map Int.toNat).Nodup ∧ ∀ x ∈ ss.map Int.toNat, x < n := by
  constructor
  · rw [List.Nodup, List.pairwise_map]
    refine List.Pairwise.imp_of_mem (fun {a b} ha hb hab e => ?_) hn
    have := h a ha
    have := h b hb
    exact hab (by omega)
  · intro x hx
    obtain ⟨s, hs, rfl⟩ := List.mem_map.mp hx
    have := h s hs
    omega
theorem at_inj {α : Type} {l : List α} (hn : l.Nodup) {i j : Nat} {x : α} (hi : l[i]? = some x) (hj : l[j]? = some x) : i = j := by
  obtain ⟨h1, e1⟩ := List.getElem?_eq_some_iff.mp hi
  obtain ⟨h2, e2⟩ := List.getElem?_eq_some_iff.mp hj
  exact (List.getElem_inj hn).mp (e1.trans e2.symm)
/-- who holds whom -/
def Hd (rs hs : List (List Int)) : Prop := hs.length = rs.length ∧ (∀ l ∈ hs, ∀ e ∈ l, 0 ≤ e ∧ e < (rs.length : Int)) ∧
  ∀ (l p : Nat) hl r, hs[l]? = some hl → rs[p]? = some r → hl.count (p : Int) = r.count (l : Int)
structure Kn (rs : List (List Int)) (ms ss : List Int) (q : Nat) : Prop where
  nd : ss.Nodup
  rng : ∀ s ∈ ss, 0 ≤ s ∧ s < (rs.length : Int)
  le : q ≤ ss.length
  len : ms.length = rs.length
  val : ∀ (p : Nat) r, rs[p]? = some r → ms[p]? = some ((miss (ss.take q) r : Nat) : Int)
  zero : ∀ (p : Nat) r, rs[p]? = some r → ((p : Int) ∈ ss ↔ miss (ss.take q) r = 0)
  ord : ∀ (i : Nat) s r, ss[i]? = some s → rs[s.toNat]? = some r → ∀ h ∈ r, ∃ j, j < i ∧ ss[j]? = some h
/-- within a turn: l is the settled place at q, done are those of its holders -/
structure Km (rs : List (List Int)) (ms ss : List Int) (q : Nat) (l : Int) (done : List Int) : Prop where
  nd : ss.Nodup
  rng : ∀ s ∈ ss, 0 ≤ s ∧ s < (rs.length : Int)
  cur : ss[q]? = some l
  len : ms.length = rs.length
  val : ∀ (p : Nat) r, rs[p]? = some r → ∃ v : Nat, ms[p]? = some (v : Int) ∧ v + done.count (p : Int) = miss (ss.take q) r ∧ ((p : Int) ∈ ss ↔ v = 0)
  ord : ∀ (i : Nat) s r, ss[i]? = some s → rs[s.toNat]? = some r → ∀ h ∈ r, ∃ j, j < i ∧ ss[j]? = some h
section
variable {rs hs : List (List Int)} {ms ss : List Int} {q : Nat} {l : Int}
theorem Kn.lt (k : Kn rs ms ss q) : ss.length ≤ rs.length := by
  obtain ⟨h1, h2⟩ := nat_list k.nd k.rng
  have := nodup_le h1 h2
  rwa [List.length_map] at this
theorem Km.lt {done : List Int} (k : Km rs ms ss q l done) : ss.length ≤ rs.length := by
  obtain ⟨h1, h2⟩ := nat_list k.nd k.rng
  have := nodup_le h1 h2
  rwa [List.length_map] at this
theorem not_before (nd : ss.Nodup) (h : ss[q]? = some l) : l ∉ ss.take q := fun hm => by
  obtain ⟨i, hi⟩ := List.mem_iff_getElem?.mp hm
  have hi2 := (List.getElem?_eq_some_iff.mp hi).1
  rw [List.length_take] at hi2
  rw [List.getElem?_take_of_lt (by omega)] at hi
  have := at_inj nd hi h
  omega
theorem take_succ_of (h : ss[q]? = some l) : ss.take (q + 1) = ss.take q ++ [l] := by rw [List.take_add_one, h]; rfl
theorem Km.count {done rest : List Int} (k : Km rs ms ss q l done) (hd : Hd rs hs) (hl0 : 0 ≤ l) (hl : hs[l.toNat]? = some (done ++ rest)) {p : Nat} {r : List Int} (hr : rs[p]? = some r) :
    miss (ss.take q) r = miss (ss.take (q + 1)) r + done.count (p : Int) + rest.count (p : Int) := by
  have h1 := hd.2.2 _ _ _ _ hl hr
  rw [List.count_append, show ((l.toNat : Nat) : Int) = l by omega] at h1
  rw [take_succ_of k.cur, miss_push (r := r) (not_before k.nd k.cur), ← h1]
  omega
/-- one holder more -/
theorem Km.step {done rest : List Int} {h : Int} (k : Km rs ms ss q l done) (hd : Hd rs hs) (hl0 : 0 ≤ l) (hl : hs[l.toNat]? = some (done ++ h :: rest)) :
    ∃ v : Nat, 0 ≤ h ∧ h < (rs.length : Int) ∧ ms[h.toNat]? = some ((v + 1 : Nat) : Int) ∧
      (v ≠ 0 → Km rs (ms.set h.toNat (v : Int)) ss q l (done ++ [h])) ∧ (v = 0 → Km rs (ms.set h.toNat 0) (ss ++ [h]) q l (done ++ [h])) := by
  have hrg := hd.2.1 _ (List.mem_of_getElem? hl) h (List.mem_append_right _ List.mem_cons_self)
  have eh : ((h.toNat : Nat) : Int) = h := by omega
  have hlt : h.toNat < rs.length := by omega
  have hr : rs[h.toNat]? = some rs[h.toNat] := List.getElem?_eq_getElem hlt
  obtain ⟨v, hv1, hv2, hv3⟩ := k.val _ _ hr
  have hc := k.count hd hl0 hl hr
  rw [eh] at hc hv2 hv3
  rw [List.count_cons_self] at hc
  obtain ⟨u, rfl⟩ : ∃ u, v = u + 1 := ⟨v - 1, by omega⟩
  have hns : h ∉ ss := fun hm => by have := hv3.mp hm; omega
  have hq : q < ss.length := (List.getElem?_eq_some_iff.mp k.cur).1
  have cnt : ∀ p : Nat, p ≠ h.toNat → (done ++ [h]).count (p : Int) = done.count (p : Int) := fun p hp => by
    rw [List.count_append, List.count_singleton]
    have : ¬ h = (p : Int) := by omega
    simp [this]
  have cnt2 : (done ++ [h]).count h = done.count h + 1 := by rw [List.count_append, List.count_singleton_self]
  have hml : h.toNat < ms.length := by rw [k.len]; exact hlt
  refine ⟨u, hrg.1, hrg.2, hv1, fun hu => ?_, fun hu => ?_⟩
  · refine ⟨k.nd, k.rng, k.cur, by rw [List.length_set]; exact k.len, fun p r hp => ?_, k.ord⟩
    by_cases e : p = h.toNat
    · subst e
      rw [hp] at hr
      cases hr
      rw [eh]
      refine ⟨u, List.getElem?_set_self hml, by rw [cnt2]; omega, fun hm => absurd hm hns, fun z => absurd z hu⟩
    · rw [List.getElem?_set_ne (Ne.symm e), cnt p e]
      exact k.val p r hp
  · subst hu
    have et : (ss ++ [h]).take q = ss.take q := List.take_append_of_le_length (Nat.le_of_lt hq)
    refine ⟨?_, fun s hs => ?_, by rw [List.getElem?_append_left hq]; exact k.cur, by rw [List.length_set]; exact k.len, fun p r hp => ?_, fun i s r hi hs x hx => ?_⟩
    · rw [List.nodup_append]
      exact ⟨k.nd, by simp, fun a ha b hb e => hns (by rw [← List.mem_singleton.mp hb, ← e]; exact ha)⟩
    · rcases List.mem_append.mp hs with z | z
      · exact k.rng s z
      · rw [List.mem_singleton.mp z]; exact hrg
    · rw [et]
      by_cases e : p = h.toNat
      · subst e
        rw [hp] at hr
        cases hr
        rw [eh]
        exact ⟨0, List.getElem?_set_self hml, by rw [cnt2]; omega, fun _ => rfl, fun _ => List.mem_append_right _ (List.mem_singleton.mpr rfl)⟩
      · rw [List.getElem?_set_ne (Ne.symm e), cnt p e]
        obtain ⟨v, a1, a2, a3⟩ := k.val p r hp
        refine ⟨v, a1, a2, ?_⟩
        rw [← a3]
        constructor
        · intro hm
          rcases List.mem_append.mp hm with z | z
          · exact z
          · have := List.mem_singleton.mp z
            omega
        · exact fun hm => List.mem_append_left _ hm
    · by_cases hil : i < ss.length
      · rw [List.getElem?_append_left hil] at hi
        obtain ⟨j, hj, hj2⟩ := k.ord i s r hi hs x hx
        exact ⟨j, hj, by rw [List.getElem?_append_left (by omega)]; exact hj2⟩
      · have h3 := (List.getElem?_eq_some_iff.mp hi).1
        rw [List.length_append, List.length_singleton] at h3
        have ei : i = ss.length := by omega
        rw [ei, List.getElem?_append_right (Nat.le_refl _), Nat.sub_self] at hi
        have es : h = s := Option.some.inj hi
        rw [← es, hr] at hs
        have er := Option.some.inj hs
        have hz : miss (ss.take (q + 1)) rs[h.toNat] = 0 := by omega
        have hm := miss_zero.mp hz x (by rw [er]; exact hx)
        obtain ⟨j, hj⟩ := List.mem_iff_getElem?.mp hm
        have hj2 := (List.getElem?_eq_some_iff.mp hj).1
        rw [List.length_take] at hj2
        rw [List.getElem?_take_of_lt (by omega)] at hj
        exact ⟨j, by omega, by rw [List.getElem?_append_left (by omega)]; exact hj⟩
end
end Lm
namespace Lm
theorem tb_add {i : Nat} : ∀ {x j : Nat}, x.testBit i = false → (2 ^ i + x).testBit j = (decide (i = j) || x.testBit j) := by
  induction i with
  | zero =>
    intro x j h
    have h0 : x % 2 = 0 := by
      rw [Nat.testBit_zero] at h
      have := of_decide_eq_false h
      omega
    cases j with
    | zero =>
      rw [Nat.testBit_zero]
      have : (2 ^ 0 + x) % 2 = 1 := by show (1 + x) % 2 = 1; omega
      rw [this]
      simp
    | succ j =>
      rw [Nat.testBit_succ, Nat.testBit_succ]
      have : (2 ^ 0 + x) / 2 = x / 2 := by show (1 + x) / 2 = x / 2; omega
      rw [this]
      simp
  | succ i ih =>
    intro x j h
    rw [Nat.testBit_succ] at h
    have e1 : (2 ^ (i + 1) + x) / 2 = 2 ^ i + x / 2 := by
      rw [Nat.pow_succ]; omega
    cases j with
    | zero =>
      rw [Nat.testBit_zero, Nat.testBit_zero]
      have : (2 ^ (i + 1) + x) % 2 = x % 2 := by rw [Nat.pow_succ]; omega
      rw [this]
      simp
    | succ j =>
      rw [Nat.testBit_succ, Nat.testBit_succ, e1, ih h]
      congr 1
      simp
/-- the mask of a row -/
def mask : List Int → Nat
  | [] => 0
  | e :: r => 2 ^ e.toNat + mask r
theorem mask_bit : ∀ {r : List Int}, r.Nodup → (∀ e ∈ r, 0 ≤ e) → ∀ b : Nat, (mask r).testBit b = true ↔ (b : Int) ∈ r
  | [], _, _, b => by simp [mask]
  | e :: r, hn, h0, b => by
    obtain ⟨hn1, hn2⟩ := List.nodup_cons.mp hn
    have h1 := h0 e List.mem_cons_self
    have ih := mask_bit hn2 (fun x hx => h0 x (List.mem_cons_of_mem _ hx))
    have hz : (mask r).testBit e.toNat = false := by
      cases q : (mask r).testBit e.toNat with
      | false => rfl
      | true =>
        have := (ih e.toNat).mp q
        rw [show ((e.toNat : Nat) : Int) = e by omega] at this
        exact absurd this hn1
    show (2 ^ e.toNat + mask r).testBit b = true ↔ _
    rw [tb_add hz, Bool.or_eq_true, decide_eq_true_eq, ih b, List.mem_cons]
    constructor
    · rintro (q | q)
      · exact .inl (by omega)
      · exact .inr q
    · rintro (q | q)
      · exact .inl (by omega)
      · exact .inr q
/-- masks in the stage k, those below a done -/
def Ms (rs : List (List Int)) (k a : Nat) (ms : List Nat) : Prop := ms.length = rs.length ∧
  ∀ (c m : Nat), ms[c]? = some m → ∀ b, m.testBit b = true ↔ (c < a ∧ Via (Ed rs) (k + 1) c b) ∨ (a ≤ c ∧ Via (Ed rs) k c b)
theorem via0 {rs : List (List Int)} {a b : Nat} : Via (Ed rs) 0 a b ↔ Ed rs a b := by
  constructor
  · intro h
    cases h with
    | one e => exact e
    | more _ h _ => exact absurd h (Nat.not_lt_zero _)
  · exact .one
theorem Ms.init {rs : List (List Int)} (hn : ∀ r ∈ rs, r.Nodup) (hin : In rs) : Ms rs 0 0 (rs.map mask) := by
  refine ⟨List.length_map .., fun c m hm b => ?_⟩
  rw [List.getElem?_map] at hm
  cases hr : rs[c]? with
  | none => rw [hr] at hm; cases hm
  | some r =>
    rw [hr] at hm
    rw [← Option.some.inj hm, mask_bit (hn r (List.mem_of_getElem? hr)) (fun e he => (hin r (List.mem_of_getElem? hr) e he).1)]
    constructor
    · exact fun h => .inr ⟨Nat.zero_le _, via0.mpr ⟨r, hr, h⟩⟩
    · rintro (⟨h, _⟩ | ⟨_, h⟩)
      · exact absurd h (Nat.not_lt_zero _)
      · obtain ⟨r', hr', hb⟩ := via0.mp h
        rw [hr] at hr'
        rw [Option.some.inj hr']; exact hb
/-- the mask at k is alike in both stages -/
theorem Ms.own {rs : List (List Int)} {k a : Nat} {ms : List Nat} (h : Ms rs k a ms) {m : Nat} (hm : ms[k]? = some m) (b : Nat) : m.testBit b = true ↔ Via (Ed rs) k k b := by
  rw [h.2 k m hm b]
  constructor
  · rintro (⟨_, q⟩ | ⟨_, q⟩)
    · rcases q.split with z | z
      · exact z
      · exact z.2
    · exact q
  · intro q
    by_cases hk : k < a
    · exact .inl ⟨hk, q.mono (Nat.le_succ k)⟩
    · exact .inr ⟨by omega, q⟩
theorem Ms.next {rs : List (List Int)} {k a : Nat} {ms : List Nat} (h : Ms rs k a ms) {x : Nat} (hx : ∀ b, x.testBit b = true ↔ Via (Ed rs) (k + 1) a b) (ha : a < rs.length) : Ms rs k (a + 1) (ms.set a x) := by
  refine ⟨by rw [List.length_set]; exact h.1, fun c m hm b => ?_⟩
  by_cases e : a = c
  · subst e
    rw [List.getElem?_set_self (by rw [h.1]; exact ha)] at hm
    rw [← Option.some.inj hm, hx b]
    constructor
    · exact fun q => .inl ⟨Nat.lt_succ_self _, q⟩
    · rintro (⟨_, q⟩ | ⟨q, _⟩)
      · exact q
      · omega
  · rw [List.getElem?_set_ne e] at hm
    rw [h.2 c m hm b]
    constructor
    · rintro (⟨q, v⟩ | ⟨q, v⟩)
      · exact .inl ⟨by omega, v⟩
      · exact .inr ⟨by omega, v⟩
    · rintro (⟨q, v⟩ | ⟨q, v⟩)
      · exact .inl ⟨by omega, v⟩
      · exact .inr ⟨by omega, v⟩
end Lm
namespace Lm
def Hpt (rs hs : List (List Int)) (i : Nat) (done : List Int) : Prop := hs.length = rs.length ∧ (∀ l ∈ hs, ∀ e ∈ l, 0 ≤ e ∧ e < (rs.length : Int)) ∧
  ∀ (l p : Nat) hl, hs[l]? = some hl → hl.count (p : Int) = if p < i then (rs.getD p []).count (l : Int) else if p = i then done.count (l : Int) else 0
theorem Hpt.init (rs : List (List Int)) : Hpt rs (List.replicate rs.length []) 0 [] := by
  refine ⟨List.length_replicate, fun l hl e he => ?_, fun l p hl h => ?_⟩
  · rw [(List.mem_replicate.mp hl).2] at he; exact nomatch he
  · rw [List.getElem?_replicate] at h
    split at h
    · rw [← Option.some.inj h]; simp
    · cases h
theorem Hpt.step {rs hs : List (List Int)} {i : Nat} {done : List Int} (k : Hpt rs hs i done) (hi : i < rs.length) {h : Int} (h0 : 0 ≤ h) {hl : List Int} (e : hs[h.toNat]? = some hl) : Hpt rs (hs.set h.toNat (hl ++ [(i : Int)])) i (done ++ [h]) := by
  have hlt := (List.getElem?_eq_some_iff.mp e).1
  refine ⟨by rw [List.length_set]; exact k.1, fun l hm x hx => ?_, fun l p hl' hp => ?_⟩
  · rcases List.mem_or_eq_of_mem_set hm with q | q
    · exact k.2.1 l q x hx
    · rw [q] at hx
      rcases List.mem_append.mp hx with z | z
      · exact k.2.1 hl (List.mem_of_getElem? e) x z
      · rw [List.mem_singleton.mp z]; omega
  · rw [List.getElem?_set] at hp
    by_cases q : h.toNat = l
    · rw [if_pos q, if_pos hlt] at hp
      have c := k.2.2 l p hl (by rw [← q]; exact e)
      rw [← Option.some.inj hp, List.count_append, c, List.count_append]
      have el : h = (l : Int) := by omega
      rw [el]
      by_cases a : p < i
      · have t : ¬ i = p := by omega
        have t2 : ¬ (i : Int) = (p : Int) := by omega
        rw [List.count_singleton, if_pos a, if_pos a]
        simp [t, t2]
      · by_cases b : p = i
        · subst b; simp
        · have t : ¬ i = p := by omega
          have t2 : ¬ (i : Int) = (p : Int) := by omega
          rw [List.count_singleton, if_neg a, if_neg a, if_neg b, if_neg b]
          simp [t, t2]
    · rw [if_neg q] at hp
      have el : ¬ h = (l : Int) := by omega
      rw [k.2.2 l p hl' hp, List.count_append]
      simp [el]
/-- the start: the places of empty rows -/
theorem Kn.init {rs : List (List Int)} {ss : List Int} (nd : ss.Nodup) (h : ∀ p : Int, p ∈ ss ↔ 0 ≤ p ∧ rs[p.toNat]? = some []) : Kn rs (rs.map fun r => (r.length : Int)) ss 0 := by
  refine ⟨nd, fun s hs => ?_, Nat.zero_le _, List.length_map .., fun p r hr => ?_, fun p r hr => ?_, fun i s r hi hr x hx => ?_⟩
  · obtain ⟨h0, h1⟩ := (h s).mp hs
    have := (List.getElem?_eq_some_iff.mp h1).1
    omega
  · rw [List.getElem?_map, hr, List.take_zero, miss_nil]; rfl
  · rw [List.take_zero, miss_nil, h, Int.toNat_natCast, hr]
    constructor
    · rintro ⟨_, e⟩; rw [Option.some.inj e]; rfl
    · intro e
      exact ⟨by omega, by rw [List.length_eq_zero_iff.mp e]⟩
  · obtain ⟨_, h1⟩ := (h s).mp (List.mem_of_getElem? hi)
    rw [hr] at h1
    rw [Option.some.inj h1] at hx
    exact nomatch hx
end Lm
namespace Lm
def gp (c : Nat) (r : List Int) : List Int := r.filter fun e => decide (e < (c : Int))
def br (c : Nat) (r : List Int) : List Int := r.filter fun e => decide (e ≥ (c : Int))
def Mt (R : Nat → Nat → Prop) (xs ys : List Int) : Prop := (∀ e ∈ xs, ∃ f ∈ ys, R e.toNat f.toNat) ∧ (∀ f ∈ ys, ∃ e ∈ xs, R e.toNat f.toNat)
theorem Mt.mono {R S : Nat → Nat → Prop} {xs ys : List Int} (h : Mt R xs ys) (hs : ∀ a b, R a b → S a b) : Mt S xs ys :=
  ⟨fun e he => by obtain ⟨f, hf, r⟩ := h.1 e he; exact ⟨f, hf, hs _ _ r⟩, fun f hf => by obtain ⟨e, he, r⟩ := h.2 f hf; exact ⟨e, he, hs _ _ r⟩⟩
def IsB (c : Nat) (rs : List (List Int)) (R : Nat → Nat → Prop) : Prop := ∀ g h, R g h → ∃ r s, g < c ∧ h < c ∧ rs[g]? = some r ∧ rs[h]? = some s ∧ br c r = br c s ∧ Mt R (gp c r) (gp c s)
def Bs (c : Nat) (rs : List (List Int)) (g h : Nat) : Prop := ∃ R, IsB c rs R ∧ R g h
theorem Bs.isB {c : Nat} {rs : List (List Int)} : IsB c rs (Bs c rs) := by
  rintro g h ⟨R, hR, r⟩
  obtain ⟨a, b, h1, h2, h3, h4, h5, h6⟩ := hR g h r
  exact ⟨a, b, h1, h2, h3, h4, h5, h6.mono fun x y q => ⟨R, hR, q⟩⟩
theorem Bs.symm {c : Nat} {rs : List (List Int)} {g h : Nat} (b : Bs c rs g h) : Bs c rs h g := by
  obtain ⟨R, hR, r⟩ := b
  refine ⟨fun x y => R y x, fun x y q => ?_, r⟩
  obtain ⟨a, b, h1, h2, h3, h4, h5, h6⟩ := hR y x q
  exact ⟨b, a, h2, h1, h4, h3, h5.symm, h6.2, h6.1⟩
theorem gp_mem {c : Nat} {r : List Int} {e : Int} : e ∈ gp c r ↔ e ∈ r ∧ e < (c : Int) := by
  unfold gp; rw [List.mem_filter, decide_eq_true_eq]
theorem br_mem {c : Nat} {r : List Int} {e : Int} : e ∈ br c r ↔ e ∈ r ∧ e ≥ (c : Int) := by
  unfold br; rw [List.mem_filter, decide_eq_true_eq]
/-- two equal rows are alike -/
theorem Bs.of_eq {n c : Nat} {rs : List (List Int)} (hn : rs.length = n) (hc : c ≤ n) (h0 : ∀ r ∈ rs, ∀ e ∈ r, 0 ≤ e) {g h : Nat} (hg : g < c) (hh : h < c) (e : rs[g]? = rs[h]?) : Bs c rs g h := by
  refine ⟨fun x y => (x < c ∧ x = y) ∨ (x = g ∧ y = h), fun x y q => ?_, .inr ⟨rfl, rfl⟩⟩
  have refl : ∀ x, x < c → ∃ r, rs[x]? = some r ∧ Mt (fun x y => (x < c ∧ x = y) ∨ (x = g ∧ y = h)) (gp c r) (gp c r) := fun x hx => by
    refine ⟨_, List.getElem?_eq_getElem (by omega), fun e he => ⟨e, he, .inl ⟨?_, rfl⟩⟩, fun e he => ⟨e, he, .inl ⟨?_, rfl⟩⟩⟩
    all_goals
      have h1 := gp_mem.mp he
      have h2 := h0 _ (List.getElem_mem _) e h1.1
      omega
  rcases q with ⟨hx, rfl⟩ | ⟨rfl, rfl⟩
  · obtain ⟨r, h1, h2⟩ := refl x hx
    exact ⟨r, r, hx, hx, h1, h1, rfl, h2⟩
  · obtain ⟨r, h1, h2⟩ := refl x hg
    exact ⟨r, r, hg, hh, h1, by rw [← e]; exact h1, rfl, h2⟩
/-- lists that ascend and have the same members are the same -/
theorem asc_eq : ∀ {xs ys : List Int}, xs.Pairwise (· < ·) → ys.Pairwise (· < ·) → (∀ e, e ∈ xs ↔ e ∈ ys) → xs = ys
  | [], [], _, _, _ => rfl
  | [], y :: ys, _, _, h => absurd ((h y).mpr List.mem_cons_self) List.not_mem_nil
  | x :: xs, [], _, _, h => absurd ((h x).mp List.mem_cons_self) List.not_mem_nil
  | x :: xs, y :: ys, h1, h2, h => by
    rw [List.pairwise_cons] at h1 h2
    have e : x = y := by
      rcases List.mem_cons.mp ((h x).mp List.mem_cons_self) with e | e
      · exact e
      · rcases List.mem_cons.mp ((h y).mpr List.mem_cons_self) with e2 | e2
        · exact e2.symm
        · have := h2.1 x e; have := h1.1 y e2; omega
    subst e
    congr 1
    refine asc_eq h1.2 h2.2 fun z => ⟨fun hz => ?_, fun hz => ?_⟩
    · rcases List.mem_cons.mp ((h z).mp (List.mem_cons_of_mem _ hz)) with q | q
      · subst q; have := h1.1 z hz; omega
      · exact q
    · rcases List.mem_cons.mp ((h z).mpr (List.mem_cons_of_mem _ hz)) with q | q
      · subst q; have := h2.1 z hz; omega
      · exact q
def tr (M : List (List Bool)) (g h : Nat) : Prop := ∃ r, M[g]? = some r ∧ r[h]? = some true
structure Gl (c : Nat) (rs : List (List Int)) (M : List (List Bool)) : Prop where
  len : M.length = c
  row : ∀ r ∈ M, r.length = c
  has : ∀ g h, Bs c rs g h → tr M g h
  bare : ∀ g h, tr M g h → ∃ r s, g < c ∧ h < c ∧ rs[g]? = some r ∧ rs[h]? = some s ∧ br c r = br c s
theorem Gl.init {n c : Nat} {rs : List (List Int)} (hn : rs.length = n) (hc : c ≤ n) {bs : List (List Int)} (hb : bs = (rs.take c).map (br c)) : Gl c rs (bs.map fun x => bs.map fun y => decide (x = y)) := by
  have hl : bs.length = c := by rw [hb, List.length_map, List.length_take]; omega
  have hg : ∀ g, g < c → ∃ r, rs[g]? = some r ∧ bs[g]? = some (br c r) := fun g hg => by
    obtain ⟨r, hr⟩ : ∃ r, rs[g]? = some r := ⟨_, List.getElem?_eq_getElem (by omega)⟩
    refine ⟨r, hr, ?_⟩
    rw [hb, List.getElem?_map, List.getElem?_take_of_lt hg, hr]; rfl
  refine ⟨by rw [List.length_map, hl], fun r hr => ?_, fun g h b => ?_, fun g h ⟨r, h1, h2⟩ => ?_⟩
  · obtain ⟨x, _, rfl⟩ := List.mem_map.mp hr
    rw [List.length_map, hl]
  · obtain ⟨r, s, a1, a2, a3, a4, a5, _⟩ := Bs.isB g h b
    obtain ⟨r', b1, b2⟩ := hg g a1
    obtain ⟨s', d1, d2⟩ := hg h a2
    rw [a3] at b1; cases b1
    rw [a4] at d1; cases d1
    refine ⟨_, by rw [List.getElem?_map, b2]; rfl, ?_⟩
    rw [List.getElem?_map, d2]
    show some (decide _) = _
    rw [a5, decide_eq_true rfl]
  · rw [List.getElem?_map] at h1
    cases q : bs[g]? with
    | none => rw [q] at h1; cases h1
    | some x =>
      rw [q] at h1
      cases h1
      rw [List.getElem?_map] at h2
      cases q2 : bs[h]? with
      | none => rw [q2] at h2; cases h2
      | some y =>
        rw [q2] at h2
        have e : x = y := of_decide_eq_true (Option.some.inj h2)
        have g1 : g < c := by rw [← hl]; exact (List.getElem?_eq_some_iff.mp q).1
        have g2 : h < c := by rw [← hl]; exact (List.getElem?_eq_some_iff.mp q2).1
        obtain ⟨r', b1, b2⟩ := hg g g1
        obtain ⟨s', d1, d2⟩ := hg h g2
        rw [q] at b2; rw [q2] at d2
        exact ⟨r', s', g1, g2, b1, d1, by rw [← Option.some.inj b2, ← Option.some.inj d2]; exact e⟩
/-- one round: q numbers the keys that refine p's numbers -/
structure Rd {κ : Type} (p q : List Int) (key : Nat → κ) (c : Nat) : Prop where
  len : q.length = c
  first : ∀ a, a < c → ∃ b : Nat, q[a]? = some (b : Int) ∧ b ≤ a ∧ key b = key a ∧ ∀ d, d < b → key d ≠ key a
  ref : ∀ a b, a < c → b < c → key a = key b → p[a]? = p[b]?
theorem Rd.same {κ : Type} {p q : List Int} {key : Nat → κ} {c : Nat} (R : Rd p q key c) {a b : Nat} (ha : a < c) (hb : b < c) : q[a]? = q[b]? ↔ key a = key b := by
  obtain ⟨x, h1, h2, h3, h4⟩ := R.first a ha
  obtain ⟨y, k1, k2, k3, k4⟩ := R.first b hb
  rw [h1, k1]
  constructor
  · intro e
    have : x = y := by have := Option.some.inj e; omega
    subst this
    exact h3.symm.trans k3
  · intro e
    have : x = y := by
      rcases Nat.lt_trichotomy x y with z | z | z
      · exact absurd (h3.trans e) (k4 x z)
      · exact z
      · exact absurd (k3.trans e.symm) (h4 y z)
    rw [this]
/-- a key of a place: its number, the numbers it holds, what it holds beside -/
structure Ky (c : Nat) (rs : List (List Int)) (p : List Int) (key : Nat → Int × List Int × List Int) : Prop where
  val : ∀ (a : Nat) r, a < c → rs[a]? = some r → (key a).2.2 = br c r ∧ p[a]? = some (key a).1 ∧ (∀ z, z ∈ (key a).2.1 ↔ ∃ e ∈ gp c r, p[e.toNat]? = some z)
theorem Ky.keep {n c : Nat} {rs : List (List Int)} {p : List Int} {key : Nat → Int × List Int × List Int} (k : Ky c rs p key) (hn : rs.length = n) (hc : c ≤ n) (hp : p.length = c) (h0 : ∀ r ∈ rs, ∀ e ∈ r, 0 ≤ e)
    (hasc : ∀ a, a < c → (key a).2.1.Pairwise (· < ·)) (hb : ∀ g h, Bs c rs g h → p[g]? = p[h]?) {g h : Nat} (b : Bs c rs g h) : key g = key h := by
  obtain ⟨r, s, a1, a2, a3, a4, a5, a6⟩ := Bs.isB g h b
  obtain ⟨k1, k2, k3⟩ := k.val g r a1 a3
  obtain ⟨l1, l2, l3⟩ := k.val h s a2 a4
  have e1 : (key g).1 = (key h).1 := by
    have := hb g h b
    rw [k2, l2] at this
    exact Option.some.inj this
  have e2 : (key g).2.1 = (key h).2.1 := by
    refine asc_eq (hasc g a1) (hasc h a2) fun z => ?_
    rw [k3, l3]
    constructor
    · rintro ⟨e, he, hz⟩
      obtain ⟨f, hf, q⟩ := a6.1 e he
      exact ⟨f, hf, by rw [← hb _ _ q]; exact hz⟩
    · rintro ⟨f, hf, hz⟩
      obtain ⟨e, he, q⟩ := a6.2 f hf
      exact ⟨e, he, by rw [hb _ _ q]; exact hz⟩
  have e3 : (key g).2.2 = (key h).2.2 := by rw [k1, l1, a5]
  exact Prod.ext e1 (Prod.ext e2 e3)
end Lm
namespace Lm
/-- equal numbers exactly at places with the same members' numbers -/
def Ext (T : List (List Int)) (N : Nat → Int) : Prop := ∀ (a b : Nat) r s, T[a]? = some r → T[b]? = some s → (N a = N b ↔ ∀ z, (∃ e ∈ r, N e.toNat = z) ↔ (∃ e ∈ s, N e.toNat = z))
/-- the drawing T built of the rows rs, c of them groups -/
structure Bd (T rs : List (List Int)) (n c : Nat) : Prop where
  len : rs.length = n
  cn : c ≤ n
  grp : ∀ a, a < c → T[a]? = rs[a]?
  bar : ∀ (i : Nat) r, c + i < n → rs[c + i]? = some r → T[c + i]? = some (r ++ [((n + i : Nat) : Int)])
  mark : ∀ i, c + i < n → T[n + i]? = some [((n + (n - c) : Nat) : Int), ((n + (n - c) + (c + 1 + i) : Nat) : Int)]
  zero : c < n → T[n + (n - c)]? = some []
  wrap : c < n → ∀ w, w < n → T[n + (n - c) + (w + 1)]? = some [((n + (n - c) + w : Nat) : Int)]
section
variable {T rs : List (List Int)} {n c : Nat} {N : Nat → Int}
theorem Bd.z_inj (B : Bd T rs n c) (X : Ext T N) (h : c < n) : ∀ j k, j ≤ n → k ≤ n → N (n + (n - c) + j) = N (n + (n - c) + k) → j = k := by
  intro j
  induction j with
  | zero =>
    intro k _ hk e
    cases k with
    | zero => rfl
    | succ k =>
      have := (X _ _ _ _ (B.zero h) (B.wrap h k (by omega))).mp e (N (n + (n - c) + k))
      obtain ⟨e, he, _⟩ := this.mpr ⟨_, List.mem_singleton.mpr rfl, by rw [Int.toNat_natCast]⟩
      exact nomatch he
  | succ j ih =>
    intro k hj hk e
    cases k with
    | zero =>
      have := (X _ _ _ _ (B.wrap h j (by omega)) (B.zero h)).mp e (N (n + (n - c) + j))
      obtain ⟨e, he, _⟩ := this.mp ⟨_, List.mem_singleton.mpr rfl, by rw [Int.toNat_natCast]⟩
      exact nomatch he
    | succ k =>
      have := (X _ _ _ _ (B.wrap h j (by omega)) (B.wrap h k (by omega))).mp e (N (n + (n - c) + j))
      obtain ⟨e, he, e2⟩ := this.mp ⟨_, List.mem_singleton.mpr rfl, by rw [Int.toNat_natCast]⟩
      rw [List.mem_singleton.mp he, Int.toNat_natCast] at e2
      rw [ih k (by omega) (by omega) e2.symm]
/-- a place with the number of j nested braces -/
theorem Bd.z_zero (B : Bd T rs n c) (X : Ext T N) (h : c < n) {a : Nat} {r : List Int} (hr : T[a]? = some r) (e : N a = N (n + (n - c) + 0)) : r = [] := by
  cases r with
  | nil => rfl
  | cons x r =>
    have := (X _ _ _ _ hr (B.zero h)).mp e (N x.toNat)
    obtain ⟨e, he, _⟩ := this.mp ⟨x, List.mem_cons_self, rfl⟩
    exact nomatch he
theorem Bd.z_succ (B : Bd T rs n c) (X : Ext T N) (h : c < n) {a : Nat} {r : List Int} (hr : T[a]? = some r) {j : Nat} (hj : j < n) (e : N a = N (n + (n - c) + (j + 1))) : (∀ x ∈ r, N x.toNat = N (n + (n - c) + j)) ∧ ∃ x, x ∈ r := by
  have key := (X _ _ _ _ hr (B.wrap h j hj)).mp e
  constructor
  · intro x hx
    obtain ⟨y, hy, e2⟩ := (key (N x.toNat)).mp ⟨x, hx, rfl⟩
    rw [List.mem_singleton.mp hy, Int.toNat_natCast] at e2
    exact e2.symm
  · obtain ⟨x, hx, _⟩ := (key (N (n + (n - c) + j))).mpr ⟨_, List.mem_singleton.mpr rfl, by rw [Int.toNat_natCast]⟩
    exact ⟨x, hx⟩
theorem Bd.mark_z (B : Bd T rs n c) (X : Ext T N) {i : Nat} (hi : c + i < n) {j : Nat} (hj : j ≤ n) : N (n + i) ≠ N (n + (n - c) + j) := by
  intro e
  have h : c < n := by omega
  cases j with
  | zero => have := B.z_zero X h (B.mark i hi) e; cases this
  | succ j =>
    obtain ⟨k1, _⟩ := B.z_succ X h (B.mark i hi) (by omega) e
    have e1 := k1 _ (List.mem_cons_self)
    have e2 := k1 _ (List.mem_cons_of_mem _ (List.mem_singleton.mpr rfl))
    rw [Int.toNat_natCast] at e1 e2
    have h1 := B.z_inj X h 0 j (by omega) (by omega) e1
    have h2 := B.z_inj X h (c + 1 + i) j (by omega) (by omega) e2
    omega
theorem Bd.bare_row (B : Bd T rs n c) {i : Nat} (hi : c + i < n) : ∃ r, rs[c + i]? = some r ∧ T[c + i]? = some (r ++ [((n + i : Nat) : Int)]) := by
  obtain ⟨r, hr⟩ : ∃ r, rs[c + i]? = some r := ⟨_, List.getElem?_eq_getElem (by rw [B.len]; exact hi)⟩
  exact ⟨r, hr, B.bar i r hi hr⟩
theorem Bd.bare_z (B : Bd T rs n c) (X : Ext T N) {i : Nat} (hi : c + i < n) {j : Nat} (hj : j ≤ n) : N (c + i) ≠ N (n + (n - c) + j) := by
  intro e
  have h : c < n := by omega
  obtain ⟨r, _, hr⟩ := B.bare_row hi
  cases j with
  | zero => have := B.z_zero X h hr e; simp at this
  | succ j =>
    obtain ⟨k1, _⟩ := B.z_succ X h hr (by omega) e
    have e1 := k1 _ (List.mem_append_right _ (List.mem_singleton.mpr rfl))
    rw [Int.toNat_natCast] at e1
    exact B.mark_z X hi (by omega) e1
/-- a place below n with the number of j nested braces is the end of a chain of j + 1 groups -/
theorem Bd.chain (B : Bd T rs n c) (X : Ext T N) (hin : In rs) (h : c < n) : ∀ j, j ≤ n → ∀ p, p < n → N p = N (n + (n - c) + j) → ∃ f : Nat → Nat, ∀ k, k ≤ j → f k < c ∧ N (f k) = N (n + (n - c) + k) := by
  intro j
  induction j with
  | zero =>
    intro hj p hp e
    refine ⟨fun _ => p, fun k hk => ?_⟩
    have : k = 0 := by omega
    subst this
    refine ⟨?_, e⟩
    rcases Nat.lt_or_ge p c with q | q
    · exact q
    · have := B.bare_z X (i := p - c) (by omega) (j := 0) (by omega)
      rw [show c + (p - c) = p by omega] at this
      exact absurd e this
  | succ j ih =>
    intro hj p hp e
    have hpc : p < c := by
      rcases Nat.lt_or_ge p c with q | q
      · exact q
      · have := B.bare_z X (i := p - c) (by omega) hj
        rw [show c + (p - c) = p by omega] at this
        exact absurd e this
    obtain ⟨r, hr⟩ : ∃ r, rs[p]? = some r := ⟨_, List.getElem?_eq_getElem (by rw [B.len]; exact hp)⟩
    have hT : T[p]? = some r := by rw [B.grp p hpc]; exact hr
    obtain ⟨k1, x, hx⟩ := B.z_succ X h hT (by omega) e
    have hx2 := hin r (List.mem_of_getElem? hr) x hx
    rw [B.len] at hx2
    obtain ⟨f, hf⟩ := ih (by omega) x.toNat (by omega) (k1 x hx)
    refine ⟨fun k => if k = j + 1 then p else f k, fun k hk => ?_⟩
    by_cases hk2 : k = j + 1
    · subst hk2; simp only [if_pos]; exact ⟨hpc, e⟩
    · simp only [if_neg hk2]; exact hf k (by omega)
theorem Bd.low (B : Bd T rs n c) (X : Ext T N) (hin : In rs) (h : c < n) {j : Nat} (hj : j ≤ n) {p : Nat} (hp : p < n) (e : N p = N (n + (n - c) + j)) : j < c := by
  obtain ⟨f, hf⟩ := B.chain X hin h j hj p hp e
  have nd : ((List.range (j + 1)).map f).Nodup := by
    rw [List.Nodup, List.pairwise_map]
    refine List.Pairwise.imp_of_mem (fun {a b} ha hb hab e2 => ?_) (List.nodup_range (n := j + 1))
    have h1 := List.mem_range.mp ha
    have h2 := List.mem_range.mp hb
    have e3 := (hf a (by omega)).2
    have e4 := (hf b (by omega)).2
    rw [e2] at e3
    exact hab (B.z_inj X h a b (by omega) (by omega) (e3.symm.trans e4))
  have := nodup_le (n := c) nd fun x hx => by
    obtain ⟨k, hk, rfl⟩ := List.mem_map.mp hx
    exact (hf k (by have := List.mem_range.mp hk; omega)).1
  rw [List.length_map, List.length_range] at this
  omega
/-- no place below n is a mark's set -/
theorem Bd.no_mark (B : Bd T rs n c) (X : Ext T N) (hin : In rs) {i : Nat} (hi : c + i < n) {p : Nat} (hp : p < n) : N p ≠ N (n + i) := by
  intro e
  have h : c < n := by omega
  have key : ∀ r, T[p]? = some r → ∃ x ∈ r, N x.toNat = N (n + (n - c) + (c + 1 + i)) := fun r hr => by
    refine ((X _ _ _ _ hr (B.mark i hi)).mp e _).mpr ⟨_, List.mem_cons_of_mem _ (List.mem_singleton.mpr rfl), by rw [Int.toNat_natCast]⟩
  obtain ⟨r, hr⟩ : ∃ r, rs[p]? = some r := ⟨_, List.getElem?_eq_getElem (by rw [B.len]; exact hp)⟩
  have low : ∀ x ∈ r, N x.toNat ≠ N (n + (n - c) + (c + 1 + i)) := fun x hx e2 => by
    have hx2 := hin r (List.mem_of_getElem? hr) x hx
    rw [B.len] at hx2
    have := B.low X hin h (j := c + 1 + i) (by omega) (p := x.toNat) (by omega) e2
    omega
  rcases Nat.lt_or_ge p c with q | q
  · obtain ⟨x, hx, e2⟩ := key r (by rw [B.grp p q]; exact hr)
    exact low x hx e2
  · have hb := B.bar (p - c) r (by omega) (by rw [show c + (p - c) = p by omega]; exact hr)
    rw [show c + (p - c) = p by omega] at hb
    obtain ⟨x, hx, e2⟩ := key _ hb
    rcases List.mem_append.mp hx with z | z
    · exact low x z e2
    · rw [List.mem_singleton.mp z, Int.toNat_natCast] at e2
      exact B.mark_z X (i := p - c) (by omega) (j := c + 1 + i) (by omega) e2
theorem Bd.mark_in (B : Bd T rs n c) (X : Ext T N) {i : Nat} (hi : c + i < n) {p : Nat} {r : List Int} (hr : T[p]? = some r) (e : N (c + i) = N p) : ∃ x ∈ r, N x.toNat = N (n + i) := by
  obtain ⟨r0, _, h0⟩ := B.bare_row hi
  exact ((X _ _ _ _ h0 hr).mp e _).mp ⟨_, List.mem_append_right _ (List.mem_singleton.mpr rfl), by rw [Int.toNat_natCast]⟩
theorem Bd.bare_inj (B : Bd T rs n c) (X : Ext T N) (hin : In rs) {i k : Nat} (hi : c + i < n) (hk : c + k < n) (e : N (c + i) = N (c + k)) : i = k := by
  have h : c < n := by omega
  obtain ⟨r, hr0, hr⟩ := B.bare_row hk
  obtain ⟨x, hx, e2⟩ := B.mark_in X hi hr e
  rcases List.mem_append.mp hx with z | z
  · have hx2 := hin r (List.mem_of_getElem? hr0) x z
    rw [B.len] at hx2
    exact absurd e2 (B.no_mark X hin hi (by omega))
  · rw [List.mem_singleton.mp z, Int.toNat_natCast] at e2
    have := (X _ _ _ _ (B.mark k hk) (B.mark i hi)).mp e2 (N (n + (n - c) + (c + 1 + i)))
    obtain ⟨y, hy, e3⟩ := this.mpr ⟨_, List.mem_cons_of_mem _ (List.mem_singleton.mpr rfl), by rw [Int.toNat_natCast]⟩
    rcases List.mem_cons.mp hy with w | w
    · rw [w, Int.toNat_natCast] at e3
      have := B.z_inj X h 0 (c + 1 + i) (by omega) (by omega) e3
      omega
    · rw [List.mem_singleton.mp w, Int.toNat_natCast] at e3
      have := B.z_inj X h (c + 1 + k) (c + 1 + i) (by omega) (by omega) e3
      omega
theorem Bd.bare_grp (B : Bd T rs n c) (X : Ext T N) (hin : In rs) {i g : Nat} (hi : c + i < n) (hg : g < c) : N (c + i) ≠ N g := by
  intro e
  obtain ⟨r, hr⟩ : ∃ r, rs[g]? = some r := ⟨_, List.getElem?_eq_getElem (by rw [B.len]; omega)⟩
  obtain ⟨x, hx, e2⟩ := B.mark_in X hi (show T[g]? = some r by rw [B.grp g hg]; exact hr) e
  have hx2 := hin r (List.mem_of_getElem? hr) x hx
  rw [B.len] at hx2
  exact absurd e2 (B.no_mark X hin hi (by omega))
/-- equal numbers of two groups: alike as the sketch has it -/
theorem Bd.isB (B : Bd T rs n c) (X : Ext T N) (hin : In rs) (hasc : ∀ r ∈ rs, r.Pairwise (· < ·)) {g h : Nat} (hg : g < c) (hh : h < c) (e : N g = N h) : Bs c rs g h := by
  refine ⟨fun x y => x < c ∧ y < c ∧ N x = N y, ?_, hg, hh, e⟩
  rintro x y ⟨hx, hy, e⟩
  obtain ⟨r, hr⟩ : ∃ r, rs[x]? = some r := ⟨_, List.getElem?_eq_getElem (by rw [B.len]; have := B.cn; omega)⟩
  obtain ⟨s, hs⟩ : ∃ s, rs[y]? = some s := ⟨_, List.getElem?_eq_getElem (by rw [B.len]; have := B.cn; omega)⟩
  have key := (X _ _ r s (by rw [B.grp x hx]; exact hr) (by rw [B.grp y hy]; exact hs)).mp e
  have hi : ∀ {t}, t ∈ rs → ∀ z ∈ t, 0 ≤ z ∧ z < (n : Int) := fun {t} ht z hz => by have := hin t ht z hz; rw [B.len] at this; exact this
  have hrm := List.mem_of_getElem? hr
  have hsm := List.mem_of_getElem? hs
  -- a member's partner is of its own kind
  have part : ∀ {a b : Int}, 0 ≤ a → a < (n : Int) → 0 ≤ b → b < (n : Int) → N a.toNat = N b.toNat → (a < (c : Int) ↔ b < (c : Int)) ∧ (¬ a < (c : Int) → a = b) := fun {a b} a0 a1 b0 b1 e => by
    by_cases ha : a < (c : Int)
    · by_cases hb : b < (c : Int)
      · exact ⟨⟨fun _ => hb, fun _ => ha⟩, fun z => absurd ha z⟩
      · have := B.bare_grp X hin (i := b.toNat - c) (g := a.toNat) (by omega) (by omega)
        rw [show c + (b.toNat - c) = b.toNat by omega] at this
        exact absurd e.symm this
    · by_cases hb : b < (c : Int)
      · have := B.bare_grp X hin (i := a.toNat - c) (g := b.toNat) (by omega) (by omega)
        rw [show c + (a.toNat - c) = a.toNat by omega] at this
        exact absurd e this
      · have := B.bare_inj X hin (i := a.toNat - c) (k := b.toNat - c) (by omega) (by omega) (by rw [show c + (a.toNat - c) = a.toNat by omega, show c + (b.toNat - c) = b.toNat by omega]; exact e)
        exact ⟨⟨fun z => absurd z ha, fun z => absurd z hb⟩, fun _ => by omega⟩
  have go : ∀ a ∈ r, ∃ b ∈ s, N a.toNat = N b.toNat := fun a ha => by
    obtain ⟨b, hb, e2⟩ := (key (N a.toNat)).mp ⟨a, ha, rfl⟩
    exact ⟨b, hb, e2.symm⟩
  have back : ∀ b ∈ s, ∃ a ∈ r, N a.toNat = N b.toNat := fun b hb => by
    obtain ⟨a, ha, e2⟩ := (key (N b.toNat)).mpr ⟨b, hb, rfl⟩
    exact ⟨a, ha, e2⟩
  refine ⟨r, s, hx, hy, hr, hs, ?_, fun a ha => ?_, fun b hb => ?_⟩
  · refine asc_eq ((hasc r hrm).filter _) ((hasc s hsm).filter _) fun z => ?_
    show z ∈ br c r ↔ z ∈ br c s
    rw [br_mem, br_mem]
    constructor
    · rintro ⟨hz, hz2⟩
      obtain ⟨b, hb, e2⟩ := go z hz
      have := (part (hi hrm z hz).1 (hi hrm z hz).2 (hi hsm b hb).1 (hi hsm b hb).2 e2).2 (by omega)
      rw [this] at hz2 ⊢; exact ⟨hb, hz2⟩
    · rintro ⟨hz, hz2⟩
      obtain ⟨a, ha, e2⟩ := back z hz
      have := (part (hi hsm z hz).1 (hi hsm z hz).2 (hi hrm a ha).1 (hi hrm a ha).2 e2.symm).2 (by omega)
      rw [this] at hz2 ⊢; exact ⟨ha, hz2⟩
  · obtain ⟨ha1, ha2⟩ := gp_mem.mp ha
    obtain ⟨b, hb, e2⟩ := go a ha1
    have a3 := hi hrm a ha1
    have b3 := hi hsm b hb
    have := ((part a3.1 a3.2 b3.1 b3.2 e2).1).mp ha2
    exact ⟨b, gp_mem.mpr ⟨hb, this⟩, by omega, by omega, e2⟩
  · obtain ⟨hb1, hb2⟩ := gp_mem.mp hb
    obtain ⟨a, ha, e2⟩ := back b hb1
    have a3 := hi hrm a ha
    have b3 := hi hsm b hb1
    have := ((part a3.1 a3.2 b3.1 b3.2 e2).1).mpr hb2
    exact ⟨a, gp_mem.mpr ⟨ha, this⟩, by omega, by omega, e2⟩
/-- where no two groups are alike, the places below n have different numbers, and the rows tell the members -/
theorem Bd.inj (B : Bd T rs n c) (X : Ext T N) (hin : In rs) (hasc : ∀ r ∈ rs, r.Pairwise (· < ·)) (hs : ∀ g h, Bs c rs g h → g = h) {p q : Nat} (hp : p < n) (hq : q < n) (e : N p = N q) : p = q := by
  rcases Nat.lt_or_ge p c with a | a
  · rcases Nat.lt_or_ge q c with b | b
    · exact hs p q (B.isB X hin hasc a b e)
    · have := B.bare_grp X hin (i := q - c) (g := p) (by omega) a
      rw [show c + (q - c) = q by omega] at this
      exact absurd e.symm this
  · rcases Nat.lt_or_ge q c with b | b
    · have := B.bare_grp X hin (i := p - c) (g := q) (by omega) b
      rw [show c + (p - c) = p by omega] at this
      exact absurd e this
    · have := B.bare_inj X hin (i := p - c) (k := q - c) (by omega) (by omega) (by rw [show c + (p - c) = p by omega, show c + (q - c) = q by omega]; exact e)
      omega
theorem Bd.mem (B : Bd T rs n c) (X : Ext T N) (hin : In rs) (hasc : ∀ r ∈ rs, r.Pairwise (· < ·)) (hs : ∀ g h, Bs c rs g h → g = h) {a k : Nat} (ha : a < n) (hk : k < n) {r t : List Int} (hr : rs[a]? = some r) (ht : T[a]? = some t) :
    (∃ e ∈ t, N e.toNat = N k) ↔ (k : Int) ∈ r := by
  have low : ∀ e ∈ r, N e.toNat = N k → e = (k : Int) := fun e he e2 => by
    have h1 := hin r (List.mem_of_getElem? hr) e he
    rw [B.len] at h1
    have := B.inj X hin hasc hs (p := e.toNat) (q := k) (by omega) hk e2
    omega
  rcases Nat.lt_or_ge a c with q | q
  · rw [B.grp a q, hr] at ht
    cases ht
    exact ⟨fun ⟨e, he, e2⟩ => by rw [← low e he e2]; exact he, fun h => ⟨_, h, by rw [Int.toNat_natCast]⟩⟩
  · have hb := B.bar (a - c) r (by omega) (by rw [show c + (a - c) = a by omega]; exact hr)
    rw [show c + (a - c) = a by omega, ht] at hb
    cases hb
    constructor
    · rintro ⟨e, he, e2⟩
      rcases List.mem_append.mp he with z | z
      · rw [← low e z e2]; exact z
      · rw [List.mem_singleton.mp z, Int.toNat_natCast] at e2
        exact absurd e2.symm (B.no_mark X hin (i := a - c) (by omega) hk)
    · intro h
      exact ⟨_, List.mem_append_left _ h, by rw [Int.toNat_natCast]⟩
end
end Lm
namespace Lm
/-- how many different ones -/
def nf (p : List Int) : Nat := (List.range p.length).countP fun a => decide (∀ b, b < a → p[b]? ≠ p[a]?)
theorem nf_le (p : List Int) : nf p ≤ p.length := by
  unfold nf
  have := List.countP_le_length (p := fun a : Nat => decide (∀ b, b < a → p[b]? ≠ p[a]?)) (l := List.range p.length)
  rwa [List.length_range] at this
theorem nf_push (p : List Int) (z : Int) : nf (p ++ [z]) = nf p + if z ∈ p then 0 else 1 := by
  unfold nf
  rw [List.length_append, List.length_singleton, List.range_succ, List.countP_append]
  congr 1
  · refine List.countP_congr fun a ha => ?_
    have ha := List.mem_range.mp ha
    rw [decide_eq_true_eq, decide_eq_true_eq]
    constructor
    · intro h b hb
      have := h b hb
      rwa [List.getElem?_append_left (by omega), List.getElem?_append_left ha] at this
    · intro h b hb
      rw [List.getElem?_append_left (by omega), List.getElem?_append_left ha]
      exact h b hb
  · have e : (p ++ [z])[p.length]? = some z := by rw [List.getElem?_append_right (Nat.le_refl _), Nat.sub_self]; rfl
    by_cases hz : z ∈ p
    · rw [if_pos hz, List.countP_cons_of_neg, List.countP_nil]
      rw [decide_eq_true_eq]
      intro h
      obtain ⟨b, hb⟩ := List.mem_iff_getElem?.mp hz
      have hbl := (List.getElem?_eq_some_iff.mp hb).1
      refine h b hbl ?_
      rw [e, List.getElem?_append_left hbl, hb]
    · rw [if_neg hz, List.countP_cons_of_pos, List.countP_nil]
      rw [decide_eq_true_eq]
      intro b hb
      rw [e, List.getElem?_append_left hb]
      intro q
      exact hz (List.mem_of_getElem? q)
/-- one round: q tells the keys, which refine p -/
structure Rn {κ : Type} (p q : List Int) (key : Nat → κ) (c : Nat) : Prop where
  lp : p.length = c
  lq : q.length = c
  same : ∀ a b, a < c → b < c → (q[a]? = q[b]? ↔ key a = key b)
  ref : ∀ a b, a < c → b < c → key a = key b → p[a]? = p[b]?
section
variable {κ : Type} {p q : List Int} {key : Nat → κ} {c : Nat}
theorem Rn.le (R : Rn p q key c) : nf p ≤ nf q := by
  unfold nf
  rw [R.lp, R.lq]
  refine List.countP_mono_left fun a ha h => ?_
  have ha := List.mem_range.mp ha
  rw [decide_eq_true_eq] at h ⊢
  intro b hb e
  exact h b hb (R.ref b a (by omega) ha ((R.same b a (by omega) ha).mp e))
end
/-- the table of one round: ks the different keys in order, f their places -/
structure Fr {κ : Type} (ks : List κ) (f : List Int) (key : Nat → κ) (j : Nat) : Prop where
  len : f.length = j
  nd : ks.Nodup
  at_ : ∀ i, i < j → ∃ m : Nat, f[i]? = some (m : Int) ∧ ks[m]? = some (key i)
  used : ∀ m, m < ks.length → (m : Int) ∈ f
  nf : nf f = ks.length
section
variable {κ : Type} {ks : List κ} {f : List Int} {key : Nat → κ} {j : Nat}
theorem Fr.nil : Fr ([] : List κ) [] key 0 := ⟨rfl, List.nodup_nil, fun i hi => absurd hi (Nat.not_lt_zero _), fun m hm => absurd hm (Nat.not_lt_zero _), rfl⟩
theorem Fr.lt (F : Fr ks f key j) {z : Int} (hz : z ∈ f) : 0 ≤ z ∧ z < (ks.length : Int) := by
  obtain ⟨i, hi⟩ := List.mem_iff_getElem?.mp hz
  obtain ⟨m, h1, h2⟩ := F.at_ i (by rw [← F.len]; exact (List.getElem?_eq_some_iff.mp hi).1)
  rw [h1] at hi; cases hi
  have := (List.getElem?_eq_some_iff.mp h2).1
  omega
theorem Fr.le (F : Fr ks f key j) : ks.length ≤ j := by
  have := nf_le f
  rw [F.nf, F.len] at this
  exact this
theorem Fr.new (F : Fr ks f key j) (h : key j ∉ ks) : Fr (ks ++ [key j]) (f ++ [(ks.length : Int)]) key (j + 1) := by
  have hn : (ks.length : Int) ∉ f := fun z => by have := (F.lt z).2; omega
  refine ⟨by rw [List.length_append, F.len]; rfl, ?_, fun i hi => ?_, fun k hk => ?_, by rw [nf_push, if_neg hn, F.nf, List.length_append]; rfl⟩
  · rw [List.nodup_append]
    refine ⟨F.nd, List.nodup_cons.mpr ⟨List.not_mem_nil, List.nodup_nil⟩, fun a ha b hb => ?_⟩
    rw [List.mem_singleton.mp hb]
    exact fun e => h (e ▸ ha)
  · by_cases e : i = j
    · subst e
      exact ⟨ks.length, by rw [List.getElem?_append_right (by rw [F.len]; exact Nat.le_refl _), F.len, Nat.sub_self]; rfl, by rw [List.getElem?_append_right (Nat.le_refl _), Nat.sub_self]; rfl⟩
    · obtain ⟨k, h1, h2⟩ := F.at_ i (by omega)
      exact ⟨k, by rw [List.getElem?_append_left (by rw [F.len]; omega)]; exact h1, by rw [List.getElem?_append_left (List.getElem?_eq_some_iff.mp h2).1]; exact h2⟩
  · by_cases e : k = ks.length
    · subst e; exact List.mem_append_right _ (List.mem_singleton.mpr rfl)
    · rw [List.length_append, List.length_singleton] at hk
      exact List.mem_append_left _ (F.used k (by omega))
theorem Fr.same (F : Fr ks f key j) {a b : Nat} (ha : a < j) (hb : b < j) : f[a]? = f[b]? ↔ key a = key b := by
  obtain ⟨m, h1, h2⟩ := F.at_ a ha
  obtain ⟨k, h3, h4⟩ := F.at_ b hb
  rw [h1, h3]
  constructor
  · intro e
    have : m = k := by have := Option.some.inj e; omega
    subst this
    rw [h2] at h4
    exact Option.some.inj h4
  · intro e
    rw [← e] at h4
    have : m = k := (List.getElem?_inj (List.getElem?_eq_some_iff.mp h2).1 F.nd).mp (h2.trans h4.symm)
    rw [this]
end
/-- the rounds so far: p -/
structure Rs (c : Nat) (rs : List (List Int)) (p : List Int) : Prop where
  len : p.length = c
  bs : ∀ a b, Bs c rs a b → p[a]? = p[b]?
def Fin (c : Nat) (rs : List (List Int)) (p : List Int) : Prop := ∀ a b, a < c → b < c → p[a]? = p[b]? → Bs c rs a b
section
variable {n c : Nat} {rs : List (List Int)} {p q : List Int} {key : Nat → Int × List Int × List Int}
theorem Rs.next (P : Rs c rs p) (k : Ky c rs p key) (hn : rs.length = n) (hc : c ≤ n) (h0 : ∀ r ∈ rs, ∀ e ∈ r, 0 ≤ e) (hasc : ∀ a, a < c → (key a).2.1.Pairwise (· < ·)) {ks : List (Int × List Int × List Int)} (F : Fr ks q key c) : Rs c rs q ∧ Rn p q key c := by
  refine ⟨⟨F.len, fun a b h => ?_⟩, P.len, F.len, fun a b ha hb => F.same ha hb, fun a b ha hb e => ?_⟩
  · obtain ⟨_, _, h1, h2, _⟩ := Bs.isB a b h
    exact (F.same h1 h2).mpr (k.keep hn hc P.len h0 hasc P.bs h)
  · obtain ⟨r, hr⟩ : ∃ r, rs[a]? = some r := ⟨_, List.getElem?_eq_getElem (by omega)⟩
    obtain ⟨s, hs⟩ : ∃ s, rs[b]? = some s := ⟨_, List.getElem?_eq_getElem (by omega)⟩
    rw [(k.val a r ha hr).2.1, (k.val b s hb hs).2.1, e]
/-- where a round parts nothing -/
theorem Rn.fin (R : Rn p q key c) (k : Ky c rs p key) (hn : rs.length = n) (hc : c ≤ n) (h0 : ∀ r ∈ rs, ∀ e ∈ r, 0 ≤ e) (e : ∀ a b, a < c → b < c → p[a]? = p[b]? → q[a]? = q[b]?) : Fin c rs p := by
  intro g h hg hh eg
  refine ⟨fun x y => x < c ∧ y < c ∧ p[x]? = p[y]?, ?_, hg, hh, eg⟩
  rintro x y ⟨hx, hy, exy⟩
  have ek := (R.same x y hx hy).mp (e x y hx hy exy)
  obtain ⟨r, hr⟩ : ∃ r, rs[x]? = some r := ⟨_, List.getElem?_eq_getElem (by omega)⟩
  obtain ⟨s, hs⟩ : ∃ s, rs[y]? = some s := ⟨_, List.getElem?_eq_getElem (by omega)⟩
  obtain ⟨k1, k2, k3⟩ := k.val x r hx hr
  obtain ⟨l1, l2, l3⟩ := k.val y s hy hs
  have lt : ∀ {r e}, r ∈ rs → e ∈ gp c r → e.toNat < c := fun {r e} hr he => by
    have := gp_mem.mp he
    have := h0 r hr e this.1
    omega
  have has : ∀ a, a < c → ∃ z, p[a]? = some z := fun a ha => ⟨_, List.getElem?_eq_getElem (by rw [R.lp]; exact ha)⟩
  refine ⟨r, s, hx, hy, hr, hs, by rw [← k1, ← l1, ek], fun e he => ?_, fun f hf => ?_⟩
  · have h1 := lt (List.mem_of_getElem? hr) he
    obtain ⟨z, hz⟩ := has _ h1
    have := (k3 z).mpr ⟨e, he, hz⟩
    rw [ek] at this
    obtain ⟨f, hf, hz2⟩ := (l3 z).mp this
    exact ⟨f, hf, h1, lt (List.mem_of_getElem? hs) hf, by rw [hz, hz2]⟩
  · have h1 := lt (List.mem_of_getElem? hs) hf
    obtain ⟨z, hz⟩ := has _ h1
    have := (l3 z).mpr ⟨f, hf, hz⟩
    rw [← ek] at this
    obtain ⟨e, he, hz2⟩ := (k3 z).mp this
    exact ⟨e, he, lt (List.mem_of_getElem? hr) he, h1, by rw [hz, hz2]⟩
/-- a numbering that is done stays so -/
theorem Fin.next (f : Fin c rs p) (P : Rs c rs p) (Q : Rs c rs q) (R : Rn p q key c) : Fin c rs q := fun a b ha hb e => f a b ha hb (R.ref a b ha hb ((R.same a b ha hb).mp e))
end
theorem Fr.map {κ μ : Type} {ks : List κ} {f : List Int} {key : Nat → κ} {j : Nat} (F : Fr ks f key j) {g : κ → μ} (hg : ∀ x y, g x = g y → x = y) : Fr (ks.map g) f (fun i => g (key i)) j := by
  refine ⟨F.len, ?_, fun i hi => ?_, fun m hm => F.used m (by rwa [List.length_map] at hm), by rw [F.nf, List.length_map]⟩
  · rw [List.Nodup, List.pairwise_map]
    exact F.nd.imp fun h e => h (hg _ _ e)
  · obtain ⟨m, h1, h2⟩ := F.at_ i hi
    exact ⟨m, h1, by rw [List.getElem?_map, h2]; rfl⟩
end Lm
namespace Lw
open PySem PySem.Spec PyProof.Rows L2
/-- a pair as a key -/
def pk (k : Int × List Int) : PKey := (Sum.inl k.1, tkey k.2)
/-- an ascending row of places -/
def Pr (n : Nat) (r : List Int) : Prop := r.Pairwise (· < ·) ∧ ∀ e ∈ r, 0 ≤ e ∧ e < (n : Int)
theorem Pr.up {n m : Nat} {r : List Int} (h : Pr n r) (hm : n ≤ m) : Pr m r := ⟨h.1, fun e he => by have := h.2 e he; omega⟩
theorem Pr.nil {n : Nat} : Pr n [] := ⟨List.Pairwise.nil, fun e he => nomatch he⟩
theorem Pr.push {n m : Nat} {r : List Int} {z : Int} (h : Pr n r) (h1 : (n : Int) ≤ z) (h2 : z < (m : Int)) : Pr m (r ++ [z]) := by
  refine ⟨?_, fun e he => ?_⟩
  · rw [List.pairwise_append]
    refine ⟨h.1, List.pairwise_singleton _ _, fun a ha b hb => ?_⟩
    rw [List.mem_singleton.mp hb]
    have := (h.2 a ha).2
    omega
  · rcases List.mem_append.mp he with q | q
    · have := h.2 e q; omega
    · rw [List.mem_singleton.mp q]; omega
end Lw
/-- a term, a body, a saying: a name, or a word with its parts -/
inductive Tre where
  | nm (x : PySem.Str)
  | nd (k : PySem.Str) (ps : List Tre)
namespace Tre
mutual
def size : Tre → Nat
  | .nm _ => 1
  | .nd _ ps => 1 + sizeAll ps
def sizeAll : List Tre → Nat
  | [] => 0
  | t :: r => size t + sizeAll r
end
mutual
def deep : Tre → Nat
  | .nm _ => 1
  | .nd _ ps => 1 + deepAll ps
def deepAll : List Tre → Nat
  | [] => 0
  | t :: r => max (deep t) (deepAll r)
end
open PySem
mutual
def data : Tre → PyData
  | .nm x => .tuple [.str "name", .str x]
  | .nd k ps => .tuple (.str k :: dataAll ps)
def dataAll : List Tre → List PyData
  | [] => []
  | t :: r => data t :: dataAll r
end
end Tre
namespace Lw
open PySem PySem.Spec PyProof.Rows L2
mutual
/-- the tree t at the value v -/
def Tat (H : Hp) : V → Tre → Prop
  | v, .nm x => ∃ a, v = .ref a ∧ H a = some (.tup [.str "name", .str x]) ∧ PyData.strOk x = true
  | v, .nd k ps => ∃ a vs, v = .ref a ∧ H a = some (.tup (.str k :: vs)) ∧ TatAll H vs ps ∧ PyData.strOk k = true
def TatAll (H : Hp) : List V → List Tre → Prop
  | vs, [] => vs = []
  | vs, t :: r => ∃ v ws, vs = v :: ws ∧ Tat H v t ∧ TatAll H ws r
end
/-- what keeps all tuples -/
def KT (H H' : Hp) : Prop := ∀ b ys, H b = some (.tup ys) → H' b = some (.tup ys)
theorem KT.of {H H' : Hp} (s : Same H H') : KT H H' := fun b ys e => s _ _ e
theorem KT.refl (H : Hp) : KT H H := fun _ _ e => e
theorem KT.trans {H1 H2 H3 : Hp} (a : KT H1 H2) (b : KT H2 H3) : KT H1 H3 := fun x ys e => b _ _ (a _ _ e)
mutual
theorem Tat.keep {H H' : Hp} (k : KT H H') : ∀ {t : Tre} {v : V}, Tat H v t → Tat H' v t
  | .nm _, _, h => by
    obtain ⟨a, e, h, hs⟩ := h
    exact ⟨a, e, k _ _ h, hs⟩
  | .nd _ _, _, h => by
    obtain ⟨a, vs, e, h, h2, hs⟩ := h
    exact ⟨a, vs, e, k _ _ h, TatAll.keep k h2, hs⟩
theorem TatAll.keep {H H' : Hp} (k : KT H H') : ∀ {ps : List Tre} {vs : List V}, TatAll H vs ps → TatAll H' vs ps
  | [], _, h => h
  | _ :: _, _, h => by
    obtain ⟨v, ws, e, h1, h2⟩ := h
    exact ⟨v, ws, e, Tat.keep k h1, TatAll.keep k h2⟩
end
theorem Tat.ref {H : Hp} {v : V} {t : Tre} (h : Tat H v t) : ∃ a, v = .ref a := by
  cases t with
  | nm x => obtain ⟨a, e, _⟩ := h; exact ⟨a, e⟩
  | nd k ps => obtain ⟨a, _, e, _⟩ := h; exact ⟨a, e⟩
theorem TatAll.len {H : Hp} : ∀ {ps : List Tre} {vs : List V}, TatAll H vs ps → vs.length = ps.length
  | [], _, h => by rw [h]; rfl
  | _ :: _, _, h => by
    obtain ⟨v, ws, rfl, _, h2⟩ := h
    rw [List.length_cons, List.length_cons, h2.len]
theorem TatAll.at {H : Hp} : ∀ {ps : List Tre} {vs : List V} {i : Nat} {v : V}, TatAll H vs ps → vs[i]? = some v → ∃ t, ps[i]? = some t ∧ Tat H v t
  | [], _, _, _, h, e => by rw [h] at e; simp at e
  | t :: r, _, 0, v, h, e => by
    obtain ⟨v', ws, rfl, h1, h2⟩ := h
    simp at e; subst e
    exact ⟨t, rfl, h1⟩
  | t :: r, _, i + 1, v, h, e => by
    obtain ⟨v', ws, rfl, h1, h2⟩ := h
    rw [List.getElem?_cons_succ] at e ⊢
    exact h2.at e
end Lw
namespace Lw
open PySem PySem.Spec PyProof.Rows L2
section
variable {K : PySem.W.Frag} {σ : L2.St} {H : Hp} {D : Ends} {g : TG} {tb : TS} {Q : VK}
theorem r_iTup {tl : TE} {R : It → Hp → Prop} (h : tl σ H fun x H1 => ∃ a, x = .ref a ∧ (∃ xs, SqT K H1 a xs) ∧ R (Itt K a) H1) : iTup K tl σ H R := h
theorem r_forT {a : Addr} {xs : List V} (hx : H a = some (.tup xs)) (Pv : Nat → L2.St → Hp → Prop) (h0 : Pv 0 σ H) (hl : ∀ i σ H, i ≤ xs.length → Pv i σ H → H a = some (.tup xs))
    (hs : ∀ i x σ H, xs[i]? = some x → Pv i σ H → g x σ H fun σ2 H2 => tb { D with nx := Pv (i + 1), ct := Pv (i + 1), bk := D.nx } σ2 H2) (hd : ∀ σ H, Pv xs.length σ H → D.nx σ H) :
    ∃ b, V.ref a = .ref b ∧ (∃ xs, SqT K H b xs) ∧ ∃ W : Nat → Nat → L2.St → Hp → Prop, (∃ m, W 0 m σ H) ∧ ∀ i m σ H, W i m σ H →
      ((Itt K b).stop i H ∧ D.nx σ H) ∨ ((Itt K b).go i H ∧ ∃ N : L2.St → Hp → Prop, (∀ σ' H', N σ' H' → ∃ m', m' < m ∧ W (i + 1) m' σ' H') ∧ ∀ x H', (Itt K b).yld i H x H' → g x σ H' fun σ2 H2 => tb { D with nx := N, ct := N, bk := D.nx } σ2 H2) :=
  ⟨a, rfl, ⟨xs, SqT.of hx⟩, for_tup Pv h0 (fun i σ H h1 h2 => SqT.of (hl i σ H h1 h2)) hs hd⟩
theorem r_ixS {z : Str} {i : Int} {c : Nat} (h : z.length ≤ sizeLine) (a : atI z.cps.toList i = some c) (q : Q (.str ⟨#[c]⟩) H) : rIxS (.str z) (.int i) H Q := ⟨z, i, c, rfl, rfl, h, a, q⟩
end
end Lw
namespace Lw
open PySem PySem.Spec PyProof.Rows L2
end Lw
namespace L2
open PySem PySem.Spec PyProof.Rows
end L2
namespace Lw
open PySem PySem.Spec PyProof.Rows L2
end Lw
namespace Lw
open PySem PySem.Spec PyProof.Rows L2
end Lw
namespace Lw
open PySem PySem.Spec PyProof.Rows L2
def rCatS : R2 := fun x y H Q => ∃ i j, x = .str i ∧ y = .str j ∧ i.length + j.length ≤ sizeLine ∧ Q (.str (i ++ j)) H
theorem op_catS {X : Cx} : OpR X (binaryOp .Add) rCatS := op_add_str
theorem r_catS {x y : Str} {H : Hp} {Q : VK} (h : x.length + y.length ≤ sizeLine) (q : Q (.str (x ++ y)) H) : rCatS (.str x) (.str y) H Q := ⟨x, y, rfl, rfl, h, q⟩
/-- each of these is a tree of at most n parts -/
def Tms (H : Hp) (n : Nat) (vs : List V) : Prop := ∀ v ∈ vs, ∃ t, Tat H v t ∧ t.size ≤ n
theorem Tms.keep {H H' : Hp} {n : Nat} {vs : List V} (k : KT H H') (h : Tms H n vs) : Tms H' n vs := fun v hv => by
  obtain ⟨t, h1, h2⟩ := h v hv
  exact ⟨t, h1.keep k, h2⟩
theorem Tms.push {H : Hp} {n : Nat} {vs : List V} {v : V} {t : Tre} (h : Tms H n vs) (h1 : Tat H v t) (h2 : t.size ≤ n) : Tms H n (vs ++ [v]) := fun x hx => by
  rcases List.mem_append.mp hx with e | e
  · exact h x e
  · rw [List.mem_singleton.mp e]; exact ⟨t, h1, h2⟩
theorem Tms.at {H : Hp} {n i : Nat} {vs : List V} {v : V} (h : Tms H n vs) (e : vs[i]? = some v) : ∃ t, Tat H v t ∧ t.size ≤ n := h v (List.mem_of_getElem? e)
theorem Tms.nil {H : Hp} {n : Nat} : Tms H n [] := fun _ h => nomatch h
end Lw
namespace Lw
open PySem PySem.Spec PyProof.Rows L2
end Lw
namespace Lw
open PySem PySem.Spec PyProof.Rows L2
end Lw
namespace L2
open PySem PySem.Spec PyProof.Rows
/-- o.m(e, ..) where what is raised is wished for at the caller's slots -/
def tMethT (C : Addr) (m : Str) (sp : Sp) (E : St → XK) (ta : TE) (t : TA) : TE := fun σ H Q => ta σ H fun x H1 => ∃ a dx fs, x = .ref a ∧ H1 a = some (.ins C dx fs) ∧ fs.lookup m = none ∧ t σ H1 fun vs H2 => sp (x :: vs) H2 Q (E σ)
end L2
namespace Lw
open PySem PySem.Spec PyProof.Rows L2
section
variable {K : PySem.W.Frag} {σ : L2.St} {H : Hp} {D : Ends} {Q : VK}
theorem r_fld {ta : TE} {f : Str} (h : ta σ H fun x H1 => ∃ a C dx fs v, x = .ref a ∧ H1 a = some (.ins C dx fs) ∧ Cls K C ∧ NoAttr K C f ∧ fs.lookup f = some v ∧ Q v H1) : tFld K ta f σ H Q := h
theorem r_fldI {a C dx : Addr} {fs : List (Str × V)} {f : Str} {v : V} (e : H a = some (.ins C dx fs)) (c : Cls K C) (n : NoAttr K C f) {F : V → Prop} (l : fs.lookup f = some v) (q : F v) : ∃ a' C dx fs v, V.ref a = .ref a' ∧ H a' = some (.ins C dx fs) ∧ Cls K C ∧ NoAttr K C f ∧ fs.lookup f = some v ∧ F v := ⟨a, C, dx, fs, v, rfl, e, c, n, l, q⟩
theorem r_sFld {ta tv : TE} {f : Str} (h : tv σ H fun y H1 => ta σ H1 fun x H2 => ∃ a C dx fs, x = .ref a ∧ H2 a = some (.ins C dx fs) ∧ Cls K C ∧ NoAttr K C f ∧ fs.length < 1000 ∧ D.nx σ (upd H2 a (.ins C dx (putF f y fs)))) : sFld K ta tv f D σ H := h
theorem r_sFldI {a C dx : Addr} {fs : List (Str × V)} {f : Str} {y : V} {F : Hp → Prop} (e : H a = some (.ins C dx fs)) (c : Cls K C) (n : NoAttr K C f) (l : fs.length < 1000) (q : F (upd H a (.ins C dx (putF f y fs)))) :
    ∃ a' C dx fs, V.ref a = .ref a' ∧ H a' = some (.ins C dx fs) ∧ Cls K C ∧ NoAttr K C f ∧ fs.length < 1000 ∧ F (upd H a' (.ins C dx (putF f y fs))) := ⟨a, C, dx, fs, rfl, e, c, n, l, q⟩
theorem r_meth {C : Addr} {m : Str} {sp : Sp} {dvs : List V} {E : XK} {ta : TE} {t : TA} (h : ta σ H fun x H1 => ∃ a dx fs, x = .ref a ∧ H1 a = some (.ins C dx fs) ∧ fs.lookup m = none ∧ t σ H1 fun vs H2 => sp (x :: (vs ++ dvs)) H2 Q E) : tMeth C m sp dvs E ta t σ H Q := h
theorem r_methT {C : Addr} {m : Str} {sp : Sp} {E : L2.St → XK} {ta : TE} {t : TA} (h : ta σ H fun x H1 => ∃ a dx fs, x = .ref a ∧ H1 a = some (.ins C dx fs) ∧ fs.lookup m = none ∧ t σ H1 fun vs H2 => sp (x :: vs) H2 Q (E σ)) : tMethT C m sp E ta t σ H Q := h
theorem r_prop {C : Addr} {sp : Sp} {dvs : List V} {E : XK} {ta : TE} (h : ta σ H fun x H1 => ∃ a dx fs, x = .ref a ∧ H1 a = some (.ins C dx fs) ∧ sp (.ref a :: dvs) H1 Q E) : tProp C sp dvs E ta σ H Q := h
end
theorem iteNTr {A B : Prop} (h : B) : if (!true) = true then A else B := by rw [if_neg (by decide)]; exact h
theorem iteNFa {A B : Prop} (h : A) : if (!false) = true then A else B := by rw [if_pos (by decide)]; exact h
/-- what keeps all but some objects -/
def Kp (N : Addr → Prop) (H H' : Hp) : Prop := ∀ c o, H c = some o → ¬ N c → H' c = some o
theorem Kp.of {N : Addr → Prop} {H H' : Hp} (s : Same H H') : Kp N H H' := fun c o e _ => s c o e
theorem Kp.trans {N : Addr → Prop} {H1 H2 H3 : Hp} (a : Kp N H1 H2) (b : Kp N H2 H3) : Kp N H1 H3 := fun c o e n => b c o (a c o e n) n
theorem Kp.mono {N M : Addr → Prop} {H H' : Hp} (a : Kp N H H') (h : ∀ c, N c → M c) : Kp M H H' := fun c o e n => a c o e fun z => n (h c z)
theorem Kp.put {N : Addr → Prop} {H : Hp} {p : Addr} {x : HO} (h : N p) : Kp N H (upd H p x) := fun c o e n => by
  have : c ≠ p := fun z => n (by rw [z]; exact h)
  rw [upd_ne this]; exact e
end Lw
namespace Lw
open PySem PySem.W PySem.Calls PyProof.Rows
end Lw
namespace Lw
open PySem PySem.W PyProof.Rows
theorem runs_det {M : Model} {Γ : Ctx} {p : Pos} {t : Sem PySem.Fin} {fs : List Frame} {s s' : Shared} {e : End} (h : Runs M Γ p t fs s e s') : ∀ {e2 : End} {s2 : Shared}, Runs M Γ p t fs s e2 s2 → e = e2 ∧ s' = s2 := by
  induction h with
  | done => intro e2 s2 h2; cases h2; exact ⟨rfl, rfl⟩
  | raise => intro e2 s2 h2; cases h2; exact ⟨rfl, rfl⟩
  | again _ _ ih => intro e2 s2 h2; cases h2 with | again _ h => exact ih h
  | rule _ ih => intro e2 s2 h2; cases h2 with | rule h => exact ih h
  | «at» _ ih => intro e2 s2 h2; cases h2 with | «at» h => exact ih h
  | load e1 _ ih => intro e2 s2 h2; cases h2 with | load e' h => rw [e1] at e'; cases e'; exact ih h
  | update _ _ ih => intro e2 s2 h2; cases h2 with | update _ h => exact ih h
  | loadIfAlive _ ih => intro e2 s2 h2; cases h2 with | loadIfAlive h => exact ih h
  | point _ ih => intro e2 s2 h2; cases h2 with | point h => exact ih h
  | alloc _ ih => intro e2 s2 h2; cases h2 with | alloc h => exact ih h
  | fresh _ ih => intro e2 s2 h2; cases h2 with | fresh h => exact ih h
  | ask _ ih => intro e2 s2 h2; cases h2 with | ask h => exact ih h
  | choose _ _ ih => intro e2 s2 h2; cases h2 with | choose _ h => exact ih h
  | os _ ih => intro e2 s2 h2; cases h2 with | os h => exact ih h
  | handled _ ih => intro e2 s2 h2; cases h2 with | handled h => exact ih h
  | genState e1 _ ih => intro e2 s2 h2; cases h2 with | genState e' h => rw [e1] at e'; cases e'; exact ih h
  | stack _ ih => intro e2 s2 h2; cases h2 with | stack h => exact ih h
  | thread _ ih => intro e2 s2 h2; cases h2 with | thread h => exact ih h
  | newGen _ ih => intro e2 s2 h2; cases h2 with | newGen h => exact ih h
  | call _ _ ih1 ih2 =>
    intro e2 s2 h2
    cases h2 with
    | call a b => obtain ⟨z, rfl⟩ := ih1 a; cases z; exact ih2 b
    | callSusp a => obtain ⟨z, _⟩ := ih1 a; cases z
  | callSusp _ ih1 =>
    intro e2 s2 h2
    cases h2 with
    | call a b => obtain ⟨z, _⟩ := ih1 a; cases z
    | callSusp a => obtain ⟨z, rfl⟩ := ih1 a; cases z; exact ⟨rfl, rfl⟩
  | yield => intro e2 s2 h2; cases h2; exact ⟨rfl, rfl⟩
  | resumeFresh e1 _ _ _ ih1 ih2 =>
    intro e2 s2 h2
    cases h2 with
    | resumeFresh e' a _ b => rw [e1] at e'; cases e'; obtain ⟨rfl, rfl⟩ := ih1 a; exact ih2 b
    | resumeSuspended e' => rw [e1] at e'; cases e'
    | resumeJustStarted e' n => exact absurd rfl n
    | resumeRunning e' => rw [e1] at e'; cases e'
    | resumeFinished e' => rw [e1] at e'; cases e'
  | resumeSuspended e1 _ _ _ ih1 ih2 =>
    intro e2 s2 h2
    cases h2 with
    | resumeFresh e' => rw [e1] at e'; cases e'
    | resumeSuspended e' a _ b => rw [e1] at e'; cases e'; obtain ⟨rfl, rfl⟩ := ih1 a; exact ih2 b
    | resumeJustStarted e' n => rw [e1] at e'; cases e'
    | resumeThrowFresh e' => rw [e1] at e'; cases e'
    | resumeRunning e' => rw [e1] at e'; cases e'
    | resumeFinished e' => rw [e1] at e'; cases e'
  | resumeJustStarted e1 n _ ih =>
    intro e2 s2 h2
    cases h2 with
    | resumeFresh => exact absurd rfl n
    | resumeSuspended e' => rw [e1] at e'; cases e'
    | resumeJustStarted _ _ b => exact ih b
    | resumeRunning e' => rw [e1] at e'; cases e'
    | resumeFinished e' => rw [e1] at e'; cases e'
  | resumeThrowFresh e1 _ ih =>
    intro e2 s2 h2
    cases h2 with
    | resumeSuspended e' => rw [e1] at e'; cases e'
    | resumeThrowFresh _ b => exact ih b
    | resumeRunning e' => rw [e1] at e'; cases e'
    | resumeFinished e' => rw [e1] at e'; cases e'
  | resumeRunning e1 _ ih =>
    intro e2 s2 h2
    cases h2 with
    | resumeFresh e' => rw [e1] at e'; cases e'
    | resumeSuspended e' => rw [e1] at e'; cases e'
    | resumeJustStarted e' => rw [e1] at e'; cases e'
    | resumeThrowFresh e' => rw [e1] at e'; cases e'
    | resumeRunning _ b => exact ih b
    | resumeFinished e' => rw [e1] at e'; cases e'
  | resumeFinished e1 _ ih =>
    intro e2 s2 h2
    cases h2 with
    | resumeFresh e' => rw [e1] at e'; cases e'
    | resumeSuspended e' => rw [e1] at e'; cases e'
    | resumeJustStarted e' => rw [e1] at e'; cases e'
    | resumeThrowFresh e' => rw [e1] at e'; cases e'
    | resumeRunning e' => rw [e1] at e'; cases e'
    | resumeFinished _ b => exact ih b
  | segRet _ _ ih1 ih2 =>
    intro e2 s2 h2
    cases h2 with
    | segRet a b => obtain ⟨z, rfl⟩ := ih1 a; cases z; exact ih2 b
    | segSuspOut _ a => obtain ⟨z, _⟩ := ih1 a; cases z
    | segSuspGen _ a => obtain ⟨z, _⟩ := ih1 a; cases z
  | segGen _ _ ih1 ih2 =>
    intro e2 s2 h2
    cases h2 with
    | segGen a b => obtain ⟨z, rfl⟩ := ih1 a; cases z; exact ih2 b
    | segSuspOut _ a => obtain ⟨z, _⟩ := ih1 a; cases z
    | segSuspGen _ a => obtain ⟨z, _⟩ := ih1 a; cases z
  | segSuspOut e1 _ ih1 =>
    intro e2 s2 h2
    cases h2 with
    | segRet a b => obtain ⟨z, _⟩ := ih1 a; cases z
    | segGen a b => obtain ⟨z, _⟩ := ih1 a; cases z
    | segSuspOut _ a => obtain ⟨z, rfl⟩ := ih1 a; cases z; exact ⟨rfl, rfl⟩
    | segSuspGen e' => rw [e1] at e'; cases e'
  | segSuspGen e1 _ _ _ ih1 ih2 =>
    intro e2 s2 h2
    cases h2 with
    | segRet a b => obtain ⟨z, _⟩ := ih1 a; cases z
    | segGen a b => obtain ⟨z, _⟩ := ih1 a; cases z
    | segSuspOut e' => rw [e1] at e'; cases e'
    | segSuspGen e' a _ b => rw [e1] at e'; cases e'; obtain ⟨z, rfl⟩ := ih1 a; cases z; exact ih2 b
theorem wakes_det {M : Model} {Γ : Ctx} {p : Pos} {g : Nat} {r : Resume} {s : Shared} {x y : GenResult} {s1 s2 : Shared} (h1 : Wakes M Γ p g r s x s1) (h2 : Wakes M Γ p g r s y s2) : x = y ∧ s1 = s2 := by
  unfold Wakes at h1 h2
  cases hg : s.gens[g]? with
  | none => rw [hg] at h1; exact h1.elim
  | some u =>
    rw [hg] at h1 h2
    cases u with
    | fresh c =>
      dsimp only at h1 h2
      split at h1
      · obtain ⟨e1, t1, a1, b1, rfl, rfl⟩ := h1
        obtain ⟨e2, t2, a2, b2, rfl, rfl⟩ := h2
        obtain ⟨rfl, rfl⟩ := runs_det a1 a2
        exact ⟨rfl, rfl⟩
      · split at h2
        · simp_all
        · obtain ⟨rfl, rfl⟩ := h1
          obtain ⟨rfl, rfl⟩ := h2
          exact ⟨rfl, rfl⟩
        · rename_i q; cases q
      · obtain ⟨rfl, rfl⟩ := h1
        obtain ⟨rfl, rfl⟩ := h2
        exact ⟨rfl, rfl⟩
    | suspended k₀ l c₀ p₀ fs cl =>
      obtain ⟨e1, t1, a1, b1, rfl, rfl⟩ := h1
      obtain ⟨e2, t2, a2, b2, rfl, rfl⟩ := h2
      obtain ⟨rfl, rfl⟩ := runs_det a1 a2
      exact ⟨rfl, rfl⟩
    | running =>
      obtain ⟨rfl, rfl⟩ := h1
      obtain ⟨rfl, rfl⟩ := h2
      exact ⟨rfl, rfl⟩
    | finished =>
      obtain ⟨rfl, rfl⟩ := h1
      obtain ⟨rfl, rfl⟩ := h2
      exact ⟨rfl, rfl⟩
theorem wp_meet {M : Model} {Γ : Ctx} {α : Type} {Q Q' : α → Pos → Shared → Prop} {E E' : Value → Pos → Shared → Prop} : ∀ (t : Sem α) (p : Pos) (s : Shared), Sem.wp M Γ t Q E p s → Sem.wp M Γ t Q' E' p s →
    (∃ a p' s', Q a p' s' ∧ Q' a p' s') ∨ (∃ e p' s', E e p' s' ∧ E' e p' s') := by
  intro t
  induction t with
  | pure a => intro p s h1 h2; exact .inl ⟨_, _, _, h1, h2⟩
  | raise e => intro p s h1 h2; exact .inr ⟨_, _, _, h1, h2⟩
  | unsupported _ => intro p s h1 h2; exact h1.elim
  | finish _ => intro p s h1 h2; exact h1.elim
  | rule _ k ih => intro p s h1 h2; exact ih () _ _ h1 h2
  | «at» _ k ih => intro p s h1 h2; exact ih () _ _ h1 h2
  | load a _ k ih => intro p s h1 h2; obtain ⟨o, e, h1⟩ := h1; obtain ⟨o', e', h2⟩ := h2; rw [e] at e'; cases e'; exact ih _ _ _ h1 h2
  | update a _ f k ih => intro p s h1 h2; exact ih () _ _ h1.2 h2.2
  | alloc o k ih => intro p s h1 h2; exact ih _ _ _ h1 h2
  | loadIfAlive a k ih => intro p s h1 h2; exact ih _ _ _ h1 h2
  | point l k ih => intro p s h1 h2; exact ih () _ _ h1 h2
  | register a k ih => intro p s h1 h2; exact h1.elim
  | fresh k ih => intro p s h1 h2; exact ih _ _ _ h1 h2
  | ask k ih => intro p s h1 h2; exact ih _ _ _ h1 h2
  | choose src n k ih => intro p s h1 h2; exact ih _ _ _ h1.2 h2.2
  | os q l k ih => intro p s h1 h2; exact ih _ _ _ h1 h2
  | call c h g l k ih =>
    intro p s h1 h2
    obtain ⟨r, s1, a1, h1⟩ := h1
    obtain ⟨r', s1', a2, h2⟩ := h2
    obtain ⟨z, rfl⟩ := runs_det a1 a2
    cases z
    exact ih _ _ _ h1 h2
  | handled own k ih => intro p s h1 h2; exact ih _ _ _ h1 h2
  | newGen c k ih => intro p s h1 h2; exact ih _ _ _ h1 h2
  | genState g k ih => intro p s h1 h2; obtain ⟨o, e, h1⟩ := h1; obtain ⟨o', e', h2⟩ := h2; rw [e] at e'; cases e'; exact ih _ _ _ h1 h2
  | resume g r l k ih =>
    intro p s h1 h2
    obtain ⟨x, s1, a1, h1⟩ := h1
    obtain ⟨y, s1', a2, h2⟩ := h2
    obtain ⟨rfl, rfl⟩ := wakes_det a1 a2
    exact ih _ _ _ h1 h2
  | yield v g l k ih => intro p s h1 h2; exact h1.elim
  | stack k ih => intro p s h1 h2; exact ih _ _ _ h1 h2
  | fork c k ih => intro p s h1 h2; exact h1.elim
  | thread k ih => intro p s h1 h2; exact ih _ _ _ h1 h2
  | await a f d l k ih => intro p s h1 h2; exact h1.elim
end Lw
namespace Lw
open PySem PySem.W PyProof.Rows
/-- two sorts side by side: items it1 by a comparison that keeps I, items it2 by one that leaves the state s0 -/
structure Ct where
  ι : Type
  M : Model
  Γ : Ctx
  s0 : Shared
  I : Shared → Prop
  E : Value → Shared → Prop
  κ1 : SortKind
  κ2 : SortKind
  it1 : ι → Keyed
  it2 : ι → Keyed
class Rl (α : Type) where
  r : Ct → α → α → Prop
class RlEq (α : Type) [Rl α] : Prop where
  eq : ∀ (c : Ct) (a b : α), Rl.r c a b → a = b
  rf : ∀ (c : Ct) (a : α), Rl.r c a a
instance : Rl Nat := ⟨fun _ a b => a = b⟩
instance : Rl Bool := ⟨fun _ a b => a = b⟩
instance : Rl PUnit := ⟨fun _ a b => a = b⟩
instance : RlEq Nat := ⟨fun _ _ _ h => h, fun _ _ => rfl⟩
instance : RlEq Bool := ⟨fun _ _ _ h => h, fun _ _ => rfl⟩
instance : RlEq PUnit := ⟨fun _ _ _ h => h, fun _ _ => rfl⟩
instance (priority := 2000) rlKeyed : Rl Keyed := ⟨fun c a b => ∃ i, a = c.it1 i ∧ b = c.it2 i⟩
instance rlArr : Rl (Array Keyed) := ⟨fun c a b => ∃ p : Array c.ι, a = p.map c.it1 ∧ b = p.map c.it2⟩
instance {α : Type} [Rl α] : Rl (Option α) := ⟨fun c a b => match a, b with | none, none => True | some x, some y => Rl.r c x y | _, _ => False⟩
instance {α : Type} [Rl α] [RlEq α] : RlEq (Option α) := ⟨fun c a b h => by
  match a, b, h with
  | none, none, _ => rfl
  | some x, some y, h => exact congrArg some (RlEq.eq c x y h), fun c a => by
  match a with
  | none => trivial
  | some x => exact RlEq.rf c x⟩
instance {α β : Type} [Rl α] [Rl β] : Rl (α × β) := ⟨fun c a b => Rl.r c a.1 b.1 ∧ Rl.r c a.2 b.2⟩
instance {α β : Type} [Rl α] [Rl β] [RlEq α] [RlEq β] : RlEq (α × β) := ⟨fun c a b h => Prod.ext (RlEq.eq c _ _ h.1) (RlEq.eq c _ _ h.2), fun c a => ⟨RlEq.rf c _, RlEq.rf c _⟩⟩
instance {α β : Type} [Rl α] [Rl β] : Rl (MProd α β) := ⟨fun c a b => Rl.r c a.1 b.1 ∧ Rl.r c a.2 b.2⟩
instance {α β : Type} [Rl α] [Rl β] [RlEq α] [RlEq β] : RlEq (MProd α β) := ⟨fun c a b h => by
  obtain ⟨a1, a2⟩ := a
  obtain ⟨b1, b2⟩ := b
  have h1 := RlEq.eq c _ _ h.1
  have h2 := RlEq.eq c _ _ h.2
  dsimp only at h1 h2
  rw [h1, h2], fun c a => ⟨RlEq.rf c _, RlEq.rf c _⟩⟩
instance {α : Type} [Rl α] : Rl (ForInStep α) := ⟨fun c a b => match a, b with | .done x, .done y => Rl.r c x y | .yield x, .yield y => Rl.r c x y | _, _ => False⟩
instance {α : Type} [Rl α] [RlEq α] : RlEq (ForInStep α) := ⟨fun c a b h => by
  match a, b, h with
  | .done x, .done y, h => exact congrArg _ (RlEq.eq c x y h)
  | .yield x, .yield y, h => exact congrArg _ (RlEq.eq c x y h), fun c a => by
  match a with
  | .done x => exact RlEq.rf c x
  | .yield x => exact RlEq.rf c x⟩
instance rlSt : Rl SortSt := ⟨fun c a b => ∃ (p : Array c.ι) (pe : Array (Nat × Nat × Nat)) (g : Nat), a = SortSt.mk' c.κ1 (p.map c.it1) pe g none ∧ b = SortSt.mk' c.κ2 (p.map c.it2) pe g none⟩
def Tr (c : Ct) {α : Type} [Rl α] (m1 m2 : StateT SortSt Sem α) : Prop :=
  ∀ st1 st2, Rl.r c st1 st2 → ∀ (Q : α → SortSt → Pos → Shared → Prop) (p2 : Pos), Sem.wp c.M c.Γ (m2.run st2) (fun r p' s' => Q r.1 r.2 p' s') (fun _ _ _ => False) p2 c.s0 →
    ∀ (p1 : Pos) (s1 : Shared), c.I s1 → Sem.wp c.M c.Γ (m1.run st1) (fun r _ s' => c.I s' ∧ ∃ a2 st2' p2', Rl.r c r.1 a2 ∧ Rl.r c r.2 st2' ∧ Q a2 st2' p2' c.s0) (fun e _ s' => c.E e s') p1 s1
section
variable {c : Ct} {α β : Type} [Rl α] [Rl β]
theorem tr_pure {a b : α} (h : Rl.r c a b) : Tr c (pure a) (pure b) := by
  intro st1 st2 hst Q p2 w p1 s1 hi
  rw [StateT.run_pure] at w ⊢
  exact ⟨hi, _, _, _, h, hst, w⟩
theorem tr_bind {m1 m2 : StateT SortSt Sem α} {f1 f2 : α → StateT SortSt Sem β} (h : Tr c m1 m2) (k : ∀ a b, Rl.r c a b → Tr c (f1 a) (f2 b)) : Tr c (m1 >>= f1) (m2 >>= f2) := by
  intro st1 st2 hst Q p2 w p1 s1 hi
  rw [StateT.run_bind] at w ⊢
  rw [Sem.wp_bind'] at w ⊢
  refine Sem.wp_mono _ _ _ (fun r p' s' hq => ?_) (fun _ _ _ e => e) _ _ (h st1 st2 hst (fun a st p s => Sem.wp c.M c.Γ ((f2 a).run st) (fun r p' s' => Q r.1 r.2 p' s') (fun _ _ _ => False) p s) p2 w p1 s1 hi)
  obtain ⟨hi', a2, st2', p2', ha, hs, w'⟩ := hq
  exact k _ _ ha _ _ hs Q p2' w' p' s' hi'
theorem tr_bindE [RlEq α] {m1 m2 : StateT SortSt Sem α} {f1 f2 : α → StateT SortSt Sem β} (h : Tr c m1 m2) (k : ∀ a, Tr c (f1 a) (f2 a)) : Tr c (m1 >>= f1) (m2 >>= f2) :=
  tr_bind h fun a b e => by rw [RlEq.eq c a b e]; exact k b
theorem tr_get : Tr c (get : StateT SortSt Sem SortSt) get := by
  intro st1 st2 hst Q p2 w p1 s1 hi
  rw [StateT.run_get] at w ⊢
  exact ⟨hi, _, _, _, hst, hst, w⟩
theorem tr_modify {f1 f2 : SortSt → SortSt} (h : ∀ a b, Rl.r c a b → Rl.r c (f1 a) (f2 b)) : Tr c (modify f1 : StateT SortSt Sem PUnit) (modify f2) := by
  intro st1 st2 hst Q p2 w p1 s1 hi
  rw [StateT.run_modify] at w ⊢
  exact ⟨hi, _, _, _, rfl, h _ _ hst, w⟩
theorem tr_set {t1 t2 : SortSt} (h : Rl.r c t1 t2) : Tr c (set t1 : StateT SortSt Sem PUnit) (set t2) := by
  intro st1 st2 hst Q p2 w p1 s1 hi
  rw [StateT.run_set] at w ⊢
  exact ⟨hi, _, _, _, rfl, h, w⟩
theorem tr_rule {t : String} {f1 f2 : PUnit → StateT SortSt Sem β} (k : Tr c (f1 ⟨⟩) (f2 ⟨⟩)) : Tr c ((liftM (rule t) : StateT SortSt Sem PUnit) >>= f1) ((liftM (rule t) : StateT SortSt Sem PUnit) >>= f2) := by
  refine tr_bindE (α := PUnit) ?_ fun ⟨⟩ => k
  intro st1 st2 hst Q p2 w p1 s1 hi
  change Sem.wp _ _ ((StateT.lift (rule t) : StateT SortSt Sem PUnit).run st2) _ _ _ _ at w
  show Sem.wp _ _ ((StateT.lift (rule t) : StateT SortSt Sem PUnit).run st1) _ _ _ _
  rw [StateT.run_lift, Sem.wp_bind'] at w ⊢
  exact ⟨hi, _, _, _, rfl, hst, w⟩
theorem tr_unsup {m1 : StateT SortSt Sem α} {t : String} : Tr c m1 (liftM (unsupported t : Sem α)) := by
  intro st1 st2 hst Q p2 w p1 s1 hi
  change Sem.wp _ _ ((StateT.lift (unsupported t) : StateT SortSt Sem α).run st2) _ _ _ _ at w
  rw [StateT.run_lift, Sem.wp_bind'] at w
  exact w.elim
theorem tr_forL {f1 f2 : Nat → β → StateT SortSt Sem (ForInStep β)} (h : ∀ x b1 b2, Rl.r c b1 b2 → Tr c (f1 x b1) (f2 x b2)) : ∀ (l : List Nat) (b1 b2 : β), Rl.r c b1 b2 → Tr c (forIn l b1 f1) (forIn l b2 f2)
  | [], b1, b2, hb => by rw [List.forIn_nil, List.forIn_nil]; exact tr_pure hb
  | x :: l, b1, b2, hb => by
    rw [List.forIn_cons, List.forIn_cons]
    refine tr_bind (h x b1 b2 hb) fun a b hab => ?_
    match a, b, hab with
    | .done a, .done b, hab => exact tr_pure hab
    | .yield a, .yield b, hab => exact tr_forL h l a b hab
theorem tr_for {f1 f2 : Nat → β → StateT SortSt Sem (ForInStep β)} {i j : Nat} {b1 b2 : β} (hb : Rl.r c b1 b2) (h : ∀ x b1 b2, Rl.r c b1 b2 → Tr c (f1 x b1) (f2 x b2)) : Tr c (forIn [i:j] b1 f1) (forIn [i:j] b2 f2) := by
  rw [Std.Legacy.Range.forIn_eq_forIn_range', Std.Legacy.Range.forIn_eq_forIn_range']
  exact tr_forL h _ _ _ hb
theorem tr_forE [RlEq β] {f1 f2 : Nat → β → StateT SortSt Sem (ForInStep β)} {i j : Nat} {b : β} (h : ∀ x b, Tr c (f1 x b) (f2 x b)) : Tr c (forIn [i:j] b f1) (forIn [i:j] b f2) :=
  tr_for (RlEq.rf c b) fun x b1 b2 hb => by rw [RlEq.eq c b1 b2 hb]; exact h x b2
theorem tr_ite {p : Prop} [Decidable p] {a1 a2 b1 b2 : StateT SortSt Sem α} (h1 : p → Tr c a1 a2) (h2 : ¬p → Tr c b1 b2) : Tr c (if p then a1 else b1) (if p then a2 else b2) := by
  by_cases h : p
  · rw [if_pos h, if_pos h]; exact h1 h
  · rw [if_neg h, if_neg h]; exact h2 h
theorem tr_elem {p : Array c.ι} {i : Nat} : Tr c (elem' (p.map c.it1) i) (elem' (p.map c.it2) i) := by
  rw [elem'_eq, elem'_eq, Array.getElem?_map, Array.getElem?_map]
  cases p[i]? with
  | none => exact tr_unsup
  | some x => exact tr_pure ⟨x, rfl, rfl⟩
/-- the comparisons: lt on both sides -/
structure CtOk (c : Ct) (lt : c.ι → c.ι → Bool) : Prop where
  h1 : ∀ i j s p, c.I s → Sem.wp c.M c.Γ (keyLt' c.κ1 (c.it1 i).1 (c.it1 j).1) (fun b _ s' => b = lt i j ∧ c.I s') (fun _ _ _ => False) p s
  h2 : ∀ i j p, Sem.wp c.M c.Γ (keyLt' c.κ2 (c.it2 i).1 (c.it2 j).1) (fun b _ s' => b = lt i j ∧ s' = c.s0) (fun _ _ _ => False) p c.s0
theorem tr_lt {lt : c.ι → c.ι → Bool} (O : CtOk c lt) {i j : c.ι} : Tr c (lt' (c.it1 i) (c.it1 j)) (lt' (c.it2 i) (c.it2 j)) := by
  rw [lt'_eq, lt'_eq]
  refine tr_bind tr_get ?_
  rintro a b ⟨p, pe, g, rfl, rfl⟩
  intro st1 st2 hst Q p2 w p1 s1 hi
  rw [StateT.run_bind, Sem.wp_bind'] at w ⊢
  change Sem.wp _ _ ((StateT.lift (Sem.attempt (keyLt' c.κ2 (c.it2 i).1 (c.it2 j).1)) : StateT SortSt Sem _).run st2) _ _ _ _ at w
  show Sem.wp _ _ ((StateT.lift (Sem.attempt (keyLt' c.κ1 (c.it1 i).1 (c.it1 j).1)) : StateT SortSt Sem _).run st1) _ _ _ _
  rw [StateT.run_lift, Sem.wp_bind', Sem.wp_attempt] at w ⊢
  rcases wp_meet _ _ _ (O.h2 i j p2) w with ⟨b, p', s', ⟨rfl, rfl⟩, w⟩ | ⟨_, _, _, z, _⟩
  · refine Sem.wp_mono _ _ _ (fun b p'' s'' hb => ?_) (fun _ _ _ e => e.elim) _ _ (O.h1 i j s1 p1 hi)
    obtain ⟨rfl, hi'⟩ := hb
    exact ⟨hi', some (lt i j), st2, p', rfl, hst, w⟩
  · exact z.elim
end
end Lw
namespace Lw
open PySem PySem.W PyProof.Rows
local macro_rules | `(tactic| walk_at "trgo") => `(tactic| repeat' (first
  | exact tr_unsup
  | exact tr_pure (RlEq.rf _ _)
  | with_reducible refine tr_ite (fun _ => ?_) (fun _ => ?_)
  | walk_at "trcall"
  | with_reducible refine tr_bindE (tr_forE fun x b => ?_) fun r => ?_
  | split
  | dsimp only))
section
variable {c : Ct} {lt : c.ι → c.ι → Bool} (O : CtOk c lt)
include O
theorem tr_beyond {left : Bool} {k : c.ι} {p : Array c.ι} {base i : Nat} : Tr c (beyond' left (c.it1 k) (p.map c.it1) base i) (beyond' left (c.it2 k) (p.map c.it2) base i) := by
  unfold beyond'
  refine tr_bind tr_elem ?_
  rintro _ _ ⟨x, rfl, rfl⟩
  refine tr_ite (fun _ => tr_lt O) fun _ => ?_
  exact tr_bindE (tr_lt O) fun b => tr_pure (RlEq.rf c _)
local macro_rules | `(tactic| walk_at "trcall") => `(tactic| with_reducible refine tr_bindE (tr_beyond (by assumption)) fun b => ?_)
theorem tr_gallop {left : Bool} {k : c.ι} {p : Array c.ι} {base n hint : Nat} : Tr c (gallop' left (c.it1 k) (p.map c.it1) base n hint) (gallop' left (c.it2 k) (p.map c.it2) base n hint) := by
  rw [gallop'_eq, gallop'_eq]
  walk_at "trgo"
theorem tr_ltAt {i j : Nat} : Tr c (ltAt' i j) (ltAt' i j) := by
  rw [ltAt'_eq]
  refine tr_bind tr_get ?_
  rintro a b ⟨p, pe, g, rfl, rfl⟩
  refine tr_bind (tr_elem (p := p)) ?_
  rintro _ _ ⟨x, rfl, rfl⟩
  refine tr_bind (tr_elem (p := p)) ?_
  rintro _ _ ⟨y, rfl, rfl⟩
  exact tr_lt O
omit O in
theorem tr_rev {i j : Nat} : Tr c (reverseSlice' i j) (reverseSlice' i j) := by
  rw [reverseSlice'_eq]
  refine tr_modify ?_
  rintro a b ⟨p, pe, g, rfl, rfl⟩
  refine ⟨mirror p i j ((j - i) / 2), pe, g, ?_, ?_⟩
  · exact congrArg (fun z => SortSt.mk' c.κ1 z pe g none) (kas_swaps_map c.it1 (fun k => i + k) (fun k => j - 1 - k) _ p)
  · exact congrArg (fun z => SortSt.mk' c.κ2 z pe g none) (kas_swaps_map c.it2 (fun k => i + k) (fun k => j - 1 - k) _ p)
omit O in
theorem tr_move {i j : Nat} : Tr c (moveDown' i j) (moveDown' i j) := by
  rw [moveDown'_eq]
  refine tr_modify ?_
  rintro a b ⟨p, pe, g, rfl, rfl⟩
  refine ⟨bubble p i (i - j), pe, g, ?_, ?_⟩
  · exact congrArg (fun z => SortSt.mk' c.κ1 z pe g none) (kas_swaps_map c.it1 (fun k => i - k) (fun k => i - k - 1) _ p)
  · exact congrArg (fun z => SortSt.mk' c.κ2 z pe g none) (kas_swaps_map c.it2 (fun k => i - k) (fun k => i - k - 1) _ p)
local macro_rules | `(tactic| walk_at "trcall") => `(tactic| first
  | with_reducible refine tr_bindE (tr_ltAt (by assumption)) fun b => ?_
  | with_reducible refine tr_bindE tr_rev fun b => ?_
  | with_reducible refine tr_bindE tr_move fun b => ?_
  | with_reducible refine tr_rule ?_)
theorem tr_count {lo nrem : Nat} : Tr c (countRun' lo nrem) (countRun' lo nrem) := by
  rw [countRun'_eq]
  walk_at "trgo"
theorem tr_bin {lo n ok : Nat} : Tr c (binarySort' lo n ok) (binarySort' lo n ok) := by
  rw [binarySort'_eq]
  walk_at "trgo"
end
end Lw
namespace Lw
open PySem PySem.W PyProof.Rows
section
variable {c : Ct} {α β : Type} [Rl α] [Rl β]
theorem rl_prod {a a' : α} {b b' : β} (h1 : Rl.r c a a') (h2 : Rl.r c b b') : Rl.r c (a, b) (a', b') := ⟨h1, h2⟩
theorem rl_done {a b : α} (h : Rl.r c a b) : Rl.r c (ForInStep.done a) (ForInStep.done b) := h
theorem rl_yield {a b : α} (h : Rl.r c a b) : Rl.r c (ForInStep.yield a) (ForInStep.yield b) := h
theorem rl_some {a b : α} (h : Rl.r c a b) : Rl.r c (some a) (some b) := h
theorem rl_none : Rl.r c (none : Option α) none := trivial
theorem ra_map {p : Array c.ι} : Rl.r c (p.map c.it1) (p.map c.it2) := ⟨p, rfl, rfl⟩
theorem ra_one {x : c.ι} : Rl.r c #[c.it1 x] #[c.it2 x] := ⟨#[x], by simp, by simp⟩
theorem ra_push {a b : Array Keyed} {x : c.ι} (h : Rl.r c a b) : Rl.r c (a.push (c.it1 x)) (b.push (c.it2 x)) := by
  obtain ⟨p, rfl, rfl⟩ := h
  exact ⟨p.push x, by rw [Array.map_push], by rw [Array.map_push]⟩
theorem ra_app {a b a' b' : Array Keyed} (h : Rl.r c a b) (h' : Rl.r c a' b') : Rl.r c (a ++ a') (b ++ b') := by
  obtain ⟨p, rfl, rfl⟩ := h
  obtain ⟨q, rfl, rfl⟩ := h'
  exact ⟨p ++ q, by rw [Array.map_append], by rw [Array.map_append]⟩
theorem ra_ext {a b : Array Keyed} {i j : Nat} (h : Rl.r c a b) : Rl.r c (a.extract i j) (b.extract i j) := by
  obtain ⟨p, rfl, rfl⟩ := h
  exact ⟨p.extract i j, by rw [Array.map_extract], by rw [Array.map_extract]⟩
theorem ra_rev {a b : Array Keyed} (h : Rl.r c a b) : Rl.r c a.reverse b.reverse := by
  obtain ⟨p, rfl, rfl⟩ := h
  exact ⟨p.reverse, by rw [Array.map_reverse], by rw [Array.map_reverse]⟩
theorem tr_elemB {p : Array c.ι} {i : Nat} {f1 f2 : Keyed → StateT SortSt Sem β} (k : ∀ x, Tr c (f1 (c.it1 x)) (f2 (c.it2 x))) : Tr c (elem' (p.map c.it1) i >>= f1) (elem' (p.map c.it2) i >>= f2) := by
  refine tr_bind tr_elem ?_
  rintro _ _ ⟨x, rfl, rfl⟩
  exact k x
theorem tr_gallopOf {f1 f2 : SortSt → StateT SortSt Sem β} (k : ∀ (p : Array c.ι) pe g, Tr c (f1 (SortSt.mk' c.κ1 (p.map c.it1) pe g none)) (f2 (SortSt.mk' c.κ2 (p.map c.it2) pe g none))) : Tr c (get >>= f1) (get >>= f2) := by
  refine tr_bind tr_get ?_
  rintro _ _ ⟨p, pe, g, rfl, rfl⟩
  exact k p pe g
theorem tr_setG {g : Nat} : Tr c (setMinGallop' g) (setMinGallop' g) := by
  rw [setMinGallop'_eq]
  refine tr_modify ?_
  rintro a b ⟨p, pe, g', rfl, rfl⟩
  exact ⟨p, pe, g, rfl, rfl⟩
theorem tr_forA {γ : Type} [Rl γ] [RlEq γ] {f1 f2 : Nat → (Option (Array Keyed) × Array Keyed × γ) → StateT SortSt Sem (ForInStep (Option (Array Keyed) × Array Keyed × γ))} {k1 k2 : (Option (Array Keyed) × Array Keyed × γ) → StateT SortSt Sem β} {i j : Nat}
    {o1 o2 : Array Keyed} {g : γ} (ho : Rl.r c o1 o2) (h : ∀ x r1 r2 (o : Array c.ι) (g : γ), Tr c (f1 x (r1, o.map c.it1, g)) (f2 x (r2, o.map c.it2, g)))
    (kn : ∀ (o : Array c.ι) (g : γ), Tr c (k1 (none, o.map c.it1, g)) (k2 (none, o.map c.it2, g))) (ks : ∀ (q o : Array c.ι) (g : γ), Tr c (k1 (some (q.map c.it1), o.map c.it1, g)) (k2 (some (q.map c.it2), o.map c.it2, g))) :
    Tr c (forIn [i:j] (none, o1, g) f1 >>= k1) (forIn [i:j] (none, o2, g) f2 >>= k2) := by
  refine tr_bind (tr_for (rl_prod rl_none (rl_prod ho (RlEq.rf c g))) fun x b1 b2 hb => ?_) fun b1 b2 hb => ?_
  · obtain ⟨r1, o1, g1⟩ := b1
    obtain ⟨r2, o2, g2⟩ := b2
    obtain ⟨_, ⟨o, e1, e2⟩, hg⟩ := hb
    obtain rfl : g1 = g2 := RlEq.eq c g1 g2 hg
    dsimp only at e1 e2
    subst e1 e2
    exact h x r1 r2 o g1
  · obtain ⟨r1, o1, g1⟩ := b1
    obtain ⟨r2, o2, g2⟩ := b2
    obtain ⟨hr, ⟨o, e1, e2⟩, hg⟩ := hb
    obtain rfl : g1 = g2 := RlEq.eq c g1 g2 hg
    dsimp only at e1 e2 hr
    subst e1 e2
    match r1, r2, hr with
    | none, none, _ => exact kn o g1
    | some a, some b, hr =>
      obtain ⟨q, rfl, rfl⟩ := hr
      exact ks q o g1
theorem tr_forB {γ : Type} [Rl γ] [RlEq γ] {f1 f2 : Nat → (Option (Array Keyed) × Nat × Nat × Array Keyed × γ) → StateT SortSt Sem (ForInStep (Option (Array Keyed) × Nat × Nat × Array Keyed × γ))} {k1 k2 : (Option (Array Keyed) × Nat × Nat × Array Keyed × γ) → StateT SortSt Sem β} {i j m n : Nat}
    {o1 o2 : Array Keyed} {g : γ} (ho : Rl.r c o1 o2) (h : ∀ x r1 r2 (m n : Nat) (o : Array c.ι) (g : γ), Tr c (f1 x (r1, m, n, o.map c.it1, g)) (f2 x (r2, m, n, o.map c.it2, g)))
    (kn : ∀ (m n : Nat) (o : Array c.ι) (g : γ), Tr c (k1 (none, m, n, o.map c.it1, g)) (k2 (none, m, n, o.map c.it2, g))) (ks : ∀ (q : Array c.ι) (m n : Nat) (o : Array c.ι) (g : γ), Tr c (k1 (some (q.map c.it1), m, n, o.map c.it1, g)) (k2 (some (q.map c.it2), m, n, o.map c.it2, g))) :
    Tr c (forIn [i:j] (none, m, n, o1, g) f1 >>= k1) (forIn [i:j] (none, m, n, o2, g) f2 >>= k2) := by
  refine tr_bind (tr_for (rl_prod rl_none (rl_prod (RlEq.rf c m) (rl_prod (RlEq.rf c n) (rl_prod ho (RlEq.rf c g))))) fun x b1 b2 hb => ?_) fun b1 b2 hb => ?_
  · obtain ⟨r1, m1, n1, o1, g1⟩ := b1
    obtain ⟨r2, m2, n2, o2, g2⟩ := b2
    obtain ⟨_, hm, hn, ⟨o, e1, e2⟩, hg⟩ := hb
    obtain rfl : m1 = m2 := hm
    obtain rfl : n1 = n2 := hn
    obtain rfl : g1 = g2 := RlEq.eq c g1 g2 hg
    dsimp only at e1 e2
    subst e1 e2
    exact h x r1 r2 m1 n1 o g1
  · obtain ⟨r1, m1, n1, o1, g1⟩ := b1
    obtain ⟨r2, m2, n2, o2, g2⟩ := b2
    obtain ⟨hr, hm, hn, ⟨o, e1, e2⟩, hg⟩ := hb
    obtain rfl : m1 = m2 := hm
    obtain rfl : n1 = n2 := hn
    obtain rfl : g1 = g2 := RlEq.eq c g1 g2 hg
    dsimp only at e1 e2 hr
    subst e1 e2
    match r1, r2, hr with
    | none, none, _ => exact kn m1 n1 o g1
    | some a, some b, hr =>
      obtain ⟨q, rfl, rfl⟩ := hr
      exact ks q m1 n1 o g1
end
local macro_rules | `(tactic| walk_at "rl") => `(tactic| repeat' (first
  | exact RlEq.rf _ _
  | with_reducible exact ra_map
  | with_reducible exact ra_one
  | with_reducible exact rl_none
  | with_reducible refine rl_prod ?_ ?_
  | with_reducible refine rl_done ?_
  | with_reducible refine rl_yield ?_
  | with_reducible refine rl_some ?_
  | with_reducible refine ra_push ?_
  | with_reducible refine ra_app ?_ ?_
  | with_reducible refine ra_ext ?_
  | with_reducible refine ra_rev ?_))
local macro_rules | `(tactic| walk_at "trgo") => `(tactic| repeat' (first
  | with_reducible exact tr_unsup
  | (with_reducible refine tr_pure ?_; walk_at "rl"; done)
  | with_reducible refine tr_ite (fun _ => ?_) (fun _ => ?_)
  | with_reducible refine tr_rule ?_
  | with_reducible refine tr_elemB fun x => ?_
  | with_reducible refine tr_bindE (tr_gallop (by assumption)) fun b => ?_
  | with_reducible refine tr_bindE (tr_lt (by assumption)) fun b => ?_
  | with_reducible refine tr_bindE tr_setG fun b => ?_
  | with_reducible refine tr_gallopOf fun p pe g => ?_
  | refine tr_forA (by walk_at "rl") (fun x r1 r2 o g => ?_) (fun o g => ?_) (fun q o g => ?_)
  | refine tr_forB (by walk_at "rl") (fun x r1 r2 m n o g => ?_) (fun m n o g => ?_) (fun q m n o g => ?_)
  | split
  | dsimp only))
section
variable {c : Ct} {lt : c.ι → c.ι → Bool} (O : CtOk c lt)
include O
theorem tr_mergeLo {p q : Array c.ι} : Tr c (mergeLo' (p.map c.it1) (q.map c.it1)) (mergeLo' (p.map c.it2) (q.map c.it2)) := by
  rw [mergeLo'_eq, mergeLo'_eq]
  simp only [Array.size_map]
  walk_at "trgo"
theorem tr_mergeHi {p q : Array c.ι} : Tr c (mergeHi' (p.map c.it1) (q.map c.it1)) (mergeHi' (p.map c.it2) (q.map c.it2)) := by
  rw [mergeHi'_eq, mergeHi'_eq]
  simp only [Array.size_map]
  walk_at "trgo"
end
end Lw
namespace Lw
open PySem PySem.W PyProof.Rows
theorem set_map {ι : Type} (f : ι → Keyed) (sa : Nat) : ∀ (l : List ι) (k : Nat) (a : Array ι), ((l.map f).zipIdx k).foldl (fun a (x : Keyed × Nat) => a.setIfInBounds (sa + x.2) x.1) (a.map f) = ((l.zipIdx k).foldl (fun a (x : ι × Nat) => a.setIfInBounds (sa + x.2) x.1) a).map f
  | [], k, a => rfl
  | x :: l, k, a => by
    rw [List.map_cons, List.zipIdx_cons, List.zipIdx_cons, List.foldl_cons, List.foldl_cons]
    rw [← Array.map_setIfInBounds]
    exact set_map f sa l (k + 1) _
theorem arr_mk {k : SortKind} {a : Array Keyed} {pe : Array (Nat × Nat × Nat)} {g : Nat} {f : Option Value} : arrOf (SortSt.mk' k a pe g f) = a := rfl
theorem pend_mk {k : SortKind} {a : Array Keyed} {pe : Array (Nat × Nat × Nat)} {g : Nat} {f : Option Value} : pendingOf (SortSt.mk' k a pe g f) = pe := rfl
section
variable {c : Ct} {β : Type} [Rl β]
theorem tr_modB {h1 h2 : SortSt → SortSt} {f1 f2 : PUnit → StateT SortSt Sem β} (hh : ∀ (p : Array c.ι) pe g, Rl.r c (h1 (SortSt.mk' c.κ1 (p.map c.it1) pe g none)) (h2 (SortSt.mk' c.κ2 (p.map c.it2) pe g none))) (k : Tr c (f1 ⟨⟩) (f2 ⟨⟩)) :
    Tr c ((modify h1 : StateT SortSt Sem PUnit) >>= f1) ((modify h2 : StateT SortSt Sem PUnit) >>= f2) :=
  tr_bindE (tr_modify (by rintro _ _ ⟨p, pe, g, rfl, rfl⟩; exact hh p pe g)) fun ⟨⟩ => k
theorem tr_setB {t1 t2 : SortSt} {f1 f2 : PUnit → StateT SortSt Sem β} (hh : Rl.r c t1 t2) (k : Tr c (f1 ⟨⟩) (f2 ⟨⟩)) : Tr c ((set t1 : StateT SortSt Sem PUnit) >>= f1) ((set t2 : StateT SortSt Sem PUnit) >>= f2) :=
  tr_bindE (tr_set hh) fun ⟨⟩ => k
end
section
variable {c : Ct} {lt : c.ι → c.ι → Bool} (O : CtOk c lt)
include O
theorem tr_mergeAt {i : Nat} : Tr c (mergeAt' i) (mergeAt' i) := by
  rw [mergeAt'_eq]
  refine tr_gallopOf fun p pe g => ?_
  simp only [pend_mk, arr_mk]
  split
  · rename_i sa na pw sb nb pw2 hh
    have fin : ∀ (m : Array c.ι) (u : Nat), Tr c (do
        modify fun s => setArr s (List.foldl (fun a (x : Keyed × Nat) => a.setIfInBounds (u + x.snd) x.fst) (arrOf s) (m.map c.it1).toList.zipIdx)
        let t ← get
        pure (failedOf t).isNone : StateT SortSt Sem Bool) (do
        modify fun s => setArr s (List.foldl (fun a (x : Keyed × Nat) => a.setIfInBounds (u + x.snd) x.fst) (arrOf s) (m.map c.it2).toList.zipIdx)
        let t ← get
        pure (failedOf t).isNone) := fun m u => by
      refine tr_modB (fun p pe g => ⟨(m.toList.zipIdx).foldl (fun a (x : c.ι × Nat) => a.setIfInBounds (u + x.2) x.1) p, pe, g, ?_, ?_⟩) ?_
      · rw [Array.toList_map]
        exact congrArg (fun z => SortSt.mk' c.κ1 z pe g none) (set_map c.it1 u m.toList 0 p)
      · rw [Array.toList_map]
        exact congrArg (fun z => SortSt.mk' c.κ2 z pe g none) (set_map c.it2 u m.toList 0 p)
      · exact tr_gallopOf fun p pe g => tr_pure rfl
    refine tr_setB ⟨p, _, g, rfl, rfl⟩ ?_
    refine tr_elemB (p := p) fun x => ?_
    refine tr_bindE (tr_gallop O) fun k => ?_
    cases k with
    | none => exact tr_pure (RlEq.rf _ _)
    | some k =>
    dsimp only
    refine tr_ite (fun _ => tr_pure (RlEq.rf _ _)) fun _ => ?_
    refine tr_elemB (p := p) fun y => ?_
    refine tr_bindE (tr_gallop O) fun k2 => ?_
    cases k2 with
    | none => exact tr_pure (RlEq.rf _ _)
    | some k2 =>
    dsimp only
    refine tr_ite (fun _ => tr_pure (RlEq.rf _ _)) fun _ => ?_
    simp only [← Array.map_extract]
    refine tr_ite (fun _ => ?_) fun _ => ?_
    · refine tr_bind (tr_mergeLo O) ?_
      rintro _ _ ⟨m, rfl, rfl⟩
      exact fin m _
    · refine tr_bind (tr_mergeHi O) ?_
      rintro _ _ ⟨m, rfl, rfl⟩
      exact fin m _
  · exact tr_unsup
local macro_rules | `(tactic| walk_at "trgo") => `(tactic| repeat' (first
  | exact tr_unsup
  | exact tr_pure (RlEq.rf _ _)
  | with_reducible refine tr_ite (fun _ => ?_) (fun _ => ?_)
  | with_reducible refine tr_rule ?_
  | with_reducible refine tr_bindE (tr_count (by assumption)) fun b => ?_
  | with_reducible refine tr_bindE (tr_bin (by assumption)) fun b => ?_
  | with_reducible refine tr_bindE (tr_mergeAt (by assumption)) fun b => ?_
  | (with_reducible refine tr_gallopOf fun p pe g => ?_; simp only [pend_mk])
  | refine tr_modB (fun p pe g => ⟨p, _, g, rfl, rfl⟩) ?_
  | with_reducible refine tr_bindE (tr_forE fun x b => ?_) fun r => ?_
  | split
  | dsimp only))
end
end Lw
namespace Lw
open PySem PySem.W PyProof.Rows SrtO
end Lw
namespace Lw
open PySem PySem.Spec PyProof.Rows L2
theorem same_off {H X : Hp} {p : Addr} {o : HO} (h : H p = none) (s : Same H X) : Same H (upd X p o) := fun b x e => by
  have : b ≠ p := fun z => by rw [z, h] at e; cases e
  rw [upd_ne this]; exact s b x e
end Lw
namespace L2
open PySem PySem.Spec PyProof.Rows SrtO
end L2
namespace L2
open PySem PySem.Spec PyProof.Rows ItX
end L2
namespace L2
open PySem PySem.Spec PyProof.Rows
section
variable {X : Cx}
theorem dp_ints {K : PySem.W.Frag} {H : Hp} : ∀ ns : List Int, DpAll K H (ns.map V.int) (ns.map PyData.int)
  | [] => .nil
  | n :: r => .cons (.int n) (dp_ints r)
end
end L2
namespace Ak
open PySem
def mem (n : Nat) : List Nat := (List.range n).filter (n.testBit ·)
theorem lt_of_bit {n m : Nat} (h : n.testBit m = true) : m < n := Nat.lt_of_lt_of_le Nat.lt_two_pow_self (Nat.ge_two_pow_of_testBit h)
theorem mem_iff {n m : Nat} : m ∈ mem n ↔ n.testBit m = true := by
  unfold mem
  rw [List.mem_filter, List.mem_range]
  exact ⟨fun h => h.2, fun h => ⟨lt_of_bit h, h⟩⟩
theorem mem_lt {n m : Nat} (h : m ∈ mem n) : m < n := lt_of_bit (mem_iff.mp h)
theorem ext {a b : Nat} (h : ∀ m, m ∈ mem a ↔ m ∈ mem b) : a = b := by
  refine Nat.eq_of_testBit_eq fun m => ?_
  have := h m
  rw [mem_iff, mem_iff] at this
  cases e : a.testBit m with
  | true => exact (this.mp e).symm
  | false =>
    cases e2 : b.testBit m with
    | true => rw [this.mpr e2] at e; cases e
    | false => rfl
/-- the number of a list of members -/
def num : List Nat → Nat
  | [] => 0
  | m :: r => 2 ^ m ||| num r
def nkey (n : Nat) : PyData := .tuple ((mem n).reverse.attach.map fun m => nkey m.1)
termination_by n
decreasing_by exact mem_lt (List.mem_reverse.mp m.2)
theorem nkey_eq (n : Nat) : nkey n = .tuple ((mem n).reverse.map nkey) := by
  rw [nkey, List.attach_map_val (f := nkey)]
/-- the depth -/
def dep (n : Nat) : Nat := ((mem n).attach.map fun m => dep m.1 + 1).foldl max 0
termination_by n
decreasing_by exact mem_lt m.2
/-- the pairs of braces -/
def br (n : Nat) : Nat := 1 + ((mem n).attach.map fun m => br m.1).sum
termination_by n
decreasing_by exact mem_lt m.2
end Ak
namespace L2
open PySem PySem.Spec PyProof.Rows
section
variable {X : Cx} {k : Nat}
theorem Room.deep {k : Nat} {A : Around} (r : Room k A) : A.units + 150 < cLine := by have := r.un; omega
theorem pe_fldK {K : PySem.W.Frag} {e : Expr} {ta : TE} {f : Str} {pos : Pos} (h : X.K = K) (he : PE X e ta) (hb : attributeBase e f X.env (eval e X.env) = eval e X.env) : PE X (.Attribute e f pos) (tFld K ta f) := by subst h; exact pe_fld he hb
end
end L2
namespace Lw
open PySem PySem.Spec PyProof.Rows L2
/-- the fields of a nest, in the order of __init__ -/
def nf (l kt : Addr) (n : Nat) : List (Str × V) := [("members", .ref l), ("key", .ref kt), ("depth", .int ((Ak.dep n : Nat) : Int)), ("braces", .int ((Ak.br n : Nat) : Int))]
/-- what the class is -/
structure ZN (K : PySem.W.Frag) (mg : Str → Option Value) (C : Addr) : Prop where
  gN : mg "Nest" = some (.ref C)
  cl : Cls K C
  nM : NoAttr K C "members"
  nK : NoAttr K C "key"
  nD : NoAttr K C "depth"
  nB : NoAttr K C "braces"
  kt : PySem.W.kitOne K (.ref C) (.ref C) = some true
  c4 : PySem.W.findIn K (.ref C) "__class__" = some (some (.builtin "object.__class__"))
  c5 : PySem.W.specialIn K (.builtin "object.__class__") "__get__" = some (some (.builtin "getset_descriptor.__get__"))
  c6 : PySem.W.takesIn K (.builtin "object.__class__") = some true
  c7 : PySem.W.mroIn K C (.type "object") = some true
  ne : PySem.W.findIn K (.ref C) "__ne__" = some (some (.builtin "object.__ne__"))
theorem ZN.ty {K : PySem.W.Frag} {mg : Str → Option Value} {C : Addr} (Z : ZN K mg C) {H : Hp} {a dx : Addr} {fs : List (Str × V)} (e : H a = some (.ins C dx fs)) : TyX K H (.ref a) (.ref C) := .base (.ins e Z.cl Z.c4 Z.c5 Z.c6 Z.c7)
theorem ZN.nf (K : PySem.W.Frag) (C : Addr) : PySem.W.notFirst K C (.ref C) = true := by unfold PySem.W.notFirst; rw [beq_self_eq_true]; rfl
/-- the nest n stands at a -/
inductive NAt (K : PySem.W.Frag) (C : Addr) (U : Addr → Prop) (H : Hp) : Addr → Nat → Prop where
  | mk {a dx l kt : Addr} {n : Nat} {as : List Addr} (h0 : U l) (h1 : H a = some (.ins C dx (nf l kt n))) (h2 : H l = some (.lst (as.map V.ref))) (h3 : as.length = (Ak.mem n).length)
      (h4 : ∀ (i : Nat) (b : Addr) (m : Nat), as[i]? = some b → (Ak.mem n)[i]? = some m → NAt K C U H b m) (h5 : Dp K H (.ref kt) (Ak.nkey n)) : NAt K C U H a n
/-- nests by their numbers -/
structure NL (K : PySem.W.Frag) (C : Addr) (U : Addr → Prop) (H : Hp) (as : List Addr) (ns : List Nat) : Prop where
  len : as.length = ns.length
  at_ : ∀ (i : Nat) (b : Addr) (m : Nat), as[i]? = some b → ns[i]? = some m → NAt K C U H b m
section
variable {K : PySem.W.Frag} {C : Addr} {U : Addr → Prop} {H H' : Hp}
theorem NAt.get {a : Addr} {n : Nat} (h : NAt K C U H a n) : ∃ dx l kt as, H a = some (.ins C dx (nf l kt n)) ∧ H l = some (.lst (as.map V.ref)) ∧ NL K C U H as (Ak.mem n) ∧ Dp K H (.ref kt) (Ak.nkey n) := by
  cases h with
  | mk h0 h1 h2 h3 h4 h5 => exact ⟨_, _, _, _, h1, h2, ⟨h3, h4⟩, h5⟩
theorem NAt.of {a dx l kt : Addr} {n : Nat} {as : List Addr} (h0 : U l) (h1 : H a = some (.ins C dx (nf l kt n))) (h2 : H l = some (.lst (as.map V.ref))) (h3 : NL K C U H as (Ak.mem n)) (h5 : Dp K H (.ref kt) (Ak.nkey n)) : NAt K C U H a n := .mk h0 h1 h2 h3.len h3.at_ h5
theorem NAt.mono (s : Same H H') {a : Addr} {n : Nat} (h : NAt K C U H a n) : NAt K C U H' a n := by
  induction h with
  | mk h0 h1 h2 h3 _ h5 ih => exact .mk h0 (s _ _ h1) (s _ _ h2) h3 ih (dp_mono s h5)
theorem NL.mono (s : Same H H') {as : List Addr} {ns : List Nat} (h : NL K C U H as ns) : NL K C U H' as ns := ⟨h.len, fun i b m e1 e2 => (h.at_ i b m e1 e2).mono s⟩
theorem NL.nil : NL K C U H [] [] := ⟨rfl, fun i b m e => by simp at e⟩
theorem NL.push {as : List Addr} {ns : List Nat} {a : Addr} {n : Nat} (h : NL K C U H as ns) (e : NAt K C U H a n) : NL K C U H (as ++ [a]) (ns ++ [n]) := by
  refine ⟨by rw [List.length_append, List.length_append, h.len]; rfl, fun i b m h1 h2 => ?_⟩
  by_cases hi : i < as.length
  · rw [List.getElem?_append_left hi] at h1
    rw [List.getElem?_append_left (by rw [← h.len]; exact hi)] at h2
    exact h.at_ i b m h1 h2
  · rw [List.getElem?_append_right (by omega)] at h1
    rw [List.getElem?_append_right (by rw [← h.len]; omega)] at h2
    rw [← h.len] at h2
    cases hj : i - as.length with
    | zero => rw [hj] at h1 h2; cases h1; cases h2; exact e
    | succ j => rw [hj] at h1; simp at h1
theorem NL.num {as : List Addr} {ns : List Nat} {i : Nat} {b : Addr} (h : NL K C U H as ns) (e : as[i]? = some b) : ∃ m, ns[i]? = some m ∧ NAt K C U H b m := by
  have hi : i < ns.length := by rw [← h.len]; exact (List.getElem?_eq_some_iff.mp e).1
  exact ⟨ns[i], by simp [hi], h.at_ i b _ e (by simp [hi])⟩
theorem NL.mem {as : List Addr} {ns : List Nat} {b : Addr} (h : NL K C U H as ns) (e : b ∈ as) : ∃ m, m ∈ ns ∧ NAt K C U H b m := by
  obtain ⟨i, hi⟩ := List.mem_iff_getElem?.mp e
  obtain ⟨m, h1, h2⟩ := h.num hi
  exact ⟨m, List.mem_of_getElem? h1, h2⟩
theorem NL.map {as : List Addr} {f : Addr → Nat} (h : ∀ a ∈ as, NAt K C U H a (f a)) : NL K C U H as (as.map f) :=
  ⟨(List.length_map _).symm, fun i b m e1 e2 => by
    rw [List.getElem?_map, e1] at e2
    cases e2
    exact h b (List.mem_of_getElem? e1)⟩
/-- what nests need to be kept -/
def KU (U : Addr → Prop) (H H' : Hp) : Prop := ∀ c o, H c = some o → (∀ xs, o = .lst xs → U c) → (∀ C dx fs, o = .ins C dx fs → fs.length = 4) → H' c = some o
theorem KU.of (s : Same H H') : KU U H H' := fun c o e _ _ => s c o e
theorem KU.trans {H'' : Hp} (k : KU U H H') (k2 : KU U H' H'') : KU U H H'' := fun c o e h1 h2 => k2 c o (k c o e h1 h2) h1 h2
theorem KU.ins {a C dx : Addr} {fs : List (Str × V)} {o : HO} (h : H a = some (.ins C dx fs)) (hl : fs.length ≠ 4) : KU U H (upd H a o) := fun c x e _ h2 => by
  have : c ≠ a := fun z => by
    subst z
    rw [h] at e
    exact hl (h2 _ _ _ (Option.some.inj e).symm)
  rw [upd_ne this]; exact e
theorem KU.lst {D : Addr} {xs : List V} {o : HO} (h : H D = some (.lst xs)) (hU : ¬ U D) : KU U H (upd H D o) := fun c x e h1 _ => by
  have : c ≠ D := fun z => by
    subst z
    rw [h] at e
    exact hU (h1 _ (Option.some.inj e).symm)
  rw [upd_ne this]; exact e
theorem KU.kp {N : Addr → Prop} (k : Kp N H H') (h : ∀ c, N c → ∀ o, H c = some o → (∃ xs, o = .lst xs ∧ ¬ U c) ∨ ∃ C dx fs, o = .ins C dx fs ∧ fs.length ≠ 4) : KU U H H' := fun c o e h1 h2 => by
  by_cases hn : N c
  · rcases h c hn o e with ⟨xs, rfl, q⟩ | ⟨C, dx, fs, rfl, q⟩
    · exact absurd (h1 _ rfl) q
    · exact absurd (h2 _ _ _ rfl) q
  · exact k c o e hn
theorem dp_keep (k : KU U H H') (n : Nat) : ∀ v, Dp K H v (Ak.nkey n) → Dp K H' v (Ak.nkey n) := by
  induction n using Nat.strongRecOn with
  | _ n ih =>
    intro v h
    rw [Ak.nkey_eq] at h ⊢
    have all : ∀ (l : List Nat), (∀ m ∈ l, m < n) → ∀ vs, DpAll K H vs (l.map Ak.nkey) → DpAll K H' vs (l.map Ak.nkey) := by
      intro l
      induction l with
      | nil => intro _ vs h; cases h; exact .nil
      | cons x r ihr =>
        intro hm vs h
        cases h with
        | cons h1 h2 => exact .cons (ih x (hm x List.mem_cons_self) _ h1) (ihr (fun m hr => hm m (List.mem_cons_of_mem _ hr)) _ h2)
    cases h with
    | tup hs ha =>
      refine .tup ?_ (all _ (fun m hm => Ak.mem_lt (List.mem_reverse.mp hm)) _ ha)
      rcases hs with (e | ⟨o, e⟩) | e
      · exact .inl (.inl (k _ _ e (fun _ z => nomatch z) (fun _ _ _ z => nomatch z)))
      · exact .inl (.inr ⟨o, k _ _ e (fun _ z => nomatch z) (fun _ _ _ z => nomatch z)⟩)
      · exact .inr e
theorem NAt.keep (k : KU U H H') {a : Addr} {n : Nat} (h : NAt K C U H a n) : NAt K C U H' a n := by
  induction h with
  | mk h0 h1 h2 h3 _ h5 ih => exact .mk h0 (k _ _ h1 (fun _ z => nomatch z) (fun _ _ _ z => by cases z; rfl)) (k _ _ h2 (fun _ _ => h0) (fun _ _ _ z => nomatch z)) h3 ih (dp_keep k _ _ h5)
theorem NL.keep (k : KU U H H') {as : List Addr} {ns : List Nat} (h : NL K C U H as ns) : NL K C U H' as ns := ⟨h.len, fun i b m e1 e2 => (h.at_ i b m e1 e2).keep k⟩
theorem last_at {xs : List V} {x : V} : atI (xs ++ [x]) (-1) = some x := by
  unfold atI ixN
  rw [if_neg (by decide)]
  simp
  rw [if_pos (by omega)]
  have e : ((-1 : Int) + ((xs.length : Int) + 1)).toNat = xs.length := by omega
  rw [e]
  simp
variable {Q : VK}
end
theorem r_make {σ : L2.St} {H : Hp} {Q : VK} {C : Addr} {sp : Sp} {E : XK} {t : TA} (h : t σ H fun vs H1 => ∀ x dx, H1 x = none → H1 dx = none → dx ≠ x → sp (.ref x :: (vs ++ [])) (upd (upd H1 dx (.own x)) x (.ins C dx [])) (fun v H2 => v = .non ∧ Q (.ref x) H2) E) : tMake C sp [] E t σ H Q := h
end Lw
namespace L2
open PySem PySem.Spec PyProof.Rows
end L2
namespace Lw
open PySem PySem.Spec PyProof.Rows L2
end Lw
namespace Lw
open PySem PySem.Spec PyProof.Rows L2
theorem NL.by {K : PySem.W.Frag} {C : Addr} {U : Addr → Prop} {H : Hp} {ks : List Nat} {f : Nat → Addr} {g : Nat → Nat} (h : ∀ k ∈ ks, NAt K C U H (f k) (g k)) : NL K C U H (ks.map f) (ks.map g) :=
  ⟨by rw [List.length_map, List.length_map], fun i b m e1 e2 => by
    rw [List.getElem?_map] at e1 e2
    cases e : ks[i]? with
    | none => rw [e] at e1; cases e1
    | some k =>
      rw [e] at e1 e2
      cases e1; cases e2
      exact h k (List.mem_of_getElem? e)⟩
end Lw
namespace Ak
open PySem PySem.Spec PyProof.Rows
def leS (a b : Str) : Bool := !(ltCps b.cps.toList a.cps.toList)
theorem leS_iff (a b : Str) : leS a b = true ↔ a.cps.toList ≤ b.cps.toList := by
  unfold leS
  rw [ltCps_eq, Bool.not_eq_true', decide_eq_false_iff_not]
  exact List.not_lt
theorem leS_trans (a b c : Str) (h1 : leS a b = true) (h2 : leS b c = true) : leS a c = true := by
  rw [leS_iff] at h1 h2 ⊢
  exact List.le_trans h1 h2
theorem leS_total (a b : Str) : (leS a b || leS b a) = true := by
  rw [Bool.or_eq_true, leS_iff, leS_iff]
  exact List.le_total _ _
theorem leS_anti (a b : Str) (h1 : leS a b = true) (h2 : leS b a = true) : a = b := by
  rw [leS_iff] at h1 h2
  have := List.le_antisymm h1 h2
  cases a; cases b
  simp only [Str.mk.injEq]
  exact Array.toList_inj.mp this
/-- a list of texts, sorted -/
def sortT (l : List Str) : List Str := l.mergeSort leS
theorem sortT_perm (l : List Str) : (sortT l).Perm l := List.mergeSort_perm l leS
theorem rising_pw : ∀ (p : Str) (l : List Str), risingS p l = true → (p :: l).Pairwise (fun a b => leS a b = true)
  | p, [], _ => by simp
  | p, x :: r, h => by
    have h : (!ltCps x.cps.toList p.cps.toList && risingS x r) = true := h
    rw [Bool.and_eq_true] at h
    have ih := rising_pw x r h.2
    rw [List.pairwise_cons] at ih ⊢
    refine ⟨fun y hy => ?_, by rw [List.pairwise_cons]; exact ih⟩
    rcases List.mem_cons.mp hy with e | e
    · rw [e]; exact h.1
    · exact leS_trans _ _ _ h.1 (ih.1 y e)
theorem sorted_pw (l : List Str) (h : sortedS l = true) : l.Pairwise (fun a b => leS a b = true) := by
  cases l with
  | nil => exact List.Pairwise.nil
  | cons x r => exact rising_pw x r h
theorem sort_eq : ∀ {l k : List Str}, l.Pairwise (fun a b => leS a b = true) → k.Pairwise (fun a b => leS a b = true) → l.Perm k → l = k
  | [], k, _, _, p => p.symm.eq_nil.symm
  | x :: r, [], _, _, p => absurd p.eq_nil (by simp)
  | x :: r, y :: s, h1, h2, p => by
    rw [List.pairwise_cons] at h1 h2
    have e : x = y := by
      have hx : x ∈ y :: s := p.mem_iff.mp List.mem_cons_self
      have hy : y ∈ x :: r := p.mem_iff.mpr List.mem_cons_self
      rcases List.mem_cons.mp hx with a | a
      · exact a
      rcases List.mem_cons.mp hy with b | b
      · exact b.symm
      exact leS_anti _ _ (h1.1 y b) (h2.1 x a)
    subst e
    rw [sort_eq h1.2 h2.2 (List.Perm.cons_inv p)]
theorem sortT_eq {l k : List Str} (p : k.Perm l) (h : sortedS k = true) : k = sortT l :=
  sort_eq (sorted_pw k h) (List.pairwise_mergeSort leS_trans leS_total l) (p.trans (sortT_perm l).symm)
theorem sortT_of {l k : List Str} (p : k.Perm l) : sortT k = sortT l :=
  sort_eq (List.pairwise_mergeSort leS_trans leS_total k) (List.pairwise_mergeSort leS_trans leS_total l) (((sortT_perm k).trans p).trans (sortT_perm l).symm)
end Ak
namespace L2
open PySem PySem.Spec PyProof.Rows
def rStrS : List V → Hp → VK → Prop := fun xs H Q => ∃ a : Str, xs = [.str a] ∧ Q (.str a) H
theorem call_strS {X : Cx} : CallR X (.type "str") rStrS := SkE.call_str_str
end L2
namespace Lw
open PySem PySem.Spec PyProof.Rows L2
section
variable {K : PySem.W.Frag} {C : Addr} {U : Addr → Prop} {H : Hp} {Q : VK} {E : XK}
theorem r_strS {x : Str} (q : Q (.str x) H) : rStrS [.str x] H Q := ⟨x, rfl, q⟩
end
end Lw
namespace K16
open PySem PySem.Spec PyProof.Rows L2 Lw
def topS (i : Nat) : Stmt := PySem.Challenge.pw_setnests_k16_whole_shapes.main.body.getD i (.Pass ⟨0, 0, 0, 0⟩)
abbrev s_division_counts : Stmt := topS 2
theorem sc_division_counts : FnScope ["things", "counts", "_", "longer", "groups", "joined"] ["things"] (defScope s_division_counts) := ⟨rfl, rfl, rfl, by decide +kernel, rfl, by decide +kernel, by decide +kernel⟩
abbrev s_doubled : Stmt := topS 3
theorem sc_doubled : FnScope ["number", "times", "result", "_"] ["number", "times"] (defScope s_doubled) := ⟨rfl, rfl, rfl, by decide +kernel, rfl, by decide +kernel, by decide +kernel⟩
abbrev s_weight_of : Stmt := topS 4
theorem sc_weight_of : FnScope ["things", "holders", "wides", "ordered", "holder_sets", "ways", "total", "groups", "divisions"] ["things", "holders", "wides", "ordered"] (defScope s_weight_of) := ⟨rfl, rfl, rfl, by decide +kernel, rfl, by decide +kernel, by decide +kernel⟩
abbrev s_depth_of : Stmt := topS 5
theorem sc_depth_of : FnScope ["things", "wides"] ["things", "wides"] (defScope s_depth_of) := ⟨rfl, rfl, rfl, by decide +kernel, rfl, by decide +kernel, by decide +kernel⟩
abbrev s_is_name_term : Stmt := topS 7
theorem sc_is_name_term : FnScope ["term"] ["term"] (defScope s_is_name_term) := ⟨rfl, rfl, rfl, by decide +kernel, rfl, by decide +kernel, by decide +kernel⟩
abbrev s_outer_names : Stmt := topS 8
theorem sc_outer_names : FnScope ["term"] ["term"] (defScope s_outer_names) := ⟨rfl, rfl, rfl, by decide +kernel, rfl, by decide +kernel, by decide +kernel⟩
abbrev s_wide_fact_of : Stmt := topS 9
theorem sc_wide_fact_of : FnScope ["fact", "kind"] ["fact"] (defScope s_wide_fact_of) := ⟨rfl, rfl, rfl, by decide +kernel, rfl, by decide +kernel, by decide +kernel⟩
abbrev s__law_start : Stmt := topS 13
theorem sc__law_start : FnScope ["script", "great", "mixed", "cell"] ["script"] (defScope s__law_start) := ⟨rfl, rfl, rfl, by decide +kernel, rfl, by decide +kernel, by decide +kernel⟩
abbrev s__law_draw : Stmt := topS 14
theorem sc__law_draw : FnScope ["state", "many", "rest", "one", "two", "three"] ["state", "many"] (defScope s__law_draw) := ⟨rfl, rfl, rfl, by decide +kernel, rfl, by decide +kernel, by decide +kernel⟩
abbrev s__law_pick : Stmt := topS 15
theorem sc__law_pick : FnScope ["state", "row"] ["state", "row"] (defScope s__law_pick) := ⟨rfl, rfl, rfl, by decide +kernel, rfl, by decide +kernel, by decide +kernel⟩
abbrev s__law_size : Stmt := topS 16
theorem sc__law_size : FnScope ["tree", "total", "part"] ["tree"] (defScope s__law_size) := ⟨rfl, rfl, rfl, by decide +kernel, rfl, by decide +kernel, by decide +kernel⟩
abbrev s__law_name : Stmt := topS 17
theorem sc__law_name : FnScope ["state", "name", "k"] ["state"] (defScope s__law_name) := ⟨rfl, rfl, rfl, by decide +kernel, rfl, by decide +kernel, by decide +kernel⟩
abbrev s__law_row_of_names : Stmt := topS 18
theorem sc__law_row_of_names : FnScope ["state", "many", "one_letter", "names", "k", "name"] ["state", "many"] (defScope s__law_row_of_names) := ⟨rfl, rfl, rfl, by decide +kernel, rfl, by decide +kernel, by decide +kernel⟩
abbrev s__law_new_term : Stmt := topS 19
theorem sc__law_new_term : FnScope ["state", "terms", "one", "two", "kind"] ["state", "terms"] (defScope s__law_new_term) := ⟨rfl, rfl, rfl, by decide +kernel, rfl, by decide +kernel, by decide +kernel⟩
abbrev s__law_new_body : Stmt := topS 20
theorem sc__law_new_body : FnScope ["state", "terms", "bodies", "kind", "one"] ["state", "terms", "bodies"] (defScope s__law_new_body) := ⟨rfl, rfl, rfl, by decide +kernel, rfl, by decide +kernel, by decide +kernel⟩
abbrev s__law_new_saying : Stmt := topS 21
theorem sc__law_new_saying : FnScope ["state", "terms", "bodies", "sayings", "kind", "one"] ["state", "terms", "bodies", "sayings"] (defScope s__law_new_saying) := ⟨rfl, rfl, rfl, by decide +kernel, rfl, by decide +kernel, by decide +kernel⟩
abbrev s__law_built : Stmt := topS 22
theorem sc__law_built : FnScope ["state", "names", "steps", "most", "terms", "bodies", "sayings", "k", "kind", "made", "name"] ["state", "names", "steps", "most"] (defScope s__law_built) := ⟨rfl, rfl, rfl, by decide +kernel, rfl, by decide +kernel, by decide +kernel⟩
abbrev s__law_term_rows : Stmt := topS 23
theorem sc__law_term_rows : FnScope ["term"] ["term"] (defScope s__law_term_rows) := ⟨rfl, rfl, rfl, by decide +kernel, rfl, by decide +kernel, by decide +kernel⟩
abbrev s__law_element_rows : Stmt := topS 24
theorem sc__law_element_rows : FnScope ["term"] ["term"] (defScope s__law_element_rows) := ⟨rfl, rfl, rfl, by decide +kernel, rfl, by decide +kernel, by decide +kernel⟩
abbrev s__law_holding_rows : Stmt := topS 25
theorem sc__law_holding_rows : FnScope ["term"] ["term"] (defScope s__law_holding_rows) := ⟨rfl, rfl, rfl, by decide +kernel, rfl, by decide +kernel, by decide +kernel⟩
abbrev s__law_body_rows : Stmt := topS 26
theorem sc__law_body_rows : FnScope ["body", "rows", "part"] ["body"] (defScope s__law_body_rows) := ⟨rfl, rfl, rfl, by decide +kernel, rfl, by decide +kernel, by decide +kernel⟩
abbrev s__law_rows : Stmt := topS 27
theorem sc__law_rows : FnScope ["saying", "kind", "rows", "part", "wide"] ["saying"] (defScope s__law_rows) := ⟨rfl, rfl, rfl, by decide +kernel, rfl, by decide +kernel, by decide +kernel⟩
abbrev s__law_firsts : Stmt := topS 28
theorem sc__law_firsts : FnScope ["rows", "word", "found", "kind", "tree"] ["rows", "word"] (defScope s__law_firsts) := ⟨rfl, rfl, rfl, by decide +kernel, rfl, by decide +kernel, by decide +kernel⟩
abbrev s__law_outer : Stmt := topS 29
theorem sc__law_outer : FnScope ["term"] ["term"] (defScope s__law_outer) := ⟨rfl, rfl, rfl, by decide +kernel, rfl, by decide +kernel, by decide +kernel⟩
abbrev s__law_due : Stmt := topS 30
theorem sc__law_due : FnScope ["saying", "rows", "terms", "asked_terms", "names", "term", "holders", "asked", "free", "k", "name"] ["saying"] (defScope s__law_due) := ⟨rfl, rfl, rfl, by decide +kernel, rfl, by decide +kernel, by decide +kernel⟩
abbrev s__law_alike : Stmt := topS 31
theorem sc__law_alike : FnScope ["told", "due", "k"] ["told", "due"] (defScope s__law_alike) := ⟨rfl, rfl, rfl, by decide +kernel, rfl, by decide +kernel, by decide +kernel⟩
abbrev s__law_is_due : Stmt := topS 32
theorem sc__law_is_due : FnScope ["shape", "saying", "due"] ["shape", "saying"] (defScope s__law_is_due) := ⟨rfl, rfl, rfl, by decide +kernel, rfl, by decide +kernel, by decide +kernel⟩
abbrev s_law : Stmt := topS 33
theorem sc_law : FnScope ["script", "state", "names", "most", "sayings", "one", "two", "three", "first"] ["script"] (defScope s_law) := ⟨rfl, rfl, rfl, by decide +kernel, rfl, by decide +kernel, by decide +kernel⟩
abbrev s_Gatherer___init__ : Stmt := inClass (topS 10) 0
theorem sc_Gatherer___init__ : FnScope ["self"] ["self"] (defScope s_Gatherer___init__) := ⟨rfl, rfl, rfl, by decide +kernel, rfl, by decide +kernel, by decide +kernel⟩
abbrev s_Gatherer_walk_saying : Stmt := inClass (topS 10) 1
theorem sc_Gatherer_walk_saying : FnScope ["self", "saying", "kind"] ["self", "saying"] (defScope s_Gatherer_walk_saying) := ⟨rfl, rfl, rfl, by decide +kernel, rfl, by decide +kernel, by decide +kernel⟩
abbrev s_Gatherer_walk_fact : Stmt := inClass (topS 10) 2
theorem sc_Gatherer_walk_fact : FnScope ["self", "fact", "kind", "wide_fact"] ["self", "fact"] (defScope s_Gatherer_walk_fact) := ⟨rfl, rfl, rfl, by decide +kernel, rfl, by decide +kernel, by decide +kernel⟩
abbrev s_Gatherer_walk_body : Stmt := inClass (topS 10) 3
theorem sc_Gatherer_walk_body : FnScope ["self", "body", "kind"] ["self", "body"] (defScope s_Gatherer_walk_body) := ⟨rfl, rfl, rfl, by decide +kernel, rfl, by decide +kernel, by decide +kernel⟩
abbrev s_Gatherer_walk_holding : Stmt := inClass (topS 10) 4
theorem sc_Gatherer_walk_holding : FnScope ["self", "term"] ["self", "term"] (defScope s_Gatherer_walk_holding) := ⟨rfl, rfl, rfl, by decide +kernel, rfl, by decide +kernel, by decide +kernel⟩
abbrev s_Gatherer_walk_element : Stmt := inClass (topS 10) 5
theorem sc_Gatherer_walk_element : FnScope ["self", "term"] ["self", "term"] (defScope s_Gatherer_walk_element) := ⟨rfl, rfl, rfl, by decide +kernel, rfl, by decide +kernel, by decide +kernel⟩
abbrev s_Gatherer_walk_term : Stmt := inClass (topS 10) 6
theorem sc_Gatherer_walk_term : FnScope ["self", "term", "inner"] ["self", "term"] (defScope s_Gatherer_walk_term) := ⟨rfl, rfl, rfl, by decide +kernel, rfl, by decide +kernel, by decide +kernel⟩
abbrev s_Gatherer_take_element : Stmt := inClass (topS 10) 7
theorem sc_Gatherer_take_element : FnScope ["self", "term"] ["self", "term"] (defScope s_Gatherer_take_element) := ⟨rfl, rfl, rfl, by decide +kernel, rfl, by decide +kernel, by decide +kernel⟩
abbrev s_Gatherer_take_wide : Stmt := inClass (topS 10) 8
theorem sc_Gatherer_take_wide : FnScope ["self", "fact"] ["self", "fact"] (defScope s_Gatherer_take_wide) := ⟨rfl, rfl, rfl, by decide +kernel, rfl, by decide +kernel, by decide +kernel⟩
abbrev s_Shape___init__ : Stmt := inClass (topS 11) 2
theorem sc_Shape___init__ : FnScope ["self", "saying", "gatherer", "terms", "wide_facts", "asked", "names", "holders", "at", "term", "name"] ["self", "saying"] (defScope s_Shape___init__) := ⟨rfl, rfl, rfl, by decide +kernel, rfl, by decide +kernel, by decide +kernel⟩
structure Blt (mg : Str → Option Value) : Prop where
  m_abs : mg "abs" = none
  m_bool : mg "bool" = none
  m_enumerate : mg "enumerate" = none
  m_int : mg "int" = none
  m_isinstance : mg "isinstance" = none
  m_len : mg "len" = none
  m_list : mg "list" = none
  m_max : mg "max" = none
  m_range : mg "range" = none
  m_set : mg "set" = none
  m_sorted : mg "sorted" = none
  m_str : mg "str" = none
  m_tuple : mg "tuple" = none
/-- a def stands at f -/
structure Dn (K : PySem.W.Frag) (mg : Str → Option Value) (x : Str) (st : Stmt) (ps : List Str) (f : Addr) (fd : FuncData) : Prop where
  F : Fun K x x st f fd
  b : Binds K fd ps []
  g : mg x = some (.ref f)
end K16
namespace Sy
open PySem L2
inductive Op | plus | meet | less
  deriving DecidableEq
inductive Jn | and | or | thn
  deriving DecidableEq
inductive Tm
  | name (x : Str) | none | just (t : Tm) | bin (k : Op) (a b : Tm)
  deriving DecidableEq
inductive Bk | inside | has | is
  deriving DecidableEq
inductive Bd
  | fact (k : Bk) (t : Tm) | not (b : Bd) | bin (j : Jn) (a b : Bd)
inductive Fk | same | inn | within
  deriving DecidableEq
inductive Sg
  | fact (k : Fk) (a b : Tm) | quant (each : Bool) (t : Tm) (b : Bd) | not (s : Sg) | bin (j : Jn) (a b : Sg)
def Op.s : Op → Str | .plus => "plus" | .meet => "meet" | .less => "less"
def Jn.s : Jn → Str | .and => "and" | .or => "or" | .thn => "then"
def Bk.s : Bk → Str | .inside => "inside" | .has => "has" | .is => "is"
def Fk.s : Fk → Str | .same => "same" | .inn => "in" | .within => "within"
def Tm.d : Tm → PyData
  | .name x => .tuple [.str "name", .str x]
  | .none => .tuple [.str "none"]
  | .just t => .tuple [.str "just", t.d]
  | .bin k a b => .tuple [.str k.s, a.d, b.d]
def Bd.d : Bd → PyData
  | .fact k t => .tuple [.str k.s, t.d]
  | .not b => .tuple [.str "not", b.d]
  | .bin j a b => .tuple [.str j.s, a.d, b.d]
def Sg.d : Sg → PyData
  | .fact k a b => .tuple [.str k.s, a.d, b.d]
  | .quant e t b => .tuple [.str (if e then "each" else "some"), t.d, b.d]
  | .not s => .tuple [.str "not", s.d]
  | .bin j a b => .tuple [.str j.s, a.d, b.d]
/-- parts -/
def Tm.sz : Tm → Nat
  | .name _ => 1
  | .none => 1
  | .just t => t.sz + 1
  | .bin _ a b => a.sz + b.sz + 1
def Bd.sz : Bd → Nat
  | .fact _ t => t.sz + 1
  | .not b => b.sz + 1
  | .bin _ a b => a.sz + b.sz + 1
def Sg.sz : Sg → Nat
  | .fact _ a b => a.sz + b.sz + 1
  | .quant _ t b => t.sz + b.sz + 1
  | .not s => s.sz + 1
  | .bin _ a b => a.sz + b.sz + 1
/-- the names in it -/
def Tm.ns : Tm → List Str
  | .name x => [x]
  | .none => []
  | .just t => t.ns
  | .bin _ a b => a.ns ++ b.ns
def Bd.ns : Bd → List Str
  | .fact _ t => t.ns
  | .not b => b.ns
  | .bin _ a b => a.ns ++ b.ns
def Sg.ns : Sg → List Str
  | .fact _ a b => a.ns ++ b.ns
  | .quant _ t b => t.ns ++ b.ns
  | .not s => s.ns
  | .bin _ a b => a.ns ++ b.ns
theorem Tm.d_inj : ∀ {t u : Tm}, t.d = u.d → t = u
  | .name x, .name y, h => by simpa [Tm.d] using h
  | .name x, .none, h => by simp [Tm.d] at h
  | .name x, .just u, h => by exfalso; simp [Tm.d] at h; have := h.1; revert this; decide +kernel
  | .name x, .bin k a b, h => by simp [Tm.d] at h
  | .none, .name y, h => by simp [Tm.d] at h
  | .none, .none, h => rfl
  | .none, .just u, h => by simp [Tm.d] at h
  | .none, .bin k a b, h => by simp [Tm.d] at h
  | .just t, .name y, h => by exfalso; simp [Tm.d] at h; have := h.1; revert this; decide +kernel
  | .just t, .none, h => by simp [Tm.d] at h
  | .just t, .just u, h => by
    simp [Tm.d] at h
    rw [Tm.d_inj h]
  | .just t, .bin k a b, h => by simp [Tm.d] at h
  | .bin k a b, .name y, h => by simp [Tm.d] at h
  | .bin k a b, .none, h => by simp [Tm.d] at h
  | .bin k a b, .just u, h => by simp [Tm.d] at h
  | .bin k a b, .bin k' a' b', h => by
    simp [Tm.d] at h
    have hk : k = k' := by
      have := h.1
      cases k <;> cases k' <;> first | rfl | (revert this; decide +kernel)
    rw [hk, Tm.d_inj h.2.1, Tm.d_inj h.2.2]
end Sy
namespace Lw
open PySem PySem.Spec PyProof.Rows L2
/-- x in a list, one of the two not deep -/
def rInLD2 (K : PySem.W.Frag) : R2 := fun x y H Q => ∃ d ds, Dp K H x d ∧ Dp K H y (.list ds) ∧ PyData.canLay0 d = true ∧ PyData.canLay0 (.list ds) = true ∧ min (PyData.depthAll ds) d.depth ≤ 149 ∧ Q (.bl (ds.any fun z => PyData.eqv z d)) H
theorem op_inLD2 {X : Cx} {k : Nat} (hr : Room k X.A) : OpR X (compareOp .In) (rInLD2 X.K) := by
  intro pins s σ H x y v u Q I rx ry h
  obtain ⟨d, ds, hd, he, sd, se, dp, q⟩ := h
  obtain ⟨as, r1⟩ := Dp.reads I d x v hd rx
  obtain ⟨bs, r2⟩ := Dp.reads I (.list ds) y u he ry
  have hu := hr.deep
  exact SeqAt.in_list_reads r2 r1 se sd (by omega) ⟨.bl _, H, I, rfl, q⟩
theorem op_inLDK {X : Cx} {k : Nat} {K : PySem.W.Frag} (h : X.K = K) (hr : Room k X.A) : OpR X (compareOp .In) (rInLD2 K) := by subst h; exact op_inLD2 hr
section
variable {K : PySem.W.Frag} {H H' : Hp}
theorem dp_tup {v : V} {k : Str} {ds : List PyData} (h : Dp K H v (.tuple (.str k :: ds))) : ∃ a xs, v = .ref a ∧ SqT K H a (V.str k :: xs) ∧ DpAll K H xs ds := by
  cases h with
  | tup h1 h2 =>
    cases h2 with
    | cons h3 h4 =>
      cases h3
      exact ⟨_, _, rfl, h1, h4⟩
theorem dp_1 {v : V} {k : Str} {d : PyData} (h : Dp K H v (.tuple [.str k, d])) : ∃ a x, v = .ref a ∧ SqT K H a [V.str k, x] ∧ Dp K H x d := by
  obtain ⟨a, xs, e, h1, h2⟩ := dp_tup h
  cases h2 with
  | cons h3 h4 => cases h4; exact ⟨a, _, e, h1, h3⟩
theorem dp_2 {v : V} {k : Str} {d e : PyData} (h : Dp K H v (.tuple [.str k, d, e])) : ∃ a x y, v = .ref a ∧ SqT K H a [V.str k, x, y] ∧ Dp K H x d ∧ Dp K H y e := by
  obtain ⟨a, xs, e, h1, h2⟩ := dp_tup h
  cases h2 with
  | cons h3 h4 =>
    cases h4 with
    | cons h5 h6 => cases h6; exact ⟨a, _, _, e, h1, h3, h5⟩
theorem dp_0 {v : V} {k : Str} (h : Dp K H v (.tuple [.str k])) : ∃ a, v = .ref a ∧ SqT K H a [V.str k] := by
  obtain ⟨a, xs, e, h1, h2⟩ := dp_tup h
  cases h2
  exact ⟨a, e, h1⟩
theorem dp_mk {p : Addr} {xs : List V} {ds : List PyData} (h : H p = some (.tup xs)) (hd : DpAll K H xs ds) : Dp K H (.ref p) (.tuple ds) := .tup (SqT.of h) hd
end
end Lw
namespace Pr
open PySem
abbrev Tk := Str × Nat
inductive NT | impl (b : Bool) | alts (b : Bool) | joint (b : Bool) | single (b : Bool) | msay | fact | mfact | term | cross | unit
inductive Rs | ok (d : PyData) (r : List Tk) | bad (n : Nat) | out
def Rs.bind (x : Rs) (f : PyData → List Tk → Rs) : Rs := match x with | .ok d r => f d r | .bad n => .bad n | .out => .out
def pk : List Tk → Str | [] => "" | t :: _ => t.1
def ixo : List Tk → Nat | [] => 0 | t :: _ => t.2
def nd (k : Str) (ds : List PyData) : PyData := .tuple (.str k :: ds)
def expect (w : Str) (r : List Tk) (f : List Tk → Rs) : Rs := if pk r = w then f r.tail else .bad (ixo r)
def loop (kind : Str → Option Str) (wrap : PyData → PyData) (p : List Tk → Rs) : Nat → PyData → List Tk → Rs
  | 0, _, _ => .out
  | n + 1, d, r => match kind (pk r) with
    | none => .ok d r
    | some k => (p r.tail).bind fun e r2 => loop kind wrap p n (nd k [d, wrap e]) r2
def one (a : Str) (k : Str) : Str → Option Str := fun w => if w = a then some k else none
def sumK : Str → Option Str := fun w => if w = "+" then some "plus" else if w = "-" then some "less" else none
def factK : Str → Option Str := fun w => if w = "=" then some "same" else if w = "in" then some "in" else if w = "<=" then some "within" else none
def just (d : PyData) : PyData := nd "just" [d]
variable (isN : Str → Bool)
def run : Nat → NT → List Tk → Rs
  | 0, _, _ => .out
  | f + 1, .impl b, r => (run f (.alts b) r).bind fun d r2 => if pk r2 = "then" then (run f (.impl b) r2.tail).bind fun e r3 => .ok (nd "then" [d, e]) r3 else .ok d r2
  | f + 1, .alts b, r => (run f (.joint b) r).bind fun d r2 => loop (one "or" "or") id (run f (.joint b)) (r2.length + 1) d r2
  | f + 1, .joint b, r => (run f (.single b) r).bind fun d r2 => loop (one "and" "and") id (run f (.single b)) (r2.length + 1) d r2
  | f + 1, .single b, r => if pk r = "not" then (run f (.single b) r.tail).bind fun d r2 => .ok (nd "not" [d]) r2
      else if pk r = "[" then (run f (.impl b) r.tail).bind fun d r2 => expect "]" r2 fun r3 => .ok d r3
      else if b then run f .mfact r else if pk r = "each" ∨ pk r = "some" then run f .msay r else run f .fact r
  | f + 1, .msay, r => expect "V" r.tail fun r2 => expect "in" r2 fun r3 => (run f .term r3).bind fun t r4 => expect ":" r4 fun r5 => (run f (.single true) r5).bind fun e r6 => .ok (nd (pk r) [t, e]) r6
  | f + 1, .fact, r => (run f .term r).bind fun a r2 => match factK (pk r2) with
      | none => .bad (ixo r2)
      | some k => (run f .term r2.tail).bind fun b r3 => .ok (nd k [a, b]) r3
  | f + 1, .mfact, r => if pk r = "V" then (if pk r.tail = "in" then (run f .term r.tail.tail).bind fun d r2 => .ok (nd "inside" [d]) r2 else expect "=" r.tail fun r2 => (run f .term r2).bind fun d r3 => .ok (nd "is" [d]) r3)
      else (run f .term r).bind fun t r2 => if pk r2 = "in" then expect "V" r2.tail fun r3 => .ok (nd "has" [t]) r3 else expect "=" r2 fun r3 => expect "V" r3 fun r4 => .ok (nd "is" [t]) r4
  | f + 1, .term, r => (run f .cross r).bind fun d r2 => loop sumK id (run f .cross) (r2.length + 1) d r2
  | f + 1, .cross, r => (run f .unit r).bind fun d r2 => loop (one "&" "meet") id (run f .unit) (r2.length + 1) d r2
  | f + 1, .unit, r => if isN (pk r) = true then .ok (nd "name" [.str (pk r)]) r.tail else if pk r = "0" then .ok (nd "none" []) r.tail
      else if pk r = "(" then (run f .term r.tail).bind fun d r2 => expect ")" r2 fun r3 => .ok d r3
      else expect "{" r fun r2 => (run f .term r2).bind fun d r3 => (loop (one "," "plus") just (run f .term) (r3.length + 1) (just d) r3).bind fun d2 r4 => expect "}" r4 fun r5 => .ok d2 r5
/-- the grammar: words, and the tree that they tell; f: how deep -/
inductive D : Nat → NT → List Str → PyData → Prop
  | name {f : Nat} {x : Str} : isN x = true → D (f + 1) .unit [x] (nd "name" [.str x])
  | none {f : Nat} : D (f + 1) .unit (["0"] : List Str) (nd "none" [])
  | round {f : Nat} {ws : List Str} {d : PyData} : D f .term ws d → D (f + 1) .unit (("(" : Str) :: (ws ++ ([")"] : List Str))) d
  | set {f : Nat} {ws : List Str} {d : PyData} {more : List (List Str × PyData)} : D f .term ws d → (∀ p ∈ more, D f .term p.1 p.2) →
      D (f + 1) .unit (("{" : Str) :: (ws ++ (more.flatMap (fun p => ("," : Str) :: p.1) ++ (["}"] : List Str)))) (more.foldl (fun e p => nd "plus" [e, just p.2]) (just d))
  | cross1 {f : Nat} {ws : List Str} {d : PyData} : D f .unit ws d → D (f + 1) .cross ws d
  | cross2 {f : Nat} {ws vs : List Str} {d e : PyData} : D (f + 1) .cross ws d → D f .unit vs e → D (f + 1) .cross (ws ++ ("&" : Str) :: vs) (nd "meet" [d, e])
  | term1 {f : Nat} {ws : List Str} {d : PyData} : D f .cross ws d → D (f + 1) .term ws d
  | term2 {f : Nat} {ws vs : List Str} {d e : PyData} {a k : Str} : D (f + 1) .term ws d → sumK a = some k → D f .cross vs e → D (f + 1) .term (ws ++ a :: vs) (nd k [d, e])
  | fact {f : Nat} {ws vs : List Str} {d e : PyData} {a k : Str} : D f .term ws d → factK a = some k → D f .term vs e → D (f + 1) .fact (ws ++ a :: vs) (nd k [d, e])
  | inside {f : Nat} {ws : List Str} {d : PyData} : D f .term ws d → D (f + 1) .mfact (("V" : Str) :: ("in" : Str) :: ws) (nd "inside" [d])
  | isV {f : Nat} {ws : List Str} {d : PyData} : D f .term ws d → D (f + 1) .mfact (("V" : Str) :: ("=" : Str) :: ws) (nd "is" [d])
  | has {f : Nat} {ws : List Str} {d : PyData} : D f .term ws d → D (f + 1) .mfact (ws ++ (["in", "V"] : List Str)) (nd "has" [d])
  | is2 {f : Nat} {ws : List Str} {d : PyData} : D f .term ws d → D (f + 1) .mfact (ws ++ (["=", "V"] : List Str)) (nd "is" [d])
  | msay {f : Nat} {ws vs : List Str} {d e : PyData} {k : Str} : (k = "each" ∨ k = "some") → D f .term ws d → D f (.single true) vs e → D (f + 1) .msay (k :: ("V" : Str) :: ("in" : Str) :: (ws ++ (":" : Str) :: vs)) (nd k [d, e])
  | not {f : Nat} {b : Bool} {ws : List Str} {d : PyData} : D f (.single b) ws d → D (f + 1) (.single b) (("not" : Str) :: ws) (nd "not" [d])
  | square {f : Nat} {b : Bool} {ws : List Str} {d : PyData} : D f (.impl b) ws d → D (f + 1) (.single b) (("[" : Str) :: (ws ++ (["]"] : List Str))) d
  | sfact {f : Nat} {ws : List Str} {d : PyData} : D f .fact ws d → D (f + 1) (.single false) ws d
  | smsay {f : Nat} {ws : List Str} {d : PyData} : D f .msay ws d → D (f + 1) (.single false) ws d
  | smfact {f : Nat} {ws : List Str} {d : PyData} : D f .mfact ws d → D (f + 1) (.single true) ws d
  | joint1 {f : Nat} {b : Bool} {ws : List Str} {d : PyData} : D f (.single b) ws d → D (f + 1) (.joint b) ws d
  | joint2 {f : Nat} {b : Bool} {ws vs : List Str} {d e : PyData} : D (f + 1) (.joint b) ws d → D f (.single b) vs e → D (f + 1) (.joint b) (ws ++ ("and" : Str) :: vs) (nd "and" [d, e])
  | alts1 {f : Nat} {b : Bool} {ws : List Str} {d : PyData} : D f (.joint b) ws d → D (f + 1) (.alts b) ws d
  | alts2 {f : Nat} {b : Bool} {ws vs : List Str} {d e : PyData} : D (f + 1) (.alts b) ws d → D f (.joint b) vs e → D (f + 1) (.alts b) (ws ++ ("or" : Str) :: vs) (nd "or" [d, e])
  | impl1 {f : Nat} {b : Bool} {ws : List Str} {d : PyData} : D f (.alts b) ws d → D (f + 1) (.impl b) ws d
  | impl2 {f : Nat} {b : Bool} {ws vs : List Str} {d e : PyData} : D f (.alts b) ws d → D f (.impl b) vs e → D (f + 1) (.impl b) (ws ++ ("then" : Str) :: vs) (nd "then" [d, e])
/-- no word of the grammar is a name -/
def NOk : Prop := ∀ x ∈ (["0", "(", "{", "not", "[", "each", "some", "V", "in", ""] : List Str), isN x = false
def First (x : Str) : Prop := isN x = true ∨ x = "0" ∨ x = "(" ∨ x = "{"
variable {isN}
theorem D.first {f : Nat} {nt : NT} {ws : List Str} {d : PyData} (h : D isN f nt ws d) : (nt = .unit ∨ nt = .cross ∨ nt = .term ∨ nt = .fact) → ∃ x vs, ws = x :: vs ∧ First isN x := by
  induction h with
  | name hx => exact fun _ => ⟨_, _, rfl, .inl hx⟩
  | none => exact fun _ => ⟨_, _, rfl, .inr (.inl rfl)⟩
  | round _ _ => exact fun _ => ⟨_, _, rfl, .inr (.inr (.inl rfl))⟩
  | set _ _ _ _ => exact fun _ => ⟨_, _, rfl, .inr (.inr (.inr rfl))⟩
  | cross1 _ ih => exact fun _ => ih (.inl rfl)
  | cross2 _ _ ih _ => exact fun _ => by obtain ⟨x, vs, rfl, hx⟩ := ih (.inr (.inl rfl)); exact ⟨x, _, rfl, hx⟩
  | term1 _ ih => exact fun _ => ih (.inr (.inl rfl))
  | term2 _ _ _ ih _ => exact fun _ => by obtain ⟨x, vs, rfl, hx⟩ := ih (.inr (.inr (.inl rfl))); exact ⟨x, _, rfl, hx⟩
  | fact _ _ _ ih _ => exact fun _ => by obtain ⟨x, vs, rfl, hx⟩ := ih (.inr (.inr (.inl rfl))); exact ⟨x, _, rfl, hx⟩
  | _ => intro h; simp at h
theorem First.ne (hN : NOk isN) {x y : Str} (h : First isN x) (hy : y ∈ (["not", "[", "each", "some", "V", "in", ""] : List Str)) : x ≠ y := fun e => by
  subst e
  have hm : x ∈ (["0", "(", "{", "not", "[", "each", "some", "V", "in", ""] : List Str) := by
    simp only [List.mem_cons, List.not_mem_nil, or_false] at hy ⊢
    rcases hy with h | h | h | h | h | h | h <;> simp [h]
  rcases h with h | h | h | h
  · rw [hN x hm] at h; cases h
  · subst h; revert hy; decide +kernel
  · subst h; revert hy; decide +kernel
  · subst h; revert hy; decide +kernel
/-- what may stand behind a term -/
def F0 (r : List Tk) : Prop := pk r ≠ "+" ∧ pk r ≠ "-" ∧ pk r ≠ "&"
theorem F0.sum {r : List Tk} (h : F0 r) : sumK (pk r) = none := by unfold sumK; rw [if_neg h.1, if_neg h.2.1]
variable (isN)
variable {isN}
end Pr
namespace Ak
open PySem PySem.Spec PyProof.Rows PySem.StrLaws PySem.Builtin PySem.Builtin.Str
/-- the signs of a text -/
def L (x : Str) : List Nat := x.cps.toList
theorem L_inj {x y : Str} (h : L x = L y) : x = y := by
  cases x; cases y
  simp only [Str.mk.injEq]
  exact Array.toList_inj.mp h
theorem L_app (x y : Str) : L (x ++ y) = L x ++ L y := Array.toList_append
end Ak
namespace Pr
open PySem
def al (c : Nat) : Bool := Unicode.isAlnum c
def st (l : List Nat) : Str := ⟨l.toArray⟩
theorem L_st (l : List Nat) : Ak.L (st l) = l := by unfold Ak.L st; simp
/-- how long the first word is -/
def wl : List Nat → Nat
  | [] => 0
  | c :: r => if (c = 60 ∨ c = 58) ∧ r.head? = some 61 then 2 else if al c = true then (r.takeWhile al).length + 1 else 1
def toks : Nat → Nat → List Nat → List Tk
  | 0, _, _ => []
  | _ + 1, _, [] => []
  | n + 1, i, c :: r => if st ((c :: r).take (wl (c :: r))) = " " then toks n (i + wl (c :: r)) ((c :: r).drop (wl (c :: r))) else (st ((c :: r).take (wl (c :: r))), i) :: toks n (i + wl (c :: r)) ((c :: r).drop (wl (c :: r)))
/-- a word -/
inductive W : List Nat → Prop
  | alw {c : Nat} {r : List Nat} : al c = true → r.all al = true → W (c :: r)
  | two {c : Nat} : c = 60 ∨ c = 58 → W [c, 61]
  | sign {c : Nat} : al c = false → c ≠ 32 → W [c]
/-- what may stand behind it -/
def okN (w l : List Nat) : Prop := (∀ c, w.head? = some c → al c = true → ∀ e, l.head? = some e → al e = false) ∧ (w = [60] ∨ w = [58] → l.head? ≠ some 61)
/-- a text of words -/
inductive Z : List Nat → List Str → Prop
  | nil : Z [] []
  | blank {l : List Nat} {ws : List Str} : Z l ws → Z (32 :: l) ws
  | word {w l : List Nat} {ws : List Str} : W w → okN w l → Z l ws → Z (w ++ l) (st w :: ws)
theorem takeW {w l : List Nat} (h : w.all al = true) (hl : ∀ e, l.head? = some e → al e = false) : (w ++ l).takeWhile al = w := by
  induction w with
  | nil =>
    cases l with
    | nil => rfl
    | cons e l => rw [List.nil_append, List.takeWhile_cons, hl e rfl]; rfl
  | cons c w ih =>
    rw [List.all_cons, Bool.and_eq_true] at h
    rw [List.cons_append, List.takeWhile_cons, h.1, if_pos rfl, ih h.2]
theorem W.len {w l : List Nat} (h : W w) (ho : okN w l) : wl (w ++ l) = w.length := by
  cases h with
  | @alw c r hc hr =>
    show (if (c = 60 ∨ c = 58) ∧ (r ++ l).head? = some 61 then 2 else if al c = true then ((r ++ l).takeWhile al).length + 1 else 1) = _
    rw [if_neg (fun z => by rcases z.1 with rfl | rfl <;> exact absurd hc (by decide +kernel)), if_pos hc, takeW hr (ho.1 c rfl hc)]
    rfl
  | @two c hc =>
    show (if (c = 60 ∨ c = 58) ∧ (61 :: l).head? = some 61 then 2 else _) = 2
    exact if_pos ⟨hc, rfl⟩
  | @sign c hc h32 =>
    show (if (c = 60 ∨ c = 58) ∧ l.head? = some 61 then 2 else if al c = true then (l.takeWhile al).length + 1 else 1) = 1
    rw [if_neg (fun z => ho.2 (by rcases z.1 with rfl | rfl <;> simp) z.2), if_neg (by rw [hc]; decide)]
theorem W.ne {w : List Nat} (h : W w) : st w ≠ " " := fun e => by
  have e2 : w = [32] := by
    have := congrArg Ak.L e
    rw [L_st] at this
    rw [this]; decide +kernel
  cases h with
  | @alw c r hc hr =>
    cases e2
    exact absurd hc (by decide +kernel)
  | two hc => cases e2
  | sign hc h32 =>
    cases e2
    exact h32 rfl
theorem Z.toks {l : List Nat} {ws : List Str} (h : Z l ws) : ∀ (n i : Nat), l.length < n → (toks n i l).map (·.1) = ws := by
  induction h with
  | nil =>
    intro n i hn
    match n, hn with
    | n + 1, _ => rfl
  | @blank l ws _ ih =>
    intro n i hn
    match n, hn with
    | n + 1, hn =>
      have e : wl (32 :: l) = 1 := by
        show (if (32 = 60 ∨ 32 = 58) ∧ l.head? = some 61 then 2 else if al 32 = true then (l.takeWhile al).length + 1 else 1) = 1
        rw [if_neg (fun z => by rcases z.1 with h | h <;> cases h), if_neg (by decide +kernel)]
      show (if st ((32 :: l).take (wl (32 :: l))) = " " then Pr.toks n (i + wl (32 :: l)) ((32 :: l).drop (wl (32 :: l))) else _).map _ = _
      rw [e, if_pos (by show st [32] = " "; decide +kernel)]
      exact ih n (i + 1) (by simp only [List.length_cons] at hn; omega)
  | @word w l ws hw ho _ ih =>
    intro n i hn
    have hne : ∃ c r, w = c :: r := by cases hw <;> exact ⟨_, _, rfl⟩
    obtain ⟨c, r, rfl⟩ := hne
    match n, hn with
    | n + 1, hn =>
      have e := hw.len ho
      have et : (c :: r ++ l).take (c :: r).length = c :: r := List.take_left' rfl
      have ed : (c :: r ++ l).drop (c :: r).length = l := List.drop_left' rfl
      show (if st ((c :: r ++ l).take (wl (c :: r ++ l))) = " " then _ else (st ((c :: r ++ l).take (wl (c :: r ++ l))), i) :: Pr.toks n (i + wl (c :: r ++ l)) ((c :: r ++ l).drop (wl (c :: r ++ l)))).map _ = _
      rw [e, et, ed, if_neg hw.ne, List.map_cons, ih n _ (by simp only [List.length_append, List.length_cons] at hn; omega)]
/-- depth of brackets over words -/
def opw (w : Str) : Bool := decide (w ∈ (["(", "[", "{"] : List Str))
def clw (w : Str) : Bool := decide (w ∈ ([")", "]", "}"] : List Str))
def bdw (w : Str) (d : Int) : Int := if opw w then d + 1 else if clw w then d - 1 else d
def bd : List Str → Int → Int → Int
  | [], _, m => m
  | w :: ws, d, m => bd ws (bdw w d) (max m (bdw w d))
/-- and over signs -/
def opc (c : Nat) : Bool := c == 40 || c == 91 || c == 123
def clc (c : Nat) : Bool := c == 41 || c == 93 || c == 125
def odc (c : Nat) (d : Int) : Int := let e := if opc c then d + 1 else d; if clc c then e - 1 else e
def od : List Nat → Int → Int → Int
  | [], _, m => m
  | c :: l, d, m => od l (odc c d) (if odc c d > m then odc c d else m)
theorem al_br {c : Nat} (h : al c = true) : opc c = false ∧ clc c = false := by
  have k : ∀ x ∈ [40, 91, 123, 41, 93, 125], al x = false := by decide +kernel
  have ne : ∀ x ∈ [40, 91, 123, 41, 93, 125], (c == x) = false := fun x hx => by
    rw [beq_eq_false_iff_ne]
    intro e
    rw [e, k x hx] at h; cases h
  unfold opc clc
  rw [ne 40 (by simp), ne 91 (by simp), ne 123 (by simp), ne 41 (by simp), ne 93 (by simp), ne 125 (by simp)]
  exact ⟨rfl, rfl⟩
theorem od_no {c : Nat} {l : List Nat} {d m : Int} (h : opc c = false ∧ clc c = false) (hd : d ≤ m) : od (c :: l) d m = od l d m := by
  show od l (odc c d) (if odc c d > m then odc c d else m) = _
  have e : odc c d = d := by unfold odc; rw [h.1, h.2]; rfl
  rw [e, if_neg (by omega)]
theorem od_nos {w l : List Nat} {d m : Int} (h : ∀ c ∈ w, opc c = false ∧ clc c = false) (hd : d ≤ m) : od (w ++ l) d m = od l d m := by
  induction w with
  | nil => rfl
  | cons c w ih => rw [List.cons_append, od_no (h c List.mem_cons_self) hd]; exact ih fun x hx => h x (List.mem_cons_of_mem _ hx)
theorem st_sign {c : Nat} {w : Str} {k : Nat} (hw : Ak.L w = [k]) : st [c] = w ↔ c = k := by
  constructor
  · intro e
    have := congrArg Ak.L e
    rw [L_st, hw] at this
    exact (List.cons.inj this).1
  · rintro rfl
    exact Ak.L_inj (by rw [L_st, hw])
theorem opw_sign (c : Nat) : opw (st [c]) = opc c := by
  unfold opw opc
  rw [Bool.eq_iff_iff, decide_eq_true_eq]
  simp only [List.mem_cons, List.not_mem_nil, or_false, Bool.or_eq_true, beq_iff_eq]
  rw [st_sign (k := 40) (by decide +kernel), st_sign (k := 91) (by decide +kernel), st_sign (k := 123) (by decide +kernel)]
  exact or_assoc.symm
theorem clw_sign (c : Nat) : clw (st [c]) = clc c := by
  unfold clw clc
  rw [Bool.eq_iff_iff, decide_eq_true_eq]
  simp only [List.mem_cons, List.not_mem_nil, or_false, Bool.or_eq_true, beq_iff_eq]
  rw [st_sign (k := 41) (by decide +kernel), st_sign (k := 93) (by decide +kernel), st_sign (k := 125) (by decide +kernel)]
  exact or_assoc.symm
theorem bdw_sign (c : Nat) (d : Int) : bdw (st [c]) d = odc c d := by
  unfold bdw odc
  rw [opw_sign, clw_sign]
  by_cases h : opc c = true
  · have h2 : clc c = false := by
      unfold opc at h
      simp only [Bool.or_eq_true, beq_iff_eq] at h
      rcases h with (rfl | rfl) | rfl <;> decide +kernel
    rw [if_pos h, h2, if_pos h]; rfl
  · rw [if_neg h]
    simp only [if_neg h]
theorem bdw_no {w : List Nat} {d : Int} (h : w ≠ [] ∧ (w.length ≠ 1 ∨ ∀ c ∈ w, opc c = false ∧ clc c = false)) : bdw (st w) d = d := by
  have one : ∀ x : Str, (Ak.L x).length = 1 → st w = x → w.length = 1 := fun x hx e => by rw [← hx, ← e, L_st]
  rcases h.2 with h2 | h2
  · have h3 : opw (st w) = false := decide_eq_false fun hm => by
      simp only [List.mem_cons, List.not_mem_nil, or_false] at hm
      rcases hm with e | e | e <;> exact h2 (one _ (by decide +kernel) e)
    have h4 : clw (st w) = false := decide_eq_false fun hm => by
      simp only [List.mem_cons, List.not_mem_nil, or_false] at hm
      rcases hm with e | e | e <;> exact h2 (one _ (by decide +kernel) e)
    unfold bdw
    rw [h3, h4]; rfl
  · match w, h.1 with
    | [c], _ =>
      rw [bdw_sign]
      have := h2 c List.mem_cons_self
      unfold odc
      rw [this.1, this.2]; rfl
    | c :: e :: r, _ =>
      have h3 : opw (st (c :: e :: r)) = false := decide_eq_false fun hm => by
        simp only [List.mem_cons, List.not_mem_nil, or_false] at hm
        rcases hm with q | q | q <;> exact absurd (one _ (by decide +kernel) q) (by simp)
      have h4 : clw (st (c :: e :: r)) = false := decide_eq_false fun hm => by
        simp only [List.mem_cons, List.not_mem_nil, or_false] at hm
        rcases hm with q | q | q <;> exact absurd (one _ (by decide +kernel) q) (by simp)
      unfold bdw
      rw [h3, h4]; rfl
/-- both say the same -/
theorem Z.deep {l : List Nat} {ws : List Str} (h : Z l ws) : ∀ (d m : Int), d ≤ m → od l d m = bd ws d m := by
  induction h with
  | nil => exact fun d m _ => rfl
  | @blank l ws _ ih =>
    intro d m hd
    rw [od_no (by decide +kernel) hd]; exact ih d m hd
  | @word w l ws hw ho _ ih =>
    intro d m hd
    show od (w ++ l) d m = bd ws (bdw (st w) d) (max m (bdw (st w) d))
    cases hw with
    | @alw c r hc hr =>
      have hno : ∀ x ∈ c :: r, opc x = false ∧ clc x = false := fun x hx => by
        rcases List.mem_cons.mp hx with rfl | hx
        · exact al_br hc
        · exact al_br (List.all_eq_true.mp hr x hx)
      rw [od_nos hno hd, bdw_no ⟨by simp, .inr hno⟩, Int.max_eq_left hd]
      exact ih d m hd
    | @two c hc =>
      have hno : ∀ x ∈ [c, 61], opc x = false ∧ clc x = false := fun x hx => by
        rcases hc with rfl | rfl <;> (simp only [List.mem_cons, List.not_mem_nil, or_false] at hx; rcases hx with rfl | rfl <;> decide +kernel)
      rw [od_nos hno hd, bdw_no ⟨by simp, .inr hno⟩, Int.max_eq_left hd]
      exact ih d m hd
    | @sign c hc h32 =>
      show od l (odc c d) (if odc c d > m then odc c d else m) = _
      rw [bdw_sign]
      have e : (if odc c d > m then odc c d else m) = max m (odc c d) := by
        by_cases hh : odc c d > m
        · rw [if_pos hh, Int.max_eq_right (by omega)]
        · rw [if_neg hh, Int.max_eq_left (by omega)]
      rw [e]
      exact ih _ _ (Int.le_max_right _ _)
end Pr
namespace Sy
open PySem Pr
def Op.sg : Op → Str | .plus => " + " | .meet => " & " | .less => " - "
def Op.wd : Op → Str | .plus => "+" | .meet => "&" | .less => "-"
def Jn.sg : Jn → Str | .and => " and " | .or => " or " | .thn => " then "
def Fk.sg : Fk → Str | .same => " = " | .inn => " in " | .within => " <= "
def Fk.wd : Fk → Str | .same => "=" | .inn => "in" | .within => "<="
def qs (e : Bool) : Str := if e then "each" else "some"
/-- texts -/
def Tm.tx : Bool → Tm → Str
  | _, .name x => x
  | _, .none => "0"
  | _, .just t => "{" ++ t.tx false ++ "}"
  | w, .bin k a b => if w then "(" ++ (a.tx true ++ k.sg ++ b.tx true) ++ ")" else a.tx true ++ k.sg ++ b.tx true
def Bd.tx : Bool → Bd → Str
  | _, .fact .inside t => "V in " ++ t.tx false
  | _, .fact .has t => t.tx false ++ " in V"
  | _, .fact .is t => "V = " ++ t.tx false
  | _, .not b => "not " ++ b.tx true
  | w, .bin j a b => if w then "[" ++ (a.tx true ++ j.sg ++ b.tx true) ++ "]" else a.tx true ++ j.sg ++ b.tx true
def Sg.tx : Bool → Sg → Str
  | _, .fact k a b => a.tx false ++ k.sg ++ b.tx false
  | _, .quant e t b => qs e ++ " V in " ++ t.tx false ++ ": " ++ b.tx true
  | _, .not s => "not " ++ s.tx true
  | w, .bin j a b => if w then "[" ++ (a.tx true ++ j.sg ++ b.tx true) ++ "]" else a.tx true ++ j.sg ++ b.tx true
/-- words -/
def Tm.ws : Bool → Tm → List Str
  | _, .name x => [x]
  | _, .none => ["0"]
  | _, .just t => "{" :: (t.ws false ++ (["}"] : List Str))
  | w, .bin k a b => if w then "(" :: ((a.ws true ++ k.wd :: b.ws true) ++ ([")"] : List Str)) else a.ws true ++ k.wd :: b.ws true
def Bd.ws : Bool → Bd → List Str
  | _, .fact .inside t => "V" :: "in" :: t.ws false
  | _, .fact .has t => t.ws false ++ (["in", "V"] : List Str)
  | _, .fact .is t => "V" :: "=" :: t.ws false
  | _, .not b => "not" :: b.ws true
  | w, .bin j a b => if w then "[" :: ((a.ws true ++ j.s :: b.ws true) ++ (["]"] : List Str)) else a.ws true ++ j.s :: b.ws true
def Sg.ws : Bool → Sg → List Str
  | _, .fact k a b => a.ws false ++ k.wd :: b.ws false
  | _, .quant e t b => qs e :: "V" :: "in" :: (t.ws false ++ (":" : Str) :: b.ws true)
  | _, .not s => "not" :: s.ws true
  | w, .bin j a b => if w then "[" :: ((a.ws true ++ j.s :: b.ws true) ++ (["]"] : List Str)) else a.ws true ++ j.s :: b.ws true
/-- how deep the reader goes -/
def Tm.f : Bool → Tm → Nat
  | w, .name _ => if w then 1 else 3
  | w, .none => if w then 1 else 3
  | w, .just t => t.f false + if w then 1 else 3
  | w, .bin _ a b => max (a.f true) (b.f true) + if w then 3 else 2
def Bd.f : Bool → Bd → Nat
  | w, .fact _ t => t.f false + if w then 2 else 5
  | w, .not b => b.f true + if w then 1 else 4
  | w, .bin _ a b => max (a.f true) (b.f true) + if w then 5 else 4
def Sg.f : Bool → Sg → Nat
  | w, .fact _ a b => max (a.f false) (b.f false) + if w then 2 else 5
  | w, .quant _ t b => max (t.f false) (b.f true) + if w then 2 else 5
  | w, .not s => s.f true + if w then 1 else 4
  | w, .bin _ a b => max (a.f true) (b.f true) + if w then 5 else 4
/-- how deep its brackets are -/
def Tm.br : Bool → Tm → Nat
  | _, .name _ => 0
  | _, .none => 0
  | _, .just t => t.br false + 1
  | w, .bin _ a b => max (a.br true) (b.br true) + if w then 1 else 0
def Bd.br : Bool → Bd → Nat
  | _, .fact _ t => t.br false
  | _, .not b => b.br true
  | w, .bin _ a b => max (a.br true) (b.br true) + if w then 1 else 0
def Sg.br : Bool → Sg → Nat
  | _, .fact _ a b => max (a.br false) (b.br false)
  | _, .quant _ t b => max (t.br false) (b.br true)
  | _, .not s => s.br true
  | w, .bin _ a b => max (a.br true) (b.br true) + if w then 1 else 0
def Bd.nn : Bd → Nat
  | .fact _ _ => 0
  | .not b => b.nn + 1
  | .bin _ a b => a.nn + b.nn
def Sg.nn : Sg → Nat
  | .fact _ _ _ => 0
  | .quant _ _ b => b.nn
  | .not s => s.nn + 1
  | .bin _ a b => a.nn + b.nn
end Sy
namespace Pr
open PySem
variable {isN : Str → Bool}
theorem D.mono {f : Nat} {nt : NT} {ws : List Str} {d : PyData} (h : D isN f nt ws d) : ∀ {g : Nat}, f ≤ g → D isN g nt ws d := by
  induction h with
  | name hx => intro g hg; match g, hg with | g + 1, _ => exact .name hx
  | none => intro g hg; match g, hg with | g + 1, _ => exact .none
  | round _ ih => intro g hg; match g, hg with | g + 1, hg => exact .round (ih (by omega))
  | set _ _ ih ihm => intro g hg; match g, hg with | g + 1, hg => exact .set (ih (by omega)) fun p hp => ihm p hp (by omega)
  | cross1 _ ih => intro g hg; match g, hg with | g + 1, hg => exact .cross1 (ih (by omega))
  | cross2 _ _ ih ih2 => intro g hg; match g, hg with | g + 1, hg => exact .cross2 (ih (by omega)) (ih2 (by omega))
  | term1 _ ih => intro g hg; match g, hg with | g + 1, hg => exact .term1 (ih (by omega))
  | term2 _ hk _ ih ih2 => intro g hg; match g, hg with | g + 1, hg => exact .term2 (ih (by omega)) hk (ih2 (by omega))
  | fact _ hk _ ih ih2 => intro g hg; match g, hg with | g + 1, hg => exact .fact (ih (by omega)) hk (ih2 (by omega))
  | inside _ ih => intro g hg; match g, hg with | g + 1, hg => exact .inside (ih (by omega))
  | isV _ ih => intro g hg; match g, hg with | g + 1, hg => exact .isV (ih (by omega))
  | has _ ih => intro g hg; match g, hg with | g + 1, hg => exact .has (ih (by omega))
  | is2 _ ih => intro g hg; match g, hg with | g + 1, hg => exact .is2 (ih (by omega))
  | msay hk _ _ ih ih2 => intro g hg; match g, hg with | g + 1, hg => exact .msay hk (ih (by omega)) (ih2 (by omega))
  | not _ ih => intro g hg; match g, hg with | g + 1, hg => exact .not (ih (by omega))
  | square _ ih => intro g hg; match g, hg with | g + 1, hg => exact .square (ih (by omega))
  | sfact _ ih => intro g hg; match g, hg with | g + 1, hg => exact .sfact (ih (by omega))
  | smsay _ ih => intro g hg; match g, hg with | g + 1, hg => exact .smsay (ih (by omega))
  | smfact _ ih => intro g hg; match g, hg with | g + 1, hg => exact .smfact (ih (by omega))
  | joint1 _ ih => intro g hg; match g, hg with | g + 1, hg => exact .joint1 (ih (by omega))
  | joint2 _ _ ih ih2 => intro g hg; match g, hg with | g + 1, hg => exact .joint2 (ih (by omega)) (ih2 (by omega))
  | alts1 _ ih => intro g hg; match g, hg with | g + 1, hg => exact .alts1 (ih (by omega))
  | alts2 _ _ ih ih2 => intro g hg; match g, hg with | g + 1, hg => exact .alts2 (ih (by omega)) (ih2 (by omega))
  | impl1 _ ih => intro g hg; match g, hg with | g + 1, hg => exact .impl1 (ih (by omega))
  | impl2 _ _ ih ih2 => intro g hg; match g, hg with | g + 1, hg => exact .impl2 (ih (by omega)) (ih2 (by omega))
end Pr
namespace Sy
open PySem Pr
section
variable {isN : Str → Bool}
theorem up1 {f : Nat} {ws : List Str} {d : PyData} (h : D isN f .unit ws d) : D isN (f + 2) .term ws d := .term1 (.cross1 h)
theorem Tm.D : ∀ {t : Tm}, (∀ x ∈ t.ns, isN x = true) → Pr.D isN (t.f true) .unit (t.ws true) t.d ∧ Pr.D isN (t.f false) .term (t.ws false) t.d
  | .name x, h => ⟨.name (h x (List.mem_singleton.mpr rfl)), up1 (.name (h x (List.mem_singleton.mpr rfl)))⟩
  | .none, h => ⟨.none, up1 .none⟩
  | .just t, h => by
    have ht := (Tm.D (t := t) h).2
    have : Pr.D isN (t.f false + 1) .unit ((Tm.just t).ws true) (Tm.just t).d := Pr.D.set (more := []) ht (fun p hp => nomatch hp)
    exact ⟨this, up1 this⟩
  | .bin k a b, h => by
    have ha := (Tm.D (t := a) fun x hx => h x (List.mem_append.mpr (.inl hx))).1.mono (Nat.le_max_left (a.f true) (b.f true))
    have hb := (Tm.D (t := b) fun x hx => h x (List.mem_append.mpr (.inr hx))).1.mono (Nat.le_max_right (a.f true) (b.f true))
    have key : Pr.D isN (max (a.f true) (b.f true) + 2) .term (a.ws true ++ k.wd :: b.ws true) (Tm.bin k a b).d := by
      cases k with
      | plus => exact .term2 (up1 ha) (k := "plus") (if_pos rfl) (.cross1 hb)
      | meet => exact .term1 (.cross2 (.cross1 ha) hb)
      | less => exact .term2 (up1 ha) (k := "less") (by decide +kernel) (.cross1 hb)
    exact ⟨.round key, key⟩
theorem up3 {f : Nat} {b : Bool} {ws : List Str} {d : PyData} (h : D isN f (.single b) ws d) : D isN (f + 3) (.impl b) ws d := .impl1 (.alts1 (.joint1 h))
theorem joined {f : Nat} {b : Bool} {ws vs : List Str} {d e : PyData} (j : Jn) (h1 : D isN f (.single b) ws d) (h2 : D isN f (.single b) vs e) : D isN (f + 4) (.impl b) (ws ++ j.s :: vs) (nd j.s [d, e]) := by
  cases j with
  | and => exact D.mono (.impl1 (.alts1 (.joint2 (.joint1 h1) h2))) (Nat.le_succ _)
  | or => exact D.mono (.impl1 (.alts2 (.alts1 (.joint1 h1)) (.joint1 h2))) (Nat.le_succ _)
  | thn => exact .impl2 (D.mono (.alts1 (.joint1 h1)) (Nat.le_succ _)) (up3 h2)
theorem Bd.D : ∀ {t : Bd}, (∀ x ∈ t.ns, isN x = true) → Pr.D isN (t.f true) (.single true) (t.ws true) t.d ∧ Pr.D isN (t.f false) (.impl true) (t.ws false) t.d
  | .fact k t, h => by
    have ht := (Tm.D (t := t) h).2
    have key : Pr.D isN (t.f false + 2) (.single true) ((Bd.fact k t).ws true) (Bd.fact k t).d := by
      cases k with
      | inside => exact .smfact (.inside ht)
      | has => exact .smfact (.has ht)
      | is => exact .smfact (.isV ht)
    refine ⟨key, ?_⟩
    have e : (Bd.fact k t).ws false = (Bd.fact k t).ws true := by cases k <;> rfl
    rw [e]; exact up3 key
  | .not b, h => by
    have hb := (Bd.D (t := b) h).1
    have key : Pr.D isN (b.f true + 1) (.single true) ((Bd.not b).ws true) (Bd.not b).d := .not hb
    exact ⟨key, up3 key⟩
  | .bin j a b, h => by
    have ha := (Bd.D (t := a) fun x hx => h x (List.mem_append.mpr (.inl hx))).1.mono (Nat.le_max_left (a.f true) (b.f true))
    have hb := (Bd.D (t := b) fun x hx => h x (List.mem_append.mpr (.inr hx))).1.mono (Nat.le_max_right (a.f true) (b.f true))
    exact ⟨.square (joined j ha hb), joined j ha hb⟩
theorem Sg.D : ∀ {t : Sg}, (∀ x ∈ t.ns, isN x = true) → Pr.D isN (t.f true) (.single false) (t.ws true) t.d ∧ Pr.D isN (t.f false) (.impl false) (t.ws false) t.d
  | .fact k a b, h => by
    have ha := (Tm.D (t := a) fun x hx => h x (List.mem_append.mpr (.inl hx))).2.mono (Nat.le_max_left (a.f false) (b.f false))
    have hb := (Tm.D (t := b) fun x hx => h x (List.mem_append.mpr (.inr hx))).2.mono (Nat.le_max_right (a.f false) (b.f false))
    have key : Pr.D isN (max (a.f false) (b.f false) + 2) (.single false) ((Sg.fact k a b).ws true) (Sg.fact k a b).d := .sfact (.fact ha (by cases k <;> decide +kernel) hb)
    exact ⟨key, up3 key⟩
  | .quant e t b, h => by
    have ht := (Tm.D (t := t) fun x hx => h x (List.mem_append.mpr (.inl hx))).2.mono (Nat.le_max_left (t.f false) (b.f true))
    have hb := (Bd.D (t := b) fun x hx => h x (List.mem_append.mpr (.inr hx))).1.mono (Nat.le_max_right (t.f false) (b.f true))
    have key : Pr.D isN (max (t.f false) (b.f true) + 2) (.single false) ((Sg.quant e t b).ws true) (Sg.quant e t b).d := .smsay (.msay (by cases e <;> decide +kernel) ht hb)
    exact ⟨key, up3 key⟩
  | .not b, h => by
    have hb := (Sg.D (t := b) h).1
    have key : Pr.D isN (b.f true + 1) (.single false) ((Sg.not b).ws true) (Sg.not b).d := .not hb
    exact ⟨key, up3 key⟩
  | .bin j a b, h => by
    have ha := (Sg.D (t := a) fun x hx => h x (List.mem_append.mpr (.inl hx))).1.mono (Nat.le_max_left (a.f true) (b.f true))
    have hb := (Sg.D (t := b) fun x hx => h x (List.mem_append.mpr (.inr hx))).1.mono (Nat.le_max_right (a.f true) (b.f true))
    exact ⟨.square (joined j ha hb), joined j ha hb⟩
end
end Sy
namespace Pr
open PySem
/-- a name's signs -/
def Al (x : Str) : Prop := (Ak.L x).all al = true ∧ Ak.L x ≠ []
/-- no letter or figure comes next -/
def na (l : List Nat) : Prop := ∀ e, l.head? = some e → al e = false
theorem st_L (x : Str) : st (Ak.L x) = x := Ak.L_inj (L_st _)
theorem zal {x : Str} {l : List Nat} {ws : List Str} (hx : Al x) (hl : na l) (h : Z l ws) : Z (Ak.L x ++ l) (x :: ws) := by
  have hw : W (Ak.L x) := by
    obtain ⟨h1, h2⟩ := hx
    match hL : Ak.L x, h1, h2 with
    | c :: r, h1, _ =>
      rw [List.all_cons, Bool.and_eq_true] at h1
      exact .alw h1.1 h1.2
  have ho : okN (Ak.L x) l := by
    refine ⟨fun _ _ _ => hl, fun z => ?_⟩
    exfalso
    have := hx.1
    rcases z with z | z <;> rw [z] at this <;> exact absurd this (by decide +kernel)
  have := Z.word hw ho h
  rwa [st_L] at this
theorem zsg {c : Nat} {x : Str} {l : List Nat} {ws : List Str} (hx : Ak.L x = [c]) (hc : al c = false) (h32 : c ≠ 32) (hn : c = 60 ∨ c = 58 → l.head? ≠ some 61) (h : Z l ws) : Z (c :: l) (x :: ws) := by
  have := Z.word (l := l) (W.sign hc h32) ⟨(fun e he ha => by cases he; rw [hc] at ha; cases ha), fun z => hn (by rcases z with z | z <;> cases z <;> simp)⟩ h
  rwa [← hx, st_L, hx] at this
theorem ztw {l : List Nat} {ws : List Str} (h : Z l ws) : Z (60 :: 61 :: l) ("<=" :: ws) := by
  have := Z.word (l := l) (W.two (.inl rfl)) ⟨(fun e he ha => by cases he; exact absurd ha (by decide +kernel)), fun z => by rcases z with z | z <;> cases z⟩ h
  rwa [show st [60, 61] = "<=" by decide +kernel] at this
theorem na_c {c : Nat} {l : List Nat} (h : al c = false) : na (c :: l) := fun e he => by cases he; exact h
end Pr
namespace Sy
open PySem Pr
theorem al_word (x : Str) (h : x ∈ (["not", "and", "or", "then", "each", "some", "V", "in", "0"] : List Str)) : Al x := by
  have : ∀ x ∈ (["not", "and", "or", "then", "each", "some", "V", "in", "0"] : List Str), (Ak.L x).all al = true ∧ Ak.L x ≠ [] := by decide +kernel
  exact this x h
section
variable {l : List Nat} {vs : List Str}
theorem Tm.z : ∀ {t : Tm} {w : Bool} {l : List Nat} {vs : List Str}, (∀ x ∈ t.ns, Al x) → na l → Z l vs → Z (Ak.L (t.tx w) ++ l) (t.ws w ++ vs)
  | .name x, w, l, vs, h, hl, hz => zal (h x (List.mem_singleton.mpr rfl)) hl hz
  | .none, w, l, vs, h, hl, hz => zal (al_word "0" (by decide +kernel)) hl hz
  | .just t, w, l, vs, h, hl, hz => by
    have h1 : Z (125 :: l) (("}" : Str) :: vs) := zsg (by decide +kernel) (by decide +kernel) (by decide) (fun z => by rcases z with z | z <;> cases z) hz
    have h2 := Tm.z (t := t) (w := false) h (na_c (by decide +kernel)) h1
    have h3 := zsg (c := 123) (x := "{") (by decide +kernel) (by decide +kernel) (by decide) (fun z => by rcases z with z | z <;> cases z) h2
    have e1 : Ak.L ((Tm.just t).tx w) ++ l = 123 :: (Ak.L (t.tx false) ++ (125 :: l)) := by
      show Ak.L ("{" ++ t.tx false ++ "}") ++ l = _
      rw [Ak.L_app, Ak.L_app, show Ak.L "{" = [123] by decide +kernel, show Ak.L "}" = [125] by decide +kernel]; simp
    have e2 : (Tm.just t).ws w ++ vs = ("{" : Str) :: (t.ws false ++ (("}" : Str) :: vs)) := by
      show (("{" : Str) :: (t.ws false ++ (["}"] : List Str))) ++ vs = _
      simp
    rw [e1, e2]; exact h3
  | .bin k a b, w, l, vs, h, hl, hz => by
    have ha : ∀ x ∈ a.ns, Al x := fun x hx => h x (List.mem_append.mpr (.inl hx))
    have hb : ∀ x ∈ b.ns, Al x := fun x hx => h x (List.mem_append.mpr (.inr hx))
    have mid : ∀ {l : List Nat} {vs : List Str}, na l → Z l vs → Z (Ak.L (a.tx true ++ k.sg ++ b.tx true) ++ l) ((a.ws true ++ k.wd :: b.ws true) ++ vs) := fun {l vs} hl hz => by
      have h1 := Tm.z (t := b) (w := true) hb hl hz
      have h2 : Z (Ak.L k.sg ++ (Ak.L (b.tx true) ++ l)) (k.wd :: (b.ws true ++ vs)) := by
        cases k with
        | plus => exact .blank (zsg (c := 43) (by decide +kernel) (by decide +kernel) (by decide) (fun z => by rcases z with z | z <;> cases z) (.blank h1))
        | meet => exact .blank (zsg (c := 38) (by decide +kernel) (by decide +kernel) (by decide) (fun z => by rcases z with z | z <;> cases z) (.blank h1))
        | less => exact .blank (zsg (c := 45) (by decide +kernel) (by decide +kernel) (by decide) (fun z => by rcases z with z | z <;> cases z) (.blank h1))
      have h3 := Tm.z (t := a) (w := true) ha (by cases k <;> exact na_c (by decide +kernel)) h2
      rw [Ak.L_app, Ak.L_app, List.append_assoc, List.append_assoc, List.append_assoc]
      exact h3
    cases w with
    | false => exact mid hl hz
    | true =>
      have h1 : Z (41 :: l) ((")" : Str) :: vs) := zsg (by decide +kernel) (by decide +kernel) (by decide) (fun z => by rcases z with z | z <;> cases z) hz
      have h3 := zsg (c := 40) (x := "(") (by decide +kernel) (by decide +kernel) (by decide) (fun z => by rcases z with z | z <;> cases z) (mid (na_c (by decide +kernel)) h1)
      have e1 : Ak.L ((Tm.bin k a b).tx true) ++ l = 40 :: (Ak.L (a.tx true ++ k.sg ++ b.tx true) ++ (41 :: l)) := by
        show Ak.L ("(" ++ (a.tx true ++ k.sg ++ b.tx true) ++ ")") ++ l = _
        rw [Ak.L_app, Ak.L_app, show Ak.L "(" = [40] by decide +kernel, show Ak.L ")" = [41] by decide +kernel]; simp
      have e2 : (Tm.bin k a b).ws true ++ vs = ("(" : Str) :: ((a.ws true ++ k.wd :: b.ws true) ++ ((")" : Str) :: vs)) := by
        show (("(" : Str) :: ((a.ws true ++ k.wd :: b.ws true) ++ ([")"] : List Str))) ++ vs = _
        simp
      rw [e1, e2]; exact h3
theorem jn_z {j : Jn} {l : List Nat} {vs : List Str} (hl : Z l vs) : Z (Ak.L j.sg ++ l) (j.s :: vs) := by
  cases j with
  | and => exact .blank (zal (x := "and") (al_word _ (by decide +kernel)) (na_c (c := 32) (by decide +kernel)) (.blank hl))
  | or => exact .blank (zal (x := "or") (al_word _ (by decide +kernel)) (na_c (c := 32) (by decide +kernel)) (.blank hl))
  | thn => exact .blank (zal (x := "then") (al_word _ (by decide +kernel)) (na_c (c := 32) (by decide +kernel)) (.blank hl))
theorem sq_z {x : Str} {l : List Nat} {xs vs : List Str} (hm : Z (Ak.L x ++ (93 :: l)) (xs ++ (("]" : Str) :: vs))) : Z (Ak.L ("[" ++ x ++ "]") ++ l) ((("[" : Str) :: (xs ++ (["]"] : List Str))) ++ vs) := by
  have h3 := zsg (c := 91) (x := ("[" : Str)) (by decide +kernel) (by decide +kernel) (by decide) (fun z => by rcases z with z | z <;> cases z) hm
  rw [Ak.L_app, Ak.L_app, show Ak.L "[" = [91] by decide +kernel, show Ak.L "]" = [93] by decide +kernel]
  simpa using h3
theorem nt_z {l : List Nat} {vs : List Str} {x : Str} {xs : List Str} (h : Z (Ak.L x ++ l) (xs ++ vs)) : Z (Ak.L ("not " ++ x) ++ l) ((("not" : Str) :: xs) ++ vs) := by
  have := zal (x := "not") (al_word _ (by decide +kernel)) (na_c (c := 32) (by decide +kernel)) (.blank h)
  rw [Ak.L_app, show Ak.L "not " = Ak.L "not" ++ [32] by decide +kernel]
  simpa using this
theorem Bd.z : ∀ {t : Bd} {w : Bool} {l : List Nat} {vs : List Str}, (∀ x ∈ t.ns, Al x) → na l → Z l vs → Z (Ak.L (t.tx w) ++ l) (t.ws w ++ vs)
  | .fact .inside t, w, l, vs, h, hl, hz => by
    have h1 := Tm.z (t := t) (w := false) h hl hz
    have h2 := zal (x := "V") (al_word _ (by decide +kernel)) (na_c (c := 32) (by decide +kernel)) (.blank (zal (x := "in") (al_word _ (by decide +kernel)) (na_c (c := 32) (by decide +kernel)) (.blank h1)))
    show Z (Ak.L ("V in " ++ t.tx false) ++ l) (("V" :: "in" :: t.ws false : List Str) ++ vs)
    rw [Ak.L_app, show Ak.L "V in " = Ak.L "V" ++ 32 :: (Ak.L "in" ++ [32]) by decide +kernel]
    simpa using h2
  | .fact .has t, w, l, vs, h, hl, hz => by
    have h2 := Z.blank (zal (x := "in") (al_word _ (by decide +kernel)) (na_c (c := 32) (by decide +kernel)) (.blank (zal (x := "V") (al_word _ (by decide +kernel)) hl hz)))
    have h1 := Tm.z (t := t) (w := false) h (na_c (by decide +kernel)) h2
    show Z (Ak.L (t.tx false ++ " in V") ++ l) ((t.ws false ++ (["in", "V"] : List Str)) ++ vs)
    rw [Ak.L_app, show Ak.L " in V" = 32 :: (Ak.L "in" ++ 32 :: Ak.L "V") by decide +kernel]
    simpa using h1
  | .fact .is t, w, l, vs, h, hl, hz => by
    have h1 := Tm.z (t := t) (w := false) h hl hz
    have h2 := zal (x := "V") (al_word _ (by decide +kernel)) (na_c (c := 32) (by decide +kernel)) (.blank (zsg (c := 61) (x := "=") (by decide +kernel) (by decide +kernel) (by decide) (fun z => by rcases z with z | z <;> cases z) (.blank h1)))
    show Z (Ak.L ("V = " ++ t.tx false) ++ l) (("V" :: "=" :: t.ws false : List Str) ++ vs)
    rw [Ak.L_app, show Ak.L "V = " = Ak.L "V" ++ [32, 61, 32] by decide +kernel]
    simpa using h2
  | .not b, w, l, vs, h, hl, hz => nt_z (Bd.z (t := b) (w := true) h hl hz)
  | .bin j a b, w, l, vs, h, hl, hz => by
    have ha : ∀ x ∈ a.ns, Al x := fun x hx => h x (List.mem_append.mpr (.inl hx))
    have hb : ∀ x ∈ b.ns, Al x := fun x hx => h x (List.mem_append.mpr (.inr hx))
    have mid : ∀ {l : List Nat} {vs : List Str}, na l → Z l vs → Z (Ak.L (a.tx true ++ j.sg ++ b.tx true) ++ l) ((a.ws true ++ j.s :: b.ws true) ++ vs) := fun {l vs} hl hz => by
      have h3 := Bd.z (t := a) (w := true) ha (by cases j <;> exact na_c (by decide +kernel)) (jn_z (j := j) (Bd.z (t := b) (w := true) hb hl hz))
      rw [Ak.L_app, Ak.L_app, List.append_assoc, List.append_assoc, List.append_assoc]
      exact h3
    cases w with
    | false => exact mid hl hz
    | true => exact sq_z (mid (na_c (by decide +kernel)) (zsg (by decide +kernel) (by decide +kernel) (by decide) (fun z => by rcases z with z | z <;> cases z) hz))
theorem Sg.z : ∀ {t : Sg} {w : Bool} {l : List Nat} {vs : List Str}, (∀ x ∈ t.ns, Al x) → na l → Z l vs → Z (Ak.L (t.tx w) ++ l) (t.ws w ++ vs)
  | .fact k a b, w, l, vs, h, hl, hz => by
    have ha : ∀ x ∈ a.ns, Al x := fun x hx => h x (List.mem_append.mpr (.inl hx))
    have hb : ∀ x ∈ b.ns, Al x := fun x hx => h x (List.mem_append.mpr (.inr hx))
    have h1 := Tm.z (t := b) (w := false) hb hl hz
    have h2 : Z (Ak.L k.sg ++ (Ak.L (b.tx false) ++ l)) (k.wd :: (b.ws false ++ vs)) := by
      cases k with
      | same => exact .blank (zsg (c := 61) (by decide +kernel) (by decide +kernel) (by decide) (fun z => by rcases z with z | z <;> cases z) (.blank h1))
      | inn => exact .blank (zal (x := "in") (al_word _ (by decide +kernel)) (na_c (c := 32) (by decide +kernel)) (.blank h1))
      | within => exact .blank (ztw (.blank h1))
    have h3 := Tm.z (t := a) (w := false) ha (by cases k <;> exact na_c (by decide +kernel)) h2
    show Z (Ak.L (a.tx false ++ k.sg ++ b.tx false) ++ l) ((a.ws false ++ k.wd :: b.ws false) ++ vs)
    rw [Ak.L_app, Ak.L_app, List.append_assoc, List.append_assoc, List.append_assoc]
    exact h3
  | .quant e t b, w, l, vs, h, hl, hz => by
    have ha : ∀ x ∈ t.ns, Al x := fun x hx => h x (List.mem_append.mpr (.inl hx))
    have hb : ∀ x ∈ b.ns, Al x := fun x hx => h x (List.mem_append.mpr (.inr hx))
    have h1 := Bd.z (t := b) (w := true) hb hl hz
    have h2 := Tm.z (t := t) (w := false) ha (na_c (c := 58) (by decide +kernel)) (zsg (c := 58) (x := ":") (by decide +kernel) (by decide +kernel) (by decide) (fun _ => by simp) (.blank h1))
    have h3 := zal (x := qs e) (by cases e <;> exact al_word _ (by decide +kernel)) (na_c (c := 32) (by decide +kernel)) (.blank (zal (x := "V") (al_word _ (by decide +kernel)) (na_c (c := 32) (by decide +kernel)) (.blank (zal (x := "in") (al_word _ (by decide +kernel)) (na_c (c := 32) (by decide +kernel)) (.blank h2)))))
    show Z (Ak.L (qs e ++ " V in " ++ t.tx false ++ ": " ++ b.tx true) ++ l) ((qs e :: "V" :: "in" :: (t.ws false ++ (":" : Str) :: b.ws true)) ++ vs)
    rw [Ak.L_app, Ak.L_app, Ak.L_app, Ak.L_app, show Ak.L " V in " = 32 :: (Ak.L "V" ++ 32 :: (Ak.L "in" ++ [32])) by decide +kernel, show Ak.L ": " = [58, 32] by decide +kernel]
    simpa using h3
  | .not b, w, l, vs, h, hl, hz => nt_z (Sg.z (t := b) (w := true) h hl hz)
  | .bin j a b, w, l, vs, h, hl, hz => by
    have ha : ∀ x ∈ a.ns, Al x := fun x hx => h x (List.mem_append.mpr (.inl hx))
    have hb : ∀ x ∈ b.ns, Al x := fun x hx => h x (List.mem_append.mpr (.inr hx))
    have mid : ∀ {l : List Nat} {vs : List Str}, na l → Z l vs → Z (Ak.L (a.tx true ++ j.sg ++ b.tx true) ++ l) ((a.ws true ++ j.s :: b.ws true) ++ vs) := fun {l vs} hl hz => by
      have h3 := Sg.z (t := a) (w := true) ha (by cases j <;> exact na_c (by decide +kernel)) (jn_z (j := j) (Sg.z (t := b) (w := true) hb hl hz))
      rw [Ak.L_app, Ak.L_app, List.append_assoc, List.append_assoc, List.append_assoc]
      exact h3
    cases w with
    | false => exact mid hl hz
    | true => exact sq_z (mid (na_c (by decide +kernel)) (zsg (by decide +kernel) (by decide +kernel) (by decide) (fun z => by rcases z with z | z <;> cases z) hz))
end
def Bal (xs : List Str) (n : Nat) : Prop := ∀ (vs : List Str) (d m : Int), d ≤ m → bd (xs ++ vs) d m = bd vs d (max m (d + n))
theorem bal_word {x : Str} (h : ∀ d, bdw x d = d) : Bal [x] 0 := fun vs d m hd => by
  show bd vs (bdw x d) (max m (bdw x d)) = _
  rw [h]; congr 1
  rw [show d + ((0 : Nat) : Int) = d by omega]
theorem bal_app {xs ys : List Str} {n k : Nat} (h1 : Bal xs n) (h2 : Bal ys k) : Bal (xs ++ ys) (max n k) := fun vs d m hd => by
  rw [List.append_assoc, h1 _ d m hd, h2 _ d _ (by omega)]
  congr 1; omega
theorem bal_in {x y : Str} {xs : List Str} {n : Nat} (h1 : ∀ d, bdw x d = d + 1) (h2 : ∀ d, bdw y d = d - 1) (h : Bal xs n) : Bal (x :: (xs ++ [y])) (n + 1) := fun vs d m hd => by
  show bd ((xs ++ [y]) ++ vs) (bdw x d) (max m (bdw x d)) = _
  rw [h1, List.append_assoc, h _ (d + 1) _ (by omega)]
  show bd vs (bdw y (d + 1)) (max _ (bdw y (d + 1))) = _
  rw [h2, show d + 1 - 1 = d by omega]
  congr 1; omega
theorem bal_al {x : Str} (h : Al x) : Bal [x] 0 := bal_word fun d => by
  have := bdw_no (w := Ak.L x) (d := d) ⟨h.2, .inr fun c hc => al_br (List.all_eq_true.mp h.1 c hc)⟩
  rwa [st_L] at this
theorem bal_sign (x : Str) (h : x ∈ (["+", "-", "&", "=", "<=", ":"] : List Str)) : Bal [x] 0 := bal_word fun d => by
  have hh : ∀ x ∈ (["+", "-", "&", "=", "<=", ":"] : List Str), opw x = false ∧ clw x = false := by decide +kernel
  obtain ⟨h1, h2⟩ := hh x h
  unfold bdw; rw [h1, h2]; rfl
theorem bal_cons {x : Str} {xs : List Str} {n : Nat} (h1 : Bal [x] 0) (h2 : Bal xs n) : Bal (x :: xs) n := by
  have := bal_app h1 h2
  rwa [Nat.zero_max] at this
theorem Tm.bal : ∀ {t : Tm} {w : Bool}, (∀ x ∈ t.ns, Al x) → Bal (t.ws w) (t.br w)
  | .name x, w, h => bal_al (h x (List.mem_singleton.mpr rfl))
  | .none, w, h => bal_al (al_word "0" (by decide +kernel))
  | .just t, w, h => bal_in (fun d => by unfold bdw; rw [show opw "{" = true by decide +kernel]; rfl) (fun d => by unfold bdw; rw [show opw "}" = false by decide +kernel, show clw "}" = true by decide +kernel]; rfl) (Tm.bal (t := t) h)
  | .bin k a b, w, h => by
    have mid : Bal (a.ws true ++ k.wd :: b.ws true) (max (a.br true) (b.br true)) := bal_app (Tm.bal (t := a) fun x hx => h x (List.mem_append.mpr (.inl hx))) (bal_cons (bal_sign _ (by cases k <;> decide +kernel)) (Tm.bal (t := b) fun x hx => h x (List.mem_append.mpr (.inr hx))))
    cases w with
    | false => exact mid
    | true => exact bal_in (fun d => by unfold bdw; rw [show opw "(" = true by decide +kernel]; rfl) (fun d => by unfold bdw; rw [show opw ")" = false by decide +kernel, show clw ")" = true by decide +kernel]; rfl) mid
theorem bal_w (x : Str) (h : x ∈ (["not", "and", "or", "then", "each", "some", "V", "in", "0"] : List Str)) : Bal [x] 0 := bal_al (al_word x h)
theorem bal_sq {xs : List Str} {n : Nat} (h : Bal xs n) : Bal (("[" : Str) :: (xs ++ (["]"] : List Str))) (n + 1) := bal_in (fun d => by unfold bdw; rw [show opw "[" = true by decide +kernel]; rfl) (fun d => by unfold bdw; rw [show opw "]" = false by decide +kernel, show clw "]" = true by decide +kernel]; rfl) h
theorem Bd.bal : ∀ {t : Bd} {w : Bool}, (∀ x ∈ t.ns, Al x) → Bal (t.ws w) (t.br w)
  | .fact .inside t, w, h => bal_cons (bal_w _ (by decide +kernel)) (bal_cons (bal_w _ (by decide +kernel)) (Tm.bal (t := t) h))
  | .fact .has t, w, h => by
    have := bal_app (Tm.bal (t := t) (w := false) h) (bal_cons (bal_w "in" (by decide +kernel)) (bal_w "V" (by decide +kernel)))
    rwa [Nat.max_zero] at this
  | .fact .is t, w, h => bal_cons (bal_w _ (by decide +kernel)) (bal_cons (bal_sign _ (by decide +kernel)) (Tm.bal (t := t) h))
  | .not b, w, h => bal_cons (bal_w _ (by decide +kernel)) (Bd.bal (t := b) h)
  | .bin j a b, w, h => by
    have mid : Bal (a.ws true ++ j.s :: b.ws true) (max (a.br true) (b.br true)) := bal_app (Bd.bal (t := a) fun x hx => h x (List.mem_append.mpr (.inl hx))) (bal_cons (bal_w _ (by cases j <;> decide +kernel)) (Bd.bal (t := b) fun x hx => h x (List.mem_append.mpr (.inr hx))))
    cases w with
    | false => exact mid
    | true => exact bal_sq mid
theorem Sg.bal : ∀ {t : Sg} {w : Bool}, (∀ x ∈ t.ns, Al x) → Bal (t.ws w) (t.br w)
  | .fact k a b, w, h => bal_app (Tm.bal (t := a) fun x hx => h x (List.mem_append.mpr (.inl hx))) (bal_cons (by cases k with
      | same => exact bal_sign _ (by decide +kernel)
      | inn => exact bal_w _ (by decide +kernel)
      | within => exact bal_sign _ (by decide +kernel)) (Tm.bal (t := b) fun x hx => h x (List.mem_append.mpr (.inr hx))))
  | .quant e t b, w, h => bal_cons (bal_w _ (by cases e <;> decide +kernel)) (bal_cons (bal_w _ (by decide +kernel)) (bal_cons (bal_w _ (by decide +kernel)) (bal_app (Tm.bal (t := t) fun x hx => h x (List.mem_append.mpr (.inl hx))) (bal_cons (bal_sign _ (by decide +kernel)) (Bd.bal (t := b) fun x hx => h x (List.mem_append.mpr (.inr hx)))))))
  | .not b, w, h => bal_cons (bal_w _ (by decide +kernel)) (Sg.bal (t := b) h)
  | .bin j a b, w, h => by
    have mid : Bal (a.ws true ++ j.s :: b.ws true) (max (a.br true) (b.br true)) := bal_app (Sg.bal (t := a) fun x hx => h x (List.mem_append.mpr (.inl hx))) (bal_cons (bal_w _ (by cases j <;> decide +kernel)) (Sg.bal (t := b) fun x hx => h x (List.mem_append.mpr (.inr hx))))
    cases w with
    | false => exact mid
    | true => exact bal_sq mid
theorem Bal.deep {xs : List Str} {n : Nat} (h : Bal xs n) : bd xs 0 0 = n := by
  have := h [] 0 0 (Int.le_refl _)
  rw [List.append_nil] at this
  rw [this]
  show max (0 : Int) (0 + (n : Int)) = n
  omega
end Sy
namespace Lw
open PySem PySem.Spec PyProof.Rows L2
section
variable {H : Hp} {Q : VK}
theorem flat_str (ts : List Str) : (ts.map V.str).all flatV = true := List.all_eq_true.mpr fun x hx => by
  obtain ⟨y, _, rfl⟩ := List.mem_map.mp hx
  rfl
theorem r_inS {K : PySem.W.Frag} {neg : Bool} {a : Addr} {ts : List Str} {x : Str} (h : H a = some (.lst (ts.map V.str))) (q : Q (.bl (if neg then !decide (x ∈ ts) else decide (x ∈ ts))) H) : rIn K neg (.str x) (.ref a) H Q := by
  have e : inV (.str x) (ts.map V.str) = decide (x ∈ ts) := by
    unfold inV
    rw [Bool.eq_iff_iff, decide_eq_true_eq, List.any_eq_true]
    constructor
    · rintro ⟨y, hy, hb⟩
      obtain ⟨z, hz, rfl⟩ := List.mem_map.mp hy
      have : z = x := by simpa [eqV] using hb
      rw [← this]; exact hz
    · intro hn
      exact ⟨_, List.mem_map.mpr ⟨x, hn, rfl⟩, by simp [eqV]⟩
  exact ⟨a, _, rfl, .inl (SqL.of h), rfl, flat_str ts, by rw [e]; exact q⟩
theorem cut_b (z : Str) : (cutS z (some 1) none).length ≤ z.length - 1 := by
  unfold cutS
  have h2 : HT.sIx z.length 0 (some 1) = min 1 z.length := HT.sIx_nat _ _ 1
  rw [h2]
  show (List.take _ _).toArray.size ≤ _
  rw [List.size_toArray, List.length_take, List.length_drop, Array.length_toList]
  show min _ (z.length - _) ≤ _
  omega
end
end Lw
namespace Lw
open PySem PySem.Spec PyProof.Rows L2
theorem strOk_mem {z : Str} : PyData.strOk z = true ↔ ∀ c ∈ z.cps.toList, c < 0x110000 := by
  unfold PyData.strOk
  rw [← Array.all_toList, List.all_eq_true]
  exact ⟨fun h c hc => of_decide_eq_true (h c hc), fun h c hc => decide_eq_true (h c hc)⟩
theorem r_slX {H : Hp} {Q : VK} {z : Str} {lo hi : Option Int} (h : z.length ≤ sizeLine) (q : Q (.str (cutS z lo hi)) H) : rSlS (.str z) lo hi H Q := ⟨z, rfl, h, q⟩
end Lw
namespace Lw
open PySem PySem.Spec PyProof.Rows L2
def Nk (i : Nat) (t : Str) : Prop := ∃ c ds, Ak.L t = c :: ds ∧ (97 ≤ c ∧ c ≤ 122) ∧ ds.length = i ∧ ∀ d ∈ ds, 48 ≤ d ∧ d ≤ 57
def Nw (t : Str) : Prop := ∃ i, i ≤ 2 ∧ Nk i t
theorem Nk.len {i : Nat} {t : Str} (h : Nk i t) : t.length = i + 1 := by
  obtain ⟨c, ds, e, _, hl, _⟩ := h
  have := congrArg List.length e
  rw [List.length_cons, hl] at this
  rw [← this]; exact Array.length_toList.symm
theorem Nw.len {t : Str} (h : Nw t) : t.length ≤ 3 := by obtain ⟨i, hi, h⟩ := h; have := h.len; omega
theorem atI_mem {xs : List Nat} {k : Nat} {c : Nat} (h : atI xs (k : Int) = some c) : c ∈ xs := by
  by_cases hk : k < xs.length
  · rw [atI_nat (List.getElem?_eq_getElem hk)] at h
    rw [← Option.some.inj h]; exact List.getElem_mem hk
  · exfalso
    unfold atI ixN at h
    rw [if_pos (by omega), if_neg (by omega)] at h
    cases h
theorem Nk.one {c : Nat} (h : 97 ≤ c ∧ c ≤ 122) : Nk 0 ⟨#[c]⟩ := ⟨c, [], rfl, h, rfl, fun _ h => nomatch h⟩
theorem Nk.snoc {i : Nat} {t : Str} {d : Nat} (h : Nk i t) (hd : 48 ≤ d ∧ d ≤ 57) : Nk (i + 1) (t ++ ⟨#[d]⟩) := by
  obtain ⟨c, ds, e, hc, hl, hds⟩ := h
  refine ⟨c, ds ++ [d], by rw [Ak.L_app, e]; rfl, hc, by rw [List.length_append, hl]; rfl, fun x hx => ?_⟩
  rcases List.mem_append.mp hx with h | h
  · exact hds x h
  · rw [List.mem_singleton.mp h]; exact hd
theorem L_cut1 {t : Str} {c : Nat} {ds : List Nat} (e : Ak.L t = c :: ds) : Ak.L (cutS t none (some 1)) = [c] ∧ Ak.L (cutS t (some 1) none) = ds := by
  have hl : t.length = ds.length + 1 := by have := congrArg List.length e; rw [List.length_cons] at this; rw [← this]; exact Array.length_toList.symm
  have e : t.cps.toList = c :: ds := e
  have h1 : HT.sIx t.length t.length (some 1) = 1 := by rw [show (1 : Int) = ((1 : Nat) : Int) from rfl, HT.sIx_nat]; omega
  have h2 : HT.sIx t.length 0 (some 1) = 1 := by rw [show (1 : Int) = ((1 : Nat) : Int) from rfl, HT.sIx_nat]; omega
  constructor
  · show (cutS t none (some 1)).cps.toList = _
    unfold cutS
    rw [HT.sIx_none, h1, e]
    rfl
  · show (cutS t (some 1) none).cps.toList = _
    unfold cutS
    rw [HT.sIx_none, h2, e, hl]
    simp
theorem Nw.cut {x t : Str} (h : Nw x) (k : Nw t) : Nw (cutS x none (some 1) ++ cutS t (some 1) none) := by
  obtain ⟨i, hi, c, ds, e, hc, hl, hds⟩ := h
  obtain ⟨j, hj, c2, ds2, e2, hc2, hl2, hds2⟩ := k
  refine ⟨j, hj, c, ds2, ?_, hc, hl2, hds2⟩
  rw [Ak.L_app, (L_cut1 e).1, (L_cut1 e2).2]; rfl
end Lw
namespace Pr
open PySem
mutual
inductive Pt : PyData → Nat → Prop
  | name {x : Str} : Pt (.tuple [.str "name", .str x]) 1
  | node {k : Str} {ds : List PyData} {n : Nat} : k ≠ "name" → PtAll ds n → Pt (.tuple (.str k :: ds)) (n + 1)
inductive PtAll : List PyData → Nat → Prop
  | nil : PtAll [] 0
  | cons {d : PyData} {ds : List PyData} {n m : Nat} : Pt d n → PtAll ds m → PtAll (d :: ds) (n + m)
end
theorem PtAll.app {ds es : List PyData} {n m : Nat} (h : PtAll ds n) (k : PtAll es m) : PtAll (ds ++ es) (n + m) := by
  induction ds generalizing n with
  | nil => cases h; rw [Nat.zero_add]; exact k
  | cons d ds ih =>
    cases h with
    | cons h1 h2 => rw [Nat.add_assoc]; exact .cons h1 (ih h2)
theorem PtAll.split {ds es : List PyData} {n : Nat} (h : PtAll (ds ++ es) n) : ∃ a b, PtAll ds a ∧ PtAll es b ∧ n = a + b := by
  induction ds generalizing n with
  | nil => exact ⟨0, n, .nil, h, (Nat.zero_add n).symm⟩
  | cons d ds ih =>
    cases h with
    | cons h1 h2 =>
      obtain ⟨a, b, h3, h4, rfl⟩ := ih h2
      exact ⟨_, b, .cons h1 h3, h4, (Nat.add_assoc ..).symm⟩
theorem Pt.pos {d : PyData} {n : Nat} (h : Pt d n) : 1 ≤ n := by cases h <;> omega
theorem PtAll.len {ds : List PyData} {n : Nat} (h : PtAll ds n) : ds.length ≤ n := by
  induction ds generalizing n with
  | nil => exact Nat.zero_le _
  | cons d ds ih =>
    cases h with
    | cons h1 h2 =>
      have := h1.pos
      have := ih h2
      rw [List.length_cons]; omega
end Pr
namespace Sy
open PySem Pr
theorem p1 {k : Str} {d : PyData} {n : Nat} (hk : k ≠ "name") (h : Pt d n) : Pt (.tuple [.str k, d]) (n + 1) := .node hk (.cons h .nil)
theorem p2 {k : Str} {d e : PyData} {n m : Nat} (hk : k ≠ "name") (h : Pt d n) (g : Pt e m) : Pt (.tuple [.str k, d, e]) (n + m + 1) := .node hk (.cons h (.cons g .nil))
theorem Tm.pt : ∀ t : Tm, Pt t.d t.sz
  | .name _ => .name
  | .none => .node (by decide +kernel) .nil
  | .just t => p1 (by decide +kernel) t.pt
  | .bin k a b => p2 (by cases k <;> decide +kernel) a.pt b.pt
theorem Bd.pt : ∀ t : Bd, Pt t.d t.sz
  | .fact k t => p1 (by cases k <;> decide +kernel) t.pt
  | .not b => p1 (by decide +kernel) b.pt
  | .bin j a b => p2 (by cases j <;> decide +kernel) a.pt b.pt
theorem Sg.pt : ∀ t : Sg, Pt t.d t.sz
  | .fact k a b => p2 (by cases k <;> decide +kernel) a.pt b.pt
  | .quant e t b => p2 (by cases e <;> decide +kernel) t.pt b.pt
  | .not s => p1 (by decide +kernel) s.pt
  | .bin j a b => p2 (by cases j <;> decide +kernel) a.pt b.pt
end Sy
namespace Sy
open PySem Pr L2 Lw
def Oks (d : PyData) : Prop := PyData.canLay0 d = true ∧ pl d = true
theorem ok1 {k : Str} {d : PyData} (hk : PyData.strOk k = true) (h : Oks d) : Oks (.tuple [.str k, d]) := by
  refine ⟨?_, ?_⟩
  · rw [PyData.canLay0, PyData.canLayAll0, PyData.canLayAll0, PyData.canLayAll0, PyData.canLay0, hk, h.1]; rfl
  · rw [pl, plAll, plAll, plAll, pl, h.2]; rfl
theorem ok2 {k : Str} {d e : PyData} (hk : PyData.strOk k = true) (h : Oks d) (g : Oks e) : Oks (.tuple [.str k, d, e]) := by
  refine ⟨?_, ?_⟩
  · rw [PyData.canLay0, PyData.canLayAll0, PyData.canLayAll0, PyData.canLayAll0, PyData.canLayAll0, PyData.canLay0, hk, h.1, g.1]; rfl
  · rw [pl, plAll, plAll, plAll, plAll, pl, h.2, g.2]; rfl
end Sy
namespace Lw
open PySem L2
theorem Nw.strOk {t : Str} (h : Nw t) : PyData.strOk t = true := by
  obtain ⟨i, _, c, ds, e, hc, _, hds⟩ := h
  rw [strOk_mem]
  intro x hx
  have hx : x ∈ Ak.L t := hx
  rw [e] at hx
  rcases List.mem_cons.mp hx with rfl | hx
  · omega
  · have := hds x hx; omega
end Lw
namespace L2
open PySem PySem.Spec PyProof.Rows
end L2
namespace Lw
open PySem PySem.Spec PyProof.Rows L2
end Lw
namespace Lw
open PySem PySem.Spec PyProof.Rows L2
end Lw
namespace Lw
open PySem PySem.Spec PyProof.Rows L2
theorem cut_st (t : Str) (i j : Nat) (hi : i ≤ t.length) : cutS t (some (i : Int)) (some (j : Int)) = Pr.st (((Ak.L t).drop i).take (j - i)) := by
  unfold cutS Pr.st Ak.L
  rw [HT.sIx_nat, HT.sIx_nat, Nat.min_eq_left hi]
  congr 2
  rcases Nat.le_total j t.length with h | h
  · rw [Nat.min_eq_left h]
  · rw [Nat.min_eq_right h, List.take_of_length_le, List.take_of_length_le]
    · rw [List.length_drop]; show t.cps.toList.length - i ≤ j - i; rw [Array.length_toList]; show t.length - i ≤ _; omega
    · rw [List.length_drop, Array.length_toList]; exact Nat.le_refl _
theorem ns_of : ∀ {ds : List PyData} {n : Nat}, Pr.PtAll ds n → ∃ ns : List Nat, ns.length = ds.length ∧ (∀ (i : Nat) (d : PyData), ds[i]? = some d → ∃ m, ns[i]? = some m ∧ Pr.Pt d m) ∧ n = ns.sum
  | [], n, h => by cases h; exact ⟨[], rfl, (fun i d e => nomatch e), rfl⟩
  | d :: ds, n, h => by
    cases h with
    | cons h1 h2 =>
      obtain ⟨ns, e1, e2, e3⟩ := ns_of h2
      refine ⟨_ :: ns, by simp [e1], fun i d e => ?_, by rw [List.sum_cons, ← e3]⟩
      cases i with
      | zero => cases e; exact ⟨_, rfl, h1⟩
      | succ i => exact e2 i d e
theorem dp_ty {K : PySem.W.Frag} {H : Hp} {v : V} {d : PyData} (h : Dp K H v d) (hd : ∃ ds, d = .tuple ds) : TyX K H v (.type "tuple") := by
  obtain ⟨ds, rfl⟩ := hd
  cases h with
  | tup hq _ =>
    rcases hq with (h | ⟨o, h⟩) | ⟨o, its, n, hk, hc, _⟩
    · exact .base (.tup h)
    · exact .fTuple h
    · exact .kTuple hk hc
theorem r_slQ1 {K : PySem.W.Frag} {Q : VK} {H : Hp} {a : Addr} {xs : List V} (h : SqT K H a xs) (hl : 1 ≤ xs.length) (q : ∀ p, H p = none → Q (.ref p) (upd H p (.tup (xs.drop 1)))) : rSlT K (.ref a) (some 1) none H Q := by
  refine ⟨a, xs, rfl, h, fun z => ?_, fun p hp => ?_⟩
  · have h1 := z.1
    unfold HT.sIx at h1
    simp only at h1
    split at h1 <;> omega
  · rw [cut_from _ (by omega)]
    exact q p hp
theorem le_sum : ∀ {ws : List Nat} {c : Nat}, c ∈ ws → c ≤ ws.sum
  | x :: ws, c, h => by
    rw [List.sum_cons]
    rcases List.mem_cons.mp h with rfl | h
    · omega
    · have := le_sum h; omega
theorem depth_mem : ∀ {ds : List PyData} {i : Nat} {d : PyData}, ds[i]? = some d → d.depth ≤ PyData.depthAll ds
  | [], i, d, e => nomatch e
  | x :: ds, 0, d, e => by
    have h : x = d := Option.some.inj e
    rw [← h]
    show x.depth ≤ max x.depth (PyData.depthAll ds)
    omega
  | x :: ds, i + 1, d, e => by
    have := depth_mem (ds := ds) (i := i) (d := d) e
    show d.depth ≤ max x.depth (PyData.depthAll ds)
    omega
end Lw
namespace Shp
open PySem Sy
structure G where
  el : List Tm
  as : List Tm
  ho : List Tm
  wi : List PyData
def isNm : Tm → Bool
  | .name _ => true
  | _ => false
def outer : Tm → List Str
  | .name x => [x]
  | .bin _ a b => outer a ++ outer b
  | _ => []
def G.take (g : G) (t : Tm) : G := if t ∈ g.el then g else { g with el := g.el ++ [t], ho := if isNm t then g.ho else g.ho ++ [t] }
def G.tm : Tm → G → G
  | .just t, g => G.tm t (g.take t)
  | .bin _ a b, g => G.tm b (G.tm a g)
  | .name _, g => g
  | .none, g => g
def G.elem (t : Tm) (g : G) : G := G.tm t (g.take t)
def G.hold (t : Tm) (g : G) : G := G.tm t { g with ho := g.ho ++ [t] }
def G.bd : Bd → G → G
  | .fact .inside t, g => G.hold t g
  | .fact .has t, g => G.elem t { g with as := g.as ++ [t] }
  | .fact .is t, g => G.elem t g
  | .not b, g => G.bd b g
  | .bin _ a b, g => G.bd b (G.bd a g)
open Classical in
noncomputable def G.wide (d : PyData) (g : G) : G := if d ∈ g.wi then g else { g with wi := g.wi ++ [d] }
/-- the wide fact of a fact -/
def wideD : Sg → Option PyData
  | .fact .inn _ _ => none
  | .fact .same a b => if isNm a && isNm b then none else some (Sg.fact .same a b).d
  | .fact .within a b => some (Sg.fact .within a b).d
  | .quant true t b => some (Sg.quant true t b).d
  | .quant false t b => some (Sg.quant true t (.not b)).d
  | .not _ => none
  | .bin _ _ _ => none
noncomputable def G.sg : Sg → G → G
  | .not s, g => G.sg s g
  | .bin _ a b, g => G.sg b (G.sg a g)
  | .fact .inn a b, g => G.hold b (G.elem a g)
  | .fact .same a b, g => if isNm a && isNm b then G.elem b (G.elem a g) else G.hold b (G.hold a (G.wide (Sg.fact .same a b).d g))
  | .fact .within a b, g => G.hold b (G.hold a (G.wide (Sg.fact .within a b).d g))
  | .quant true t b, g => G.bd b (G.hold t (G.wide (Sg.quant true t b).d g))
  | .quant false t b, g => G.bd b (G.hold t (G.wide (Sg.quant true t (.not b)).d g))
abbrev Row := Str × PyData
def rTm : Tm → List Row
  | .just t => ("element", t.d) :: rTm t
  | .bin _ a b => rTm a ++ rTm b
  | .name _ => []
  | .none => []
def rEl (t : Tm) : List Row := ("element", t.d) :: rTm t
def rHo (t : Tm) : List Row := ("holding", t.d) :: rTm t
def rBd : Bd → List Row
  | .fact .inside t => rHo t
  | .fact .has t => ("asked", t.d) :: rEl t
  | .fact .is t => rEl t
  | .not b => rBd b
  | .bin _ a b => rBd a ++ rBd b
def rSg : Sg → List Row
  | .not s => rSg s
  | .bin _ a b => rSg a ++ rSg b
  | .fact .inn a b => rEl a ++ rHo b
  | .fact .same a b => if isNm a && isNm b then rEl a ++ rEl b else rHo a ++ rHo b ++ [(("wide", (Sg.fact .same a b).d) : Row)]
  | .fact .within a b => rHo a ++ rHo b ++ [(("wide", (Sg.fact .within a b).d) : Row)]
  | .quant true t b => rHo t ++ rBd b ++ [(("wide", (Sg.quant true t b).d) : Row)]
  | .quant false t b => rHo t ++ rBd b ++ [(("wide", (Sg.quant true t (.not b)).d) : Row)]
open Classical in
noncomputable def firsts (w : Str) : List Row → List PyData → List PyData
  | [], l => l
  | (k, d) :: r, l => firsts w r (if k = w ∧ d ∉ l then l ++ [d] else l)
theorem firsts_app (w : Str) : ∀ (a b : List Row) (l : List PyData), firsts w (a ++ b) l = firsts w b (firsts w a l)
  | [], _, _ => rfl
  | (k, d) :: a, b, l => by
    show firsts w (a ++ b) _ = _
    rw [firsts_app w a b]
    rfl
theorem firsts_mem {w : Str} {x : PyData} : ∀ (a : List Row) (l : List PyData), x ∈ firsts w a l ↔ x ∈ l ∨ (w, x) ∈ a
  | [], l => by simp [firsts]
  | (k, d) :: a, l => by
    rw [firsts, firsts_mem a]
    by_cases h : k = w ∧ d ∉ l
    · rw [if_pos h]
      obtain ⟨rfl, _⟩ := h
      simp [or_assoc]
    · rw [if_neg h]
      constructor
      · rintro (q | q)
        · exact .inl q
        · exact .inr (List.mem_cons_of_mem _ q)
      · rintro (q | q)
        · exact .inl q
        · rcases List.mem_cons.mp q with e | q
          · injection e with e1 e2
            subst e1 e2
            by_cases hm : x ∈ l
            · exact .inl hm
            · exact absurd ⟨rfl, hm⟩ h
          · exact .inr q
theorem firsts_none {w : Str} : ∀ {a : List Row} {l : List PyData}, (∀ x, (w, x) ∉ a) → firsts w a l = l
  | [], _, _ => rfl
  | (k, d) :: a, l, h => by
    rw [firsts, if_neg (fun z => h d (by rw [← z.1]; exact List.mem_cons_self))]
    exact firsts_none fun x hx => h x (List.mem_cons_of_mem _ hx)
theorem firsts_no {w k : Str} {d : PyData} {a : List Row} {l : List PyData} (h : k ≠ w) : firsts w ((k, d) :: a) l = firsts w a l := by
  rw [firsts, if_neg (fun z => h z.1)]
/-- what gathering does, by rows -/
structure Rel (rs : List Row) (g g' : G) : Prop where
  el : g'.el.map Tm.d = firsts "element" rs (g.el.map Tm.d)
  wi : g'.wi = firsts "wide" rs g.wi
  as : ∀ t, t ∈ g'.as ↔ t ∈ g.as ∨ (("asked", t.d) : Row) ∈ rs
  ho : ∀ t, t ∈ g'.ho ↔ t ∈ g.ho ∨ (("holding", t.d) : Row) ∈ rs ∨ (isNm t = false ∧ t ∈ g'.el ∧ t ∉ g.el)
  sub : ∀ t, t ∈ g.el → t ∈ g'.el
  asEl : ∀ t, t ∈ g'.as → t ∈ g.as ∨ t ∈ g'.el
theorem Rel.nil (g : G) : Rel [] g g := ⟨rfl, rfl, fun t => by simp, fun t => ⟨.inl, fun h => by rcases h with h | h | h; exact h; cases h; exact absurd h.2.1 h.2.2⟩, fun _ h => h, fun _ h => .inl h⟩
theorem Rel.app {a b : List Row} {g g' g'' : G} (h : Rel a g g') (k : Rel b g' g'') : Rel (a ++ b) g g'' where
  el := by rw [k.el, h.el, firsts_app]
  wi := by rw [k.wi, h.wi, firsts_app]
  as t := by rw [k.as, h.as, List.mem_append, or_assoc]
  ho t := by
    rw [k.ho, h.ho, List.mem_append]
    constructor
    · rintro ((q | q | ⟨q1, q2, q3⟩) | q | ⟨q1, q2, q3⟩)
      · exact .inl q
      · exact .inr (.inl (.inl q))
      · exact .inr (.inr ⟨q1, k.sub _ q2, q3⟩)
      · exact .inr (.inl (.inr q))
      · exact .inr (.inr ⟨q1, q2, fun z => q3 (h.sub _ z)⟩)
    · rintro (q | (q | q) | ⟨q1, q2, q3⟩)
      · exact .inl (.inl q)
      · exact .inl (.inr (.inl q))
      · exact .inr (.inl q)
      · by_cases z : t ∈ g'.el
        · exact .inl (.inr (.inr ⟨q1, z, q3⟩))
        · exact .inr (.inr ⟨q1, q2, z⟩)
  sub t q := k.sub _ (h.sub _ q)
  asEl t q := (k.asEl t q).elim (fun z => (h.asEl t z).imp id (k.sub t)) .inr
theorem d_mem {t : Tm} {l : List Tm} : t.d ∈ l.map Tm.d ↔ t ∈ l := by
  constructor
  · intro h
    obtain ⟨u, hu, e⟩ := List.mem_map.mp h
    rw [← Tm.d_inj e]; exact hu
  · exact fun h => List.mem_map.mpr ⟨t, h, rfl⟩
theorem ne_k {a b : Str} {d e : PyData} (h : a ≠ b) : ((a, d) : Row) ≠ (b, e) := fun z => h (congrArg Prod.fst z)
theorem only {a b : Str} {d e : PyData} : ((a, d) : Row) ∈ [((b, e) : Row)] ↔ a = b ∧ d = e := by rw [List.mem_singleton, Prod.mk.injEq]
theorem s1 : ("element" : Str) ≠ "wide" := by decide +kernel
theorem s2 : ("element" : Str) ≠ "asked" := by decide +kernel
theorem s3 : ("element" : Str) ≠ "holding" := by decide +kernel
theorem s4 : ("holding" : Str) ≠ "wide" := by decide +kernel
theorem s5 : ("holding" : Str) ≠ "asked" := by decide +kernel
theorem s6 : ("asked" : Str) ≠ "wide" := by decide +kernel
theorem Rel.take (g : G) (t : Tm) : Rel [("element", t.d)] g (g.take t) := by
  unfold G.take
  by_cases h : t ∈ g.el
  · rw [if_pos h]
    refine ⟨?_, (firsts_none fun x z => s1.symm (only.mp z).1).symm, fun u => ⟨.inl, fun z => z.elim id fun z => absurd (only.mp z).1 s2.symm⟩, fun u => ⟨.inl, ?_⟩, fun _ z => z, fun _ z => .inl z⟩
    · rw [firsts, firsts, if_neg (fun z => z.2 (d_mem.mpr h))]
    · rintro (z | z | z)
      · exact z
      · exact absurd (only.mp z).1 s3.symm
      · exact absurd z.2.1 z.2.2
  · rw [if_neg h]
    refine ⟨?_, (firsts_none fun x z => s1.symm (only.mp z).1).symm, fun u => ⟨.inl, fun z => z.elim id fun z => absurd (only.mp z).1 s2.symm⟩, fun u => ⟨?_, ?_⟩, fun _ z => List.mem_append_left _ z, fun _ z => .inl z⟩
    · show (g.el ++ [t]).map Tm.d = _
      rw [firsts, firsts, if_pos ⟨rfl, fun z => h (d_mem.mp z)⟩, List.map_append]; rfl
    · intro z
      cases e : isNm t with
      | true => rw [e] at z; exact .inl z
      | false =>
        rw [e] at z
        rcases List.mem_append.mp z with z | z
        · exact .inl z
        · rw [List.mem_singleton.mp z]
          exact .inr (.inr ⟨e, List.mem_append_right _ (List.mem_singleton.mpr rfl), h⟩)
    · rintro (z | z | ⟨z1, z2, z3⟩)
      · show u ∈ (if isNm t = true then g.ho else g.ho ++ [t])
        split
        · exact z
        · exact List.mem_append_left _ z
      · exact absurd (only.mp z).1 s3.symm
      · rcases List.mem_append.mp z2 with z | z
        · exact absurd z z3
        · have z := List.mem_singleton.mp z
          rw [z] at z1 ⊢
          show t ∈ (if isNm t = true then g.ho else g.ho ++ [t])
          rw [if_neg (by rw [z1]; decide)]
          exact List.mem_append_right _ (List.mem_singleton.mpr rfl)
theorem Rel.hold1 (g : G) (t : Tm) : Rel [("holding", t.d)] g { g with ho := g.ho ++ [t] } := by
  refine ⟨(firsts_none fun x z => s3 (only.mp z).1).symm, (firsts_none fun x z => s4.symm (only.mp z).1).symm, fun u => ⟨.inl, fun z => z.elim id fun z => absurd (only.mp z).1 s5.symm⟩, fun u => ?_, fun _ z => z, fun _ z => .inl z⟩
  show u ∈ g.ho ++ [t] ↔ _
  rw [List.mem_append, List.mem_singleton]
  constructor
  · rintro (z | rfl)
    · exact .inl z
    · exact .inr (.inl (List.mem_singleton.mpr rfl))
  · rintro (z | z | z)
    · exact .inl z
    · exact .inr (Tm.d_inj (only.mp z).2)
    · exact absurd z.2.1 z.2.2
theorem Rel.ask1 (g : G) (t : Tm) : Rel [("asked", t.d), ("element", t.d)] g (({ g with as := g.as ++ [t] } : G).take t) := by
  have h := Rel.take ({ g with as := g.as ++ [t] } : G) t
  have hin : t ∈ (({ g with as := g.as ++ [t] } : G).take t).el := by
    unfold G.take
    split
    · assumption
    · exact List.mem_append_right _ (List.mem_singleton.mpr rfl)
  have has : ∀ u, u ∈ (({ g with as := g.as ++ [t] } : G).take t).as ↔ u ∈ g.as ∨ u = t := by
    intro u
    rw [h.as]
    constructor
    · rintro (z | z)
      · exact (List.mem_append.mp z).imp id List.mem_singleton.mp
      · exact absurd (only.mp z).1 s2.symm
    · exact fun z => .inl (List.mem_append.mpr (z.imp id List.mem_singleton.mpr))
  refine ⟨?_, ?_, fun u => ?_, fun u => ?_, h.sub, fun u z => ?_⟩
  · rw [h.el, firsts_no s2.symm]
  · rw [h.wi, firsts_no s6]
  · rw [has]
    constructor
    · rintro (z | rfl)
      · exact .inl z
      · exact .inr List.mem_cons_self
    · rintro (z | z)
      · exact .inl z
      · rcases List.mem_cons.mp z with z | z
        · exact .inr (Tm.d_inj (congrArg Prod.snd z))
        · exact absurd (only.mp z).1 s2.symm
  · rw [h.ho]
    constructor
    · rintro (z | z | z)
      · exact .inl z
      · exact .inr (.inl (List.mem_cons_of_mem _ z))
      · exact .inr (.inr z)
    · rintro (z | z | z)
      · exact .inl z
      · rcases List.mem_cons.mp z with z | z
        · exact absurd z (ne_k s5)
        · exact .inr (.inl z)
      · exact .inr (.inr z)
  · rcases (has u).mp z with z | rfl
    · exact .inl z
    · exact .inr hin
theorem Rel.tm : ∀ (t : Tm) (g : G), Rel (rTm t) g (G.tm t g)
  | .name _, g => Rel.nil g
  | .none, g => Rel.nil g
  | .just t, g => (Rel.take g t).app (Rel.tm t _)
  | .bin _ a b, g => (Rel.tm a g).app (Rel.tm b _)
theorem Rel.elem (t : Tm) (g : G) : Rel (rEl t) g (G.elem t g) := (Rel.take g t).app (Rel.tm t _)
theorem Rel.hold (t : Tm) (g : G) : Rel (rHo t) g (G.hold t g) := (Rel.hold1 g t).app (Rel.tm t _)
theorem Rel.bd : ∀ (b : Bd) (g : G), Rel (rBd b) g (G.bd b g)
  | .fact .inside t, g => Rel.hold t g
  | .fact .has t, g => (Rel.ask1 g t).app (Rel.tm t _)
  | .fact .is t, g => Rel.elem t g
  | .not b, g => Rel.bd b g
  | .bin _ a b, g => (Rel.bd a g).app (Rel.bd b _)
theorem Rel.wide (g : G) (d : PyData) : Rel [("wide", d)] g (G.wide d g) := by
  have e : (G.wide d g).el = g.el ∧ (G.wide d g).as = g.as ∧ (G.wide d g).ho = g.ho := by
    unfold G.wide
    split <;> exact ⟨rfl, rfl, rfl⟩
  refine ⟨?_, ?_, fun u => ?_, fun u => ?_, fun u z => ?_, fun u z => ?_⟩
  · rw [e.1]; exact (firsts_none fun x z => s1 (only.mp z).1).symm
  · unfold G.wide
    rw [firsts, firsts]
    by_cases h : d ∈ g.wi
    · rw [if_pos h, if_neg (fun z => z.2 h)]
    · rw [if_neg h, if_pos ⟨rfl, h⟩]
  · rw [e.2.1]; exact ⟨.inl, fun z => z.elim id fun z => absurd (only.mp z).1 s6⟩
  · rw [e.2.2, e.1]
    refine ⟨.inl, ?_⟩
    rintro (z | z | z)
    · exact z
    · exact absurd (only.mp z).1 s4
    · exact absurd z.2.1 z.2.2
  · rw [e.1]; exact z
  · rw [e.2.1] at z; exact .inl z
theorem rTm_kind {k : Str} {x : PyData} : ∀ {t : Tm}, (k, x) ∈ rTm t → k = "element"
  | .name _, h => nomatch h
  | .none, h => nomatch h
  | .just t, h => by
    rcases List.mem_cons.mp h with e | h
    · exact congrArg Prod.fst e
    · exact rTm_kind (t := t) h
  | .bin _ a b, h => (List.mem_append.mp h).elim (rTm_kind (t := a)) (rTm_kind (t := b))
theorem rEl_kind {k : Str} {x : PyData} {t : Tm} (h : (k, x) ∈ rEl t) : k ≠ "wide" := by
  rcases List.mem_cons.mp h with e | h
  · rw [show k = _ from congrArg Prod.fst e]; exact s1
  · rw [rTm_kind h]; exact s1
theorem rHo_kind {k : Str} {x : PyData} {t : Tm} (h : (k, x) ∈ rHo t) : k ≠ "wide" := by
  rcases List.mem_cons.mp h with e | h
  · rw [show k = _ from congrArg Prod.fst e]; exact s4
  · rw [rTm_kind h]; exact s1
theorem rBd_kind {k : Str} {x : PyData} : ∀ {b : Bd}, (k, x) ∈ rBd b → k ≠ "wide"
  | .fact .inside t, h => rHo_kind h
  | .fact .has t, h => by
    rcases List.mem_cons.mp h with e | h
    · rw [show k = _ from congrArg Prod.fst e]; exact s6
    · exact rEl_kind h
  | .fact .is t, h => rEl_kind h
  | .not b, h => rBd_kind (b := b) h
  | .bin _ a b, h => (List.mem_append.mp h).elim (rBd_kind (b := a)) (rBd_kind (b := b))
theorem Rel.turn {rs : List Row} {d : PyData} {g g' : G} (hn : ∀ x, (("wide", x) : Row) ∉ rs) (h : Rel (("wide", d) :: rs) g g') : Rel (rs ++ [(("wide", d) : Row)]) g g' := by
  refine ⟨?_, ?_, fun t => ?_, fun t => ?_, h.sub, h.asEl⟩
  · rw [h.el, firsts_app, firsts_no s1.symm, firsts_no s1.symm, firsts]
  · rw [h.wi, firsts_app, firsts_none hn, firsts, firsts_none hn, firsts, firsts]
  · rw [h.as, List.mem_append, List.mem_cons, List.mem_singleton, or_comm (a := _ = _)]
  · rw [h.ho, List.mem_append, List.mem_cons, List.mem_singleton, or_comm (a := (("holding", t.d) : Row) = _)]
theorem Rel.sg : ∀ (s : Sg) (g : G), Rel (rSg s) g (G.sg s g)
  | .not s, g => Rel.sg s g
  | .bin _ a b, g => (Rel.sg a g).app (Rel.sg b _)
  | .fact .inn a b, g => (Rel.elem a g).app (Rel.hold b _)
  | .fact .same a b, g => by
    rw [rSg, G.sg]
    cases isNm a && isNm b with
    | true => exact (Rel.elem a g).app (Rel.elem b _)
    | false => exact Rel.turn (fun x z => (List.mem_append.mp z).elim (fun z => rHo_kind z rfl) (fun z => rHo_kind z rfl)) ((Rel.wide g _).app ((Rel.hold a _).app (Rel.hold b _)))
  | .fact .within a b, g => Rel.turn (fun x z => (List.mem_append.mp z).elim (fun z => rHo_kind z rfl) (fun z => rHo_kind z rfl)) ((Rel.wide g _).app ((Rel.hold a _).app (Rel.hold b _)))
  | .quant true t b, g => Rel.turn (fun x z => (List.mem_append.mp z).elim (fun z => rHo_kind z rfl) (fun z => rBd_kind z rfl)) ((Rel.wide g _).app ((Rel.hold t _).app (Rel.bd b _)))
  | .quant false t b, g => Rel.turn (fun x z => (List.mem_append.mp z).elim (fun z => rHo_kind z rfl) (fun z => rBd_kind z rfl)) ((Rel.wide g _).app ((Rel.hold t _).app (Rel.bd b _)))
def G0 : G := ⟨[], [], [], []⟩
/-- the names of the holders, as the program finds them -/
def hoNs (g : G) : List Str := (g.ho.map outer).flatten ++ (if g.as = [] then [] else (g.el.filter isNm).map fun t => (outer t).headD "")
theorem outer_nm {t : Tm} (h : isNm t = true) : ∃ x, t = .name x := by
  cases t with
  | name x => exact ⟨x, rfl⟩
  | none => cases h
  | just _ => cases h
  | bin _ _ _ => cases h
/-- and as the law does -/
theorem hold_iff {rs : List Row} {g : G} (h : Rel rs G0 g) (x : Str) :
    x ∈ hoNs g ↔ (∃ t : Tm, (("holding", t.d) : Row) ∈ rs ∧ x ∈ outer t) ∨ (∃ t ∈ g.el, (isNm t = false ∨ g.as ≠ []) ∧ x ∈ outer t) := by
  unfold hoNs
  rw [List.mem_append, List.mem_flatten]
  constructor
  · rintro (⟨l, hl, hx⟩ | hx)
    · obtain ⟨t, ht, rfl⟩ := List.mem_map.mp hl
      rcases (h.ho t).mp ht with z | z | z
      · cases z
      · exact .inl ⟨t, z, hx⟩
      · exact .inr ⟨t, z.2.1, .inl z.1, hx⟩
    · by_cases e : g.as = []
      · rw [if_pos e] at hx; cases hx
      · rw [if_neg e] at hx
        obtain ⟨t, ht, rfl⟩ := List.mem_map.mp hx
        obtain ⟨ht1, ht2⟩ := List.mem_filter.mp ht
        obtain ⟨y, rfl⟩ := outer_nm ht2
        exact .inr ⟨_, ht1, .inr e, List.mem_singleton.mpr rfl⟩
  · rintro (⟨t, ht, hx⟩ | ⟨t, ht, ho, hx⟩)
    · exact .inl ⟨_, List.mem_map.mpr ⟨t, (h.ho t).mpr (.inr (.inl ht)), rfl⟩, hx⟩
    · cases e : isNm t with
      | false => exact .inl ⟨_, List.mem_map.mpr ⟨t, (h.ho t).mpr (.inr (.inr ⟨e, ht, fun z => nomatch z⟩)), rfl⟩, hx⟩
      | true =>
        rw [e] at ho
        have ho : g.as ≠ [] := ho.elim (fun z => nomatch z) id
        obtain ⟨y, rfl⟩ := outer_nm e
        cases List.mem_singleton.mp hx
        rw [if_neg ho]
        exact .inr (List.mem_map.mpr ⟨.name x, List.mem_filter.mpr ⟨ht, rfl⟩, rfl⟩)
theorem as_nil {rs : List Row} {g : G} (h : Rel rs G0 g) : (g.el.filter fun t => decide (t ∈ g.as)) = [] ↔ g.as = [] := by
  constructor
  · intro e
    cases hg : g.as with
    | nil => rfl
    | cons t r =>
      have ht : t ∈ g.as := by rw [hg]; exact List.mem_cons_self
      have : t ∈ g.el := (h.asEl t ht).elim (fun z => nomatch z) id
      have : t ∈ g.el.filter fun t => decide (t ∈ g.as) := List.mem_filter.mpr ⟨this, decide_eq_true ht⟩
      rw [e] at this
      cases this
  · intro e
    rw [e]
    apply List.filter_eq_nil_iff.mpr
    intro t _
    simp
theorem as_firsts {rs : List Row} {g : G} (h : Rel rs G0 g) (t : Tm) : t ∈ g.as ↔ t.d ∈ firsts "asked" rs [] := by
  rw [h.as, firsts_mem]
  constructor
  · rintro (z | z)
    · cases z
    · exact .inr z
  · rintro (z | z)
    · cases z
    · exact .inr z
end Shp
namespace Pr
open PySem
variable {isN : Str → Bool}
theorem pk_cons {r : List Tk} {x : Str} (h : pk r = x) (hx : x ≠ "") : r = (x, ixo r) :: r.tail := by
  cases r with
  | nil => exact absurd h.symm hx
  | cons t r => subst h; rfl
end Pr
namespace Pr
open PySem
inductive Sm
  | w (x : Str) | S (b : Bool) | M (b : Bool) | X (b : Bool) | sign | mark | term | tail | list | unit
def Sm.nul : Sm → Bool
  | .M _ => true
  | .tail => true
  | .list => true
  | _ => false
def Sm.isW : Sm → Bool
  | .w _ => true
  | _ => false
def Sm.op (isN : Str → Bool) : Sm → Str → Option (List Sm)
  | .w _, _ => none
  | .S b, _ => some [.X b, .M b]
  | .M b, x => if x = "and" ∨ x = "or" ∨ x = "then" then some [.w x, .X b, .M b] else some []
  | .sign, x => if x = "=" ∨ x = "in" ∨ x = "<=" then some [.w x] else none
  | .mark, x => if x = "=" ∨ x = "in" then some [.w x] else none
  | .X b, x => if x = "not" then some [.w "not", .X b] else if x = "[" then some [.w "[", .S b, .w "]"]
      else if b then (if x = "V" then some [.w "V", .mark, .term] else some [.term, .mark, .w "V"])
      else if x = "each" ∨ x = "some" then some [.w x, .w "V", .w "in", .term, .w ":", .X true] else some [.term, .sign, .term]
  | .term, _ => some [.unit, .tail]
  | .tail, x => if x = "+" ∨ x = "-" ∨ x = "&" then some [.w x, .unit, .tail] else some []
  | .list, x => if x = "," then some [.w ",", .term, .list] else some []
  | .unit, x => if x = "0" ∨ isN x = true then some [.w x] else if x = "(" then some [.w "(", .term, .w ")"] else if x = "{" then some [.w "{", .term, .list, .w "}"] else none
/-- the stack at the words r: fine, or stuck at a word; in so many turns -/
inductive Mc (isN : Str → Bool) : Nat → List Sm → List Tk → Option Nat → Prop
  | fin {L : List Sm} {r : List Tk} : pk r = "" → L.all Sm.nul = true → Mc isN 0 L r none
  | short {L : List Sm} {r : List Tk} : pk r = "" → L.all Sm.nul = false → Mc isN 0 L r (some (ixo r))
  | rest {r : List Tk} : pk r ≠ "" → Mc isN 0 [] r (some (ixo r))
  | eat {n : Nat} {L : List Sm} {r : List Tk} {o : Option Nat} : pk r ≠ "" → Mc isN n L r.tail o → Mc isN (n + 1) (.w (pk r) :: L) r o
  | miss {x : Str} {L : List Sm} {r : List Tk} : pk r ≠ "" → x ≠ pk r → Mc isN 0 (.w x :: L) r (some (ixo r))
  | opn {n : Nat} {s : Sm} {row L : List Sm} {r : List Tk} {o : Option Nat} : pk r ≠ "" → s.isW = false → s.op isN (pk r) = some row → Mc isN n (row ++ L) r o → Mc isN (n + 1) (s :: L) r o
  | bad {s : Sm} {L : List Sm} {r : List Tk} : pk r ≠ "" → s.isW = false → s.op isN (pk r) = none → Mc isN 0 (s :: L) r (some (ixo r))
variable {isN : Str → Bool}
def Sim (isN : Str → Bool) (x : Rs) (B A : List Sm) (a c : Nat) (r : List Tk) : Prop := match x with
  | .ok _ r' => ∀ L n o, Mc isN n (A ++ L) r' o → ∃ m, m + 8 * r'.length + a ≤ n + 8 * r.length ∧ Mc isN m (B ++ L) r o
  | .bad k => ∀ L, ∃ m, m ≤ 8 * r.length + c ∧ Mc isN m (B ++ L) r (some k)
  | .out => True
section
variable {x : Rs} {g : PyData → List Tk → Rs} {B A A1 C : List Sm} {a a1 a2 c c1 c2 : Nat} {r : List Tk}
theorem Sim.frame (h : Sim isN x B A a c r) : Sim isN x (B ++ C) (A ++ C) a c r := by
  cases x with
  | ok d r' =>
    intro L n o hm
    rw [List.append_assoc] at hm ⊢
    exact h (C ++ L) n o hm
  | bad k =>
    intro L
    rw [List.append_assoc]
    exact h (C ++ L)
  | out => trivial
theorem Sim.seq (h : Sim isN x B A1 a1 c1 r) (k : ∀ d r1, x = .ok d r1 → Sim isN (g d r1) (A1 ++ C) A a2 c2 r1) (ha : a ≤ a1 + a2) (hc : c1 ≤ c) (hc2 : c2 ≤ c + a1) : Sim isN (x.bind g) (B ++ C) A a c r := by
  cases x with
  | ok d r1 =>
    have k := k d r1 rfl
    show Sim isN (g d r1) (B ++ C) A a c r
    cases hg : g d r1 with
    | ok e r2 =>
      rw [hg] at k
      intro L n o hm
      obtain ⟨m, h1, h2⟩ := k L n o hm
      rw [List.append_assoc] at h2 ⊢
      obtain ⟨m2, h3, h4⟩ := h (C ++ L) m o h2
      exact ⟨m2, by omega, h4⟩
    | bad j =>
      rw [hg] at k
      intro L
      obtain ⟨m, h1, h2⟩ := k L
      rw [List.append_assoc] at h2 ⊢
      obtain ⟨m2, h3, h4⟩ := h (C ++ L) m _ h2
      exact ⟨m2, by omega, h4⟩
    | out => trivial
  | bad j =>
    intro L
    obtain ⟨m, h1, h2⟩ := h (C ++ L)
    rw [List.append_assoc]
    exact ⟨m, by omega, h2⟩
  | out => trivial
theorem Sim.done {d : PyData} : Sim isN (.ok d r) B B 0 c r := fun L n o hm => ⟨n, by omega, hm⟩
theorem Sim.opn {s : Sm} {row : List Sm} (h0 : pk r ≠ "") (hs : s.isW = false) (ho : s.op isN (pk r) = some row) (k : Sim isN x (row ++ C) A a1 c1 r) (ha : a + 1 ≤ a1) (hc : c1 + 1 ≤ c) : Sim isN x (s :: C) A a c r := by
  cases x with
  | ok d r' =>
    intro L n o hm
    obtain ⟨m, h1, h2⟩ := k L n o hm
    rw [List.append_assoc] at h2
    exact ⟨m + 1, by omega, .opn h0 hs ho h2⟩
  | bad j =>
    intro L
    obtain ⟨m, h1, h2⟩ := k L
    rw [List.append_assoc] at h2
    exact ⟨m + 1, by omega, .opn h0 hs ho h2⟩
  | out => trivial
theorem Mc.skip {s : Sm} {L : List Sm} {n : Nat} {o : Option Nat} (hs : s.nul = true) (ho : pk r ≠ "" → s.op isN (pk r) = some []) (h : Mc isN n L r o) : ∃ m, m ≤ n + 1 ∧ Mc isN m (s :: L) r o := by
  by_cases h0 : pk r = ""
  · cases h with
    | fin _ h2 => exact ⟨0, Nat.zero_le _, .fin h0 (by rw [List.all_cons, hs, h2]; rfl)⟩
    | short _ h2 => exact ⟨0, Nat.zero_le _, .short h0 (by rw [List.all_cons, hs, h2]; rfl)⟩
    | rest h => exact absurd h0 h
    | eat h _ => exact absurd h0 h
    | miss h _ => exact absurd h0 h
    | opn h _ _ _ => exact absurd h0 h
    | bad h _ _ => exact absurd h0 h
  · exact ⟨n + 1, Nat.le_refl _, .opn h0 (by cases s <;> first | rfl | cases hs) (ho h0) h⟩
end
section
variable {x : Rs} {B A C : List Sm} {a a1 c c1 : Nat} {r : List Tk}
theorem Sim.map {h : PyData → PyData} (k : Sim isN x B A a c r) : Sim isN (x.bind fun d r' => .ok (h d) r') B A a c r := by
  cases x with
  | ok d r' => exact k
  | bad j => exact k
  | out => trivial
end
def aa : NT → Nat
  | .unit => 5 | .cross => 5 | .term => 3 | .fact => 3 | .mfact => 3 | .msay => 3 | _ => 2
def cc : NT → Nat
  | .unit => 1 | .cross => 1 | .term => 2 | .fact => 2 | .mfact => 2 | .msay => 2 | _ => 3
local macro_rules | `(tactic| walk_at "dd") => `(tactic| first | decide | omega | (simp only [aa, cc]; done) | (simp only [aa, cc]; omega))
end Pr
namespace Pr
open PySem Sy
variable {isN : Str → Bool}
def fu : NT → Nat → Nat → Nat
  | .unit, b, _ => 3 * b + 1
  | .cross, b, _ => 3 * b + 2
  | .term, b, _ => 3 * b + 3
  | .fact, b, _ => 3 * b + 4
  | .mfact, b, _ => 3 * b + 4
  | .msay, b, n => 5 * b + n + 6
  | .single c, b, n => 5 * b + n + if c then 5 else 7
  | .joint c, b, n => 5 * b + n + if c then 6 else 8
  | .alts c, b, n => 5 * b + n + if c then 7 else 9
  | .impl c, b, n => 5 * b + n + if c then 8 else 10
structure FW (isN : Str → Bool) (nt : NT) (ws : List Str) (d : PyData) (b n : Nat) : Prop where
  d : D isN (fu nt b n) nt ws d
  bal : Bal ws b
theorem D.to {nt : NT} {ws : List Str} {d : PyData} {f g : Nat} (h : D isN f nt ws d) (e : f ≤ g) : D isN g nt ws d := h.mono e
variable {ws vs : List Str} {d e : PyData} {b c n m : Nat}
theorem FW.name {x : Str} (h : isN x = true) (ha : Al x) : FW isN .unit [x] (nd "name" [.str x]) 0 0 := ⟨.name h, bal_al ha⟩
theorem FW.none : FW isN .unit (["0"] : List Str) (nd "none" []) 0 0 := ⟨.none, bal_w "0" (by decide +kernel)⟩
theorem bal_round (h : Bal ws b) : Bal (("(" : Str) :: (ws ++ ([")"] : List Str))) (b + 1) := bal_in (fun d => by unfold bdw; rw [show opw "(" = true by decide +kernel]; rfl) (fun d => by unfold bdw; rw [show opw ")" = false by decide +kernel, show clw ")" = true by decide +kernel]; rfl) h
theorem bal_curl (h : Bal ws b) : Bal (("{" : Str) :: (ws ++ (["}"] : List Str))) (b + 1) := bal_in (fun d => by unfold bdw; rw [show opw "{" = true by decide +kernel]; rfl) (fun d => by unfold bdw; rw [show opw "}" = false by decide +kernel, show clw "}" = true by decide +kernel]; rfl) h
theorem FW.round (h : FW isN .term ws d b n) : FW isN .unit (("(" : Str) :: (ws ++ ([")"] : List Str))) d (b + 1) n := ⟨(D.round h.d).to (by simp only [fu]; omega), bal_round h.bal⟩
theorem FW.cross (h : FW isN .unit ws d b n) : FW isN .cross ws d b n := ⟨(D.cross1 h.d).to (by simp only [fu]; omega), h.bal⟩
theorem FW.term (h : FW isN .cross ws d b n) : FW isN .term ws d b n := ⟨(D.term1 h.d).to (by simp only [fu]; omega), h.bal⟩
theorem bal_mid {x : Str} (hx : Bal [x] 0) (h : Bal ws b) (k : Bal vs c) : Bal (ws ++ x :: vs) (max b c) := bal_app h (bal_cons hx k)
theorem FW.meet (h : FW isN .cross ws d b n) (k : FW isN .unit vs e c m) : FW isN .cross (ws ++ ("&" : Str) :: vs) (nd "meet" [d, e]) (max b c) (max n m) :=
  ⟨(D.cross2 (f := 3 * (max b c) + 1) (h.d.to (by simp only [fu]; omega)) (k.d.to (by simp only [fu]; omega))).to (by simp only [fu]; omega), bal_mid (bal_sign _ (by decide +kernel)) h.bal k.bal⟩
theorem FW.sum {a s : Str} (hs : sumK a = some s) (ha : Bal [a] 0) (h : FW isN .term ws d b n) (k : FW isN .cross vs e c m) : FW isN .term (ws ++ a :: vs) (nd s [d, e]) (max b c) (max n m) :=
  ⟨(D.term2 (f := 3 * (max b c) + 2) (h.d.to (by simp only [fu]; omega)) hs (k.d.to (by simp only [fu]; omega))).to (by simp only [fu]; omega), bal_mid ha h.bal k.bal⟩
theorem FW.fact {a s : Str} (hs : factK a = some s) (ha : Bal [a] 0) (h : FW isN .term ws d b n) (k : FW isN .term vs e c m) : FW isN (.single false) (ws ++ a :: vs) (nd s [d, e]) (max b c) (max n m) :=
  ⟨(D.sfact (D.fact (f := 3 * (max b c) + 3) (h.d.to (by simp only [fu]; omega)) hs (k.d.to (by simp only [fu]; omega)))).to (by simp only [fu]; split <;> omega), bal_mid ha h.bal k.bal⟩
theorem FW.inside (h : FW isN .term ws d b n) : FW isN (.single true) (("V" : Str) :: ("in" : Str) :: ws) (nd "inside" [d]) b n :=
  ⟨(D.smfact (D.inside h.d)).to (by simp only [fu]; split <;> omega), bal_cons (bal_w _ (by decide +kernel)) (bal_cons (bal_w _ (by decide +kernel)) h.bal)⟩
theorem FW.isV (h : FW isN .term ws d b n) : FW isN (.single true) (("V" : Str) :: ("=" : Str) :: ws) (nd "is" [d]) b n :=
  ⟨(D.smfact (D.isV h.d)).to (by simp only [fu]; split <;> omega), bal_cons (bal_w _ (by decide +kernel)) (bal_cons (bal_sign _ (by decide +kernel)) h.bal)⟩
theorem FW.has (h : FW isN .term ws d b n) : FW isN (.single true) (ws ++ (["in", "V"] : List Str)) (nd "has" [d]) b n :=
  ⟨(D.smfact (D.has h.d)).to (by simp only [fu]; split <;> omega), by
    have := bal_app h.bal (bal_cons (bal_w "in" (by decide +kernel)) (bal_w "V" (by decide +kernel)))
    rwa [Nat.max_zero] at this⟩
theorem FW.is2 (h : FW isN .term ws d b n) : FW isN (.single true) (ws ++ (["=", "V"] : List Str)) (nd "is" [d]) b n :=
  ⟨(D.smfact (D.is2 h.d)).to (by simp only [fu]; split <;> omega), by
    have := bal_app h.bal (bal_cons (bal_sign "=" (by decide +kernel)) (bal_w "V" (by decide +kernel)))
    rwa [Nat.max_zero] at this⟩
theorem FW.quant {k : Str} (hk : k = "each" ∨ k = "some") (h : FW isN .term ws d b n) (g : FW isN (.single true) vs e c m) : FW isN (.single false) (k :: ("V" : Str) :: ("in" : Str) :: (ws ++ (":" : Str) :: vs)) (nd k [d, e]) (max b c) m :=
  ⟨(D.smsay (D.msay (f := 5 * (max b c) + m + 5) hk (h.d.to (show 3 * b + 3 ≤ 5 * (max b c) + m + 5 by omega)) (g.d.to (show 5 * c + m + 5 ≤ 5 * (max b c) + m + 5 by omega)))).to (show 5 * (max b c) + m + 5 + 1 + 1 ≤ 5 * (max b c) + m + 7 by omega),
    bal_cons (by rcases hk with rfl | rfl <;> exact bal_w _ (by decide +kernel)) (bal_cons (bal_w _ (by decide +kernel)) (bal_cons (bal_w _ (by decide +kernel)) (bal_mid (bal_sign _ (by decide +kernel)) h.bal g.bal)))⟩
theorem FW.not {x : Bool} (h : FW isN (.single x) ws d b n) : FW isN (.single x) (("not" : Str) :: ws) (nd "not" [d]) b (n + 1) :=
  ⟨(D.not h.d).to (by simp only [fu]; omega), bal_cons (bal_w _ (by decide +kernel)) h.bal⟩
theorem FW.square {x : Bool} (h : FW isN (.impl x) ws d b n) : FW isN (.single x) (("[" : Str) :: (ws ++ (["]"] : List Str))) d (b + 1) n :=
  ⟨(D.square h.d).to (by simp only [fu]; split <;> omega), bal_sq h.bal⟩
theorem FW.joint {x : Bool} (h : FW isN (.single x) ws d b n) : FW isN (.joint x) ws d b n := ⟨(D.joint1 h.d).to (by simp only [fu]; split <;> omega), h.bal⟩
theorem FW.alts {x : Bool} (h : FW isN (.joint x) ws d b n) : FW isN (.alts x) ws d b n := ⟨(D.alts1 h.d).to (by simp only [fu]; split <;> omega), h.bal⟩
theorem FW.impl {x : Bool} (h : FW isN (.alts x) ws d b n) : FW isN (.impl x) ws d b n := ⟨(D.impl1 h.d).to (by simp only [fu]; split <;> omega), h.bal⟩
theorem FW.and {x : Bool} (h : FW isN (.joint x) ws d b n) (k : FW isN (.single x) vs e c m) : FW isN (.joint x) (ws ++ ("and" : Str) :: vs) (nd "and" [d, e]) (max b c) (max n m) :=
  ⟨(D.joint2 (f := fu (.single x) (max b c) (max n m)) (h.d.to (by simp only [fu]; split <;> omega)) (k.d.to (by simp only [fu]; split <;> omega))).to (by simp only [fu]; split <;> omega), bal_mid (bal_w _ (by decide +kernel)) h.bal k.bal⟩
theorem FW.or {x : Bool} (h : FW isN (.alts x) ws d b n) (k : FW isN (.joint x) vs e c m) : FW isN (.alts x) (ws ++ ("or" : Str) :: vs) (nd "or" [d, e]) (max b c) (max n m) :=
  ⟨(D.alts2 (f := fu (.joint x) (max b c) (max n m)) (h.d.to (by simp only [fu]; split <;> omega)) (k.d.to (by simp only [fu]; split <;> omega))).to (by simp only [fu]; split <;> omega), bal_mid (bal_w _ (by decide +kernel)) h.bal k.bal⟩
theorem FW.thn {x : Bool} (h : FW isN (.alts x) ws d b n) (k : FW isN (.impl x) vs e c m) : FW isN (.impl x) (ws ++ ("then" : Str) :: vs) (nd "then" [d, e]) (max b c) (max n (m + 1)) :=
  ⟨(D.impl2 (f := fu (.alts x) (max b c) (max n (m + 1))) (h.d.to (by simp only [fu]; split <;> omega)) (k.d.to (by simp only [fu]; split <;> omega))).to (by simp only [fu]; split <;> omega), bal_mid (bal_w _ (by decide +kernel)) h.bal k.bal⟩
theorem FW.set {more : List (List Str × PyData)} (h : D isN (3 * b + 3) .term ws d) (hm : ∀ p ∈ more, D isN (3 * b + 3) .term p.1 p.2) (hb : Bal (ws ++ more.flatMap (fun p => ("," : Str) :: p.1)) b) :
    FW isN .unit (("{" : Str) :: (ws ++ (more.flatMap (fun p => ("," : Str) :: p.1) ++ (["}"] : List Str)))) (more.foldl (fun e p => nd "plus" [e, just p.2]) (just d)) (b + 1) 0 :=
  ⟨(D.set h hm).to (by simp only [fu]; omega), by
    have := bal_curl hb
    rwa [List.append_assoc] at this⟩
end Pr
namespace Pr
open PySem
def NC : List Str → Prop
  | [] => True
  | x :: r => (x = ":" → r.head? ≠ some "=") ∧ NC r
structure Gw (ws : List Str) : Prop where
  ne : ws ≠ []
  hd : ws.head? ≠ some "="
  ls : ws.getLast? ≠ some ":"
  nc : NC ws
theorem Gw.one {x : Str} (h1 : x ≠ "=") (h2 : x ≠ ":") : Gw [x] := ⟨List.cons_ne_nil _ _, fun e => h1 (Option.some.inj e), fun e => h2 (Option.some.inj e), ⟨(fun _ e => nomatch e), trivial⟩⟩
theorem nc_app : ∀ {ws vs : List Str}, NC ws → NC vs → (ws.getLast? ≠ some ":") → NC (ws ++ vs)
  | [], _, _, h, _ => h
  | [x], vs, _, h, hl => ⟨fun e => absurd (congrArg some e) hl, h⟩
  | x :: y :: r, vs, h, k, hl => ⟨h.1, nc_app h.2 k (by simpa using hl)⟩
theorem hd_app {ws vs : List Str} (h : ws ≠ []) : (ws ++ vs).head? = ws.head? := by
  cases ws with
  | nil => exact absurd rfl h
  | cons x r => rfl
theorem ls_app {ws vs : List Str} (h : vs ≠ []) : (ws ++ vs).getLast? = vs.getLast? := by
  rw [List.getLast?_append]
  cases hv : vs.getLast? with
  | none => rw [List.getLast?_eq_none_iff] at hv; exact absurd hv h
  | some x => rfl
variable {ws vs : List Str} {x : Str}
theorem Gw.cons (hx : x ≠ "=") (k : Gw ws) : Gw (x :: ws) :=
  ⟨List.cons_ne_nil _ _, fun e => hx (Option.some.inj e), by rw [show x :: ws = [x] ++ ws from rfl, ls_app k.ne]; exact k.ls, fun _ => k.hd, k.nc⟩
theorem Gw.snoc (h : Gw ws) (hx : x ≠ ":") : Gw (ws ++ [x]) :=
  ⟨by cases ws <;> simp, by rw [hd_app h.ne]; exact h.hd, by rw [ls_app (List.cons_ne_nil _ _)]; exact fun e => hx (Option.some.inj e), nc_app h.nc ⟨(fun _ e => nomatch e), trivial⟩ h.ls⟩
end Pr
namespace Pr
open PySem
def due (l m : List Nat) : Nat := if (l.getLast?.any al) = true ∧ (m.head?.any al) = true then 1 else 0
def sp : List Nat → List (Nat × Str) → List Nat
  | _, [] => []
  | l, (k, x) :: r => List.replicate (due l (Ak.L x) + k) 32 ++ (Ak.L x ++ sp (Ak.L x) r)
theorem W.ne_nil {w : List Nat} (h : W w) : w ≠ [] := by cases h <;> exact List.cons_ne_nil _ _
end Pr
namespace Sy
open PySem
def Tm.u : Tm → Nat
  | .name _ => 0
  | .none => 0
  | .just t => t.u + 1
  | .bin _ a b => max a.u b.u
def Bd.u : Bd → Nat
  | .fact _ t => t.u + 1
  | .not b => b.u + 1
  | .bin _ a b => max a.u b.u
def Sg.u : Sg → Nat
  | .fact _ a b => max a.u b.u
  | .quant _ t b => max t.u b.u
  | .not s => s.u + 1
  | .bin _ a b => max a.u b.u
end Sy
namespace Pr
open PySem Sy
/-- a word that the reader cuts -/
def WW (x : Str) : Prop := W (Ak.L x) ∧ x ≠ "<" ∧ x.length ≤ 5
def WA (ws : List Str) : Prop := ∀ x ∈ ws, WW x
theorem WA.app {ws vs : List Str} (h : WA ws) (k : WA vs) : WA (ws ++ vs) := fun x hx => (List.mem_append.mp hx).elim (h x) (k x)
theorem WA.cons {x : Str} {ws : List Str} (h : WW x) (k : WA ws) : WA (x :: ws) := fun y hy => by
  rcases List.mem_cons.mp hy with rfl | hy
  · exact h
  · exact k y hy
theorem WA.nil : WA [] := fun x hx => nomatch hx
/-- more names -/
theorem D.imp {isN isM : Str → Bool} (hN : ∀ x, isN x = true → isM x = true) {f : Nat} {nt : NT} {ws : List Str} {d : PyData} (h : D isN f nt ws d) : D isM f nt ws d := by
  induction h with
  | name hx => exact .name (hN _ hx)
  | none => exact .none
  | round _ ih => exact .round ih
  | set _ _ ih ihm => exact .set ih ihm
  | cross1 _ ih => exact .cross1 ih
  | cross2 _ _ ih ih2 => exact .cross2 ih ih2
  | term1 _ ih => exact .term1 ih
  | term2 _ hs _ ih ih2 => exact .term2 ih hs ih2
  | fact _ hs _ ih ih2 => exact .fact ih hs ih2
  | inside _ ih => exact .inside ih
  | isV _ ih => exact .isV ih
  | has _ ih => exact .has ih
  | is2 _ ih => exact .is2 ih
  | msay hk _ _ ih ih2 => exact .msay hk ih ih2
  | not _ ih => exact .not ih
  | square _ ih => exact .square ih
  | sfact _ ih => exact .sfact ih
  | smsay _ ih => exact .smsay ih
  | smfact _ ih => exact .smfact ih
  | joint1 _ ih => exact .joint1 ih
  | joint2 _ _ ih ih2 => exact .joint2 ih ih2
  | alts1 _ ih => exact .alts1 ih
  | alts2 _ _ ih ih2 => exact .alts2 ih ih2
  | impl1 _ ih => exact .impl1 ih
  | impl2 _ _ ih ih2 => exact .impl2 ih ih2
def ctw (x : Str) : Nat := if x = "not" ∨ x = "then" then 1 else 0
def cnt : List Str → Nat | [] => 0 | x :: r => ctw x + cnt r
theorem cnt_app : ∀ (ws vs : List Str), cnt (ws ++ vs) = cnt ws + cnt vs
  | [], vs => by show cnt vs = 0 + cnt vs; omega
  | x :: ws, vs => by show ctw x + cnt (ws ++ vs) = ctw x + cnt ws + cnt vs; rw [cnt_app ws vs]; omega
section
variable {isN : Str → Bool}
def tlv : Nat → NT | 0 => .term | 1 => .cross | _ => .unit
def slv (x : Bool) : Nat → NT | 0 => .impl x | 1 => .alts x | 2 => .joint x | _ => .single x
def TW (isN : Str → Bool) (l : Nat) (t : Tm) (ws : List Str) : Prop := ∃ b, FW isN (tlv l) ws t.d b 0 ∧ t.u ≤ b
def FS (isN : Str → Bool) (x : Bool) (l : Nat) (d : PyData) (u : Nat) (ws : List Str) : Prop := ∃ b n, FW isN (slv x l) ws d b n ∧ u ≤ b + n + 1 ∧ n ≤ cnt ws
theorem tlv_up {ws : List Str} {d : PyData} {b n : Nat} : ∀ {a l : Nat}, l ≤ a → FW isN (tlv a) ws d b n → FW isN (tlv l) ws d b n
  | 0, 0, _, h => h
  | 1, 0, _, h => .term h
  | 1, 1, _, h => h
  | a + 2, 0, _, h => .term (.cross h)
  | a + 2, 1, _, h => .cross h
  | a + 2, l + 2, _, h => h
theorem slv_up {x : Bool} {ws : List Str} {d : PyData} {b n : Nat} : ∀ {a l : Nat}, l ≤ a → FW isN (slv x a) ws d b n → FW isN (slv x l) ws d b n
  | 0, 0, _, h => h
  | 1, 0, _, h => .impl h
  | 1, 1, _, h => h
  | 2, 0, _, h => .impl (.alts h)
  | 2, 1, _, h => .alts h
  | 2, 2, _, h => h
  | a + 3, 0, _, h => .impl (.alts (.joint h))
  | a + 3, 1, _, h => .alts (.joint h)
  | a + 3, 2, _, h => .joint h
  | a + 3, l + 3, _, h => h
theorem TW.up {a l : Nat} {t : Tm} {ws : List Str} (e : l ≤ a) (h : TW isN a t ws) : TW isN l t ws := by
  obtain ⟨b, h1, h2⟩ := h
  exact ⟨b, tlv_up e h1, h2⟩
theorem FS.up {x : Bool} {a l u : Nat} {d : PyData} {ws : List Str} (e : l ≤ a) (h : FS isN x a d u ws) : FS isN x l d u ws := by
  obtain ⟨b, n, h1, h2, h3⟩ := h
  exact ⟨b, n, slv_up e h1, h2, h3⟩
/-- brackets around -/
def wrapN (o c : Str) : Nat → List Str → List Str
  | 0, ws => ws
  | k + 1, ws => o :: (wrapN o c k ws ++ [c])
theorem TW.round {l : Nat} {t : Tm} {ws : List Str} (h : TW isN l t ws) : TW isN 2 t (("(" : Str) :: (ws ++ ([")"] : List Str))) := by
  obtain ⟨b, h1, h2⟩ := h
  exact ⟨b + 1, FW.round (tlv_up (Nat.zero_le l) h1), by omega⟩
theorem cnt_wrap {o c : Str} (ho : ctw o = 0) (hc : ctw c = 0) {ws : List Str} : ∀ k, cnt (wrapN o c k ws) = cnt ws
  | 0 => rfl
  | k + 1 => by
    show ctw o + cnt (wrapN o c k ws ++ [c]) = _
    rw [cnt_app, cnt_wrap ho hc k, ho]
    show 0 + (cnt ws + (ctw c + 0)) = _
    omega
theorem FS.square {x : Bool} {l u : Nat} {d : PyData} {ws : List Str} (h : FS isN x l d u ws) : FS isN x 3 d u (("[" : Str) :: (ws ++ (["]"] : List Str))) := by
  obtain ⟨b, n, h1, h2, h3⟩ := h
  refine ⟨b + 1, n, FW.square (slv_up (Nat.zero_le l) h1), by omega, ?_⟩
  have := cnt_wrap (o := "[") (c := "]") (by decide +kernel) (by decide +kernel) (ws := ws) 1
  show n ≤ cnt (wrapN "[" "]" 1 ws)
  omega
variable {t s a b : Tm} {ws vs : List Str}
theorem TW.name {x : Str} (h : isN x = true) (ha : Al x) : TW isN 2 (.name x) [x] := ⟨0, .name h ha, Nat.le_refl _⟩
theorem TW.none : TW isN 2 .none (["0"] : List Str) := ⟨0, .none, Nat.le_refl _⟩
def LW (isN : Str → Bool) (t : Tm) (ws : List Str) : Prop := ∃ (w0 : List Str) (d0 : PyData) (more : List (List Str × PyData)) (b : Nat), ws = w0 ++ more.flatMap (fun p => ("," : Str) :: p.1) ∧ t.d = more.foldl (fun e p => nd "plus" [e, just p.2]) (just d0) ∧
  D isN (3 * b + 3) .term w0 d0 ∧ (∀ p ∈ more, D isN (3 * b + 3) .term p.1 p.2) ∧ Bal ws b ∧ t.u ≤ b + 1
theorem LW.one (h : TW isN 0 t ws) : LW isN (.just t) ws := by
  obtain ⟨b, h1, h2⟩ := h
  exact ⟨ws, t.d, [], b, by simp, rfl, h1.d, (fun p hp => nomatch hp), h1.bal, by show t.u + 1 ≤ b + 1; omega⟩
theorem bal_comma : Bal (["," ] : List Str) 0 := bal_word fun d => by
  have hh : opw "," = false ∧ clw "," = false := by decide +kernel
  obtain ⟨h1, h2⟩ := hh
  unfold bdw; rw [h1, h2]; rfl
theorem LW.more (h : LW isN t ws) (k : TW isN 0 s vs) : LW isN (.bin .plus t (.just s)) (ws ++ ("," : Str) :: vs) := by
  obtain ⟨w0, d0, more, b, e1, e2, h1, h2, h3, h4⟩ := h
  obtain ⟨c, k1, k2⟩ := k
  refine ⟨w0, d0, more ++ [(vs, s.d)], max b c, ?_, ?_, h1.to (by omega), fun p hp => ?_, bal_mid bal_comma h3 k1.bal, ?_⟩
  · rw [e1, List.flatMap_append, List.append_assoc]; simp
  · rw [List.foldl_append, ← e2]; rfl
  · rcases List.mem_append.mp hp with hp | hp
    · exact (h2 p hp).to (by omega)
    · rw [List.mem_singleton.mp hp]; exact k1.d.to (by show 3 * c + 3 ≤ _; omega)
  · show max t.u (s.u + 1) ≤ _; omega
theorem LW.set (h : LW isN t ws) : TW isN 2 t (("{" : Str) :: (ws ++ (["}"] : List Str))) := by
  obtain ⟨w0, d0, more, b, e1, e2, h1, h2, h3, h4⟩ := h
  refine ⟨b + 1, ?_, h4⟩
  rw [e1] at h3
  have := FW.set h1 h2 h3
  rw [e1, e2, List.append_assoc]; exact this
theorem TW.just (h : TW isN 0 t ws) : TW isN 2 (.just t) (("{" : Str) :: (ws ++ (["}"] : List Str))) := (LW.one h).set
def Op.own : Op → Nat | .plus => 0 | .less => 0 | .meet => 1
theorem TW.bin {k : Op} (h : TW isN (Op.own k) a ws) (g : TW isN (Op.own k + 1) b vs) : TW isN (Op.own k) (.bin k a b) (ws ++ k.wd :: vs) := by
  obtain ⟨m, h1, h2⟩ := h
  obtain ⟨n, g1, g2⟩ := g
  cases k with
  | plus => exact ⟨max m n, FW.sum (a := "+") rfl (bal_sign _ (by decide +kernel)) h1 g1, by show max a.u b.u ≤ _; omega⟩
  | less => exact ⟨max m n, FW.sum (a := "-") rfl (bal_sign _ (by decide +kernel)) h1 g1, by show max a.u b.u ≤ _; omega⟩
  | meet => exact ⟨max m n, FW.meet h1 g1, by show max a.u b.u ≤ _; omega⟩
theorem cnt_cons {x : Str} (h : ctw x = 0) : cnt (x :: ws) = cnt ws := by show ctw x + cnt ws = _; omega
theorem FS.fact {k : Fk} (h : TW isN 0 a ws) (g : TW isN 0 b vs) : FS isN false 3 (nd k.s [a.d, b.d]) (max a.u b.u) (ws ++ k.wd :: vs) := by
  obtain ⟨m, h1, h2⟩ := h
  obtain ⟨n, g1, g2⟩ := g
  have e : max (0 : Nat) 0 = 0 := rfl
  refine ⟨max m n, max 0 0, ?_, by omega, Nat.zero_le _⟩
  cases k with
  | same => exact FW.fact (a := "=") rfl (bal_sign _ (by decide +kernel)) h1 g1
  | inn => exact FW.fact (a := "in") rfl (bal_w _ (by decide +kernel)) h1 g1
  | within => exact FW.fact (a := "<=") rfl (bal_sign _ (by decide +kernel)) h1 g1
theorem FS.inside (h : TW isN 0 t ws) : FS isN true 3 (nd "inside" [t.d]) (t.u + 1) (("V" : Str) :: ("in" : Str) :: ws) := by
  obtain ⟨m, h1, h2⟩ := h
  exact ⟨m, 0, .inside h1, by omega, Nat.zero_le _⟩
theorem FS.has (h : TW isN 0 t ws) : FS isN true 3 (nd "has" [t.d]) (t.u + 1) (ws ++ (["in", "V"] : List Str)) := by
  obtain ⟨m, h1, h2⟩ := h
  exact ⟨m, 0, .has h1, by omega, Nat.zero_le _⟩
theorem FS.isV (h : TW isN 0 t ws) : FS isN true 3 (nd "is" [t.d]) (t.u + 1) (("V" : Str) :: ("=" : Str) :: ws) := by
  obtain ⟨m, h1, h2⟩ := h
  exact ⟨m, 0, .isV h1, by omega, Nat.zero_le _⟩
theorem FS.is2 (h : TW isN 0 t ws) : FS isN true 3 (nd "is" [t.d]) (t.u + 1) (ws ++ (["=", "V"] : List Str)) := by
  obtain ⟨m, h1, h2⟩ := h
  exact ⟨m, 0, .is2 h1, by omega, Nat.zero_le _⟩
theorem FS.not {x : Bool} {d : PyData} {u : Nat} (h : FS isN x 3 d u ws) : FS isN x 3 (nd "not" [d]) (u + 1) (("not" : Str) :: ws) := by
  obtain ⟨m, n, h1, h2, h3⟩ := h
  exact ⟨m, n + 1, .not h1, by omega, by show n + 1 ≤ ctw "not" + cnt ws; rw [show ctw "not" = 1 by decide +kernel]; omega⟩
theorem FS.quant {ea : Bool} {d : PyData} {u : Nat} (h : TW isN 0 t ws) (g : FS isN true 3 d u vs) : FS isN false 3 (nd (qs ea) [t.d, d]) (max t.u u) (qs ea :: ("V" : Str) :: ("in" : Str) :: (ws ++ (":" : Str) :: vs)) := by
  obtain ⟨m, h1, h2⟩ := h
  obtain ⟨b, n, g1, g2, g3⟩ := g
  refine ⟨max m b, n, FW.quant (by cases ea <;> simp [qs]) h1 g1, by omega, ?_⟩
  rw [cnt_cons (by cases ea <;> decide +kernel), cnt_cons (by decide +kernel), cnt_cons (by decide +kernel), cnt_app, cnt_cons (by decide +kernel)]
  omega
def Jn.own : Jn → Nat | .thn => 0 | .or => 1 | .and => 2
theorem FS.bin {x : Bool} {j : Jn} {d e : PyData} {u v : Nat} (h : FS isN x (max 1 (Jn.own j)) d u ws) (g : FS isN x (Jn.own j + if 0 < Jn.own j then 1 else 0) e v vs) : FS isN x (Jn.own j) (nd j.s [d, e]) (max u v) (ws ++ j.s :: vs) := by
  obtain ⟨b, n, h1, h2, h3⟩ := h
  obtain ⟨c, m, g1, g2, g3⟩ := g
  have ec : cnt (ws ++ j.s :: vs) = cnt ws + (ctw j.s + cnt vs) := cnt_app _ _
  cases j with
  | and => exact ⟨max b c, max n m, FW.and h1 g1, by omega, by rw [ec]; omega⟩
  | or => exact ⟨max b c, max n m, FW.or h1 g1, by omega, by rw [ec]; omega⟩
  | thn => exact ⟨max b c, max n (m + 1), FW.thn h1 g1, by omega, by rw [ec, show ctw Jn.thn.s = 1 by decide +kernel]; omega⟩
end
end Pr
namespace Pr
open PySem
variable {isN : Str → Bool}
def dw (w : Str) : Int := if opw w then 1 else if clw w then -1 else 0
def md : List Str → Int
  | [] => 0
  | w :: ws => max 0 (dw w + md ws)
theorem md_pos (ws : List Str) : 0 ≤ md ws := by
  cases ws with
  | nil => exact Int.le_refl _
  | cons w ws => exact Int.le_max_left _ _
theorem dw_op : ∀ x ∈ (["(", "[", "{"] : List Str), dw x = 1 := by decide +kernel
/-- what is still to be read: brackets, nots -/
def Pb (b n : Nat) (r : List Tk) : Prop := md (r.map (·.1)) ≤ (b : Int) ∧ cnt (r.map (·.1)) ≤ n
section
variable {b n : Nat} {r r1 : List Tk} {w : Str}
theorem map_pk (h : pk r = w) (hw : w ≠ "") : r.map (·.1) = w :: r.tail.map (·.1) := by rw [pk_cons h hw]; rfl
theorem Pb.tail (h : pk r = w) (hw : w ≠ "") (h0 : dw w = 0) (p : Pb b n r) : Pb b n r.tail := by
  obtain ⟨p1, p2⟩ := p
  rw [map_pk h hw] at p1 p2
  have p1 : max 0 (dw w + md (r.tail.map (·.1))) ≤ (b : Int) := p1
  have p2 : ctw w + cnt (r.tail.map (·.1)) ≤ n := p2
  exact ⟨by omega, by omega⟩
theorem Pb.op (h : pk r = w) (hw : w ∈ (["(", "[", "{"] : List Str)) (p : Pb b n r) : ∃ b', b = b' + 1 ∧ Pb b' n r.tail := by
  obtain ⟨p1, p2⟩ := p
  have h0 := dw_op w hw
  rw [map_pk h (fun e => by rw [e] at hw; revert hw; decide +kernel)] at p1 p2
  have p1 : max 0 (dw w + md (r.tail.map (·.1))) ≤ (b : Int) := p1
  have p2 : ctw w + cnt (r.tail.map (·.1)) ≤ n := p2
  have := md_pos (r.tail.map (·.1))
  exact ⟨b - 1, by omega, by omega, by omega⟩
end
end Pr
namespace Pr
open PySem
structure Deed where
  rank : Int
  word : Str
  c : Bool ⊕ PyData
def vD : PyData := .tuple [.str "V"]
def sgK (w : Str) : Str := if w = "=" then "same" else if w = "in" then "in" else if w = "<=" then "within" else if w = "+" then "plus" else if w = "-" then "less" else if w = "&" then "meet" else w
open Classical in
/-- two values that stand on both sides of a word -/
noncomputable def jn2 (w : Str) (last first : PyData) (m : List PyData) : Option (List PyData) :=
  if first = vD then (if w = "in" then some (nd "inside" [last] :: m) else if w = "=" then some (nd "is" [last] :: m) else none)
  else if last = vD then (if w = "in" then some (nd "has" [first] :: m) else if w = "=" then some (nd "is" [first] :: m) else none)
  else some (nd (sgK w) [first, last] :: m)
/-- the last values are put together -/
noncomputable def jnD (d : Deed) : List PyData → Option (List PyData)
  | [] => none
  | last :: m => if d.word = "not" then some (nd "not" [last] :: m)
      else if d.word = "each" ∨ d.word = "some" then (match d.c with | .inr t => some (nd d.word [t, last] :: m) | .inl _ => none)
      else match m with
        | [] => none
        | first :: m2 => jn2 d.word last first m2
noncomputable def settle (rank : Int) (right : Bool) : List PyData → List Deed → Option (List PyData × List Deed)
  | m, [] => some (m, [])
  | m, d :: h => if d.rank > rank ∨ (d.rank = rank ∧ right = false) then (jnD d m).bind fun m2 => settle rank right m2 h else some (m, d :: h)
structure Yd where
  made : List PyData
  held : List Deed
  skip : Nat
def rankK (w : Str) : Option Int := if w = "then" then some 0 else if w = "or" then some 1 else if w = "and" then some 2 else if w = "=" then some 4 else if w = "in" then some 4 else if w = "<=" then some 4 else if w = "+" then some 5 else if w = "-" then some 5 else if w = "&" then some 6 else none
def lstD (m : List PyData) (k : Deed) : Option (List PyData × Deed) := match m, k.c with
  | a :: m2, .inl false => some (just a :: m2, ⟨k.rank, k.word, .inl true⟩)
  | a :: b :: m3, .inl true => some (nd "plus" [b, just a] :: m3, ⟨k.rank, k.word, .inl true⟩)
  | _, _ => none
def opL : List Str := ["(", "[", "{", "each", "some"]
def clL : List Str := [")", "]", "}", ",", ":"]
def afterK (w : Str) (m : List PyData) (k : Deed) (h : List Deed) : Option Yd :=
  if w = "," then some ⟨m, k :: h, 0⟩ else if w = ":" then (match m with | [] => none | t :: m3 => some ⟨m3, ⟨3, k.word, .inr t⟩ :: h, 0⟩) else some ⟨m, h, 0⟩
noncomputable def stepY (s : Yd) (w : Str) : Option Yd :=
  if 0 < s.skip then some ⟨s.made, s.held, s.skip - 1⟩
  else if w ∈ opL then some ⟨s.made, ⟨-1, w, .inl false⟩ :: s.held, if w = "each" ∨ w = "some" then 2 else 0⟩
  else if w ∈ clL then (settle 0 false s.made s.held).bind fun p => match p.2 with
    | [] => none
    | k :: h => if w = "}" ∨ w = "," then (lstD p.1 k).bind fun q => afterK w q.1 q.2 h else afterK w p.1 k h
  else if w = "not" then some ⟨s.made, ⟨3, w, .inl false⟩ :: s.held, 0⟩
  else match rankK w with
    | some k => (settle k (decide (w = "then")) s.made s.held).bind fun p => some ⟨p.1, ⟨k, w, .inl false⟩ :: p.2, 0⟩
    | none => some ⟨(if w = "0" then nd "none" [] else if w = "V" then vD else nd "name" [.str w]) :: s.made, s.held, 0⟩
noncomputable def ydR : Yd → List Str → Option Yd
  | s, [] => some s
  | s, w :: ws => (stepY s w).bind fun s2 => ydR s2 ws
theorem ydR_app : ∀ (ws vs : List Str) (s : Yd), ydR s (ws ++ vs) = (ydR s ws).bind fun s2 => ydR s2 vs
  | [], vs, s => rfl
  | w :: ws, vs, s => by
    show (stepY s w).bind (fun s2 => ydR s2 (ws ++ vs)) = ((stepY s w).bind fun s2 => ydR s2 ws).bind _
    cases stepY s w with
    | none => rfl
    | some s2 => exact ydR_app ws vs s2
variable {isN : Str → Bool}
def lvK : NT → Int
  | .unit => 7 | .cross => 6 | .term => 5 | .fact => 4 | .mfact => 4 | .single _ => 3 | .msay => 3 | .joint _ => 2 | .alts _ => 1 | .impl _ => 0
def tbK : NT → Int
  | .unit => 7 | .cross => 5 | .term => 4 | .fact => 3 | .mfact => 3 | .single _ => 3 | .msay => 3 | .joint _ => 1 | .alts _ => 0 | .impl _ => 0
def Cnd (nt : NT) (rank : Int) (right : Bool) : Prop := rank < lvK nt ∨ (rank = lvK nt ∧ right = false)
def Top (b : Int) (h : List Deed) : Prop := ∀ t, h.head? = some t → t.rank ≤ b
theorem Top.mono {a b : Int} {h : List Deed} (p : Top a h) (e : a ≤ b) : Top b h := fun t ht => Int.le_trans (p t ht) e
theorem Top.cons {b : Int} {d : Deed} {h : List Deed} (e : d.rank ≤ b) : Top b (d :: h) := fun t ht => by cases ht; exact e
theorem settle_stop {rank : Int} {right : Bool} {m : List PyData} {h : List Deed} {b : Int} (p : Top b h) (e : b < rank ∨ (b ≤ rank ∧ right = true)) : settle rank right m h = some (m, h) := by
  cases h with
  | nil => rfl
  | cons d h =>
    have hd := p d rfl
    show (if _ then _ else _) = _
    rw [if_neg (fun z => by
      rcases e with e | ⟨e, e2⟩
      · rcases z with z | z <;> omega
      · rcases z with z | z
        · omega
        · rw [e2] at z; cases z.2)]
def Dn (nt : NT) (ws : List Str) (d : PyData) : Prop := ∀ made held, Top (tbK nt) held → ∃ made' held', ydR ⟨made, held, 0⟩ ws = some ⟨made', held', 0⟩ ∧ ∀ rank right, Cnd nt rank right → settle rank right made' held' = settle rank right (d :: made) held
theorem Dn.lift {nt nt2 : NT} {ws : List Str} {d : PyData} (h : Dn nt ws d) (e1 : tbK nt2 ≤ tbK nt) (e2 : lvK nt2 ≤ lvK nt) : Dn nt2 ws d := fun made held p => by
  obtain ⟨m, k, h1, h2⟩ := h made held (p.mono e1)
  refine ⟨m, k, h1, fun rank right c => h2 rank right ?_⟩
  rcases c with c | ⟨c, c2⟩
  · exact .inl (by omega)
  · by_cases z : rank = lvK nt
    · exact .inr ⟨z, c2⟩
    · exact .inl (by omega)
theorem step_op {s : Yd} {w : Str} (h0 : s.skip = 0) (h1 : w ∈ opL) : stepY s w = some ⟨s.made, ⟨-1, w, .inl false⟩ :: s.held, if w = "each" ∨ w = "some" then 2 else 0⟩ := by
  unfold stepY
  rw [if_neg (by omega), if_pos h1]
theorem step_cl {s : Yd} {w : Str} {m : List PyData} {k : Deed} {h : List Deed} (h0 : s.skip = 0) (h1 : w ∉ opL) (h2 : w ∈ clL) (h3 : settle 0 false s.made s.held = some (m, k :: h)) :
    stepY s w = if w = "}" ∨ w = "," then (lstD m k).bind fun q => afterK w q.1 q.2 h else afterK w m k h := by
  unfold stepY
  rw [if_neg (by omega), if_neg h1, if_pos h2, h3]
  rfl
/-- brackets around -/
theorem Dn.wrap {nt nt2 : NT} {ws : List Str} {d : PyData} {o c : Str} (ho : o = "(" ∧ c = ")" ∨ o = "[" ∧ c = "]") (h : Dn nt ws d) (e1 : -1 ≤ tbK nt) (c1 : Cnd nt 0 false) : Dn nt2 (o :: (ws ++ [c])) d := fun made held _ => by
  obtain ⟨m1, k1, h3, h4⟩ := h made (⟨-1, o, .inl false⟩ :: held) (Top.cons e1)
  have h5 := h4 0 false c1
  rw [settle_stop (b := -1) (Top.cons (Int.le_refl _)) (.inl (by decide))] at h5
  have hoc : o ∈ opL ∧ ¬ (o = "each" ∨ o = "some") ∧ c ∉ opL ∧ c ∈ clL ∧ ¬ (c = "}" ∨ c = ",") ∧ c ≠ "," ∧ c ≠ ":" := by rcases ho with ⟨rfl, rfl⟩ | ⟨rfl, rfl⟩ <;> decide +kernel
  obtain ⟨k1', k2', k3', k4', k5', k6', k7'⟩ := hoc
  refine ⟨d :: made, held, ?_, fun _ _ _ => rfl⟩
  show (stepY ⟨made, held, 0⟩ o).bind (fun s2 => ydR s2 (ws ++ [c])) = _
  rw [step_op rfl k1', if_neg k2']
  show ydR ⟨made, ⟨-1, o, .inl false⟩ :: held, 0⟩ (ws ++ [c]) = _
  rw [ydR_app, h3]
  show (stepY ⟨m1, k1, 0⟩ c).bind (fun s2 => ydR s2 []) = _
  rw [step_cl rfl k3' k4' h5, if_neg k5']
  unfold afterK
  rw [if_neg k6', if_neg k7']
  rfl
end Pr
namespace Lw
open PySem PySem.Spec PyProof.Rows L2
open _root_.Pr (nd vD Deed)
inductive NLd : PyData → Prop
  | str (x : Str) : NLd (.str x)
  | tup {ds : List PyData} : (∀ d ∈ ds, NLd d) → NLd (.tuple ds)
/-- all but lists stays -/
def KX (H H' : Hp) : Prop := ∀ c o, H c = some o → (∀ ys, o ≠ .lst ys) → H' c = some o
theorem KX.of {H H' : Hp} (s : Same H H') : KX H H' := fun c o e _ => s c o e
theorem KX.put {H : Hp} {D : Addr} {ys : List V} (o : HO) (e : H D = some (.lst ys)) : KX H (upd H D o) := fun c x h k => by
  rw [upd_ne (fun z => by rw [z, e] at h; cases h; exact k _ rfl)]
  exact h
theorem KX.trans {A B C : Hp} (h : KX A B) (k : KX B C) : KX A C := fun c o e n => k c o (h c o e n) n
section
variable {K : PySem.W.Frag} {H H' : Hp}
mutual
theorem dp_kx (s : KX H H') : ∀ {v : V} {d : PyData}, Dp K H v d → NLd d → Dp K H' v d
  | _, _, .non, _ => .non
  | _, _, .bl b, _ => .bl b
  | _, _, .int i, _ => .int i
  | _, _, .str x, _ => .str x
  | _, _, .lst h q, n => by cases n
  | _, _, .tup h q, n => .tup (h.imp (fun h => h.imp (fun h => s _ _ h (fun _ e => by cases e)) (fun ⟨o, h⟩ => ⟨o, s _ _ h (fun _ e => by cases e)⟩)) id) (dpAll_kx s q (by cases n with | tup h => exact h))
theorem dpAll_kx (s : KX H H') : ∀ {vs : List V} {ds : List PyData}, DpAll K H vs ds → (∀ d ∈ ds, NLd d) → DpAll K H' vs ds
  | _, _, .nil, _ => .nil
  | _, _, .cons h q, n => .cons (dp_kx s h (n _ List.mem_cons_self)) (dpAll_kx s q fun d hd => n d (List.mem_cons_of_mem _ hd))
end
end
/-- a tree, or a part of one -/
def Trd (d : PyData) : Prop := Sy.Oks d ∧ NLd d
theorem Trd.nd0 {k : Str} (hk : PyData.strOk k = true) : Trd (nd k []) := ⟨by
  refine ⟨?_, ?_⟩
  · rw [nd, PyData.canLay0, PyData.canLayAll0, PyData.canLayAll0, PyData.canLay0, hk]; rfl
  · rw [nd, pl, plAll, plAll, pl]; rfl, .tup fun d hd => by rw [List.mem_singleton.mp hd]; exact .str _⟩
theorem Trd.nd1 {k : Str} {d : PyData} (hk : PyData.strOk k = true) (h : Trd d) : Trd (nd k [d]) := ⟨Sy.ok1 hk h.1, .tup fun e he => by
  rcases List.mem_cons.mp he with rfl | he
  · exact .str _
  · rw [List.mem_singleton.mp he]; exact h.2⟩
theorem Trd.nd2 {k : Str} {d e : PyData} (hk : PyData.strOk k = true) (h : Trd d) (g : Trd e) : Trd (nd k [d, e]) := ⟨Sy.ok2 hk h.1 g.1, .tup fun x hx => by
  rcases List.mem_cons.mp hx with rfl | hx
  · exact .str _
  · rcases List.mem_cons.mp hx with rfl | hx
    · exact h.2
    · rw [List.mem_singleton.mp hx]; exact g.2⟩
theorem Trd.name {x : Str} (hx : PyData.strOk x = true) : Trd (nd "name" [.str x]) := ⟨Sy.ok1 (by decide +kernel) ⟨by rw [PyData.canLay0]; exact hx, by rw [pl]⟩, .tup fun d hd => by
    rcases List.mem_cons.mp hd with rfl | hd
    · exact .str _
    · rw [List.mem_singleton.mp hd]; exact .str _⟩
def Tv (K : PySem.W.Frag) (H : Hp) (v : V) (d : PyData) : Prop := Dp K H v d ∧ Trd d
def Thr (K : PySem.W.Frag) (H : Hp) (z : V) : Bool ⊕ PyData → Prop
  | .inl b => z = .bl b
  | .inr t => Tv K H z t
def DeedAt (K : PySem.W.Frag) (H : Hp) (a : Addr) (d : Deed) : Prop := ∃ z, H a = some (.lst [.int d.rank, .str d.word, z]) ∧ Thr K H z d.c
theorem Tv.kx {K : PySem.W.Frag} {H H' : Hp} {v : V} {d : PyData} (s : KX H H') (h : Tv K H v d) : Tv K H' v d := ⟨dp_kx s h.1 h.2.2, h.2⟩
theorem Thr.kx {K : PySem.W.Frag} {H H' : Hp} {z : V} {c : Bool ⊕ PyData} (s : KX H H') (h : Thr K H z c) : Thr K H' z c := by
  cases c with
  | inl b => exact h
  | inr t => exact Tv.kx s h
theorem DeedAt.kx {K : PySem.W.Frag} {H H' : Hp} {a : Addr} {d : Deed} (s : KX H H') (e : ∀ o, H a = some o → H' a = some o) (h : DeedAt K H a d) : DeedAt K H' a d := by
  obtain ⟨z, h1, h2⟩ := h
  exact ⟨z, e _ h1, h2.kx s⟩
theorem pd_map {α β : Type} {F G : α → β → Prop} : ∀ {l : List α} {m : List β}, Paired F l m → (∀ a ∈ l, ∀ b, F a b → G a b) → Paired G l m
  | _, _, .nil, _ => .nil
  | _, _, .cons r t, f => .cons (f _ List.mem_cons_self _ r) (pd_map t fun a ha => f a (List.mem_cons_of_mem _ ha))
/-- the two stacks: made at M, held at Hd -/
structure YB (K : PySem.W.Frag) (H0 H : Hp) (M Hd : Addr) (vs : List V) (as : List Addr) (made : List PyData) (held : List Deed) : Prop where
  m : H M = some (.lst vs.reverse)
  h : H Hd = some (.lst (as.map V.ref).reverse)
  v : Paired (Tv K H) vs made
  d : Paired (DeedAt K H) as held
  nd : as.Nodup
  mn : M ∉ as
  hn : Hd ∉ as
  ne : M ≠ Hd
  sm : Same H0 H
  m0 : H0 M = none
  h0 : H0 Hd = none
  a0 : ∀ a ∈ as, H0 a = none
section
variable {K : PySem.W.Frag} {H0 H : Hp} {M Hd : Addr} {vs vs' : List V} {as as' : List Addr} {made made' : List PyData} {held held' : List Deed}
theorem YB.mark {a : Addr} {d d' : Deed} {z : V} (y : YB K H0 H M Hd vs (a :: as) made (d :: held)) (hz : Thr K H z d'.c) : YB K H0 (upd H a (.lst [.int d'.rank, .str d'.word, z])) M Hd vs (a :: as) made (d' :: held) := by
  have hd := y.d
  cases hd with
  | cons h1 h2 =>
    obtain ⟨z0, e0, _⟩ := h1
    have s : KX H (upd H a (.lst [.int d'.rank, .str d'.word, z])) := KX.put _ e0
    have hM : M ≠ a := fun e => y.mn (by rw [e]; exact List.mem_cons_self)
    have hH : Hd ≠ a := fun e => y.hn (by rw [e]; exact List.mem_cons_self)
    have hna : a ∉ as := (List.nodup_cons.mp y.nd).1
    exact ⟨by rw [upd_ne hM]; exact y.m, by rw [upd_ne hH]; exact y.h, pd_map y.v fun a _ b h => h.kx s,
      .cons ⟨z, upd_same, hz.kx s⟩ (pd_map h2 fun b hb _ h => h.kx s fun x e => by rw [upd_ne (fun q => hna (by rw [← q]; exact hb))]; exact e), y.nd, y.mn, y.hn, y.ne, same_off (y.a0 a List.mem_cons_self) y.sm, y.m0, y.h0, y.a0⟩
end
end Lw
namespace L2
open PySem PySem.Spec PyProof.Rows
mutual
inductive PatS : Pattern → List Str → Prop
  | val {z : Str} {k : Nat} {p pos : Pos} : PatS (.MatchValue (.Constant (.str z) k p) pos) [z]
  | or {ps : List Pattern} {zs : List Str} {pos : Pos} (h : PatsS ps zs) : PatS (.MatchOr ps pos) zs
inductive PatsS : List Pattern → List Str → Prop
  | nil : PatsS [] []
  | cons {z : Str} {k : Nat} {p pos : Pos} {ps : List Pattern} {zs : List Str} (h : PatsS ps zs) : PatsS (.MatchValue (.Constant (.str z) k p) pos :: ps) (z :: zs)
end
inductive CasesS (X : Cx) : List MatchCase → List (List Str × TS) → Prop
  | nil : CasesS X [] []
  | cons {p : Pattern} {zs : List Str} {body : List Stmt} {t : TS} {r : List MatchCase} {l : List (List Str × TS)} (hp : PatS p zs) (hb : PSs X body t) (hr : CasesS X r l) : CasesS X (⟨p, none, body⟩ :: r) ((zs, t) :: l)
def tCases : List (List Str × TS) → Str → TS
  | [], _ => fun D σ H => D.nx σ H
  | (zs, t) :: l, x => fun D σ H => if x ∈ zs then t D σ H else tCases l x D σ H
def tMatchS (te : TE) (l : List (List Str × TS)) : TS := fun D σ H => te σ H fun v H1 => ∃ x : Str, v = .str x ∧ tCases l x D σ H1
theorem str_eqL {x z : Str} : (x.cps.toList == z.cps.toList) = decide (x = z) := by
  by_cases e : x = z
  · subst e; simp
  · rw [decide_eq_false e]
    apply beq_eq_false_iff_ne.mpr
    intro h
    apply e
    cases x; cases z
    simp at h
    simp [h]
section
variable {X : Cx} {pos : Pos}
theorem pat_val {pins : List (Addr × Obj)} {σ : St} {H : Hp} {s : Shared} {x z : Str} {k : Nat} {p pos : Pos} {tk : Tok} {E : Value → Shared → Prop} {Q : Option (List (Str × Value)) → Shared → Prop} (I : Inv X pins σ H s)
    (hq : ∀ s', Inv X pins σ H s' → Q (if x = z then some [] else none) s') : wpAny (model X.prog X.w) X.A (matchPattern (.MatchValue (.Constant (.str z) k p) pos) X.env (.str x tk)) Q E s := by
  refine wpAny_matchPattern_Value (Calls.Constant_str ?_)
  refine P.eq_str ?_
  rw [str_eqL]
  refine wpAny_truthy_bool ?_
  by_cases e : x = z
  · rw [decide_eq_true e, if_pos rfl]
    have := hq { s with toks := s.toks + 1 } (I.tok _)
    rw [if_pos e] at this
    exact this
  · rw [decide_eq_false e, if_neg Bool.false_ne_true]
    have := hq { s with toks := s.toks + 1 } (I.tok _)
    rw [if_neg e] at this
    exact this
theorem pats_run {ps : List Pattern} {zs : List Str} (h : PatsS ps zs) : ∀ {pins : List (Addr × Obj)} {σ : St} {H : Hp} {s : Shared} {x : Str} {tk : Tok} {E : Value → Shared → Prop} {Q : Option (List (Str × Value)) → Shared → Prop}, Inv X pins σ H s →
    (∀ s', Inv X pins σ H s' → Q (if x ∈ zs then some [] else none) s') → wpAny (model X.prog X.w) X.A (matchFirst ps X.env (.str x tk)) Q E s := by
  induction h using PatsS.rec (motive_1 := fun _ _ _ => True) with
  | val => trivial
  | or _ _ => trivial
  | nil =>
    intro pins σ H s x tk E Q I hq
    exact wpAny_matchFirst_nil (by have := hq _ I; simpa using this)
  | @cons z k p pos ps zs h ih =>
    intro pins σ H s x tk E Q I hq
    refine wpAny_matchFirst_cons (pat_val I fun s' I' => ?_)
    by_cases e : x = z
    · rw [if_pos e]
      have := hq _ I'
      rw [if_pos (by rw [e]; exact List.mem_cons_self)] at this
      exact this
    · rw [if_neg e]
      refine ih I' fun s2 I2 => ?_
      have := hq _ I2
      by_cases e2 : x ∈ zs
      · rw [if_pos e2]
        rw [if_pos (List.mem_cons_of_mem _ e2)] at this
        exact this
      · rw [if_neg e2]
        rw [if_neg (fun z => (List.mem_cons.mp z).elim e e2)] at this
        exact this
theorem names_of_pats {ps : List Pattern} {zs : List Str} (h : PatsS ps zs) : namesOfAll (ps.take 1) = [] := by
  cases h using PatsS.casesOn <;> rfl
theorem pat_run {p : Pattern} {zs : List Str} (h : PatS p zs) {pins : List (Addr × Obj)} {σ : St} {H : Hp} {s : Shared} {x : Str} {tk : Tok} {E : Value → Shared → Prop} {Q : Option (List (Str × Value)) → Shared → Prop} (I : Inv X pins σ H s)
    (hq : ∀ s', Inv X pins σ H s' → Q (if x ∈ zs then some [] else none) s') : wpAny (model X.prog X.w) X.A (matchPattern p X.env (.str x tk)) Q E s := by
  cases h with
  | @val z k p pos =>
    refine pat_val I fun s' I' => ?_
    have := hq _ I'
    by_cases e : x = z
    · rw [if_pos e]
      rw [if_pos (List.mem_singleton.mpr e)] at this
      exact this
    · rw [if_neg e]
      rw [if_neg (fun z => e (List.mem_singleton.mp z))] at this
      exact this
  | or h =>
    refine wpAny_matchPattern_Or (pats_run h I fun s' I' => ?_)
    have := hq _ I'
    by_cases e : x ∈ zs
    · rw [if_pos e] at this
      rw [if_pos e, names_of_pats h]
      exact this
    · rw [if_neg e] at this
      rw [if_neg e]
      exact this
theorem cases_run {cs : List MatchCase} {l : List (List Str × TS)} (h : CasesS X cs l) : ∀ {pins : List (Addr × Obj)} {σ : St} {H : Hp} {s : Shared} {x : Str} {tk : Tok} {first : Bool} {D : Ends}, Inv X pins σ H s →
    tCases l x D σ H → wpAny (model X.prog X.w) X.A (matchCases cs X.env (.str x tk) first) (SP X pins D) X.xe s := by
  induction h with
  | nil =>
    intro pins σ H s x tk first D I q
    exact wpAny_matchCases_nil ⟨σ, H, I, q⟩
  | @cons p zs body t r l hp hb hr ih =>
    intro pins σ H s x tk first D I q
    refine wpAny_matchCases_cons (pat_run hp I fun s' I' => ?_)
    by_cases e : x ∈ zs
    · rw [if_pos e]
      simp only [tCases] at q
      rw [if_pos e] at q
      exact wpAny_assignInOrder_none (hb.run pins s' σ H D I' q)
    · rw [if_neg e]
      simp only [tCases] at q
      rw [if_neg e] at q
      exact ih I' q
theorem ps_match {e : Expr} {cs : List MatchCase} {te : TE} {l : List (List Str × TS)} (he : PE X e te) (hc : CasesS X cs l) : PS X (.Match e cs pos) (tMatchS te l) := by
  refine ⟨fun pins s σ H D I h => ?_⟩
  refine wpAny_Match (thn (he.run pins s σ H _ I h) fun v s1 ⟨x, H1, I1, r1, q1⟩ => ?_)
  obtain ⟨z, rfl, q⟩ := q1
  obtain ⟨tk, rfl⟩ := r1
  exact cases_run hc I1 q
theorem r_match {te : TE} {l : List (List Str × TS)} {D : Ends} {σ : St} {H : Hp} (h : te σ H fun v H1 => ∃ x : Str, v = .str x ∧ tCases l x D σ H1) : tMatchS te l D σ H := h
end
end L2
namespace Lw
open PySem PySem.Spec PyProof.Rows L2
def rNotInLD2 (K : PySem.W.Frag) : R2 := fun x y H Q => ∃ d ds, Dp K H x d ∧ Dp K H y (.list ds) ∧ PyData.canLay0 d = true ∧ PyData.canLay0 (.list ds) = true ∧ min (PyData.depthAll ds) d.depth ≤ 149 ∧ Q (.bl (!(ds.any fun z => PyData.eqv z d))) H
theorem op_notInLD2 {X : Cx} {k : Nat} (hr : Room k X.A) : OpR X (compareOp .NotIn) (rNotInLD2 X.K) := by
  intro pins s σ H x y v u Q I rx ry h
  obtain ⟨d, ds, hd, he, sd, se, dp, q⟩ := h
  obtain ⟨as, r1⟩ := Dp.reads I d x v hd rx
  obtain ⟨bs, r2⟩ := Dp.reads I (.list ds) y u he ry
  have hu := hr.deep
  exact SeqAt.notIn_list_reads r2 r1 se sd (by omega) ⟨.bl _, H, I, rfl, q⟩
theorem op_notInLDK {X : Cx} {k : Nat} {K : PySem.W.Frag} (h : X.K = K) (hr : Room k X.A) : OpR X (compareOp .NotIn) (rNotInLD2 K) := by subst h; exact op_notInLD2 hr
/-- a list of trees -/
def LA (K : PySem.W.Frag) (H : Hp) (p : Addr) (ds : List PyData) : Prop := ∃ vs, H p = some (.lst vs) ∧ DpAll K H vs ds ∧ ∀ d ∈ ds, Trd d ∧ d.depth ≤ 140
theorem any_mem {ds : List PyData} {d : PyData} (h1 : ∀ e ∈ ds, Trd e) (h2 : Trd d) : (ds.any fun z => PyData.eqv z d) = true ↔ d ∈ ds := by
  rw [List.any_eq_true]
  constructor
  · rintro ⟨z, hz, e⟩
    rw [← (eqv_iff z d (h1 z hz).1.2 h2.1.2).mp e]; exact hz
  · exact fun h => ⟨d, h, (eqv_iff d d h2.1.2 h2.1.2).mpr rfl⟩
theorem lay_all : ∀ {ds : List PyData}, (∀ e ∈ ds, Trd e) → PyData.canLayAll0 ds = true
  | [], _ => by rw [PyData.canLayAll0]
  | d :: ds, h => by rw [PyData.canLayAll0, (h d List.mem_cons_self).1.1, lay_all fun e he => h e (List.mem_cons_of_mem _ he)]; rfl
theorem lay_list {ds : List PyData} (h : ∀ e ∈ ds, Trd e) : PyData.canLay0 (.list ds) = true := by rw [PyData.canLay0]; exact lay_all h
section
variable {K : PySem.W.Frag} {H H' : Hp} {Q : VK}
theorem r_inLA {p : Addr} {ds : List PyData} {v : V} {d : PyData} (h : LA K H p ds) (t : Tv K H v d) (hd : d.depth ≤ 140) (q : ∀ b : Bool, (b = true ↔ d ∈ ds) → Q (.bl b) H) : rInLD2 K v (.ref p) H Q := by
  obtain ⟨vs, h1, h2, h3⟩ := h
  exact ⟨d, ds, t.1, .lst (SqL.of h1) h2, t.2.1.1, lay_list (fun e he => (h3 e he).1), by omega, q _ (any_mem (fun e he => (h3 e he).1) t.2)⟩
theorem r_notInLA {p : Addr} {ds : List PyData} {v : V} {d : PyData} (h : LA K H p ds) (t : Tv K H v d) (hd : d.depth ≤ 140) (q : ∀ b : Bool, (b = true ↔ d ∉ ds) → Q (.bl b) H) : rNotInLD2 K v (.ref p) H Q := by
  obtain ⟨vs, h1, h2, h3⟩ := h
  exact ⟨d, ds, t.1, .lst (SqL.of h1) h2, t.2.1.1, lay_list (fun e he => (h3 e he).1), by omega, q _ (by rw [Bool.not_eq_true', ← any_mem (fun e he => (h3 e he).1) t.2, Bool.not_eq_true])⟩
theorem LA.len {p : Addr} {ds : List PyData} (h : LA K H p ds) : ∃ vs, H p = some (.lst vs) ∧ vs.length = ds.length := by
  obtain ⟨vs, h1, h2, _⟩ := h
  exact ⟨vs, h1, dpAll_len h2⟩
theorem LA.kx {p : Addr} {ds : List PyData} (s : KX H H') (e : ∀ o, H p = some o → H' p = some o) (h : LA K H p ds) : LA K H' p ds := by
  obtain ⟨vs, h1, h2, h3⟩ := h
  exact ⟨vs, e _ h1, dpAll_kx s h2 (fun d hd => (h3 d hd).1.2), h3⟩
theorem LA.mono {p : Addr} {ds : List PyData} (s : Same H H') (h : LA K H p ds) : LA K H' p ds := h.kx (.of s) fun o => s _ o
theorem dpAll_snoc {vs : List V} {ds : List PyData} {v : V} {d : PyData} (h : DpAll K H vs ds) (t : Dp K H v d) : DpAll K H (vs ++ [v]) (ds ++ [d]) := by
  induction vs generalizing ds with
  | nil => cases h; exact .cons t .nil
  | cons x xs ih =>
    cases h with
    | cons h1 h2 => exact .cons h1 (ih h2)
theorem LA.push {p : Addr} {ds : List PyData} {vs : List V} {v : V} {d : PyData} (h : LA K H p ds) (e : H p = some (.lst vs)) (t : Tv K H v d) (hd : d.depth ≤ 140) : LA K (upd H p (.lst (vs ++ [v]))) p (ds ++ [d]) := by
  obtain ⟨vs', h1, h2, h3⟩ := h
  obtain rfl : vs' = vs := by rw [e] at h1; injection h1 with h1; injection h1 with h1; exact h1.symm
  refine ⟨_, upd_same, dpAll_snoc (dpAll_kx (KX.put _ e) h2 fun d hd => (h3 d hd).1.2) (dp_kx (KX.put _ e) t.1 t.2.2), fun x hx => ?_⟩
  rcases List.mem_append.mp hx with hx | hx
  · exact h3 x hx
  · rw [List.mem_singleton.mp hx]; exact ⟨t.2, hd⟩
theorem Tv.put {v : V} {d : PyData} {p : Addr} {vs : List V} {o : HO} (e : H p = some (.lst vs)) (t : Tv K H v d) : Tv K (upd H p o) v d := t.kx (KX.put _ e)
theorem LA.other {p q : Addr} {ds : List PyData} {vs : List V} {o : HO} (h : LA K H q ds) (e : H p = some (.lst vs)) (n : q ≠ p) : LA K (upd H p o) q ds := h.kx (KX.put _ e) fun x hx => by rw [upd_ne n]; exact hx
theorem r_ixQ {p : Addr} {xs : List V} {i : Int} {v : V} (h : SqT K H p xs) (a : atI xs i = some v) (q : Q v H) : rIxT K (.ref p) (.int i) H Q := ⟨p, xs, i, v, rfl, rfl, h, a, q⟩
theorem sqt_kx {p : Addr} {xs : List V} (s : KX H H') (h : SqT K H p xs) : SqT K H' p xs := h.imp (fun h => h.imp (fun h => s _ _ h (fun _ e => by cases e)) (fun ⟨o, h⟩ => ⟨o, s _ _ h (fun _ e => by cases e)⟩)) id
theorem sqt_s {p : Addr} {xs : List V} (s : Same H H') (h : SqT K H p xs) : SqT K H' p xs := sqt_kx (.of s) h
theorem at0 {x : V} {r : List V} : atI (x :: r) ((0 : Nat) : Int) = some x := atI_nat rfl
/-- what stands first in a tree, and its parts -/
theorem Trd.sub1 {k : Str} {d : PyData} (h : Trd (.tuple [.str k, d])) : Trd d := by
  obtain ⟨⟨h1, h2⟩, h3⟩ := h
  refine ⟨⟨?_, ?_⟩, ?_⟩
  · rw [PyData.canLay0, PyData.canLayAll0, PyData.canLayAll0, Bool.and_eq_true, Bool.and_eq_true] at h1; exact h1.2.1
  · rw [pl, plAll, plAll, Bool.and_eq_true, Bool.and_eq_true] at h2; exact h2.2.1
  · cases h3 with | tup h => exact h d (by simp)
theorem Trd.sub2 {k : Str} {d e : PyData} (h : Trd (.tuple [.str k, d, e])) : Trd d ∧ Trd e := by
  obtain ⟨⟨h1, h2⟩, h3⟩ := h
  rw [PyData.canLay0, PyData.canLayAll0, PyData.canLayAll0, PyData.canLayAll0, Bool.and_eq_true, Bool.and_eq_true, Bool.and_eq_true] at h1
  rw [pl, plAll, plAll, plAll, Bool.and_eq_true, Bool.and_eq_true, Bool.and_eq_true] at h2
  cases h3 with
  | tup h => exact ⟨⟨⟨h1.2.1, h2.2.1⟩, h d (by simp)⟩, ⟨⟨h1.2.2.1, h2.2.2.1⟩, h e (by simp)⟩⟩
theorem tv_1 {v : V} {k : Str} {d : PyData} (h : Tv K H v (.tuple [.str k, d])) : ∃ a x, v = .ref a ∧ SqT K H a [V.str k, x] ∧ Tv K H x d := by
  obtain ⟨a, x, e, h1, h2⟩ := dp_1 h.1
  exact ⟨a, x, e, h1, h2, h.2.sub1⟩
theorem tv_2 {v : V} {k : Str} {d e : PyData} (h : Tv K H v (.tuple [.str k, d, e])) : ∃ a x y, v = .ref a ∧ SqT K H a [V.str k, x, y] ∧ Tv K H x d ∧ Tv K H y e := by
  obtain ⟨a, x, y, e, h1, h2, h3⟩ := dp_2 h.1
  exact ⟨a, x, y, e, h1, ⟨h2, h.2.sub2.1⟩, h3, h.2.sub2.2⟩
theorem tv_mk1 {p : Addr} {x : V} {k : Str} {d : PyData} (hk : PyData.strOk k = true) (h : H p = some (.tup [.str k, x])) (t : Tv K H x d) : Tv K H (.ref p) (.tuple [.str k, d]) := ⟨dp_mk h (.cons (.str _) (.cons t.1 .nil)), Trd.nd1 hk t.2⟩
theorem tv_mk2 {p : Addr} {x y : V} {k : Str} {d e : PyData} (hk : PyData.strOk k = true) (h : H p = some (.tup [.str k, x, y])) (t : Tv K H x d) (u : Tv K H y e) : Tv K H (.ref p) (.tuple [.str k, d, e]) := ⟨dp_mk h (.cons (.str _) (.cons t.1 (.cons u.1 .nil))), Trd.nd2 hk t.2 u.2⟩
theorem Tv.mono {v : V} {d : PyData} (s : Same H H') (t : Tv K H v d) : Tv K H' v d := t.kx (.of s)
end
theorem dep1 {k : Str} {d : PyData} : (PyData.tuple [.str k, d]).depth = d.depth + 1 := by
  simp [PyData.depth, PyData.depthAll]
theorem dep2 {k : Str} {d e : PyData} : (PyData.tuple [.str k, d, e]).depth = max d.depth e.depth + 1 := by
  simp [PyData.depth, PyData.depthAll]
/-- the lists of a gatherer, and what stays beside them -/
def Ls (e a h w : Addr) : Addr → Prop := fun c => c = e ∨ c = a ∨ c = h ∨ c = w
def gf (e a h w : Addr) : List (Str × V) := [("element_terms", .ref e), ("asked_terms", .ref a), ("holding_terms", .ref h), ("wide_facts", .ref w)]
end Lw
namespace Shp
open Sy
def G.n (g : G) : Nat := g.el.length + g.as.length + g.ho.length + g.wi.length
theorem G.take_n (g : G) (t : Tm) : (g.take t).n ≤ g.n + 2 := by
  unfold G.take
  split
  · omega
  · unfold G.n
    simp only [List.length_append, List.length_singleton]
    split <;> (try rw [List.length_append, List.length_singleton]) <;> omega
theorem G.tm_n : ∀ (t : Tm) (g : G), (G.tm t g).n ≤ g.n + 2 * t.sz
  | .name _, g => Nat.le_add_right _ _
  | .none, g => Nat.le_add_right _ _
  | .just t, g => by
    have h1 := G.tm_n t (g.take t)
    have h2 := g.take_n t
    show (G.tm t (g.take t)).n ≤ g.n + 2 * (t.sz + 1)
    omega
  | .bin _ a b, g => by
    have h1 := G.tm_n a g
    have h2 := G.tm_n b (G.tm a g)
    show (G.tm b (G.tm a g)).n ≤ g.n + 2 * (a.sz + b.sz + 1)
    omega
theorem G.elem_n (t : Tm) (g : G) : (G.elem t g).n ≤ g.n + 2 * t.sz + 2 := by
  have h1 := G.tm_n t (g.take t)
  have h2 := g.take_n t
  show (G.tm t (g.take t)).n ≤ _
  omega
theorem G.hold_n (t : Tm) (g : G) : (G.hold t g).n ≤ g.n + 2 * t.sz + 1 := by
  have h1 := G.tm_n t { g with ho := g.ho ++ [t] }
  have h2 : ({ g with ho := g.ho ++ [t] } : G).n = g.n + 1 := by unfold G.n; simp only [List.length_append, List.length_singleton]; omega
  show (G.tm t _).n ≤ _
  omega
theorem G.bd_n : ∀ (b : Bd) (g : G), (G.bd b g).n ≤ g.n + 4 * b.sz
  | .fact .inside t, g => by
    have := G.hold_n t g
    show (G.hold t g).n ≤ g.n + 4 * (t.sz + 1)
    omega
  | .fact .has t, g => by
    have h := G.elem_n t { g with as := g.as ++ [t] }
    have h2 : ({ g with as := g.as ++ [t] } : G).n = g.n + 1 := by unfold G.n; simp only [List.length_append, List.length_singleton]; omega
    show (G.elem t _).n ≤ g.n + 4 * (t.sz + 1)
    omega
  | .fact .is t, g => by
    have := G.elem_n t g
    show (G.elem t g).n ≤ g.n + 4 * (t.sz + 1)
    omega
  | .not b, g => by
    have := G.bd_n b g
    show (G.bd b g).n ≤ g.n + 4 * (b.sz + 1)
    omega
  | .bin _ a b, g => by
    have h1 := G.bd_n a g
    have h2 := G.bd_n b (G.bd a g)
    show (G.bd b (G.bd a g)).n ≤ g.n + 4 * (a.sz + b.sz + 1)
    omega
theorem G.wide_n (d : PySem.PyData) (g : G) : (G.wide d g).n ≤ g.n + 1 := by
  unfold G.wide
  split
  · omega
  · unfold G.n; simp only [List.length_append, List.length_singleton]; omega
theorem Tm.one (t : Tm) : 1 ≤ t.sz := by cases t <;> simp [Tm.sz]
theorem Bd.one (t : Bd) : 1 ≤ t.sz := by cases t <;> simp [Bd.sz]
theorem G.sg_n : ∀ (s : Sg) (g : G), (G.sg s g).n ≤ g.n + 4 * s.sz
  | .not s, g => by
    have := G.sg_n s g
    show (G.sg s g).n ≤ g.n + 4 * (s.sz + 1)
    omega
  | .bin _ a b, g => by
    have h1 := G.sg_n a g
    have h2 := G.sg_n b (G.sg a g)
    show (G.sg b (G.sg a g)).n ≤ g.n + 4 * (a.sz + b.sz + 1)
    omega
  | .fact .inn a b, g => by
    have h1 := G.elem_n a g
    have h2 := G.hold_n b (G.elem a g)
    have := Tm.one a
    show (G.hold b (G.elem a g)).n ≤ g.n + 4 * (a.sz + b.sz + 1)
    omega
  | .fact .same a b, g => by
    have := Tm.one a
    have := Tm.one b
    rw [G.sg]
    split
    · have h1 := G.elem_n a g
      have h2 := G.elem_n b (G.elem a g)
      show _ ≤ g.n + 4 * (a.sz + b.sz + 1)
      omega
    · have h0 := G.wide_n (Sg.fact .same a b).d g
      have h1 := G.hold_n a (G.wide (Sg.fact .same a b).d g)
      have h2 := G.hold_n b (G.hold a (G.wide (Sg.fact .same a b).d g))
      show _ ≤ g.n + 4 * (a.sz + b.sz + 1)
      omega
  | .fact .within a b, g => by
    have := Tm.one a
    have h0 := G.wide_n (Sg.fact .within a b).d g
    have h1 := G.hold_n a (G.wide (Sg.fact .within a b).d g)
    have h2 := G.hold_n b (G.hold a (G.wide (Sg.fact .within a b).d g))
    show _ ≤ g.n + 4 * (a.sz + b.sz + 1)
    rw [G.sg]
    omega
  | .quant true t b, g => by
    have := Tm.one t
    have h0 := G.wide_n (Sg.quant true t b).d g
    have h1 := G.hold_n t (G.wide (Sg.quant true t b).d g)
    have h2 := G.bd_n b (G.hold t (G.wide (Sg.quant true t b).d g))
    show _ ≤ g.n + 4 * (t.sz + b.sz + 1)
    rw [G.sg]
    omega
  | .quant false t b, g => by
    have := Tm.one t
    have h0 := G.wide_n (Sg.quant true t (.not b)).d g
    have h1 := G.hold_n t (G.wide (Sg.quant true t (.not b)).d g)
    have h2 := G.bd_n b (G.hold t (G.wide (Sg.quant true t (.not b)).d g))
    show _ ≤ g.n + 4 * (t.sz + b.sz + 1)
    rw [G.sg]
    omega
end Shp
namespace Lw
open PySem PySem.Spec PyProof.Rows L2
section
variable {S : Type} {F : S → Hp → Hp} {ok : S → Hp → Prop} (T : TopOk F ok) {σ σ2 : L2.St} {g g1 : TG} {tt tt1 : TT} {te : TE} {vs vs1 : List Nat} {wi1 : TI} {Q : Addr → Hp → Prop}
include T
theorem lcT2_list {K : PySem.W.Frag} {s0 : S} {B : Hp} (k : ok s0 B) {a : Addr} {xs : List V} (ha : B a = some (.lst xs)) (Pv : Nat → Hp → List V → Prop) (h0 : Pv 0 B [])
    (hs : ∀ D i x s C acc, ok s (upd C D (.lst acc)) → C D = none → Same B C → xs[i]? = some x → Pv i C acc → g x (wipe σ vs) (F s (upd C D (.lst acc))) fun σ2 H2 => wipe σ2 vs = wipe σ vs ∧ tt σ2 H2 fun b H3 =>
      if b = true then wi1 σ2 H3 (Lin vs1 g1 tt1 te σ2 D (LcN F ok B D (Pv (i + 1)))) else LcN F ok B D (Pv (i + 1)) H3)
    (hd : ∀ D s C acc, ok s (upd C D (.lst acc)) → B D = none → C D = none → Same B C → Pv xs.length C acc → Q D (F s (upd C D (.lst acc)))) :
    ∃ b, V.ref a = .ref b ∧ (∃ xs, SqL K (F s0 B) b xs) ∧ ∀ D, (F s0 B) D = none → ∃ W : Nat → Nat → Hp → Prop, (∃ m, W 0 m (upd (F s0 B) D (.lst []))) ∧ ∀ i m H, W i m H →
      ((Itl K b).stop i H ∧ Q D H) ∨ ((Itl K b).go i H ∧ ∃ Nx : Hp → Prop, (∀ H', Nx H' → ∃ m', m' < m ∧ W (i + 1) m' H') ∧ ∀ x H', (Itl K b).yld i H x H' → g x (wipe σ vs) H' fun σ2 H2 => wipe σ2 vs = wipe σ vs ∧ tt σ2 H2 fun b H3 =>
        if b = true then wi1 σ2 H3 fun J1 H4 => ∃ W1 : Nat → Nat → Hp → Prop, (∃ m, W1 0 m H4) ∧ ∀ j k H, W1 j k H →
          (J1.stop j H ∧ Nx H) ∨ (J1.go j H ∧ ∃ Nx1 : Hp → Prop, (∀ H', Nx1 H' → ∃ k', k' < k ∧ W1 (j + 1) k' H') ∧ ∀ x H', J1.yld j H x H' → g1 x (wipe σ2 vs1) H' fun σ3 H5 => wipe σ3 vs1 = wipe σ2 vs1 ∧ tt1 σ3 H5 fun b H6 =>
            if b = true then te σ3 H6 fun y H7 => ∃ acc, H7 D = some (.lst acc) ∧ acc.length < sizeLine ∧ Nx1 (upd H7 D (.lst (acc ++ [y]))) else Nx1 H6)
        else Nx H3) := by
  refine ⟨a, rfl, ⟨xs, SqL.of (T.get _ _ _ _ k ha)⟩, fun D hD => ?_⟩
  obtain ⟨hB, hn⟩ := T.new s0 B D k hD
  refine ⟨fun i m H => m = xs.length - i ∧ i ≤ xs.length ∧ LcN F ok B D (Pv i) H, ⟨xs.length, by simp, Nat.zero_le _, ?_⟩, ?_⟩
  · rw [(hn _).1]
    exact ⟨s0, B, [], rfl, (hn _).2, hB, Same.refl B, h0⟩
  · rintro i m H ⟨rfl, hi, s, C, acc, rfl, k', hD', hS, hp⟩
    have q : SqL K (F s (upd C D (.lst acc))) a xs := SqL.of (T.get _ _ _ _ k' (upd_old hD' (hS _ _ ha)))
    by_cases hlt : i < xs.length
    · refine .inr ⟨⟨xs, xs[i], q, by simp [hlt]⟩, fun H' => LcN F ok B D (Pv (i + 1)) H', fun H' p' => ⟨xs.length - (i + 1), by omega, rfl, hlt, p'⟩, fun x H' y => ?_⟩
      obtain ⟨e, y⟩ := y
      subst e
      exact hs D i x s C acc k' hD' hS (y xs q) hp
    · have e : i = xs.length := by omega
      subst e
      exact .inl ⟨⟨xs, q, Nat.le_refl _⟩, hd D s C acc k' hB hD' hS hp⟩
theorem lin_list {K : PySem.W.Frag} {B : Hp} {a : Addr} {xs : List V} {D : Addr} {Pn : Hp → List V → Prop} (Pw : Nat → Hp → List V → Prop) {s0 : S} {C0 : Hp} {acc0 : List V} (k : ok s0 (upd C0 D (.lst acc0))) (hD : C0 D = none) (hS : Same B C0) (ha : C0 a = some (.lst xs)) (h0 : Pw 0 C0 acc0)
    (hs : ∀ j x s C acc, ok s (upd C D (.lst acc)) → C D = none → Same C0 C → xs[j]? = some x → Pw j C acc → g1 x (wipe σ2 vs1) (F s (upd C D (.lst acc))) fun σ3 H5 => wipe σ3 vs1 = wipe σ2 vs1 ∧ tt1 σ3 H5 fun b H6 =>
      if b = true then te σ3 H6 fun y H7 => ∃ acc, H7 D = some (.lst acc) ∧ acc.length < sizeLine ∧ LcN F ok C0 D (Pw (j + 1)) (upd H7 D (.lst (acc ++ [y]))) else LcN F ok C0 D (Pw (j + 1)) H6)
    (hd : ∀ C acc, Pw xs.length C acc → Pn C acc) : Lin vs1 g1 tt1 te σ2 D (LcN F ok B D Pn) (Itl K a) (F s0 (upd C0 D (.lst acc0))) := by
  refine ⟨fun j q H => q = xs.length - j ∧ j ≤ xs.length ∧ LcN F ok C0 D (Pw j) H, ⟨xs.length, by simp, Nat.zero_le _, s0, C0, acc0, rfl, k, hD, Same.refl _, h0⟩, ?_⟩
  rintro j q H ⟨rfl, hj, s, C, acc, rfl, k', hD', hS', hp⟩
  have q : SqL K (F s (upd C D (.lst acc))) a xs := SqL.of (T.get _ _ _ _ k' (upd_old hD' (hS' _ _ ha)))
  by_cases hlt : j < xs.length
  · refine .inr ⟨⟨xs, xs[j], q, by simp [hlt]⟩, fun H' => LcN F ok C0 D (Pw (j + 1)) H', fun H' p' => ⟨xs.length - (j + 1), by omega, rfl, hlt, p'⟩, fun x H' y => ?_⟩
    obtain ⟨e, y⟩ := y
    subst e
    exact hs j x s C acc k' hD' hS' (y xs q) hp
  · have e : j = xs.length := by omega
    subst e
    exact .inl ⟨⟨xs, q, Nat.le_refl _⟩, s, C, acc, rfl, k', hD', hS.trans hS', hd C acc hp⟩
end
end Lw
namespace Shp
open PySem Sy
def onum (l : List Sy.Tm) : Nat := (l.map fun t => (outer t).length).sum
theorem onum_snoc (l : List Sy.Tm) (t : Sy.Tm) : onum (l ++ [t]) = onum l + (outer t).length := by
  unfold onum; rw [List.map_append, List.sum_append]; simp
theorem outer_ns : ∀ {t : Sy.Tm} {x : Str}, x ∈ outer t → x ∈ t.ns
  | .name y, x, h => h
  | .none, x, h => nomatch h
  | .just t, x, h => nomatch h
  | .bin _ a b, x, h => List.mem_append.mpr ((List.mem_append.mp h).imp (outer_ns (t := a)) (outer_ns (t := b)))
theorem outer_len : ∀ t : Sy.Tm, (outer t).length ≤ t.ns.length
  | .name y => Nat.le_refl _
  | .none => Nat.le_refl _
  | .just t => Nat.zero_le _
  | .bin _ a b => by
    have := outer_len a; have := outer_len b
    show (outer a ++ outer b).length ≤ (a.ns ++ b.ns).length
    rw [List.length_append, List.length_append]; omega
theorem take_on (g : G) (t : Sy.Tm) : onum (g.take t).ho ≤ onum g.ho + (outer t).length := by
  unfold G.take
  split
  · omega
  · show onum (if isNm t = true then g.ho else g.ho ++ [t]) ≤ _
    split
    · omega
    · rw [onum_snoc]; omega
theorem tm_on : ∀ (t : Sy.Tm) (g : G), onum (G.tm t g).ho + (outer t).length ≤ onum g.ho + t.ns.length
  | .name _, g => Nat.le_refl _
  | .none, g => Nat.le_refl _
  | .just t, g => by
    have h1 := tm_on t (g.take t)
    have h2 := take_on g t
    show onum (G.tm t (g.take t)).ho + 0 ≤ onum g.ho + t.ns.length
    omega
  | .bin _ a b, g => by
    have h1 := tm_on a g
    have h2 := tm_on b (G.tm a g)
    show onum (G.tm b (G.tm a g)).ho + (outer a ++ outer b).length ≤ onum g.ho + (a.ns ++ b.ns).length
    rw [List.length_append, List.length_append]
    omega
theorem elem_on (t : Sy.Tm) (g : G) : onum (G.elem t g).ho ≤ onum g.ho + t.ns.length := by
  have h1 := tm_on t (g.take t)
  have h2 := take_on g t
  show onum (G.tm t (g.take t)).ho ≤ _
  omega
theorem hold_on (t : Sy.Tm) (g : G) : onum (G.hold t g).ho ≤ onum g.ho + t.ns.length := by
  have h1 := tm_on t { g with ho := g.ho ++ [t] }
  have h2 := onum_snoc g.ho t
  show onum (G.tm t { g with ho := g.ho ++ [t] }).ho ≤ _
  have h3 : onum ({ g with ho := g.ho ++ [t] } : G).ho = onum g.ho + (outer t).length := h2
  omega
theorem bd_on : ∀ (b : Bd) (g : G), onum (G.bd b g).ho ≤ onum g.ho + b.ns.length
  | .fact .inside t, g => hold_on t g
  | .fact .has t, g => elem_on t _
  | .fact .is t, g => elem_on t g
  | .not b, g => bd_on b g
  | .bin _ a b, g => by
    have h1 := bd_on a g
    have h2 := bd_on b (G.bd a g)
    show onum (G.bd b (G.bd a g)).ho ≤ onum g.ho + (a.ns ++ b.ns).length
    rw [List.length_append]; omega
theorem wide_ho (d : PyData) (g : G) : (G.wide d g).ho = g.ho ∧ (G.wide d g).el = g.el := by
  unfold G.wide; split <;> exact ⟨rfl, rfl⟩
theorem sg_on : ∀ (s : Sg) (g : G), onum (G.sg s g).ho ≤ onum g.ho + s.ns.length
  | .not s, g => sg_on s g
  | .bin _ a b, g => by
    have h1 := sg_on a g
    have h2 := sg_on b (G.sg a g)
    show onum (G.sg b (G.sg a g)).ho ≤ onum g.ho + (a.ns ++ b.ns).length
    rw [List.length_append]; omega
  | .fact .inn a b, g => by
    have h1 := elem_on a g
    have h2 := hold_on b (G.elem a g)
    show onum (G.hold b (G.elem a g)).ho ≤ onum g.ho + (a.ns ++ b.ns).length
    rw [List.length_append]; omega
  | .fact .same a b, g => by
    rw [G.sg]
    show _ ≤ onum g.ho + (a.ns ++ b.ns).length
    rw [List.length_append]
    split
    · have h1 := elem_on a g
      have h2 := elem_on b (G.elem a g)
      omega
    · have h0 := (wide_ho (Sg.fact .same a b).d g).1
      have h1 := hold_on a (G.wide (Sg.fact .same a b).d g)
      have h2 := hold_on b (G.hold a (G.wide (Sg.fact .same a b).d g))
      rw [h0] at h1
      omega
  | .fact .within a b, g => by
    rw [G.sg]
    show _ ≤ onum g.ho + (a.ns ++ b.ns).length
    rw [List.length_append]
    have h0 := (wide_ho (Sg.fact .within a b).d g).1
    have h1 := hold_on a (G.wide (Sg.fact .within a b).d g)
    have h2 := hold_on b (G.hold a (G.wide (Sg.fact .within a b).d g))
    rw [h0] at h1
    omega
  | .quant true t b, g => by
    rw [G.sg]
    show _ ≤ onum g.ho + (t.ns ++ b.ns).length
    rw [List.length_append]
    have h0 := (wide_ho (Sg.quant true t b).d g).1
    have h1 := hold_on t (G.wide (Sg.quant true t b).d g)
    have h2 := bd_on b (G.hold t (G.wide (Sg.quant true t b).d g))
    rw [h0] at h1
    omega
  | .quant false t b, g => by
    rw [G.sg]
    show _ ≤ onum g.ho + (t.ns ++ b.ns).length
    rw [List.length_append]
    have h0 := (wide_ho (Sg.quant true t (.not b)).d g).1
    have h1 := hold_on t (G.wide (Sg.quant true t (.not b)).d g)
    have h2 := bd_on b (G.hold t (G.wide (Sg.quant true t (.not b)).d g))
    rw [h0] at h1
    omega
theorem take_e (g : G) (t : Sy.Tm) : (g.take t).el.length ≤ g.el.length + 1 := by
  unfold G.take
  split
  · omega
  · show (g.el ++ [t]).length ≤ _
    rw [List.length_append]; exact Nat.le_refl _
theorem tm_e : ∀ (t : Sy.Tm) (g : G), (G.tm t g).el.length + 1 ≤ g.el.length + t.sz
  | .name _, g => Nat.le_refl _
  | .none, g => Nat.le_refl _
  | .just t, g => by
    have h1 := tm_e t (g.take t)
    have h2 := take_e g t
    show (G.tm t (g.take t)).el.length + 1 ≤ g.el.length + (t.sz + 1)
    omega
  | .bin _ a b, g => by
    have h1 := tm_e a g
    have h2 := tm_e b (G.tm a g)
    show (G.tm b (G.tm a g)).el.length + 1 ≤ g.el.length + (a.sz + b.sz + 1)
    omega
theorem elem_e (t : Sy.Tm) (g : G) : (G.elem t g).el.length ≤ g.el.length + t.sz := by
  have h1 := tm_e t (g.take t)
  have h2 := take_e g t
  show (G.tm t (g.take t)).el.length ≤ _
  omega
theorem hold_e (t : Sy.Tm) (g : G) : (G.hold t g).el.length ≤ g.el.length + t.sz := by
  have h1 := tm_e t { g with ho := g.ho ++ [t] }
  show (G.tm t { g with ho := g.ho ++ [t] }).el.length ≤ _
  have h2 : ({ g with ho := g.ho ++ [t] } : G).el.length = g.el.length := rfl
  omega
theorem bd_e : ∀ (b : Bd) (g : G), (G.bd b g).el.length ≤ g.el.length + b.sz
  | .fact .inside t, g => Nat.le_succ_of_le (hold_e t g)
  | .fact .has t, g => Nat.le_succ_of_le (elem_e t _)
  | .fact .is t, g => Nat.le_succ_of_le (elem_e t g)
  | .not b, g => Nat.le_succ_of_le (bd_e b g)
  | .bin _ a b, g => by
    have h1 := bd_e a g
    have h2 := bd_e b (G.bd a g)
    show (G.bd b (G.bd a g)).el.length ≤ g.el.length + (a.sz + b.sz + 1)
    omega
theorem sg_e : ∀ (s : Sg) (g : G), (G.sg s g).el.length ≤ g.el.length + s.sz
  | .not s, g => Nat.le_succ_of_le (sg_e s g)
  | .bin _ a b, g => by
    have h1 := sg_e a g
    have h2 := sg_e b (G.sg a g)
    show (G.sg b (G.sg a g)).el.length ≤ g.el.length + (a.sz + b.sz + 1)
    omega
  | .fact .inn a b, g => by
    have h1 := elem_e a g
    have h2 := hold_e b (G.elem a g)
    show (G.hold b (G.elem a g)).el.length ≤ g.el.length + (a.sz + b.sz + 1)
    omega
  | .fact .same a b, g => by
    rw [G.sg]
    show _ ≤ g.el.length + (a.sz + b.sz + 1)
    split
    · have h1 := elem_e a g
      have h2 := elem_e b (G.elem a g)
      omega
    · have h0 := (wide_ho (Sg.fact .same a b).d g).2
      have h1 := hold_e a (G.wide (Sg.fact .same a b).d g)
      have h2 := hold_e b (G.hold a (G.wide (Sg.fact .same a b).d g))
      rw [h0] at h1
      omega
  | .fact .within a b, g => by
    rw [G.sg]
    show _ ≤ g.el.length + (a.sz + b.sz + 1)
    have h0 := (wide_ho (Sg.fact .within a b).d g).2
    have h1 := hold_e a (G.wide (Sg.fact .within a b).d g)
    have h2 := hold_e b (G.hold a (G.wide (Sg.fact .within a b).d g))
    rw [h0] at h1
    omega
  | .quant true t b, g => by
    rw [G.sg]
    show _ ≤ g.el.length + (t.sz + b.sz + 1)
    have h0 := (wide_ho (Sg.quant true t b).d g).2
    have h1 := hold_e t (G.wide (Sg.quant true t b).d g)
    have h2 := bd_e b (G.hold t (G.wide (Sg.quant true t b).d g))
    rw [h0] at h1
    omega
  | .quant false t b, g => by
    rw [G.sg]
    show _ ≤ g.el.length + (t.sz + b.sz + 1)
    have h0 := (wide_ho (Sg.quant true t (.not b)).d g).2
    have h1 := hold_e t (G.wide (Sg.quant true t (.not b)).d g)
    have h2 := bd_e b (G.hold t (G.wide (Sg.quant true t (.not b)).d g))
    rw [h0] at h1
    omega
structure InN (N : Str → Prop) (g : G) : Prop where
  el : ∀ t ∈ g.el, ∀ x ∈ t.ns, N x
  ho : ∀ t ∈ g.ho, ∀ x ∈ t.ns, N x
theorem InN.take {N : Str → Prop} {g : G} (h : InN N g) {t : Sy.Tm} (ht : ∀ x ∈ t.ns, N x) : InN N (g.take t) := by
  unfold G.take
  split
  · exact h
  · refine ⟨fun u hu => ?_, fun u hu => ?_⟩
    · rcases List.mem_append.mp hu with z | z
      · exact h.el u z
      · rw [List.mem_singleton.mp z]; exact ht
    · have hu : u ∈ (if isNm t = true then g.ho else g.ho ++ [t]) := hu
      split at hu
      · exact h.ho u hu
      · rcases List.mem_append.mp hu with z | z
        · exact h.ho u z
        · rw [List.mem_singleton.mp z]; exact ht
theorem InN.tm {N : Str → Prop} : ∀ {t : Sy.Tm} {g : G}, InN N g → (∀ x ∈ t.ns, N x) → InN N (G.tm t g)
  | .name _, g, h, _ => h
  | .none, g, h, _ => h
  | .just t, g, h, ht => InN.tm (t := t) (h.take ht) ht
  | .bin _ a b, g, h, ht => InN.tm (t := b) (InN.tm (t := a) h fun x hx => ht x (List.mem_append_left _ hx)) fun x hx => ht x (List.mem_append_right _ hx)
theorem InN.elem {N : Str → Prop} {t : Sy.Tm} {g : G} (h : InN N g) (ht : ∀ x ∈ t.ns, N x) : InN N (G.elem t g) := (h.take ht).tm ht
theorem InN.hold {N : Str → Prop} {t : Sy.Tm} {g : G} (h : InN N g) (ht : ∀ x ∈ t.ns, N x) : InN N (G.hold t g) :=
  InN.tm (g := { g with ho := g.ho ++ [t] }) ⟨h.el, fun u hu => (List.mem_append.mp hu).elim (h.ho u) fun z => by rw [List.mem_singleton.mp z]; exact ht⟩ ht
theorem InN.bd {N : Str → Prop} : ∀ {b : Bd} {g : G}, InN N g → (∀ x ∈ b.ns, N x) → InN N (G.bd b g)
  | .fact .inside t, g, h, ht => h.hold ht
  | .fact .has t, g, h, ht => InN.elem (g := { g with as := g.as ++ [t] }) ⟨h.el, h.ho⟩ ht
  | .fact .is t, g, h, ht => h.elem ht
  | .not b, g, h, ht => InN.bd (b := b) h ht
  | .bin _ a b, g, h, ht => InN.bd (b := b) (InN.bd (b := a) h fun x hx => ht x (List.mem_append_left _ hx)) fun x hx => ht x (List.mem_append_right _ hx)
theorem InN.wide {N : Str → Prop} {d : PyData} {g : G} (h : InN N g) : InN N (G.wide d g) := by
  obtain ⟨e1, e2⟩ := wide_ho d g
  exact ⟨by rw [e2]; exact h.el, by rw [e1]; exact h.ho⟩
theorem InN.sg {N : Str → Prop} : ∀ {s : Sg} {g : G}, InN N g → (∀ x ∈ s.ns, N x) → InN N (G.sg s g)
  | .not s, g, h, ht => InN.sg (s := s) h ht
  | .bin _ a b, g, h, ht => InN.sg (s := b) (InN.sg (s := a) h fun x hx => ht x (List.mem_append_left _ hx)) fun x hx => ht x (List.mem_append_right _ hx)
  | .fact .inn a b, g, h, ht => (h.elem fun x hx => ht x (List.mem_append_left _ hx)).hold fun x hx => ht x (List.mem_append_right _ hx)
  | .fact .same a b, g, h, ht => by
    rw [G.sg]
    split
    · exact (h.elem fun x hx => ht x (List.mem_append_left _ hx)).elem fun x hx => ht x (List.mem_append_right _ hx)
    · exact (h.wide.hold fun x hx => ht x (List.mem_append_left _ hx)).hold fun x hx => ht x (List.mem_append_right _ hx)
  | .fact .within a b, g, h, ht => (h.wide.hold fun x hx => ht x (List.mem_append_left _ hx)).hold fun x hx => ht x (List.mem_append_right _ hx)
  | .quant true t b, g, h, ht => (h.wide.hold fun x hx => ht x (List.mem_append_left _ hx)).bd fun x hx => ht x (List.mem_append_right _ hx)
  | .quant false t b, g, h, ht => (h.wide.hold fun x hx => ht x (List.mem_append_left _ hx)).bd fun x hx => ht x (List.mem_append_right _ hx)
theorem InN.g0 {N : Str → Prop} : InN N G0 := ⟨fun t h => (nomatch h), fun t h => nomatch h⟩
theorem hoNs_in {N : Str → Prop} {g : G} (h : InN N g) : ∀ x ∈ hoNs g, N x := by
  intro x hx
  unfold hoNs at hx
  rcases List.mem_append.mp hx with hx | hx
  · obtain ⟨l, hl, hx⟩ := List.mem_flatten.mp hx
    obtain ⟨t, ht, rfl⟩ := List.mem_map.mp hl
    exact h.ho t ht x (outer_ns hx)
  · split at hx
    · cases hx
    · obtain ⟨t, ht, rfl⟩ := List.mem_map.mp hx
      obtain ⟨h1, h2⟩ := List.mem_filter.mp ht
      obtain ⟨y, rfl⟩ := outer_nm h2
      exact h.el _ h1 _ (List.mem_singleton.mpr rfl)
theorem ns_sz_tm : ∀ t : Sy.Tm, t.ns.length ≤ t.sz
  | .name _ => Nat.le_refl _
  | .none => Nat.zero_le _
  | .just t => Nat.le_succ_of_le (ns_sz_tm t)
  | .bin _ a b => by
    have := ns_sz_tm a; have := ns_sz_tm b
    show (a.ns ++ b.ns).length ≤ a.sz + b.sz + 1
    rw [List.length_append]; omega
theorem ns_sz_bd : ∀ t : Bd, t.ns.length ≤ t.sz
  | .fact _ t => Nat.le_succ_of_le (ns_sz_tm t)
  | .not t => Nat.le_succ_of_le (ns_sz_bd t)
  | .bin _ a b => by
    have := ns_sz_bd a; have := ns_sz_bd b
    show (a.ns ++ b.ns).length ≤ a.sz + b.sz + 1
    rw [List.length_append]; omega
theorem ns_sz : ∀ t : Sg, t.ns.length ≤ t.sz
  | .fact _ a b => by
    have := ns_sz_tm a; have := ns_sz_tm b
    show (a.ns ++ b.ns).length ≤ a.sz + b.sz + 1
    rw [List.length_append]; omega
  | .quant _ a b => by
    have := ns_sz_tm a; have := ns_sz_bd b
    show (a.ns ++ b.ns).length ≤ a.sz + b.sz + 1
    rw [List.length_append]; omega
  | .not t => Nat.le_succ_of_le (ns_sz t)
  | .bin _ a b => by
    have := ns_sz a; have := ns_sz b
    show (a.ns ++ b.ns).length ≤ a.sz + b.sz + 1
    rw [List.length_append]; omega
end Shp
namespace Shp
open PySem Sy
/-- a tree in a row that is no wide one -/
structure TmIn (s : PyData) (N : List Str) (d : PyData) : Prop where
  ex : ∃ t : Sy.Tm, d = t.d ∧ t.d.depth ≤ s.depth ∧ ∀ x ∈ t.ns, x ∈ N
theorem TmIn.mono {s s' : PyData} {N N' : List Str} {d : PyData} (h : TmIn s N d) (e : s.depth ≤ s'.depth) (n : ∀ x ∈ N, x ∈ N') : TmIn s' N' d := by
  obtain ⟨t, h1, h2, h3⟩ := h
  exact ⟨t, h1, by omega, fun x hx => n x (h3 x hx)⟩
theorem rTm_in {k : Str} {d : PyData} : ∀ {t : Sy.Tm}, (k, d) ∈ rTm t → TmIn t.d t.ns d
  | .name _, h => nomatch h
  | .none, h => nomatch h
  | .just t, h => by
    have e : (Sy.Tm.just t).d.depth = t.d.depth + 1 := Lw.dep1
    rcases List.mem_cons.mp h with e1 | h
    · exact ⟨t, congrArg Prod.snd e1, by omega, fun x hx => hx⟩
    · exact (rTm_in (t := t) h).mono (by omega) (fun x hx => hx)
  | .bin o a b, h => by
    have e : (Sy.Tm.bin o a b).d.depth = max a.d.depth b.d.depth + 1 := Lw.dep2
    rcases List.mem_append.mp h with h | h
    · exact (rTm_in (t := a) h).mono (by omega) (fun x hx => List.mem_append_left _ hx)
    · exact (rTm_in (t := b) h).mono (by omega) (fun x hx => List.mem_append_right _ hx)
theorem rEl_in {k : Str} {d : PyData} {t : Sy.Tm} (h : (k, d) ∈ rEl t) : TmIn t.d t.ns d := by
  rcases List.mem_cons.mp h with e | h
  · exact ⟨t, congrArg Prod.snd e, Nat.le_refl _, fun x hx => hx⟩
  · exact rTm_in h
theorem rHo_in {k : Str} {d : PyData} {t : Sy.Tm} (h : (k, d) ∈ rHo t) : TmIn t.d t.ns d := by
  rcases List.mem_cons.mp h with e | h
  · exact ⟨t, congrArg Prod.snd e, Nat.le_refl _, fun x hx => hx⟩
  · exact rTm_in h
theorem rBd_in {k : Str} {d : PyData} : ∀ {b : Bd}, (k, d) ∈ rBd b → TmIn b.d b.ns d
  | .fact .inside t, h => by
    have e : (Bd.fact .inside t).d.depth = t.d.depth + 1 := Lw.dep1
    exact (rHo_in h).mono (by omega) (fun x hx => hx)
  | .fact .has t, h => by
    have e : (Bd.fact .has t).d.depth = t.d.depth + 1 := Lw.dep1
    rcases List.mem_cons.mp h with e1 | h
    · exact ⟨t, congrArg Prod.snd e1, by omega, fun x hx => hx⟩
    · exact (rEl_in h).mono (by omega) (fun x hx => hx)
  | .fact .is t, h => by
    have e : (Bd.fact .is t).d.depth = t.d.depth + 1 := Lw.dep1
    exact (rEl_in h).mono (by omega) (fun x hx => hx)
  | .not b, h => by
    have e : (Bd.not b).d.depth = b.d.depth + 1 := Lw.dep1
    exact (rBd_in (b := b) h).mono (by omega) (fun x hx => hx)
  | .bin j a b, h => by
    have e : (Bd.bin j a b).d.depth = max a.d.depth b.d.depth + 1 := Lw.dep2
    rcases List.mem_append.mp h with h | h
    · exact (rBd_in (b := a) h).mono (by omega) (fun x hx => List.mem_append_left _ hx)
    · exact (rBd_in (b := b) h).mono (by omega) (fun x hx => List.mem_append_right _ hx)
theorem rSg_in {k : Str} {d : PyData} (hk : k ≠ "wide") : ∀ {s : Sg}, (k, d) ∈ rSg s → TmIn s.d s.ns d
  | .not b, h => by
    have e : (Sg.not b).d.depth = b.d.depth + 1 := Lw.dep1
    exact (rSg_in hk (s := b) h).mono (by omega) (fun x hx => hx)
  | .bin j a b, h => by
    have e : (Sg.bin j a b).d.depth = max a.d.depth b.d.depth + 1 := Lw.dep2
    rcases List.mem_append.mp h with h | h
    · exact (rSg_in hk (s := a) h).mono (by omega) (fun x hx => List.mem_append_left _ hx)
    · exact (rSg_in hk (s := b) h).mono (by omega) (fun x hx => List.mem_append_right _ hx)
  | .fact .inn a b, h => by
    have e : (Sg.fact .inn a b).d.depth = max a.d.depth b.d.depth + 1 := Lw.dep2
    rcases List.mem_append.mp h with h | h
    · exact (rEl_in h).mono (by omega) (fun x hx => List.mem_append_left _ hx)
    · exact (rHo_in h).mono (by omega) (fun x hx => List.mem_append_right _ hx)
  | .fact .same a b, h => by
    have e : (Sg.fact .same a b).d.depth = max a.d.depth b.d.depth + 1 := Lw.dep2
    rw [rSg] at h
    split at h
    · rcases List.mem_append.mp h with h | h
      · exact (rEl_in h).mono (by omega) (fun x hx => List.mem_append_left _ hx)
      · exact (rEl_in h).mono (by omega) (fun x hx => List.mem_append_right _ hx)
    · rcases List.mem_append.mp h with h | h
      · rcases List.mem_append.mp h with h | h
        · exact (rHo_in h).mono (by omega) (fun x hx => List.mem_append_left _ hx)
        · exact (rHo_in h).mono (by omega) (fun x hx => List.mem_append_right _ hx)
      · exact absurd (only.mp h).1 hk
  | .fact .within a b, h => by
    have e : (Sg.fact .within a b).d.depth = max a.d.depth b.d.depth + 1 := Lw.dep2
    rcases List.mem_append.mp h with h | h
    · rcases List.mem_append.mp h with h | h
      · exact (rHo_in h).mono (by omega) (fun x hx => List.mem_append_left _ hx)
      · exact (rHo_in h).mono (by omega) (fun x hx => List.mem_append_right _ hx)
    · exact absurd (only.mp h).1 hk
  | .quant true a b, h => by
    have e : (Sg.quant true a b).d.depth = max a.d.depth b.d.depth + 1 := Lw.dep2
    rcases List.mem_append.mp h with h | h
    · rcases List.mem_append.mp h with h | h
      · exact (rHo_in h).mono (by omega) (fun x hx => List.mem_append_left _ hx)
      · exact (rBd_in h).mono (by omega) (fun x hx => List.mem_append_right _ hx)
    · exact absurd (only.mp h).1 hk
  | .quant false a b, h => by
    have e : (Sg.quant false a b).d.depth = max a.d.depth b.d.depth + 1 := Lw.dep2
    rcases List.mem_append.mp h with h | h
    · rcases List.mem_append.mp h with h | h
      · exact (rHo_in h).mono (by omega) (fun x hx => List.mem_append_left _ hx)
      · exact (rBd_in h).mono (by omega) (fun x hx => List.mem_append_right _ hx)
    · exact absurd (only.mp h).1 hk
/-- how deep a wide row's tree is -/
theorem rSg_wide {d : PyData} : ∀ {s : Sg}, (("wide", d) : Row) ∈ rSg s → d.depth ≤ s.d.depth + 1
  | .not b, h => by
    have e : (Sg.not b).d.depth = b.d.depth + 1 := Lw.dep1
    have := rSg_wide (s := b) h; omega
  | .bin j a b, h => by
    have e : (Sg.bin j a b).d.depth = max a.d.depth b.d.depth + 1 := Lw.dep2
    rcases List.mem_append.mp h with h | h
    · have := rSg_wide (s := a) h; omega
    · have := rSg_wide (s := b) h; omega
  | .fact .inn a b, h => by
    rcases List.mem_append.mp h with h | h
    · exact absurd rfl (rEl_kind h)
    · exact absurd rfl (rHo_kind h)
  | .fact .same a b, h => by
    rw [rSg] at h
    split at h
    · rcases List.mem_append.mp h with h | h
      · exact absurd rfl (rEl_kind h)
      · exact absurd rfl (rEl_kind h)
    · rcases List.mem_append.mp h with h | h
      · rcases List.mem_append.mp h with h | h
        · exact absurd rfl (rHo_kind h)
        · exact absurd rfl (rHo_kind h)
      · rw [(only.mp h).2]; omega
  | .fact .within a b, h => by
    rcases List.mem_append.mp h with h | h
    · rcases List.mem_append.mp h with h | h
      · exact absurd rfl (rHo_kind h)
      · exact absurd rfl (rHo_kind h)
    · rw [(only.mp h).2]; omega
  | .quant true a b, h => by
    rcases List.mem_append.mp h with h | h
    · rcases List.mem_append.mp h with h | h
      · exact absurd rfl (rHo_kind h)
      · exact absurd rfl (rBd_kind h)
    · rw [(only.mp h).2]; omega
  | .quant false a b, h => by
    have e : (Sg.quant false a b).d.depth = max a.d.depth b.d.depth + 1 := Lw.dep2
    have e2 : (Sg.quant true a (.not b)).d.depth = max a.d.depth (Bd.not b).d.depth + 1 := Lw.dep2
    have e3 : (Bd.not b).d.depth = b.d.depth + 1 := Lw.dep1
    rcases List.mem_append.mp h with h | h
    · rcases List.mem_append.mp h with h | h
      · exact absurd rfl (rHo_kind h)
      · exact absurd rfl (rBd_kind h)
    · rw [(only.mp h).2]; omega
theorem rSg_dep {k : Str} {d : PyData} {s : Sg} (h : (k, d) ∈ rSg s) : d.depth ≤ s.d.depth + 1 := by
  by_cases hk : k = "wide"
  · subst hk; exact rSg_wide h
  · obtain ⟨t, h1, h2, _⟩ := rSg_in hk h
    rw [h1]; omega
open Classical in
noncomputable def oL (d : PyData) : Nat := if h : ∃ t : Sy.Tm, d = t.d then (outer h.choose).length else 0
theorem oL_d (t : Sy.Tm) : oL t.d = (outer t).length := by
  have h : ∃ u : Sy.Tm, t.d = u.d := ⟨t, rfl⟩
  unfold oL
  rw [dif_pos h, ← Tm.d_inj h.choose_spec]
open Classical in
noncomputable def oR (rs : List Row) : Nat := (rs.map fun r => if r.1 = ("holding" : Str) then oL r.2 else 0).sum
theorem oR_app (a b : List Row) : oR (a ++ b) = oR a + oR b := by unfold oR; rw [List.map_append, List.sum_append]
theorem oR_cons (k : Str) (d : PyData) (a : List Row) : oR ((k, d) :: a) = (if k = ("holding" : Str) then oL d else 0) + oR a := rfl
theorem oR_tm (t : Sy.Tm) : oR (rTm t) = 0 := by
  unfold oR
  rw [List.sum_eq_zero_iff_forall_eq_nat]
  intro x hx
  obtain ⟨⟨k, d⟩, hr, rfl⟩ := List.mem_map.mp hx
  show (if k = ("holding" : Str) then oL d else 0) = 0
  rw [rTm_kind hr, if_neg s3]
theorem oR_el (t : Sy.Tm) : oR (rEl t) = 0 := by rw [rEl, oR_cons, if_neg s3, oR_tm]
theorem oR_ho (t : Sy.Tm) : oR (rHo t) ≤ t.ns.length := by
  rw [rHo, oR_cons, if_pos rfl, oR_tm, oL_d]
  exact outer_len t
theorem oR_bd : ∀ b : Bd, oR (rBd b) ≤ b.ns.length
  | .fact .inside t => oR_ho t
  | .fact .has t => by rw [rBd, oR_cons, if_neg s5.symm, oR_el]; exact Nat.zero_le _
  | .fact .is t => by rw [rBd, oR_el]; exact Nat.zero_le _
  | .not b => oR_bd b
  | .bin _ a b => by
    have h1 := oR_bd a; have h2 := oR_bd b
    rw [rBd, oR_app]
    show _ ≤ (a.ns ++ b.ns).length
    rw [List.length_append]; omega
theorem oR_wide (d : PyData) : oR [(("wide", d) : Row)] = 0 := by rw [oR_cons, if_neg s4.symm]; rfl
theorem oR_sg : ∀ s : Sg, oR (rSg s) ≤ s.ns.length
  | .not b => oR_sg b
  | .bin _ a b => by
    have h1 := oR_sg a; have h2 := oR_sg b
    rw [rSg, oR_app]
    show _ ≤ (a.ns ++ b.ns).length
    rw [List.length_append]; omega
  | .fact .inn a b => by
    have h2 := oR_ho b
    rw [rSg, oR_app, oR_el]
    show _ ≤ (a.ns ++ b.ns).length
    rw [List.length_append]; omega
  | .fact .same a b => by
    have h1 := oR_ho a; have h2 := oR_ho b
    rw [rSg]
    show _ ≤ (a.ns ++ b.ns).length
    rw [List.length_append]
    split
    · rw [oR_app, oR_el, oR_el]; omega
    · rw [oR_app, oR_app, oR_wide]; omega
  | .fact .within a b => by
    have h1 := oR_ho a; have h2 := oR_ho b
    rw [rSg, oR_app, oR_app, oR_wide]
    show _ ≤ (a.ns ++ b.ns).length
    rw [List.length_append]; omega
  | .quant true a b => by
    have h1 := oR_ho a; have h2 := oR_bd b
    rw [rSg, oR_app, oR_app, oR_wide]
    show _ ≤ (a.ns ++ b.ns).length
    rw [List.length_append]; omega
  | .quant false a b => by
    have h1 := oR_ho a; have h2 := oR_bd b
    rw [rSg, oR_app, oR_app, oR_wide]
    show _ ≤ (a.ns ++ b.ns).length
    rw [List.length_append]; omega
noncomputable def oS (l : List PyData) : Nat := (l.map oL).sum
theorem oS_firsts (rs : List Row) : ∀ (l : List PyData), oS (firsts "holding" rs l) ≤ oS l + oR rs := by
  induction rs with
  | nil => exact fun l => Nat.le_add_right _ _
  | cons r rs ih =>
    intro l
    obtain ⟨k, d⟩ := r
    rw [firsts, oR_cons]
    by_cases hk : k = ("holding" : Str) ∧ d ∉ l
    · rw [if_pos hk, if_pos hk.1]
      have h := ih (l ++ [d])
      have : oS (l ++ [d]) = oS l + oL d := by unfold oS; rw [List.map_append, List.sum_append]; simp
      omega
    · rw [if_neg hk]
      have h := ih l
      omega
theorem oS_map (ts : List Sy.Tm) : oS (ts.map Sy.Tm.d) = onum ts := by
  unfold oS onum
  rw [List.map_map]
  congr 1
  exact List.map_congr_left fun t _ => oL_d t
/-- the trees of rows as terms -/
theorem as_tms {N : List Str} {s : PyData} : ∀ (l : List PyData), (∀ d ∈ l, TmIn s N d) → ∃ ts : List Sy.Tm, l = ts.map Sy.Tm.d ∧ ∀ t ∈ ts, t.d.depth ≤ s.depth ∧ ∀ x ∈ t.ns, x ∈ N
  | [], _ => ⟨[], rfl, fun t h => nomatch h⟩
  | d :: l, h => by
    obtain ⟨ts, e, h2⟩ := as_tms l fun x hx => h x (List.mem_cons_of_mem _ hx)
    obtain ⟨t, h3, h4, h5⟩ := h d List.mem_cons_self
    exact ⟨t :: ts, by rw [List.map_cons, ← e, ← h3], fun u hu => (List.mem_cons.mp hu).elim (fun z => by rw [z]; exact ⟨h4, h5⟩) (h2 u)⟩
def en (l : List Sy.Tm) : Nat := onum (l.filter fun t => !isNm t)
theorem en_snoc (l : List Sy.Tm) (t : Sy.Tm) : en (l ++ [t]) = en l + (if isNm t then 0 else (outer t).length) := by
  unfold en
  rw [List.filter_append]
  cases h : isNm t with
  | true => rw [show ([t].filter fun t => !isNm t) = [] by simp [h], List.append_nil]; rfl
  | false => rw [show ([t].filter fun t => !isNm t) = [t] by simp [h], onum_snoc]; rfl
theorem take_en (g : G) (t : Sy.Tm) : en (g.take t).el + onum g.ho ≤ onum (g.take t).ho + en g.el := by
  unfold G.take
  split
  · omega
  · show en (g.el ++ [t]) + onum g.ho ≤ onum (if isNm t = true then g.ho else g.ho ++ [t]) + en g.el
    rw [en_snoc]
    split
    · omega
    · rw [onum_snoc]; omega
theorem tm_en : ∀ (t : Sy.Tm) (g : G), en (G.tm t g).el + onum g.ho ≤ onum (G.tm t g).ho + en g.el
  | .name _, g => by show en g.el + onum g.ho ≤ onum g.ho + en g.el; omega
  | .none, g => by show en g.el + onum g.ho ≤ onum g.ho + en g.el; omega
  | .just t, g => by
    have h1 := tm_en t (g.take t); have h2 := take_en g t
    show en (G.tm t (g.take t)).el + onum g.ho ≤ onum (G.tm t (g.take t)).ho + en g.el
    omega
  | .bin _ a b, g => by
    have h1 := tm_en a g; have h2 := tm_en b (G.tm a g)
    show en (G.tm b (G.tm a g)).el + onum g.ho ≤ onum (G.tm b (G.tm a g)).ho + en g.el
    omega
theorem elem_en (t : Sy.Tm) (g : G) : en (G.elem t g).el + onum g.ho ≤ onum (G.elem t g).ho + en g.el := by
  have h1 := tm_en t (g.take t); have h2 := take_en g t
  show en (G.tm t (g.take t)).el + onum g.ho ≤ onum (G.tm t (g.take t)).ho + en g.el
  omega
theorem hold_en (t : Sy.Tm) (g : G) : en (G.hold t g).el + onum g.ho ≤ onum (G.hold t g).ho + en g.el := by
  have h1 := tm_en t { g with ho := g.ho ++ [t] }
  have h2 : onum ({ g with ho := g.ho ++ [t] } : G).ho = onum g.ho + (outer t).length := onum_snoc _ _
  have h3 : ({ g with ho := g.ho ++ [t] } : G).el = g.el := rfl
  rw [h3] at h1
  show en (G.tm t { g with ho := g.ho ++ [t] }).el + onum g.ho ≤ onum (G.tm t { g with ho := g.ho ++ [t] }).ho + en g.el
  omega
theorem bd_en : ∀ (b : Bd) (g : G), en (G.bd b g).el + onum g.ho ≤ onum (G.bd b g).ho + en g.el
  | .fact .inside t, g => hold_en t g
  | .fact .has t, g => elem_en t { g with as := g.as ++ [t] }
  | .fact .is t, g => elem_en t g
  | .not b, g => bd_en b g
  | .bin _ a b, g => by
    have h1 := bd_en a g; have h2 := bd_en b (G.bd a g)
    show en (G.bd b (G.bd a g)).el + onum g.ho ≤ onum (G.bd b (G.bd a g)).ho + en g.el
    omega
theorem wide_en (d : PyData) (g : G) : en (G.wide d g).el = en g.el ∧ onum (G.wide d g).ho = onum g.ho := by
  obtain ⟨h1, h2⟩ := wide_ho d g
  rw [h1, h2]; exact ⟨rfl, rfl⟩
theorem sg_en : ∀ (s : Sg) (g : G), en (G.sg s g).el + onum g.ho ≤ onum (G.sg s g).ho + en g.el
  | .not b, g => sg_en b g
  | .bin _ a b, g => by
    have h1 := sg_en a g; have h2 := sg_en b (G.sg a g)
    show en (G.sg b (G.sg a g)).el + onum g.ho ≤ onum (G.sg b (G.sg a g)).ho + en g.el
    omega
  | .fact .inn a b, g => by
    have h1 := elem_en a g; have h2 := hold_en b (G.elem a g)
    show en (G.hold b (G.elem a g)).el + onum g.ho ≤ onum (G.hold b (G.elem a g)).ho + en g.el
    omega
  | .fact .same a b, g => by
    rw [G.sg]
    split
    · have h1 := elem_en a g; have h2 := elem_en b (G.elem a g)
      omega
    · have h0 := wide_en (Sg.fact .same a b).d g
      have h1 := hold_en a (G.wide (Sg.fact .same a b).d g); have h2 := hold_en b (G.hold a (G.wide (Sg.fact .same a b).d g))
      omega
  | .fact .within a b, g => by
    rw [G.sg]
    have h0 := wide_en (Sg.fact .within a b).d g
    have h1 := hold_en a (G.wide (Sg.fact .within a b).d g); have h2 := hold_en b (G.hold a (G.wide (Sg.fact .within a b).d g))
    omega
  | .quant true t b, g => by
    rw [G.sg]
    have h0 := wide_en (Sg.quant true t b).d g
    have h1 := hold_en t (G.wide (Sg.quant true t b).d g); have h2 := bd_en b (G.hold t (G.wide (Sg.quant true t b).d g))
    omega
  | .quant false t b, g => by
    rw [G.sg]
    have h0 := wide_en (Sg.quant true t (.not b)).d g
    have h1 := hold_en t (G.wide (Sg.quant true t (.not b)).d g); have h2 := bd_en b (G.hold t (G.wide (Sg.quant true t (.not b)).d g))
    omega
theorem onum_el : ∀ l : List Sy.Tm, onum l ≤ en l + l.length
  | [] => Nat.zero_le _
  | t :: l => by
    have h := onum_el l
    have e : onum (t :: l) = (outer t).length + onum l := rfl
    rw [e, List.length_cons]
    unfold en
    cases ht : isNm t with
    | true =>
      obtain ⟨x, rfl⟩ := outer_nm ht
      rw [show ((Sy.Tm.name x :: l).filter fun t => !isNm t) = l.filter fun t => !isNm t by rw [List.filter_cons]; rfl]
      have : (outer (Sy.Tm.name x)).length = 1 := rfl
      unfold en at h
      omega
    | false =>
      rw [show ((t :: l).filter fun t => !isNm t) = t :: l.filter fun t => !isNm t by rw [List.filter_cons, ht]; rfl]
      have : onum (t :: l.filter fun t => !isNm t) = (outer t).length + onum (l.filter fun t => !isNm t) := rfl
      unfold en at h
      omega
end Shp
namespace Lw
open PySem PySem.Spec PySem.Froz PyProof.Rows L2
/-- the texts l, each once, are the set at a -/
def SetS (P : Program) (w : World) (h : Heap) (a : Addr) (l : List Str) : Prop := ∃ D : SD, h.get? a = some (sObj "set" D) ∧ TxOk P w D l ∧ Ris D.2.2.place.toList ∧ (w.params.followText "set-order" = true ∨ D.2.2.led = true) ∧ l.Nodup
theorem SetS.at {P : Program} {w : World} {h h' : Heap} {a : Addr} {l : List Str} (R : SetS P w h a l) (k : ∀ o, h.get? a = some o → h'.get? a = some o) : SetS P w h' a l := by
  obtain ⟨D, h1, r⟩ := R
  exact ⟨D, k _ h1, r⟩
theorem tailTx_ris {ep : Nat} {es : Array (Int × Value)} {t : SetTable} {b : Bool} (r : Ris t.place.toList) : Ris (tailTx ep es t b).2.2.place.toList := by
  unfold tailTx
  split
  · exact relayAll_ris _ _ _
  · exact r
theorem tailTx_led {ep : Nat} {es : Array (Int × Value)} {t : SetTable} {b : Bool} : (tailTx ep es t b).2.2.led = t.led := by
  unfold tailTx
  split
  · exact relayAll_led _ _ _
  · rfl
theorem addTx_ris {h : Int} {v : Value} {D : SD} (r : Ris D.2.2.place.toList) : Ris (addTx h v D).2.2.place.toList := by
  have := layNew_ris D.2.2 D.1 h v r
  unfold addTx
  refine tailTx_ris ?_
  split
  · exact this
  · exact this
theorem addTx_led {h : Int} {v : Value} {D : SD} : (addTx h v D).2.2.led = D.2.2.led := by
  have := layNew_led D.2.2 D.1 h v
  unfold addTx
  rw [tailTx_led]
  split
  · exact this
  · exact this
section
variable {P : Program} {w : World} {A : Around} {E : Value → Shared → Prop} {s : Shared}
theorem setS_add {a : Addr} {l : List Str} {k : Str} {tk : Tok} {Q : Bool → Shared → Prop} (R : SetS P w s.heap a l) (room : l.length + 1 < scanBound)
    (hQ : ∀ h' b, Heap.SameBut a s.heap h' → SetS P w h' a (if k ∈ l then l else k :: l) → Q b { s with heap := h' }) : wpAny (model P w) A (setAddHashed a (.str k tk) ((PySem.strKind P w).hash k)) Q E s := by
  obtain ⟨D, ho, T, r, ld, nd⟩ := R
  by_cases hk : k ∈ l
  · rw [if_pos hk] at hQ
    have sc : (Value.str k tk).scannable = true := rfl
    have hz : D.1.size < scanBound := by rw [T.sz]; omega
    unfold setAddHashed setAddHashedIn
    refine wpAny_holding (wpAny_bind (wpAny_setState_of ho rfl T.fit ?_))
    dsimp only
    rw [byScan_of sc hz T.el]
    simp only [↓reduceIte]
    unfold setAddByScan
    refine wpAny_bind (wpAny_bind (wpAny_rule ?_))
    refine wpAny_bind (wpAny_setScan_of (is_str (P := P) (w := w) k tk) ho rfl T.fit T.el ?_)
    obtain ⟨e, he, q⟩ := (T.mem k).mp hk
    cases hf : List.findIdx? (fun e => (PySem.strKind P w).is k e.2) D.1.toList with
    | none =>
      have := List.findIdx?_eq_none_iff.mp hf e he
      rw [q] at this
      cases this
    | some j =>
      dsimp only
      exact wpAny_pure (wpAny_pure (hQ s.heap _ (Heap.SameBut.refl a s.heap) ⟨D, ho, T, r, ld, nd⟩))
  · rw [if_neg hk] at hQ
    refine add_x ho T hk room (hQ _ _ (Heap.SameBut.update _ _ _) ⟨_, get_upd _ ho rfl, add_ok tk T, addTx_ris r, by rw [addTx_led]; exact ld, List.nodup_cons.mpr ⟨hk, nd⟩⟩)
theorem setS_update {I : Addr} {fp wr : List Addr} {G : Array GenState → Array GenState → Prop} {n : Nat} {Pv : Nat → Value → Prop} {St : Nat → Shared → Prop} {R : Result → Shared → Prop}
    (W : WalksS P w A.in1 I fp wr G n Pv St) (S : Addr) (hSf : S ∉ fp) (xs : List Str) (hn : n = xs.length) (hb : xs.length + 1 < scanBound) (hval : ∀ i v, Pv i v → ∃ k t, xs[i]? = some k ∧ v = .str k t) :
    ∀ (m i : Nat) (s : Shared), n - i = m → i ≤ n → St i s → (∃ l : List Str, l.length ≤ i ∧ (∀ x, x ∈ l ↔ x ∈ xs.take i) ∧ SetS P w s.heap S l) →
      (∀ s' l, Moved (S :: wr) G s s' → l.length ≤ n → (∀ x, x ∈ l ↔ x ∈ xs) → SetS P w s'.heap S l → R (.ok (.ret .none)) s') →
      codeAny (model P w) A (.builtin "set.update.loop" ⟨[.ref S, .ref I], []⟩) R s := by
  have hSw : S ∉ wr := fun h => hSf (W.sub _ h)
  have hsub : ∀ b ∈ wr, b ∈ S :: wr := fun b hb => List.mem_cons_of_mem _ hb
  intro m
  induction m with
  | zero =>
    intro i s hk hi hst ⟨l, hl, hm, hS⟩ hR
    obtain rfl : i = n := by omega
    refine codeAny_builtin F.entry_set_update_loop ?_
    rw [Around.under_plainId F.plain_set_update_loop _]
    show wpAny _ A.in1 (pyNext (.ref I) >>= _) _ _ s
    refine wpAny_bind (W.done s _ _ hst fun s' mv => ?_)
    show wpAny _ A.in1 (ret Value.none) _ _ s'
    rw [List.take_of_length_le (by omega)] at hm
    exact wpAny_pure (hR s' l (mv.mono hsub) hl hm (hS.at fun o e => mv.heap S o hSw e))
  | succ m ih =>
    intro i s hk hi hst ⟨l, hl, hm, hS⟩ hR
    have hlt : i < n := by omega
    refine codeAny_builtin F.entry_set_update_loop ?_
    rw [Around.under_plainId F.plain_set_update_loop _]
    show wpAny _ A.in1 (pyNext (.ref I) >>= _) _ _ s
    refine wpAny_bind (W.item i s _ _ hlt hst fun v s' hP hst' mv => ?_)
    obtain ⟨z, t, hz, rfl⟩ := hval i v hP
    show wpAny _ A.in1 (holding [Value.str z t] (setAdd S (.str z t)) >>= _) _ _ s'
    refine wpAny_bind (wpAny_holding ?_)
    unfold setAdd
    refine wpAny_holding ?_
    refine wpAny_bind ((PySem.strKind P w).pyHash (k := z) (is_str z t) ?_)
    refine setS_add (s := { s' with toks := s'.toks + 1 }) (hS.at fun o e => mv.heap S o hSw e) (by omega) fun h' b sb hS2 => ?_
    have hm2 : ∀ x, x ∈ (if z ∈ l then l else z :: l) ↔ x ∈ xs.take (i + 1) := fun x => by
      rw [List.take_add_one, hz]
      by_cases hzl : z ∈ l
      · rw [if_pos hzl, List.mem_append, ← hm x]
        exact ⟨.inl, fun q => q.elim id fun q => by rw [List.mem_singleton.mp q]; exact hzl⟩
      · rw [if_neg hzl, List.mem_append, ← hm x, List.mem_cons]
        exact ⟨fun q => q.elim (fun q => .inr (List.mem_singleton.mpr q)) .inl, fun q => q.elim .inr fun q => .inl (List.mem_singleton.mp q)⟩
    have hl2 : (if z ∈ l then l else z :: l).length ≤ i + 1 := by
      split
      · omega
      · rw [List.length_cons]; omega
    refine wpAny_pure ⟨plainId_quiet F.plain_set_update_loop _, ih (i + 1) _ (by omega) hlt (W.frame _ s' _ _ hst' (Nat.le_succ _) fun b hb o e => ?_) ⟨_, hl2, hm2, hS2⟩ fun s'' l2 mv2 h1 h2 h3 => ?_⟩
    · rw [sb.2 b (fun z : b = S => hSf (by rw [← z]; exact hb))]; exact e
    · refine hR s'' l2 (Moved.trans W.gtrans ((mv.mono hsub).then_heap (Nat.le_succ _) fun b o hb e => ?_) mv2) h1 h2 h3
      rw [sb.2 b (fun z : b = S => hb (by rw [z]; exact List.mem_cons_self))]; exact e
set_option maxHeartbeats 3200000 in
theorem mk_setT {l : Addr} {its : Array Value} (ns : List Str) {Q : Value → Shared → Prop} (hA : A.handled = none) (hL : s.heap.IsList l its) (hI : StrsAre its.toList ns) (room : ns.length + 1 < scanBound)
    (fin : ∀ (h2 : Heap) (tk : Nat) (l : List Str), SetS P w h2 s.heap.objs.size l → (∀ x, x ∈ l ↔ x ∈ ns) → l.length ≤ ns.length → (∀ b o, s.heap.get? b = some o → h2.get? b = some o) → Q (.ref s.heap.objs.size) { s with heap := h2, toks := tk }) :
    wpAny (model P w) A (call (.type "set") [.ref l]) Q E s := by
  have len : its.size = ns.length := by rw [← Array.length_toList]; exact StrsAre.length hI
  obtain ⟨c0, t0, mro⟩ := PySem.F.called_set.mro
  have u1 := PySem.F.called_set.made
  have u2 := PySem.F.called_set.sub
  have u3 := PySem.F.called_set.notType
  have u4 := PySem.F.called_set.canCreate
  have u5 := PySem.F.typeCall_set_1 (.ref l)
  refine wpAny_call (codeAny_of_tree ?_)
  show wpAny _ _ (callAny (.type "set") _) _ _ _
  refine wpAny_pure ⟨Code.quiet_builtin _ (by decide +kernel), codeAny_builtin PySem.F.entry_type_call ?_⟩
  rw [Around.under_plain (weight_type_call_type "set" [.ref l] []) rfl]
  repeat (any_goals (first | assumption | wp_step))
  -- the empty set is laid
  generalize hN : ({ cls := .type "set", dict := none, data := .set #[] 0 (.fresh 0 0 (!w.params.followText "set-order")) } : Obj) = N
  refine codeAny_mono (code_set_led1 (.ref l) (E := E) (Q₁ := fun x z => x = .ref s.heap.objs.size ∧ z = { s with heap := s.heap.push N }) ⟨rfl, by rw [hN]⟩) fun r z hr => ?_
  match r, hr with
  | .error e, hr => exact hr
  | .ok .next, hr => exact hr.elim
  | .ok .brk, hr => exact hr.elim
  | .ok .cont, hr => exact hr.elim
  | .ok (.ret x), hr =>
    obtain ⟨rfl, rfl⟩ := hr
    have at0 : (s.heap.push N).get? s.heap.objs.size = some N := Heap.get?_push_size _ (by rw [← hN]; rfl)
    have isSet : Shared.TypeIs { s with heap := s.heap.push N } (.ref s.heap.objs.size) "set" := ⟨_, at0, by rw [← hN]⟩
    have v1 := PySem.F.called_set.init.lookup
    have v2 := PySem.F.called_set.init.bind (.ref s.heap.objs.size)
    repeat (any_goals (first | assumption | wp_step))
    refine codeAny_mono (codeAny_call_builtin (R := wants (fun r z => r = .none ∧ ∃ h2 tk l, z = { s with heap := h2, toks := tk } ∧ SetS P w h2 s.heap.objs.size l ∧ (∀ x, x ∈ l ↔ x ∈ ns) ∧ l.length ≤ ns.length ∧ ∀ b o, s.heap.get? b = some o → h2.get? b = some o) E)
      PySem.F.called_set.init.plain PySem.F.entry_set_init (check_set_init_1 isSet ?_)) fun r z hr => ?_
    · -- the items are laid in, one by one
      subst hN
      obtain ⟨⟨ocl, odi, oda, osl⟩, at1, e1, n1, e2⟩ := id hL
      simp only at e1 e2
      subst e1; subst e2
      have at2 : (s.heap.push { cls := .type "set", dict := none, data := .set #[] 0 (.fresh 0 0 (!w.params.followText "set-order")) }).get? l = some { cls := .type "list", dict := odi, data := .seq its n1, slots := osl } := Heap.get?_push_of_some _ at1
      have x1 := PySem.F.sub_list_set
      have x2 := PySem.F.sub_list_frozenset
      have x3 : (Value.type "list" == Value.type "dict") = false := by decide
      have lst1 : (s.heap.push { cls := .type "set", dict := none, data := .set #[] 0 (.fresh 0 0 (!w.params.followText "set-order")) }).IsList l its := ⟨_, at2, rfl, n1, rfl⟩
      unfold Builtin.«set.__init__» noKeywords Builtin.Frozenset.updateFrom
      generalize hp : pyIter = pit
      wp_walk
      subst hp
      refine wpAny_pyIter_list lst1 ?_
      refine wpAny_bind (wpAny_runValue ?_)
      have below : l < s.heap.objs.size := Heap.lt_size at1
      have size1 : ∀ o, (s.heap.push o).objs.size = s.heap.objs.size + 1 := fun o => Heap.size_push ..
      have nl : ∀ o, l ≠ (s.heap.push o).objs.size := fun o => by rw [size1]; exact Nat.ne_of_lt (Nat.lt_succ_of_lt below)
      have nS : ∀ o, s.heap.objs.size ∉ [(s.heap.push o).objs.size, l] := fun o z => by
        rcases List.mem_cons.mp z with z | z
        · rw [size1] at z; exact absurd z (Nat.ne_of_lt (Nat.lt_succ_self _))
        · exact absurd (List.mem_singleton.mp z) (Nat.ne_of_gt below)
      have vals : ∀ (i : Nat) (v : Value), its[i]? = some v → ∃ k t, ns[i]? = some k ∧ v = .str k t := fun i v hv => by
        have hi : i < ns.length := by rw [← len]; exact (Array.getElem?_eq_some_iff.mp hv).1
        obtain ⟨t, e⟩ := SS.strs_at hI i v (by rw [Array.getElem?_toList]; exact hv)
        exact ⟨ns[i], t, List.getElem?_eq_getElem hi, by rw [e, List.getD_eq_getElem?_getD, List.getElem?_eq_getElem hi]; rfl⟩
      refine setS_update ((Walks.list (by simp [hA]) _ l (nl _) its).toS) s.heap.objs.size (nS _) ns len room vals (its.size - 0) 0 _ (by omega) (Nat.zero_le _) ⟨⟨_, Heap.get?_push_size _ rfl, rfl, rfl⟩, lst1.push _⟩ ?_ ?_
      · refine ⟨[], Nat.le_refl 0, fun x => by simp, (#[], 0, .fresh 0 0 (!w.params.followText "set-order")), Heap.get?_push_of_some _ at0, TxOk.nil rfl, List.Pairwise.nil, ?_, List.nodup_nil⟩
        show _ ∨ (!w.params.followText "set-order") = true
        cases w.params.followText "set-order"
        · exact .inr rfl
        · exact .inl rfl
      · rintro ⟨h3, g3, d3, t3, o3⟩ l mv hc hm hS
        have q1 : g3 = s.gens := mv.gens
        have q2 : d3 = s.drawn := mv.drawn
        have q3 : o3 = s.os := mv.os
        subst q1 q2 q3
        show wpAny _ _ _ _ _ _
        refine wpAny_pure ?_
        show wpAny _ _ (ret Value.none) _ _ _
        refine wpAny_pure ⟨rfl, h3, t3, l, rfl, hS, hm, by rw [← len]; exact hc, fun b o e => ?_⟩
        have hb := Heap.lt_size e
        refine mv.heap b o (fun z => ?_) (Heap.get?_push_of_some _ (Heap.get?_push_of_some _ e))
        rcases List.mem_cons.mp z with z | z
        · exact absurd z (Nat.ne_of_lt hb)
        · rw [List.mem_singleton.mp z, size1] at hb
          exact absurd hb (Nat.not_lt_of_le (Nat.le_succ _))
    · match r, hr with
      | .error e, hr => exact hr
      | .ok .next, hr => exact hr.elim
      | .ok .brk, hr => exact hr.elim
      | .ok .cont, hr => exact hr.elim
      | .ok (.ret x), hr =>
        obtain ⟨rfl, h3, t3, l, rfl, hS, hm, hc, hk⟩ := hr
        repeat (any_goals (first | assumption | wp_step))
        exact fin _ _ _ hS hm hc hk
end
end Lw
namespace Lw
open PySem PySem.Spec PySem.Froz PyProof.Rows L2
theorem perm_full : ∀ {l k : List Str}, l.Nodup → (∀ x ∈ l, x ∈ k) → k.length ≤ l.length → k.Perm l
  | [], k, _, _, h => by
    have : k = [] := List.length_eq_zero_iff.mp (by simpa using h)
    rw [this]
  | x :: r, k, nd, h, hl => by
    rw [List.nodup_cons] at nd
    have hx := h x List.mem_cons_self
    have p := List.perm_cons_erase hx
    have ih := perm_full (l := r) (k := k.erase x) nd.2 (fun y hy => (List.mem_erase_of_ne (fun z => nd.1 (by rw [← z]; exact hy))).mpr (h y (List.mem_cons_of_mem _ hy))) (by
      have := p.length_eq
      simp only [List.length_cons] at this hl
      omega)
    exact p.trans (ih.cons x)
/-- the set of texts at a -/
def SetTO (P : Program) (w : World) (a : Addr) (l : List Str) : HO := .ext fun h => SetS P w h a l
theorem setTO_new {w : World} {P : Program} {H : Hp} {h : Heap} {a : Addr} {l : List Str} (R : SetS P w h a l) : ObjOk P w H h a (SetTO P w a l) := by
  have ⟨_, ho, _⟩ := R
  exact ⟨R, ⟨_, ho⟩, fun h1 h2 p k => SetS.at p k⟩
/-- set(xs), texts -/
def rSetT (P : Program) (w : World) (K : PySem.W.Frag) : List V → Hp → VK → Prop := fun vs H Q => ∃ (a : Addr) (ns : List Str), vs = [V.ref a] ∧ SqL K H a (ns.map V.str) ∧ ns.length ≤ 1000 ∧
  ∀ (l : List Str) (p : Addr), (∀ x, x ∈ l ↔ x ∈ ns) → l.Nodup → l.length ≤ ns.length → H p = none → Q (.ref p) (upd H p (SetTO P w p l))
/-- sorted(a set of texts) -/
def rSortedST (P : Program) (w : World) : List V → Hp → VK → Prop := fun vs H Q => ∃ (a : Addr) (l : List Str), vs = [V.ref a] ∧ H a = some (SetTO P w a l) ∧ l.length ≤ 1000 ∧ ∀ p, H p = none → Q (.ref p) (upd H p (.lst ((Ak.sortT l).map V.str)))
section
variable {X : Cx} {K : PySem.W.Frag}
theorem cr_setT (h : X.K = K) (hc : X.calm = true) : CallR X (.type "set") (rSetT X.prog X.w K) := by
  subst h
  intro pins s σ H xs us Q I r hq
  obtain ⟨a, ns, rfl, hS, hl, q⟩ := hq
  rw [Vals.ref1 r]
  obtain ⟨its, rv, pl, hz⟩ := I.list hS
  refine mk_setT ns (I.ok.hd hc) pl.isList (by simpa using rv.strs) (by unfold scanBound; omega) fun h2 tk l R hm hn keep => ?_
  have nd : l.Nodup := by
    obtain ⟨_, _, _, _, _, nd⟩ := R
    exact nd
  exact ⟨.ref _, upd H s.heap.objs.size (SetTO X.prog X.w s.heap.objs.size l), I.laid (t' := tk) keep (Nat.le_refl _) (setTO_new R), rfl, q l _ hm nd hn (I.hok.fresh (Nat.le_refl _))⟩
theorem strs_of : ∀ (l : List Value), (∀ v ∈ l, ∃ k tk, v = Value.str k tk) → StrsAre l (l.map fun v => match v with | .str k _ => k | _ => Str.empty)
  | [], _ => .nil
  | v :: l, h => by
    obtain ⟨k, tk, rfl⟩ := h v List.mem_cons_self
    exact .cons k tk (strs_of l fun u hu => h u (List.mem_cons_of_mem _ hu))
theorem cr_sortedST (hc : X.calm = true) : CallR X (.builtin "sorted") (rSortedST X.prog X.w) := by
  intro pins s σ H vs us Q I r h
  obtain ⟨a, l, rfl, ha, hll, q⟩ := h
  rw [Vals.ref1 r]
  obtain ⟨D, ho, T, hr, hld, hnd⟩ := (I.hok a _ ha).1
  have hz : D.1.size < scanBound := by rw [T.sz]; unfold scanBound; omega
  refine Calls.call_function_entry kind_sorted plain_sorted entry_sorted (args_sorted1 _) ?_
  unfold Builtin.«sorted»
  refine wpAny_bind (m := checkCount "sorted" 1 1 _) (wpAny_pure ?_)
  refine wpAny_bind (collect_set (A := X.A.in1) (I.ok.hd hc) ⟨_, ho, rfl, rfl⟩ T.fit hz hr hld fun s1 vs k1 hsz g1 o1 pm => ?_)
  have hvl : vs.length = l.length := by rw [pm.length_eq, List.length_map, Array.length_toList]; exact T.sz
  have str : ∀ v ∈ vs, ∃ k tk, v = Value.str k tk ∧ k ∈ l := fun v hv => by
    obtain ⟨e, he, rfl⟩ := List.mem_map.mp (pm.mem_iff.mp hv)
    obtain ⟨⟨k, h1, h2⟩, _⟩ := T.el e he
    obtain ⟨tk, e2⟩ := Value.isStrOf_shape h1
    exact ⟨k, tk, e2, (T.mem k).mpr ⟨e, he, h1⟩⟩
  have hI : StrsAre vs (vs.map fun v => match v with | .str k _ => k | _ => Str.empty) := strs_of vs fun v hv => by
    obtain ⟨k, tk, e, _⟩ := str v hv
    exact ⟨k, tk, e⟩
  have sub : ∀ x ∈ l, x ∈ vs.map fun v => match v with | .str k _ => k | _ => Str.empty := fun x hx => by
    obtain ⟨e, he, h1⟩ := (T.mem x).mp hx
    obtain ⟨tk, e2⟩ := Value.isStrOf_shape h1
    exact List.mem_map.mpr ⟨e.2, pm.mem_iff.mpr (List.mem_map.mpr ⟨e, he, rfl⟩), by rw [e2]⟩
  have pl := perm_full hnd sub (by rw [List.length_map, hvl]; exact Nat.le_refl _)
  generalize (vs.map fun v => match v with | .str k _ => k | _ => Str.empty) = ys at hI pl
  refine wpAny_bind (wpAny_newList ?_ (by rw [hvl, sizeLine_eq]; omega))
  have hoL : (s1.heap.push (seqObj "list" vs.toArray 0)).get? s1.heap.objs.size = some (seqObj "list" vs.toArray 0) := Heap.get?_push_size _ rfl
  refine wpAny_bind (wpAny_holding (wpAny_call_entry slot_list_sort ⟨_, hoL, rfl⟩ entry_list_sort (list_sort_treeKAny strKind_oneLt hoL hI.keysOf (fun v₁ v₂ rest e => keyKind_strs (by rw [← e]; exact hI)) (by rw [hvl, sizeLine_eq]; omega) fun st' hp hs => ⟨_, rfl, ?_⟩) (args_list_sort _)))
  obtain ⟨ss, a1, a2, a3⟩ := sorted_out_str hI hp hs
  obtain ⟨c, hcc⟩ := sortedHeap_at (vs := vs) (out := (arrOf st').map (·.2)) hoL
  have es : ss = Ak.sortT l := Ak.sortT_eq (a2.trans pl) a3
  have hlen : ((Ak.sortT l).map V.str).length ≤ sizeLine := by rw [List.length_map, (Ak.sortT_perm l).length_eq, sizeLine_eq]; omega
  have hn : H s1.heap.objs.size = none := I.hok.fresh hsz
  have kp : ∀ b u, s.heap.get? b = some u → (sortedHeap (s1.heap.push (seqObj "list" vs.toArray 0)) s1.heap.objs.size vs ((arrOf st').map (·.2))).get? b = some u := fun b u e => by
    have q := k1 b u e
    have hlt := Heap.lt_size q
    rw [sortedHeap_old (Nat.ne_of_lt hlt) (by rw [size_push']; exact Nat.lt_succ_of_lt hlt)]
    exact Heap.get?_push_of_some _ q
  rw [es] at a1
  have J : Inv X pins σ (upd H s1.heap.objs.size (.lst ((Ak.sortT l).map V.str))) { s with heap := sortedHeap (s1.heap.push (seqObj "list" vs.toArray 0)) s1.heap.objs.size vs ((arrOf st').map (·.2)), gens := s1.gens, drawn := s1.drawn, toks := s1.toks } :=
    I.call (ch := []) (Un.laid kp hsz hn) (I.hok.laid kp hsz ⟨hlen, ((arrOf st').map (·.2)).toList, c, vals_of_strs a1, hcc⟩) (by rw [g1]; exact I.bare) (fun _ z => nomatch z)
  have e : ({ s1 with heap := sortedHeap (s1.heap.push (seqObj "list" vs.toArray 0)) s1.heap.objs.size vs ((arrOf st').map (·.2)) } : Shared) = { s with heap := sortedHeap (s1.heap.push (seqObj "list" vs.toArray 0)) s1.heap.objs.size vs ((arrOf st').map (·.2)), gens := s1.gens, drawn := s1.drawn, toks := s1.toks } := by
    cases s1
    cases s
    cases o1
    rfl
  refine wpAny_pure ⟨_, rfl, ?_⟩
  rw [e]
  exact ⟨.ref s1.heap.objs.size, _, J, rfl, q _ hn⟩
end
end Lw
namespace Shp
open PySem
def nx1 (l : List Int) (i : Nat) : Int := l.getD i 0 + (if i + 1 < l.length then ((i + 1 : Nat) : Int) * l.getD (i + 1) 0 else 0)
def nextC (l : List Int) : List Int := 0 :: (List.range l.length).map (nx1 l)
def divC : Nat → List Int
  | 0 => [1]
  | n + 1 => nextC (divC n)
theorem divC_len : ∀ n, (divC n).length = n + 1
  | 0 => rfl
  | n + 1 => by rw [divC, nextC, List.length_cons, List.length_map, List.length_range, divC_len n]
theorem getD_bd {l : List Int} {M : Int} (h : ∀ x ∈ l, 0 ≤ x ∧ x ≤ M) (hM : 0 ≤ M) (i : Nat) : 0 ≤ l.getD i 0 ∧ l.getD i 0 ≤ M := by
  rw [List.getD_eq_getElem?_getD]
  cases e : l[i]? with
  | none => exact ⟨Int.le_refl _, hM⟩
  | some x => exact h x (List.mem_of_getElem? e)
theorem divC_bd : ∀ n, n ≤ 400 → ∀ x ∈ divC n, 0 ≤ x ∧ x ≤ 512 ^ n
  | 0, _, x, h => by rw [List.mem_singleton.mp h]; decide
  | n + 1, hn, x, h => by
    have hM : (0 : Int) ≤ 512 ^ n := Int.pow_nonneg (by decide)
    have e : (512 : Int) ^ (n + 1) = 512 ^ n * 512 := Int.pow_succ 512 n
    have ih := fun i => getD_bd (divC_bd n (by omega)) hM i
    rcases List.mem_cons.mp h with rfl | h
    · refine ⟨Int.le_refl _, ?_⟩
      rw [e]; omega
    · obtain ⟨i, hi, rfl⟩ := List.mem_map.mp h
      rw [List.mem_range, divC_len] at hi
      have h1 := ih i
      unfold nx1
      split
      · have h2 := ih (i + 1)
        have h3 : ((i + 1 : Nat) : Int) * (divC n).getD (i + 1) 0 ≤ 401 * 512 ^ n := Int.mul_le_mul (by omega) h2.2 h2.1 (by decide)
        have h4 : 0 ≤ ((i + 1 : Nat) : Int) * (divC n).getD (i + 1) 0 := Int.mul_nonneg (by omega) h2.1
        rw [e]; omega
      · rw [e]; omega
theorem divC_nat {n : Nat} (hn : n ≤ 400) (i : Nat) : ((divC n).getD i 0).natAbs < 2 ^ (9 * n + 1) := by
  have h := getD_bd (divC_bd n hn) (Int.pow_nonneg (by decide)) i
  have e : ((512 ^ n : Int)) = ((2 ^ (9 * n) : Nat) : Int) := by rw [Nat.pow_mul]; push_cast; rfl
  rw [e] at h
  have : (2 : Nat) ^ (9 * n + 1) = 2 ^ (9 * n) * 2 := Nat.pow_succ _ _
  have : 0 < (2 : Nat) ^ (9 * n) := Nat.pow_pos (by decide)
  omega
def ways (hs : Int) (o : Bool) : Nat → Int
  | 0 => 1
  | i + 1 => if o then ways hs o i * hs * ((i + 1 : Nat) : Int) else ways hs o i * hs
theorem ways_nat {hs : Int} (h : hs.natAbs < 2 ^ 61) (o : Bool) : ∀ i, i ≤ 400 → (ways hs o i).natAbs < 2 ^ (70 * i + 1)
  | 0, _ => by rw [ways]; decide
  | i + 1, hi => by
    have ih := ways_nat h o i (by omega)
    have h1 := L2.wide_lt ih h
    rw [ways]
    split
    · have h2 : (((i + 1 : Nat) : Int)).natAbs < 2 ^ 9 := by rw [Int.natAbs_natCast]; omega
      have h3 := L2.wide_lt h1 h2
      rw [show 70 * (i + 1) + 1 = 70 * i + 1 + 61 + 9 by omega]; exact h3
    · exact Nat.lt_of_lt_of_le h1 (Nat.pow_le_pow_right (by decide) (by omega))
def tot (l : List Int) (hs : Int) (o : Bool) : Nat → Int
  | 0 => 0
  | i + 1 => tot l hs o i + l.getD i 0 * ways hs o i
def wgt (t h w : Nat) (o : Bool) : Int := tot (divC t) (2 ^ h) o (t + 1) * 2 ^ w
def depthN (t w : Nat) : Int := 5 * t + 2 * w + t * (t - 1) + 6
end Shp
section
open PySem PySem.Spec PyProof.Rows L2 Lw
local macro_rules | `(tactic| walk_at "look") => `(tactic| first
  | assumption
  | with_reducible exact upd_same
  | with_reducible exact rg_st
  | with_reducible exact rg_g (by assumption)
  | (with_reducible refine upd_old (by assumption) ?_; walk_at "look")
  | (with_reducible refine rg_get (by assumption) ?_; walk_at "look")
  | (with_reducible refine Same.get (by assumption) ?_; walk_at "look"))
local macro_rules | `(tactic| walk_at "cond") => `(tactic| first
  | (show _ ≠ _; omega) | exact cdivN (by omega) (by omega) | exact cmul_mod (by decide) (by decide) | exact cmulR (by omega) (by omega) | exact cmulL (by omega) (by omega) | exact cpow (by omega) (by omega) (by omega) (by omega) | (show (0:Int) ≤ _; omega))
local macro_rules | `(tactic| walk_at "at") => `(tactic| first | assumption | with_unfolding_all rfl)
local macro_rules | `(tactic| walk_at "sz") => `(tactic| first | assumption | (refine small ?_; omega) | (refine small ?_; simp only [List.length_map, List.length_append, List.length_cons, List.length_nil]; omega))
local macro_rules | `(tactic| walk_at "len") => `(tactic| first | exact size_nil | exact Nat.le_of_lt (small (by simp only [List.length_cons, List.length_nil, List.length_map]; omega)))
local macro_rules | `(tactic| walk_at "newD") => `(tactic| (refine ⟨by walk_at "len", fun p np => ?_⟩; obtain ⟨e, o', hD', n', ne'⟩ := newTD_eq (topRg _ _) (by assumption) (by assumption) np (.lst _); rw [e]; clear e))
local macro_rules | `(tactic| walk_at "new") => `(tactic| (refine ⟨by walk_at "len", fun p np => ?_⟩; obtain ⟨e, o', n'⟩ := newT_eq (topRg _ _) (by assumption) np (.lst _); rw [e]; clear e))
local macro_rules | `(tactic| walk_at "st") => `(tactic| first
  | with_reducible refine r_seq ?_
  | with_reducible refine r_var rfl ?_
  | with_reducible refine r_c ?_
  | with_reducible refine r_asg ?_
  | (with_reducible refine r_name ?_; dsimp only [List.set_cons_zero, List.set_cons_succ])
  | with_reducible refine r_sub ?_
  | with_reducible refine r_op ?_
  | with_reducible refine r_i0 ?_
  | (with_reducible refine' r_i ?k1 ?_; (case k1 => walk_at "cond"))
  | with_reducible refine r_cons ?_
  | with_reducible refine r_nil ?_
  | with_reducible refine r_cb ?_
  | with_reducible refine r_call ?_
  | with_reducible refine r_ifs ?_
  | with_reducible refine r_test ?_
  | with_reducible refine r_tB ?_
  | with_reducible refine r_bl ?_
  | with_reducible refine r_ret ?_
  | with_reducible refine r_drop ?_
  | with_reducible refine r_next ?_
  | (with_reducible refine' r_ixL ?k1 ?k2 ?_; (case k1 => walk_at "look"); (case k2 => walk_at "at"))
  | (with_reducible refine' r_setL ?k1 ?k2 ?_; (case k1 => walk_at "look"); (case k2 => walk_at "at"))
  | (with_reducible refine' r_tup (SqT.of ?k1) ?k2 ?_; (case k1 => walk_at "look"); (case k2 => rfl))
  | with_reducible refine r_gcons ?_
  | with_reducible refine r_gnil ?_
  | with_reducible refine r_aug rfl ?_
  | with_reducible refine r_augS ?_
  | with_reducible refine r_ipI ?_
  | with_reducible refine r_un ?_
  | with_reducible refine r_u ?_
  | with_reducible refine r_eq rfl ?_
  | with_reducible refine r_ne rfl ?_
  | with_reducible refine r_chain ?_
  | with_reducible refine iteF ?_
  | with_reducible refine r_not ?_
  | with_reducible refine r_and ?_
  | with_reducible refine r_or ?_
  | with_reducible refine r_andV ?_
  | with_reducible refine r_orV ?_
  | with_reducible refine r_notV ?_
  | with_reducible refine r_lst ?_
  | with_reducible refine r_bm ?_
  | with_reducible refine r_bm0 ?_
  | (with_reducible refine' And.intro (r_ty ?k1) ?_; (case k1 => walk_at "look"))
  | (with_reducible refine' r_append ?k1 ?k2 ?_; (case k1 => walk_at "look"); (case k2 => walk_at "sz"))
  | (with_reducible refine' r_lenK ?k1 ?_; (case k1 => walk_at "look"))
  | (with_reducible refine' r_listOf ?k1 ?_; (case k1 => walk_at "look"))
  | (with_reducible refine' r_sortedI ?k1 ?_; (case k1 => walk_at "look"))
  | (with_reducible refine' r_sum ?k1 ?_; (case k1 => walk_at "look"))
  | with_reducible refine r_int ?_
  | (with_reducible refine' r_draw (by assumption) ?k1 ?k2 ?_; (case k1 => omega); (case k2 => omega); intro R' n' o' h' h'')
  | with_reducible refine iteT ?_
  | with_reducible refine r_revL ?_
  | with_reducible refine r_lc ?_
  | with_reducible refine r_yes ?_
  | with_reducible refine r_sl ?_
  | with_reducible refine iteNTr ?_
  | with_reducible refine iteNFa ?_
  | with_reducible refine r_fld ?_
  | with_reducible refine r_sFld ?_
  | with_reducible refine r_meth ?_
  | with_reducible refine r_methT ?_
  | with_reducible refine r_prop ?_
  | with_reducible refine r_dget ?_
  | with_reducible refine r_dput ?_
  | with_reducible refine r_noPart ?_
  | with_reducible refine r_part ?_
  | with_reducible refine r_lc2 ?_
  | with_reducible refine r_callN ?_
  | with_reducible refine r_callD ?_
  | with_reducible refine r_tupE ?_
  | with_reducible refine r_rng2 ?_
  | with_reducible refine r_i1 ?_
  | (with_reducible refine' r_slL ?k1 ?_; (case k1 => walk_at "look"))
  | with_reducible refine r_for ?_
  | with_reducible refine r_iList ?_
  | with_reducible refine r_rng1 ?_
  | with_reducible refine r_enum ?_
  | (with_reducible show Ends.nx _ _ _; dsimp only)
  | (with_reducible show Ends.rt _ _ _; dsimp only)
  | (with_reducible show Ends.ct _ _ _; dsimp only)
  | (with_reducible show Ends.bk _ _ _; dsimp only))
local macro_rules | `(tactic| walk_at "go") => `(tactic| repeat (walk_at "st"))
local macro_rules | `(tactic| walk_at "begin") => `(tactic| dsimp only [cxOf, wipe, L2.start, List.map, List.length_cons, List.length_nil, Nat.reduceAdd, Nat.reduceSub, List.replicate, List.cons_append, List.nil_append])
namespace K16
open PySem PySem.Spec PyProof.Rows L2 Lw
open Shp (divC nextC nx1 ways tot wgt depthN)
def spDC : Sp := fun vs H Q _ => ∃ n : Nat, vs = [.int ((n : Nat) : Int)] ∧ n ≤ 400 ∧ ∀ H' p, Same H H' → H' p = some (.lst ((divC n).map V.int)) → H p = none → Q (.ref p) H'
def spDb : Sp := fun vs H Q _ => ∃ (a : Int) (n : Nat), vs = [.int a, .int ((n : Nat) : Int)] ∧ n ≤ 1000 ∧ Q (.int (a * 2 ^ n)) H
def spWo : Sp := fun vs H Q _ => ∃ (t h w : Nat) (o : Bool), vs = [.int ((t : Nat) : Int), .int ((h : Nat) : Int), .int ((w : Nat) : Int), .bl o] ∧ t ≤ 400 ∧ h ≤ 60 ∧ w ≤ 1000 ∧ ∀ H', Same H H' → Q (.int (wgt t h w o)) H'
def spDo : Sp := fun vs H Q _ => ∃ t w : Nat, vs = [.int ((t : Nat) : Int), .int ((w : Nat) : Int)] ∧ t ≤ 1000 ∧ w ≤ 1000 ∧ Q (.int (depthN t w)) H
theorem r_tIf {tc : TT} {ta tb : TE} {σ : L2.St} {H : Hp} {Q : VK} (h : tc σ H fun b H1 => if b = true then ta σ H1 Q else tb σ H1 Q) : tIf tc ta tb σ H Q := h
theorem at_int {xs : List Int} {i : Nat} {x : Int} (h : xs[i]? = some x) : atI (xs.map V.int) (i : Int) = some (.int x) := atI_nat (by rw [List.getElem?_map, h]; rfl)
theorem at_getD {l : List Int} {i : Nat} (h : i < l.length) : atI (l.map V.int) ((i : Nat) : Int) = some (.int (l.getD i 0)) := at_int (by rw [List.getD_eq_getElem?_getD, List.getElem?_eq_getElem h]; rfl)
section
variable {P : Program} {w : World} {K : PySem.W.Frag} {mg : Str → Option Value} {base : Heap}
theorem ok_doubled {f : Addr} {fd : FuncData} (B : Blt mg) (D : Dn K mg "doubled" s_doubled ["number", "times"] f fd) : FnOk P w K mg base CX0 1 f fd ["number", "times"] spDb := by
  refine D.F.ok (k := 0) sc_doubled (fun vs H Q E h => ?_) (fun cdv A outer s H vs Q E hr h => ?_)
  · obtain ⟨a, n, rfl, _⟩ := h
    rfl
  · obtain ⟨a, n, rfl, hn, q⟩ := h
    refine ⟨_, (pss_cons (ps_set (i := 2) sc_doubled.nd rfl (.inl rfl) (pv 0))
      (pss_cons (ps_for PassesOwn.never rfl (pi_range1 (by rfl) B.m_range (pa_cons (pv 1) pa_nil)) (pg_name (i := 3) sc_doubled.nd rfl (.inl rfl)) (pss_one (ps_set (i := 2) sc_doubled.nd rfl (.inl rfl) (pe_op op_mul (pv 2) pe_int))))
      (pss_one (ps_ret (pv 2))))), ?_⟩
    walk_at "begin"
    walk_at "go"
    refine r_forR (by omega) (by omega) (fun i σ H1 => ∃ y3 : Option V, σ = [some (.int a), some (.int ((n : Nat) : Int)), some (.int (a * 2 ^ i)), y3] ∧ H1 = H) ?_ ?_ ?_
    · exact ⟨_, (by rw [Int.pow_zero, Int.mul_one]), rfl⟩
    · rintro i σ H1 hi ⟨y3, rfl, rfl⟩
      walk_at "go"
      exact ⟨_, (by rw [Int.pow_succ, Int.mul_assoc]), rfl⟩
    · rintro σ H1 ⟨y3, rfl, rfl⟩
      rw [Int.toNat_natCast]
      walk_at "go"
      exact q
theorem ok_depth {f : Addr} {fd : FuncData} (B : Blt mg) (D : Dn K mg "depth_of" s_depth_of ["things", "wides"] f fd) : FnOk P w K mg base CX0 1 f fd ["things", "wides"] spDo := by
  refine D.F.ok (k := 0) sc_depth_of (fun vs H Q E h => ?_) (fun cdv A outer s H vs Q E hr h => ?_)
  · obtain ⟨t, u, rfl, _⟩ := h
    rfl
  · obtain ⟨t, u, rfl, h1, h2, q⟩ := h
    refine ⟨_, (pss_one (ps_ret (pe_op op_add (pe_op op_add (pe_op op_add (pe_op op_mul pe_int (pv 0)) (pe_op op_mul pe_int (pv 1))) (pe_op op_mul (pv 0) (pe_op op_sub (pv 0) pe_int))) pe_int))), ?_⟩
    walk_at "begin"
    walk_at "go"
    exact q
theorem ok_divc {f : Addr} {fd : FuncData} (B : Blt mg) (D : Dn K mg "division_counts" s_division_counts ["things"] f fd) : FnOk P w K mg base CX0 1 f fd ["things"] spDC := by
  refine D.F.ok (k := 0) sc_division_counts (fun vs H Q E h => ?_) (fun cdv A outer s H vs Q E hr h => ?_)
  · obtain ⟨n, rfl, _⟩ := h
    rfl
  · obtain ⟨n, rfl, hn, q⟩ := h
    refine ⟨_, (pss_cons (ps_set (i := 1) sc_division_counts.nd rfl (.inl rfl) (pe_lst (pa_cons pe_int pa_nil)))
      (pss_cons (ps_for PassesOwn.never rfl (pi_range1 (by rfl) B.m_range (pa_cons (pv 0) pa_nil)) (pg_name (i := 2) sc_division_counts.nd rfl (.inl rfl)) (pss_cons (ps_set (i := 3) sc_division_counts.nd rfl (.inl rfl) (pe_lst (pa_cons pe_int pa_nil)))
      (pss_cons (ps_for PassesOwn.never rfl (pi_range2 (by rfl) B.m_range (pa_cons pe_int (pa_cons (pe_op op_add (pe_callB (call_len_seqK (K := K) rfl) (by rfl) B.m_len PySem.boot_len (pa_cons (pv 1) pa_nil)) pe_int) pa_nil))) (pg_name (i := 4) sc_division_counts.nd rfl (.inl rfl)) (pss_cons (ps_set (i := 5) sc_division_counts.nd rfl (.inl rfl) (pe_ifExp (pt_cmpR op_lt (pv 4) (pe_callB (call_len_seqK (K := K) rfl) (by rfl) B.m_len PySem.boot_len (pa_cons (pv 1) pa_nil)) (nomark _)) (pe_op op_mul (pv 4) (pe_ix (ix_listK (K := K) rfl) (pv 1) (pv 4) (fun _ _ => rfl))) pe_int))
      (pss_one (ps_expr (pe_bmK (K := K) rfl PySem.F.plainAttrs_list PySem.F.slot_list_append PySem.F.type_list_append mt_append (pv 3) (pa_cons (pe_op op_add (pe_ix (ix_listK (K := K) rfl) (pv 1) (pe_op op_sub (pv 4) pe_int) (fun _ _ => rfl)) (pv 5)) pa_nil))))))
      (pss_one (ps_set (i := 1) sc_division_counts.nd rfl (.inl rfl) (pv 3))))))
      (pss_one (ps_ret (pv 1))))), ?_⟩
    walk_at "begin"
    walk_at "go"
    refine ⟨by walk_at "len", fun p0 np0 => ?_⟩
    walk_at "go"
    refine r_forR (by omega) (by omega) (fun i σ H1 => ∃ (p : Addr) (y2 y3 y4 y5 : Option V), σ = [some (.int ((n : Nat) : Int)), some (.ref p), y2, y3, y4, y5] ∧ Same H H1 ∧ H1 p = some (.lst ((divC i).map V.int)) ∧ H p = none) ?_ ?_ ?_
    · exact ⟨p0, _, _, _, _, rfl, same_new np0, upd_same, np0⟩
    · rintro i σ H1 hi ⟨p, y2, y3, y4, y5, rfl, s1, hp, np⟩
      have hlen : ((divC i).map V.int).length = i + 1 := by rw [List.length_map, Shp.divC_len]
      rw [Int.toNat_natCast] at hi
      walk_at "go"
      refine ⟨by walk_at "len", fun l nl => ?_⟩
      have nl0 : H l = none := by
        cases e : H l with
        | none => rfl
        | some o => rw [s1 _ _ e] at nl; cases nl
      have hp2 := (same_new (o := HO.lst [V.int 0]) nl) _ _ hp
      walk_at "go"
      rw [hlen]
      refine ⟨1, _, rfl, by omega, ?_⟩
      rw [show ((i + 1 : Nat) : Int) + 1 - 1 = ((i + 1 : Nat) : Int) by omega, Int.toNat_natCast]
      refine for_range (fun j σ H2 => ∃ y4 y5 : Option V, σ = [some (.int ((n : Nat) : Int)), some (.ref p), some (.int ((i : Nat) : Int)), some (.ref l), y4, y5] ∧ H2 = upd H1 l (.lst ((0 :: (List.range j).map (nx1 (divC i))).map V.int))) ?_ ?_ ?_
      · exact ⟨_, _, rfl, rfl⟩
      · rintro j σ H2 hj ⟨y4, y5, rfl, rfl⟩
        have hl2 : (upd H1 l (.lst ((0 :: (List.range j).map (nx1 (divC i))).map V.int))) l = some (.lst ((0 :: (List.range j).map (nx1 (divC i))).map V.int)) := upd_same
        have hp3 := (same_new (o := HO.lst ((0 :: (List.range j).map (nx1 (divC i))).map V.int)) nl) _ _ hp
        generalize hH2 : upd H1 l (.lst ((0 :: (List.range j).map (nx1 (divC i))).map V.int)) = H2 at hl2 hp3 ⊢
        rw [show (1 : Int) + ((j : Nat) : Int) = ((j + 1 : Nat) : Int) by omega]
        have hfin : ∀ c : Int, c = (if j + 1 < (divC i).length then ((j + 1 : Nat) : Int) * (divC i).getD (j + 1) 0 else 0) →
            upd H2 l (.lst ((0 :: (List.range j).map (nx1 (divC i))).map V.int ++ [V.int ((divC i).getD j 0 + c)])) = upd H1 l (.lst ((0 :: (List.range (j + 1)).map (nx1 (divC i))).map V.int)) := by
          intro c hc
          rw [← hH2, upd_upd, List.range_succ]
          congr 2
          simp only [List.map_cons, List.map_append, List.map_nil, List.cons_append, nx1]
          rw [hc]
        have hsz : ((0 :: (List.range j).map (nx1 (divC i))).map V.int).length = j + 1 := by rw [List.length_map, List.length_cons, List.length_map, List.length_range]
        walk_at "go"
        refine r_tIf ?_
        walk_at "go"
        rw [hlen]
        refine r_ite (fun z => ?_) (fun z => ?_)
        · have hz : j + 1 < (divC i).length := by rw [Shp.divC_len]; omega
          walk_at "go"
          refine r_ixL hp3 (at_getD hz) ?_
          refine r_i (cmulL (by omega) (by omega)) ?_
          walk_at "go"
          rw [show ((j + 1 : Nat) : Int) - 1 = ((j : Nat) : Int) by omega]
          refine r_ixL hp3 (at_getD (by omega)) ?_
          walk_at "go"
          refine ⟨_, _, rfl, ?_⟩
          exact hfin _ (by rw [if_pos hz])
        · have hz : ¬ j + 1 < (divC i).length := by rw [Shp.divC_len]; omega
          walk_at "go"
          rw [show ((j + 1 : Nat) : Int) - 1 = ((j : Nat) : Int) by omega]
          refine r_ixL hp3 (at_getD (by rw [Shp.divC_len]; omega)) ?_
          walk_at "go"
          refine ⟨_, _, rfl, ?_⟩
          exact hfin _ (by rw [if_neg hz])
      · rintro σ H2 ⟨y4, y5, rfl, rfl⟩
        walk_at "go"
        refine ⟨l, _, _, _, _, rfl, s1.trans (same_new nl), ?_, nl0⟩
        rw [upd_same, divC, nextC, Shp.divC_len]
    · rintro σ H1 ⟨p, y2, y3, y4, y5, rfl, s1, hp, np⟩
      rw [Int.toNat_natCast] at hp
      walk_at "go"
      exact q H1 p s1 hp np
theorem ok_weight {f f1 f2 : Addr} {fd fd1 fd2 : FuncData} (B : Blt mg) (D : Dn K mg "weight_of" s_weight_of ["things", "holders", "wides", "ordered"] f fd) (Ddoubled : Dn K mg "doubled" s_doubled ["number", "times"] f1 fd1) (Gdoubled : FnOk P w K mg base CX0 1 f1 fd1 ["number", "times"] spDb)
    (Ddivision_counts : Dn K mg "division_counts" s_division_counts ["things"] f2 fd2) (Gdivision_counts : FnOk P w K mg base CX0 1 f2 fd2 ["things"] spDC) : FnOk P w K mg base CX0 2 f fd ["things", "holders", "wides", "ordered"] spWo := by
  refine D.F.ok (k := 1) sc_weight_of (fun vs H Q E h => ?_) (fun cdv A outer s H vs Q E hr h => ?_)
  · obtain ⟨t, h, u, o, rfl, _⟩ := h
    rfl
  · obtain ⟨t, h, u, o, rfl, ht, hh, hu, q⟩ := h
    refine ⟨_, (pss_cons (ps_set (i := 4) sc_weight_of.nd rfl (.inl rfl) (pe_call Gdoubled (hr.mono (by decide)) (by rfl) Ddoubled.g Ddoubled.F.kp Ddoubled.b .nil pass0 (pa_cons pe_int (pa_cons (pv 1) pa_nil))))
      (pss_cons (ps_set (i := 5) sc_weight_of.nd rfl (.inl rfl) pe_int)
      (pss_cons (ps_set (i := 6) sc_weight_of.nd rfl (.inl rfl) pe_int)
      (pss_cons (ps_for PassesOwn.never rfl (pi_enumK (K := K) rfl (by rfl) B.m_enumerate (pa_cons (pe_call Gdivision_counts (hr.mono (by decide)) (by rfl) Ddivision_counts.g Ddivision_counts.F.kp Ddivision_counts.b .nil pass0 (pa_cons (pv 0) pa_nil)) pa_nil)) (pg_tupK (K := K) (n := 2) rfl rfl (pgs_cons (pg_name (i := 7) sc_weight_of.nd rfl (.inl rfl)) (pgs_cons (pg_name (i := 8) sc_weight_of.nd rfl (.inl rfl)) pgs_nil))) (pss_cons (ps_if (pt_cmpR op_gt (pv 7) pe_int (nomark _)) (pss_cons (ps_set (i := 5) sc_weight_of.nd rfl (.inl rfl) (pe_op op_mul (pv 5) (pv 4)))
      (pss_one (ps_if (pt_val (pv 3)) (pss_one (ps_set (i := 5) sc_weight_of.nd rfl (.inl rfl) (pe_op op_mul (pv 5) (pv 7)))) pss_nil))) pss_nil)
      (pss_one (ps_set (i := 6) sc_weight_of.nd rfl (.inl rfl) (pe_op op_add (pv 6) (pe_op op_mulW (pv 8) (pv 5)))))))
      (pss_one (ps_ret (pe_call Gdoubled (hr.mono (by decide)) (by rfl) Ddoubled.g Ddoubled.F.kp Ddoubled.b .nil pass0 (pa_cons (pv 6) (pa_cons (pv 2) pa_nil))))))))), ?_⟩
    have hp2 : ((2 : Int) ^ h).natAbs < 2 ^ 61 := by
      rw [Int.natAbs_pow]
      exact Nat.lt_of_le_of_lt (Nat.pow_le_pow_right (by decide) hh) (by decide)
    walk_at "begin"
    walk_at "go"
    refine ⟨1, h, rfl, by omega, ?_⟩
    rw [Int.one_mul]
    generalize hhs : (2 : Int) ^ h = hs at hp2
    have hb : -18446744073709551616 < hs ∧ hs < 18446744073709551616 := by
      have hp3 : hs.natAbs < 2305843009213693952 := hp2
      omega
    walk_at "go"
    refine ⟨t, rfl, ht, fun H1 p s1 hp np => ?_⟩
    walk_at "go"
    have hlen : ((divC t).map V.int).length = t + 1 := by rw [List.length_map, Shp.divC_len]
    refine r_forE (xs := (divC t).map V.int) hp (fun i σ H2 => ∃ y7 y8 : Option V, σ = [some (.int ((t : Nat) : Int)), some (.int ((h : Nat) : Int)), some (.int ((u : Nat) : Int)), some (.bl o), some (.int hs), some (.int (ways hs o (i - 1))), some (.int (tot (divC t) hs o i)), y7, y8] ∧ Same H1 H2) ?_ (fun i σ H2 hi ⟨_, _, _, s2⟩ => s2 _ _ hp) ?_ ?_
    · exact ⟨_, _, rfl, Same.refl _⟩
    · rintro i x σ H2 tt hx ⟨y7, y8, rfl, s2⟩ ntt
      have hi : i < t + 1 := by rw [← hlen]; exact (List.getElem?_eq_some_iff.mp hx).1
      have hx2 : x = .int ((divC t).getD i 0) := by
        rw [List.getElem?_map, List.getElem?_eq_getElem (by rw [Shp.divC_len]; exact hi)] at hx
        rw [List.getD_eq_getElem?_getD, List.getElem?_eq_getElem (by rw [Shp.divC_len]; exact hi)]
        exact (Option.some.inj hx).symm
      subst hx2
      have s3 := s2.trans (same_new (o := HO.tup [V.int ((i : Nat) : Int), V.int ((divC t).getD i 0)]) ntt)
      have htt : (upd H2 tt (.tup [V.int ((i : Nat) : Int), V.int ((divC t).getD i 0)])) tt = some (.tup [V.int ((i : Nat) : Int), V.int ((divC t).getD i 0)]) := upd_same
      generalize upd H2 tt (.tup [V.int ((i : Nat) : Int), V.int ((divC t).getD i 0)]) = H3 at s3 htt ⊢
      have hd1 := Shp.divC_nat (n := t) ht i
      have hw1 := Shp.ways_nat hp2 o i (by omega)
      refine r_tup (SqT.of htt) rfl ?_
      walk_at "go"
      refine r_ite (fun z => ?_) (fun z => ?_)
      · obtain ⟨j, rfl⟩ : ∃ j, i = j + 1 := ⟨i - 1, by omega⟩
        rw [show j + 1 - 1 = j by omega]
        walk_at "go"
        cases o with
        | true =>
          walk_at "go"
          refine r_i (wide_mul hd1 (show (ways hs true j * hs * ((j + 1 : Nat) : Int)).natAbs < _ from hw1) (by omega) (by omega) (by omega)) ?_
          walk_at "go"
          exact ⟨_, _, rfl, s3⟩
        | false =>
          walk_at "go"
          refine r_i (wide_mul hd1 (show (ways hs false j * hs).natAbs < _ from hw1) (by omega) (by omega) (by omega)) ?_
          walk_at "go"
          exact ⟨_, _, rfl, s3⟩
      · obtain rfl : i = 0 := by omega
        walk_at "go"
        refine r_i (wide_mul hd1 (show (ways hs o 0).natAbs < _ from hw1) (by omega) (by omega) (by omega)) ?_
        walk_at "go"
        exact ⟨_, _, rfl, s3⟩
    · rintro σ H2 ⟨y7, y8, rfl, s2⟩
      rw [hlen]
      walk_at "go"
      refine ⟨_, u, rfl, hu, ?_⟩
      walk_at "go"
      have q := q H2 (s1.trans s2)
      rw [wgt, hhs] at q
      exact q
end
end K16
end
section
open PySem PySem.Spec PyProof.Rows L2 Lw
local macro_rules | `(tactic| walk_at "look") => `(tactic| first
  | assumption
  | with_reducible exact upd_same
  | with_reducible exact rg_st
  | with_reducible exact rg_g (by assumption)
  | (with_reducible refine upd_old (by assumption) ?_; walk_at "look")
  | (with_reducible refine rg_get (by assumption) ?_; walk_at "look")
  | (with_reducible refine Same.get (by assumption) ?_; walk_at "look"))
local macro_rules | `(tactic| walk_at "cond") => `(tactic| first
  | (show _ ≠ _; omega) | exact cdivN (by omega) (by omega) | exact cmul_mod (by decide) (by decide) | exact cmulR (by omega) (by omega) | exact cmulL (by omega) (by omega) | exact cpow (by omega) (by omega) (by omega) (by omega) | (show (0:Int) ≤ _; omega))
local macro_rules | `(tactic| walk_at "at") => `(tactic| first | assumption | with_unfolding_all rfl)
local macro_rules | `(tactic| walk_at "sz") => `(tactic| first | assumption | (refine small ?_; omega) | (refine small ?_; simp only [List.length_map, List.length_append, List.length_cons, List.length_nil]; omega))
local macro_rules | `(tactic| walk_at "len") => `(tactic| first | exact size_nil | exact Nat.le_of_lt (small (by simp only [List.length_cons, List.length_nil, List.length_map]; omega)))
local macro_rules | `(tactic| walk_at "newD") => `(tactic| (refine ⟨by walk_at "len", fun p np => ?_⟩; obtain ⟨e, o', hD', n', ne'⟩ := newTD_eq (topRg _ _) (by assumption) (by assumption) np (.lst _); rw [e]; clear e))
local macro_rules | `(tactic| walk_at "new") => `(tactic| (refine ⟨by walk_at "len", fun p np => ?_⟩; obtain ⟨e, o', n'⟩ := newT_eq (topRg _ _) (by assumption) np (.lst _); rw [e]; clear e))
local macro_rules | `(tactic| walk_at "st") => `(tactic| first
  | with_reducible refine r_seq ?_
  | with_reducible refine r_var rfl ?_
  | with_reducible refine r_c ?_
  | with_reducible refine r_asg ?_
  | (with_reducible refine r_name ?_; dsimp only [List.set_cons_zero, List.set_cons_succ])
  | with_reducible refine r_sub ?_
  | with_reducible refine r_op ?_
  | with_reducible refine r_i0 ?_
  | (with_reducible refine' r_i ?k1 ?_; (case k1 => walk_at "cond"))
  | with_reducible refine r_cons ?_
  | with_reducible refine r_nil ?_
  | with_reducible refine r_cb ?_
  | with_reducible refine r_call ?_
  | with_reducible refine r_ifs ?_
  | with_reducible refine r_test ?_
  | with_reducible refine r_tB ?_
  | with_reducible refine r_bl ?_
  | with_reducible refine r_ret ?_
  | with_reducible refine r_drop ?_
  | with_reducible refine r_next ?_
  | (with_reducible refine' r_ixL ?k1 ?k2 ?_; (case k1 => walk_at "look"); (case k2 => walk_at "at"))
  | (with_reducible refine' r_setL ?k1 ?k2 ?_; (case k1 => walk_at "look"); (case k2 => walk_at "at"))
  | (with_reducible refine' r_tup (SqT.of ?k1) ?k2 ?_; (case k1 => walk_at "look"); (case k2 => rfl))
  | with_reducible refine r_gcons ?_
  | with_reducible refine r_gnil ?_
  | with_reducible refine r_aug rfl ?_
  | with_reducible refine r_augS ?_
  | with_reducible refine r_ipI ?_
  | with_reducible refine r_un ?_
  | with_reducible refine r_u ?_
  | with_reducible refine r_eq rfl ?_
  | with_reducible refine r_ne rfl ?_
  | with_reducible refine r_chain ?_
  | with_reducible refine iteF ?_
  | with_reducible refine r_not ?_
  | with_reducible refine r_and ?_
  | with_reducible refine r_or ?_
  | with_reducible refine r_andV ?_
  | with_reducible refine r_orV ?_
  | with_reducible refine r_notV ?_
  | with_reducible refine r_lst ?_
  | with_reducible refine r_bm ?_
  | with_reducible refine r_bm0 ?_
  | (with_reducible refine' And.intro (r_ty ?k1) ?_; (case k1 => walk_at "look"))
  | (with_reducible refine' r_append ?k1 ?k2 ?_; (case k1 => walk_at "look"); (case k2 => walk_at "sz"))
  | (with_reducible refine' r_lenK ?k1 ?_; (case k1 => walk_at "look"))
  | (with_reducible refine' r_listOf ?k1 ?_; (case k1 => walk_at "look"))
  | (with_reducible refine' r_sortedI ?k1 ?_; (case k1 => walk_at "look"))
  | (with_reducible refine' r_sum ?k1 ?_; (case k1 => walk_at "look"))
  | with_reducible refine r_int ?_
  | (with_reducible refine' r_draw (by assumption) ?k1 ?k2 ?_; (case k1 => omega); (case k2 => omega); intro R' n' o' h' h'')
  | with_reducible refine iteT ?_
  | with_reducible refine r_revL ?_
  | with_reducible refine r_lc ?_
  | with_reducible refine r_yes ?_
  | with_reducible refine r_sl ?_
  | with_reducible refine iteNTr ?_
  | with_reducible refine iteNFa ?_
  | with_reducible refine r_fld ?_
  | with_reducible refine r_sFld ?_
  | with_reducible refine r_meth ?_
  | with_reducible refine r_methT ?_
  | with_reducible refine r_prop ?_
  | with_reducible refine r_dget ?_
  | with_reducible refine r_dput ?_
  | with_reducible refine r_noPart ?_
  | with_reducible refine r_part ?_
  | with_reducible refine r_lc2 ?_
  | with_reducible refine r_callN ?_
  | with_reducible refine r_callD ?_
  | with_reducible refine r_tupE ?_
  | with_reducible refine r_rng2 ?_
  | with_reducible refine r_i1 ?_
  | (with_reducible refine' r_slL ?k1 ?_; (case k1 => walk_at "look"))
  | with_reducible refine r_for ?_
  | with_reducible refine r_iList ?_
  | with_reducible refine r_rng1 ?_
  | with_reducible refine r_enum ?_
  | (with_reducible show Ends.nx _ _ _; dsimp only)
  | (with_reducible show Ends.rt _ _ _; dsimp only)
  | (with_reducible show Ends.ct _ _ _; dsimp only)
  | (with_reducible show Ends.bk _ _ _; dsimp only))
local macro_rules | `(tactic| walk_at "go") => `(tactic| repeat (walk_at "st"))
local macro_rules | `(tactic| walk_at "begin") => `(tactic| dsimp only [cxOf, wipe, L2.start, List.map, List.length_cons, List.length_nil, Nat.reduceAdd, Nat.reduceSub, List.replicate, List.cons_append, List.nil_append])
local macro_rules | `(tactic| walk_at "om") => `(tactic| first | omega | (dsimp only; omega) | (dsimp only at *; omega))
namespace K16
open PySem PySem.Spec PyProof.Rows L2 Lw
open Sy (Bd Sg Op Fk Jn Bk)
open Shp (G isNm outer wideD)
def eqv_s (x y : Str) : decide (V.str x = V.str y) = decide (x = y) := by
  by_cases e : x = y
  · rw [decide_eq_true (congrArg V.str e), decide_eq_true e]
  · rw [decide_eq_false (fun z => e (V.str.inj z)), decide_eq_false e]
/-- what the class Gatherer is -/
structure ZG (K : PySem.W.Frag) (CG : Addr) : Prop where
  cl : Cls K CG
  n1 : NoAttr K CG "element_terms"
  n2 : NoAttr K CG "asked_terms"
  n3 : NoAttr K CG "holding_terms"
  n4 : NoAttr K CG "wide_facts"
structure GA (K : PySem.W.Frag) (CG : Addr) (H : Hp) (g e a h w : Addr) (G : Shp.G) : Prop where
  ob : ∃ dx, H g = some (.ins CG dx (gf e a h w))
  ne : e ≠ a ∧ e ≠ h ∧ e ≠ w ∧ a ≠ h ∧ a ≠ w ∧ h ≠ w
  el : LA K H e (G.el.map Sy.Tm.d)
  as : LA K H a (G.as.map Sy.Tm.d)
  ho : LA K H h (G.ho.map Sy.Tm.d)
  wi : LA K H w G.wi
section
variable {K : PySem.W.Frag} {CG g e a h w : Addr} {G : Shp.G} {H H' : Hp}
theorem GA.kx (x : GA K CG H g e a h w G) (k : Kp (Ls e a h w) H H') : KX H H' := fun c o hc no => k c o hc fun z => by
  rcases z with rfl | rfl | rfl | rfl
  · obtain ⟨vs, q, _⟩ := x.el; rw [q] at hc; cases hc; exact no _ rfl
  · obtain ⟨vs, q, _⟩ := x.as; rw [q] at hc; cases hc; exact no _ rfl
  · obtain ⟨vs, q, _⟩ := x.ho; rw [q] at hc; cases hc; exact no _ rfl
  · obtain ⟨vs, q, _⟩ := x.wi; rw [q] at hc; cases hc; exact no _ rfl
theorem GA.mono (x : GA K CG H g e a h w G) (s : Same H H') : GA K CG H' g e a h w G :=
  ⟨x.ob.imp fun _ z => s _ _ z, x.ne, x.el.mono s, x.as.mono s, x.ho.mono s, x.wi.mono s⟩
theorem r_inT {neg : Bool} {Q : VK} {a : Addr} (ts : List Str) {x : Str} (h : SqT K H a (ts.map V.str)) (q : Q (.bl (if neg then !decide (x ∈ ts) else decide (x ∈ ts))) H) : rIn K neg (.str x) (.ref a) H Q := by
  have e : inV (.str x) (ts.map V.str) = decide (x ∈ ts) := by
    unfold inV
    rw [Bool.eq_iff_iff, decide_eq_true_eq, List.any_eq_true]
    constructor
    · rintro ⟨y, hy, hb⟩
      obtain ⟨z, hz, rfl⟩ := List.mem_map.mp hy
      have : z = x := by simpa [eqV] using hb
      rw [← this]; exact hz
    · intro hn
      exact ⟨_, List.mem_map.mpr ⟨x, hn, rfl⟩, by simp [eqV]⟩
  refine ⟨a, ts.map V.str, rfl, .inr h, rfl, ?_, ?_⟩
  · rw [List.all_eq_true]; intro y hy; obtain ⟨z, _, rfl⟩ := List.mem_map.mp hy; rfl
  · rw [e]; exact q
theorem obPut {dx p : Addr} {vs us : List V} (q : H g = some (.ins CG dx (gf e a h w))) (z : H p = some (.lst vs)) : (upd H p (.lst us)) g = some (.ins CG dx (gf e a h w)) := by
  rw [upd_ne (fun y => by rw [y, z] at q; cases q)]; exact q
theorem GA.pEl {vs : List V} {v : V} {t : Sy.Tm} (x : GA K CG H g e a h w G) (q : H e = some (.lst vs)) (y : Tv K H v t.d) (hd : t.d.depth ≤ 140) : GA K CG (upd H e (.lst (vs ++ [v]))) g e a h w { G with el := G.el ++ [t] } :=
  ⟨x.ob.imp fun _ z => obPut z q, x.ne, by rw [List.map_append]; exact x.el.push q y hd, x.as.other q x.ne.1.symm, x.ho.other q x.ne.2.1.symm, x.wi.other q x.ne.2.2.1.symm⟩
theorem GA.pAs {vs : List V} {v : V} {t : Sy.Tm} (x : GA K CG H g e a h w G) (q : H a = some (.lst vs)) (y : Tv K H v t.d) (hd : t.d.depth ≤ 140) : GA K CG (upd H a (.lst (vs ++ [v]))) g e a h w { G with as := G.as ++ [t] } :=
  ⟨x.ob.imp fun _ z => obPut z q, x.ne, x.el.other q x.ne.1, by rw [List.map_append]; exact x.as.push q y hd, x.ho.other q x.ne.2.2.2.1.symm, x.wi.other q x.ne.2.2.2.2.1.symm⟩
theorem GA.pHo {vs : List V} {v : V} {t : Sy.Tm} (x : GA K CG H g e a h w G) (q : H h = some (.lst vs)) (y : Tv K H v t.d) (hd : t.d.depth ≤ 140) : GA K CG (upd H h (.lst (vs ++ [v]))) g e a h w { G with ho := G.ho ++ [t] } :=
  ⟨x.ob.imp fun _ z => obPut z q, x.ne, x.el.other q x.ne.2.1, x.as.other q x.ne.2.2.2.1, by rw [List.map_append]; exact x.ho.push q y hd, x.wi.other q x.ne.2.2.2.2.2.symm⟩
theorem GA.pWi {vs : List V} {v : V} {d : PyData} (x : GA K CG H g e a h w G) (q : H w = some (.lst vs)) (y : Tv K H v d) (hd : d.depth ≤ 140) : GA K CG (upd H w (.lst (vs ++ [v]))) g e a h w { G with wi := G.wi ++ [d] } :=
  ⟨x.ob.imp fun _ z => obPut z q, x.ne, x.el.other q x.ne.2.2.1, x.as.other q x.ne.2.2.2.2.1, x.ho.other q x.ne.2.2.2.2.2, x.wi.push q y hd⟩
end
/-- what a walking method does -/
def spM (K : PySem.W.Frag) (CG : Addr) {α : Type} (ty : α → PyData) (sz : α → Nat) (lim : α → Prop) (act : α → Shp.G → Shp.G) : Sp := fun vs H Q _ => ∃ (g e a h w : Addr) (G : Shp.G) (v : V) (t : α), vs = [.ref g, v] ∧ GA K CG H g e a h w G ∧ Tv K H v (ty t) ∧ lim t ∧ G.n + sz t ≤ 20000 ∧
  ∀ H', GA K CG H' g e a h w (act t G) → Kp (Ls e a h w) H H' → Q .non H'
abbrev spTake (K : PySem.W.Frag) (CG : Addr) : Sp := spM K CG Sy.Tm.d (fun t => 4 * t.sz) (fun t => t.d.depth ≤ 140) fun t G => G.take t
abbrev spWTm (K : PySem.W.Frag) (CG : Addr) (n : Nat) : Sp := spM K CG Sy.Tm.d (fun t => 4 * t.sz) (fun t => t.d.depth < n ∧ n ≤ 140) Shp.G.tm
abbrev spWEl (K : PySem.W.Frag) (CG : Addr) (n : Nat) : Sp := spM K CG Sy.Tm.d (fun t => 4 * t.sz + 2) (fun t => t.d.depth < n ∧ n ≤ 140) Shp.G.elem
abbrev spWHo (K : PySem.W.Frag) (CG : Addr) (n : Nat) : Sp := spM K CG Sy.Tm.d (fun t => 4 * t.sz + 1) (fun t => t.d.depth < n ∧ n ≤ 140) Shp.G.hold
abbrev spTWi (K : PySem.W.Frag) (CG : Addr) : Sp := spM K CG id (fun _ => 1) (fun d => d.depth ≤ 140) Shp.G.wide
abbrev spWBd (K : PySem.W.Frag) (CG : Addr) (n m : Nat) : Sp := spM K CG Bd.d (fun b => 4 * b.sz) (fun b => b.d.depth < m ∧ m ≤ n ∧ n ≤ 140) Shp.G.bd
def isF : Sg → Bool
  | .fact _ _ _ => true
  | .quant _ _ _ => true
  | _ => false
abbrev spWFa (K : PySem.W.Frag) (CG : Addr) (n : Nat) : Sp := spM K CG Sg.d (fun b => 4 * b.sz) (fun s => isF s = true ∧ s.d.depth < n ∧ n ≤ 130) Shp.G.sg
abbrev spWSg (K : PySem.W.Frag) (CG : Addr) (n m : Nat) : Sp := spM K CG Sg.d (fun b => 4 * b.sz) (fun s => s.d.depth < m ∧ m ≤ n ∧ n ≤ 130) Shp.G.sg
def spNmT (K : PySem.W.Frag) : Sp := fun vs H Q _ => ∃ (v : V) (t : Sy.Tm), vs = [v] ∧ Tv K H v t.d ∧ Q (.bl (isNm t)) H
def spOut (K : PySem.W.Frag) (n : Nat) : Sp := fun vs H Q _ => ∃ (v : V) (t : Sy.Tm), vs = [v] ∧ Tv K H v t.d ∧ t.d.depth < n ∧ (outer t).length ≤ 10000 ∧ ∀ H' p, Same H H' → H' p = some (.lst ((outer t).map V.str)) → H p = none → Q (.ref p) H'
def spWf (K : PySem.W.Frag) : Sp := fun vs H Q _ => ∃ (v : V) (s : Sg), vs = [v] ∧ Tv K H v s.d ∧ isF s = true ∧ (wideD s = none → Q .non H) ∧ (∀ d, wideD s = some d → ∀ H' p, Same H H' → Tv K H' (.ref p) d → Q (.ref p) H')
def tmK : Sy.Tm → Str
  | .name _ => "name" | .none => "none" | .just _ => "just" | .bin o _ _ => o.s
section
variable {P : Program} {w : World} {K : PySem.W.Frag} {mg : Str → Option Value} {base : Heap} {CG : Addr}
theorem tm_0 {H : Hp} {v : V} {t : Sy.Tm} (h : Tv K H v t.d) : ∃ (p : Addr) (r : List V), v = .ref p ∧ SqT K H p (V.str (tmK t) :: r) := by
  cases t with
  | name x => obtain ⟨p, y, e, q, _⟩ := dp_1 h.1; exact ⟨p, _, e, q⟩
  | none => obtain ⟨p, e, q⟩ := dp_0 h.1; exact ⟨p, _, e, q⟩
  | just u => obtain ⟨p, y, e, q, _⟩ := dp_1 h.1; exact ⟨p, _, e, q⟩
  | bin o a b => obtain ⟨p, y, z, e, q, _⟩ := dp_2 h.1; exact ⟨p, _, e, q⟩
theorem nm_k (t : Sy.Tm) : decide (V.str (tmK t) = V.str "name") = isNm t := by
  cases t with
  | name x => rfl
  | none => rfl
  | just u => rfl
  | bin o a b => cases o <;> rfl
theorem ok_nmT {f : Addr} {fd : FuncData} (B : Blt mg) (D : Dn K mg "is_name_term" s_is_name_term ["term"] f fd) : FnOk P w K mg base CX0 1 f fd ["term"] (spNmT K) := by
  refine D.F.ok (k := 0) sc_is_name_term (fun vs H Q E h => ?_) (fun cdv A outer s H vs Q E hr h => ?_)
  · obtain ⟨v, t, rfl, _⟩ := h
    rfl
  · obtain ⟨v, t, rfl, hv, q⟩ := h
    refine ⟨_, (pss_one (ps_ret (pe_cmpR op_eq (pe_ix (ix_tupK (K := K) rfl) (pv 0) pe_int (fun _ _ => rfl)) pe_str (nomark _)))), ?_⟩
    obtain ⟨p, r, rfl, hq⟩ := tm_0 hv
    walk_at "begin"
    walk_at "go"
    refine r_ixQ hq at0 ?_
    walk_at "go"
    rw [nm_k]
    exact q
theorem rd_outer {f : Addr} {fd : FuncData} (B : Blt mg) (D : Dn K mg "outer_names" s_outer_names ["term"] f fd) : ∀ n, FnOk P w K mg base CX0 (1 + n) f fd ["term"] (spOut K n)
  | 0 => ⟨fun vs H Q E h => (by obtain ⟨v, t, rfl, _⟩ := h; rfl), fun A outer s H args us vs Q E hr e0 hb r h => (by obtain ⟨v, t, _, _, hd, _⟩ := h; exact absurd hd (Nat.not_lt_zero _))⟩
  | n + 1 => by
    have ih := rd_outer B D n
    refine D.F.ok (k := 1 + n) sc_outer_names (fun vs H Q E h => ?_) (fun cdv A outer s H vs Q E hr h => ?_)
    · obtain ⟨v, t, rfl, _⟩ := h
      rfl
    · obtain ⟨v, t, rfl, hv, hd, hz, q⟩ := h
      refine ⟨_, (pss_cons (ps_match (pe_ix (ix_tupK (K := K) rfl) (pv 0) pe_int (fun _ _ => rfl)) (CasesS.cons PatS.val (pss_one (ps_ret (pe_lst (pa_cons (pe_ix (ix_tupK (K := K) rfl) (pv 0) pe_int (fun _ _ => rfl)) pa_nil)))) (CasesS.cons (PatS.or (PatsS.cons (PatsS.cons PatsS.nil))) (pss_one (ps_ret (pe_lst pa_nil))) CasesS.nil)))
      (pss_one (ps_ret (pe_op op_cat (pe_call ih (hr.mono (Nat.le_refl _)) (by rfl) D.g D.F.kp D.b .nil pass0 (pa_cons (pe_ix (ix_tupK (K := K) rfl) (pv 0) pe_int (fun _ _ => rfl)) pa_nil)) (pe_call ih (hr.mono (Nat.le_refl _)) (by rfl) D.g D.F.kp D.b .nil pass0 (pa_cons (pe_ix (ix_tupK (K := K) rfl) (pv 0) pe_int (fun _ _ => rfl)) pa_nil)))))), ?_⟩
      walk_at "begin"
      walk_at "go"
      refine r_match ?_
      cases t with
      | name x =>
        obtain ⟨p, y, rfl, hq, hy⟩ := dp_1 hv.1
        cases hy
        walk_at "go"
        refine r_ixQ hq rfl ⟨_, rfl, ?_⟩
        simp only [tCases]
        rw [if_pos (by decide +kernel)]
        walk_at "go"
        refine r_ixQ hq rfl ?_
        walk_at "go"
        refine ⟨by walk_at "len", fun p np => ?_⟩
        exact q _ p (same_new np) upd_same np
      | none =>
        obtain ⟨p, rfl, hq⟩ := dp_0 hv.1
        walk_at "go"
        refine r_ixQ hq rfl ⟨_, rfl, ?_⟩
        simp only [tCases]
        rw [if_neg (by decide +kernel), if_pos (by decide +kernel)]
        walk_at "go"
        refine ⟨by walk_at "len", fun p np => ?_⟩
        exact q _ p (same_new np) upd_same np
      | just u =>
        obtain ⟨p, y, rfl, hq, hy⟩ := dp_1 hv.1
        walk_at "go"
        refine r_ixQ hq rfl ⟨_, rfl, ?_⟩
        simp only [tCases]
        rw [if_neg (by decide +kernel), if_pos (by decide +kernel)]
        walk_at "go"
        refine ⟨by walk_at "len", fun p np => ?_⟩
        exact q _ p (same_new np) upd_same np
      | bin o a b =>
        obtain ⟨p, y, z, rfl, hq, hy, hz2⟩ := tv_2 hv
        have hdd : max a.d.depth b.d.depth + 1 < n + 1 := by rw [← dep2 (k := o.s)]; exact hd
        have hzz : (Shp.outer a).length + (Shp.outer b).length ≤ 10000 := by rw [← List.length_append]; exact hz
        walk_at "go"
        refine r_ixQ hq rfl ⟨_, rfl, ?_⟩
        simp only [tCases]
        rw [if_neg (by cases o <;> decide +kernel), if_neg (by cases o <;> decide +kernel)]
        walk_at "go"
        refine r_ixQ hq rfl ?_
        walk_at "go"
        refine ⟨y, a, rfl, hy, by omega, by omega, fun H1 p1 s1 hp1 np1 => ?_⟩
        walk_at "go"
        refine r_ixQ (sqt_s s1 hq) rfl ?_
        walk_at "go"
        refine ⟨z, b, rfl, hz2.mono s1, by omega, by omega, fun H2 p2 s2 hp2 np2 => ?_⟩
        refine ⟨p1, p2, _, _, rfl, rfl, s2 _ _ hp1, hp2, Nat.le_of_lt (small (by rw [List.length_map, List.length_map]; omega)), fun p3 np3 => ?_⟩
        refine q _ p3 (s1.trans (s2.trans (same_new np3))) (by rw [upd_same, ← List.map_append]; rfl) ?_
        cases e : H p3 with
        | none => rfl
        | some o2 => rw [s2 _ _ (s1 _ _ e)] at np3; cases np3
theorem ok_wf {f f1 : Addr} {fd fd1 : FuncData} (B : Blt mg) (D : Dn K mg "wide_fact_of" s_wide_fact_of ["fact"] f fd) (Dis_name_term : Dn K mg "is_name_term" s_is_name_term ["term"] f1 fd1) (Gis_name_term : FnOk P w K mg base CX0 1 f1 fd1 ["term"] (spNmT K)) : FnOk P w K mg base CX0 2 f fd ["fact"] (spWf K) := by
  refine D.F.ok (k := 1) sc_wide_fact_of (fun vs H Q E h => ?_) (fun cdv A outer s H vs Q E hr h => ?_)
  · obtain ⟨v, s, rfl, _⟩ := h
    rfl
  · obtain ⟨v, s, rfl, hv, hf, q1, q2⟩ := h
    refine ⟨_, (pss_cons (ps_set (i := 1) sc_wide_fact_of.nd rfl (.inl rfl) (pe_ix (ix_tupK (K := K) rfl) (pv 0) pe_int (fun _ _ => rfl)))
      (pss_cons (ps_if (pt_cmpR op_eq (pv 1) pe_str (nomark _)) (pss_one (ps_ret (pe_tup (pa_cons pe_str (pa_cons (pe_ix (ix_tupK (K := K) rfl) (pv 0) pe_int (fun _ _ => rfl)) (pa_cons (pe_tup (pa_cons pe_str (pa_cons (pe_ix (ix_tupK (K := K) rfl) (pv 0) pe_int (fun _ _ => rfl)) pa_nil))) pa_nil)))))) pss_nil)
      (pss_cons (ps_if (pt_cmpR op_eq (pv 1) pe_str (nomark _)) (pss_one (ps_ret pe_non)) pss_nil)
      (pss_cons (ps_if (PW.pt (pw_and (pt_cmpR op_eq (pv 1) pe_str (nomark _)) (pw_and (pt_val (pe_call Gis_name_term (hr.mono (by decide)) (by rfl) Dis_name_term.g Dis_name_term.F.kp Dis_name_term.b .nil pass0 (pa_cons (pe_ix (ix_tupK (K := K) rfl) (pv 0) pe_int (fun _ _ => rfl)) pa_nil))) (pw_and1 (pt_val (pe_call Gis_name_term (hr.mono (by decide)) (by rfl) Dis_name_term.g Dis_name_term.F.kp Dis_name_term.b .nil pass0 (pa_cons (pe_ix (ix_tupK (K := K) rfl) (pv 0) pe_int (fun _ _ => rfl)) pa_nil))))))) (pss_one (ps_ret pe_non)) pss_nil)
      (pss_one (ps_ret (pv 0))))))), ?_⟩
    walk_at "begin"
    walk_at "go"
    cases s with
    | not s => cases hf
    | bin j a b => cases hf
    | quant ea t b =>
      obtain ⟨p, x, y, rfl, hq, hx, hy⟩ := tv_2 hv
      refine r_ixQ hq rfl ?_
      walk_at "go"
      rw [eqv_s]
      cases ea with
      | true =>
        rw [show decide ((if true = true then ("each" : Str) else "some") = "some") = false by decide +kernel]
        walk_at "go"
        rw [eqv_s, show decide ((if true = true then ("each" : Str) else "some") = "in") = false by decide +kernel]
        walk_at "go"
        rw [eqv_s, show decide ((if true = true then ("each" : Str) else "some") = "same") = false by decide +kernel]
        walk_at "go"
        exact q2 _ rfl _ _ (Same.refl _) hv
      | false =>
        rw [show decide ((if false = true then ("each" : Str) else "some") = "some") = true by decide +kernel]
        walk_at "go"
        refine r_ixQ hq rfl ?_
        walk_at "go"
        refine r_ixQ hq rfl ?_
        walk_at "go"
        refine ⟨by walk_at "len", fun p1 np1 => ?_⟩
        walk_at "go"
        refine ⟨by walk_at "len", fun p2 np2 => ?_⟩
        have s1 := same_new (o := HO.tup [.str "not", y]) np1
        have s2 := same_new (o := HO.tup [.str "each", x, .ref p1]) np2
        refine q2 _ rfl _ p2 (s1.trans s2) ?_
        exact tv_mk2 (by decide +kernel) upd_same (hx.mono (s1.trans s2)) ((tv_mk1 (by decide +kernel) upd_same (hy.mono s1)).mono s2)
    | fact k a b =>
      obtain ⟨p, x, y, rfl, hq, hx, hy⟩ := tv_2 hv
      refine r_ixQ hq rfl ?_
      walk_at "go"
      rw [eqv_s, show decide (k.s = "some") = false by cases k <;> decide +kernel]
      walk_at "go"
      rw [eqv_s]
      cases k with
      | inn =>
        rw [show decide (Fk.inn.s = "in") = true by decide +kernel]
        walk_at "go"
        exact q1 rfl
      | within =>
        rw [show decide (Fk.within.s = "in") = false by decide +kernel]
        walk_at "go"
        rw [eqv_s, show decide (Fk.within.s = "same") = false by decide +kernel]
        walk_at "go"
        exact q2 _ rfl _ _ (Same.refl _) hv
      | same =>
        rw [show decide (Fk.same.s = "in") = false by decide +kernel]
        walk_at "go"
        rw [eqv_s, show decide (Fk.same.s = "same") = true by decide +kernel]
        walk_at "go"
        refine r_ixQ hq rfl ?_
        walk_at "go"
        refine ⟨_, a, rfl, hx, ?_⟩
        rw [wideD] at q1 q2
        cases ha : isNm a with
        | false =>
          rw [ha] at q1 q2
          walk_at "go"
          exact q2 _ rfl _ _ (Same.refl _) hv
        | true =>
          rw [ha] at q1 q2
          walk_at "go"
          refine r_ixQ hq rfl ?_
          walk_at "go"
          refine ⟨_, b, rfl, hy, ?_⟩
          cases hb : isNm b with
          | false =>
            rw [hb] at q1 q2
            walk_at "go"
            exact q2 _ rfl _ _ (Same.refl _) hv
          | true =>
            rw [hb] at q1 q2
            walk_at "go"
            exact q1 rfl
theorem ok_take {f f1 : Addr} {fd fd1 : FuncData} (B : Blt mg) (Z : ZG K CG) (F : Fun K "take_element" "Gatherer.take_element" s_Gatherer_take_element f fd) (Dis_name_term : Dn K mg "is_name_term" s_is_name_term ["term"] f1 fd1) (Gis_name_term : FnOk P w K mg base CX0 1 f1 fd1 ["term"] (spNmT K)) : FnOk P w K mg base CX0 2 f fd ["self", "term"] (spTake K CG) := by
  refine F.ok (k := 1) sc_Gatherer_take_element (fun vs H Q E h => ?_) (fun cdv A outer s H vs Q E hr h => ?_)
  · obtain ⟨g, e, a, h, w, G, v, t, rfl, _⟩ := h
    rfl
  · obtain ⟨g, e, a, h, w, G, v, t, rfl, hG, hv, hd, hn, q⟩ := h
    refine ⟨_, (pss_one (ps_if (pt_cmpR (op_notInLDK (K := K) rfl hr) (pv 1) (pe_fld (pv 0) rfl) (by rfl)) (pss_cons (ps_expr (pe_bmK (K := K) rfl PySem.F.plainAttrs_list PySem.F.slot_list_append PySem.F.type_list_append mt_append (pe_fld (pv 0) rfl) (pa_cons (pv 1) pa_nil)))
      (pss_one (ps_if (pt_not (pt_val (pe_call Gis_name_term (hr.mono (by decide)) (by rfl) Dis_name_term.g Dis_name_term.F.kp Dis_name_term.b .nil pass0 (pa_cons (pv 1) pa_nil)))) (pss_one (ps_expr (pe_bmK (K := K) rfl PySem.F.plainAttrs_list PySem.F.slot_list_append PySem.F.type_list_append mt_append (pe_fld (pv 0) rfl) (pa_cons (pv 1) pa_nil)))) pss_nil))) pss_nil)), ?_⟩
    obtain ⟨dx, ho⟩ := hG.ob
    unfold Shp.G.n at hn
    walk_at "begin"
    walk_at "go"
    refine r_fldI ho Z.cl Z.n1 rfl ?_
    refine r_notInLA hG.el hv hd fun b hb => ?_
    rw [Shp.d_mem] at hb
    have q : ∀ H', GA K CG H' g e a h w (G.take t) → Kp (Ls e a h w) H H' → Q .non H' := q
    unfold Shp.G.take at q
    cases b with
    | false =>
      rw [if_pos (Classical.not_not.mp fun z => Bool.false_ne_true (hb.mpr z))] at q
      walk_at "go"
      exact q H hG (Kp.of (Same.refl _))
    | true =>
      rw [if_neg (hb.mp rfl)] at q
      obtain ⟨vs, he, hel⟩ := hG.el.len
      rw [List.length_map] at hel
      walk_at "go"
      refine r_fldI ho Z.cl Z.n1 rfl ?_
      walk_at "go"
      have hG1 := hG.pEl he hv hd
      have hv1 := hv.put (o := .lst (vs ++ [v])) he
      have k1 : Kp (Ls e a h w) H (upd H e (.lst (vs ++ [v]))) := Kp.put (.inl rfl)
      generalize upd H e (.lst (vs ++ [v])) = H1 at hG1 hv1 k1 ⊢
      walk_at "go"
      refine ⟨v, t, rfl, hv1, ?_⟩
      cases hnm : isNm t with
      | true =>
        rw [hnm] at q
        walk_at "go"
        exact q H1 hG1 k1
      | false =>
        rw [hnm] at q
        obtain ⟨vh, hh, hhl⟩ := hG1.ho.len
        obtain ⟨dx1, ho1⟩ := hG1.ob
        rw [List.length_map] at hhl
        have hhl : vh.length = G.ho.length := hhl
        walk_at "go"
        refine r_fldI ho1 Z.cl Z.n3 rfl ?_
        walk_at "go"
        exact q _ (hG1.pHo hh hv1 hd) (k1.trans (Kp.put (.inr (.inr (.inl rfl)))))
theorem ok_twi {f : Addr} {fd : FuncData} (B : Blt mg) (Z : ZG K CG) (F : Fun K "take_wide" "Gatherer.take_wide" s_Gatherer_take_wide f fd) : FnOk P w K mg base CX0 1 f fd ["self", "fact"] (spTWi K CG) := by
  refine F.ok (k := 0) sc_Gatherer_take_wide (fun vs H Q E h => ?_) (fun cdv A outer s H vs Q E hr h => ?_)
  · obtain ⟨g, e, a, h, w, G, v, t, rfl, _⟩ := h
    rfl
  · obtain ⟨g, e, a, h, w, G, v, t, rfl, hG, hv, hd, hn, q⟩ := h
    refine ⟨_, (pss_one (ps_if (pt_cmpR (op_notInLDK (K := K) rfl hr) (pv 1) (pe_fld (pv 0) rfl) (by rfl)) (pss_one (ps_expr (pe_bmK (K := K) rfl PySem.F.plainAttrs_list PySem.F.slot_list_append PySem.F.type_list_append mt_append (pe_fld (pv 0) rfl) (pa_cons (pv 1) pa_nil)))) pss_nil)), ?_⟩
    have hv : Tv K H v t := hv
    obtain ⟨dx, ho⟩ := hG.ob
    unfold Shp.G.n at hn
    walk_at "begin"
    walk_at "go"
    refine r_fldI ho Z.cl Z.n4 rfl ?_
    refine r_notInLA hG.wi hv hd fun b hb => ?_
    have hn : G.el.length + G.as.length + G.ho.length + G.wi.length + 1 ≤ 20000 := hn
    have q : ∀ H', GA K CG H' g e a h w (Shp.G.wide t G) → Kp (Ls e a h w) H H' → Q .non H' := q
    unfold Shp.G.wide at q
    cases b with
    | false =>
      rw [if_pos (Classical.not_not.mp fun z => Bool.false_ne_true (hb.mpr z))] at q
      walk_at "go"
      exact q H hG (Kp.of (Same.refl _))
    | true =>
      rw [if_neg (hb.mp rfl)] at q
      obtain ⟨vs, he, hel⟩ := hG.wi.len
      walk_at "go"
      refine r_fldI ho Z.cl Z.n4 rfl ?_
      walk_at "go"
      exact q _ (hG.pWi he hv hd) (Kp.put (.inr (.inr (.inr rfl))))
theorem rd_wtm {f f1 : Addr} {fd fd1 : FuncData} (B : Blt mg) (Z : ZG K CG) (F : Fun K "walk_term" "Gatherer.walk_term" s_Gatherer_walk_term f fd) (b_walk_term : Binds K fd ["self", "term"] []) (m_walk_term : Meth K CG "walk_term" f) (m_take_element : Meth K CG "take_element" f1) (b_take_element : Binds K fd1 ["self", "term"] []) (G_take_element : FnOk P w K mg base CX0 2 f1 fd1 ["self", "term"] (spTake K CG)) : ∀ n, FnOk P w K mg base CX0 (2 + n) f fd ["self", "term"] (spWTm K CG n)
  | 0 => ⟨fun vs H Q E h => (by obtain ⟨g, e, a, h, w, G, v, t, rfl, _⟩ := h; rfl), fun A outer s H args us vs Q E hr e0 hb r h => (by obtain ⟨g, e, a, h, w, G, v, t, _, _, _, hd, _⟩ := h; exact absurd hd.1 (Nat.not_lt_zero _))⟩
  | n + 1 => by
    have ih := rd_wtm B Z F b_walk_term m_walk_term m_take_element b_take_element G_take_element n
    refine F.ok (k := 2 + n) sc_Gatherer_walk_term (fun vs H Q E h => ?_) (fun cdv A outer s H vs Q E hr h => ?_)
    · obtain ⟨g, e, a, h, w, G, v, t, rfl, _⟩ := h
      rfl
    · obtain ⟨g, e, a, h, w, G, v, t, rfl, hG, hv, hd, hn, q⟩ := h
      refine ⟨_, (pss_cons (ps_set (i := 2) sc_Gatherer_walk_term.nd rfl (.inl rfl) (pv 1))
      (pss_cons (ps_while PassesOwn.never (pt_cmpR op_eq (pe_ix (ix_tupK (K := K) rfl) (pv 2) pe_int (fun _ _ => rfl)) pe_str (nomark _)) (pss_cons (ps_set (i := 2) sc_Gatherer_walk_term.nd rfl (.inl rfl) (pe_ix (ix_tupK (K := K) rfl) (pv 2) pe_int (fun _ _ => rfl)))
      (pss_one (ps_expr (pe_meth (pv 0) Z.cl m_take_element G_take_element (hr.mono (by omega)) b_take_element .nil pass0 (pa_cons (pv 2) pa_nil))))))
      (pss_one (ps_if (pt_cmpR (op_in_seqK (K := K) rfl) (pe_ix (ix_tupK (K := K) rfl) (pv 2) pe_int (fun _ _ => rfl)) (pe_tup (pa_cons pe_str (pa_cons pe_str (pa_cons pe_str pa_nil)))) (by rfl)) (pss_cons (ps_expr (pe_meth (pv 0) Z.cl m_walk_term ih (hr.mono (Nat.le_refl _)) b_walk_term .nil pass0 (pa_cons (pe_ix (ix_tupK (K := K) rfl) (pv 2) pe_int (fun _ _ => rfl)) pa_nil)))
      (pss_one (ps_expr (pe_meth (pv 0) Z.cl m_walk_term ih (hr.mono (Nat.le_refl _)) b_walk_term .nil pass0 (pa_cons (pe_ix (ix_tupK (K := K) rfl) (pv 2) pe_int (fun _ _ => rfl)) pa_nil))))) pss_nil)))), ?_⟩
      walk_at "begin"
      walk_at "go"
      refine r_while (fun m σ HM => ∃ (t' : Sy.Tm) (v' : V) (G' : Shp.G), σ = [some (.ref g), some v, some v'] ∧ GA K CG HM g e a h w G' ∧ Kp (Ls e a h w) H HM ∧ Tv K HM v' t'.d ∧ t'.d.depth < n + 1 ∧ G'.n + 4 * t'.sz ≤ 20000 ∧ Shp.G.tm t G = Shp.G.tm t' G' ∧ m = t'.sz) ⟨_, t, v, G, rfl, hG, Kp.of (Same.refl _), hv, hd.1, hn, rfl, rfl⟩ ?_
      rintro m σ HM ⟨t', v', G', rfl, hG', k', hv', hd', hn', he', rfl⟩
      obtain ⟨dx, ho⟩ := hG'.ob
      have hd140 := hd.2
      cases t' with
      | just u =>
        obtain ⟨p, y, rfl, hq, hy⟩ := tv_1 hv'
        have hdu : u.d.depth + 1 < n + 1 := by rw [← dep1 (k := "just")]; exact hd'
        have hnu : G'.n + 4 * (u.sz + 1) ≤ 20000 := hn'
        walk_at "go"
        refine r_ixQ hq rfl ?_
        walk_at "go"
        rw [eqv_s, decide_eq_true rfl]
        walk_at "go"
        refine ⟨fun σ1 H1 => ∃ (v2 : V), σ1 = [some (.ref g), some v, some v2] ∧ GA K CG H1 g e a h w (G'.take u) ∧ Kp (Ls e a h w) H H1 ∧ Tv K H1 v2 u.d, ?_, ?_⟩
        · rintro σ1 H1 ⟨v2, rfl, h1, h2, h3⟩
          have := G'.take_n u
          exact ⟨u.sz, Nat.lt_succ_self _, u, v2, _, rfl, h1, h2, h3, by walk_at "om", by walk_at "om", he', rfl⟩
        · walk_at "go"
          refine r_ixQ hq rfl ?_
          walk_at "go"
          refine ⟨g, dx, _, rfl, ho, rfl, ?_⟩
          walk_at "go"
          refine ⟨g, e, a, h, w, G', y, u, rfl, hG', hy, by walk_at "om", by walk_at "om", fun H1 hG1 k1 => ?_⟩
          walk_at "go"
          exact ⟨y, rfl, hG1, k'.trans k1, hy.kx (hG'.kx k1)⟩
      | name x =>
        obtain ⟨p, r, rfl, hq⟩ := tm_0 hv'
        walk_at "go"
        refine r_ixQ hq at0 ?_
        walk_at "go"
        rw [eqv_s, show tmK (.name x) = "name" from rfl, show decide (("name" : Str) = "just") = false by decide +kernel]
        walk_at "go"
        refine r_ixQ hq at0 ?_
        walk_at "go"
        refine ⟨by walk_at "len", fun p1 np1 => ?_⟩
        refine r_inT ["plus", "meet", "less"] (SqT.of upd_same) ?_
        rw [if_neg Bool.false_ne_true, show tmK (.name x) = "name" from rfl, show decide (("name" : Str) ∈ (["plus", "meet", "less"] : List Str)) = false by decide +kernel]
        walk_at "go"
        have s1 := same_new (o := HO.tup [.str "plus", .str "meet", .str "less"]) np1
        refine q _ (by rw [he']; exact hG'.mono s1) (k'.trans (Kp.of s1))
      | none =>
        obtain ⟨p, r, rfl, hq⟩ := tm_0 hv'
        walk_at "go"
        refine r_ixQ hq at0 ?_
        walk_at "go"
        rw [eqv_s, show decide (tmK .none = "just") = false by decide +kernel]
        walk_at "go"
        refine r_ixQ hq at0 ?_
        walk_at "go"
        refine ⟨by walk_at "len", fun p1 np1 => ?_⟩
        refine r_inT ["plus", "meet", "less"] (SqT.of upd_same) ?_
        rw [if_neg Bool.false_ne_true, show decide (tmK .none ∈ (["plus", "meet", "less"] : List Str)) = false by decide +kernel]
        walk_at "go"
        have s1 := same_new (o := HO.tup [.str "plus", .str "meet", .str "less"]) np1
        refine q _ (by rw [he']; exact hG'.mono s1) (k'.trans (Kp.of s1))
      | bin o b c =>
        obtain ⟨p, y, z, rfl, hq, hy, hz⟩ := tv_2 hv'
        have hdu : max b.d.depth c.d.depth + 1 < n + 1 := by rw [← dep2 (k := o.s)]; exact hd'
        have hnu : G'.n + 4 * (b.sz + c.sz + 1) ≤ 20000 := hn'
        walk_at "go"
        refine r_ixQ hq rfl ?_
        walk_at "go"
        rw [eqv_s, show decide (o.s = "just") = false by cases o <;> decide +kernel]
        walk_at "go"
        refine r_ixQ hq rfl ?_
        walk_at "go"
        refine ⟨by walk_at "len", fun p1 np1 => ?_⟩
        refine r_inT ["plus", "meet", "less"] (SqT.of upd_same) ?_
        rw [if_neg Bool.false_ne_true, show decide (o.s ∈ (["plus", "meet", "less"] : List Str)) = true by cases o <;> decide +kernel]
        have s1 := same_new (o := HO.tup [.str "plus", .str "meet", .str "less"]) np1
        have hG1 := hG'.mono s1
        have hq1 := sqt_s s1 hq
        have hy1 := hy.mono s1
        have hz1 := hz.mono s1
        have ho1 := s1 _ _ ho
        have k1 := k'.trans (Kp.of s1)
        generalize upd HM p1 (.tup [.str "plus", .str "meet", .str "less"]) = H1 at hG1 hq1 hy1 hz1 ho1 k1 ⊢
        walk_at "go"
        refine ⟨g, dx, _, rfl, ho1, rfl, ?_⟩
        walk_at "go"
        refine r_ixQ hq1 rfl ?_
        walk_at "go"
        refine ⟨g, e, a, h, w, G', y, b, rfl, hG1, hy1, ⟨by walk_at "om", by walk_at "om"⟩, by walk_at "om", fun H2 hG2 k2 => ?_⟩
        obtain ⟨dx2, ho2⟩ := hG2.ob
        have hn2 := Shp.G.tm_n b G'
        have x2 := hG1.kx k2
        walk_at "go"
        refine ⟨g, dx2, _, rfl, ho2, rfl, ?_⟩
        walk_at "go"
        refine r_ixQ (sqt_kx x2 hq1) rfl ?_
        walk_at "go"
        refine ⟨g, e, a, h, w, _, z, c, rfl, hG2, hz1.kx x2, ⟨by walk_at "om", by walk_at "om"⟩, by walk_at "om", fun H3 hG3 k3 => ?_⟩
        walk_at "go"
        exact q H3 (by rw [he']; exact hG3) (k1.trans (k2.trans k3))
theorem ok_wel {n : Nat} {f f1 f2 : Addr} {fd fd1 fd2 : FuncData} (B : Blt mg) (Z : ZG K CG) (F : Fun K "walk_element" "Gatherer.walk_element" s_Gatherer_walk_element f fd) (m_take_element : Meth K CG "take_element" f1) (b_take_element : Binds K fd1 ["self", "term"] []) (G_take_element : FnOk P w K mg base CX0 2 f1 fd1 ["self", "term"] (spTake K CG))
    (m_walk_term : Meth K CG "walk_term" f2) (b_walk_term : Binds K fd2 ["self", "term"] []) (G_walk_term : FnOk P w K mg base CX0 (2 + n) f2 fd2 ["self", "term"] (spWTm K CG n)) : FnOk P w K mg base CX0 (2 + n + 1) f fd ["self", "term"] (spWEl K CG n) := by
  refine F.ok (k := 2 + n) sc_Gatherer_walk_element (fun vs H Q E h => ?_) (fun cdv A outer s H vs Q E hr h => ?_)
  · obtain ⟨g, e, a, h, w, G, v, t, rfl, _⟩ := h
    rfl
  · obtain ⟨g, e, a, h, w, G, v, t, rfl, hG, hv, hd, hn, q⟩ := h
    refine ⟨_, (pss_cons (ps_expr (pe_meth (pv 0) Z.cl m_take_element G_take_element (hr.mono (by omega)) b_take_element .nil pass0 (pa_cons (pv 1) pa_nil)))
      (pss_one (ps_expr (pe_meth (pv 0) Z.cl m_walk_term G_walk_term (hr.mono (by omega)) b_walk_term .nil pass0 (pa_cons (pv 1) pa_nil))))), ?_⟩
    obtain ⟨dx, ho⟩ := hG.ob
    walk_at "begin"
    walk_at "go"
    refine ⟨g, dx, _, rfl, ho, rfl, ?_⟩
    walk_at "go"
    refine ⟨g, e, a, h, w, G, v, t, rfl, hG, hv, by walk_at "om", by walk_at "om", fun H1 hG1 k1 => ?_⟩
    obtain ⟨dx1, ho1⟩ := hG1.ob
    have := G.take_n t
    walk_at "go"
    refine ⟨g, dx1, _, rfl, ho1, rfl, ?_⟩
    walk_at "go"
    refine ⟨g, e, a, h, w, _, v, t, rfl, hG1, hv.kx (hG.kx k1), hd, by walk_at "om", fun H2 hG2 k2 => ?_⟩
    walk_at "go"
    exact q H2 hG2 (k1.trans k2)
theorem ok_who {n : Nat} {f f2 : Addr} {fd fd2 : FuncData} (B : Blt mg) (Z : ZG K CG) (F : Fun K "walk_holding" "Gatherer.walk_holding" s_Gatherer_walk_holding f fd)
    (m_walk_term : Meth K CG "walk_term" f2) (b_walk_term : Binds K fd2 ["self", "term"] []) (G_walk_term : FnOk P w K mg base CX0 (2 + n) f2 fd2 ["self", "term"] (spWTm K CG n)) : FnOk P w K mg base CX0 (2 + n + 1) f fd ["self", "term"] (spWHo K CG n) := by
  refine F.ok (k := 2 + n) sc_Gatherer_walk_holding (fun vs H Q E h => ?_) (fun cdv A outer s H vs Q E hr h => ?_)
  · obtain ⟨g, e, a, h, w, G, v, t, rfl, _⟩ := h
    rfl
  · obtain ⟨g, e, a, h, w, G, v, t, rfl, hG, hv, hd, hn, q⟩ := h
    refine ⟨_, (pss_cons (ps_expr (pe_bmK (K := K) rfl PySem.F.plainAttrs_list PySem.F.slot_list_append PySem.F.type_list_append mt_append (pe_fld (pv 0) rfl) (pa_cons (pv 1) pa_nil)))
      (pss_one (ps_expr (pe_meth (pv 0) Z.cl m_walk_term G_walk_term (hr.mono (by omega)) b_walk_term .nil pass0 (pa_cons (pv 1) pa_nil))))), ?_⟩
    obtain ⟨dx, ho⟩ := hG.ob
    obtain ⟨vh, hh, hhl⟩ := hG.ho.len
    rw [List.length_map] at hhl
    have hn2 := hn
    unfold Shp.G.n at hn2
    have hg1 := hG.pHo hh hv (by walk_at "om")
    have k1 : Kp (Ls e a h w) H (upd H h (.lst (vh ++ [v]))) := Kp.put (.inr (.inr (.inl rfl)))
    walk_at "begin"
    walk_at "go"
    refine r_fldI ho Z.cl Z.n3 rfl ?_
    walk_at "go"
    generalize upd H h (.lst (vh ++ [v])) = H1 at hg1 k1 ⊢
    obtain ⟨dx1, ho1⟩ := hg1.ob
    refine ⟨g, dx1, _, rfl, ho1, rfl, ?_⟩
    walk_at "go"
    refine ⟨g, e, a, h, w, _, v, t, rfl, hg1, hv.kx (hG.kx k1), hd, ?_, fun H2 hG2 k2 => ?_⟩
    · unfold Shp.G.n
      simp only [List.length_append, List.length_singleton]
      walk_at "om"
    walk_at "go"
    exact q H2 hG2 (k1.trans k2)
theorem rd_wbd {n : Nat} {f f1 f2 : Addr} {fd fd1 fd2 : FuncData} (B : Blt mg) (Z : ZG K CG) (F : Fun K "walk_body" "Gatherer.walk_body" s_Gatherer_walk_body f fd) (b_walk_body : Binds K fd ["self", "body"] []) (m_walk_body : Meth K CG "walk_body" f) (m_walk_holding : Meth K CG "walk_holding" f1) (b_walk_holding : Binds K fd1 ["self", "term"] []) (G_walk_holding : FnOk P w K mg base CX0 (2 + n + 1) f1 fd1 ["self", "term"] (spWHo K CG n))
    (m_walk_element : Meth K CG "walk_element" f2) (b_walk_element : Binds K fd2 ["self", "term"] []) (G_walk_element : FnOk P w K mg base CX0 (2 + n + 1) f2 fd2 ["self", "term"] (spWEl K CG n)) : ∀ m, FnOk P w K mg base CX0 (2 + n + 1 + m) f fd ["self", "body"] (spWBd K CG n m)
  | 0 => ⟨fun vs H Q E h => (by obtain ⟨g, e, a, h, w, G, v, t, rfl, _⟩ := h; rfl), fun A outer s H args us vs Q E hr e0 hb r h => (by obtain ⟨g, e, a, h, w, G, v, t, _, _, _, hd, _⟩ := h; exact absurd hd.1 (Nat.not_lt_zero _))⟩
  | m + 1 => by
    have ih := rd_wbd B Z F b_walk_body m_walk_body m_walk_holding b_walk_holding G_walk_holding m_walk_element b_walk_element G_walk_element m
    refine F.ok (k := 2 + n + 1 + m) sc_Gatherer_walk_body (fun vs H Q E h => ?_) (fun cdv A outer s H vs Q E hr h => ?_)
    · obtain ⟨g, e, a, h, w, G, v, t, rfl, _⟩ := h
      rfl
    · obtain ⟨g, e, a, h, w, G, v, t, rfl, hG, hv, hd, hn, q⟩ := h
      refine ⟨_, (pss_cons (ps_set (i := 2) sc_Gatherer_walk_body.nd rfl (.inl rfl) (pe_ix (ix_tupK (K := K) rfl) (pv 1) pe_int (fun _ _ => rfl)))
      (pss_one (ps_if (pt_cmpR op_eq (pv 2) pe_str (nomark _)) (pss_one (ps_expr (pe_meth (pv 0) Z.cl m_walk_body ih (hr.mono (Nat.le_refl _)) b_walk_body .nil pass0 (pa_cons (pe_ix (ix_tupK (K := K) rfl) (pv 1) pe_int (fun _ _ => rfl)) pa_nil)))) (pss_one (ps_if (pt_cmpR (op_in_seqK (K := K) rfl) (pv 2) (pe_tup (pa_cons pe_str (pa_cons pe_str (pa_cons pe_str pa_nil)))) (by rfl)) (pss_cons (ps_expr (pe_meth (pv 0) Z.cl m_walk_body ih (hr.mono (Nat.le_refl _)) b_walk_body .nil pass0 (pa_cons (pe_ix (ix_tupK (K := K) rfl) (pv 1) pe_int (fun _ _ => rfl)) pa_nil)))
      (pss_one (ps_expr (pe_meth (pv 0) Z.cl m_walk_body ih (hr.mono (Nat.le_refl _)) b_walk_body .nil pass0 (pa_cons (pe_ix (ix_tupK (K := K) rfl) (pv 1) pe_int (fun _ _ => rfl)) pa_nil))))) (pss_one (ps_if (pt_cmpR op_eq (pv 2) pe_str (nomark _)) (pss_one (ps_expr (pe_meth (pv 0) Z.cl m_walk_holding G_walk_holding (hr.mono (by omega)) b_walk_holding .nil pass0 (pa_cons (pe_ix (ix_tupK (K := K) rfl) (pv 1) pe_int (fun _ _ => rfl)) pa_nil)))) (pss_cons (ps_if (pt_cmpR op_eq (pv 2) pe_str (nomark _)) (pss_one (ps_expr (pe_bmK (K := K) rfl PySem.F.plainAttrs_list PySem.F.slot_list_append PySem.F.type_list_append mt_append (pe_fld (pv 0) rfl) (pa_cons (pe_ix (ix_tupK (K := K) rfl) (pv 1) pe_int (fun _ _ => rfl)) pa_nil)))) pss_nil)
      (pss_one (ps_expr (pe_meth (pv 0) Z.cl m_walk_element G_walk_element (hr.mono (by omega)) b_walk_element .nil pass0 (pa_cons (pe_ix (ix_tupK (K := K) rfl) (pv 1) pe_int (fun _ _ => rfl)) pa_nil)))))))))))), ?_⟩
      obtain ⟨dx, ho⟩ := hG.ob
      walk_at "begin"
      walk_at "go"
      cases t with
      | not b =>
        obtain ⟨p, y, rfl, hq, hy⟩ := tv_1 hv
        have hdu : b.d.depth + 1 < m + 1 := by rw [← dep1 (k := "not")]; exact hd.1
        have hnu : G.n + 4 * (b.sz + 1) ≤ 20000 := hn
        refine r_ixQ hq rfl ?_
        walk_at "go"
        rw [eqv_s, decide_eq_true rfl]
        walk_at "go"
        refine ⟨g, dx, _, rfl, ho, rfl, ?_⟩
        walk_at "go"
        refine r_ixQ hq rfl ?_
        walk_at "go"
        refine ⟨g, e, a, h, w, G, y, b, rfl, hG, hy, by walk_at "om", by walk_at "om", fun H1 hG1 k1 => ?_⟩
        walk_at "go"
        exact q H1 hG1 k1
      | bin j b c =>
        obtain ⟨p, y, z, rfl, hq, hy, hz⟩ := tv_2 hv
        have hdu : max b.d.depth c.d.depth + 1 < m + 1 := by rw [← dep2 (k := j.s)]; exact hd.1
        have hnu : G.n + 4 * (b.sz + c.sz + 1) ≤ 20000 := hn
        refine r_ixQ hq rfl ?_
        walk_at "go"
        rw [eqv_s, show decide (j.s = "not") = false by cases j <;> decide +kernel]
        walk_at "go"
        refine ⟨by walk_at "len", fun p1 np1 => ?_⟩
        refine r_inT ["and", "or", "then"] (SqT.of upd_same) ?_
        rw [if_neg Bool.false_ne_true, show decide (j.s ∈ (["and", "or", "then"] : List Str)) = true by cases j <;> decide +kernel]
        have s1 := same_new (o := HO.tup [.str "and", .str "or", .str "then"]) np1
        have hG1 := hG.mono s1
        have hq1 := sqt_s s1 hq
        have hy1 := hy.mono s1
        have hz1 := hz.mono s1
        have ho1 := s1 _ _ ho
        have k1 : Kp (Ls e a h w) H _ := Kp.of s1
        generalize upd H p1 (.tup [.str "and", .str "or", .str "then"]) = H1 at hG1 hq1 hy1 hz1 ho1 k1 ⊢
        walk_at "go"
        refine ⟨g, dx, _, rfl, ho1, rfl, ?_⟩
        walk_at "go"
        refine r_ixQ hq1 rfl ?_
        walk_at "go"
        refine ⟨g, e, a, h, w, G, y, b, rfl, hG1, hy1, by walk_at "om", by walk_at "om", fun H2 hG2 k2 => ?_⟩
        obtain ⟨dx2, ho2⟩ := hG2.ob
        have hn2 := Shp.G.bd_n b G
        have x2 := hG1.kx k2
        walk_at "go"
        refine ⟨g, dx2, _, rfl, ho2, rfl, ?_⟩
        walk_at "go"
        refine r_ixQ (sqt_kx x2 hq1) rfl ?_
        walk_at "go"
        refine ⟨g, e, a, h, w, _, z, c, rfl, hG2, hz1.kx x2, by walk_at "om", by walk_at "om", fun H3 hG3 k3 => ?_⟩
        walk_at "go"
        exact q H3 hG3 (k1.trans (k2.trans k3))
      | fact k t =>
        obtain ⟨p, y, rfl, hq, hy⟩ := tv_1 hv
        have hdu : t.d.depth + 1 < m + 1 := by rw [← dep1 (k := k.s)]; exact hd.1
        have hnu : G.n + 4 * (t.sz + 1) ≤ 20000 := hn
        have hdt : t.d.depth < n ∧ n ≤ 140 := by walk_at "om"
        refine r_ixQ hq rfl ?_
        walk_at "go"
        rw [eqv_s, show decide (k.s = "not") = false by cases k <;> decide +kernel]
        walk_at "go"
        refine ⟨by walk_at "len", fun p1 np1 => ?_⟩
        refine r_inT ["and", "or", "then"] (SqT.of upd_same) ?_
        rw [if_neg Bool.false_ne_true, show decide (k.s ∈ (["and", "or", "then"] : List Str)) = false by cases k <;> decide +kernel]
        have s1 := same_new (o := HO.tup [.str "and", .str "or", .str "then"]) np1
        have hG1 := hG.mono s1
        have hq1 := sqt_s s1 hq
        have hy1 := hy.mono s1
        have ho1 := s1 _ _ ho
        have k1 : Kp (Ls e a h w) H _ := Kp.of s1
        generalize upd H p1 (.tup [.str "and", .str "or", .str "then"]) = H1 at hG1 hq1 hy1 ho1 k1 ⊢
        walk_at "go"
        rw [eqv_s]
        cases k with
        | inside =>
          rw [show decide (Bk.inside.s = "inside") = true by decide +kernel]
          walk_at "go"
          refine ⟨g, dx, _, rfl, ho1, rfl, ?_⟩
          walk_at "go"
          refine r_ixQ hq1 rfl ?_
          walk_at "go"
          refine ⟨g, e, a, h, w, G, y, t, rfl, hG1, hy1, hdt, by walk_at "om", fun H2 hG2 k2 => ?_⟩
          walk_at "go"
          exact q H2 hG2 (k1.trans k2)
        | is =>
          rw [show decide (Bk.is.s = "inside") = false by decide +kernel]
          walk_at "go"
          rw [eqv_s, show decide (Bk.is.s = "has") = false by decide +kernel]
          walk_at "go"
          refine ⟨g, dx, _, rfl, ho1, rfl, ?_⟩
          walk_at "go"
          refine r_ixQ hq1 rfl ?_
          walk_at "go"
          refine ⟨g, e, a, h, w, G, y, t, rfl, hG1, hy1, hdt, by walk_at "om", fun H2 hG2 k2 => ?_⟩
          walk_at "go"
          exact q H2 hG2 (k1.trans k2)
        | has =>
          obtain ⟨va, ha, hal⟩ := hG1.as.len
          rw [List.length_map] at hal
          have hn3 := hnu
          unfold Shp.G.n at hn3
          have hg2 := hG1.pAs ha hy1 (by walk_at "om")
          have k2 : Kp (Ls e a h w) H1 (upd H1 a (.lst (va ++ [y]))) := Kp.put (.inr (.inl rfl))
          rw [show decide (Bk.has.s = "inside") = false by decide +kernel]
          walk_at "go"
          rw [eqv_s, show decide (Bk.has.s = "has") = true by decide +kernel]
          walk_at "go"
          refine r_fldI ho1 Z.cl Z.n2 rfl ?_
          walk_at "go"
          refine r_ixQ hq1 rfl ?_
          walk_at "go"
          have x2 := hG1.kx k2
          generalize upd H1 a (.lst (va ++ [y])) = H2 at hg2 k2 x2 ⊢
          obtain ⟨dx2, ho2⟩ := hg2.ob
          refine ⟨g, dx2, _, rfl, ho2, rfl, ?_⟩
          walk_at "go"
          refine r_ixQ (sqt_kx x2 hq1) rfl ?_
          walk_at "go"
          refine ⟨g, e, a, h, w, _, y, t, rfl, hg2, hy1.kx x2, hdt, ?_, fun H3 hG3 k3 => ?_⟩
          · unfold Shp.G.n
            simp only [List.length_append, List.length_singleton]
            walk_at "om"
          walk_at "go"
          exact q H3 hG3 (k1.trans (k2.trans k3))
end
end K16
namespace K16
open PySem PySem.Spec PyProof.Rows L2 Lw
open Sy (Bd Sg Op Fk Jn Bk)
open Shp (G isNm outer wideD)
section
variable {P : Program} {w : World} {K : PySem.W.Frag} {mg : Str → Option Value} {base : Heap} {CG : Addr}
theorem wide_dep {s : Sg} {d : PyData} (h : wideD s = some d) : d.depth ≤ s.d.depth + 1 := by
  cases s with
  | not s => cases h
  | bin j a b => cases h
  | quant ea t b =>
    cases ea with
    | true => cases h; omega
    | false =>
      cases h
      show (PyData.tuple [.str "each", t.d, (Bd.not b).d]).depth ≤ (PyData.tuple [.str "some", t.d, b.d]).depth + 1
      rw [dep2, dep2, show (Bd.not b).d.depth = b.d.depth + 1 from dep1]
      omega
  | fact k a b =>
    cases k with
    | inn => cases h
    | within => cases h; omega
    | same =>
      rw [wideD] at h
      split at h
      · cases h
      · cases h; omega
theorem ok_wfa {n : Nat} {f f1 f2 f3 f4 f5 : Addr} {fd fd1 fd2 fd3 fd4 fd5 : FuncData} (B : Blt mg) (Z : ZG K CG) (F : Fun K "walk_fact" "Gatherer.walk_fact" s_Gatherer_walk_fact f fd)
    (Dwide_fact_of : Dn K mg "wide_fact_of" s_wide_fact_of ["fact"] f1 fd1) (Gwide_fact_of : FnOk P w K mg base CX0 2 f1 fd1 ["fact"] (spWf K))
    (m_walk_holding : Meth K CG "walk_holding" f2) (b_walk_holding : Binds K fd2 ["self", "term"] []) (G_walk_holding : FnOk P w K mg base CX0 (2 + n + 1) f2 fd2 ["self", "term"] (spWHo K CG n))
    (m_walk_element : Meth K CG "walk_element" f3) (b_walk_element : Binds K fd3 ["self", "term"] []) (G_walk_element : FnOk P w K mg base CX0 (2 + n + 1) f3 fd3 ["self", "term"] (spWEl K CG n))
    (m_walk_body : Meth K CG "walk_body" f4) (b_walk_body : Binds K fd4 ["self", "body"] []) (G_walk_body : FnOk P w K mg base CX0 (2 + n + 1 + n) f4 fd4 ["self", "body"] (spWBd K CG n n))
    (m_take_wide : Meth K CG "take_wide" f5) (b_take_wide : Binds K fd5 ["self", "fact"] []) (G_take_wide : FnOk P w K mg base CX0 1 f5 fd5 ["self", "fact"] (spTWi K CG)) : FnOk P w K mg base CX0 (2 + n + 1 + n + 1) f fd ["self", "fact"] (spWFa K CG n) := by
  refine F.ok (k := 2 + n + 1 + n) sc_Gatherer_walk_fact (fun vs H Q E h => ?_) (fun cdv A outer s H vs Q E hr h => ?_)
  · obtain ⟨g, e, a, h, w, G, v, t, rfl, _⟩ := h
    rfl
  · obtain ⟨g, e, a, h, w, G, v, s, rfl, hG, hv, hd, hn, q⟩ := h
    refine ⟨_, (pss_cons (ps_set (i := 2) sc_Gatherer_walk_fact.nd rfl (.inl rfl) (pe_ix (ix_tupK (K := K) rfl) (pv 1) pe_int (fun _ _ => rfl)))
      (pss_cons (ps_set (i := 3) sc_Gatherer_walk_fact.nd rfl (.inl rfl) (pe_call Gwide_fact_of (hr.mono (by omega)) (by rfl) Dwide_fact_of.g Dwide_fact_of.F.kp Dwide_fact_of.b .nil pass0 (pa_cons (pv 1) pa_nil)))
      (pss_one (ps_if (pt_cmpR op_eq (pv 2) pe_str (nomark _)) (pss_cons (ps_expr (pe_meth (pv 0) Z.cl m_walk_element G_walk_element (hr.mono (by omega)) b_walk_element .nil pass0 (pa_cons (pe_ix (ix_tupK (K := K) rfl) (pv 1) pe_int (fun _ _ => rfl)) pa_nil)))
      (pss_one (ps_expr (pe_meth (pv 0) Z.cl m_walk_holding G_walk_holding (hr.mono (by omega)) b_walk_holding .nil pass0 (pa_cons (pe_ix (ix_tupK (K := K) rfl) (pv 1) pe_int (fun _ _ => rfl)) pa_nil))))) (pss_one (ps_if (pt_cmpR op_isN (pv 3) pe_non (nomark _)) (pss_cons (ps_expr (pe_meth (pv 0) Z.cl m_walk_element G_walk_element (hr.mono (by omega)) b_walk_element .nil pass0 (pa_cons (pe_ix (ix_tupK (K := K) rfl) (pv 1) pe_int (fun _ _ => rfl)) pa_nil)))
      (pss_one (ps_expr (pe_meth (pv 0) Z.cl m_walk_element G_walk_element (hr.mono (by omega)) b_walk_element .nil pass0 (pa_cons (pe_ix (ix_tupK (K := K) rfl) (pv 1) pe_int (fun _ _ => rfl)) pa_nil))))) (pss_cons (ps_expr (pe_meth (pv 0) Z.cl m_take_wide G_take_wide (hr.mono (by omega)) b_take_wide .nil pass0 (pa_cons (pv 3) pa_nil)))
      (pss_cons (ps_expr (pe_meth (pv 0) Z.cl m_walk_holding G_walk_holding (hr.mono (by omega)) b_walk_holding .nil pass0 (pa_cons (pe_ix (ix_tupK (K := K) rfl) (pv 1) pe_int (fun _ _ => rfl)) pa_nil)))
      (pss_one (ps_if (pt_cmpR (op_in_seqK (K := K) rfl) (pv 2) (pe_tup (pa_cons pe_str (pa_cons pe_str pa_nil))) (by rfl)) (pss_one (ps_expr (pe_meth (pv 0) Z.cl m_walk_body G_walk_body (hr.mono (by omega)) b_walk_body .nil pass0 (pa_cons (pe_ix (ix_tupK (K := K) rfl) (pv 1) pe_int (fun _ _ => rfl)) pa_nil)))) (pss_one (ps_expr (pe_meth (pv 0) Z.cl m_walk_holding G_walk_holding (hr.mono (by omega)) b_walk_holding .nil pass0 (pa_cons (pe_ix (ix_tupK (K := K) rfl) (pv 1) pe_int (fun _ _ => rfl)) pa_nil)))))))))))))), ?_⟩
    obtain ⟨dx, ho⟩ := hG.ob
    have hd : isF s = true ∧ s.d.depth < n ∧ n ≤ 130 := hd
    walk_at "begin"
    walk_at "go"
    cases s with
    | not s => cases hd.1
    | bin j a b => cases hd.1
    | quant ea t b =>
      obtain ⟨p, x, y, rfl, hq, hx, hy⟩ := tv_2 hv
      have hdu : max t.d.depth b.d.depth + 1 < n := by rw [← dep2 (k := if ea = true then "each" else "some")]; exact hd.2.1
      have hnu : G.n + 4 * (t.sz + b.sz + 1) ≤ 20000 := hn
      have hk : (if ea = true then ("each" : Str) else "some") ≠ "in" ∧ (if ea = true then ("each" : Str) else "some") ∈ (["each", "some"] : List Str) := by cases ea <;> decide +kernel
      obtain ⟨D, hD, hact⟩ : ∃ D, wideD (.quant ea t b) = some D ∧ Shp.G.sg (.quant ea t b) G = Shp.G.bd b (Shp.G.hold t (Shp.G.wide D G)) := by cases ea <;> exact ⟨_, rfl, rfl⟩
      have hDd := wide_dep hD
      refine r_ixQ hq rfl ?_
      walk_at "go"
      refine ⟨_, _, rfl, hv, rfl, (fun z => by rw [hD] at z; cases z), fun d hd2 H1 p1 s1 hp1 => ?_⟩
      rw [hD] at hd2
      cases hd2
      have hG1 := hG.mono s1
      have hq1 := sqt_s s1 hq
      have hx1 := hx.mono s1
      have hy1 := hy.mono s1
      have ho1 := s1 _ _ ho
      walk_at "go"
      rw [eqv_s, decide_eq_false hk.1]
      walk_at "go"
      refine ⟨rfl, ?_⟩
      rw [decide_eq_false (fun z => nomatch z)]
      walk_at "go"
      refine ⟨g, dx, _, rfl, ho1, rfl, ?_⟩
      walk_at "go"
      refine ⟨g, e, a, h, w, G, _, D, rfl, hG1, hp1, by walk_at "om", by walk_at "om", fun H2 hG2 k2 => ?_⟩
      obtain ⟨dx2, ho2⟩ := hG2.ob
      have hn2 := Shp.G.wide_n D G
      have x2 := hG1.kx k2
      have hq2 := sqt_kx x2 hq1
      walk_at "go"
      refine ⟨g, dx2, _, rfl, ho2, rfl, ?_⟩
      walk_at "go"
      refine r_ixQ hq2 rfl ?_
      walk_at "go"
      refine ⟨g, e, a, h, w, _, x, t, rfl, hG2, hx1.kx x2, by walk_at "om", by walk_at "om", fun H3 hG3 k3 => ?_⟩
      obtain ⟨dx3, ho3⟩ := hG3.ob
      have hn3 := Shp.G.hold_n t (Shp.G.wide D G)
      have x3 := hG2.kx k3
      have ht1 := Shp.Tm.one t
      walk_at "go"
      refine ⟨by walk_at "len", fun p4 np4 => ?_⟩
      refine r_inT ["each", "some"] (SqT.of upd_same) ?_
      rw [if_neg Bool.false_ne_true, decide_eq_true hk.2]
      have s4 := same_new (o := HO.tup [.str "each", .str "some"]) np4
      have hG4 := hG3.mono s4
      have hq4 := sqt_s s4 (sqt_kx x3 hq2)
      have hy4 := ((hy1.kx x2).kx x3).mono s4
      have ho4 := s4 _ _ ho3
      have k4 : Kp (Ls e a h w) H _ := (Kp.of s1).trans (k2.trans (k3.trans (Kp.of s4)))
      generalize upd H3 p4 (.tup [.str "each", .str "some"]) = H4 at hG4 hq4 hy4 ho4 k4 ⊢
      walk_at "go"
      refine ⟨g, dx3, _, rfl, ho4, rfl, ?_⟩
      walk_at "go"
      refine r_ixQ hq4 rfl ?_
      walk_at "go"
      refine ⟨g, e, a, h, w, _, y, b, rfl, hG4, hy4, by walk_at "om", by walk_at "om", fun H5 hG5 k5 => ?_⟩
      walk_at "go"
      exact q H5 (by rw [hact]; exact hG5) (k4.trans k5)
    | fact k t b =>
      obtain ⟨p, x, y, rfl, hq, hx, hy⟩ := tv_2 hv
      have hdu : max t.d.depth b.d.depth + 1 < n := by rw [← dep2 (k := k.s)]; exact hd.2.1
      have hnu : G.n + 4 * (t.sz + b.sz + 1) ≤ 20000 := hn
      have ht1 := Shp.Tm.one t
      have hb1 := Shp.Tm.one b
      refine r_ixQ hq rfl ?_
      walk_at "go"
      by_cases hin : k = .inn
      · subst hin
        refine ⟨_, _, rfl, hv, rfl, fun _ => ?_, fun d hd2 => nomatch hd2⟩
        walk_at "go"
        rw [eqv_s, show decide (Fk.inn.s = "in") = true by decide +kernel]
        walk_at "go"
        refine ⟨g, dx, _, rfl, ho, rfl, ?_⟩
        walk_at "go"
        refine r_ixQ hq rfl ?_
        walk_at "go"
        refine ⟨g, e, a, h, w, G, x, t, rfl, hG, hx, by walk_at "om", by walk_at "om", fun H2 hG2 k2 => ?_⟩
        obtain ⟨dx2, ho2⟩ := hG2.ob
        have hn2 := Shp.G.elem_n t G
        have x2 := hG.kx k2
        walk_at "go"
        refine ⟨g, dx2, _, rfl, ho2, rfl, ?_⟩
        walk_at "go"
        refine r_ixQ (sqt_kx x2 hq) rfl ?_
        walk_at "go"
        refine ⟨g, e, a, h, w, _, y, b, rfl, hG2, hy.kx x2, by walk_at "om", by walk_at "om", fun H3 hG3 k3 => ?_⟩
        walk_at "go"
        exact q H3 hG3 (k2.trans k3)
      have hki : decide (k.s = "in") = false := by cases k <;> first | exact absurd rfl hin | decide +kernel
      have hke : decide (k.s ∈ (["each", "some"] : List Str)) = false := by cases k <;> decide +kernel
      cases hw : wideD (.fact k t b) with
      | none =>
        have hact : Shp.G.sg (.fact k t b) G = Shp.G.elem b (Shp.G.elem t G) := by
          cases k with
          | inn => exact absurd rfl hin
          | within => cases hw
          | same =>
            rw [wideD] at hw
            rw [Shp.G.sg]
            split at hw
            · rename_i z; rw [if_pos z]
            · cases hw
        refine ⟨_, _, rfl, hv, rfl, fun _ => ?_, (fun d hd2 => by rw [hw] at hd2; cases hd2)⟩
        walk_at "go"
        rw [eqv_s, hki]
        walk_at "go"
        refine ⟨rfl, ?_⟩
        rw [decide_eq_true rfl]
        walk_at "go"
        refine ⟨g, dx, _, rfl, ho, rfl, ?_⟩
        walk_at "go"
        refine r_ixQ hq rfl ?_
        walk_at "go"
        refine ⟨g, e, a, h, w, G, x, t, rfl, hG, hx, by walk_at "om", by walk_at "om", fun H2 hG2 k2 => ?_⟩
        obtain ⟨dx2, ho2⟩ := hG2.ob
        have hn2 := Shp.G.elem_n t G
        have x2 := hG.kx k2
        walk_at "go"
        refine ⟨g, dx2, _, rfl, ho2, rfl, ?_⟩
        walk_at "go"
        refine r_ixQ (sqt_kx x2 hq) rfl ?_
        walk_at "go"
        refine ⟨g, e, a, h, w, _, y, b, rfl, hG2, hy.kx x2, by walk_at "om", by walk_at "om", fun H3 hG3 k3 => ?_⟩
        walk_at "go"
        exact q H3 (by rw [hact]; exact hG3) (k2.trans k3)
      | some D =>
        have hact : Shp.G.sg (.fact k t b) G = Shp.G.hold b (Shp.G.hold t (Shp.G.wide D G)) := by
          cases k with
          | inn => exact absurd rfl hin
          | within => cases hw; rfl
          | same =>
            rw [wideD] at hw
            rw [Shp.G.sg]
            split at hw
            · cases hw
            · rename_i z; rw [if_neg z]; cases hw; rfl
        have hDd := wide_dep hw
        refine ⟨_, _, rfl, hv, rfl, (fun z => by rw [hw] at z; cases z), fun d hd2 H1 p1 s1 hp1 => ?_⟩
        rw [hw] at hd2
        cases hd2
        have hG1 := hG.mono s1
        have hq1 := sqt_s s1 hq
        have hx1 := hx.mono s1
        have hy1 := hy.mono s1
        have ho1 := s1 _ _ ho
        walk_at "go"
        rw [eqv_s, hki]
        walk_at "go"
        refine ⟨rfl, ?_⟩
        rw [decide_eq_false (fun z => nomatch z)]
        walk_at "go"
        refine ⟨g, dx, _, rfl, ho1, rfl, ?_⟩
        walk_at "go"
        refine ⟨g, e, a, h, w, G, _, D, rfl, hG1, hp1, by walk_at "om", by walk_at "om", fun H2 hG2 k2 => ?_⟩
        obtain ⟨dx2, ho2⟩ := hG2.ob
        have hn2 := Shp.G.wide_n D G
        have x2 := hG1.kx k2
        have hq2 := sqt_kx x2 hq1
        walk_at "go"
        refine ⟨g, dx2, _, rfl, ho2, rfl, ?_⟩
        walk_at "go"
        refine r_ixQ hq2 rfl ?_
        walk_at "go"
        refine ⟨g, e, a, h, w, _, x, t, rfl, hG2, hx1.kx x2, by walk_at "om", by walk_at "om", fun H3 hG3 k3 => ?_⟩
        obtain ⟨dx3, ho3⟩ := hG3.ob
        have hn3 := Shp.G.hold_n t (Shp.G.wide D G)
        have x3 := hG2.kx k3
        walk_at "go"
        refine ⟨by walk_at "len", fun p4 np4 => ?_⟩
        refine r_inT ["each", "some"] (SqT.of upd_same) ?_
        rw [if_neg Bool.false_ne_true, hke]
        have s4 := same_new (o := HO.tup [.str "each", .str "some"]) np4
        have hG4 := hG3.mono s4
        have hq4 := sqt_s s4 (sqt_kx x3 hq2)
        have hy4 := ((hy1.kx x2).kx x3).mono s4
        have ho4 := s4 _ _ ho3
        have k4 : Kp (Ls e a h w) H _ := (Kp.of s1).trans (k2.trans (k3.trans (Kp.of s4)))
        generalize upd H3 p4 (.tup [.str "each", .str "some"]) = H4 at hG4 hq4 hy4 ho4 k4 ⊢
        walk_at "go"
        refine ⟨g, dx3, _, rfl, ho4, rfl, ?_⟩
        walk_at "go"
        refine r_ixQ hq4 rfl ?_
        walk_at "go"
        refine ⟨g, e, a, h, w, _, y, b, rfl, hG4, hy4, by walk_at "om", by walk_at "om", fun H5 hG5 k5 => ?_⟩
        walk_at "go"
        exact q H5 (by rw [hact]; exact hG5) (k4.trans k5)
theorem rd_wsg {n : Nat} {f f1 : Addr} {fd fd1 : FuncData} (B : Blt mg) (Z : ZG K CG) (F : Fun K "walk_saying" "Gatherer.walk_saying" s_Gatherer_walk_saying f fd) (b_walk_saying : Binds K fd ["self", "saying"] []) (m_walk_saying : Meth K CG "walk_saying" f) (m_walk_fact : Meth K CG "walk_fact" f1) (b_walk_fact : Binds K fd1 ["self", "fact"] []) (G_walk_fact : FnOk P w K mg base CX0 (2 + n + 1 + n + 1) f1 fd1 ["self", "fact"] (spWFa K CG n)) : ∀ m, FnOk P w K mg base CX0 (2 + n + 1 + n + 1 + m) f fd ["self", "saying"] (spWSg K CG n m)
  | 0 => ⟨fun vs H Q E h => (by obtain ⟨g, e, a, h, w, G, v, t, rfl, _⟩ := h; rfl), fun A outer s H args us vs Q E hr e0 hb r h => (by obtain ⟨g, e, a, h, w, G, v, t, _, _, _, hd, _⟩ := h; exact absurd hd.1 (Nat.not_lt_zero _))⟩
  | m + 1 => by
    have ih := rd_wsg B Z F b_walk_saying m_walk_saying m_walk_fact b_walk_fact G_walk_fact m
    refine F.ok (k := 2 + n + 1 + n + 1 + m) sc_Gatherer_walk_saying (fun vs H Q E h => ?_) (fun cdv A outer s H vs Q E hr h => ?_)
    · obtain ⟨g, e, a, h, w, G, v, t, rfl, _⟩ := h
      rfl
    · obtain ⟨g, e, a, h, w, G, v, t, rfl, hG, hv, hd, hn, q⟩ := h
      refine ⟨_, (pss_cons (ps_set (i := 2) sc_Gatherer_walk_saying.nd rfl (.inl rfl) (pe_ix (ix_tupK (K := K) rfl) (pv 1) pe_int (fun _ _ => rfl)))
      (pss_one (ps_if (pt_cmpR op_eq (pv 2) pe_str (nomark _)) (pss_one (ps_expr (pe_meth (pv 0) Z.cl m_walk_saying ih (hr.mono (Nat.le_refl _)) b_walk_saying .nil pass0 (pa_cons (pe_ix (ix_tupK (K := K) rfl) (pv 1) pe_int (fun _ _ => rfl)) pa_nil)))) (pss_one (ps_if (pt_cmpR (op_in_seqK (K := K) rfl) (pv 2) (pe_tup (pa_cons pe_str (pa_cons pe_str (pa_cons pe_str pa_nil)))) (by rfl)) (pss_cons (ps_expr (pe_meth (pv 0) Z.cl m_walk_saying ih (hr.mono (Nat.le_refl _)) b_walk_saying .nil pass0 (pa_cons (pe_ix (ix_tupK (K := K) rfl) (pv 1) pe_int (fun _ _ => rfl)) pa_nil)))
      (pss_one (ps_expr (pe_meth (pv 0) Z.cl m_walk_saying ih (hr.mono (Nat.le_refl _)) b_walk_saying .nil pass0 (pa_cons (pe_ix (ix_tupK (K := K) rfl) (pv 1) pe_int (fun _ _ => rfl)) pa_nil))))) (pss_one (ps_expr (pe_meth (pv 0) Z.cl m_walk_fact G_walk_fact (hr.mono (by omega)) b_walk_fact .nil pass0 (pa_cons (pv 1) pa_nil))))))))), ?_⟩
      obtain ⟨dx, ho⟩ := hG.ob
      have hd : t.d.depth < m + 1 ∧ m + 1 ≤ n ∧ n ≤ 130 := hd
      walk_at "begin"
      walk_at "go"
      cases t with
      | not b =>
        obtain ⟨p, y, rfl, hq, hy⟩ := tv_1 hv
        have hdu : b.d.depth + 1 < m + 1 := by rw [← dep1 (k := "not")]; exact hd.1
        have hnu : G.n + 4 * (b.sz + 1) ≤ 20000 := hn
        refine r_ixQ hq rfl ?_
        walk_at "go"
        rw [eqv_s, decide_eq_true rfl]
        walk_at "go"
        refine ⟨g, dx, _, rfl, ho, rfl, ?_⟩
        walk_at "go"
        refine r_ixQ hq rfl ?_
        walk_at "go"
        refine ⟨g, e, a, h, w, G, y, b, rfl, hG, hy, by walk_at "om", by walk_at "om", fun H1 hG1 k1 => ?_⟩
        walk_at "go"
        exact q H1 hG1 k1
      | bin j b c =>
        obtain ⟨p, y, z, rfl, hq, hy, hz⟩ := tv_2 hv
        have hdu : max b.d.depth c.d.depth + 1 < m + 1 := by rw [← dep2 (k := j.s)]; exact hd.1
        have hnu : G.n + 4 * (b.sz + c.sz + 1) ≤ 20000 := hn
        refine r_ixQ hq rfl ?_
        walk_at "go"
        rw [eqv_s, show decide (j.s = "not") = false by cases j <;> decide +kernel]
        walk_at "go"
        refine ⟨by walk_at "len", fun p1 np1 => ?_⟩
        refine r_inT ["and", "or", "then"] (SqT.of upd_same) ?_
        rw [if_neg Bool.false_ne_true, show decide (j.s ∈ (["and", "or", "then"] : List Str)) = true by cases j <;> decide +kernel]
        have s1 := same_new (o := HO.tup [.str "and", .str "or", .str "then"]) np1
        have hG1 := hG.mono s1
        have hq1 := sqt_s s1 hq
        have hy1 := hy.mono s1
        have hz1 := hz.mono s1
        have ho1 := s1 _ _ ho
        have k1 : Kp (Ls e a h w) H _ := Kp.of s1
        generalize upd H p1 (.tup [.str "and", .str "or", .str "then"]) = H1 at hG1 hq1 hy1 hz1 ho1 k1 ⊢
        walk_at "go"
        refine ⟨g, dx, _, rfl, ho1, rfl, ?_⟩
        walk_at "go"
        refine r_ixQ hq1 rfl ?_
        walk_at "go"
        refine ⟨g, e, a, h, w, G, y, b, rfl, hG1, hy1, by walk_at "om", by walk_at "om", fun H2 hG2 k2 => ?_⟩
        obtain ⟨dx2, ho2⟩ := hG2.ob
        have hn2 := Shp.G.sg_n b G
        have x2 := hG1.kx k2
        walk_at "go"
        refine ⟨g, dx2, _, rfl, ho2, rfl, ?_⟩
        walk_at "go"
        refine r_ixQ (sqt_kx x2 hq1) rfl ?_
        walk_at "go"
        refine ⟨g, e, a, h, w, _, z, c, rfl, hG2, hz1.kx x2, by walk_at "om", by walk_at "om", fun H3 hG3 k3 => ?_⟩
        walk_at "go"
        exact q H3 hG3 (k1.trans (k2.trans k3))
      | fact k t b =>
        obtain ⟨p, y, z, rfl, hq, hy, hz⟩ := tv_2 hv
        refine r_ixQ hq rfl ?_
        walk_at "go"
        rw [eqv_s, show decide (k.s = "not") = false by cases k <;> decide +kernel]
        walk_at "go"
        refine ⟨by walk_at "len", fun p1 np1 => ?_⟩
        refine r_inT ["and", "or", "then"] (SqT.of upd_same) ?_
        rw [if_neg Bool.false_ne_true, show decide (k.s ∈ (["and", "or", "then"] : List Str)) = false by cases k <;> decide +kernel]
        have s1 := same_new (o := HO.tup [.str "and", .str "or", .str "then"]) np1
        walk_at "go"
        refine ⟨g, dx, _, rfl, s1 _ _ ho, rfl, ?_⟩
        walk_at "go"
        refine ⟨g, e, a, h, w, G, _, _, rfl, hG.mono s1, hv.mono s1, ⟨rfl, by walk_at "om", by walk_at "om"⟩, hn, fun H2 hG2 k2 => ?_⟩
        walk_at "go"
        exact q H2 hG2 ((Kp.of s1).trans k2)
      | quant ea t b =>
        obtain ⟨p, y, z, rfl, hq, hy, hz⟩ := tv_2 hv
        refine r_ixQ hq rfl ?_
        walk_at "go"
        rw [eqv_s, show decide ((if ea = true then ("each" : Str) else "some") = "not") = false by cases ea <;> decide +kernel]
        walk_at "go"
        refine ⟨by walk_at "len", fun p1 np1 => ?_⟩
        refine r_inT ["and", "or", "then"] (SqT.of upd_same) ?_
        rw [if_neg Bool.false_ne_true, show decide ((if ea = true then ("each" : Str) else "some") ∈ (["and", "or", "then"] : List Str)) = false by cases ea <;> decide +kernel]
        have s1 := same_new (o := HO.tup [.str "and", .str "or", .str "then"]) np1
        walk_at "go"
        refine ⟨g, dx, _, rfl, s1 _ _ ho, rfl, ?_⟩
        walk_at "go"
        refine ⟨g, e, a, h, w, G, _, _, rfl, hG.mono s1, hv.mono s1, ⟨rfl, by walk_at "om", by walk_at "om"⟩, hn, fun H2 hG2 k2 => ?_⟩
        walk_at "go"
        exact q H2 hG2 ((Kp.of s1).trans k2)
end
end K16
namespace K16
open PySem PySem.Spec PyProof.Rows L2 Lw
open Sy (Bd Sg Op Fk Jn Bk)
open Shp (G isNm outer wideD)
theorem call_boolLK {X : Cx} {K : PySem.W.Frag} (h : X.K = K) : CallR X (.type "bool") (fun xs H Q => ∃ (a : Addr) (zs : List V), xs = [.ref a] ∧ SqL K H a zs ∧ Q (.bl (!zs.isEmpty)) H) := by subst h; exact call_boolL
/-- what the class Shape is -/
structure ZS (K : PySem.W.Frag) (CS : Addr) : Prop where
  cl : Cls K CS
  n1 : NoAttr K CS "saying"
  n2 : NoAttr K CS "element_terms"
  n3 : NoAttr K CS "wide_facts"
  n4 : NoAttr K CS "asked"
  n5 : NoAttr K CS "holders"
  n6 : NoAttr K CS "free"
  n7 : NoAttr K CS "weight"
  n8 : NoAttr K CS "depth"
section
variable {P : Program} {w : World} {K : PySem.W.Frag} {mg : Str → Option Value} {base : Heap} {CG CS : Addr}
def gf1 (e : Addr) : List (Str × V) := [("element_terms", .ref e)]
def gf2 (e a : Addr) : List (Str × V) := [("element_terms", .ref e), ("asked_terms", .ref a)]
def gf3 (e a h : Addr) : List (Str × V) := [("element_terms", .ref e), ("asked_terms", .ref a), ("holding_terms", .ref h)]
theorem giStep {H Hk : Hp} {x p C dx : Addr} {fs fs' : List (Str × V)} (k : Kp (· = x) H Hk) (hx : Hk x = some (.ins C dx fs)) (np : Hk p = none) :
    (upd (upd Hk p (.lst [])) x (.ins C dx fs')) x = some (.ins C dx fs') ∧ (upd (upd Hk p (.lst [])) x (.ins C dx fs')) p = some (.lst []) ∧ Kp (· = x) H (upd (upd Hk p (.lst [])) x (.ins C dx fs')) ∧ H p = none ∧
    (upd Hk p (.lst [])) x = some (.ins C dx fs) ∧ ∀ q o, q ≠ x → Hk q = some o → (upd (upd Hk p (.lst [])) x (.ins C dx fs')) q = some o ∧ q ≠ p := by
  have hpx : p ≠ x := fun z => by rw [z, hx] at np; cases np
  refine ⟨upd_same, by rw [upd_ne hpx, upd_same], fun c o e n => ?_, ?_, by rw [upd_ne hpx.symm]; exact hx, fun q o n e => ?_⟩
  · have h1 := k c o e n
    have : c ≠ p := fun z => by rw [z, np] at h1; cases h1
    rw [upd_ne n, upd_ne this]; exact h1
  · cases e : H p with
    | none => rfl
    | some o => rw [k p o e hpx] at np; cases np
  · have : q ≠ p := fun z => by rw [z, np] at e; cases e
    exact ⟨by rw [upd_ne n, upd_ne this]; exact e, this⟩
def spGi (CG : Addr) : Sp := fun vs H Q _ => ∃ (x dx : Addr), vs = [.ref x] ∧ H x = some (.ins CG dx []) ∧ ∀ H' e a h w, Kp (· = x) H H' → H e = none → H a = none → H h = none → H w = none → e ≠ a ∧ e ≠ h ∧ e ≠ w ∧ a ≠ h ∧ a ≠ w ∧ h ≠ w →
  H' x = some (.ins CG dx (gf e a h w)) → H' e = some (.lst []) → H' a = some (.lst []) → H' h = some (.lst []) → H' w = some (.lst []) → Q .non H'
theorem ok_gi {f : Addr} {fd : FuncData} (B : Blt mg) (Z : ZG K CG) (F : Fun K "__init__" "Gatherer.__init__" s_Gatherer___init__ f fd) : FnOk P w K mg base CX0 1 f fd ["self"] (spGi CG) := by
  refine F.ok (k := 0) sc_Gatherer___init__ (fun vs H Q E h => ?_) (fun cdv A outer s H vs Q E hr h => ?_)
  · obtain ⟨x, dx, rfl, _⟩ := h
    rfl
  · obtain ⟨x, dx, rfl, hx, q⟩ := h
    refine ⟨_, (pss_cons (ps_fld (pv 0) (pe_lst pa_nil) rfl)
      (pss_cons (ps_fld (pv 0) (pe_lst pa_nil) rfl)
      (pss_cons (ps_fld (pv 0) (pe_lst pa_nil) rfl)
      (pss_one (ps_fld (pv 0) (pe_lst pa_nil) rfl))))), ?_⟩
    walk_at "begin"
    walk_at "go"
    refine ⟨by walk_at "len", fun e ne => ?_⟩
    obtain ⟨x1, e1, k1, ne0, xa1, o1⟩ := giStep (fs' := gf1 e) (Kp.of (Same.refl H)) hx ne
    walk_at "go"
    refine r_sFldI xa1 Z.cl Z.n1 (show 0 < 1000 by decide) ?_
    rw [show putF "element_terms" (.ref e) ([] : List (Str × V)) = gf1 e from rfl]
    clear o1
    generalize upd (upd H e (.lst [])) x (.ins CG dx (gf1 e)) = H1 at x1 e1 k1 ⊢
    have hex : e ≠ x := fun z => by rw [z, x1] at e1; cases e1
    walk_at "go"
    refine ⟨by walk_at "len", fun a na => ?_⟩
    obtain ⟨x2, a2, k2, na0, xa2, o2⟩ := giStep (fs' := gf2 e a) k1 x1 na
    obtain ⟨e2, hea⟩ := o2 e _ hex e1
    clear o2
    walk_at "go"
    refine r_sFldI xa2 Z.cl Z.n2 (show 1 < 1000 by decide) ?_
    rw [show putF "asked_terms" (.ref a) (gf1 e) = gf2 e a from rfl]
    generalize upd (upd H1 a (.lst [])) x (.ins CG dx (gf2 e a)) = H2 at x2 a2 e2 k2 ⊢
    have hax : a ≠ x := fun z => by rw [z, x2] at a2; cases a2
    walk_at "go"
    refine ⟨by walk_at "len", fun h nh => ?_⟩
    obtain ⟨x3, h3, k3, nh0, xa3, o3⟩ := giStep (fs' := gf3 e a h) k2 x2 nh
    obtain ⟨e3, heh⟩ := o3 e _ hex e2
    obtain ⟨a3, hah⟩ := o3 a _ hax a2
    clear o3
    walk_at "go"
    refine r_sFldI xa3 Z.cl Z.n3 (show 2 < 1000 by decide) ?_
    rw [show putF "holding_terms" (.ref h) (gf2 e a) = gf3 e a h from rfl]
    generalize upd (upd H2 h (.lst [])) x (.ins CG dx (gf3 e a h)) = H3 at x3 h3 a3 e3 k3 ⊢
    have hhx : h ≠ x := fun z => by rw [z, x3] at h3; cases h3
    walk_at "go"
    refine ⟨by walk_at "len", fun w nw => ?_⟩
    obtain ⟨x4, w4, k4, nw0, xa4, o4⟩ := giStep (fs' := gf e a h w) k3 x3 nw
    obtain ⟨e4, hew⟩ := o4 e _ hex e3
    obtain ⟨a4, haw⟩ := o4 a _ hax a3
    obtain ⟨h4, hhw⟩ := o4 h _ hhx h3
    walk_at "go"
    refine r_sFldI xa4 Z.cl Z.n4 (show 3 < 1000 by decide) ?_
    rw [show putF "wide_facts" (.ref w) (gf3 e a h) = gf e a h w from rfl]
    walk_at "go"
    exact q _ e a h w k4 ne0 na0 nh0 nw0 ⟨hea, heh, hew, hah, haw, hhw⟩ x4 e4 a4 h4 w4
/-- the fields of a shape -/
def sf (v : V) (e w al hl fl : Addr) (W D : Int) : List (Str × V) := [("saying", v), ("element_terms", .ref e), ("wide_facts", .ref w), ("asked", .ref al), ("holders", .ref hl), ("free", .ref fl), ("weight", .int W), ("depth", .int D)]
def sfp1 (v : V) : List (Str × V) := [("saying", v)]
def sfp2 (v : V) (e : Addr) : List (Str × V) := [("saying", v), ("element_terms", .ref e)]
def sfp3 (v : V) (e w : Addr) : List (Str × V) := [("saying", v), ("element_terms", .ref e), ("wide_facts", .ref w)]
def sfp4 (v : V) (e w al : Addr) : List (Str × V) := [("saying", v), ("element_terms", .ref e), ("wide_facts", .ref w), ("asked", .ref al)]
def sfp5 (v : V) (e w al hl : Addr) : List (Str × V) := [("saying", v), ("element_terms", .ref e), ("wide_facts", .ref w), ("asked", .ref al), ("holders", .ref hl)]
def sfp6 (v : V) (e w al hl fl : Addr) : List (Str × V) := [("saying", v), ("element_terms", .ref e), ("wide_facts", .ref w), ("asked", .ref al), ("holders", .ref hl), ("free", .ref fl)]
def sfp7 (v : V) (e w al hl fl : Addr) (W : Int) : List (Str × V) := [("saying", v), ("element_terms", .ref e), ("wide_facts", .ref w), ("asked", .ref al), ("holders", .ref hl), ("free", .ref fl), ("weight", .int W)]
/-- where the elements are of which p holds -/
def ix (l : List Sy.Tm) (p : Sy.Tm → Bool) : List Int := pick l.length fun i => (l[i]?).elim false p
def frT (hs : List Str) (t : Sy.Tm) : Bool := isNm t && decide ((outer t).headD "" ∉ hs)
/-- the shape of s at x -/
def ShAt (K : PySem.W.Frag) (CS : Addr) (H : Hp) (x : Addr) (v : V) (s : Sg) : Prop := ∃ (dx e w al hl fl : Addr) (W D : Int) (hs l : List Str), H x = some (.ins CS dx (sf v e w al hl fl W D)) ∧ LA K H e ((Shp.G.sg s Shp.G0).el.map Sy.Tm.d) ∧ LA K H w (Shp.G.sg s Shp.G0).wi ∧
  H al = some (.lst ((ix (Shp.G.sg s Shp.G0).el fun t => decide (t ∈ (Shp.G.sg s Shp.G0).as)).map V.int)) ∧ hs = Ak.sortT l ∧ l.Nodup ∧ (∀ y, y ∈ l ↔ y ∈ Shp.hoNs (Shp.G.sg s Shp.G0)) ∧ H hl = some (.lst (hs.map V.str)) ∧ hs.length ≤ 60 ∧
  H fl = some (.lst ((ix (Shp.G.sg s Shp.G0).el (frT hs)).map V.int))
def spShI (K : PySem.W.Frag) (CS : Addr) (n : Nat) : Sp := fun vs H Q _ => ∃ (x dx : Addr) (v : V) (s : Sg), vs = [.ref x, v] ∧ H x = some (.ins CS dx []) ∧ Tv K H v s.d ∧ s.d.depth < n ∧ n ≤ 130 ∧ s.sz ≤ 200 ∧ (∃ N0 : List Str, N0.length ≤ 60 ∧ ∀ y ∈ s.ns, y ∈ N0) ∧
  ∀ H', Kp (· = x) H H' → ShAt K CS H' x v s → Q .non H'
theorem la_at {H : Hp} {p : Addr} {ts : List Sy.Tm} {xs : List V} {i : Nat} {x : V} (h : LA K H p (ts.map Sy.Tm.d)) (e : H p = some (.lst xs)) (hx : xs[i]? = some x) : ∃ t, ts[i]? = some t ∧ Tv K H x t.d ∧ t.d.depth ≤ 140 := by
  obtain ⟨vs, h1, h2, h3⟩ := h
  obtain rfl : vs = xs := by rw [e] at h1; injection h1 with h1; injection h1 with h1; exact h1.symm
  obtain ⟨d, hd, hdp⟩ := dpAll_at h2 hx
  rw [List.getElem?_map] at hd
  cases ht : ts[i]? with
  | none => rw [ht] at hd; cases hd
  | some t =>
    rw [ht] at hd
    cases hd
    have := h3 _ (List.mem_map.mpr ⟨t, List.mem_of_getElem? ht, rfl⟩)
    exact ⟨t, rfl, ⟨hdp, this.1⟩, this.2⟩
theorem sub_len {l N0 : List Str} (hn : l.Nodup) (h : ∀ y ∈ l, y ∈ N0) : l.length ≤ N0.length := by
  induction l generalizing N0 with
  | nil => exact Nat.zero_le _
  | cons a l ih =>
    have ha := h a List.mem_cons_self
    have hn2 := List.nodup_cons.mp hn
    have : l.length ≤ (N0.erase a).length := ih hn2.2 fun y hy => (List.mem_erase_of_ne (fun e => hn2.1 (by rw [← e]; exact hy))).mpr (h y (List.mem_cons_of_mem _ hy))
    rw [List.length_erase_of_mem ha] at this
    have := List.length_pos_of_mem ha
    rw [List.length_cons]; omega
def KY (H H' : Hp) : Prop := ∀ c o, H c = some o → (∀ ys, o ≠ .lst ys) → (∀ C dx fs, o ≠ .ins C dx fs) → H' c = some o
theorem KY.of {H H' : Hp} (s : Same H H') : KY H H' := fun c o e _ _ => s c o e
theorem KY.put {H : Hp} {x C dx : Addr} {fs : List (Str × V)} {o : HO} (h : H x = some (.ins C dx fs)) : KY H (upd H x o) := fun c y e _ n => by
  rw [upd_ne (fun z => by rw [z, h] at e; cases e; exact n _ _ _ rfl)]; exact e
mutual
theorem dp_ky {H H' : Hp} (s : KY H H') : ∀ {v : V} {d : PyData}, Dp K H v d → NLd d → Dp K H' v d
  | _, _, .non, _ => .non
  | _, _, .bl b, _ => .bl b
  | _, _, .int i, _ => .int i
  | _, _, .str x, _ => .str x
  | _, _, .lst h q, n => by cases n
  | _, _, .tup h q, n => .tup (h.imp (fun h => h.imp (fun h => s _ _ h (fun _ e => by cases e) (fun _ _ _ e => by cases e)) (fun ⟨o, h⟩ => ⟨o, s _ _ h (fun _ e => by cases e) (fun _ _ _ e => by cases e)⟩)) id) (dpAll_ky s q (by cases n with | tup h => exact h))
theorem dpAll_ky {H H' : Hp} (s : KY H H') : ∀ {vs : List V} {ds : List PyData}, DpAll K H vs ds → (∀ d ∈ ds, NLd d) → DpAll K H' vs ds
  | _, _, .nil, _ => .nil
  | _, _, .cons h q, n => .cons (dp_ky s h (n _ List.mem_cons_self)) (dpAll_ky s q fun d hd => n d (List.mem_cons_of_mem _ hd))
end
theorem LA.ky {H H' : Hp} {p : Addr} {ds : List PyData} (s : KY H H') (e : ∀ vs, H p = some (.lst vs) → H' p = some (.lst vs)) (h : LA K H p ds) : LA K H' p ds := by
  obtain ⟨vs, h1, h2, h3⟩ := h
  exact ⟨vs, e _ h1, dpAll_ky s h2 (fun d hd => (h3 d hd).1.2), h3⟩
structure Pre (K : PySem.W.Frag) (CS : Addr) (H : Hp) (x dx e w al hl : Addr) (GG : Shp.G) (As : List Int) (hs : List Str) (H' : Hp) (fs : List (Str × V)) : Prop where
  kp : Kp (· = x) H H'
  ob : H' x = some (.ins CS dx fs)
  le : LA K H' e (GG.el.map Sy.Tm.d)
  lw : LA K H' w GG.wi
  ha : H' al = some (.lst (As.map V.int))
  hh : H' hl = some (.lst (hs.map V.str))
theorem Pre.same {H H' H'' : Hp} {x dx e w al hl : Addr} {GG : Shp.G} {As : List Int} {hs : List Str} {fs : List (Str × V)} (p : Pre K CS H x dx e w al hl GG As hs H' fs) (s : Same H' H'') : Pre K CS H x dx e w al hl GG As hs H'' fs :=
  ⟨p.kp.trans (Kp.of s), s _ _ p.ob, p.le.mono s, p.lw.mono s, s _ _ p.ha, s _ _ p.hh⟩
theorem Pre.set {H H' : Hp} {x dx e w al hl : Addr} {GG : Shp.G} {As : List Int} {hs : List Str} {fs : List (Str × V)} (p : Pre K CS H x dx e w al hl GG As hs H' fs) (fs' : List (Str × V)) : Pre K CS H x dx e w al hl GG As hs (upd H' x (.ins CS dx fs')) fs' := by
  have nx : ∀ {c : Addr} {vs : List V}, H' c = some (.lst vs) → (upd H' x (.ins CS dx fs')) c = some (.lst vs) := fun {c vs} h => by
    rw [upd_ne (fun z => by rw [z, p.ob] at h; cases h)]; exact h
  exact ⟨p.kp.trans (Kp.put rfl), upd_same, LA.ky (KY.put p.ob) (fun _ => nx) p.le, LA.ky (KY.put p.ob) (fun _ => nx) p.lw, nx p.ha, nx p.hh⟩
theorem splitD {C H4 : Hp} {D : Addr} {o : HO} (hD : C D = none) (s : Same (upd C D o) H4) : ∃ C', H4 = upd C' D o ∧ C' D = none ∧ Same C C' := by
  refine ⟨fun b => if b = D then none else H4 b, ?_, if_pos rfl, fun b x e => ?_⟩
  · funext b
    by_cases e : b = D
    · subst e; rw [upd_same]; exact s _ _ upd_same
    · rw [upd_ne e, if_neg e]
  · have : b ≠ D := fun z => by rw [z, hD] at e; cases e
    show (if b = D then none else H4 b) = some x
    rw [if_neg this]
    exact s _ _ (by rw [upd_ne this]; exact e)
theorem elim_at {l : List Sy.Tm} {i : Nat} {t : Sy.Tm} {p : Sy.Tm → Bool} (h : l[i]? = some t) : ((l[i]?).elim false p) = p t := by rw [h]; rfl
theorem fl_take {α β : Type} {l : List α} {i : Nat} {t : α} (f : α → List β) (h : l[i]? = some t) : ((l.take (i + 1)).map f).flatten = ((l.take i).map f).flatten ++ f t := by
  rw [List.take_add_one, h, List.map_append, List.flatten_append]; simp
theorem ix_nil {l : List Sy.Tm} {p : Sy.Tm → Bool} : ix l p = [] ↔ ∀ t ∈ l, p t = false := by
  unfold ix pick
  rw [List.map_eq_nil_iff, List.filter_eq_nil_iff]
  constructor
  · intro h t ht
    obtain ⟨i, hi⟩ := List.mem_iff_getElem?.mp ht
    have := h i (List.mem_range.mpr (List.getElem?_eq_some_iff.mp hi).1)
    rw [elim_at hi] at this
    cases hp : p t with
    | true => exact absurd hp this
    | false => rfl
  · intro h i hi
    rw [List.mem_range] at hi
    rw [elim_at (List.getElem?_eq_getElem hi), h _ (List.getElem_mem hi)]
    decide
theorem onum_fl (l : List Sy.Tm) : ((l.map outer).flatten).length = Shp.onum l := by
  unfold Shp.onum
  rw [List.length_flatten, List.map_map]; rfl
theorem onum_take (l : List Sy.Tm) (i : Nat) : Shp.onum (l.take i) ≤ Shp.onum l := by
  have h : Shp.onum l = Shp.onum (l.take i) + Shp.onum (l.drop i) := by
    unfold Shp.onum
    rw [← List.sum_append, ← List.map_append, List.take_append_drop]
  omega
theorem ok_shape {n : Nat} {f f1 f2 f3 f4 f5 f6 : Addr} {fd fd1 fd2 fd3 fd4 fd5 fd6 : FuncData} (B : Blt mg) (Z : ZG K CG) (ZZ : ZS K CS) (F : Fun K "__init__" "Shape.__init__" s_Shape___init__ f fd)
    (MG : Mk K CG f1) (gG : mg "Gatherer" = some (.ref CG)) (bG : Binds K fd1 ["self"] []) (G_gi : FnOk P w K mg base CX0 1 f1 fd1 ["self"] (spGi CG))
    (m_walk_saying : Meth K CG "walk_saying" f2) (b_walk_saying : Binds K fd2 ["self", "saying"] []) (G_walk_saying : FnOk P w K mg base CX0 (2 + n + 1 + n + 1 + n) f2 fd2 ["self", "saying"] (spWSg K CG n n))
    (Douter_names : Dn K mg "outer_names" s_outer_names ["term"] f3 fd3) (Gouter_names : FnOk P w K mg base CX0 (1 + 150) f3 fd3 ["term"] (spOut K 150))
    (Dis_name_term : Dn K mg "is_name_term" s_is_name_term ["term"] f4 fd4) (Gis_name_term : FnOk P w K mg base CX0 1 f4 fd4 ["term"] (spNmT K))
    (Dweight_of : Dn K mg "weight_of" s_weight_of ["things", "holders", "wides", "ordered"] f5 fd5) (Gweight_of : FnOk P w K mg base CX0 2 f5 fd5 ["things", "holders", "wides", "ordered"] spWo)
    (Ddepth_of : Dn K mg "depth_of" s_depth_of ["things", "wides"] f6 fd6) (Gdepth_of : FnOk P w K mg base CX0 1 f6 fd6 ["things", "wides"] spDo) (hn60 : 50 ≤ n) : FnOk P w K mg base CX0 (2 + n + 1 + n + 1 + n + 1) f fd ["self", "saying"] (spShI K CS n) := by
  refine F.ok (k := 2 + n + 1 + n + 1 + n) sc_Shape___init__ (fun vs H Q E h => ?_) (fun cdv A outer s H vs Q E hr h => ?_)
  · obtain ⟨x, dx, v, s, rfl, _⟩ := h
    rfl
  · obtain ⟨x, dx, v, s, rfl, hx, hv, hd, hn, hsz, ⟨N0, hN0, hN⟩, q⟩ := h
    refine ⟨_, (pss_cons (ps_set (i := 2) sc_Shape___init__.nd rfl (.inr rfl) (pe_make0 MG G_gi (hr.mono (by omega)) (by rfl) gG bG .nil pass0))
      (pss_cons (ps_expr (pe_meth (pv 2) Z.cl m_walk_saying G_walk_saying (hr.mono (by omega)) b_walk_saying .nil pass0 (pa_cons (pv 1) pa_nil)))
      (pss_cons (ps_set (i := 3) sc_Shape___init__.nd rfl (.inl rfl) (pe_fld (pv 2) rfl))
      (pss_cons (ps_set (i := 4) sc_Shape___init__.nd rfl (.inl rfl) (pe_fld (pv 2) rfl))
      (pss_cons (ps_setLc (i := 5) (own := [("at", 8), ("term", 9)]) rfl sc_Shape___init__.nd rfl rfl (sw_true rfl rfl rfl (by decide +kernel)) (pi_enumK (K := K) rfl (by rfl) B.m_enumerate (pa_cons (pv 3) pa_nil)) (blkOk_by (own := [("at", 8), ("term", 9)]) (by kernel_rfl))
        (fun _ _ _ _ _ => (pg_tupK (K := K) (n := 2) rfl rfl (pgs_cons (pg_name (i := 8) sc_Shape___init__.nd rfl (.inl rfl)) (pgs_cons (pg_name (i := 9) sc_Shape___init__.nd rfl (.inl rfl)) pgs_nil)))) (fun _ _ _ _ _ => (pts_one (pt_cmpR (op_inLDK (K := K) rfl hr) (pv 9) (pe_fldK (K := K) rfl (pv 2) rfl) (by rfl))))
        (fun _ _ _ _ _ => (pv 8)))
      (pss_cons (ps_setLc2 (i := 6) (own := [("term", 9), ("name", 10)]) (vs1 := [10]) rfl sc_Shape___init__.nd rfl rfl (sw_true rfl rfl rfl (by decide +kernel)) (pi_listK (K := K) rfl (pe_fld (pv 2) rfl)) (blkOk_by (own := [("term", 9), ("name", 10)]) (by kernel_rfl)) (by decide)
        (fun _ _ _ _ _ => (pg_name (i := 9) sc_Shape___init__.nd rfl (.inl rfl))) (fun _ _ _ _ _ => pts_nil)
        (fun _ _ _ _ _ => (pi_listK (K := K) rfl (pe_call Gouter_names (hr.mono (by omega)) (by rfl) Douter_names.g Douter_names.F.kp Douter_names.b .nil pass0 (pa_cons (pv 9) pa_nil)))) (fun _ _ _ _ _ => (pg_name (i := 10) sc_Shape___init__.nd rfl (.inl rfl))) (fun _ _ _ _ _ => pts_nil)
        (fun _ _ _ _ _ => (pv 10)))
      (C8.pss_cut (ps_if (pt_truthK (K := K) rfl (pv 5) (by intro _; rfl)) (pss_one (ps_set (i := 6) sc_Shape___init__.nd rfl (.inl rfl) (pe_op op_cat (pv 6) (pe_lc (own := [("term", 9)]) rfl sc_Shape___init__.nd (pi_listK (K := K) rfl (pv 3)) (blkOk_by (own := [("term", 9)]) (by kernel_rfl))
        (fun _ _ _ _ _ => (pg_name (i := 9) sc_Shape___init__.nd rfl (.inl rfl))) (fun _ _ _ _ _ => (pts_one (pt_val (pe_call Gis_name_term (hr.mono (by omega)) (by rfl) Dis_name_term.g Dis_name_term.F.kp Dis_name_term.b .nil pass0 (pa_cons (pv 9) pa_nil)))))
        (fun _ _ _ _ _ => (pe_ix (ix_tupK (K := K) rfl) (pv 9) pe_int (fun _ _ => rfl))))))) pss_nil)
      (pss_cons (ps_set (i := 7) sc_Shape___init__.nd rfl (.inr rfl) (pe_callB (cr_sortedST rfl) (by rfl) B.m_sorted (by decide +kernel) (pa_cons (pe_callTy (cr_setT (K := K) rfl rfl) (by rfl) B.m_set (by decide +kernel) (pa_cons (pv 6) pa_nil)) pa_nil)))
      (pss_cons (ps_fld (pv 0) (pv 1) rfl)
      (pss_cons (ps_fld (pv 0) (pv 3) rfl)
      (pss_cons (ps_fld (pv 0) (pv 4) rfl)
      (pss_cons (ps_fld (pv 0) (pv 5) rfl)
      (pss_cons (ps_fld (pv 0) (pv 7) rfl)
      (pss_cons (ps_fld (pv 0) (pe_lc (own := [("at", 8), ("term", 9)]) rfl sc_Shape___init__.nd (pi_enumK (K := K) rfl (by rfl) B.m_enumerate (pa_cons (pv 3) pa_nil)) (blkOk_by (own := [("at", 8), ("term", 9)]) (by kernel_rfl))
        (fun _ _ _ _ _ => (pg_tupK (K := K) (n := 2) rfl rfl (pgs_cons (pg_name (i := 8) sc_Shape___init__.nd rfl (.inl rfl)) (pgs_cons (pg_name (i := 9) sc_Shape___init__.nd rfl (.inl rfl)) pgs_nil)))) (fun _ _ _ _ _ => (pts_one (PW.pt (pw_and (pt_val (pe_call Gis_name_term (hr.mono (by omega)) (by rfl) Dis_name_term.g Dis_name_term.F.kp Dis_name_term.b .nil pass0 (pa_cons (pv 9) pa_nil))) (pw_and1 (pt_cmpR (op_notIn_seqK (K := K) rfl) (pe_ix (ix_tupK (K := K) rfl) (pv 9) pe_int (fun _ _ => rfl)) (pv 7) (by rfl)))))))
        (fun _ _ _ _ _ => (pv 8))) rfl)
      (pss_cons (ps_fld (pv 0) (pe_call Gweight_of (hr.mono (by omega)) (by rfl) Dweight_of.g Dweight_of.F.kp Dweight_of.b .nil pass0 (pa_cons (pe_callB (call_len_seqK (K := K) rfl) (by rfl) B.m_len PySem.boot_len (pa_cons (pv 3) pa_nil)) (pa_cons (pe_callB (call_len_seqK (K := K) rfl) (by rfl) B.m_len PySem.boot_len (pa_cons (pv 7) pa_nil)) (pa_cons (pe_callB (call_len_seqK (K := K) rfl) (by rfl) B.m_len PySem.boot_len (pa_cons (pv 4) pa_nil)) (pa_cons (pe_callTy (call_boolLK (K := K) rfl) (by rfl) B.m_bool (by decide +kernel) (pa_cons (pv 5) pa_nil)) pa_nil))))) rfl)
      (pss_one (ps_fld (pv 0) (pe_call Gdepth_of (hr.mono (by omega)) (by rfl) Ddepth_of.g Ddepth_of.F.kp Ddepth_of.b .nil pass0 (pa_cons (pe_callB (call_len_seqK (K := K) rfl) (by rfl) B.m_len PySem.boot_len (pa_cons (pv 3) pa_nil)) (pa_cons (pe_callB (call_len_seqK (K := K) rfl) (by rfl) B.m_len PySem.boot_len (pa_cons (pv 4) pa_nil)) pa_nil))) rfl))))))))))))))))), ?_⟩
    have hgn := Shp.G.sg_n s Shp.G0
    have hge := Shp.sg_e s Shp.G0
    have hgo := Shp.sg_on s Shp.G0
    have hns := Shp.ns_sz s
    have hin := Shp.hoNs_in (Shp.InN.sg (N := fun y => y ∈ N0) (Shp.InN.g0) hN)
    have hrel := Shp.Rel.sg s Shp.G0
    have e00 : Shp.G0.n = 0 := rfl
    have e01 : Shp.G0.el.length = 0 := rfl
    have e02 : Shp.onum Shp.G0.ho = 0 := rfl
    walk_at "begin"
    refine r_seq ?_
    refine r_asg ?_
    refine r_make ?_
    walk_at "go"
    intro g dg ng ndg hne
    have s0 : Same H (upd (upd H dg (.own g)) g (.ins CG dg [])) := (same_new ndg).trans (same_new (by rw [upd_ne hne.symm]; exact ng))
    refine ⟨g, dg, rfl, upd_same, fun H1 e a h u k1 ne na nh nw hdis hg he ha hh hw => ⟨rfl, ?_⟩⟩
    have nn : ∀ {p : Addr}, (upd (upd H dg (.own g)) g (.ins CG dg [])) p = none → H p = none := fun {p} z => by
      cases y : H p with
      | none => rfl
      | some o => rw [s0 _ _ y] at z; cases z
    have ne := nn ne
    have na := nn na
    have nh := nn nh
    have nw := nn nw
    have s1 : Same H H1 := fun c o e1 => k1 c o (s0 c o e1) fun z => by rw [show c = g from z, ng] at e1; cases e1
    clear k1 s0 nn
    have hGA : GA K CG H1 g e a h u Shp.G0 := ⟨⟨dg, hg⟩, hdis, ⟨[], he, .nil, fun d hd => nomatch hd⟩, ⟨[], ha, .nil, fun d hd => nomatch hd⟩, ⟨[], hh, .nil, fun d hd => nomatch hd⟩, ⟨[], hw, .nil, fun d hd => nomatch hd⟩⟩
    walk_at "go"
    refine ⟨g, dg, _, rfl, hg, rfl, ?_⟩
    walk_at "go"
    refine ⟨g, e, a, h, u, _, v, s, rfl, hGA, hv.mono s1, ⟨hd, Nat.le_refl _, hn⟩, by walk_at "om", fun H2 hG k2 => ?_⟩
    have s2 : Same H H2 := fun c o e1 => k2 c o (s1 c o e1) fun z => by
      rcases z with rfl | rfl | rfl | rfl
      · rw [ne] at e1; cases e1
      · rw [na] at e1; cases e1
      · rw [nh] at e1; cases e1
      · rw [nw] at e1; cases e1
    clear k2 s1 hGA hg he ha hh hw ng ndg hne
    generalize hGG : Shp.G.sg s Shp.G0 = GG at hgn hge hgo hin hrel hG q ⊢
    obtain ⟨dg2, hg2⟩ := hG.ob
    obtain ⟨xs, hxs, hxl⟩ := hG.el.len
    rw [List.length_map] at hxl
    walk_at "go"
    refine r_fldI hg2 Z.cl Z.n1 rfl ?_
    walk_at "go"
    refine r_fldI hg2 Z.cl Z.n4 rfl ?_
    walk_at "go"
    refine lcT_enum topH (s0 := ()) (B := H2) trivial (xs := xs) hxs (fun i C acc => acc = (pick i fun j => (GG.el[j]?).elim false fun t => decide (t ∈ GG.as)).map V.int) (fun i C C' acc _ h => h) rfl ?_ ?_
    · rintro D3 i x3 _ C3 acc t3 _ hD3 hS3 hx3 ht3 rfl
      have hi := (List.getElem?_eq_some_iff.mp hx3).1
      have hG3 := (hG.mono hS3).mono (same_new (o := .lst ((pick i fun j => (GG.el[j]?).elim false fun t => decide (t ∈ GG.as)).map V.int)) hD3)
      obtain ⟨t, htt, hvt, hdt⟩ := la_at hG.el hxs hx3
      have hvt3 := (hvt.mono hS3).mono (same_new (o := .lst ((pick i fun j => (GG.el[j]?).elim false fun t => decide (t ∈ GG.as)).map V.int)) hD3)
      have hpl := pick_len i fun j => (GG.el[j]?).elim false fun t => decide (t ∈ GG.as)
      obtain ⟨dg3, hg3⟩ := hG3.ob
      walk_at "begin"
      refine r_tup (SqT.of (upd_old hD3 ht3)) rfl ?_
      walk_at "go"
      refine ⟨rfl, ?_⟩
      walk_at "go"
      refine r_fldI hg3 Z.cl Z.n2 rfl ?_
      refine r_inLA hG3.as hvt3 hdt fun b hb => ?_
      rw [Shp.d_mem] at hb
      cases b with
      | true =>
        walk_at "go"
        refine lcN_put topH (s := ()) trivial hD3 hS3 ?_ ?_
        · rw [List.length_map]; omega
        · rw [pick_succ, elim_at htt, decide_eq_true (hb.mp rfl), ints_push]; rfl
      | false =>
        walk_at "go"
        refine lcN_skip (s := ()) trivial hD3 hS3 ?_
        rw [pick_succ, elim_at htt, decide_eq_false (fun z => Bool.false_ne_true (hb.mpr z)), if_neg Bool.false_ne_true, List.append_nil]
    rintro al _ C3 acc _ hB3 hD3 hS3 rfl
    have hask : (upd C3 al (.lst ((ix GG.el fun t => decide (t ∈ GG.as)).map V.int))) al = some (.lst ((ix GG.el fun t => decide (t ∈ GG.as)).map V.int)) := upd_same
    have s3 := hS3.trans (same_new (o := .lst ((ix GG.el fun t => decide (t ∈ GG.as)).map V.int)) hD3)
    rw [hxl]
    show (fun C => _) (upd C3 al (.lst ((ix GG.el fun t => decide (t ∈ GG.as)).map V.int)))
    generalize upd C3 al (.lst ((ix GG.el fun t => decide (t ∈ GG.as)).map V.int)) = H3 at hask s3 ⊢
    dsimp only
    have hG3 := hG.mono s3
    have hxs3 := s3 _ _ hxs
    clear hS3 hD3 hB3
    obtain ⟨dg3, hg3⟩ := hG3.ob
    obtain ⟨hos, hhos, hhol⟩ := hG3.ho.len
    rw [List.length_map] at hhol
    walk_at "go"
    refine r_fldI hg3 Z.cl Z.n3 rfl ?_
    walk_at "go"
    refine lcT2_list topH (s0 := ()) trivial hhos (fun i C acc => acc = (((GG.ho.take i).map Shp.outer).flatten).map V.str) rfl ?_ ?_
    · rintro D4 i x4 _ C4 acc _ hD4 hS4 hx4 rfl
      obtain ⟨t, htt, hvt, hdt⟩ := la_at hG3.ho hhos hx4
      have hvt4 := (hvt.mono hS4).mono (same_new (o := .lst ((((GG.ho.take i).map Shp.outer).flatten).map V.str)) hD4)
      have hto : (Shp.outer t).length ≤ Shp.onum GG.ho := by
        have := onum_take GG.ho (i + 1)
        rw [← onum_fl, fl_take Shp.outer htt, List.length_append] at this
        omega
      have htk := onum_take GG.ho i
      have htk1 := onum_take GG.ho (i + 1)
      rw [← onum_fl, fl_take Shp.outer htt, List.length_append, onum_fl] at htk1
      have hts : (Shp.outer t).length ≤ 10000 := by omega
      walk_at "begin"
      walk_at "go"
      refine ⟨rfl, ?_⟩
      walk_at "go"
      refine ⟨_, t, rfl, hvt4, by omega, hts, fun H5 p s5 hp np => ?_⟩
      obtain ⟨C5, rfl, hD5, hS5⟩ := splitD hD4 s5
      have hp5 : C5 p = some (.lst ((Shp.outer t).map V.str)) := by
        rw [← hp, upd_ne (fun z => by rw [z, upd_same] at np; cases np)]
      refine ⟨p, rfl, ⟨_, SqL.of hp⟩, ?_⟩
      refine lin_list topH (s0 := ()) (fun j C acc => acc = ((((GG.ho.take i).map Shp.outer).flatten) ++ (Shp.outer t).take j).map V.str) trivial hD5 (hS4.trans hS5) hp5 (by rw [List.take_zero, List.append_nil]) ?_ ?_
      · rintro j y _ C6 acc _ hD6 hS6 hy rfl
        have hj := (List.getElem?_eq_some_iff.mp hy).1
        rw [List.length_map] at hj
        obtain ⟨y, rfl, hy2⟩ : ∃ z, y = .str z ∧ (Shp.outer t)[j]? = some z := by
          rw [List.getElem?_map] at hy
          cases q : (Shp.outer t)[j]? with
          | none => rw [q] at hy; cases hy
          | some z => rw [q] at hy; exact ⟨z, (Option.some.inj hy).symm, rfl⟩
        walk_at "begin"
        walk_at "go"
        refine ⟨rfl, ?_⟩
        walk_at "go"
        refine lcN_put topH (s := ()) trivial hD6 hS6 ?_ ?_
        · rw [List.length_map, List.length_append, onum_fl, List.length_take]; omega
        · rw [List.take_add_one, hy2, ← List.append_assoc, List.map_append (l₂ := (some y).toList)]; rfl
      · intro C acc hacc
        rw [hacc, List.length_map, List.take_length, fl_take Shp.outer htt]
    rintro n1 _ C4 acc _ hB4 hD4 hS4 rfl
    rw [hhol, List.take_length]
    have hnm : (upd C4 n1 (.lst ((GG.ho.map Shp.outer).flatten.map V.str))) n1 = some (.lst ((GG.ho.map Shp.outer).flatten.map V.str)) := upd_same
    have s4 := hS4.trans (same_new (o := .lst ((GG.ho.map Shp.outer).flatten.map V.str)) hD4)
    show (fun C => _) (upd C4 n1 (.lst ((GG.ho.map Shp.outer).flatten.map V.str)))
    generalize upd C4 n1 (.lst ((GG.ho.map Shp.outer).flatten.map V.str)) = H4 at hnm s4 ⊢
    dsimp only
    have hG4 := hG3.mono s4
    have hxs4 := s4 _ _ hxs3
    have hask4 := s4 _ _ hask
    have s04 := s2.trans (s3.trans s4)
    clear hS4 hD4 hB4 hask hxs3 hG3 s3 s4
    have hofl := onum_fl GG.ho
    have hel4 := hG4.el
    walk_at "go"
    refine ⟨fun σ H5 => ∃ n2 : Addr, σ = [some (.ref x), some v, some (.ref g), some (.ref e), some (.ref u), some (.ref al), some (.ref n2), none, none, none, none] ∧ Same H4 H5 ∧ H5 n2 = some (.lst ((Shp.hoNs GG).map V.str)), ?_, ?_⟩
    · walk_at "go"
      by_cases has : GG.as = []
      · refine ⟨false, .inl ⟨_, SqL.of hask4, ?_⟩, ?_⟩
        · rw [ix_nil.mpr (fun t _ => by rw [has]; rfl)]; rfl
        walk_at "go"
        refine ⟨n1, rfl, Same.refl _, ?_⟩
        rw [hnm]
        unfold Shp.hoNs
        rw [if_pos has, List.append_nil]
      · refine ⟨true, .inl ⟨_, SqL.of hask4, ?_⟩, ?_⟩
        · cases hq : ix GG.el fun t => decide (t ∈ GG.as) with
          | nil =>
            exfalso
            refine has ((Shp.as_nil hrel).mp (List.filter_eq_nil_iff.mpr fun t ht => ?_))
            rw [ix_nil.mp hq t ht]; decide
          | cons a b => rfl
        walk_at "go"
        refine lcT_list topH (s0 := ()) trivial hxs4 (fun i C acc => acc = (((GG.el.take i).filter isNm).map fun t => (Shp.outer t).headD "").map V.str) rfl ?_ ?_
        · rintro D5 i x5 _ C5 acc _ hD5 hS5 hx5 rfl
          have hi := (List.getElem?_eq_some_iff.mp hx5).1
          obtain ⟨t, htt, hvt, hdt⟩ := la_at hel4 hxs4 hx5
          have hvt5 := (hvt.mono hS5).mono (same_new (o := .lst ((((GG.el.take i).filter isNm).map fun t => (Shp.outer t).headD "").map V.str)) hD5)
          have hfl : ((GG.el.take i).filter isNm).length ≤ i := Nat.le_trans (List.length_filter_le _ _) (by rw [List.length_take]; exact Nat.min_le_left _ _)
          walk_at "begin"
          walk_at "go"
          refine ⟨rfl, ?_⟩
          walk_at "go"
          refine ⟨x5, t, rfl, hvt5, ?_⟩
          cases hnm5 : isNm t with
          | true =>
            obtain ⟨y, rfl⟩ := Shp.outer_nm hnm5
            obtain ⟨p5, y5, rfl, hq5, hy5⟩ := dp_1 hvt5.1
            cases hy5
            walk_at "go"
            refine r_ixQ hq5 rfl ?_
            refine lcN_put topH (s := ()) trivial hD5 hS5 ?_ ?_
            · rw [List.length_map, List.length_map]; omega
            · rw [fl_put htt hnm5, List.map_append, List.map_append]; rfl
          | false =>
            walk_at "go"
            refine lcN_skip (s := ()) trivial hD5 hS5 ?_
            rw [fl_skip htt hnm5]
        rintro n3 _ C5 acc _ hB5 hD5 hS5 rfl
        rw [hxl, List.take_length]
        have hn3 : (upd C5 n3 (.lst (((GG.el.filter isNm).map fun t => (Shp.outer t).headD "").map V.str))) n3 = some (.lst (((GG.el.filter isNm).map fun t => (Shp.outer t).headD "").map V.str)) := upd_same
        have s5 := hS5.trans (same_new (o := .lst (((GG.el.filter isNm).map fun t => (Shp.outer t).headD "").map V.str)) hD5)
        have hflt : (GG.el.filter isNm).length ≤ GG.el.length := List.length_filter_le _ _
        show (fun C => _) (upd C5 n3 (.lst (((GG.el.filter isNm).map fun t => (Shp.outer t).headD "").map V.str)))
        generalize upd C5 n3 (.lst (((GG.el.filter isNm).map fun t => (Shp.outer t).headD "").map V.str)) = H5 at hn3 s5 ⊢
        dsimp only
        refine ⟨n1, n3, _, _, rfl, rfl, s5 _ _ hnm, hn3, Nat.le_of_lt (small (by rw [List.length_map, List.length_map, List.length_map]; omega)), fun p3 np3 => ?_⟩
        walk_at "go"
        refine ⟨p3, rfl, s5.trans (same_new np3), ?_⟩
        rw [upd_same]
        unfold Shp.hoNs
        rw [if_neg has, List.map_append]
    rintro σ H5 ⟨n2, rfl, s5, hn2⟩
    have hask5 := s5 _ _ hask4
    have hxs5 := s5 _ _ hxs4
    have hel5 := hel4.mono s5
    have hwi5 := (hG4.wi.mono s5)
    have s05 := s04.trans s5
    clear hask4 hxs4 hel4 hG4 s04 s5 hnm
    have hnl : (Shp.hoNs GG).length ≤ 1000 := by
      unfold Shp.hoNs
      rw [List.length_append, hofl]
      have hflt : (GG.el.filter isNm).length ≤ GG.el.length := List.length_filter_le _ _
      split
      · simp only [List.length_nil]; omega
      · rw [List.length_map]; omega
    walk_at "go"
    refine ⟨n2, _, rfl, SqL.of hn2, hnl, fun l p6 hl hnd hll np6 => ?_⟩
    have hl60 : l.length ≤ 60 := Nat.le_trans (sub_len hnd fun y hy => hin y ((hl y).mp hy)) hN0
    walk_at "go"
    refine ⟨p6, l, rfl, upd_same, by omega, fun hl2 np7 => ?_⟩
    have hhl : (upd (upd H5 p6 (SetTO P w p6 l)) hl2 (.lst ((Ak.sortT l).map V.str))) hl2 = some (.lst ((Ak.sortT l).map V.str)) := upd_same
    have s6 := (same_new (o := SetTO P w p6 l) np6).trans (same_new (o := .lst ((Ak.sortT l).map V.str)) np7)
    generalize upd (upd H5 p6 (SetTO P w p6 l)) hl2 (.lst ((Ak.sortT l).map V.str)) = H6 at hhl s6 ⊢
    have hpre : Pre K CS H x dx e u al hl2 GG (ix GG.el fun t => decide (t ∈ GG.as)) (Ak.sortT l) H6 [] := ⟨Kp.of (s05.trans s6), (s05.trans s6) _ _ hx, hel5.mono s6, hwi5.mono s6, s6 _ _ hask5, hhl⟩
    clear hhl hask5 hxs5 hel5 hwi5 s05 s6 hn2
    walk_at "go"
    refine r_sFldI hpre.ob ZZ.cl ZZ.n1 (show (([] : List (Str × V))).length < 1000 from (show 0 < 1000 by decide)) ?_
    rw [show putF "saying" (v) (([] : List (Str × V))) = sfp1 v from rfl]
    have hpre := hpre.set (sfp1 v)
    generalize upd H6 x (.ins CS dx (sfp1 v)) = H7 at hpre ⊢
    walk_at "go"
    refine r_sFldI hpre.ob ZZ.cl ZZ.n2 (show (sfp1 v).length < 1000 from (show 1 < 1000 by decide)) ?_
    rw [show putF "element_terms" (.ref e) (sfp1 v) = sfp2 v e from rfl]
    have hpre := hpre.set (sfp2 v e)
    generalize upd H7 x (.ins CS dx (sfp2 v e)) = H8 at hpre ⊢
    walk_at "go"
    refine r_sFldI hpre.ob ZZ.cl ZZ.n3 (show (sfp2 v e).length < 1000 from (show 2 < 1000 by decide)) ?_
    rw [show putF "wide_facts" (.ref u) (sfp2 v e) = sfp3 v e u from rfl]
    have hpre := hpre.set (sfp3 v e u)
    generalize upd H8 x (.ins CS dx (sfp3 v e u)) = H9 at hpre ⊢
    walk_at "go"
    refine r_sFldI hpre.ob ZZ.cl ZZ.n4 (show (sfp3 v e u).length < 1000 from (show 3 < 1000 by decide)) ?_
    rw [show putF "asked" (.ref al) (sfp3 v e u) = sfp4 v e u al from rfl]
    have hpre := hpre.set (sfp4 v e u al)
    generalize upd H9 x (.ins CS dx (sfp4 v e u al)) = H10 at hpre ⊢
    walk_at "go"
    refine r_sFldI hpre.ob ZZ.cl ZZ.n5 (show (sfp4 v e u al).length < 1000 from (show 4 < 1000 by decide)) ?_
    rw [show putF "holders" (.ref hl2) (sfp4 v e u al) = sfp5 v e u al hl2 from rfl]
    have hpre := hpre.set (sfp5 v e u al hl2)
    generalize upd H10 x (.ins CS dx (sfp5 v e u al hl2)) = H11 at hpre ⊢
    walk_at "go"
    obtain ⟨xs2, hxs2, hxl2⟩ := hpre.le.len
    rw [List.length_map] at hxl2
    refine lcT_enum topH (s0 := ()) (B := H11) trivial (xs := xs2) hxs2 (fun i C acc => acc = (pick i fun j => (GG.el[j]?).elim false (frT (Ak.sortT l))).map V.int) (fun i C C' acc _ h => h) rfl ?_ ?_
    · rintro D3 i x3 _ C3 acc t3 _ hD3 hS3 hx3 ht3 rfl
      have hi := (List.getElem?_eq_some_iff.mp hx3).1
      obtain ⟨t, htt, hvt, hdt⟩ := la_at hpre.le hxs2 hx3
      have sD := hS3.trans (same_new (o := .lst ((pick i fun j => (GG.el[j]?).elim false (frT (Ak.sortT l))).map V.int)) hD3)
      have hvt3 := hvt.mono sD
      have hh3 := sD _ _ hpre.hh
      have hpl := pick_len i fun j => (GG.el[j]?).elim false (frT (Ak.sortT l))
      walk_at "begin"
      refine r_tup (SqT.of (upd_old hD3 ht3)) rfl ?_
      walk_at "go"
      refine ⟨rfl, ?_⟩
      walk_at "go"
      refine ⟨_, t, rfl, hvt3, ?_⟩
      cases hnm : isNm t with
      | true =>
        obtain ⟨y, rfl⟩ := Shp.outer_nm hnm
        obtain ⟨p5, y5, rfl, hq5, hy5⟩ := dp_1 hvt3.1
        cases hy5
        walk_at "go"
        refine r_ixQ hq5 rfl ?_
        walk_at "go"
        refine r_inS hh3 ?_
        rw [if_pos rfl]
        cases hfr : decide (y ∈ Ak.sortT l) with
        | true =>
          walk_at "go"
          refine lcN_skip (s := ()) trivial hD3 hS3 ?_
          rw [pick_succ, elim_at htt, show frT (Ak.sortT l) (.name y) = false by unfold frT; rw [show (Shp.outer (.name y)).headD "" = y from rfl, decide_eq_false (fun z => z (of_decide_eq_true hfr)), Bool.and_false], if_neg Bool.false_ne_true, List.append_nil]
        | false =>
          walk_at "go"
          refine lcN_put topH (s := ()) trivial hD3 hS3 ?_ ?_
          · rw [List.length_map]; omega
          · rw [pick_succ, elim_at htt, show frT (Ak.sortT l) (.name y) = true by unfold frT; rw [show (Shp.outer (.name y)).headD "" = y from rfl, decide_eq_true (of_decide_eq_false hfr)]; rfl, ints_push]; rfl
      | false =>
        walk_at "go"
        refine lcN_skip (s := ()) trivial hD3 hS3 ?_
        rw [pick_succ, elim_at htt, show frT (Ak.sortT l) t = false by unfold frT; rw [hnm]; rfl, if_neg Bool.false_ne_true, List.append_nil]
    rintro fl _ C3 acc _ hB3 hD3 hS3 rfl
    rw [hxl2, show (pick GG.el.length fun j => (GG.el[j]?).elim false (frT (Ak.sortT l))) = ix GG.el (frT (Ak.sortT l)) from rfl]
    have hfl : (upd C3 fl (.lst ((ix GG.el (frT (Ak.sortT l))).map V.int))) fl = some (.lst ((ix GG.el (frT (Ak.sortT l))).map V.int)) := upd_same
    have hpre := hpre.same (hS3.trans (same_new (o := .lst ((ix GG.el (frT (Ak.sortT l))).map V.int)) hD3))
    try dsimp only
    generalize upd C3 fl (.lst ((ix GG.el (frT (Ak.sortT l))).map V.int)) = H12 at hfl hpre ⊢
    try dsimp only
    have hflx : fl ≠ x := fun z => by rw [z, hpre.ob] at hfl; cases hfl
    walk_at "go"
    refine r_sFldI hpre.ob ZZ.cl ZZ.n6 (show (sfp5 v e u al hl2).length < 1000 from (show 5 < 1000 by decide)) ?_
    rw [show putF "free" (.ref fl) (sfp5 v e u al hl2) = sfp6 v e u al hl2 fl from rfl]
    have hpre := hpre.set (sfp6 v e u al hl2 fl)
    have hfl : (upd H12 x (.ins CS dx (sfp6 v e u al hl2 fl))) fl = some (.lst ((ix GG.el (frT (Ak.sortT l))).map V.int)) := by rw [upd_ne hflx]; exact hfl
    generalize upd H12 x (.ins CS dx (sfp6 v e u al hl2 fl)) = H13 at hpre hfl ⊢
    obtain ⟨xs3, hxs3, hxl3⟩ := hpre.le.len
    obtain ⟨ws3, hws3, hwl3⟩ := hpre.lw.len
    rw [List.length_map] at hxl3
    have hh13 := hpre.hh
    have ha13 := hpre.ha
    have hslen : (Ak.sortT l).length = l.length := (Ak.sortT_perm l).length_eq
    have hgn2 : GG.n ≤ 800 := by omega
    unfold Shp.G.n at hgn2
    walk_at "go"
    refine ⟨al, _, rfl, SqL.of ha13, ?_⟩
    walk_at "go"
    refine ⟨xs3.length, ((Ak.sortT l).map V.str).length, ws3.length, _, rfl, by omega, by rw [List.length_map]; omega, by omega, fun H14 s14 => ?_⟩
    have hpre := hpre.same s14
    have hfl := s14 _ _ hfl
    generalize Shp.wgt _ _ _ _ = W14
    walk_at "go"
    refine r_sFldI hpre.ob ZZ.cl ZZ.n7 (show (sfp6 v e u al hl2 fl).length < 1000 from (show 6 < 1000 by decide)) ?_
    rw [show putF "weight" (.int W14) (sfp6 v e u al hl2 fl) = sfp7 v e u al hl2 fl W14 from rfl]
    have hpre := hpre.set (sfp7 v e u al hl2 fl W14)
    have hfl : (upd H14 x (.ins CS dx (sfp7 v e u al hl2 fl W14))) fl = some (.lst ((ix GG.el (frT (Ak.sortT l))).map V.int)) := by rw [upd_ne hflx]; exact hfl
    generalize upd H14 x (.ins CS dx (sfp7 v e u al hl2 fl W14)) = H15 at hpre hfl ⊢
    obtain ⟨xs4, hxs4, hxl4⟩ := hpre.le.len
    obtain ⟨ws4, hws4, hwl4⟩ := hpre.lw.len
    rw [List.length_map] at hxl4
    walk_at "go"
    refine ⟨xs4.length, ws4.length, rfl, by omega, by omega, ?_⟩
    generalize Shp.depthN _ _ = D14
    walk_at "go"
    refine r_sFldI hpre.ob ZZ.cl ZZ.n8 (show (sfp7 v e u al hl2 fl W14).length < 1000 from (show 7 < 1000 by decide)) ?_
    rw [show putF "depth" (.int D14) (sfp7 v e u al hl2 fl W14) = sf v e u al hl2 fl W14 D14 from rfl]
    have hpre := hpre.set (sf v e u al hl2 fl W14 D14)
    have hfl : (upd H15 x (.ins CS dx (sf v e u al hl2 fl W14 D14))) fl = some (.lst ((ix GG.el (frT (Ak.sortT l))).map V.int)) := by rw [upd_ne hflx]; exact hfl
    generalize upd H15 x (.ins CS dx (sf v e u al hl2 fl W14 D14)) = H16 at hpre hfl ⊢
    walk_at "go"
    refine q H16 hpre.kp ?_
    unfold ShAt
    rw [hGG]
    exact ⟨dx, e, u, al, hl2, fl, W14, D14, Ak.sortT l, l, hpre.ob, hpre.le, hpre.lw, hpre.ha, rfl, hnd, hl, hpre.hh, by omega, hfl⟩
end
end K16
end
section
open PySem PySem.Spec PyProof.Rows L2 Lw
local macro_rules | `(tactic| walk_at "look") => `(tactic| first
  | assumption
  | with_reducible exact upd_same
  | with_reducible exact rg_st
  | with_reducible exact rg_g (by assumption)
  | (with_reducible refine upd_old (by assumption) ?_; walk_at "look")
  | (with_reducible refine rg_get (by assumption) ?_; walk_at "look")
  | (with_reducible refine Same.get (by assumption) ?_; walk_at "look"))
local macro_rules | `(tactic| walk_at "cond") => `(tactic| first
  | (show _ ≠ _; omega) | exact cdivN (by omega) (by omega) | exact cmul_mod (by decide) (by decide) | exact cmulR (by omega) (by omega) | exact cmulL (by omega) (by omega) | exact cpow (by omega) (by omega) (by omega) (by omega) | (show (0:Int) ≤ _; omega))
local macro_rules | `(tactic| walk_at "at") => `(tactic| first | assumption | with_unfolding_all rfl)
local macro_rules | `(tactic| walk_at "sz") => `(tactic| first | assumption | (refine small ?_; omega) | (refine small ?_; simp only [List.length_map, List.length_append, List.length_cons, List.length_nil]; omega))
local macro_rules | `(tactic| walk_at "len") => `(tactic| first | exact size_nil | exact Nat.le_of_lt (small (by simp only [List.length_cons, List.length_nil, List.length_map]; omega)))
local macro_rules | `(tactic| walk_at "newD") => `(tactic| (refine ⟨by walk_at "len", fun p np => ?_⟩; obtain ⟨e, o', hD', n', ne'⟩ := newTD_eq (topRg _ _) (by assumption) (by assumption) np (.lst _); rw [e]; clear e))
local macro_rules | `(tactic| walk_at "new") => `(tactic| (refine ⟨by walk_at "len", fun p np => ?_⟩; obtain ⟨e, o', n'⟩ := newT_eq (topRg _ _) (by assumption) np (.lst _); rw [e]; clear e))
local macro_rules | `(tactic| walk_at "st") => `(tactic| first
  | with_reducible refine r_seq ?_
  | with_reducible refine r_var rfl ?_
  | with_reducible refine r_c ?_
  | with_reducible refine r_asg ?_
  | (with_reducible refine r_name ?_; dsimp only [List.set_cons_zero, List.set_cons_succ])
  | with_reducible refine r_sub ?_
  | with_reducible refine r_op ?_
  | with_reducible refine r_i0 ?_
  | (with_reducible refine' r_i ?k1 ?_; (case k1 => walk_at "cond"))
  | with_reducible refine r_cons ?_
  | with_reducible refine r_nil ?_
  | with_reducible refine r_cb ?_
  | with_reducible refine r_call ?_
  | with_reducible refine r_ifs ?_
  | with_reducible refine r_test ?_
  | with_reducible refine r_tB ?_
  | with_reducible refine r_bl ?_
  | with_reducible refine r_ret ?_
  | with_reducible refine r_drop ?_
  | with_reducible refine r_next ?_
  | (with_reducible refine' r_ixL ?k1 ?k2 ?_; (case k1 => walk_at "look"); (case k2 => walk_at "at"))
  | (with_reducible refine' r_setL ?k1 ?k2 ?_; (case k1 => walk_at "look"); (case k2 => walk_at "at"))
  | with_reducible refine r_aug rfl ?_
  | with_reducible refine r_augS ?_
  | with_reducible refine r_ipI ?_
  | with_reducible refine r_un ?_
  | with_reducible refine r_u ?_
  | with_reducible refine r_eq rfl ?_
  | with_reducible refine r_ne rfl ?_
  | with_reducible refine r_chain ?_
  | with_reducible refine iteF ?_
  | with_reducible refine r_not ?_
  | with_reducible refine r_and ?_
  | with_reducible refine r_or ?_
  | with_reducible refine r_andV ?_
  | with_reducible refine r_orV ?_
  | with_reducible refine r_notV ?_
  | with_reducible refine r_lst ?_
  | with_reducible refine r_bm ?_
  | with_reducible refine r_bm0 ?_
  | (with_reducible refine' And.intro (r_ty ?k1) ?_; (case k1 => walk_at "look"))
  | (with_reducible refine' r_append ?k1 ?k2 ?_; (case k1 => walk_at "look"); (case k2 => walk_at "sz"))
  | (with_reducible refine' r_lenK ?k1 ?_; (case k1 => walk_at "look"))
  | (with_reducible refine' r_listOf ?k1 ?_; (case k1 => walk_at "look"))
  | (with_reducible refine' r_sortedI ?k1 ?_; (case k1 => walk_at "look"))
  | (with_reducible refine' r_sum ?k1 ?_; (case k1 => walk_at "look"))
  | with_reducible refine r_int ?_
  | (with_reducible refine' r_draw (by assumption) ?k1 ?k2 ?_; (case k1 => omega); (case k2 => omega); intro R' n' o' h' h'')
  | with_reducible refine iteT ?_
  | with_reducible refine r_revL ?_
  | with_reducible refine r_lc ?_
  | with_reducible refine r_yes ?_
  | with_reducible refine r_for ?_
  | with_reducible refine r_iList ?_
  | with_reducible refine r_rng1 ?_
  | with_reducible refine r_enum ?_
  | (with_reducible show Ends.nx _ _ _; dsimp only)
  | (with_reducible show Ends.rt _ _ _; dsimp only)
  | (with_reducible show Ends.ct _ _ _; dsimp only)
  | (with_reducible show Ends.bk _ _ _; dsimp only))
local macro_rules | `(tactic| walk_at "go") => `(tactic| repeat (walk_at "st"))
local macro_rules | `(tactic| walk_at "begin") => `(tactic| dsimp only [cxOf, wipe, L2.start, List.map, List.length_cons, List.length_nil, Nat.reduceAdd, Nat.reduceSub, List.replicate, List.cons_append, List.nil_append])
namespace K16
open PySem PySem.Spec PyProof.Rows L2 Lw
section
variable {P : Program} {w : World} {K : PySem.W.Frag} {mg : Str → Option Value} {base : Heap}
theorem ok_draw {f : Addr} {fd : FuncData} {k : Nat} (B : Blt mg) (D : Dn K mg "_law_draw" s__law_draw ["state", "many"] f fd) : FnOk P w K mg base CX0 (k + 1) f fd ["state", "many"] spDraw := by
  refine D.F.ok sc__law_draw (fun vs H Q E h => ?_) (fun cdv A outer s H vs Q E hr h => ?_)
  · obtain ⟨st, g, R, B, many, rfl, _⟩ := h
    rfl
  · obtain ⟨st, g, R, C, many, rfl, rfl, o, h1, h2, q⟩ := h
    refine ⟨_, (pss_cons (ps_if (pt_cmpR op_lt (pe_ix (ix_listK (K := K) rfl) (pv 0) pe_int (fun _ _ => rfl)) (pe_callB (call_len_seqK (K := K) rfl) (by rfl) B.m_len PySem.boot_len (pa_cons (pe_ix (ix_listK (K := K) rfl) (pv 0) pe_int (fun _ _ => rfl)) pa_nil)) (nomark _)) (pss_cons (ps_set (i := 2) sc__law_draw.nd rfl (.inl rfl) (pe_ix (ix_listK (K := K) rfl) (pe_ix (ix_listK (K := K) rfl) (pv 0) pe_int (fun _ _ => rfl)) (pe_ix (ix_listK (K := K) rfl) (pv 0) pe_int (fun _ _ => rfl)) (fun _ _ => rfl)))
      (pss_cons (ps_asg (pe_op op_fdivN (pv 2) (pv 1)) (pg_sub (pe_ix (ix_listK (K := K) rfl) (pv 0) pe_int (fun _ _ => rfl)) (pe_ix (ix_listK (K := K) rfl) (pv 0) pe_int (fun _ _ => rfl)) set_list))
      (pss_cons (ps_if (pt_cmpR op_eq (pe_op op_fdivN (pv 2) (pv 1)) pe_int (nomark _)) (pss_one (ps_asg (pe_op op_add (pe_ix (ix_listK (K := K) rfl) (pv 0) pe_int (fun _ _ => rfl)) pe_int) (pg_sub (pv 0) pe_int set_list))) pss_nil)
      (pss_one (ps_ret (pe_op op_modN (pe_callTy call_int1 (by rfl) B.m_int (by decide +kernel) (pa_cons (pv 2) pa_nil)) (pv 1))))))) pss_nil)
      (pss_cons (ps_asg (pe_op op_add (pe_ix (ix_listK (K := K) rfl) (pv 0) pe_int (fun _ _ => rfl)) pe_int) (pg_sub (pv 0) pe_int set_list))
      (pss_cons (ps_set (i := 3) sc__law_draw.nd rfl (.inl rfl) (pe_op op_modN (pe_callTy call_int1 (by rfl) B.m_int (by decide +kernel) (pa_cons (pe_op op_add (pe_ix (ix_listK (K := K) rfl) (pv 0) pe_int (fun _ _ => rfl)) (pe_op op_mul (pe_ix (ix_listK (K := K) rfl) (pv 0) pe_int (fun _ _ => rfl)) pe_int)) pa_nil)) pe_int))
      (pss_cons (ps_set (i := 4) sc__law_draw.nd rfl (.inl rfl) (pe_op op_modN (pe_callTy call_int1 (by rfl) B.m_int (by decide +kernel) (pa_cons (pe_op op_add (pe_op op_mul (pv 3) (pv 3)) (pe_op op_mul (pe_ix (ix_listK (K := K) rfl) (pv 0) pe_int (fun _ _ => rfl)) pe_int)) pa_nil)) pe_int))
      (pss_cons (ps_set (i := 5) sc__law_draw.nd rfl (.inl rfl) (pe_op op_modN (pe_callTy call_int1 (by rfl) B.m_int (by decide +kernel) (pa_cons (pe_op op_add (pe_op op_mul (pv 4) (pv 4)) (pv 3)) pa_nil)) pe_int))
      (pss_one (ps_ret (pe_op op_modN (pe_callTy call_int1 (by rfl) B.m_int (by decide +kernel) (pa_cons (pe_op op_fdivN (pv 5) pe_int) pa_nil)) (pv 1))))))))), ?_⟩
    walk_at "begin"
    walk_at "go"
    have fin : ∀ n : Int, 0 ≤ n → 0 ≤ n.fmod many ∧ n.fmod many < many := fun n _ => ⟨Int.fmod_nonneg_of_pos n (by omega), Int.fmod_lt_of_pos n (by omega)⟩
    refine r_ite (fun hlt => ?_) (fun _ => ?_)
    · have hl2 := hlt
      rw [List.length_map] at hl2
      have i0 := o.ok.i0
      have hi : R.i.toNat < R.ns.length := by omega
      obtain ⟨z, hz⟩ : ∃ z, R.ns[R.i.toNat]? = some z := ⟨_, List.getElem?_eq_getElem hi⟩
      have hz0 : 0 ≤ z := o.ok.pos z (List.mem_of_getElem? hz)
      have ha : atI (R.ns.map V.int) R.i = some (.int z) := at_i i0 (by rw [List.getElem?_map, hz]; rfl)
      have hx : ixN (R.ns.map V.int).length R.i = some R.i.toNat := ix_i i0 hlt
      have hd0 : 0 ≤ z.fdiv many := Int.fdiv_nonneg hz0 (by omega)
      walk_at "go"
      rw [setMap, rg_set_g o]
      have ok1 : RS.Ok ⟨R.ns.set R.i.toNat (z.fdiv many), R.i, R.m, R.c⟩ := by
        refine ⟨i0, ?_, fun n hn => ?_, ?_⟩
        · show R.i ≤ ((R.ns.set _ _).length : Int); rw [List.length_set]; exact o.ok.i1
        · rcases List.mem_or_eq_of_mem_set hn with e | e
          · exact o.ok.pos n e
          · rw [e]; exact hd0
        · show (R.ns.set _ _).length ≤ 63; rw [List.length_set]; exact o.ok.len
      have o1 := o.re ok1
      walk_at "go"
      refine r_ite (fun _ => ?_) (fun _ => ?_)
      · walk_at "go"
        rw [show [V.ref g, V.int R.i, V.int R.m, V.int R.c].set (Int.toNat 1) (V.int (R.i + 1)) = [V.ref g, V.int (R.i + 1), V.int R.m, V.int R.c] from rfl, rg_set_st]
        have ok2 : RS.Ok ⟨R.ns.set R.i.toNat (z.fdiv many), R.i + 1, R.m, R.c⟩ := ⟨by show (0:Int) ≤ R.i + 1; omega, by show R.i + 1 ≤ ((R.ns.set _ _).length : Int); rw [List.length_set]; omega, ok1.pos, ok1.len⟩
        walk_at "go"
        exact q _ _ ok2 (fin z hz0).1 (fin z hz0).2
      · walk_at "go"
        exact q _ _ ok1 (fin z hz0).1 (fin z hz0).2
    · walk_at "go"
      rw [show [V.ref g, V.int R.i, V.int R.m, V.int R.c].set (Int.toNat 3) (V.int (R.c + 1)) = [V.ref g, V.int R.i, V.int R.m, V.int (R.c + 1)] from rfl, rg_set_st]
      have ok1 : RS.Ok ⟨R.ns, R.i, R.m, R.c + 1⟩ := ⟨o.ok.i0, o.ok.i1, o.ok.pos, o.ok.len⟩
      have o1 := o.re ok1
      walk_at "go"
      refine q _ _ ok1 (fin _ ?_).1 (fin _ ?_).2
      all_goals exact Int.fdiv_nonneg (Int.fmod_nonneg_of_pos _ (by decide)) (by decide)
end
end K16
end
section
open PySem PySem.Spec PyProof.Rows L2 Lw
local macro_rules | `(tactic| walk_at "look") => `(tactic| first
  | assumption
  | with_reducible exact upd_same
  | with_reducible exact rg_st
  | with_reducible exact rg_g (by assumption)
  | (with_reducible refine upd_old (by assumption) ?_; walk_at "look")
  | (with_reducible refine rg_get (by assumption) ?_; walk_at "look")
  | (with_reducible refine Same.get (by assumption) ?_; walk_at "look"))
local macro_rules | `(tactic| walk_at "cond") => `(tactic| first
  | (show _ ≠ _; omega) | exact cdivN (by omega) (by omega) | exact cmul_mod (by decide) (by decide) | exact cmulR (by omega) (by omega) | exact cmulL (by omega) (by omega) | exact cpow (by omega) (by omega) (by omega) (by omega) | (show (0:Int) ≤ _; omega))
local macro_rules | `(tactic| walk_at "at") => `(tactic| first | assumption | with_unfolding_all rfl)
local macro_rules | `(tactic| walk_at "sz") => `(tactic| first | assumption | (refine small ?_; omega) | (refine small ?_; simp only [List.length_map, List.length_append, List.length_cons, List.length_nil]; omega))
local macro_rules | `(tactic| walk_at "len") => `(tactic| first | exact size_nil | exact Nat.le_of_lt (small (by simp only [List.length_cons, List.length_nil, List.length_map]; omega)))
local macro_rules | `(tactic| walk_at "newD") => `(tactic| (refine ⟨by walk_at "len", fun p np => ?_⟩; obtain ⟨e, o', hD', n', ne'⟩ := newTD_eq (topRg _ _) (by assumption) (by assumption) np (.lst _); rw [e]; clear e))
local macro_rules | `(tactic| walk_at "new") => `(tactic| (refine ⟨by walk_at "len", fun p np => ?_⟩; obtain ⟨e, o', n'⟩ := newT_eq (topRg _ _) (by assumption) np (.lst _); rw [e]; clear e))
local macro_rules | `(tactic| walk_at "st") => `(tactic| first
  | with_reducible refine r_seq ?_
  | with_reducible refine r_var rfl ?_
  | with_reducible refine r_c ?_
  | with_reducible refine r_asg ?_
  | (with_reducible refine r_name ?_; dsimp only [List.set_cons_zero, List.set_cons_succ])
  | with_reducible refine r_sub ?_
  | with_reducible refine r_op ?_
  | with_reducible refine r_i0 ?_
  | (with_reducible refine' r_i ?k1 ?_; (case k1 => walk_at "cond"))
  | with_reducible refine r_cons ?_
  | with_reducible refine r_nil ?_
  | with_reducible refine r_cb ?_
  | with_reducible refine r_call ?_
  | with_reducible refine r_ifs ?_
  | with_reducible refine r_test ?_
  | with_reducible refine r_tB ?_
  | with_reducible refine r_bl ?_
  | with_reducible refine r_ret ?_
  | with_reducible refine r_drop ?_
  | with_reducible refine r_next ?_
  | (with_reducible refine' r_ixL ?k1 ?k2 ?_; (case k1 => walk_at "look"); (case k2 => walk_at "at"))
  | (with_reducible refine' r_setL ?k1 ?k2 ?_; (case k1 => walk_at "look"); (case k2 => walk_at "at"))
  | (with_reducible refine' r_tup (SqT.of ?k1) ?k2 ?_; (case k1 => walk_at "look"); (case k2 => rfl))
  | with_reducible refine r_gcons ?_
  | with_reducible refine r_gnil ?_
  | with_reducible refine r_aug rfl ?_
  | with_reducible refine r_augS ?_
  | with_reducible refine r_ipI ?_
  | with_reducible refine r_un ?_
  | with_reducible refine r_u ?_
  | with_reducible refine r_eq rfl ?_
  | with_reducible refine r_ne rfl ?_
  | with_reducible refine r_chain ?_
  | with_reducible refine iteF ?_
  | with_reducible refine r_not ?_
  | with_reducible refine r_and ?_
  | with_reducible refine r_or ?_
  | with_reducible refine r_andV ?_
  | with_reducible refine r_orV ?_
  | with_reducible refine r_notV ?_
  | with_reducible refine r_lst ?_
  | with_reducible refine r_bm ?_
  | with_reducible refine r_bm0 ?_
  | (with_reducible refine' And.intro (r_ty ?k1) ?_; (case k1 => walk_at "look"))
  | (with_reducible refine' r_append ?k1 ?k2 ?_; (case k1 => walk_at "look"); (case k2 => walk_at "sz"))
  | (with_reducible refine' r_lenK ?k1 ?_; (case k1 => walk_at "look"))
  | (with_reducible refine' r_listOf ?k1 ?_; (case k1 => walk_at "look"))
  | (with_reducible refine' r_sortedI ?k1 ?_; (case k1 => walk_at "look"))
  | (with_reducible refine' r_sum ?k1 ?_; (case k1 => walk_at "look"))
  | with_reducible refine r_int ?_
  | (with_reducible refine' r_draw (by assumption) ?k1 ?k2 ?_; (case k1 => omega); (case k2 => omega); intro R' n' o' h' h'')
  | with_reducible refine iteT ?_
  | with_reducible refine r_revL ?_
  | with_reducible refine r_lc ?_
  | with_reducible refine r_yes ?_
  | with_reducible refine r_sl ?_
  | with_reducible refine iteNTr ?_
  | with_reducible refine iteNFa ?_
  | with_reducible refine r_fld ?_
  | with_reducible refine r_sFld ?_
  | with_reducible refine r_meth ?_
  | with_reducible refine r_methT ?_
  | with_reducible refine r_prop ?_
  | with_reducible refine r_dget ?_
  | with_reducible refine r_dput ?_
  | with_reducible refine r_noPart ?_
  | with_reducible refine r_part ?_
  | with_reducible refine r_lc2 ?_
  | with_reducible refine r_callN ?_
  | with_reducible refine r_callD ?_
  | with_reducible refine r_tupE ?_
  | with_reducible refine r_rng2 ?_
  | with_reducible refine r_i1 ?_
  | (with_reducible refine' r_slL ?k1 ?_; (case k1 => walk_at "look"))
  | with_reducible refine r_for ?_
  | with_reducible refine r_iList ?_
  | with_reducible refine r_rng1 ?_
  | with_reducible refine r_enum ?_
  | (with_reducible show Ends.nx _ _ _; dsimp only)
  | (with_reducible show Ends.rt _ _ _; dsimp only)
  | (with_reducible show Ends.ct _ _ _; dsimp only)
  | (with_reducible show Ends.bk _ _ _; dsimp only))
local macro_rules | `(tactic| walk_at "go") => `(tactic| repeat (walk_at "st"))
local macro_rules | `(tactic| walk_at "begin") => `(tactic| dsimp only [cxOf, wipe, L2.start, List.map, List.length_cons, List.length_nil, Nat.reduceAdd, Nat.reduceSub, List.replicate, List.cons_append, List.nil_append])
namespace K16
open PySem PySem.Spec PyProof.Rows L2 Lw
def spName : Sp := fun args H Q _ => ∃ (st g : Addr) (R : RS) (C : Hp), args = [.ref st] ∧ H = rg st g R C ∧ Ok st g R C ∧ ∀ R' t, Ok st g R' C → Nw t → Q (.str t) (rg st g R' C)
def spRown : Sp := fun args H Q _ => ∃ (st g : Addr) (R : RS) (C : Hp) (n : Nat), args = [.ref st, .int ((n : Nat) : Int)] ∧ H = rg st g R C ∧ Ok st g R C ∧ n ≤ 100 ∧
  ∀ R' C' p (ts : List Str), Ok st g R' C' → Same C C' → C' p = some (.lst (ts.map V.str)) → C p = none → ts.length ≤ n → (∀ t ∈ ts, Nw t) → Q (.ref p) (rg st g R' C')
def spPickV : Sp := fun vs H Q _ => ∃ (st g p : Addr) (R : RS) (C : Hp) (ws : List V), vs = [.ref st, .ref p] ∧ H = rg st g R C ∧ Ok st g R C ∧ C p = some (.lst ws) ∧ 1 ≤ ws.length ∧ ws.length ≤ 1000000 ∧
  ∀ R' (i : Nat) x, Ok st g R' C → ws[i]? = some x → Q x (rg st g R' C)
def spSz (K : PySem.W.Frag) (n : Nat) : Sp := fun vs H Q _ => ∃ (v : V) (d : PyData) (m : Nat), vs = [v] ∧ Dp K H v d ∧ Pr.Pt d m ∧ d.depth < n ∧ m ≤ 20000 ∧ ∀ H', Same H H' → Q (.int ((m : Nat) : Int)) H'
theorem nw_first {x : Str} (h : Nw x) : ∃ c, atI x.cps.toList ((0 : Nat) : Int) = some c ∧ (⟨#[c]⟩ : Str) = cutS x none (some 1) := by
  obtain ⟨i, hi, c, ds, e, hc, hl, hds⟩ := h
  refine ⟨c, atI_nat (show (Ak.L x)[0]? = some c by rw [e]; rfl), ?_⟩
  have h1 := cut_st x 0 1 (Nat.zero_le _)
  have e1 : cutS x none (some 1) = cutS x (some ((0 : Nat) : Int)) (some ((1 : Nat) : Int)) := by
    unfold cutS
    rw [HT.sIx_nat x.length 0 0]
    rfl
  rw [e1, h1]
  apply Ak.L_inj
  rw [Pr.L_st, e]
  rfl
section
variable {P : Program} {w : World} {K : PySem.W.Frag} {mg : Str → Option Value} {base : Heap}
theorem ok_name {f f1 : Addr} {fd fd1 : FuncData} (B : Blt mg) (D : Dn K mg "_law_name" s__law_name ["state"] f fd) (D_law_draw : Dn K mg "_law_draw" s__law_draw ["state", "many"] f1 fd1)
    (G_law_draw : FnOk P w K mg base CX0 1 f1 fd1 ["state", "many"] spDraw) : FnOk P w K mg base CX0 2 f fd ["state"] spName := by
  refine D.F.ok sc__law_name (fun vs H Q E h => ?_) (fun cdv A outer s H vs Q E hr h => ?_)
  · obtain ⟨st, g, R, C, rfl, _⟩ := h
    rfl
  · obtain ⟨st, g, R0, C, rfl, rfl, o0, q⟩ := h
    refine ⟨_, (pss_cons (ps_set (i := 1) sc__law_name.nd rfl (.inl rfl) (pe_ix ix_str pe_str (pe_call G_law_draw (hr.mono (by decide)) (by rfl) D_law_draw.g D_law_draw.F.kp D_law_draw.b .nil pass0 (pa_cons (pv 0) (pa_cons pe_int pa_nil))) (fun _ _ => rfl)))
      (pss_cons (ps_for PassesOwn.never rfl (pi_range1 (by rfl) B.m_range (pa_cons (pe_call G_law_draw (hr.mono (by decide)) (by rfl) D_law_draw.g D_law_draw.F.kp D_law_draw.b .nil pass0 (pa_cons (pv 0) (pa_cons pe_int pa_nil))) pa_nil)) (pg_name (i := 2) sc__law_name.nd rfl (.inl rfl)) (pss_one (ps_set (i := 1) sc__law_name.nd rfl (.inl rfl) (pe_op op_catS (pv 1) (pe_ix ix_str pe_str (pe_call G_law_draw (hr.mono (by decide)) (by rfl) D_law_draw.g D_law_draw.F.kp D_law_draw.b .nil pass0 (pa_cons (pv 0) (pa_cons pe_int pa_nil))) (fun _ _ => rfl))))))
      (pss_one (ps_ret (pv 1))))), ?_⟩
    walk_at "begin"
    walk_at "go"
    rename_i R1 z1 o1 h10 h11
    obtain ⟨k, rfl⟩ : ∃ k : Nat, z1 = (k : Int) := ⟨z1.toNat, by omega⟩
    generalize hw : Str.ofString "abcdefghijklmnopqrstuvwxyz" = W
    have hWl : W.length = 26 := by rw [← hw]; decide +kernel
    obtain ⟨c, hc⟩ : ∃ c, atI W.cps.toList (k : Int) = some c := ⟨_, atI_nat (List.getElem?_eq_getElem (by rw [Array.length_toList]; show k < W.length; rw [hWl]; omega))⟩
    refine r_ixS (by rw [hWl, sizeLine_eq]; omega) hc ?_
    have hso : 97 ≤ c ∧ c ≤ 122 := (show ∀ c ∈ W.cps.toList, 97 ≤ c ∧ c ≤ 122 by rw [← hw]; decide +kernel) c (atI_mem hc)
    have h0 := Nk.one hso
    clear hc hWl hw
    generalize (⟨#[c]⟩ : Str) = t0 at h0 ⊢
    walk_at "go"
    rename_i R2 z2 o2 h20 h21
    obtain ⟨n, rfl⟩ : ∃ n : Nat, z2 = (n : Int) := ⟨z2.toNat, by omega⟩
    refine r_forR (by omega) (by omega) (fun i σ H1 => ∃ (R : RS) (t : Str) (y2 : Option V), σ = [some (.ref st), some (.str t), y2] ∧ H1 = rg st g R C ∧ Ok st g R C ∧ Nk i t) ?_ ?_ ?_
    · exact ⟨R2, t0, _, rfl, rfl, o2, h0⟩
    · rintro i σ H1 hi ⟨R, t, y2, rfl, rfl, o3, hk⟩
      have hl := hk.len
      rw [Int.toNat_natCast] at hi
      walk_at "go"
      rename_i R4 z4 o4 h40 h41
      obtain ⟨k, rfl⟩ : ∃ k : Nat, z4 = (k : Int) := ⟨z4.toNat, by omega⟩
      generalize hw : Str.ofString "0123456789" = W
      have hWl : W.length = 10 := by rw [← hw]; decide +kernel
      obtain ⟨c, hc⟩ : ∃ c, atI W.cps.toList (k : Int) = some c := ⟨_, atI_nat (List.getElem?_eq_getElem (by rw [Array.length_toList]; show k < W.length; rw [hWl]; omega))⟩
      refine r_ixS (by rw [hWl, sizeLine_eq]; omega) hc ?_
      have hcl : (⟨#[c]⟩ : Str).length = 1 := rfl
      refine r_catS (Nat.le_of_lt (small (by rw [hcl]; omega))) ?_
      walk_at "go"
      exact ⟨R4, _, _, rfl, rfl, o4, hk.snoc ((show ∀ c ∈ W.cps.toList, 48 ≤ c ∧ c ≤ 57 by rw [← hw]; decide +kernel) c (atI_mem hc))⟩
    · rintro σ H1 ⟨R, t, y2, rfl, rfl, o3, hk⟩
      rw [Int.toNat_natCast] at hk
      walk_at "go"
      exact q R t o3 ⟨n, by omega, hk⟩
theorem ok_rown {f f1 f2 : Addr} {fd fd1 fd2 : FuncData} (B : Blt mg) (D : Dn K mg "_law_row_of_names" s__law_row_of_names ["state", "many"] f fd) (D_law_draw : Dn K mg "_law_draw" s__law_draw ["state", "many"] f1 fd1)
    (G_law_draw : FnOk P w K mg base CX0 1 f1 fd1 ["state", "many"] spDraw) (D_law_name : Dn K mg "_law_name" s__law_name ["state"] f2 fd2) (G_law_name : FnOk P w K mg base CX0 2 f2 fd2 ["state"] spName) : FnOk P w K mg base CX0 3 f fd ["state", "many"] spRown := by
  refine D.F.ok sc__law_row_of_names (fun vs H Q E h => ?_) (fun cdv A outer s H vs Q E hr h => ?_)
  · obtain ⟨st, g, R, C, n, rfl, _⟩ := h
    rfl
  · obtain ⟨st, g, R0, B0, n, rfl, rfl, o0, hn2, q⟩ := h
    refine ⟨_, (pss_cons (ps_set (i := 2) sc__law_row_of_names.nd rfl (.inl rfl) (pe_cmpR op_eq (pe_call G_law_draw (hr.mono (by decide)) (by rfl) D_law_draw.g D_law_draw.F.kp D_law_draw.b .nil pass0 (pa_cons (pv 0) (pa_cons pe_int pa_nil))) pe_int (nomark _)))
      (pss_cons (ps_set (i := 3) sc__law_row_of_names.nd rfl (.inl rfl) (pe_lst pa_nil))
      (pss_cons (ps_for PassesOwn.never rfl (pi_range1 (by rfl) B.m_range (pa_cons (pv 1) pa_nil)) (pg_name (i := 4) sc__law_row_of_names.nd rfl (.inl rfl)) (pss_cons (ps_set (i := 5) sc__law_row_of_names.nd rfl (.inl rfl) (pe_call G_law_name (hr.mono (by decide)) (by rfl) D_law_name.g D_law_name.F.kp D_law_name.b .nil pass0 (pa_cons (pv 0) pa_nil)))
      (C8.pss_cut (ps_if (PW.pt (pw_and (pt_val (pv 2)) (pw_and1 (pt_cmpR op_gt (pe_callB (call_len_seqK (K := K) rfl) (by rfl) B.m_len PySem.boot_len (pa_cons (pv 3) pa_nil)) pe_int (nomark _))))) (pss_one (ps_set (i := 5) sc__law_row_of_names.nd rfl (.inl rfl) (pe_op op_catS (pe_ix ix_str (pe_ix (ix_listK (K := K) rfl) (pv 3) pe_int (fun _ _ => rfl)) pe_int (fun _ _ => rfl)) (pe_slice sl_str (pv 5) (po_some pe_int) po_none)))) pss_nil)
      (pss_one (ps_if (pt_cmpR (op_notIn_seqK (K := K) rfl) (pv 5) (pv 3) (by rfl)) (pss_one (ps_expr (pe_bmK (K := K) rfl PySem.F.plainAttrs_list PySem.F.slot_list_append PySem.F.type_list_append mt_append (pv 3) (pa_cons (pv 5) pa_nil)))) pss_nil)))))
      (pss_one (ps_ret (pv 3)))))), ?_⟩
    walk_at "begin"
    walk_at "go"
    rename_i R1 z1 o1 h10 h11
    generalize hb1 : decide (V.int z1 = V.int 1) = b1
    refine ⟨size_nil, fun D nD => ?_⟩
    obtain ⟨e1, o2, n1⟩ := newT_eq (topRg st g) o1 nD (.lst [])
    rw [e1]
    have s1 := same_new (o := .lst []) n1
    have hD1 : (upd B0 D (.lst [])) D = some (.lst (([] : List Str).map V.str)) := upd_same
    generalize upd B0 D (.lst []) = C1 at o2 s1 hD1 ⊢
    clear e1 nD
    walk_at "go"
    refine r_forR (by omega) (by omega) (fun i σ H1 => ∃ (R : RS) (C : Hp) (ts : List Str) (y4 y5 : Option V), σ = [some (.ref st), some (.int ((n : Nat) : Int)), some (.bl b1), some (.ref D), y4, y5] ∧ H1 = rg st g R C ∧ Ok st g R C ∧ Same B0 C ∧ C D = some (.lst (ts.map V.str)) ∧
      ts.length ≤ i ∧ (∀ t ∈ ts, Nw t)) ?_ ?_ ?_
    · exact ⟨R1, C1, [], _, _, rfl, rfl, o2, s1, hD1, Nat.le_refl _, (fun t ht => nomatch ht)⟩
    · clear s1 hD1 o2 C1
      rintro i σ H1 hi ⟨R, C, ts, y4, y5, rfl, rfl, o2, s1, hD1, hl2, hts⟩
      rw [Int.toNat_natCast] at hi
      walk_at "go"
      refine ⟨st, g, R, C, rfl, rfl, o2, fun R3 t o3 ht => ?_⟩
      have hDr := rg_get o3 hD1
      walk_at "go"
      refine ⟨fun σ H1 => ∃ t : Str, σ = [some (.ref st), some (.int ((n : Nat) : Int)), some (.bl b1), some (.ref D), some (.int (i : Int)), some (.str t)] ∧ H1 = rg st g R3 C ∧ Nw t, ?_, ?_⟩
      · cases b1 with
        | true =>
          walk_at "go"
          rw [List.length_map]
          refine r_ite (fun z => ?_) (fun z => ?_)
          · match ts, hDr, z with
            | x :: ts, hDr, _ =>
              walk_at "go"
              refine r_ixL hDr (show atI (V.str x :: ts.map V.str) ((0 : Nat) : Int) = some (.str x) from atI_nat rfl) ?_
              have hxl := hts x (by simp)
              have l1 := hxl.len
              have l2 := ht.len
              obtain ⟨c, hc, hcut⟩ := nw_first hxl
              walk_at "go"
              refine r_ixS (by rw [sizeLine_eq]; omega) (show atI x.cps.toList ((0 : Nat) : Int) = some c from hc) ?_
              have lb := cut_b t
              walk_at "go"
              refine r_slX (Nat.le_of_lt (small (by omega))) ?_
              refine r_catS (Nat.le_of_lt (small (by rw [show (⟨#[c]⟩ : Str).length = 1 from rfl]; omega))) ?_
              walk_at "go"
              exact ⟨_, rfl, rfl, by rw [hcut]; exact hxl.cut ht⟩
            | [], _, z => simp at z
          · walk_at "go"
            exact ⟨t, rfl, rfl, ht⟩
        | false =>
          walk_at "go"
          exact ⟨t, rfl, rfl, ht⟩
      rintro σ H1 ⟨t, rfl, rfl, ht⟩
      walk_at "go"
      refine r_inS hDr ?_
      rw [if_pos rfl]
      walk_at "go"
      refine r_iten (fun z => ?_) (fun z => ?_)
      · have hz9 : (ts.map V.str).length < sizeLine := small (by rw [List.length_map]; omega)
        walk_at "go"
        rw [show ts.map V.str ++ [V.str t] = (ts ++ [t]).map V.str from by rw [List.map_append]; rfl]
        obtain ⟨e9, o9⟩ := rg_write (o := .lst ((ts ++ [t]).map V.str)) o3 hD1
        rw [e9]
        refine ⟨R3, _, ts ++ [t], _, _, rfl, rfl, o9, same_off n1 s1, upd_same, by rw [List.length_append]; simp; omega, fun x hx => ?_⟩
        rcases List.mem_append.mp hx with y | y
        · exact hts x y
        · rw [List.mem_singleton.mp y]; exact ht
      · walk_at "go"
        exact ⟨R3, C, ts, _, _, rfl, rfl, o3, s1, hD1, by omega, hts⟩
    · rintro σ H1 ⟨R, C, ts, y4, y5, rfl, rfl, o2, s1, hD1, hl2, hts⟩
      rw [Int.toNat_natCast] at hl2
      walk_at "go"
      exact q R C D ts o2 s1 hD1 n1 hl2 hts
theorem ok_pickV {f f1 : Addr} {fd fd1 : FuncData} (B : Blt mg) (D : Dn K mg "_law_pick" s__law_pick ["state", "row"] f fd) (D_law_draw : Dn K mg "_law_draw" s__law_draw ["state", "many"] f1 fd1) (G_law_draw : FnOk P w K mg base CX0 1 f1 fd1 ["state", "many"] spDraw) : FnOk P w K mg base CX0 2 f fd ["state", "row"] spPickV := by
  refine D.F.ok (k := 1) sc__law_pick (fun vs H Q E h => ?_) (fun cdv A outer s H vs Q E hr h => ?_)
  · obtain ⟨st, g, p, R, C, ws, rfl, _⟩ := h
    rfl
  · obtain ⟨st, g, p, R, C, ws, rfl, rfl, o, hp, h1, h2, q⟩ := h
    refine ⟨_, (pss_one (ps_ret (pe_ix (ix_listK (K := K) rfl) (pv 1) (pe_call G_law_draw (hr.mono (by decide)) (by rfl) D_law_draw.g D_law_draw.F.kp D_law_draw.b .nil pass0 (pa_cons (pv 0) (pa_cons (pe_callB (call_len_seqK (K := K) rfl) (by rfl) B.m_len PySem.boot_len (pa_cons (pv 1) pa_nil)) pa_nil))) (fun _ _ => rfl)))), ?_⟩
    walk_at "begin"
    walk_at "go"
    rename_i R2 n2 o2 h20 h21
    obtain ⟨k, rfl⟩ : ∃ k : Nat, n2 = (k : Int) := ⟨n2.toNat, by omega⟩
    have hk : k < ws.length := by omega
    refine r_ixL (rg_get o2 hp) (atI_nat (v := ws[k]'hk) (List.getElem?_eq_getElem hk)) ?_
    walk_at "go"
    exact q R2 k _ o2 (List.getElem?_eq_getElem hk)
theorem rd_size {f : Addr} {fd : FuncData} (B : Blt mg) (kT : PySem.W.kitOne K (.type "tuple") (.type "tuple") = some true) (kS : PySem.W.kitOne K (.type "str") (.type "tuple") = some false) (D : Dn K mg "_law_size" s__law_size ["tree"] f fd) : ∀ n, FnOk P w K mg base CX0 (1 + n) f fd ["tree"] (spSz K n)
  | 0 => ⟨fun vs H Q E h => (by obtain ⟨v, d, m, rfl, _⟩ := h; rfl), fun A outer s H args us vs Q E hr e0 hb r h => (by obtain ⟨v, d, m, _, _, _, hd, _⟩ := h; exact absurd hd (Nat.not_lt_zero _))⟩
  | n + 1 => by
    have ih := rd_size B kT kS D n
    refine D.F.ok (k := 1 + n) sc__law_size (fun vs H Q E h => ?_) (fun cdv A outer s H vs Q E hr h => ?_)
    · obtain ⟨v, d, m, rfl, _⟩ := h
      rfl
    · obtain ⟨v, d, m, rfl, hv, hp, hd, hm, q⟩ := h
      refine ⟨_, (pss_cons (ps_set (i := 1) sc__law_size.nd rfl (.inl rfl) pe_int)
      (pss_cons (ps_for PassesOwn.never rfl (pi_tupK (K := K) rfl (pe_slice (sl_tupK (K := K) rfl) (pv 0) (po_some pe_int) po_none)) (pg_name (i := 2) sc__law_size.nd rfl (.inl rfl)) (pss_one (ps_if (pt_val (pe_callB (call_isiK' (K := K) rfl) (by rfl) B.m_isinstance (by decide +kernel) (pa_cons (pv 2) (pa_cons (pe_bltn (v := .ty "tuple") (by rfl) B.m_tuple (by decide +kernel) rfl) pa_nil)))) (pss_one (ps_set (i := 1) sc__law_size.nd rfl (.inl rfl) (pe_op op_add (pv 1) (pe_call ih (hr.mono (Nat.le_refl _)) (by rfl) D.g D.F.kp D.b .nil pass0 (pa_cons (pv 2) pa_nil))))) pss_nil)))
      (pss_one (ps_ret (pv 1))))), ?_⟩
      have key : ∃ (a : Addr) (k : Str) (ys : List V) (ws : List Nat), v = .ref a ∧ SqT K H a (V.str k :: ys) ∧ m = 1 + ws.sum ∧ ws.length = ys.length ∧ ∀ (i : Nat) (x : V), ys[i]? = some x → ∃ c, ws[i]? = some c ∧ ((∃ z, x = .str z ∧ c = 0) ∨ ∃ e, Dp K H x e ∧ Pr.Pt e c ∧ e.depth < n) := by
        cases hp with
        | @name x =>
          obtain ⟨a, y, rfl, hq, hy⟩ := dp_1 hv
          cases hy
          refine ⟨a, _, _, [0], rfl, hq, rfl, rfl, fun i z hz => ?_⟩
          cases i with
          | zero => cases hz; exact ⟨0, rfl, .inl ⟨_, rfl, rfl⟩⟩
          | succ i => cases hz
        | @node k ds m' hk hall =>
          obtain ⟨a, ys, rfl, hq, hys⟩ := dp_tup hv
          obtain ⟨ns, e1, e2, e3⟩ := ns_of hall
          refine ⟨a, k, ys, ns, rfl, hq, by rw [e3]; omega, by rw [e1, dpAll_len hys], fun i x hx => ?_⟩
          obtain ⟨e, he, hde⟩ := dpAll_at hys hx
          obtain ⟨c, hc, hpe⟩ := e2 i e he
          refine ⟨c, hc, .inr ⟨e, hde, hpe, ?_⟩⟩
          have h1 := depth_mem he
          have h2 : PyData.depth (.tuple (.str k :: ds)) = max 0 (PyData.depthAll ds) + 1 := rfl
          omega
      obtain ⟨a, k, ys, ws, rfl, hq, rfl, hwl, hall⟩ := key
      clear hv hp hd
      walk_at "begin"
      walk_at "go"
      refine r_iTup ?_
      walk_at "go"
      refine r_slQ1 hq (by simp) fun p2 n2 => ?_
      have s3 := same_new (o := HO.tup ((V.str k :: ys).drop 1)) n2
      have h3 : upd H p2 (.tup ((V.str k :: ys).drop 1)) p2 = some (.tup ys) := upd_same
      generalize upd H p2 (.tup ((V.str k :: ys).drop 1)) = H3 at s3 h3 ⊢
      refine r_forT h3 (fun i σ H' => ∃ (y2 : Option V), σ = [some (.ref a), some (.int ((1 + (ws.take i).sum : Nat) : Int)), y2] ∧ Same H3 H') ?_ ?_ ?_ ?_
      · exact ⟨none, rfl, Same.refl _⟩
      · rintro i σ H' hi ⟨y2, _, s4⟩
        exact s4 _ _ h3
      · rintro i x σ H' hx ⟨y2, rfl, s4⟩
        obtain ⟨c, hc, h⟩ := hall i x hx
        have ht : (ws.take (i + 1)).sum = (ws.take i).sum + c := by rw [List.take_succ, hc]; simp
        walk_at "go"
        rcases h with ⟨z, rfl, rfl⟩ | ⟨e, hde, hpe, hdp⟩
        · refine ⟨.str z, .ty "tuple", .type "str", .type "tuple", false, rfl, .ty _, .base (.str _), kS, ?_⟩
          walk_at "go"
          exact ⟨_, by rw [ht]; rfl, s4⟩
        · have hde := dp_mono (s3.trans s4) hde
          refine ⟨x, .ty "tuple", .type "tuple", .type "tuple", true, rfl, .ty _, dp_ty hde (by cases hpe <;> exact ⟨_, rfl⟩), kT, ?_⟩
          walk_at "go"
          refine ⟨x, e, c, rfl, hde, hpe, hdp, ?_, fun H5 s5 => ?_⟩
          · have := le_sum (List.mem_of_getElem? hc)
            omega
          walk_at "go"
          exact ⟨_, by rw [ht, show ((1 + (ws.take i).sum : Nat) : Int) + (c : Int) = ((1 + ((ws.take i).sum + c) : Nat) : Int) by omega], s4.trans s5⟩
      · rintro σ H' ⟨y2, rfl, s4⟩
        walk_at "go"
        rw [← hwl, List.take_length]
        exact q _ (s3.trans s4)
end
end K16
namespace K16
open PySem PySem.Spec PyProof.Rows L2 Lw
open Sy (Bd Sg Op Fk Jn Bk)
def TmW (K : PySem.W.Frag) (H : Hp) (ns : List Str) (n m : Nat) (v : V) : Prop := ∃ t : Sy.Tm, Tv K H v t.d ∧ t.d.depth ≤ n ∧ t.sz ≤ m ∧ ∀ x ∈ t.ns, x ∈ ns
def BdW (K : PySem.W.Frag) (H : Hp) (ns : List Str) (n m : Nat) (v : V) : Prop := ∃ t : Bd, Tv K H v t.d ∧ t.d.depth ≤ n ∧ t.sz ≤ m ∧ ∀ x ∈ t.ns, x ∈ ns
def SgW (K : PySem.W.Frag) (H : Hp) (ns : List Str) (n m : Nat) (v : V) : Prop := ∃ t : Sg, Tv K H v t.d ∧ t.d.depth ≤ n ∧ t.sz ≤ m ∧ ∀ x ∈ t.ns, x ∈ ns
theorem TmW.kx {K : PySem.W.Frag} {H H' : Hp} {ns : List Str} {n m n' : Nat} {v : V} (h : TmW K H ns n m v) (s : KX H H') (e : n ≤ n') : TmW K H' ns n' m v := by
  obtain ⟨t, h1, h2, h3⟩ := h; exact ⟨t, h1.kx s, by omega, h3⟩
theorem BdW.kx {K : PySem.W.Frag} {H H' : Hp} {ns : List Str} {n m n' : Nat} {v : V} (h : BdW K H ns n m v) (s : KX H H') (e : n ≤ n') : BdW K H' ns n' m v := by
  obtain ⟨t, h1, h2, h3⟩ := h; exact ⟨t, h1.kx s, by omega, h3⟩
theorem SgW.kx {K : PySem.W.Frag} {H H' : Hp} {ns : List Str} {n m n' : Nat} {v : V} (h : SgW K H ns n m v) (s : KX H H') (e : n ≤ n') : SgW K H' ns n' m v := by
  obtain ⟨t, h1, h2, h3⟩ := h; exact ⟨t, h1.kx s, by omega, h3⟩
def spNt (K : PySem.W.Frag) : Sp := fun vs H Q _ => ∃ (st g p : Addr) (R : RS) (C : Hp) (xs : List V) (ns : List Str) (n : Nat), vs = [.ref st, .ref p] ∧ H = rg st g R C ∧ Ok st g R C ∧ C p = some (.lst xs) ∧ 1 ≤ xs.length ∧ xs.length ≤ 1000 ∧ (∀ v ∈ xs, TmW K C ns n 200 v) ∧
  ∀ R' C' v, Ok st g R' C' → Same C C' → TmW K C' ns (n + 1) 401 v → Q v (rg st g R' C')
def spNb (K : PySem.W.Frag) : Sp := fun vs H Q _ => ∃ (st g p q : Addr) (R : RS) (C : Hp) (xs ys : List V) (ns : List Str) (n : Nat), vs = [.ref st, .ref p, .ref q] ∧ H = rg st g R C ∧ Ok st g R C ∧ C p = some (.lst xs) ∧ 1 ≤ xs.length ∧ xs.length ≤ 1000 ∧ (∀ v ∈ xs, TmW K C ns n 200 v) ∧
  C q = some (.lst ys) ∧ 1 ≤ ys.length ∧ ys.length ≤ 1000 ∧ (∀ v ∈ ys, BdW K C ns (n + 1) 200 v) ∧
  ∀ R' C' v, Ok st g R' C' → Same C C' → BdW K C' ns (n + 2) 401 v → Q v (rg st g R' C')
def spNs (K : PySem.W.Frag) : Sp := fun vs H Q _ => ∃ (st g p q r : Addr) (R : RS) (C : Hp) (xs ys zs : List V) (ns : List Str) (n : Nat), vs = [.ref st, .ref p, .ref q, .ref r] ∧ H = rg st g R C ∧ Ok st g R C ∧ C p = some (.lst xs) ∧ 1 ≤ xs.length ∧ xs.length ≤ 1000 ∧ (∀ v ∈ xs, TmW K C ns n 200 v) ∧
  C q = some (.lst ys) ∧ 1 ≤ ys.length ∧ ys.length ≤ 1000 ∧ (∀ v ∈ ys, BdW K C ns (n + 1) 200 v) ∧ C r = some (.lst zs) ∧ 1 ≤ zs.length ∧ zs.length ≤ 1000 ∧ (∀ v ∈ zs, SgW K C ns (n + 1) 200 v) ∧
  ∀ R' C' v, Ok st g R' C' → Same C C' → SgW K C' ns (n + 2) 401 v → Q v (rg st g R' C')
theorem pick_strs (l : List Str) {z : Int} (h0 : 0 ≤ z) (h1 : z < (l.length : Int)) : ∃ v, v ∈ l ∧ atI (l.map V.str) z = some (.str v) := by
  have hz : z.toNat < l.length := by omega
  refine ⟨l[z.toNat]'hz, List.getElem_mem hz, ?_⟩
  have := atI_nat (v := V.str (l[z.toNat]'hz)) (xs := l.map V.str) (j := z.toNat) (by rw [List.getElem?_map, List.getElem?_eq_getElem hz]; rfl)
  rwa [Int.toNat_of_nonneg h0] at this
section
variable {P : Program} {w : World} {K : PySem.W.Frag} {mg : Str → Option Value} {base : Heap}
theorem ok_newTm {f f1 f2 : Addr} {fd fd1 fd2 : FuncData} (B : Blt mg) (D : Dn K mg "_law_new_term" s__law_new_term ["state", "terms"] f fd) (D_law_draw : Dn K mg "_law_draw" s__law_draw ["state", "many"] f1 fd1) (G_law_draw : FnOk P w K mg base CX0 1 f1 fd1 ["state", "many"] spDraw)
    (D_law_pick : Dn K mg "_law_pick" s__law_pick ["state", "row"] f2 fd2) (G_law_pick : FnOk P w K mg base CX0 2 f2 fd2 ["state", "row"] spPickV) : FnOk P w K mg base CX0 3 f fd ["state", "terms"] (spNt K) := by
  refine D.F.ok (k := 2) sc__law_new_term (fun vs H Q E h => ?_) (fun cdv A outer s H vs Q E hr h => ?_)
  · obtain ⟨st, g, p, R, C, xs, ns, n, rfl, _⟩ := h
    rfl
  · obtain ⟨st, g, p, R, C, xs, ns, n, rfl, rfl, o, hp, h1, h2, hx, q⟩ := h
    refine ⟨_, (pss_cons (ps_set (i := 2) sc__law_new_term.nd rfl (.inl rfl) (pe_call G_law_pick (hr.mono (by omega)) (by rfl) D_law_pick.g D_law_pick.F.kp D_law_pick.b .nil pass0 (pa_cons (pv 0) (pa_cons (pv 1) pa_nil))))
      (pss_cons (ps_set (i := 3) sc__law_new_term.nd rfl (.inl rfl) (pe_call G_law_pick (hr.mono (by omega)) (by rfl) D_law_pick.g D_law_pick.F.kp D_law_pick.b .nil pass0 (pa_cons (pv 0) (pa_cons (pv 1) pa_nil))))
      (pss_cons (ps_set (i := 4) sc__law_new_term.nd rfl (.inl rfl) (pe_call G_law_draw (hr.mono (by omega)) (by rfl) D_law_draw.g D_law_draw.F.kp D_law_draw.b .nil pass0 (pa_cons (pv 0) (pa_cons pe_int pa_nil))))
      (pss_cons (ps_if (pt_cmpR op_lt (pv 4) pe_int (nomark _)) (pss_one (ps_ret (pe_tup (pa_cons pe_str (pa_cons (pv 2) pa_nil))))) pss_nil)
      (pss_one (ps_ret (pe_tup (pa_cons (pe_ix (ix_listK (K := K) rfl) (pe_lst (pa_cons pe_str (pa_cons pe_str (pa_cons pe_str pa_nil)))) (pe_op op_sub (pv 4) pe_int) (fun _ _ => rfl)) (pa_cons (pv 2) (pa_cons (pv 3) pa_nil)))))))))), ?_⟩
    walk_at "begin"
    walk_at "go"
    refine ⟨st, g, p, R, C, xs, rfl, rfl, o, hp, h1, by omega, fun R1 i1 v1 o1 hv1 => ?_⟩
    walk_at "go"
    refine ⟨st, g, p, R1, C, xs, rfl, rfl, o1, hp, h1, by omega, fun R2 i2 v2 o2 hv2 => ?_⟩
    obtain ⟨t, ht1, ht2, ht3, ht4⟩ := hx _ (List.mem_of_getElem? hv1)
    obtain ⟨u, hu1, hu2, hu3, hu4⟩ := hx _ (List.mem_of_getElem? hv2)
    walk_at "go"
    rename_i R3 z3 o3 h30 h31
    refine r_ite (fun z => ?_) (fun z => ?_)
    · walk_at "go"
      refine ⟨by walk_at "len", fun p3 np3 => ?_⟩
      obtain ⟨e3, o4, n4⟩ := newT_eq (topRg st g) o3 np3 (.tup [.str "just", v1])
      rw [e3]
      refine q R3 _ _ o4 (same_new n4) ⟨.just t, tv_mk1 (by decide +kernel) upd_same (ht1.mono (same_new n4)), ?_, ?_, ht4⟩
      · show (PyData.tuple [.str "just", t.d]).depth ≤ _
        rw [dep1]; omega
      · show t.sz + 1 ≤ 401; omega
    · walk_at "go"
      refine ⟨by walk_at "len", fun p3 np3 => ?_⟩
      obtain ⟨e3, o4, n4⟩ := newT_eq (topRg st g) o3 np3 (.lst [.str "plus", .str "meet", .str "less"])
      rw [e3]
      obtain ⟨k, hk, hat⟩ := pick_strs ["plus", "meet", "less"] (z := z3 - 2) (by omega) (by show z3 - 2 < 3; omega)
      obtain ⟨op, rfl⟩ : ∃ op : Op, k = op.s := by
        simp only [List.mem_cons, List.not_mem_nil, or_false] at hk
        rcases hk with rfl | rfl | rfl
        · exact ⟨.plus, rfl⟩
        · exact ⟨.meet, rfl⟩
        · exact ⟨.less, rfl⟩
      walk_at "go"
      refine r_ixL (rg_get o4 upd_same) hat ?_
      walk_at "go"
      refine ⟨by walk_at "len", fun p5 np5 => ?_⟩
      obtain ⟨e5, o5, n5⟩ := newT_eq (topRg st g) o4 np5 (.tup [.str op.s, v1, v2])
      rw [e5]
      have s5 := (same_new (o := .lst [.str "plus", .str "meet", .str "less"]) n4).trans (same_new (o := .tup [.str op.s, v1, v2]) n5)
      refine q R3 _ _ o5 s5 ⟨.bin op t u, tv_mk2 (by cases op <;> decide +kernel) upd_same (ht1.mono s5) (hu1.mono s5), ?_, ?_, fun x hx => (List.mem_append.mp hx).elim (ht4 x) (hu4 x)⟩
      · show (PyData.tuple [.str op.s, t.d, u.d]).depth ≤ _
        rw [dep2]; omega
      · show t.sz + u.sz + 1 ≤ 401; omega
theorem ok_newBd {f f1 f2 : Addr} {fd fd1 fd2 : FuncData} (B : Blt mg) (D : Dn K mg "_law_new_body" s__law_new_body ["state", "terms", "bodies"] f fd) (D_law_draw : Dn K mg "_law_draw" s__law_draw ["state", "many"] f1 fd1) (G_law_draw : FnOk P w K mg base CX0 1 f1 fd1 ["state", "many"] spDraw)
    (D_law_pick : Dn K mg "_law_pick" s__law_pick ["state", "row"] f2 fd2) (G_law_pick : FnOk P w K mg base CX0 2 f2 fd2 ["state", "row"] spPickV) : FnOk P w K mg base CX0 3 f fd ["state", "terms", "bodies"] (spNb K) := by
  refine D.F.ok (k := 2) sc__law_new_body (fun vs H Q E h => ?_) (fun cdv A outer s H vs Q E hr h => ?_)
  · obtain ⟨st, g, p, pb, R, C, xs, ys, ns, n, rfl, _⟩ := h
    rfl
  · obtain ⟨st, g, p, pb, R, C, xs, ys, ns, n, rfl, rfl, o, hp, h1, h2, hx, hpb, k1, k2, hy, q⟩ := h
    refine ⟨_, (pss_cons (ps_set (i := 3) sc__law_new_body.nd rfl (.inl rfl) (pe_call G_law_draw (hr.mono (by omega)) (by rfl) D_law_draw.g D_law_draw.F.kp D_law_draw.b .nil pass0 (pa_cons (pv 0) (pa_cons pe_int pa_nil))))
      (pss_cons (ps_if (pt_cmpR op_lt (pv 3) pe_int (nomark _)) (pss_one (ps_ret (pe_tup (pa_cons (pe_ix (ix_listK (K := K) rfl) (pe_lst (pa_cons pe_str (pa_cons pe_str (pa_cons pe_str (pa_cons pe_str pa_nil))))) (pv 3) (fun _ _ => rfl)) (pa_cons (pe_call G_law_pick (hr.mono (by omega)) (by rfl) D_law_pick.g D_law_pick.F.kp D_law_pick.b .nil pass0 (pa_cons (pv 0) (pa_cons (pv 1) pa_nil))) pa_nil))))) pss_nil)
      (pss_cons (ps_set (i := 4) sc__law_new_body.nd rfl (.inl rfl) (pe_call G_law_pick (hr.mono (by omega)) (by rfl) D_law_pick.g D_law_pick.F.kp D_law_pick.b .nil pass0 (pa_cons (pv 0) (pa_cons (pv 2) pa_nil))))
      (pss_cons (ps_if (pt_cmpR op_eq (pv 3) pe_int (nomark _)) (pss_one (ps_ret (pe_tup (pa_cons pe_str (pa_cons (pv 4) pa_nil))))) pss_nil)
      (pss_one (ps_ret (pe_tup (pa_cons (pe_ix (ix_listK (K := K) rfl) (pe_lst (pa_cons pe_str (pa_cons pe_str (pa_cons pe_str pa_nil)))) (pe_op op_sub (pv 3) pe_int) (fun _ _ => rfl)) (pa_cons (pv 4) (pa_cons (pe_call G_law_pick (hr.mono (by omega)) (by rfl) D_law_pick.g D_law_pick.F.kp D_law_pick.b .nil pass0 (pa_cons (pv 0) (pa_cons (pv 2) pa_nil))) pa_nil)))))))))), ?_⟩
    walk_at "begin"
    walk_at "go"
    rename_i R1 z1 o1 h10 h11
    refine r_ite (fun z => ?_) (fun z => ?_)
    · walk_at "go"
      refine ⟨by walk_at "len", fun p3 np3 => ?_⟩
      obtain ⟨e3, o4, n4⟩ := newT_eq (topRg st g) o1 np3 (.lst [.str "inside", .str "has", .str "has", .str "is"])
      rw [e3]
      obtain ⟨k, hk, hat⟩ := pick_strs ["inside", "has", "has", "is"] (z := z1) (by omega) (by show z1 < 4; omega)
      obtain ⟨op, rfl⟩ : ∃ op : Bk, k = op.s := by
        simp only [List.mem_cons, List.not_mem_nil, or_false] at hk
        rcases hk with rfl | rfl | rfl | rfl
        · exact ⟨.inside, rfl⟩
        · exact ⟨.has, rfl⟩
        · exact ⟨.has, rfl⟩
        · exact ⟨.is, rfl⟩
      have s4 := same_new (o := .lst [.str "inside", .str "has", .str "has", .str "is"]) n4
      walk_at "go"
      refine r_ixL (rg_get o4 upd_same) hat ?_
      walk_at "go"
      refine ⟨st, g, p, R1, _, xs, rfl, rfl, o4, s4 _ _ hp, h1, by omega, fun R2 i2 v2 o2 hv2 => ?_⟩
      obtain ⟨t, ht1, ht2, ht3, ht4⟩ := hx _ (List.mem_of_getElem? hv2)
      walk_at "go"
      refine ⟨by walk_at "len", fun p5 np5 => ?_⟩
      obtain ⟨e5, o5, n5⟩ := newT_eq (topRg st g) o2 np5 (.tup [.str op.s, v2])
      rw [e5]
      have s5 := s4.trans (same_new (o := .tup [.str op.s, v2]) n5)
      refine q R2 _ _ o5 s5 ⟨.fact op t, tv_mk1 (by cases op <;> decide +kernel) upd_same (ht1.mono s5), ?_, ?_, ht4⟩
      · show (PyData.tuple [.str op.s, t.d]).depth ≤ _
        rw [dep1]; omega
      · show t.sz + 1 ≤ 401; omega
    · walk_at "go"
      refine ⟨st, g, pb, R1, C, ys, rfl, rfl, o1, hpb, k1, by omega, fun R2 i2 v2 o2 hv2 => ?_⟩
      obtain ⟨t, ht1, ht2, ht3, ht4⟩ := hy _ (List.mem_of_getElem? hv2)
      walk_at "go"
      refine r_ite (fun z4 => ?_) (fun z4 => ?_)
      · walk_at "go"
        refine ⟨by walk_at "len", fun p5 np5 => ?_⟩
        obtain ⟨e5, o5, n5⟩ := newT_eq (topRg st g) o2 np5 (.tup [.str "not", v2])
        rw [e5]
        refine q R2 _ _ o5 (same_new n5) ⟨.not t, tv_mk1 (by decide +kernel) upd_same (ht1.mono (same_new n5)), ?_, ?_, ht4⟩
        · show (PyData.tuple [.str "not", t.d]).depth ≤ _
          rw [dep1]; omega
        · show t.sz + 1 ≤ 401; omega
      · have z4 : z1 ≠ 4 := fun e => z4 (congrArg V.int e)
        walk_at "go"
        refine ⟨by walk_at "len", fun p3 np3 => ?_⟩
        obtain ⟨e3, o4, n4⟩ := newT_eq (topRg st g) o2 np3 (.lst [.str "and", .str "or", .str "then"])
        rw [e3]
        obtain ⟨k, hk, hat⟩ := pick_strs ["and", "or", "then"] (z := z1 - 5) (by omega) (by show z1 - 5 < 3; omega)
        obtain ⟨op, rfl⟩ : ∃ op : Jn, k = op.s := by
          simp only [List.mem_cons, List.not_mem_nil, or_false] at hk
          rcases hk with rfl | rfl | rfl
          · exact ⟨.and, rfl⟩
          · exact ⟨.or, rfl⟩
          · exact ⟨.thn, rfl⟩
        have s4 := same_new (o := .lst [.str "and", .str "or", .str "then"]) n4
        walk_at "go"
        refine r_ixL (rg_get o4 upd_same) hat ?_
        walk_at "go"
        refine ⟨st, g, pb, R2, _, ys, rfl, rfl, o4, s4 _ _ hpb, k1, by omega, fun R3 i3 v3 o3 hv3 => ?_⟩
        obtain ⟨u, hu1, hu2, hu3, hu4⟩ := hy _ (List.mem_of_getElem? hv3)
        walk_at "go"
        refine ⟨by walk_at "len", fun p5 np5 => ?_⟩
        obtain ⟨e5, o5, n5⟩ := newT_eq (topRg st g) o3 np5 (.tup [.str op.s, v2, v3])
        rw [e5]
        have s5 := s4.trans (same_new (o := .tup [.str op.s, v2, v3]) n5)
        refine q R3 _ _ o5 s5 ⟨.bin op t u, tv_mk2 (by cases op <;> decide +kernel) upd_same (ht1.mono s5) (hu1.mono s5), ?_, ?_, fun x hx => (List.mem_append.mp hx).elim (ht4 x) (hu4 x)⟩
        · show (PyData.tuple [.str op.s, t.d, u.d]).depth ≤ _
          rw [dep2]; omega
        · show t.sz + u.sz + 1 ≤ 401; omega
end
end K16
namespace K16
open PySem PySem.Spec PyProof.Rows L2 Lw
open Sy (Bd Sg Op Fk Jn Bk)
theorem TmW.up {K : PySem.W.Frag} {H : Hp} {ns : List Str} {n m m' : Nat} {v : V} (h : TmW K H ns n m v) (e : m ≤ m') : TmW K H ns n m' v := by
  obtain ⟨t, h1, h2, h3, h4⟩ := h; exact ⟨t, h1, h2, by omega, h4⟩
theorem none_back {A B : Hp} {p : Addr} (s : Same A B) (h : B p = none) : A p = none := by
  cases e : A p with
  | none => rfl
  | some o => rw [s _ _ e] at h; cases h
theorem rg_sub {st g : Addr} {R : RS} {C : Hp} (o : Ok st g R C) : Same C (rg st g R C) := fun a x e => rg_get o e
theorem dp_rg {K : PySem.W.Frag} {st g : Addr} {R : RS} {C : Hp} {v : V} {d : PyData} (o : Ok st g R C) (h : Dp K C v d) : Dp K (rg st g R C) v d := dp_mono (rg_sub o) h
def spBu (K : PySem.W.Frag) : Sp := fun vs H Q _ => ∃ (st g nl : Addr) (R : RS) (C : Hp) (ns : List Str) (steps most : Nat), vs = [.ref st, .ref nl, .int ((steps : Nat) : Int), .int ((most : Nat) : Int)] ∧ H = rg st g R C ∧ Ok st g R C ∧ C nl = some (.lst (ns.map V.str)) ∧ ns.length ≤ 20 ∧ (∀ x ∈ ns, Nw x) ∧ steps ≤ 40 ∧ most ≤ 200 ∧
  ∀ R' C' p zs, Ok st g R' C' → Same C C' → C' p = some (.lst zs) → 1 ≤ zs.length → zs.length ≤ 100 → (∀ v ∈ zs, SgW K C' ns 43 200 v) → Q (.ref p) (rg st g R' C')
section
variable {P : Program} {w : World} {K : PySem.W.Frag} {mg : Str → Option Value} {base : Heap}
theorem ok_newSg {f f1 f2 : Addr} {fd fd1 fd2 : FuncData} (B : Blt mg) (D : Dn K mg "_law_new_saying" s__law_new_saying ["state", "terms", "bodies", "sayings"] f fd) (D_law_draw : Dn K mg "_law_draw" s__law_draw ["state", "many"] f1 fd1) (G_law_draw : FnOk P w K mg base CX0 1 f1 fd1 ["state", "many"] spDraw)
    (D_law_pick : Dn K mg "_law_pick" s__law_pick ["state", "row"] f2 fd2) (G_law_pick : FnOk P w K mg base CX0 2 f2 fd2 ["state", "row"] spPickV) : FnOk P w K mg base CX0 3 f fd ["state", "terms", "bodies", "sayings"] (spNs K) := by
  refine D.F.ok (k := 2) sc__law_new_saying (fun vs H Q E h => ?_) (fun cdv A outer s H vs Q E hr h => ?_)
  · obtain ⟨st, g, p, pb, ps, R, C, xs, ys, zs, ns, n, rfl, _⟩ := h
    rfl
  · obtain ⟨st, g, p, pb, ps, R, C, xs, ys, zs, ns, n, rfl, rfl, o, hp, h1, h2, hx, hpb, k1, k2, hy, hps, l1, l2, hz, q⟩ := h
    refine ⟨_, (pss_cons (ps_set (i := 4) sc__law_new_saying.nd rfl (.inl rfl) (pe_call G_law_draw (hr.mono (by omega)) (by rfl) D_law_draw.g D_law_draw.F.kp D_law_draw.b .nil pass0 (pa_cons (pv 0) (pa_cons pe_int pa_nil))))
      (pss_cons (ps_if (pt_cmpR op_lt (pv 4) pe_int (nomark _)) (pss_one (ps_ret (pe_tup (pa_cons (pe_ix (ix_listK (K := K) rfl) (pe_lst (pa_cons pe_str (pa_cons pe_str (pa_cons pe_str pa_nil)))) (pv 4) (fun _ _ => rfl)) (pa_cons (pe_call G_law_pick (hr.mono (by omega)) (by rfl) D_law_pick.g D_law_pick.F.kp D_law_pick.b .nil pass0 (pa_cons (pv 0) (pa_cons (pv 1) pa_nil))) (pa_cons (pe_call G_law_pick (hr.mono (by omega)) (by rfl) D_law_pick.g D_law_pick.F.kp D_law_pick.b .nil pass0 (pa_cons (pv 0) (pa_cons (pv 1) pa_nil))) pa_nil)))))) pss_nil)
      (pss_cons (ps_if (pt_cmpR op_eq (pv 4) pe_int (nomark _)) (pss_one (ps_ret (pe_tup (pa_cons pe_str (pa_cons (pe_call G_law_pick (hr.mono (by omega)) (by rfl) D_law_pick.g D_law_pick.F.kp D_law_pick.b .nil pass0 (pa_cons (pv 0) (pa_cons (pe_slice (sl_listK (K := K) rfl) (pv 1) po_none (po_some pe_int)) pa_nil))) (pa_cons (pe_call G_law_pick (hr.mono (by omega)) (by rfl) D_law_pick.g D_law_pick.F.kp D_law_pick.b .nil pass0 (pa_cons (pv 0) (pa_cons (pe_slice (sl_listK (K := K) rfl) (pv 1) po_none (po_some pe_int)) pa_nil))) pa_nil)))))) pss_nil)
      (pss_cons (ps_if (pt_cmpR op_lt (pv 4) pe_int (nomark _)) (pss_one (ps_ret (pe_tup (pa_cons (pe_ix (ix_listK (K := K) rfl) (pe_lst (pa_cons pe_str (pa_cons pe_str (pa_cons pe_str pa_nil)))) (pe_op op_sub (pv 4) pe_int) (fun _ _ => rfl)) (pa_cons (pe_call G_law_pick (hr.mono (by omega)) (by rfl) D_law_pick.g D_law_pick.F.kp D_law_pick.b .nil pass0 (pa_cons (pv 0) (pa_cons (pv 1) pa_nil))) (pa_cons (pe_call G_law_pick (hr.mono (by omega)) (by rfl) D_law_pick.g D_law_pick.F.kp D_law_pick.b .nil pass0 (pa_cons (pv 0) (pa_cons (pv 2) pa_nil))) pa_nil)))))) pss_nil)
      (pss_cons (ps_set (i := 5) sc__law_new_saying.nd rfl (.inl rfl) (pe_call G_law_pick (hr.mono (by omega)) (by rfl) D_law_pick.g D_law_pick.F.kp D_law_pick.b .nil pass0 (pa_cons (pv 0) (pa_cons (pv 3) pa_nil))))
      (pss_cons (ps_if (pt_cmpR op_eq (pv 4) pe_int (nomark _)) (pss_one (ps_ret (pe_tup (pa_cons pe_str (pa_cons (pv 5) pa_nil))))) pss_nil)
      (pss_one (ps_ret (pe_tup (pa_cons (pe_ix (ix_listK (K := K) rfl) (pe_lst (pa_cons pe_str (pa_cons pe_str (pa_cons pe_str (pa_cons pe_str pa_nil))))) (pe_op op_sub (pv 4) pe_int) (fun _ _ => rfl)) (pa_cons (pv 5) (pa_cons (pe_ix (ix_listK (K := K) rfl) (pv 3) (pe_un un_neg pe_int) (fun _ _ => rfl)) pa_nil)))))))))))), ?_⟩
    walk_at "begin"
    walk_at "go"
    rename_i R1 z1 o1 h10 h11
    refine r_ite (fun z => ?_) (fun z => ?_)
    · walk_at "go"
      refine ⟨by walk_at "len", fun p3 np3 => ?_⟩
      obtain ⟨e3, o4, n4⟩ := newT_eq (topRg st g) o1 np3 (.lst [.str "same", .str "in", .str "within"])
      rw [e3]
      obtain ⟨k, hk, hat⟩ := pick_strs ["same", "in", "within"] (z := z1) (by omega) (by show z1 < 3; omega)
      obtain ⟨op, rfl⟩ : ∃ op : Fk, k = op.s := by
        simp only [List.mem_cons, List.not_mem_nil, or_false] at hk
        rcases hk with rfl | rfl | rfl
        · exact ⟨.same, rfl⟩
        · exact ⟨.inn, rfl⟩
        · exact ⟨.within, rfl⟩
      have s4 := same_new (o := .lst [.str "same", .str "in", .str "within"]) n4
      walk_at "go"
      refine r_ixL (rg_get o4 upd_same) hat ?_
      walk_at "go"
      refine ⟨st, g, p, R1, _, xs, rfl, rfl, o4, s4 _ _ hp, h1, by omega, fun R2 i2 v2 o2 hv2 => ?_⟩
      walk_at "go"
      refine ⟨st, g, p, R2, _, xs, rfl, rfl, o2, s4 _ _ hp, h1, by omega, fun R3 i3 v3 o3 hv3 => ?_⟩
      obtain ⟨t, ht1, ht2, ht3, ht4⟩ := hx _ (List.mem_of_getElem? hv2)
      obtain ⟨u, hu1, hu2, hu3, hu4⟩ := hx _ (List.mem_of_getElem? hv3)
      walk_at "go"
      refine ⟨by walk_at "len", fun p5 np5 => ?_⟩
      obtain ⟨e5, o5, n5⟩ := newT_eq (topRg st g) o3 np5 (.tup [.str op.s, v2, v3])
      rw [e5]
      have s5 := s4.trans (same_new (o := .tup [.str op.s, v2, v3]) n5)
      refine q R3 _ _ o5 s5 ⟨.fact op t u, tv_mk2 (by cases op <;> decide +kernel) upd_same (ht1.mono s5) (hu1.mono s5), ?_, ?_, fun x hx => (List.mem_append.mp hx).elim (ht4 x) (hu4 x)⟩
      · show (PyData.tuple [.str op.s, t.d, u.d]).depth ≤ _
        rw [dep2]; omega
      · show t.sz + u.sz + 1 ≤ 401; omega
    walk_at "go"
    refine r_ite (fun z3 => ?_) (fun z3 => ?_)
    · walk_at "go"
      intro p4 np4
      rw [cut_to _ (by decide), show ((3 : Int).toNat) = 3 from rfl]
      obtain ⟨e4, o4, n4⟩ := newT_eq (topRg st g) o1 np4 (.lst (xs.take 3))
      rw [e4]
      have s4 := same_new (o := .lst (xs.take 3)) n4
      have ht3 : 1 ≤ (xs.take 3).length := by rw [List.length_take]; omega
      have ht3' : (xs.take 3).length ≤ 3 := by rw [List.length_take]; omega
      walk_at "go"
      refine ⟨st, g, p4, R1, _, xs.take 3, rfl, rfl, o4, upd_same, ht3, by omega, fun R2 i2 v2 o2 hv2 => ?_⟩
      walk_at "go"
      intro p5 np5
      rw [cut_to _ (by decide), show ((3 : Int).toNat) = 3 from rfl]
      obtain ⟨e5, o5, n5⟩ := newT_eq (topRg st g) o2 np5 (.lst (xs.take 3))
      rw [e5]
      have s5 := s4.trans (same_new (o := .lst (xs.take 3)) n5)
      walk_at "go"
      refine ⟨st, g, p5, R2, _, xs.take 3, rfl, rfl, o5, upd_same, ht3, by omega, fun R3 i3 v3 o3 hv3 => ?_⟩
      obtain ⟨t, ht1, ht2, ht3, ht4⟩ := hx _ (List.mem_of_mem_take (List.mem_of_getElem? hv2))
      obtain ⟨u, hu1, hu2, hu3, hu4⟩ := hx _ (List.mem_of_mem_take (List.mem_of_getElem? hv3))
      walk_at "go"
      refine ⟨by walk_at "len", fun p6 np6 => ?_⟩
      obtain ⟨e6, o6, n6⟩ := newT_eq (topRg st g) o3 np6 (.tup [.str "same", v2, v3])
      rw [e6]
      have s6 := s5.trans (same_new (o := .tup [.str "same", v2, v3]) n6)
      refine q R3 _ _ o6 s6 ⟨.fact .same t u, tv_mk2 (by decide +kernel) upd_same (ht1.mono s6) (hu1.mono s6), ?_, ?_, fun x hx => (List.mem_append.mp hx).elim (ht4 x) (hu4 x)⟩
      · show (PyData.tuple [.str "same", t.d, u.d]).depth ≤ _
        rw [dep2]; omega
      · show t.sz + u.sz + 1 ≤ 401; omega
    have z3 : z1 ≠ 3 := fun e => z3 (congrArg V.int e)
    walk_at "go"
    refine r_ite (fun z7 => ?_) (fun z7 => ?_)
    · walk_at "go"
      refine ⟨by walk_at "len", fun p3 np3 => ?_⟩
      obtain ⟨e3, o4, n4⟩ := newT_eq (topRg st g) o1 np3 (.lst [.str "each", .str "some", .str "each"])
      rw [e3]
      obtain ⟨k, hk, hat⟩ := pick_strs ["each", "some", "each"] (z := z1 - 4) (by omega) (by show z1 - 4 < 3; omega)
      obtain ⟨ea, rfl⟩ : ∃ ea : Bool, k = (if ea = true then ("each" : Str) else ("some" : Str)) := by
        simp only [List.mem_cons, List.not_mem_nil, or_false] at hk
        rcases hk with rfl | rfl | rfl
        · exact ⟨true, rfl⟩
        · exact ⟨false, rfl⟩
        · exact ⟨true, rfl⟩
      have s4 := same_new (o := .lst [.str "each", .str "some", .str "each"]) n4
      walk_at "go"
      refine r_ixL (rg_get o4 upd_same) hat ?_
      walk_at "go"
      refine ⟨st, g, p, R1, _, xs, rfl, rfl, o4, s4 _ _ hp, h1, by omega, fun R2 i2 v2 o2 hv2 => ?_⟩
      walk_at "go"
      refine ⟨st, g, pb, R2, _, ys, rfl, rfl, o2, s4 _ _ hpb, k1, by omega, fun R3 i3 v3 o3 hv3 => ?_⟩
      obtain ⟨t, ht1, ht2, ht3, ht4⟩ := hx _ (List.mem_of_getElem? hv2)
      obtain ⟨u, hu1, hu2, hu3, hu4⟩ := hy _ (List.mem_of_getElem? hv3)
      walk_at "go"
      refine ⟨by walk_at "len", fun p5 np5 => ?_⟩
      obtain ⟨e5, o5, n5⟩ := newT_eq (topRg st g) o3 np5 (.tup [.str (if ea = true then ("each" : Str) else ("some" : Str)), v2, v3])
      rw [e5]
      have s5 := s4.trans (same_new (o := .tup [.str (if ea = true then ("each" : Str) else ("some" : Str)), v2, v3]) n5)
      refine q R3 _ _ o5 s5 ⟨.quant ea t u, tv_mk2 (by cases ea <;> decide +kernel) upd_same (ht1.mono s5) (hu1.mono s5), ?_, ?_, fun x hx => (List.mem_append.mp hx).elim (ht4 x) (hu4 x)⟩
      · show (PyData.tuple [.str (if ea = true then ("each" : Str) else ("some" : Str)), t.d, u.d]).depth ≤ _
        rw [dep2]; omega
      · show t.sz + u.sz + 1 ≤ 401; omega
    walk_at "go"
    refine ⟨st, g, ps, R1, C, zs, rfl, rfl, o1, hps, l1, by omega, fun R2 i2 v2 o2 hv2 => ?_⟩
    obtain ⟨t, ht1, ht2, ht3, ht4⟩ := hz _ (List.mem_of_getElem? hv2)
    walk_at "go"
    refine r_ite (fun z4 => ?_) (fun z4 => ?_)
    · walk_at "go"
      refine ⟨by walk_at "len", fun p5 np5 => ?_⟩
      obtain ⟨e5, o5, n5⟩ := newT_eq (topRg st g) o2 np5 (.tup [.str "not", v2])
      rw [e5]
      refine q R2 _ _ o5 (same_new n5) ⟨.not t, tv_mk1 (by decide +kernel) upd_same (ht1.mono (same_new n5)), ?_, ?_, ht4⟩
      · show (PyData.tuple [.str "not", t.d]).depth ≤ _
        rw [dep1]; omega
      · show t.sz + 1 ≤ 401; omega
    · have z4 : z1 ≠ 7 := fun e => z4 (congrArg V.int e)
      walk_at "go"
      refine ⟨by walk_at "len", fun p3 np3 => ?_⟩
      obtain ⟨e3, o4, n4⟩ := newT_eq (topRg st g) o2 np3 (.lst [.str "and", .str "or", .str "then", .str "and"])
      rw [e3]
      obtain ⟨k, hk, hat⟩ := pick_strs ["and", "or", "then", "and"] (z := z1 - 8) (by omega) (by show z1 - 8 < 4; omega)
      obtain ⟨op, rfl⟩ : ∃ op : Jn, k = op.s := by
        simp only [List.mem_cons, List.not_mem_nil, or_false] at hk
        rcases hk with rfl | rfl | rfl | rfl
        · exact ⟨.and, rfl⟩
        · exact ⟨.or, rfl⟩
        · exact ⟨.thn, rfl⟩
        · exact ⟨.and, rfl⟩
      have s4 := same_new (o := .lst [.str "and", .str "or", .str "then", .str "and"]) n4
      obtain ⟨z0, u9, ez⟩ : ∃ z0 u9, zs = z0 ++ [u9] := ⟨_, _, (List.dropLast_concat_getLast (by intro e; rw [e] at l1; exact absurd l1 (by decide))).symm⟩
      obtain ⟨u, hu1, hu2, hu3, hu4⟩ := hz u9 (by rw [ez]; simp)
      walk_at "go"
      refine r_ixL (rg_get o4 upd_same) hat ?_
      walk_at "go"
      refine r_ixL (rg_get o4 (s4 _ _ hps)) (by rw [ez]; exact last_at) ?_
      walk_at "go"
      refine ⟨by walk_at "len", fun p5 np5 => ?_⟩
      obtain ⟨e5, o5, n5⟩ := newT_eq (topRg st g) o4 np5 (.tup [.str op.s, v2, u9])
      rw [e5]
      have s5 := s4.trans (same_new (o := .tup [.str op.s, v2, u9]) n5)
      refine q R2 _ _ o5 s5 ⟨.bin op t u, tv_mk2 (by cases op <;> decide +kernel) upd_same (ht1.mono s5) (hu1.mono s5), ?_, ?_, fun x hx => (List.mem_append.mp hx).elim (ht4 x) (hu4 x)⟩
      · show (PyData.tuple [.str op.s, t.d, u.d]).depth ≤ _
        rw [dep2]; omega
      · show t.sz + u.sz + 1 ≤ 401; omega
theorem ok_built {f fDr fT fB fS fZ : Addr} {fd dDr dT dB dS dZ : FuncData} (B : Blt mg) (D : Dn K mg "_law_built" s__law_built ["state", "names", "steps", "most"] f fd) (D_law_draw : Dn K mg "_law_draw" s__law_draw ["state", "many"] fDr dDr) (G_law_draw : FnOk P w K mg base CX0 1 fDr dDr ["state", "many"] spDraw)
    (D_law_new_term : Dn K mg "_law_new_term" s__law_new_term ["state", "terms"] fT dT) (G_law_new_term : FnOk P w K mg base CX0 3 fT dT ["state", "terms"] (spNt K))
    (D_law_new_body : Dn K mg "_law_new_body" s__law_new_body ["state", "terms", "bodies"] fB dB) (G_law_new_body : FnOk P w K mg base CX0 3 fB dB ["state", "terms", "bodies"] (spNb K))
    (D_law_new_saying : Dn K mg "_law_new_saying" s__law_new_saying ["state", "terms", "bodies", "sayings"] fS dS) (G_law_new_saying : FnOk P w K mg base CX0 3 fS dS ["state", "terms", "bodies", "sayings"] (spNs K))
    (D_law_size : Dn K mg "_law_size" s__law_size ["tree"] fZ dZ) (G_law_size : FnOk P w K mg base CX0 (1 + 60) fZ dZ ["tree"] (spSz K 60)) : FnOk P w K mg base CX0 62 f fd ["state", "names", "steps", "most"] (spBu K) := by
  refine D.F.ok (k := 61) sc__law_built (fun vs H Q E h => ?_) (fun cdv A outer s H vs Q E hr h => ?_)
  · obtain ⟨st, g, nl, R, C, ns, steps, most, rfl, _⟩ := h
    rfl
  · obtain ⟨st, g, nl, R0, C0, ns, steps, most, rfl, rfl, o0, hnl, hns, hnw, hst, hmo, q⟩ := h
    refine ⟨_, (pss_cons (ps_set (i := 4) sc__law_built.nd rfl (.inl rfl) (pe_op op_cat (pe_lc (own := [("name", 10)]) rfl sc__law_built.nd (pi_listK (K := K) rfl (pv 1)) (blkOk_by (own := [("name", 10)]) (by kernel_rfl))
        (fun _ _ _ _ _ => (pg_name (i := 10) sc__law_built.nd rfl (.inl rfl))) (fun _ _ _ _ _ => pts_nil)
        (fun _ _ _ _ _ => (pe_tup (pa_cons pe_str (pa_cons (pv 10) pa_nil))))) (pe_lst (pa_cons (pe_tup (pa_cons pe_str pa_nil)) pa_nil))))
      (pss_cons (ps_set (i := 5) sc__law_built.nd rfl (.inl rfl) (pe_lst (pa_cons (pe_tup (pa_cons pe_str (pa_cons (pe_ix (ix_listK (K := K) rfl) (pv 4) pe_int (fun _ _ => rfl)) pa_nil))) pa_nil)))
      (pss_cons (ps_set (i := 6) sc__law_built.nd rfl (.inl rfl) (pe_lst (pa_cons (pe_tup (pa_cons pe_str (pa_cons (pe_ix (ix_listK (K := K) rfl) (pv 4) pe_int (fun _ _ => rfl)) (pa_cons (pe_ix (ix_listK (K := K) rfl) (pv 4) (pe_un un_neg pe_int) (fun _ _ => rfl)) pa_nil)))) pa_nil)))
      (pss_cons (ps_for PassesOwn.never rfl (pi_range1 (by rfl) B.m_range (pa_cons (pv 2) pa_nil)) (pg_name (i := 7) sc__law_built.nd rfl (.inl rfl)) (pss_cons (ps_set (i := 8) sc__law_built.nd rfl (.inl rfl) (pe_call G_law_draw (hr.mono (by omega)) (by rfl) D_law_draw.g D_law_draw.F.kp D_law_draw.b .nil pass0 (pa_cons (pv 0) (pa_cons pe_int pa_nil))))
      (pss_cons (ps_if (pt_cmpR op_lt (pv 8) pe_int (nomark _)) (pss_one (ps_set (i := 9) sc__law_built.nd rfl (.inl rfl) (pe_call G_law_new_term (hr.mono (by omega)) (by rfl) D_law_new_term.g D_law_new_term.F.kp D_law_new_term.b .nil pass0 (pa_cons (pv 0) (pa_cons (pv 4) pa_nil))))) (pss_one (ps_if (pt_cmpR op_lt (pv 8) pe_int (nomark _)) (pss_one (ps_set (i := 9) sc__law_built.nd rfl (.inl rfl) (pe_call G_law_new_body (hr.mono (by omega)) (by rfl) D_law_new_body.g D_law_new_body.F.kp D_law_new_body.b .nil pass0 (pa_cons (pv 0) (pa_cons (pv 4) (pa_cons (pv 5) pa_nil)))))) (pss_one (ps_set (i := 9) sc__law_built.nd rfl (.inl rfl) (pe_call G_law_new_saying (hr.mono (by omega)) (by rfl) D_law_new_saying.g D_law_new_saying.F.kp D_law_new_saying.b .nil pass0 (pa_cons (pv 0) (pa_cons (pv 4) (pa_cons (pv 5) (pa_cons (pv 6) pa_nil))))))))))
      (pss_one (ps_if (pt_cmpR op_le (pe_call G_law_size (hr.mono (by omega)) (by rfl) D_law_size.g D_law_size.F.kp D_law_size.b .nil pass0 (pa_cons (pv 9) pa_nil)) (pv 3) (nomark _)) (pss_one (ps_if (pt_cmpR op_lt (pv 8) pe_int (nomark _)) (pss_one (ps_expr (pe_bmK (K := K) rfl PySem.F.plainAttrs_list PySem.F.slot_list_append PySem.F.type_list_append mt_append (pv 4) (pa_cons (pv 9) pa_nil)))) (pss_one (ps_if (pt_cmpR op_lt (pv 8) pe_int (nomark _)) (pss_one (ps_expr (pe_bmK (K := K) rfl PySem.F.plainAttrs_list PySem.F.slot_list_append PySem.F.type_list_append mt_append (pv 5) (pa_cons (pv 9) pa_nil)))) (pss_one (ps_expr (pe_bmK (K := K) rfl PySem.F.plainAttrs_list PySem.F.slot_list_append PySem.F.type_list_append mt_append (pv 6) (pa_cons (pv 9) pa_nil)))))))) pss_nil)))))
      (pss_one (ps_ret (pv 6))))))), ?_⟩
    walk_at "begin"
    walk_at "go"
    refine lcT_list (topRg st g) o0 hnl (fun i C acc => acc.length = i ∧ ∀ v ∈ acc, TmW K C ns 1 1 v) ⟨rfl, fun v hv => nomatch hv⟩ ?_ ?_
    · rintro D1 i x1 R1 C1 acc o1 hD1 hS1 hx1 ⟨ha1, ha2⟩
      obtain ⟨nm, rfl, hnm⟩ : ∃ z, x1 = .str z ∧ ns[i]? = some z := by
        rw [List.getElem?_map] at hx1
        cases e : ns[i]? with
        | none => rw [e] at hx1; cases hx1
        | some z => rw [e] at hx1; exact ⟨z, (Option.some.inj hx1).symm, rfl⟩
      have hi : i < ns.length := (List.getElem?_eq_some_iff.mp hnm).1
      have hmem := List.mem_of_getElem? hnm
      walk_at "begin"
      walk_at "go"
      refine ⟨rfl, ?_⟩
      walk_at "go"
      refine ⟨by walk_at "len", fun p np => ?_⟩
      obtain ⟨e, o2, hD2, n2, ne2⟩ := newTD_eq (topRg st g) o1 hD1 np (.tup [.str "name", .str nm])
      rw [e]
      have s2 := same_new (o := HO.tup [.str "name", .str nm]) n2
      refine lcN_put (topRg st g) o2 hD2 (hS1.trans s2) (by omega) ⟨by rw [List.length_append, ha1]; rfl, fun v hv => ?_⟩
      rcases List.mem_append.mp hv with hv | hv
      · exact (ha2 v hv).kx (.of s2) (Nat.le_refl _)
      · rw [List.mem_singleton.mp hv]
        exact ⟨.name nm, ⟨dp_mk upd_same (.cons (.str _) (.cons (.str _) .nil)), Trd.name (Nw.strOk (hnw _ hmem))⟩, Nat.le_refl _, Nat.le_refl _, fun y hy => by rw [List.mem_singleton.mp hy]; exact hmem⟩
    rintro tl R1 C1 acc o1 hB1 hD1 hS1 ⟨ha1, ha2⟩
    rw [List.length_map] at ha1
    have s1 := hS1.trans (same_new (o := .lst acc) hD1)
    have ha2 : ∀ v ∈ acc, TmW K (upd C1 tl (.lst acc)) ns 1 1 v := fun v hv => (ha2 v hv).kx (.of (same_new hD1)) (Nat.le_refl _)
    have htl1 : (upd C1 tl (.lst acc)) tl = some (.lst acc) := upd_same
    generalize upd C1 tl (.lst acc) = C2 at o1 s1 ha2 htl1 ⊢
    clear hS1 hD1 hB1
    walk_at "go"
    refine ⟨by walk_at "len", fun p1 np1 => ?_⟩
    obtain ⟨e1, o2, n2⟩ := newT_eq (topRg st g) o1 np1 (.tup [.str "none"])
    rw [e1]
    have s2 := same_new (o := .tup [.str "none"]) n2
    walk_at "go"
    refine ⟨by walk_at "len", fun p2 np2 => ?_⟩
    obtain ⟨e2, o3, n3⟩ := newT_eq (topRg st g) o2 np2 (.lst [.ref p1])
    rw [e2]
    have s3 := same_new (o := .lst [.ref p1]) n3
    refine ⟨tl, p2, _, _, rfl, rfl, rg_get o3 (s3 _ _ (s2 _ _ htl1)), rg_get o3 upd_same, Nat.le_of_lt (small (by rw [List.length_singleton]; omega)), fun t3 nt3 => ?_⟩
    obtain ⟨e3, o4, n4⟩ := newT_eq (topRg st g) o3 nt3 (.lst (acc ++ [.ref p1]))
    rw [e3]
    have s4 := same_new (o := .lst (acc ++ [.ref p1])) n4
    have hT : ∀ v ∈ acc ++ [V.ref p1], TmW K (upd (upd (upd C2 p1 (.tup [.str "none"])) p2 (.lst [.ref p1])) t3 (.lst (acc ++ [.ref p1]))) ns 1 1 v := by
      intro v hv
      rcases List.mem_append.mp hv with hv | hv
      · obtain ⟨t, h1, h2, h3, h4⟩ := ha2 v hv
        exact ⟨t, ((h1.mono s2).mono s3).mono s4, h2, h3, h4⟩
      · rw [List.mem_singleton.mp hv]
        exact ⟨.none, (Tv.mono s4 (Tv.mono s3 ⟨dp_mk upd_same (.cons (.str _) .nil), Trd.nd0 (by decide +kernel)⟩)), Nat.le_refl _, Nat.le_refl _, fun y hy => nomatch hy⟩
    have hTl : (acc ++ [V.ref p1]).length = ns.length + 1 := by rw [List.length_append, ha1]; rfl
    have hTs := (s1.trans (s2.trans (s3.trans s4)))
    have ht3 : (upd (upd (upd C2 p1 (.tup [.str "none"])) p2 (.lst [.ref p1])) t3 (.lst (acc ++ [.ref p1]))) t3 = some (.lst (acc ++ [.ref p1])) := upd_same
    have nt0 : C0 t3 = none := by
      cases e : C0 t3 with
      | none => rfl
      | some y => rw [s3 _ _ (s2 _ _ (s1 _ _ e))] at n4; cases n4
    generalize upd (upd (upd C2 p1 (.tup [.str "none"])) p2 (.lst [.ref p1])) t3 (.lst (acc ++ [.ref p1])) = C4 at o4 hT hTs ht3 ⊢
    generalize hTv : acc ++ [V.ref p1] = tv at hT hTl ht3 ⊢
    clear s1 s2 s3 s4 e1 e2 e3 np1 np2 nt3 htl1 ha2
    obtain ⟨v0, hv0⟩ : ∃ v0, tv[0]? = some v0 := ⟨_, List.getElem?_eq_getElem (by omega)⟩
    have hT0 := hT v0 (List.mem_of_getElem? hv0)
    obtain ⟨z0, u9, ez⟩ : ∃ z0 u9, tv = z0 ++ [u9] := ⟨_, _, (List.dropLast_concat_getLast (by intro e; rw [e] at hTl; exact absurd hTl (by simp))).symm⟩
    have hT9 := hT u9 (by rw [ez]; simp)
    have at9 : atI tv (-1) = some u9 := by rw [ez]; exact last_at
    have at00 : atI tv ((0 : Nat) : Int) = some v0 := atI_nat hv0
    walk_at "go"
    refine r_ixL (rg_get o4 ht3) at00 ?_
    walk_at "go"
    refine ⟨by walk_at "len", fun p3 np3 => ?_⟩
    obtain ⟨e3, o5, n5⟩ := newT_eq (topRg st g) o4 np3 (.tup [.str "has", v0])
    rw [e3]
    have s5 := same_new (o := .tup [.str "has", v0]) n5
    walk_at "go"
    refine ⟨by walk_at "len", fun bl nbl => ?_⟩
    obtain ⟨e5, o6, n6⟩ := newT_eq (topRg st g) o5 nbl (.lst [.ref p3])
    rw [e5]
    have s6 := same_new (o := .lst [.ref p3]) n6
    walk_at "go"
    refine r_ixL (rg_get o6 (s6 _ _ (s5 _ _ ht3))) at00 ?_
    walk_at "go"
    refine ⟨by walk_at "len", fun p6 np6 => ?_⟩
    obtain ⟨e6, o7, n7⟩ := newT_eq (topRg st g) o6 np6 (.tup [.str "same", v0, u9])
    rw [e6]
    have s7 := same_new (o := .tup [.str "same", v0, u9]) n7
    walk_at "go"
    refine ⟨by walk_at "len", fun sl nsl => ?_⟩
    obtain ⟨e7, o8, n8⟩ := newT_eq (topRg st g) o7 nsl (.lst [.ref p6])
    rw [e7]
    have s8 := same_new (o := .lst [.ref p6]) n8
    have sA := s5.trans (s6.trans (s7.trans s8))
    have hT8 : ∀ v ∈ tv, TmW K (upd (upd (upd (upd C4 p3 (.tup [.str "has", v0])) bl (.lst [.ref p3])) p6 (.tup [.str "same", v0, u9])) sl (.lst [.ref p6])) ns 1 200 v := fun v hv => ((hT v hv).kx (.of sA) (Nat.le_refl _)).up (by decide)
    have hB8 : ∀ v ∈ [V.ref p3], BdW K (upd (upd (upd (upd C4 p3 (.tup [.str "has", v0])) bl (.lst [.ref p3])) p6 (.tup [.str "same", v0, u9])) sl (.lst [.ref p6])) ns 2 200 v := by
      intro v hv
      rw [List.mem_singleton.mp hv]
      obtain ⟨t, h1, h2, h3, h4⟩ := hT0
      refine ⟨.fact .has t, Tv.mono (s6.trans (s7.trans s8)) (tv_mk1 (by decide +kernel) upd_same (h1.mono s5)), ?_, ?_, h4⟩
      · show (PyData.tuple [.str "has", t.d]).depth ≤ _
        rw [dep1]; omega
      · show t.sz + 1 ≤ 200; omega
    have hS8 : ∀ v ∈ [V.ref p6], SgW K (upd (upd (upd (upd C4 p3 (.tup [.str "has", v0])) bl (.lst [.ref p3])) p6 (.tup [.str "same", v0, u9])) sl (.lst [.ref p6])) ns 2 200 v := by
      intro v hv
      rw [List.mem_singleton.mp hv]
      obtain ⟨t, h1, h2, h3, h4⟩ := hT0
      obtain ⟨u, g1, g2, g3, g4⟩ := hT9
      have sB := s5.trans (s6.trans s7)
      refine ⟨.fact .same t u, Tv.mono s8 (tv_mk2 (by decide +kernel) upd_same (h1.mono sB) (g1.mono sB)), ?_, ?_, fun x hx => (List.mem_append.mp hx).elim (h4 x) (g4 x)⟩
      · show (PyData.tuple [.str "same", t.d, u.d]).depth ≤ _
        rw [dep2]; omega
      · show t.sz + u.sz + 1 ≤ 200; omega
    have nb0 : C0 bl = none := none_back (hTs.trans s5) n6
    have ns0 : C0 sl = none := none_back (hTs.trans (s5.trans (s6.trans s7))) n8
    have d1 : t3 ≠ bl := fun z => by rw [← z, s5 _ _ ht3] at n6; cases n6
    have d2 : t3 ≠ sl := fun z => by rw [← z, s7 _ _ (s6 _ _ (s5 _ _ ht3))] at n8; cases n8
    have d3 : bl ≠ sl := fun z => by rw [← z, s7 _ _ upd_same] at n8; cases n8
    have ht8 := sA _ _ ht3
    have hb8 : (upd (upd (upd (upd C4 p3 (.tup [.str "has", v0])) bl (.lst [.ref p3])) p6 (.tup [.str "same", v0, u9])) sl (.lst [.ref p6])) bl = some (.lst [.ref p3]) := s8 _ _ (s7 _ _ upd_same)
    have hs8 : (upd (upd (upd (upd C4 p3 (.tup [.str "has", v0])) bl (.lst [.ref p3])) p6 (.tup [.str "same", v0, u9])) sl (.lst [.ref p6])) sl = some (.lst [.ref p6]) := upd_same
    have s08 := hTs.trans sA
    generalize upd (upd (upd (upd C4 p3 (.tup [.str "has", v0])) bl (.lst [.ref p3])) p6 (.tup [.str "same", v0, u9])) sl (.lst [.ref p6]) = C8 at o8 hT8 hB8 hS8 ht8 hb8 hs8 s08 ⊢
    clear s5 s6 s7 s8 sA hTs hT hT0 hT9 at9 at00 e3 e5 e6 e7 n4 n5 n6 n7 n8 np3 nbl np6 nsl o0 o1 o2 o3 o4 o5 o6 o7 ht3 ez hv0
    walk_at "go"
    refine r_forR (by omega) (by omega) (fun i σ H1 => ∃ (R : RS) (C : Hp) (tv bv sv : List V) (y7 y8 y9 : Option V), σ = [some (.ref st), some (.ref nl), some (.int ((steps : Nat) : Int)), some (.int ((most : Nat) : Int)), some (.ref t3), some (.ref bl), some (.ref sl), y7, y8, y9, none] ∧ H1 = rg st g R C ∧ Ok st g R C ∧ Same C0 C ∧
      C t3 = some (.lst tv) ∧ C bl = some (.lst bv) ∧ C sl = some (.lst sv) ∧ (∀ v ∈ tv, TmW K C ns (i + 1) 200 v) ∧ (∀ v ∈ bv, BdW K C ns (i + 2) 200 v) ∧ (∀ v ∈ sv, SgW K C ns (i + 2) 200 v) ∧ 1 ≤ tv.length ∧ tv.length ≤ 21 + i ∧ 1 ≤ bv.length ∧ bv.length ≤ 1 + i ∧ 1 ≤ sv.length ∧ sv.length ≤ 1 + i) ?_ ?_ ?_
    · exact ⟨R1, C8, tv, _, _, _, _, _, rfl, rfl, o8, s08, ht8, hb8, hs8, hT8, hB8, hS8, by omega, by omega, Nat.le_refl _, Nat.le_refl _, Nat.le_refl _, Nat.le_refl _⟩
    · clear hT8 hB8 hS8 ht8 hb8 hs8 s08 o8
      rintro i σ H1 hi ⟨R, C, tv, bv, sv, y7, y8, y9, rfl, rfl, o, sC, ht, hb, hs, hT, hB, hS, l1, l2, l3, l4, l5, l6⟩
      rw [Int.toNat_natCast] at hi
      walk_at "go"
      rename_i R2 z2 o2 h20 h21
      refine r_ite (fun z => ?_) (fun z => ?_)
      · walk_at "go"
        refine ⟨st, g, t3, R2, C, tv, ns, i + 1, rfl, rfl, o2, ht, l1, by omega, hT, fun R3 C3 v o3 s3 hv => ?_⟩
        obtain ⟨t, hv1, hv2, hv3, hv4⟩ := hv
        walk_at "go"
        refine ⟨v, t.d, t.sz, rfl, dp_rg o3 hv1.1, Sy.Tm.pt t, by omega, by omega, fun H4 s4 => ?_⟩
        obtain ⟨C4, rfl, o4, s34⟩ := rg_same o3 s4
        have k4 : KX C C4 := .of (s3.trans s34)
        walk_at "go"
        have ht4 := s34 _ _ (s3 _ _ ht)
        have hb4 := s34 _ _ (s3 _ _ hb)
        have hs4 := s34 _ _ (s3 _ _ hs)
        have sC4 := sC.trans (s3.trans s34)
        refine r_ite (fun zz => ?_) (fun zz => ?_)
        · walk_at "go"
          refine r_ite (fun _ => ?_) (fun z' => absurd z z')
          have hz9 : tv.length < sizeLine := small (by omega)
          have ht4r := rg_get o4 ht4
          walk_at "go"
          obtain ⟨e9, o9⟩ := rg_write (o := .lst (tv ++ [v])) o4 ht4
          rw [e9]
          refine ⟨R3, _, tv ++ [v], bv, sv, _, _, _, rfl, rfl, o9, same_off nt0 sC4, upd_same, by rw [upd_ne d1.symm]; exact hb4, by rw [upd_ne d2.symm]; exact hs4, fun x hx => ?_, fun x hx => ((hB x hx).kx k4 (Nat.le_refl _)).kx (KX.put _ ht4) (by omega), fun x hx => ((hS x hx).kx k4 (Nat.le_refl _)).kx (KX.put _ ht4) (by omega), by rw [List.length_append]; omega, by rw [List.length_append, List.length_singleton]; omega, l3, by omega, l5, by omega⟩
          rcases List.mem_append.mp hx with hx | hx
          · exact ((hT x hx).kx k4 (Nat.le_refl _)).kx (KX.put _ ht4) (by omega)
          · rw [List.mem_singleton.mp hx]
            exact ⟨t, (hv1.mono s34).kx (KX.put _ ht4), by omega, by omega, hv4⟩
        · walk_at "go"
          exact ⟨R3, C4, tv, bv, sv, _, _, _, rfl, rfl, o4, sC4, ht4, hb4, hs4, fun x hx => (hT x hx).kx k4 (by omega), fun x hx => (hB x hx).kx k4 (by omega), fun x hx => (hS x hx).kx k4 (by omega), l1, by omega, l3, by omega, l5, by omega⟩
      walk_at "go"
      refine r_ite (fun z3 => ?_) (fun z3 => ?_)
      · walk_at "go"
        refine ⟨st, g, t3, bl, R2, C, tv, bv, ns, i + 1, rfl, rfl, o2, ht, l1, by omega, hT, hb, l3, by omega, hB, fun R3 C3 v o3 s3 hv => ?_⟩
        obtain ⟨t, hv1, hv2, hv3, hv4⟩ := hv
        walk_at "go"
        refine ⟨v, t.d, t.sz, rfl, dp_rg o3 hv1.1, Sy.Bd.pt t, by omega, by omega, fun H4 s4 => ?_⟩
        obtain ⟨C4, rfl, o4, s34⟩ := rg_same o3 s4
        have k4 : KX C C4 := .of (s3.trans s34)
        walk_at "go"
        have ht4 := s34 _ _ (s3 _ _ ht)
        have hb4 := s34 _ _ (s3 _ _ hb)
        have hs4 := s34 _ _ (s3 _ _ hs)
        have sC4 := sC.trans (s3.trans s34)
        refine r_ite (fun zz => ?_) (fun zz => ?_)
        · walk_at "go"
          refine r_ite (fun z' => absurd z' z) (fun _ => ?_)
          walk_at "go"
          refine r_ite (fun _ => ?_) (fun z' => absurd z3 z')
          have hz9 : bv.length < sizeLine := small (by omega)
          have hb4r := rg_get o4 hb4
          walk_at "go"
          obtain ⟨e9, o9⟩ := rg_write (o := .lst (bv ++ [v])) o4 hb4
          rw [e9]
          refine ⟨R3, _, tv, bv ++ [v], sv, _, _, _, rfl, rfl, o9, same_off nb0 sC4, by rw [upd_ne d1]; exact ht4, upd_same, by rw [upd_ne d3.symm]; exact hs4, fun x hx => ((hT x hx).kx k4 (Nat.le_refl _)).kx (KX.put _ hb4) (by omega), fun x hx => ?_, fun x hx => ((hS x hx).kx k4 (Nat.le_refl _)).kx (KX.put _ hb4) (by omega), l1, by omega, by rw [List.length_append]; omega, by rw [List.length_append, List.length_singleton]; omega, l5, by omega⟩
          rcases List.mem_append.mp hx with hx | hx
          · exact ((hB x hx).kx k4 (Nat.le_refl _)).kx (KX.put _ hb4) (by omega)
          · rw [List.mem_singleton.mp hx]
            exact ⟨t, (hv1.mono s34).kx (KX.put _ hb4), by omega, by omega, hv4⟩
        · walk_at "go"
          exact ⟨R3, C4, tv, bv, sv, _, _, _, rfl, rfl, o4, sC4, ht4, hb4, hs4, fun x hx => (hT x hx).kx k4 (by omega), fun x hx => (hB x hx).kx k4 (by omega), fun x hx => (hS x hx).kx k4 (by omega), l1, by omega, l3, by omega, l5, by omega⟩
      · walk_at "go"
        refine ⟨st, g, t3, bl, sl, R2, C, tv, bv, sv, ns, i + 1, rfl, rfl, o2, ht, l1, by omega, hT, hb, l3, by omega, hB, hs, l5, by omega, hS, fun R3 C3 v o3 s3 hv => ?_⟩
        obtain ⟨t, hv1, hv2, hv3, hv4⟩ := hv
        walk_at "go"
        refine ⟨v, t.d, t.sz, rfl, dp_rg o3 hv1.1, Sy.Sg.pt t, by omega, by omega, fun H4 s4 => ?_⟩
        obtain ⟨C4, rfl, o4, s34⟩ := rg_same o3 s4
        have k4 : KX C C4 := .of (s3.trans s34)
        walk_at "go"
        have ht4 := s34 _ _ (s3 _ _ ht)
        have hb4 := s34 _ _ (s3 _ _ hb)
        have hs4 := s34 _ _ (s3 _ _ hs)
        have sC4 := sC.trans (s3.trans s34)
        refine r_ite (fun zz => ?_) (fun zz => ?_)
        · walk_at "go"
          refine r_ite (fun z' => absurd z' z) (fun _ => ?_)
          walk_at "go"
          refine r_ite (fun z' => absurd z' z3) (fun _ => ?_)
          have hz9 : sv.length < sizeLine := small (by omega)
          have hs4r := rg_get o4 hs4
          walk_at "go"
          obtain ⟨e9, o9⟩ := rg_write (o := .lst (sv ++ [v])) o4 hs4
          rw [e9]
          refine ⟨R3, _, tv, bv, sv ++ [v], _, _, _, rfl, rfl, o9, same_off ns0 sC4, by rw [upd_ne d2]; exact ht4, by rw [upd_ne d3]; exact hb4, upd_same, fun x hx => ((hT x hx).kx k4 (Nat.le_refl _)).kx (KX.put _ hs4) (by omega), fun x hx => ((hB x hx).kx k4 (Nat.le_refl _)).kx (KX.put _ hs4) (by omega), fun x hx => ?_, l1, by omega, l3, by omega, by rw [List.length_append]; omega, by rw [List.length_append, List.length_singleton]; omega⟩
          rcases List.mem_append.mp hx with hx | hx
          · exact ((hS x hx).kx k4 (Nat.le_refl _)).kx (KX.put _ hs4) (by omega)
          · rw [List.mem_singleton.mp hx]
            exact ⟨t, (hv1.mono s34).kx (KX.put _ hs4), by omega, by omega, hv4⟩
        · walk_at "go"
          exact ⟨R3, C4, tv, bv, sv, _, _, _, rfl, rfl, o4, sC4, ht4, hb4, hs4, fun x hx => (hT x hx).kx k4 (by omega), fun x hx => (hB x hx).kx k4 (by omega), fun x hx => (hS x hx).kx k4 (by omega), l1, by omega, l3, by omega, l5, by omega⟩
    · rintro σ H1 ⟨R, C, tv, bv, sv, y7, y8, y9, rfl, rfl, o, sC, ht, hb, hs, hT, hB, hS, l1, l2, l3, l4, l5, l6⟩
      rw [Int.toNat_natCast] at hS l6
      walk_at "go"
      exact q R C sl sv o sC hs l5 (by omega) fun v hv => by
        obtain ⟨t, h1, h2, h3⟩ := hS v hv
        exact ⟨t, h1, by omega, h3⟩
end
end K16
namespace K16
open PySem PySem.Spec PyProof.Rows L2 Lw
open Sy (Bd Sg Op Fk Jn Bk)
open Shp (rTm rEl rHo rBd rSg isNm)
def RwA (K : PySem.W.Frag) (H : Hp) (a : Addr) (r : Shp.Row) : Prop := ∃ v, H a = some (.tup [.str r.1, v]) ∧ Tv K H v r.2
def RwAt (K : PySem.W.Frag) (H : Hp) (p : Addr) (rs : List Shp.Row) : Prop := ∃ as : List Addr, H p = some (.lst (as.map V.ref)) ∧ Paired (RwA K H) as rs
section
variable {K : PySem.W.Frag} {H H' : Hp}
theorem RwA.mono {a : Addr} {r : Shp.Row} (s : Same H H') (h : RwA K H a r) : RwA K H' a r := by
  obtain ⟨v, h1, h2⟩ := h; exact ⟨v, s _ _ h1, h2.mono s⟩
theorem RwAt.mono {p : Addr} {rs : List Shp.Row} (s : Same H H') (h : RwAt K H p rs) : RwAt K H' p rs := by
  obtain ⟨as, h1, h2⟩ := h; exact ⟨as, s _ _ h1, Paired.mapP h2 fun _ _ k => k.mono s⟩
theorem paired_app {R : Addr → Shp.Row → Prop} : ∀ {as bs : List Addr} {rs ss : List Shp.Row}, Paired R as rs → Paired R bs ss → Paired R (as ++ bs) (rs ++ ss)
  | _, _, _, _, .nil, k => k
  | _, _, _, _, .cons a h, k => .cons a (paired_app h k)
theorem RwAt.one {p a : Addr} {v : V} {k : Str} {d : PyData} (h1 : H p = some (.lst [.ref a])) (h2 : H a = some (.tup [.str k, v])) (h3 : Tv K H v d) : RwAt K H p [(k, d)] := ⟨[a], h1, .cons ⟨v, h2, h3⟩ .nil⟩
/-- two lists of rows, one behind the other -/
theorem r_cat {p1 p2 : Addr} {rs ss : List Shp.Row} {Q : VK} (h1 : RwAt K H p1 rs) (h2 : RwAt K H p2 ss) (hl : rs.length + ss.length ≤ 100000) (q : ∀ p H', Same H H' → RwAt K H' p (rs ++ ss) → Q (.ref p) H') :
    rCat (.ref p1) (.ref p2) H Q := by
  obtain ⟨as, a1, a2⟩ := h1
  obtain ⟨bs, b1, b2⟩ := h2
  refine ⟨p1, p2, _, _, rfl, rfl, a1, b1, Nat.le_of_lt (small (by rw [List.length_map, List.length_map, Paired.length a2, Paired.length b2]; exact hl)), fun p np => ?_⟩
  refine q p _ (same_new np) ⟨as ++ bs, by rw [upd_same, List.map_append], paired_app (Paired.mapP a2 fun _ _ k => k.mono (same_new np)) (Paired.mapP b2 fun _ _ k => k.mono (same_new np))⟩
end
theorem rTm_len : ∀ t : Sy.Tm, (rTm t).length ≤ t.sz
  | .name _ => Nat.zero_le _
  | .none => Nat.zero_le _
  | .just t => by have := rTm_len t; show (rTm t).length + 1 ≤ t.sz + 1; omega
  | .bin _ a b => by
    have := rTm_len a; have := rTm_len b
    show (rTm a ++ rTm b).length ≤ a.sz + b.sz + 1
    rw [List.length_append]; omega
theorem rEl_len (t : Sy.Tm) : (rEl t).length ≤ t.sz + 1 := Nat.succ_le_succ (rTm_len t)
theorem rHo_len (t : Sy.Tm) : (rHo t).length ≤ t.sz + 1 := Nat.succ_le_succ (rTm_len t)
theorem rBd_len : ∀ b : Bd, (rBd b).length ≤ 2 * b.sz
  | .fact .inside t => by have := rHo_len t; have := Shp.Tm.one t; show (rHo t).length ≤ 2 * (t.sz + 1); omega
  | .fact .has t => by have := rEl_len t; have := Shp.Tm.one t; show (rEl t).length + 1 ≤ 2 * (t.sz + 1); omega
  | .fact .is t => by have := rEl_len t; have := Shp.Tm.one t; show (rEl t).length ≤ 2 * (t.sz + 1); omega
  | .not b => by have := rBd_len b; show (rBd b).length ≤ 2 * (b.sz + 1); omega
  | .bin _ a b => by
    have := rBd_len a; have := rBd_len b
    show (rBd a ++ rBd b).length ≤ 2 * (a.sz + b.sz + 1)
    rw [List.length_append]; omega
theorem rSg_len : ∀ s : Sg, (rSg s).length ≤ 3 * s.sz
  | .not b => by have := rSg_len b; show (rSg b).length ≤ 3 * (b.sz + 1); omega
  | .bin _ a b => by
    have := rSg_len a; have := rSg_len b
    show (rSg a ++ rSg b).length ≤ 3 * (a.sz + b.sz + 1)
    rw [List.length_append]; omega
  | .fact .inn a b => by
    have := rEl_len a; have := rHo_len b
    show (rEl a ++ rHo b).length ≤ 3 * (a.sz + b.sz + 1)
    rw [List.length_append]; omega
  | .fact .same a b => by
    have := rEl_len a; have := rEl_len b; have := rHo_len a; have := rHo_len b
    have := Shp.Tm.one a
    rw [rSg]
    show _ ≤ 3 * (a.sz + b.sz + 1)
    split
    · rw [List.length_append]; omega
    · rw [List.length_append, List.length_append, List.length_singleton]; omega
  | .fact .within a b => by
    have := rHo_len a; have := rHo_len b
    have := Shp.Tm.one a
    show (rHo a ++ rHo b ++ [_]).length ≤ 3 * (a.sz + b.sz + 1)
    rw [List.length_append, List.length_append, List.length_singleton]; omega
  | .quant true t b => by
    have := rHo_len t; have := rBd_len b
    have := Shp.Tm.one t
    show (rHo t ++ rBd b ++ [_]).length ≤ 3 * (t.sz + b.sz + 1)
    rw [List.length_append, List.length_append, List.length_singleton]; omega
  | .quant false t b => by
    have := rHo_len t; have := rBd_len b
    have := Shp.Tm.one t
    show (rHo t ++ rBd b ++ [_]).length ≤ 3 * (t.sz + b.sz + 1)
    rw [List.length_append, List.length_append, List.length_singleton]; omega
def spRw (K : PySem.W.Frag) {α : Type} (ty : α → PyData) (sz : α → Nat) (rows : α → List Shp.Row) (n : Nat) : Sp := fun vs H Q _ => ∃ (v : V) (t : α), vs = [v] ∧ Tv K H v (ty t) ∧ (ty t).depth < n ∧ sz t ≤ 1000 ∧ ∀ H' p, Same H H' → RwAt K H' p (rows t) → Q (.ref p) H'
abbrev spTr (K : PySem.W.Frag) (n : Nat) : Sp := spRw K Sy.Tm.d Sy.Tm.sz rTm n
abbrev spEr (K : PySem.W.Frag) (n : Nat) : Sp := spRw K Sy.Tm.d Sy.Tm.sz rEl n
abbrev spHr (K : PySem.W.Frag) (n : Nat) : Sp := spRw K Sy.Tm.d Sy.Tm.sz rHo n
abbrev spBr (K : PySem.W.Frag) (n : Nat) : Sp := spRw K Bd.d Bd.sz rBd n
abbrev spSr (K : PySem.W.Frag) (n : Nat) : Sp := spRw K Sg.d Sg.sz rSg n
section
variable {P : Program} {w : World} {K : PySem.W.Frag} {mg : Str → Option Value} {base : Heap}
theorem rd_tr {f : Addr} {fd : FuncData} (B : Blt mg) (D : Dn K mg "_law_term_rows" s__law_term_rows ["term"] f fd) : ∀ n, FnOk P w K mg base CX0 (1 + n) f fd ["term"] (spTr K n)
  | 0 => ⟨fun vs H Q E h => (by obtain ⟨v, t, rfl, _⟩ := h; rfl), fun A outer s H args us vs Q E hr e0 hb r h => (by obtain ⟨v, t, _, _, hd, _⟩ := h; exact absurd hd (Nat.not_lt_zero _))⟩
  | n + 1 => by
    have ih := rd_tr B D n
    refine D.F.ok (k := 1 + n) sc__law_term_rows (fun vs H Q E h => ?_) (fun cdv A outer s H vs Q E hr h => ?_)
    · obtain ⟨v, t, rfl, _⟩ := h
      rfl
    · obtain ⟨v, t, rfl, hv, hd, hz, q⟩ := h
      refine ⟨_, (pss_cons (ps_if (pt_cmpR op_eq (pe_ix (ix_tupK (K := K) rfl) (pv 0) pe_int (fun _ _ => rfl)) pe_str (nomark _)) (pss_one (ps_ret (pe_op op_cat (pe_lst (pa_cons (pe_tup (pa_cons pe_str (pa_cons (pe_ix (ix_tupK (K := K) rfl) (pv 0) pe_int (fun _ _ => rfl)) pa_nil))) pa_nil)) (pe_call ih (hr.mono (Nat.le_refl _)) (by rfl) D.g D.F.kp D.b .nil pass0 (pa_cons (pe_ix (ix_tupK (K := K) rfl) (pv 0) pe_int (fun _ _ => rfl)) pa_nil))))) pss_nil)
      (pss_cons (ps_if (PW.pt (pw_or (pt_cmpR op_eq (pe_ix (ix_tupK (K := K) rfl) (pv 0) pe_int (fun _ _ => rfl)) pe_str (nomark _)) (pw_or1 (pt_cmpR op_eq (pe_ix (ix_tupK (K := K) rfl) (pv 0) pe_int (fun _ _ => rfl)) pe_str (nomark _))))) (pss_one (ps_ret (pe_lst pa_nil))) pss_nil)
      (pss_one (ps_ret (pe_op op_cat (pe_call ih (hr.mono (Nat.le_refl _)) (by rfl) D.g D.F.kp D.b .nil pass0 (pa_cons (pe_ix (ix_tupK (K := K) rfl) (pv 0) pe_int (fun _ _ => rfl)) pa_nil)) (pe_call ih (hr.mono (Nat.le_refl _)) (by rfl) D.g D.F.kp D.b .nil pass0 (pa_cons (pe_ix (ix_tupK (K := K) rfl) (pv 0) pe_int (fun _ _ => rfl)) pa_nil))))))), ?_⟩
      walk_at "begin"
      walk_at "go"
      cases t with
      | name x =>
        obtain ⟨p, y, rfl, hq, hy⟩ := dp_1 hv.1
        refine r_ixQ hq rfl ?_
        walk_at "go"
        rw [eqv_s, show decide (("name" : Str) = "just") = false by decide +kernel]
        walk_at "go"
        refine r_ixQ hq rfl ?_
        walk_at "go"
        rw [eqv_s, show decide (("name" : Str) = "name") = true by decide +kernel]
        walk_at "go"
        refine ⟨by walk_at "len", fun p3 np3 => ?_⟩
        exact q _ p3 (same_new np3) ⟨[], upd_same, .nil⟩
      | none =>
        obtain ⟨p, rfl, hq⟩ := dp_0 hv.1
        refine r_ixQ hq rfl ?_
        walk_at "go"
        rw [eqv_s, show decide (("none" : Str) = "just") = false by decide +kernel]
        walk_at "go"
        refine r_ixQ hq rfl ?_
        walk_at "go"
        rw [eqv_s, show decide (("none" : Str) = "name") = false by decide +kernel]
        walk_at "go"
        refine r_ixQ hq rfl ?_
        walk_at "go"
        rw [eqv_s, show decide (("none" : Str) = "none") = true by decide +kernel]
        walk_at "go"
        refine ⟨by walk_at "len", fun p3 np3 => ?_⟩
        exact q _ p3 (same_new np3) ⟨[], upd_same, .nil⟩
      | just u =>
        obtain ⟨p, y, rfl, hq, hy⟩ := tv_1 hv
        have hdu : u.d.depth + 1 < n + 1 := by rw [← dep1 (k := "just")]; exact hd
        have hzu : u.sz + 1 ≤ 1000 := hz
        have hlu := rTm_len u
        refine r_ixQ hq rfl ?_
        walk_at "go"
        rw [eqv_s, show decide (("just" : Str) = "just") = true by decide +kernel]
        walk_at "go"
        refine r_ixQ hq rfl ?_
        walk_at "go"
        refine ⟨by walk_at "len", fun p3 np3 => ?_⟩
        walk_at "go"
        refine ⟨by walk_at "len", fun p4 np4 => ?_⟩
        have s3 := same_new (o := HO.tup [.str "element", y]) np3
        have s4 := same_new (o := HO.lst [.ref p3]) np4
        have sB := s3.trans s4
        walk_at "go"
        refine r_ixQ (sqt_s sB hq) rfl ?_
        walk_at "go"
        refine ⟨y, u, rfl, hy.mono sB, by omega, by omega, fun H5 p5 s5 hp5 => ?_⟩
        have hone : RwAt K H5 p4 [("element", u.d)] := RwAt.one (s5 _ _ upd_same) (s5 _ _ (s4 _ _ upd_same)) (hy.mono (sB.trans s5))
        exact r_cat hone hp5 (by rw [List.length_singleton]; omega) fun p6 H6 s6 h6 => q H6 p6 (sB.trans (s5.trans s6)) h6
      | bin op a b =>
        obtain ⟨p, y, z, rfl, hq, hy, hz2⟩ := tv_2 hv
        have hdu : max a.d.depth b.d.depth + 1 < n + 1 := by rw [← dep2 (k := op.s)]; exact hd
        have hzu : a.sz + b.sz + 1 ≤ 1000 := hz
        have hla := rTm_len a
        have hlb := rTm_len b
        refine r_ixQ hq rfl ?_
        walk_at "go"
        rw [eqv_s, show decide (op.s = "just") = false by cases op <;> decide +kernel]
        walk_at "go"
        refine r_ixQ hq rfl ?_
        walk_at "go"
        rw [eqv_s, show decide (op.s = "name") = false by cases op <;> decide +kernel]
        walk_at "go"
        refine r_ixQ hq rfl ?_
        walk_at "go"
        rw [eqv_s, show decide (op.s = "none") = false by cases op <;> decide +kernel]
        walk_at "go"
        refine r_ixQ hq rfl ?_
        walk_at "go"
        refine ⟨y, a, rfl, hy, by omega, by omega, fun H5 p5 s5 hp5 => ?_⟩
        walk_at "go"
        refine r_ixQ (sqt_s s5 hq) rfl ?_
        walk_at "go"
        refine ⟨z, b, rfl, hz2.mono s5, by omega, by omega, fun H6 p6 s6 hp6 => ?_⟩
        exact r_cat (hp5.mono s6) hp6 (by omega) fun p7 H7 s7 h7 => q H7 p7 (s5.trans (s6.trans s7)) h7
theorem ok_er {n : Nat} {f f1 : Addr} {fd fd1 : FuncData} (B : Blt mg) (D : Dn K mg "_law_element_rows" s__law_element_rows ["term"] f fd) (D_law_term_rows : Dn K mg "_law_term_rows" s__law_term_rows ["term"] f1 fd1) (G_law_term_rows : FnOk P w K mg base CX0 (1 + n) f1 fd1 ["term"] (spTr K n)) : FnOk P w K mg base CX0 (1 + n + 1) f fd ["term"] (spEr K n) := by
  refine D.F.ok (k := 1 + n) sc__law_element_rows (fun vs H Q E h => ?_) (fun cdv A outer s H vs Q E hr h => ?_)
  · obtain ⟨v, t, rfl, _⟩ := h
    rfl
  · obtain ⟨v, t, rfl, hv, hd, hz, q⟩ := h
    refine ⟨_, (pss_one (ps_ret (pe_op op_cat (pe_lst (pa_cons (pe_tup (pa_cons pe_str (pa_cons (pv 0) pa_nil))) pa_nil)) (pe_call G_law_term_rows (hr.mono (by omega)) (by rfl) D_law_term_rows.g D_law_term_rows.F.kp D_law_term_rows.b .nil pass0 (pa_cons (pv 0) pa_nil))))), ?_⟩
    have hlt := rTm_len t
    walk_at "begin"
    walk_at "go"
    refine ⟨by walk_at "len", fun p3 np3 => ?_⟩
    walk_at "go"
    refine ⟨by walk_at "len", fun p4 np4 => ?_⟩
    have s3 := same_new (o := HO.tup [.str "element", v]) np3
    have s4 := same_new (o := HO.lst [.ref p3]) np4
    have sB := s3.trans s4
    walk_at "go"
    refine ⟨v, t, rfl, hv.mono sB, hd, hz, fun H5 p5 s5 hp5 => ?_⟩
    have hone : RwAt K H5 p4 [("element", t.d)] := RwAt.one (s5 _ _ upd_same) (s5 _ _ (s4 _ _ upd_same)) (hv.mono (sB.trans s5))
    exact r_cat hone hp5 (by rw [List.length_singleton]; omega) fun p6 H6 s6 h6 => q H6 p6 (sB.trans (s5.trans s6)) h6
theorem ok_hr {n : Nat} {f f1 : Addr} {fd fd1 : FuncData} (B : Blt mg) (D : Dn K mg "_law_holding_rows" s__law_holding_rows ["term"] f fd) (D_law_term_rows : Dn K mg "_law_term_rows" s__law_term_rows ["term"] f1 fd1) (G_law_term_rows : FnOk P w K mg base CX0 (1 + n) f1 fd1 ["term"] (spTr K n)) : FnOk P w K mg base CX0 (1 + n + 1) f fd ["term"] (spHr K n) := by
  refine D.F.ok (k := 1 + n) sc__law_holding_rows (fun vs H Q E h => ?_) (fun cdv A outer s H vs Q E hr h => ?_)
  · obtain ⟨v, t, rfl, _⟩ := h
    rfl
  · obtain ⟨v, t, rfl, hv, hd, hz, q⟩ := h
    refine ⟨_, (pss_one (ps_ret (pe_op op_cat (pe_lst (pa_cons (pe_tup (pa_cons pe_str (pa_cons (pv 0) pa_nil))) pa_nil)) (pe_call G_law_term_rows (hr.mono (by omega)) (by rfl) D_law_term_rows.g D_law_term_rows.F.kp D_law_term_rows.b .nil pass0 (pa_cons (pv 0) pa_nil))))), ?_⟩
    have hlt := rTm_len t
    walk_at "begin"
    walk_at "go"
    refine ⟨by walk_at "len", fun p3 np3 => ?_⟩
    walk_at "go"
    refine ⟨by walk_at "len", fun p4 np4 => ?_⟩
    have s3 := same_new (o := HO.tup [.str "holding", v]) np3
    have s4 := same_new (o := HO.lst [.ref p3]) np4
    have sB := s3.trans s4
    walk_at "go"
    refine ⟨v, t, rfl, hv.mono sB, hd, hz, fun H5 p5 s5 hp5 => ?_⟩
    have hone : RwAt K H5 p4 [("holding", t.d)] := RwAt.one (s5 _ _ upd_same) (s5 _ _ (s4 _ _ upd_same)) (hv.mono (sB.trans s5))
    exact r_cat hone hp5 (by rw [List.length_singleton]; omega) fun p6 H6 s6 h6 => q H6 p6 (sB.trans (s5.trans s6)) h6
/-- the parts behind the first one are walked one by one -/
theorem rd_br {n : Nat} {f f1 f2 : Addr} {fd fd1 fd2 : FuncData} (B : Blt mg) (D : Dn K mg "_law_body_rows" s__law_body_rows ["body"] f fd) (D_law_element_rows : Dn K mg "_law_element_rows" s__law_element_rows ["term"] f1 fd1) (G_law_element_rows : FnOk P w K mg base CX0 (1 + n + 1) f1 fd1 ["term"] (spEr K n))
    (D_law_holding_rows : Dn K mg "_law_holding_rows" s__law_holding_rows ["term"] f2 fd2) (G_law_holding_rows : FnOk P w K mg base CX0 (1 + n + 1) f2 fd2 ["term"] (spHr K n)) : ∀ m, m ≤ n → FnOk P w K mg base CX0 (1 + n + 1 + m) f fd ["body"] (spBr K m)
  | 0, _ => ⟨fun vs H Q E h => (by obtain ⟨v, t, rfl, _⟩ := h; rfl), fun A outer s H args us vs Q E hr e0 hb r h => (by obtain ⟨v, t, _, _, hd, _⟩ := h; exact absurd hd (Nat.not_lt_zero _))⟩
  | m + 1, hm => by
    have ih := rd_br B D D_law_element_rows G_law_element_rows D_law_holding_rows G_law_holding_rows m (by omega)
    refine D.F.ok (k := 1 + n + 1 + m) sc__law_body_rows (fun vs H Q E h => ?_) (fun cdv A outer s H vs Q E hr h => ?_)
    · obtain ⟨v, t, rfl, _⟩ := h
      rfl
    · obtain ⟨v, t, rfl, hv, hd, hz, q⟩ := h
      refine ⟨_, (pss_cons (ps_if (pt_cmpR op_eq (pe_ix (ix_tupK (K := K) rfl) (pv 0) pe_int (fun _ _ => rfl)) pe_str (nomark _)) (pss_one (ps_ret (pe_call G_law_holding_rows (hr.mono (by omega)) (by rfl) D_law_holding_rows.g D_law_holding_rows.F.kp D_law_holding_rows.b .nil pass0 (pa_cons (pe_ix (ix_tupK (K := K) rfl) (pv 0) pe_int (fun _ _ => rfl)) pa_nil)))) pss_nil)
      (pss_cons (ps_if (pt_cmpR op_eq (pe_ix (ix_tupK (K := K) rfl) (pv 0) pe_int (fun _ _ => rfl)) pe_str (nomark _)) (pss_one (ps_ret (pe_op op_cat (pe_lst (pa_cons (pe_tup (pa_cons pe_str (pa_cons (pe_ix (ix_tupK (K := K) rfl) (pv 0) pe_int (fun _ _ => rfl)) pa_nil))) pa_nil)) (pe_call G_law_element_rows (hr.mono (by omega)) (by rfl) D_law_element_rows.g D_law_element_rows.F.kp D_law_element_rows.b .nil pass0 (pa_cons (pe_ix (ix_tupK (K := K) rfl) (pv 0) pe_int (fun _ _ => rfl)) pa_nil))))) pss_nil)
      (pss_cons (ps_if (pt_cmpR op_eq (pe_ix (ix_tupK (K := K) rfl) (pv 0) pe_int (fun _ _ => rfl)) pe_str (nomark _)) (pss_one (ps_ret (pe_call G_law_element_rows (hr.mono (by omega)) (by rfl) D_law_element_rows.g D_law_element_rows.F.kp D_law_element_rows.b .nil pass0 (pa_cons (pe_ix (ix_tupK (K := K) rfl) (pv 0) pe_int (fun _ _ => rfl)) pa_nil)))) pss_nil)
      (pss_cons (ps_set (i := 1) sc__law_body_rows.nd rfl (.inl rfl) (pe_lst pa_nil))
      (pss_cons (ps_for PassesOwn.never rfl (pi_tupK (K := K) rfl (pe_slice (sl_tupK (K := K) rfl) (pv 0) (po_some pe_int) po_none)) (pg_name (i := 2) sc__law_body_rows.nd rfl (.inl rfl)) (pss_one (ps_set (i := 1) sc__law_body_rows.nd rfl (.inl rfl) (pe_op op_cat (pv 1) (pe_call ih (hr.mono (Nat.le_refl _)) (by rfl) D.g D.F.kp D.b .nil pass0 (pa_cons (pv 2) pa_nil))))))
      (pss_one (ps_ret (pv 1)))))))), ?_⟩
      walk_at "begin"
      walk_at "go"
      cases t with
      | fact k t =>
        obtain ⟨p, y, rfl, hq, hy⟩ := tv_1 hv
        have hdu : t.d.depth + 1 < m + 1 := by rw [← dep1 (k := k.s)]; exact hd
        have hzu : t.sz + 1 ≤ 1000 := hz
        have hlt := rEl_len t
        refine r_ixQ hq rfl ?_
        walk_at "go"
        rw [eqv_s]
        cases k with
        | inside =>
          rw [show decide (Bk.inside.s = "inside") = true by decide +kernel]
          walk_at "go"
          refine r_ixQ hq rfl ?_
          walk_at "go"
          exact ⟨y, t, rfl, hy, by omega, by omega, fun H5 p5 s5 hp5 => q H5 p5 s5 hp5⟩
        | has =>
          rw [show decide (Bk.has.s = "inside") = false by decide +kernel]
          walk_at "go"
          refine r_ixQ hq rfl ?_
          walk_at "go"
          rw [eqv_s, show decide (Bk.has.s = "has") = true by decide +kernel]
          walk_at "go"
          refine r_ixQ hq rfl ?_
          walk_at "go"
          refine ⟨by walk_at "len", fun p3 np3 => ?_⟩
          walk_at "go"
          refine ⟨by walk_at "len", fun p4 np4 => ?_⟩
          have s3 := same_new (o := HO.tup [.str "asked", y]) np3
          have s4 := same_new (o := HO.lst [.ref p3]) np4
          have sB := s3.trans s4
          walk_at "go"
          refine r_ixQ (sqt_s sB hq) rfl ?_
          walk_at "go"
          refine ⟨y, t, rfl, hy.mono sB, by omega, by omega, fun H5 p5 s5 hp5 => ?_⟩
          have hone : RwAt K H5 p4 [("asked", t.d)] := RwAt.one (s5 _ _ upd_same) (s5 _ _ (s4 _ _ upd_same)) (hy.mono (sB.trans s5))
          exact r_cat hone hp5 (by rw [List.length_singleton]; omega) fun p6 H6 s6 h6 => q H6 p6 (sB.trans (s5.trans s6)) h6
        | is =>
          rw [show decide (Bk.is.s = "inside") = false by decide +kernel]
          walk_at "go"
          refine r_ixQ hq rfl ?_
          walk_at "go"
          rw [eqv_s, show decide (Bk.is.s = "has") = false by decide +kernel]
          walk_at "go"
          refine r_ixQ hq rfl ?_
          walk_at "go"
          rw [eqv_s, show decide (Bk.is.s = "is") = true by decide +kernel]
          walk_at "go"
          refine r_ixQ hq rfl ?_
          walk_at "go"
          exact ⟨y, t, rfl, hy, by omega, by omega, fun H5 p5 s5 hp5 => q H5 p5 s5 hp5⟩
      | not b =>
        obtain ⟨p, y, rfl, hq, hy⟩ := tv_1 hv
        have hdu : b.d.depth + 1 < m + 1 := by rw [← dep1 (k := "not")]; exact hd
        have hzu : b.sz + 1 ≤ 1000 := hz
        have hlt := rBd_len b
        refine r_ixQ hq rfl ?_
        walk_at "go"
        rw [eqv_s, show decide (("not" : Str) = "inside") = false by decide +kernel]
        walk_at "go"
        refine r_ixQ hq rfl ?_
        walk_at "go"
        rw [eqv_s, show decide (("not" : Str) = "has") = false by decide +kernel]
        walk_at "go"
        refine r_ixQ hq rfl ?_
        walk_at "go"
        rw [eqv_s, show decide (("not" : Str) = "is") = false by decide +kernel]
        walk_at "go"
        refine ⟨by walk_at "len", fun p1 np1 => ?_⟩
        have s1 := same_new (o := HO.lst []) np1
        have hp1 : RwAt K (upd H p1 (.lst [])) p1 [] := ⟨[], upd_same, .nil⟩
        have hq1 := sqt_s s1 hq
        have hy1 := hy.mono s1
        generalize upd H p1 (.lst []) = H1 at s1 hp1 hq1 hy1 ⊢
        walk_at "go"
        refine r_iTup ?_
        walk_at "go"
        refine r_slQ1 hq1 (by simp) fun p2 n2 => ?_
        have s2 := same_new (o := HO.tup ((V.str "not" :: [y]).drop 1)) n2
        have h2 : upd H1 p2 (.tup ((V.str "not" :: [y]).drop 1)) p2 = some (.tup [y]) := upd_same
        generalize upd H1 p2 (.tup ((V.str "not" :: [y]).drop 1)) = H2 at s2 h2 ⊢
        refine r_forT h2 (fun i σ H' => ∃ (pr : Addr) (y2 : Option V), σ = [some (.ref p), some (.ref pr), y2] ∧ Same H2 H' ∧ RwAt K H' pr ((([rBd b]).take i).flatten)) ?_ ?_ ?_ ?_
        · exact ⟨p1, none, rfl, Same.refl _, hp1.mono s2⟩
        · rintro i σ H' hi ⟨pr, y2, _, s4, _⟩
          exact s4 _ _ h2
        · rintro i x σ H' hx ⟨pr, y2, rfl, s4, h4⟩
          match i, hx with
          | 0, hx =>
            obtain rfl : y = x := Option.some.inj hx
            walk_at "go"
            refine ⟨y, b, rfl, (hy1.mono s2).mono s4, by omega, by omega, fun H5 p5 s5 hp5 => ?_⟩
            refine r_cat (h4.mono s5) hp5 (by simp; omega) fun p6 H6 s6 h6 => ?_
            walk_at "go"
            exact ⟨p6, _, rfl, s4.trans (s5.trans s6), by simpa using h6⟩
          | i + 1, hx => cases hx
        · rintro σ H' ⟨pr, y2, rfl, s4, h4⟩
          walk_at "go"
          exact q H' pr (s1.trans (s2.trans s4)) (show RwAt K H' pr (rBd b) by simpa using h4)
      | bin j b c =>
        obtain ⟨p, y, z, rfl, hq, hy, hz2⟩ := tv_2 hv
        have hdu : max b.d.depth c.d.depth + 1 < m + 1 := by rw [← dep2 (k := j.s)]; exact hd
        have hzu : b.sz + c.sz + 1 ≤ 1000 := hz
        have hlb := rBd_len b
        have hlc := rBd_len c
        refine r_ixQ hq rfl ?_
        walk_at "go"
        rw [eqv_s, show decide (j.s = "inside") = false by cases j <;> decide +kernel]
        walk_at "go"
        refine r_ixQ hq rfl ?_
        walk_at "go"
        rw [eqv_s, show decide (j.s = "has") = false by cases j <;> decide +kernel]
        walk_at "go"
        refine r_ixQ hq rfl ?_
        walk_at "go"
        rw [eqv_s, show decide (j.s = "is") = false by cases j <;> decide +kernel]
        walk_at "go"
        refine ⟨by walk_at "len", fun p1 np1 => ?_⟩
        have s1 := same_new (o := HO.lst []) np1
        have hp1 : RwAt K (upd H p1 (.lst [])) p1 [] := ⟨[], upd_same, .nil⟩
        have hq1 := sqt_s s1 hq
        have hy1 := hy.mono s1
        have hz1 := hz2.mono s1
        generalize upd H p1 (.lst []) = H1 at s1 hp1 hq1 hy1 hz1 ⊢
        walk_at "go"
        refine r_iTup ?_
        walk_at "go"
        refine r_slQ1 hq1 (by simp) fun p2 n2 => ?_
        have s2 := same_new (o := HO.tup ((V.str j.s :: [y, z]).drop 1)) n2
        have h2 : upd H1 p2 (.tup ((V.str j.s :: [y, z]).drop 1)) p2 = some (.tup [y, z]) := upd_same
        generalize upd H1 p2 (.tup ((V.str j.s :: [y, z]).drop 1)) = H2 at s2 h2 ⊢
        refine r_forT h2 (fun i σ H' => ∃ (pr : Addr) (y2 : Option V), σ = [some (.ref p), some (.ref pr), y2] ∧ Same H2 H' ∧ RwAt K H' pr ((([rBd b, rBd c]).take i).flatten)) ?_ ?_ ?_ ?_
        · exact ⟨p1, none, rfl, Same.refl _, hp1.mono s2⟩
        · rintro i σ H' hi ⟨pr, y2, _, s4, _⟩
          exact s4 _ _ h2
        · rintro i x σ H' hx ⟨pr, y2, rfl, s4, h4⟩
          match i, hx with
          | 0, hx =>
            obtain rfl : y = x := Option.some.inj hx
            walk_at "go"
            refine ⟨y, b, rfl, (hy1.mono s2).mono s4, by omega, by omega, fun H5 p5 s5 hp5 => ?_⟩
            refine r_cat (h4.mono s5) hp5 (by simp; omega) fun p6 H6 s6 h6 => ?_
            walk_at "go"
            exact ⟨p6, _, rfl, s4.trans (s5.trans s6), by simpa using h6⟩
          | 1, hx =>
            obtain rfl : z = x := Option.some.inj hx
            walk_at "go"
            refine ⟨z, c, rfl, (hz1.mono s2).mono s4, by omega, by omega, fun H5 p5 s5 hp5 => ?_⟩
            refine r_cat (h4.mono s5) hp5 (by simp; omega) fun p6 H6 s6 h6 => ?_
            walk_at "go"
            exact ⟨p6, _, rfl, s4.trans (s5.trans s6), by simpa using h6⟩
          | i + 2, hx => cases hx
        · rintro σ H' ⟨pr, y2, rfl, s4, h4⟩
          walk_at "go"
          exact q H' pr (s1.trans (s2.trans s4)) (show RwAt K H' pr (rBd b ++ rBd c) by simpa using h4)
end
end K16
namespace K16
open PySem PySem.Spec PyProof.Rows L2 Lw
open Sy (Bd Sg Op Fk Jn Bk)
open Shp (rTm rEl rHo rBd rSg isNm)
section
variable {P : Program} {w : World} {K : PySem.W.Frag} {mg : Str → Option Value} {base : Heap}
theorem rd_sr {n : Nat} {f f1 f2 f3 : Addr} {fd fd1 fd2 fd3 : FuncData} (B : Blt mg) (D : Dn K mg "_law_rows" s__law_rows ["saying"] f fd) (D_law_element_rows : Dn K mg "_law_element_rows" s__law_element_rows ["term"] f1 fd1) (G_law_element_rows : FnOk P w K mg base CX0 (1 + n + 1) f1 fd1 ["term"] (spEr K n))
    (D_law_holding_rows : Dn K mg "_law_holding_rows" s__law_holding_rows ["term"] f2 fd2) (G_law_holding_rows : FnOk P w K mg base CX0 (1 + n + 1) f2 fd2 ["term"] (spHr K n))
    (D_law_body_rows : Dn K mg "_law_body_rows" s__law_body_rows ["body"] f3 fd3) (G_law_body_rows : FnOk P w K mg base CX0 (1 + n + 1 + n) f3 fd3 ["body"] (spBr K n)) : ∀ m, m ≤ n → FnOk P w K mg base CX0 (1 + n + 1 + n + m) f fd ["saying"] (spSr K m)
  | 0, _ => ⟨fun vs H Q E h => (by obtain ⟨v, t, rfl, _⟩ := h; rfl), fun A outer s H args us vs Q E hr e0 hb r h => (by obtain ⟨v, t, _, _, hd, _⟩ := h; exact absurd hd (Nat.not_lt_zero _))⟩
  | m + 1, hm => by
    have ih := rd_sr B D D_law_element_rows G_law_element_rows D_law_holding_rows G_law_holding_rows D_law_body_rows G_law_body_rows m (by omega)
    refine D.F.ok (k := 1 + n + 1 + n + m) sc__law_rows (fun vs H Q E h => ?_) (fun cdv A outer s H vs Q E hr h => ?_)
    · obtain ⟨v, t, rfl, _⟩ := h
      rfl
    · obtain ⟨v, t, rfl, hv, hd, hz, q⟩ := h
      refine ⟨_, (pss_cons (ps_set (i := 1) sc__law_rows.nd rfl (.inl rfl) (pe_ix (ix_tupK (K := K) rfl) (pv 0) pe_int (fun _ _ => rfl)))
      (pss_cons (ps_if (PW.pt (pw_or (pt_cmpR op_eq (pv 1) pe_str (nomark _)) (pw_or (pt_cmpR op_eq (pv 1) pe_str (nomark _)) (pw_or (pt_cmpR op_eq (pv 1) pe_str (nomark _)) (pw_or1 (pt_cmpR op_eq (pv 1) pe_str (nomark _))))))) (pss_cons (ps_set (i := 2) sc__law_rows.nd rfl (.inl rfl) (pe_lst pa_nil))
      (pss_cons (ps_for PassesOwn.never rfl (pi_tupK (K := K) rfl (pe_slice (sl_tupK (K := K) rfl) (pv 0) (po_some pe_int) po_none)) (pg_name (i := 3) sc__law_rows.nd rfl (.inl rfl)) (pss_one (ps_set (i := 2) sc__law_rows.nd rfl (.inl rfl) (pe_op op_cat (pv 2) (pe_call ih (hr.mono (Nat.le_refl _)) (by rfl) D.g D.F.kp D.b .nil pass0 (pa_cons (pv 3) pa_nil))))))
      (pss_one (ps_ret (pv 2))))) pss_nil)
      (pss_cons (ps_if (pt_cmpR op_eq (pv 1) pe_str (nomark _)) (pss_one (ps_ret (pe_op op_cat (pe_call G_law_element_rows (hr.mono (by omega)) (by rfl) D_law_element_rows.g D_law_element_rows.F.kp D_law_element_rows.b .nil pass0 (pa_cons (pe_ix (ix_tupK (K := K) rfl) (pv 0) pe_int (fun _ _ => rfl)) pa_nil)) (pe_call G_law_holding_rows (hr.mono (by omega)) (by rfl) D_law_holding_rows.g D_law_holding_rows.F.kp D_law_holding_rows.b .nil pass0 (pa_cons (pe_ix (ix_tupK (K := K) rfl) (pv 0) pe_int (fun _ _ => rfl)) pa_nil))))) pss_nil)
      (pss_cons (ps_if (pt_cmpR op_eq (pv 1) pe_str (nomark _)) (pss_one (ps_ret (pe_op op_cat (pe_op op_cat (pe_call G_law_holding_rows (hr.mono (by omega)) (by rfl) D_law_holding_rows.g D_law_holding_rows.F.kp D_law_holding_rows.b .nil pass0 (pa_cons (pe_ix (ix_tupK (K := K) rfl) (pv 0) pe_int (fun _ _ => rfl)) pa_nil)) (pe_call G_law_body_rows (hr.mono (by omega)) (by rfl) D_law_body_rows.g D_law_body_rows.F.kp D_law_body_rows.b .nil pass0 (pa_cons (pe_ix (ix_tupK (K := K) rfl) (pv 0) pe_int (fun _ _ => rfl)) pa_nil))) (pe_lst (pa_cons (pe_tup (pa_cons pe_str (pa_cons (pv 0) pa_nil))) pa_nil))))) pss_nil)
      (pss_cons (ps_if (pt_cmpR op_eq (pv 1) pe_str (nomark _)) (pss_cons (ps_set (i := 4) sc__law_rows.nd rfl (.inl rfl) (pe_tup (pa_cons pe_str (pa_cons (pe_ix (ix_tupK (K := K) rfl) (pv 0) pe_int (fun _ _ => rfl)) (pa_cons (pe_tup (pa_cons pe_str (pa_cons (pe_ix (ix_tupK (K := K) rfl) (pv 0) pe_int (fun _ _ => rfl)) pa_nil))) pa_nil)))))
      (pss_one (ps_ret (pe_op op_cat (pe_op op_cat (pe_call G_law_holding_rows (hr.mono (by omega)) (by rfl) D_law_holding_rows.g D_law_holding_rows.F.kp D_law_holding_rows.b .nil pass0 (pa_cons (pe_ix (ix_tupK (K := K) rfl) (pv 0) pe_int (fun _ _ => rfl)) pa_nil)) (pe_call G_law_body_rows (hr.mono (by omega)) (by rfl) D_law_body_rows.g D_law_body_rows.F.kp D_law_body_rows.b .nil pass0 (pa_cons (pe_ix (ix_tupK (K := K) rfl) (pv 0) pe_int (fun _ _ => rfl)) pa_nil))) (pe_lst (pa_cons (pe_tup (pa_cons pe_str (pa_cons (pv 4) pa_nil))) pa_nil)))))) pss_nil)
      (pss_cons (ps_if (PW.pt (pw_and (pt_cmpR op_eq (pv 1) pe_str (nomark _)) (pw_and (pt_cmpR op_eq (pe_ix (ix_tupK (K := K) rfl) (pe_ix (ix_tupK (K := K) rfl) (pv 0) pe_int (fun _ _ => rfl)) pe_int (fun _ _ => rfl)) pe_str (nomark _)) (pw_and1 (pt_cmpR op_eq (pe_ix (ix_tupK (K := K) rfl) (pe_ix (ix_tupK (K := K) rfl) (pv 0) pe_int (fun _ _ => rfl)) pe_int (fun _ _ => rfl)) pe_str (nomark _)))))) (pss_one (ps_ret (pe_op op_cat (pe_call G_law_element_rows (hr.mono (by omega)) (by rfl) D_law_element_rows.g D_law_element_rows.F.kp D_law_element_rows.b .nil pass0 (pa_cons (pe_ix (ix_tupK (K := K) rfl) (pv 0) pe_int (fun _ _ => rfl)) pa_nil)) (pe_call G_law_element_rows (hr.mono (by omega)) (by rfl) D_law_element_rows.g D_law_element_rows.F.kp D_law_element_rows.b .nil pass0 (pa_cons (pe_ix (ix_tupK (K := K) rfl) (pv 0) pe_int (fun _ _ => rfl)) pa_nil))))) pss_nil)
      (pss_one (ps_ret (pe_op op_cat (pe_op op_cat (pe_call G_law_holding_rows (hr.mono (by omega)) (by rfl) D_law_holding_rows.g D_law_holding_rows.F.kp D_law_holding_rows.b .nil pass0 (pa_cons (pe_ix (ix_tupK (K := K) rfl) (pv 0) pe_int (fun _ _ => rfl)) pa_nil)) (pe_call G_law_holding_rows (hr.mono (by omega)) (by rfl) D_law_holding_rows.g D_law_holding_rows.F.kp D_law_holding_rows.b .nil pass0 (pa_cons (pe_ix (ix_tupK (K := K) rfl) (pv 0) pe_int (fun _ _ => rfl)) pa_nil))) (pe_lst (pa_cons (pe_tup (pa_cons pe_str (pa_cons (pv 0) pa_nil))) pa_nil))))))))))), ?_⟩
      walk_at "begin"
      walk_at "go"
      cases t with
      | not b =>
        obtain ⟨p, y, rfl, hq, hy⟩ := tv_1 hv
        have hdu : b.d.depth + 1 < m + 1 := by rw [← dep1 (k := "not")]; exact hd
        have hzu : b.sz + 1 ≤ 1000 := hz
        have hlt := rSg_len b
        refine r_ixQ hq rfl ?_
        walk_at "go"
        rw [eqv_s, show decide (("not" : Str) = "not") = true by decide +kernel]
        walk_at "go"
        refine ⟨by walk_at "len", fun p1 np1 => ?_⟩
        have s1 := same_new (o := HO.lst []) np1
        have hp1 : RwAt K (upd H p1 (.lst [])) p1 [] := ⟨[], upd_same, .nil⟩
        have hq1 := sqt_s s1 hq
        have hy1 := hy.mono s1
        generalize upd H p1 (.lst []) = H1 at s1 hp1 hq1 hy1 ⊢
        walk_at "go"
        refine r_iTup ?_
        walk_at "go"
        refine r_slQ1 hq1 (by simp) fun p2 n2 => ?_
        have s2 := same_new (o := HO.tup ((V.str "not" :: [y]).drop 1)) n2
        have h2 : upd H1 p2 (.tup ((V.str "not" :: [y]).drop 1)) p2 = some (.tup [y]) := upd_same
        generalize upd H1 p2 (.tup ((V.str "not" :: [y]).drop 1)) = H2 at s2 h2 ⊢
        refine r_forT h2 (fun i σ H' => ∃ (pr : Addr) (y2 y3 : Option V), σ = [some (.ref p), some (.str "not"), some (.ref pr), y2, y3] ∧ Same H2 H' ∧ RwAt K H' pr ((([rSg b]).take i).flatten)) ?_ ?_ ?_ ?_
        · exact ⟨p1, none, none, rfl, Same.refl _, hp1.mono s2⟩
        · rintro i σ H' hi ⟨pr, y2, y3, _, s4, _⟩
          exact s4 _ _ h2
        · rintro i x σ H' hx ⟨pr, y2, y3, rfl, s4, h4⟩
          match i, hx with
          | 0, hx =>
            obtain rfl : y = x := Option.some.inj hx
            walk_at "go"
            refine ⟨y, b, rfl, (hy1.mono s2).mono s4, by omega, by omega, fun H5 p5 s5 hp5 => ?_⟩
            refine r_cat (h4.mono s5) hp5 (by simp; omega) fun p6 H6 s6 h6 => ?_
            walk_at "go"
            exact ⟨p6, _, _, rfl, s4.trans (s5.trans s6), by simpa using h6⟩
          | i + 1, hx => cases hx
        · rintro σ H' ⟨pr, y2, y3, rfl, s4, h4⟩
          walk_at "go"
          exact q H' pr (s1.trans (s2.trans s4)) (show RwAt K H' pr (rSg b) by simpa using h4)
      | bin j b c =>
        obtain ⟨p, y, z, rfl, hq, hy, hz2⟩ := tv_2 hv
        have hdu : max b.d.depth c.d.depth + 1 < m + 1 := by rw [← dep2 (k := j.s)]; exact hd
        have hzu : b.sz + c.sz + 1 ≤ 1000 := hz
        have hlb := rSg_len b
        have hlc := rSg_len c
        refine r_ixQ hq rfl ?_
        walk_at "go"
        cases j with
        | and =>
          rw [eqv_s, show decide (Jn.and.s = "not") = false by decide +kernel]
          walk_at "go"
          rw [eqv_s, show decide (Jn.and.s = "and") = true by decide +kernel]
          walk_at "go"
          refine ⟨by walk_at "len", fun p1 np1 => ?_⟩
          have s1 := same_new (o := HO.lst []) np1
          have hp1 : RwAt K (upd H p1 (.lst [])) p1 [] := ⟨[], upd_same, .nil⟩
          have hq1 := sqt_s s1 hq
          have hy1 := hy.mono s1
          have hz21 := hz2.mono s1
          generalize upd H p1 (.lst []) = H1 at s1 hp1 hq1 hy1 hz21 ⊢
          walk_at "go"
          refine r_iTup ?_
          walk_at "go"
          refine r_slQ1 hq1 (by simp) fun p2 n2 => ?_
          have s2 := same_new (o := HO.tup ((V.str Jn.and.s :: [y, z]).drop 1)) n2
          have h2 : upd H1 p2 (.tup ((V.str Jn.and.s :: [y, z]).drop 1)) p2 = some (.tup [y, z]) := upd_same
          generalize upd H1 p2 (.tup ((V.str Jn.and.s :: [y, z]).drop 1)) = H2 at s2 h2 ⊢
          refine r_forT h2 (fun i σ H' => ∃ (pr : Addr) (y2 y3 : Option V), σ = [some (.ref p), some (.str Jn.and.s), some (.ref pr), y2, y3] ∧ Same H2 H' ∧ RwAt K H' pr ((([rSg b, rSg c]).take i).flatten)) ?_ ?_ ?_ ?_
          · exact ⟨p1, none, none, rfl, Same.refl _, hp1.mono s2⟩
          · rintro i σ H' hi ⟨pr, y2, y3, _, s4, _⟩
            exact s4 _ _ h2
          · rintro i x σ H' hx ⟨pr, y2, y3, rfl, s4, h4⟩
            match i, hx with
            | 0, hx =>
              obtain rfl : y = x := Option.some.inj hx
              walk_at "go"
              refine ⟨y, b, rfl, (hy1.mono s2).mono s4, by omega, by omega, fun H5 p5 s5 hp5 => ?_⟩
              refine r_cat (h4.mono s5) hp5 (by simp; omega) fun p6 H6 s6 h6 => ?_
              walk_at "go"
              exact ⟨p6, _, _, rfl, s4.trans (s5.trans s6), by simpa using h6⟩
            | 1, hx =>
              obtain rfl : z = x := Option.some.inj hx
              walk_at "go"
              refine ⟨z, c, rfl, (hz21.mono s2).mono s4, by omega, by omega, fun H5 p5 s5 hp5 => ?_⟩
              refine r_cat (h4.mono s5) hp5 (by simp; omega) fun p6 H6 s6 h6 => ?_
              walk_at "go"
              exact ⟨p6, _, _, rfl, s4.trans (s5.trans s6), by simpa using h6⟩
            | i + 2, hx => cases hx
          · rintro σ H' ⟨pr, y2, y3, rfl, s4, h4⟩
            walk_at "go"
            exact q H' pr (s1.trans (s2.trans s4)) (show RwAt K H' pr (rSg b ++ rSg c) by simpa using h4)
        | or =>
          rw [eqv_s, show decide (Jn.or.s = "not") = false by decide +kernel]
          walk_at "go"
          rw [eqv_s, show decide (Jn.or.s = "and") = false by decide +kernel]
          walk_at "go"
          rw [eqv_s, show decide (Jn.or.s = "or") = true by decide +kernel]
          walk_at "go"
          refine ⟨by walk_at "len", fun p1 np1 => ?_⟩
          have s1 := same_new (o := HO.lst []) np1
          have hp1 : RwAt K (upd H p1 (.lst [])) p1 [] := ⟨[], upd_same, .nil⟩
          have hq1 := sqt_s s1 hq
          have hy1 := hy.mono s1
          have hz21 := hz2.mono s1
          generalize upd H p1 (.lst []) = H1 at s1 hp1 hq1 hy1 hz21 ⊢
          walk_at "go"
          refine r_iTup ?_
          walk_at "go"
          refine r_slQ1 hq1 (by simp) fun p2 n2 => ?_
          have s2 := same_new (o := HO.tup ((V.str Jn.or.s :: [y, z]).drop 1)) n2
          have h2 : upd H1 p2 (.tup ((V.str Jn.or.s :: [y, z]).drop 1)) p2 = some (.tup [y, z]) := upd_same
          generalize upd H1 p2 (.tup ((V.str Jn.or.s :: [y, z]).drop 1)) = H2 at s2 h2 ⊢
          refine r_forT h2 (fun i σ H' => ∃ (pr : Addr) (y2 y3 : Option V), σ = [some (.ref p), some (.str Jn.or.s), some (.ref pr), y2, y3] ∧ Same H2 H' ∧ RwAt K H' pr ((([rSg b, rSg c]).take i).flatten)) ?_ ?_ ?_ ?_
          · exact ⟨p1, none, none, rfl, Same.refl _, hp1.mono s2⟩
          · rintro i σ H' hi ⟨pr, y2, y3, _, s4, _⟩
            exact s4 _ _ h2
          · rintro i x σ H' hx ⟨pr, y2, y3, rfl, s4, h4⟩
            match i, hx with
            | 0, hx =>
              obtain rfl : y = x := Option.some.inj hx
              walk_at "go"
              refine ⟨y, b, rfl, (hy1.mono s2).mono s4, by omega, by omega, fun H5 p5 s5 hp5 => ?_⟩
              refine r_cat (h4.mono s5) hp5 (by simp; omega) fun p6 H6 s6 h6 => ?_
              walk_at "go"
              exact ⟨p6, _, _, rfl, s4.trans (s5.trans s6), by simpa using h6⟩
            | 1, hx =>
              obtain rfl : z = x := Option.some.inj hx
              walk_at "go"
              refine ⟨z, c, rfl, (hz21.mono s2).mono s4, by omega, by omega, fun H5 p5 s5 hp5 => ?_⟩
              refine r_cat (h4.mono s5) hp5 (by simp; omega) fun p6 H6 s6 h6 => ?_
              walk_at "go"
              exact ⟨p6, _, _, rfl, s4.trans (s5.trans s6), by simpa using h6⟩
            | i + 2, hx => cases hx
          · rintro σ H' ⟨pr, y2, y3, rfl, s4, h4⟩
            walk_at "go"
            exact q H' pr (s1.trans (s2.trans s4)) (show RwAt K H' pr (rSg b ++ rSg c) by simpa using h4)
        | thn =>
          rw [eqv_s, show decide (Jn.thn.s = "not") = false by decide +kernel]
          walk_at "go"
          rw [eqv_s, show decide (Jn.thn.s = "and") = false by decide +kernel]
          walk_at "go"
          rw [eqv_s, show decide (Jn.thn.s = "or") = false by decide +kernel]
          walk_at "go"
          rw [eqv_s, show decide (Jn.thn.s = "then") = true by decide +kernel]
          walk_at "go"
          refine ⟨by walk_at "len", fun p1 np1 => ?_⟩
          have s1 := same_new (o := HO.lst []) np1
          have hp1 : RwAt K (upd H p1 (.lst [])) p1 [] := ⟨[], upd_same, .nil⟩
          have hq1 := sqt_s s1 hq
          have hy1 := hy.mono s1
          have hz21 := hz2.mono s1
          generalize upd H p1 (.lst []) = H1 at s1 hp1 hq1 hy1 hz21 ⊢
          walk_at "go"
          refine r_iTup ?_
          walk_at "go"
          refine r_slQ1 hq1 (by simp) fun p2 n2 => ?_
          have s2 := same_new (o := HO.tup ((V.str Jn.thn.s :: [y, z]).drop 1)) n2
          have h2 : upd H1 p2 (.tup ((V.str Jn.thn.s :: [y, z]).drop 1)) p2 = some (.tup [y, z]) := upd_same
          generalize upd H1 p2 (.tup ((V.str Jn.thn.s :: [y, z]).drop 1)) = H2 at s2 h2 ⊢
          refine r_forT h2 (fun i σ H' => ∃ (pr : Addr) (y2 y3 : Option V), σ = [some (.ref p), some (.str Jn.thn.s), some (.ref pr), y2, y3] ∧ Same H2 H' ∧ RwAt K H' pr ((([rSg b, rSg c]).take i).flatten)) ?_ ?_ ?_ ?_
          · exact ⟨p1, none, none, rfl, Same.refl _, hp1.mono s2⟩
          · rintro i σ H' hi ⟨pr, y2, y3, _, s4, _⟩
            exact s4 _ _ h2
          · rintro i x σ H' hx ⟨pr, y2, y3, rfl, s4, h4⟩
            match i, hx with
            | 0, hx =>
              obtain rfl : y = x := Option.some.inj hx
              walk_at "go"
              refine ⟨y, b, rfl, (hy1.mono s2).mono s4, by omega, by omega, fun H5 p5 s5 hp5 => ?_⟩
              refine r_cat (h4.mono s5) hp5 (by simp; omega) fun p6 H6 s6 h6 => ?_
              walk_at "go"
              exact ⟨p6, _, _, rfl, s4.trans (s5.trans s6), by simpa using h6⟩
            | 1, hx =>
              obtain rfl : z = x := Option.some.inj hx
              walk_at "go"
              refine ⟨z, c, rfl, (hz21.mono s2).mono s4, by omega, by omega, fun H5 p5 s5 hp5 => ?_⟩
              refine r_cat (h4.mono s5) hp5 (by simp; omega) fun p6 H6 s6 h6 => ?_
              walk_at "go"
              exact ⟨p6, _, _, rfl, s4.trans (s5.trans s6), by simpa using h6⟩
            | i + 2, hx => cases hx
          · rintro σ H' ⟨pr, y2, y3, rfl, s4, h4⟩
            walk_at "go"
            exact q H' pr (s1.trans (s2.trans s4)) (show RwAt K H' pr (rSg b ++ rSg c) by simpa using h4)
      | fact k a b =>
        obtain ⟨p, y, z, rfl, hq, hy, hz2⟩ := tv_2 hv
        have hdu : max a.d.depth b.d.depth + 1 < m + 1 := by rw [← dep2 (k := k.s)]; exact hd
        have hzu : a.sz + b.sz + 1 ≤ 1000 := hz
        have hea := rEl_len a
        have heb := rEl_len b
        have hha := rHo_len a
        have hhb := rHo_len b
        refine r_ixQ hq rfl ?_
        walk_at "go"
        rw [eqv_s, show decide (k.s = "not") = false by cases k <;> decide +kernel]
        walk_at "go"
        rw [eqv_s, show decide (k.s = "and") = false by cases k <;> decide +kernel]
        walk_at "go"
        rw [eqv_s, show decide (k.s = "or") = false by cases k <;> decide +kernel]
        walk_at "go"
        rw [eqv_s, show decide (k.s = "then") = false by cases k <;> decide +kernel]
        walk_at "go"
        cases k with
        | inn =>
          rw [eqv_s, show decide (Fk.inn.s = "in") = true by decide +kernel]
          walk_at "go"
          refine r_ixQ hq rfl ?_
          walk_at "go"
          refine ⟨y, a, rfl, hy, by omega, by omega, fun H5 p5 s5 hp5 => ?_⟩
          walk_at "go"
          refine r_ixQ (sqt_s s5 hq) rfl ?_
          walk_at "go"
          refine ⟨z, b, rfl, hz2.mono s5, by omega, by omega, fun H6 p6 s6 hp6 => ?_⟩
          exact r_cat (hp5.mono s6) hp6 (by omega) fun p7 H7 s7 h7 => q H7 p7 (s5.trans (s6.trans s7)) h7
        | within =>
          rw [eqv_s, show decide (Fk.within.s = "in") = false by decide +kernel]
          walk_at "go"
          rw [eqv_s, show decide (Fk.within.s = "each") = false by decide +kernel]
          walk_at "go"
          rw [eqv_s, show decide (Fk.within.s = "some") = false by decide +kernel]
          walk_at "go"
          rw [eqv_s, show decide (Fk.within.s = "same") = false by decide +kernel]
          walk_at "go"
          refine r_ixQ hq rfl ?_
          walk_at "go"
          refine ⟨y, a, rfl, hy, by omega, by omega, fun H5 p5 s5 hp5 => ?_⟩
          walk_at "go"
          refine r_ixQ (sqt_s s5 hq) rfl ?_
          walk_at "go"
          refine ⟨z, b, rfl, hz2.mono s5, by omega, by omega, fun H6 p6 s6 hp6 => ?_⟩
          refine r_cat (hp5.mono s6) hp6 (by omega) fun p7 H7 s7 h7 => ?_
          walk_at "go"
          refine ⟨by walk_at "len", fun p8 np8 => ?_⟩
          walk_at "go"
          refine ⟨by walk_at "len", fun p9 np9 => ?_⟩
          have s8 := same_new (o := HO.tup [.str "wide", .ref p]) np8
          have s9 := same_new (o := HO.lst [.ref p8]) np9
          have sB := s5.trans (s6.trans (s7.trans (s8.trans s9)))
          have hone : RwAt K _ p9 [("wide", (Sg.fact .within a b).d)] := RwAt.one upd_same (s9 _ _ upd_same) (hv.mono sB)
          refine r_cat ((h7.mono s8).mono s9) hone (by rw [List.length_append, List.length_singleton]; omega) fun p10 H10 s10 h10 => q H10 p10 (sB.trans s10) ?_
          exact h10
        | same =>
          rw [eqv_s, show decide (Fk.same.s = "in") = false by decide +kernel]
          walk_at "go"
          rw [eqv_s, show decide (Fk.same.s = "each") = false by decide +kernel]
          walk_at "go"
          rw [eqv_s, show decide (Fk.same.s = "some") = false by decide +kernel]
          walk_at "go"
          rw [eqv_s, show decide (Fk.same.s = "same") = true by decide +kernel]
          walk_at "go"
          obtain ⟨pa, ra, rfl, hqa⟩ := tm_0 hy
          obtain ⟨pb, rb, rfl, hqb⟩ := tm_0 hz2
          have hrs : rSg (.fact .same a b) = if isNm a && isNm b then rEl a ++ rEl b else rHo a ++ rHo b ++ [(("wide", (Sg.fact .same a b).d) : Shp.Row)] := rfl
          rw [hrs] at q
          refine r_ixQ hq rfl ?_
          walk_at "go"
          refine r_ixQ hqa at0 ?_
          walk_at "go"
          rw [nm_k]
          cases hna : isNm a with
          | true =>
            rw [hna] at q
            walk_at "go"
            refine r_ixQ hq rfl ?_
            walk_at "go"
            refine r_ixQ hqb at0 ?_
            walk_at "go"
            rw [nm_k]
            cases hnb : isNm b with
            | true =>
              rw [hnb] at q
              walk_at "go"
              refine r_ixQ hq rfl ?_
              walk_at "go"
              refine ⟨.ref pa, a, rfl, hy, by omega, by omega, fun H5 p5 s5 hp5 => ?_⟩
              walk_at "go"
              refine r_ixQ (sqt_s s5 hq) rfl ?_
              walk_at "go"
              refine ⟨.ref pb, b, rfl, hz2.mono s5, by omega, by omega, fun H6 p6 s6 hp6 => ?_⟩
              exact r_cat (hp5.mono s6) hp6 (by omega) fun p7 H7 s7 h7 => q H7 p7 (s5.trans (s6.trans s7)) h7
            | false =>
              rw [hnb] at q
              walk_at "go"
              refine r_ixQ hq rfl ?_
              walk_at "go"
              refine ⟨.ref pa, a, rfl, hy, by omega, by omega, fun H5 p5 s5 hp5 => ?_⟩
              walk_at "go"
              refine r_ixQ (sqt_s s5 hq) rfl ?_
              walk_at "go"
              refine ⟨.ref pb, b, rfl, hz2.mono s5, by omega, by omega, fun H6 p6 s6 hp6 => ?_⟩
              refine r_cat (hp5.mono s6) hp6 (by omega) fun p7 H7 s7 h7 => ?_
              walk_at "go"
              refine ⟨by walk_at "len", fun p8 np8 => ?_⟩
              walk_at "go"
              refine ⟨by walk_at "len", fun p9 np9 => ?_⟩
              have s8 := same_new (o := HO.tup [.str "wide", .ref p]) np8
              have s9 := same_new (o := HO.lst [.ref p8]) np9
              have sB := s5.trans (s6.trans (s7.trans (s8.trans s9)))
              have hone : RwAt K _ p9 [("wide", (Sg.fact .same a b).d)] := RwAt.one upd_same (s9 _ _ upd_same) (hv.mono sB)
              refine r_cat ((h7.mono s8).mono s9) hone (by rw [List.length_append, List.length_singleton]; omega) fun p10 H10 s10 h10 => q H10 p10 (sB.trans s10) ?_
              exact h10
          | false =>
            rw [hna] at q
            walk_at "go"
            refine r_ixQ hq rfl ?_
            walk_at "go"
            refine ⟨.ref pa, a, rfl, hy, by omega, by omega, fun H5 p5 s5 hp5 => ?_⟩
            walk_at "go"
            refine r_ixQ (sqt_s s5 hq) rfl ?_
            walk_at "go"
            refine ⟨.ref pb, b, rfl, hz2.mono s5, by omega, by omega, fun H6 p6 s6 hp6 => ?_⟩
            refine r_cat (hp5.mono s6) hp6 (by omega) fun p7 H7 s7 h7 => ?_
            walk_at "go"
            refine ⟨by walk_at "len", fun p8 np8 => ?_⟩
            walk_at "go"
            refine ⟨by walk_at "len", fun p9 np9 => ?_⟩
            have s8 := same_new (o := HO.tup [.str "wide", .ref p]) np8
            have s9 := same_new (o := HO.lst [.ref p8]) np9
            have sB := s5.trans (s6.trans (s7.trans (s8.trans s9)))
            have hone : RwAt K _ p9 [("wide", (Sg.fact .same a b).d)] := RwAt.one upd_same (s9 _ _ upd_same) (hv.mono sB)
            refine r_cat ((h7.mono s8).mono s9) hone (by rw [List.length_append, List.length_singleton]; omega) fun p10 H10 s10 h10 => q H10 p10 (sB.trans s10) ?_
            exact h10
      | quant ea a b =>
        obtain ⟨p, y, z, rfl, hq, hy, hz2⟩ := tv_2 hv
        have hdu : max a.d.depth b.d.depth + 1 < m + 1 := by rw [← dep2 (k := if ea = true then "each" else "some")]; exact hd
        have hzu : a.sz + b.sz + 1 ≤ 1000 := hz
        have hha := rHo_len a
        have hhb := rBd_len b
        refine r_ixQ hq rfl ?_
        walk_at "go"
        rw [eqv_s, show decide ((if ea = true then ("each" : Str) else ("some" : Str)) = "not") = false by cases ea <;> decide +kernel]
        walk_at "go"
        rw [eqv_s, show decide ((if ea = true then ("each" : Str) else ("some" : Str)) = "and") = false by cases ea <;> decide +kernel]
        walk_at "go"
        rw [eqv_s, show decide ((if ea = true then ("each" : Str) else ("some" : Str)) = "or") = false by cases ea <;> decide +kernel]
        walk_at "go"
        rw [eqv_s, show decide ((if ea = true then ("each" : Str) else ("some" : Str)) = "then") = false by cases ea <;> decide +kernel]
        walk_at "go"
        rw [eqv_s, show decide ((if ea = true then ("each" : Str) else ("some" : Str)) = "in") = false by cases ea <;> decide +kernel]
        walk_at "go"
        cases ea with
        | true =>
          rw [eqv_s, show decide ((if true = true then ("each" : Str) else ("some" : Str)) = "each") = true by decide +kernel]
          walk_at "go"
          refine r_ixQ hq rfl ?_
          walk_at "go"
          refine ⟨y, a, rfl, hy, by omega, by omega, fun H5 p5 s5 hp5 => ?_⟩
          walk_at "go"
          refine r_ixQ (sqt_s s5 hq) rfl ?_
          walk_at "go"
          refine ⟨z, b, rfl, hz2.mono s5, by omega, by omega, fun H6 p6 s6 hp6 => ?_⟩
          refine r_cat (hp5.mono s6) hp6 (by omega) fun p7 H7 s7 h7 => ?_
          walk_at "go"
          refine ⟨by walk_at "len", fun p8 np8 => ?_⟩
          walk_at "go"
          refine ⟨by walk_at "len", fun p9 np9 => ?_⟩
          have s8 := same_new (o := HO.tup [.str "wide", .ref p]) np8
          have s9 := same_new (o := HO.lst [.ref p8]) np9
          have sB := s5.trans (s6.trans (s7.trans (s8.trans s9)))
          have hone : RwAt K _ p9 [("wide", (Sg.quant true a b).d)] := RwAt.one upd_same (s9 _ _ upd_same) (hv.mono sB)
          refine r_cat ((h7.mono s8).mono s9) hone (by rw [List.length_append, List.length_singleton]; omega) fun p10 H10 s10 h10 => q H10 p10 (sB.trans s10) ?_
          exact h10
        | false =>
          rw [eqv_s, show decide ((if false = true then ("each" : Str) else ("some" : Str)) = "each") = false by decide +kernel]
          walk_at "go"
          rw [eqv_s, show decide ((if false = true then ("each" : Str) else ("some" : Str)) = "some") = true by decide +kernel]
          walk_at "go"
          refine r_ixQ hq rfl ?_
          walk_at "go"
          refine r_ixQ hq rfl ?_
          walk_at "go"
          refine ⟨by walk_at "len", fun p1 np1 => ?_⟩
          walk_at "go"
          refine ⟨by walk_at "len", fun p2 np2 => ?_⟩
          have t1 := same_new (o := HO.tup [.str "not", z]) np1
          have t2 := same_new (o := HO.tup [.str "each", y, .ref p1]) np2
          have tB := t1.trans t2
          have hW : Tv K (upd (upd H p1 (.tup [.str "not", z])) p2 (.tup [.str "each", y, .ref p1])) (.ref p2) (Sg.quant true a (.not b)).d := tv_mk2 (by decide +kernel) upd_same (hy.mono tB) ((tv_mk1 (by decide +kernel) upd_same (hz2.mono t1)).mono t2)
          have hq := sqt_s tB hq
          have hy := hy.mono tB
          have hz2 := hz2.mono tB
          generalize upd (upd H p1 (.tup [.str "not", z])) p2 (.tup [.str "each", y, .ref p1]) = H2 at tB hW hq hy hz2 ⊢
          walk_at "go"
          refine r_ixQ hq rfl ?_
          walk_at "go"
          refine ⟨y, a, rfl, hy, by omega, by omega, fun H5 p5 s5 hp5 => ?_⟩
          walk_at "go"
          refine r_ixQ (sqt_s s5 hq) rfl ?_
          walk_at "go"
          refine ⟨z, b, rfl, hz2.mono s5, by omega, by omega, fun H6 p6 s6 hp6 => ?_⟩
          refine r_cat (hp5.mono s6) hp6 (by omega) fun p7 H7 s7 h7 => ?_
          walk_at "go"
          refine ⟨by walk_at "len", fun p8 np8 => ?_⟩
          walk_at "go"
          refine ⟨by walk_at "len", fun p9 np9 => ?_⟩
          have s8 := same_new (o := HO.tup [.str "wide", .ref p2]) np8
          have s9 := same_new (o := HO.lst [.ref p8]) np9
          have sB := s5.trans (s6.trans (s7.trans (s8.trans s9)))
          have hone : RwAt K _ p9 [("wide", (Sg.quant true a (.not b)).d)] := RwAt.one upd_same (s9 _ _ upd_same) (hW.mono sB)
          refine r_cat ((h7.mono s8).mono s9) hone (by rw [List.length_append, List.length_singleton]; omega) fun p10 H10 s10 h10 => q H10 p10 (tB.trans (sB.trans s10)) ?_
          exact h10
end
end K16
namespace K16
open PySem PySem.Spec PyProof.Rows L2 Lw
open Sy (Bd Sg Op Fk Jn Bk)
open Shp (rSg isNm firsts)
def spFi (K : PySem.W.Frag) : Sp := fun vs H Q _ => ∃ (p : Addr) (word : Str) (rs : List Shp.Row), vs = [.ref p, .str word] ∧ RwAt K H p rs ∧ rs.length ≤ 3000 ∧ (∀ r ∈ rs, r.2.depth ≤ 140) ∧ ∀ H' q, Same H H' → LA K H' q (firsts word rs []) → H q = none → Q (.ref q) H'
theorem paired_at {R : Addr → Shp.Row → Prop} : ∀ {as : List Addr} {rs : List Shp.Row} {i : Nat} {x : V}, Paired R as rs → (as.map V.ref)[i]? = some x → ∃ a r, x = .ref a ∧ rs[i]? = some r ∧ R a r
  | _, _, _, _, .nil, e => by simp at e
  | _, _, 0, _, .cons h _, e => by cases e; exact ⟨_, _, rfl, rfl, h⟩
  | _, _, i + 1, _, .cons _ t, e => paired_at (i := i) t (by simpa using e)
theorem firsts_take {w : Str} {rs : List Shp.Row} {i : Nat} {r : Shp.Row} (h : rs[i]? = some r) : firsts w (rs.take (i + 1)) [] = firsts w [r] (firsts w (rs.take i) []) := by
  rw [List.take_add_one, h, Shp.firsts_app]; rfl
theorem firsts_one {w k : Str} {d : PyData} {l : List PyData} (h : k = w ∧ d ∉ l) : firsts w [(k, d)] l = l ++ [d] := by
  rw [firsts, firsts, if_pos h]
theorem firsts_two {w k : Str} {d : PyData} {l : List PyData} (h : ¬ (k = w ∧ d ∉ l)) : firsts w [(k, d)] l = l := by
  rw [firsts, firsts, if_neg h]
theorem firsts_len (w : Str) : ∀ (rs : List Shp.Row) (l : List PyData), (firsts w rs l).length ≤ l.length + rs.length := by
  intro rs
  induction rs with
  | nil => exact fun l => Nat.le_refl _
  | cons r rs ih =>
    intro l
    obtain ⟨k, d⟩ := r
    by_cases hk : k = w ∧ d ∉ l
    · rw [firsts, if_pos hk]
      have := ih (l ++ [d])
      rw [List.length_append, List.length_singleton] at this
      rw [List.length_cons]; omega
    · rw [firsts, if_neg hk]
      have := ih l
      rw [List.length_cons]; omega
section
variable {P : Program} {w : World} {K : PySem.W.Frag} {mg : Str → Option Value} {base : Heap}
theorem ok_firsts {f : Addr} {fd : FuncData} (B : Blt mg) (D : Dn K mg "_law_firsts" s__law_firsts ["rows", "word"] f fd) : FnOk P w K mg base CX0 1 f fd ["rows", "word"] (spFi K) := by
  refine D.F.ok (k := 0) sc__law_firsts (fun vs H Q E h => ?_) (fun cdv A outer s H vs Q E hr h => ?_)
  · obtain ⟨p, word, rs, rfl, _⟩ := h
    rfl
  · obtain ⟨p, word, rs, rfl, ⟨as, hp, hpr⟩, hl, hdp, q⟩ := h
    refine ⟨_, (pss_cons (ps_set (i := 2) sc__law_firsts.nd rfl (.inl rfl) (pe_lst pa_nil))
      (pss_cons (ps_for PassesOwn.never rfl (pi_listK (K := K) rfl (pv 0)) (pg_tupK (K := K) (n := 2) rfl rfl (pgs_cons (pg_name (i := 3) sc__law_firsts.nd rfl (.inl rfl)) (pgs_cons (pg_name (i := 4) sc__law_firsts.nd rfl (.inl rfl)) pgs_nil))) (pss_one (ps_if (PW.pt (pw_and (pt_cmpR op_eq (pv 3) (pv 1) (nomark _)) (pw_and1 (pt_cmpR (op_notInLDK (K := K) rfl hr) (pv 4) (pv 2) (by rfl))))) (pss_one (ps_expr (pe_bmK (K := K) rfl PySem.F.plainAttrs_list PySem.F.slot_list_append PySem.F.type_list_append mt_append (pv 2) (pa_cons (pv 4) pa_nil)))) pss_nil)))
      (pss_one (ps_ret (pv 2))))), ?_⟩
    have hasl := Paired.length hpr
    walk_at "begin"
    walk_at "go"
    refine ⟨by walk_at "len", fun D nD => ?_⟩
    have s1 := same_new (o := HO.lst []) nD
    have hD : LA K (upd H D (.lst [])) D (firsts word (rs.take 0) []) := ⟨[], upd_same, .nil, fun d hd => nomatch hd⟩
    generalize upd H D (.lst []) = H1 at s1 hD ⊢
    walk_at "go"
    refine r_forL (s1 _ _ hp) (fun i σ H2 => ∃ (y3 y4 : Option V), σ = [some (.ref p), some (.str word), some (.ref D), y3, y4] ∧ Same H H2 ∧ LA K H2 D (firsts word (rs.take i) [])) ?_ ?_ ?_ ?_
    · exact ⟨_, _, rfl, s1, hD⟩
    · rintro i σ H2 hi ⟨y3, y4, _, s2, _⟩
      exact s2 _ _ hp
    · rintro i x σ H2 hx ⟨y3, y4, rfl, s2, h2⟩
      obtain ⟨a, ⟨k, d⟩, rfl, hr, v, ha, hv⟩ := paired_at hpr hx
      have hi := (List.getElem?_eq_some_iff.mp hr).1
      have hd := hdp _ (List.mem_of_getElem? hr)
      have hfl := firsts_len word (rs.take i) []
      rw [List.length_take] at hfl
      refine r_tup (SqT.of (s2 _ _ ha)) rfl ?_
      walk_at "go"
      rw [eqv_s]
      have hf := firsts_take (w := word) hr
      by_cases hk : k = word
      · rw [decide_eq_true hk]
        walk_at "go"
        refine r_notInLA h2 (hv.mono s2) hd fun b hb => ?_
        cases b with
        | true =>
          obtain ⟨vs, hvs, hvl⟩ := h2.len
          have hz9 : vs.length < sizeLine := small (by simp only [List.length_nil] at hfl; omega)
          walk_at "go"
          refine ⟨_, _, rfl, same_off nD s2, ?_⟩
          rw [hf, firsts_one ⟨hk, hb.mp rfl⟩]
          exact h2.push hvs (hv.mono s2) hd
        | false =>
          walk_at "go"
          refine ⟨_, _, rfl, s2, ?_⟩
          rw [hf, firsts_two (fun z => Bool.false_ne_true (hb.mpr z.2))]
          exact h2
      · rw [decide_eq_false hk]
        walk_at "go"
        refine ⟨_, _, rfl, s2, ?_⟩
        rw [hf, firsts_two (fun z => hk z.1)]
        exact h2
    · rintro σ H2 ⟨y3, y4, rfl, s2, h2⟩
      rw [List.length_map, hasl, List.take_length] at h2
      walk_at "go"
      exact q H2 D s2 h2 nD
theorem rd_outer2 {f : Addr} {fd : FuncData} (B : Blt mg) (D : Dn K mg "_law_outer" s__law_outer ["term"] f fd) : ∀ n, FnOk P w K mg base CX0 (1 + n) f fd ["term"] (spOut K n)
  | 0 => ⟨fun vs H Q E h => (by obtain ⟨v, t, rfl, _⟩ := h; rfl), fun A outer s H args us vs Q E hr e0 hb r h => (by obtain ⟨v, t, _, _, hd, _⟩ := h; exact absurd hd (Nat.not_lt_zero _))⟩
  | n + 1 => by
    have ih := rd_outer2 B D n
    refine D.F.ok (k := 1 + n) sc__law_outer (fun vs H Q E h => ?_) (fun cdv A outer s H vs Q E hr h => ?_)
    · obtain ⟨v, t, rfl, _⟩ := h
      rfl
    · obtain ⟨v, t, rfl, hv, hd, hz, q⟩ := h
      refine ⟨_, (pss_cons (ps_if (pt_cmpR op_eq (pe_ix (ix_tupK (K := K) rfl) (pv 0) pe_int (fun _ _ => rfl)) pe_str (nomark _)) (pss_one (ps_ret (pe_lst (pa_cons (pe_ix (ix_tupK (K := K) rfl) (pv 0) pe_int (fun _ _ => rfl)) pa_nil)))) pss_nil)
      (pss_cons (ps_if (PW.pt (pw_or (pt_cmpR op_eq (pe_ix (ix_tupK (K := K) rfl) (pv 0) pe_int (fun _ _ => rfl)) pe_str (nomark _)) (pw_or1 (pt_cmpR op_eq (pe_ix (ix_tupK (K := K) rfl) (pv 0) pe_int (fun _ _ => rfl)) pe_str (nomark _))))) (pss_one (ps_ret (pe_lst pa_nil))) pss_nil)
      (pss_one (ps_ret (pe_op op_cat (pe_call ih (hr.mono (Nat.le_refl _)) (by rfl) D.g D.F.kp D.b .nil pass0 (pa_cons (pe_ix (ix_tupK (K := K) rfl) (pv 0) pe_int (fun _ _ => rfl)) pa_nil)) (pe_call ih (hr.mono (Nat.le_refl _)) (by rfl) D.g D.F.kp D.b .nil pass0 (pa_cons (pe_ix (ix_tupK (K := K) rfl) (pv 0) pe_int (fun _ _ => rfl)) pa_nil))))))), ?_⟩
      walk_at "begin"
      walk_at "go"
      cases t with
      | name x =>
        obtain ⟨p, y, rfl, hq, hy⟩ := dp_1 hv.1
        cases hy
        refine r_ixQ hq rfl ?_
        walk_at "go"
        rw [eqv_s, show decide (("name" : Str) = "name") = true by decide +kernel]
        walk_at "go"
        refine r_ixQ hq rfl ?_
        walk_at "go"
        refine ⟨by walk_at "len", fun p np => ?_⟩
        exact q _ p (same_new np) upd_same np
      | none =>
        obtain ⟨p, rfl, hq⟩ := dp_0 hv.1
        refine r_ixQ hq rfl ?_
        walk_at "go"
        rw [eqv_s, show decide (("none" : Str) = "name") = false by decide +kernel]
        walk_at "go"
        refine r_ixQ hq rfl ?_
        walk_at "go"
        rw [eqv_s, show decide (("none" : Str) = "none") = true by decide +kernel]
        walk_at "go"
        refine ⟨by walk_at "len", fun p np => ?_⟩
        exact q _ p (same_new np) upd_same np
      | just u =>
        obtain ⟨p, y, rfl, hq, hy⟩ := dp_1 hv.1
        refine r_ixQ hq rfl ?_
        walk_at "go"
        rw [eqv_s, show decide (("just" : Str) = "name") = false by decide +kernel]
        walk_at "go"
        refine r_ixQ hq rfl ?_
        walk_at "go"
        rw [eqv_s, show decide (("just" : Str) = "none") = false by decide +kernel]
        walk_at "go"
        refine r_ixQ hq rfl ?_
        walk_at "go"
        rw [eqv_s, show decide (("just" : Str) = "just") = true by decide +kernel]
        walk_at "go"
        refine ⟨by walk_at "len", fun p np => ?_⟩
        exact q _ p (same_new np) upd_same np
      | bin o a b =>
        obtain ⟨p, y, z, rfl, hq, hy, hz2⟩ := tv_2 hv
        have hdd : max a.d.depth b.d.depth + 1 < n + 1 := by rw [← dep2 (k := o.s)]; exact hd
        have hzz : (Shp.outer a).length + (Shp.outer b).length ≤ 10000 := by rw [← List.length_append]; exact hz
        refine r_ixQ hq rfl ?_
        walk_at "go"
        rw [eqv_s, show decide (o.s = "name") = false by cases o <;> decide +kernel]
        walk_at "go"
        refine r_ixQ hq rfl ?_
        walk_at "go"
        rw [eqv_s, show decide (o.s = "none") = false by cases o <;> decide +kernel]
        walk_at "go"
        refine r_ixQ hq rfl ?_
        walk_at "go"
        rw [eqv_s, show decide (o.s = "just") = false by cases o <;> decide +kernel]
        walk_at "go"
        refine r_ixQ hq rfl ?_
        walk_at "go"
        refine ⟨y, a, rfl, hy, by omega, by omega, fun H1 p1 s1 hp1 np1 => ?_⟩
        walk_at "go"
        refine r_ixQ (sqt_s s1 hq) rfl ?_
        walk_at "go"
        refine ⟨z, b, rfl, hz2.mono s1, by omega, by omega, fun H2 p2 s2 hp2 np2 => ?_⟩
        refine ⟨p1, p2, _, _, rfl, rfl, s2 _ _ hp1, hp2, Nat.le_of_lt (small (by rw [List.length_map, List.length_map]; omega)), fun p3 np3 => ?_⟩
        refine q _ p3 (s1.trans (s2.trans (same_new np3))) (by rw [upd_same, ← List.map_append]; rfl) ?_
        cases e : H p3 with
        | none => rfl
        | some o2 => rw [s2 _ _ (s1 _ _ e)] at np3; cases np3
end
end K16
namespace K16
open PySem PySem.Spec PyProof.Rows L2 Lw
open Sy (Bd Sg Op Fk Jn Bk)
open Shp (rSg isNm firsts)
def DueAt (K : PySem.W.Frag) (H : Hp) (p : Addr) (s : Sg) : Prop := ∃ (e hl w al fl : Addr) (hs l : List Str), H p = some (.lst [.ref e, .ref hl, .ref w, .ref al, .ref fl]) ∧ LA K H e ((Shp.G.sg s Shp.G0).el.map Sy.Tm.d) ∧ LA K H w (Shp.G.sg s Shp.G0).wi ∧
  H al = some (.lst ((ix (Shp.G.sg s Shp.G0).el fun t => decide (t ∈ (Shp.G.sg s Shp.G0).as)).map V.int)) ∧ hs = Ak.sortT l ∧ l.Nodup ∧ (∀ y, y ∈ l ↔ y ∈ Shp.hoNs (Shp.G.sg s Shp.G0)) ∧ H hl = some (.lst (hs.map V.str)) ∧ H fl = some (.lst ((ix (Shp.G.sg s Shp.G0).el (frT hs)).map V.int))
def spDue (K : PySem.W.Frag) (n : Nat) : Sp := fun vs H Q _ => ∃ (v : V) (s : Sg), vs = [v] ∧ Tv K H v s.d ∧ s.d.depth < n ∧ s.sz ≤ 200 ∧ ∀ H' p, Same H H' → DueAt K H' p s → Q (.ref p) H'
theorem kp_kx {H H' : Hp} {D : Addr} {ys : List V} (h : H D = some (.lst ys)) (k : Kp (· = D) H H') : KX H H' := fun c o e n => k c o e fun z => by rw [show c = D from z, h] at e; cases e; exact n _ rfl
def c2 (G : Shp.G) (t : Sy.Tm) : Bool := !isNm t || !G.as.isEmpty
theorem onum_filter (p : Sy.Tm → Bool) : ∀ l : List Sy.Tm, Shp.onum (l.filter p) ≤ Shp.onum l
  | [] => Nat.le_refl _
  | t :: l => by
    have h := onum_filter p l
    have e : Shp.onum (t :: l) = (Shp.outer t).length + Shp.onum l := rfl
    rw [List.filter_cons, e]
    split
    · have e2 : Shp.onum (t :: l.filter p) = (Shp.outer t).length + Shp.onum (l.filter p) := rfl
      omega
    · omega
theorem as_pos {s : Sg} {G : Shp.G} (hrel : Shp.Rel (rSg s) Shp.G0 G) : (firsts "asked" (rSg s) [] = []) ↔ G.as = [] := by
  constructor
  · intro e
    cases hg : G.as with
    | nil => rfl
    | cons t r =>
      have := (Shp.as_firsts hrel t).mp (by rw [hg]; exact List.mem_cons_self)
      rw [e] at this; cases this
  · intro e
    cases hf : firsts "asked" (rSg s) [] with
    | nil => rfl
    | cons d r =>
      have hd : d ∈ firsts "asked" (rSg s) [] := by rw [hf]; exact List.mem_cons_self
      rcases (Shp.firsts_mem _ _).mp hd with z | z
      · cases z
      · obtain ⟨t, ht, _⟩ := Shp.rSg_in Shp.s6 z
        rw [ht] at hd
        have := (Shp.as_firsts hrel t).mpr hd
        rw [e] at this; cases this
section
variable {P : Program} {w : World} {K : PySem.W.Frag} {mg : Str → Option Value} {base : Heap}
theorem ok_due {n : Nat} {f f1 f2 f3 : Addr} {fd fd1 fd2 fd3 : FuncData} (B : Blt mg) (D : Dn K mg "_law_due" s__law_due ["saying"] f fd) (D_law_rows : Dn K mg "_law_rows" s__law_rows ["saying"] f1 fd1) (G_law_rows : FnOk P w K mg base CX0 (1 + n + 1 + n + n) f1 fd1 ["saying"] (spSr K n))
    (D_law_firsts : Dn K mg "_law_firsts" s__law_firsts ["rows", "word"] f2 fd2) (G_law_firsts : FnOk P w K mg base CX0 1 f2 fd2 ["rows", "word"] (spFi K)) (D_law_outer : Dn K mg "_law_outer" s__law_outer ["term"] f3 fd3) (G_law_outer : FnOk P w K mg base CX0 (1 + n) f3 fd3 ["term"] (spOut K n)) (hn : n ≤ 130) : FnOk P w K mg base CX0 (1 + n + 1 + n + n + 1) f fd ["saying"] (spDue K n) := by
  refine D.F.ok (k := 1 + n + 1 + n + n) sc__law_due (fun vs H Q E h => ?_) (fun cdv A outer s H vs Q E hr h => ?_)
  · obtain ⟨v, s, rfl, _⟩ := h
    rfl
  · obtain ⟨v, s, rfl, hv, hd, hz, q⟩ := h
    refine ⟨_, (pss_cons (ps_set (i := 1) sc__law_due.nd rfl (.inl rfl) (pe_call G_law_rows (hr.mono (by omega)) (by rfl) D_law_rows.g D_law_rows.F.kp D_law_rows.b .nil pass0 (pa_cons (pv 0) pa_nil)))
      (pss_cons (ps_set (i := 2) sc__law_due.nd rfl (.inr rfl) (pe_call G_law_firsts (hr.mono (by omega)) (by rfl) D_law_firsts.g D_law_firsts.F.kp D_law_firsts.b .nil pass0 (pa_cons (pv 1) (pa_cons pe_str pa_nil))))
      (pss_cons (ps_set (i := 3) sc__law_due.nd rfl (.inr rfl) (pe_call G_law_firsts (hr.mono (by omega)) (by rfl) D_law_firsts.g D_law_firsts.F.kp D_law_firsts.b .nil pass0 (pa_cons (pv 1) (pa_cons pe_str pa_nil))))
      (pss_cons (ps_set (i := 4) sc__law_due.nd rfl (.inl rfl) (pe_lst pa_nil))
      (pss_cons (ps_for PassesOwn.never rfl (pi_listK (K := K) rfl (pe_call G_law_firsts (hr.mono (by omega)) (by rfl) D_law_firsts.g D_law_firsts.F.kp D_law_firsts.b .nil pass0 (pa_cons (pv 1) (pa_cons pe_str pa_nil)))) (pg_name (i := 5) sc__law_due.nd rfl (.inl rfl)) (pss_one (ps_expr (pe_bmK (K := K) rfl PySem.F.plainAttrs_list PySem.F.slot_list_extend PySem.F.type_list_extend mt_extend (pv 4) (pa_cons (pe_call G_law_outer (hr.mono (by omega)) (by rfl) D_law_outer.g D_law_outer.F.kp D_law_outer.b .nil pass0 (pa_cons (pv 5) pa_nil)) pa_nil)))))
      (pss_cons (ps_for PassesOwn.never rfl (pi_listK (K := K) rfl (pv 2)) (pg_name (i := 5) sc__law_due.nd rfl (.inl rfl)) (pss_one (ps_if (PW.pt (pw_or (pt_cmpR op_ne (pe_ix (ix_tupK (K := K) rfl) (pv 5) pe_int (fun _ _ => rfl)) pe_str (nomark _)) (pw_or1 (pt_cmpR op_gt (pe_callB (call_len_seqK (K := K) rfl) (by rfl) B.m_len PySem.boot_len (pa_cons (pv 3) pa_nil)) pe_int (nomark _))))) (pss_one (ps_expr (pe_bmK (K := K) rfl PySem.F.plainAttrs_list PySem.F.slot_list_extend PySem.F.type_list_extend mt_extend (pv 4) (pa_cons (pe_call G_law_outer (hr.mono (by omega)) (by rfl) D_law_outer.g D_law_outer.F.kp D_law_outer.b .nil pass0 (pa_cons (pv 5) pa_nil)) pa_nil)))) pss_nil)))
      (pss_cons (ps_set (i := 6) sc__law_due.nd rfl (.inr rfl) (pe_callB (cr_sortedST rfl) (by rfl) B.m_sorted (by decide +kernel) (pa_cons (pe_callTy (cr_setT (K := K) rfl rfl) (by rfl) B.m_set (by decide +kernel) (pa_cons (pe_lc (own := [("name", 10)]) rfl sc__law_due.nd (pi_listK (K := K) rfl (pv 4)) (blkOk_by (own := [("name", 10)]) (by kernel_rfl))
        (fun _ _ _ _ _ => (pg_name (i := 10) sc__law_due.nd rfl (.inl rfl))) (fun _ _ _ _ _ => pts_nil)
        (fun _ _ _ _ _ => (pe_callTy call_strS (by rfl) B.m_str (by decide +kernel) (pa_cons (pv 10) pa_nil)))) pa_nil)) pa_nil)))
      (pss_cons (ps_setLc (i := 7) (own := [("k", 9)]) rfl sc__law_due.nd rfl rfl (sw_true rfl rfl rfl (by decide +kernel)) (pi_range1 (by rfl) B.m_range (pa_cons (pe_callB (call_len_seqK (K := K) rfl) (by rfl) B.m_len PySem.boot_len (pa_cons (pv 2) pa_nil)) pa_nil)) (blkOk_by (own := [("k", 9)]) (by kernel_rfl))
        (fun _ _ _ _ _ => (pg_name (i := 9) sc__law_due.nd rfl (.inl rfl))) (fun _ _ _ _ _ => (pts_one (pt_cmpR (op_inLDK (K := K) rfl hr) (pe_ix (ix_listK (K := K) rfl) (pv 2) (pv 9) (fun _ _ => rfl)) (pv 3) (by rfl))))
        (fun _ _ _ _ _ => (pv 9)))
      (pss_cons (ps_setLc (i := 8) (own := [("k", 9)]) rfl sc__law_due.nd rfl rfl (sw_true rfl rfl rfl (by decide +kernel)) (pi_range1 (by rfl) B.m_range (pa_cons (pe_callB (call_len_seqK (K := K) rfl) (by rfl) B.m_len PySem.boot_len (pa_cons (pv 2) pa_nil)) pa_nil)) (blkOk_by (own := [("k", 9)]) (by kernel_rfl))
        (fun _ _ _ _ _ => (pg_name (i := 9) sc__law_due.nd rfl (.inl rfl))) (fun _ _ _ _ _ => (pts_one (PW.pt (pw_and (pt_cmpR op_eq (pe_ix (ix_tupK (K := K) rfl) (pe_ix (ix_listK (K := K) rfl) (pv 2) (pv 9) (fun _ _ => rfl)) pe_int (fun _ _ => rfl)) pe_str (nomark _)) (pw_and1 (pt_cmpR (op_notIn_seqK (K := K) rfl) (pe_ix (ix_tupK (K := K) rfl) (pe_ix (ix_listK (K := K) rfl) (pv 2) (pv 9) (fun _ _ => rfl)) pe_int (fun _ _ => rfl)) (pv 6) (by rfl)))))))
        (fun _ _ _ _ _ => (pv 9)))
      (pss_one (ps_ret (pe_lst (pa_cons (pv 2) (pa_cons (pv 6) (pa_cons (pe_call G_law_firsts (hr.mono (by omega)) (by rfl) D_law_firsts.g D_law_firsts.F.kp D_law_firsts.b .nil pass0 (pa_cons (pv 1) (pa_cons pe_str pa_nil))) (pa_cons (pv 7) (pa_cons (pv 8) pa_nil))))))))))))))))), ?_⟩
    have hrel := Shp.Rel.sg s Shp.G0
    have hge := Shp.sg_e s Shp.G0
    have hgo := Shp.sg_on s Shp.G0
    have hen := Shp.sg_en s Shp.G0
    have hns := Shp.ns_sz s
    have hoR := Shp.oR_sg s
    have hrl := rSg_len s
    have hdr : ∀ r ∈ rSg s, r.2.depth ≤ 140 := fun r hr => by have := Shp.rSg_dep (k := r.1) (d := r.2) hr; omega
    have e00 : Shp.G0.el.length = 0 := rfl
    have e01 : Shp.onum Shp.G0.ho = 0 := rfl
    have e02 : Shp.en Shp.G0.el = 0 := rfl
    walk_at "begin"
    walk_at "go"
    refine ⟨v, s, rfl, hv, hd, by omega, fun H1 pr s1 hr1 => ?_⟩
    walk_at "go"
    refine ⟨pr, "element", rSg s, rfl, hr1, by omega, hdr, fun H2 pe s2 he _ => ?_⟩
    have hel : firsts "element" (rSg s) [] = (Shp.G.sg s Shp.G0).el.map Sy.Tm.d := hrel.el.symm
    rw [hel] at he
    walk_at "go"
    refine ⟨pr, "asked", rSg s, rfl, hr1.mono s2, by omega, hdr, fun H3 pa s3 ha _ => ?_⟩
    have hr3 := (hr1.mono s2).mono s3
    have he3 := he.mono s3
    have s03 := s1.trans (s2.trans s3)
    have hap := as_pos hrel
    have haf := Shp.as_firsts hrel
    unfold DueAt at q
    generalize hGG : Shp.G.sg s Shp.G0 = GG at hrel hge hgo hen he3 hap haf hel q ⊢
    have helb : ∀ t ∈ GG.el, t.d.depth ≤ s.d.depth := fun t ht => by
      have hm : t.d ∈ firsts "element" (rSg s) [] := by rw [hel]; exact List.mem_map.mpr ⟨t, ht, rfl⟩
      rcases (Shp.firsts_mem _ _).mp hm with z | z
      · cases z
      · obtain ⟨u, hu, hu2, _⟩ := Shp.rSg_in Shp.s1 z
        rw [hu]; exact hu2
    clear s1 s2 s3 hr1 he hel
    walk_at "go"
    refine ⟨by walk_at "len", fun D nD => ?_⟩
    have s4 := same_new (o := HO.lst []) nD
    have hD4 : (upd H3 D (.lst [])) D = some (.lst (([] : List Str).map V.str)) := upd_same
    generalize upd H3 D (.lst []) = H4 at s4 hD4 ⊢
    walk_at "go"
    refine ⟨pr, "holding", rSg s, rfl, hr3.mono s4, by omega, hdr, fun H5 ph s5 hh nh => ?_⟩
    obtain ⟨ts, hts, htb⟩ := Shp.as_tms (N := s.ns) (s := s.d) (firsts "holding" (rSg s) []) fun d hd => by
      rcases (Shp.firsts_mem _ _).mp hd with z | z
      · cases z
      · exact Shp.rSg_in Shp.s4 z
    have hosum : Shp.onum ts ≤ s.ns.length := by
      have := Shp.oS_firsts (rSg s) []
      rw [hts, Shp.oS_map] at this
      have e0 : Shp.oS [] = 0 := rfl
      omega
    rw [hts] at hh
    have hDph : ph ≠ D := fun z => by rw [z, hD4] at nh; cases nh
    have hD5 := s5 _ _ hD4
    obtain ⟨vh, hvh, hvl⟩ := hh.len
    rw [List.length_map] at hvl
    walk_at "go"
    refine r_forL hvh (fun i σ H' => ∃ (y5 : Option V), σ = [some v, some (.ref pr), some (.ref pe), some (.ref pa), some (.ref D), y5, none, none, none, none, none] ∧ Kp (· = D) H5 H' ∧ H' D = some (.lst ((((ts.take i).map Shp.outer).flatten).map V.str))) ?_ ?_ ?_ ?_
    · exact ⟨_, rfl, Kp.of (Same.refl _), hD5⟩
    · rintro i σ H' hi ⟨y5, _, k, _⟩
      exact k _ _ hvh hDph
    · rintro i x σ H' hx ⟨y5, rfl, k, hD'⟩
      obtain ⟨t, htt, hvt, hdt⟩ := la_at hh hvh hx
      have htb' := (htb t (List.mem_of_getElem? htt)).1
      have ho1 := onum_take ts i
      have ho2 := onum_take ts (i + 1)
      rw [← onum_fl (ts.take (i + 1)), fl_take Shp.outer htt, List.length_append, onum_fl] at ho2
      walk_at "go"
      refine ⟨x, t, rfl, hvt.kx (kp_kx hD5 k), by omega, by omega, fun H6 p6 s6 hp6 np6 => ?_⟩
      refine ⟨D, p6, _, _, rfl, rfl, s6 _ _ hD', hp6, Nat.le_of_lt (small (by rw [List.length_map, List.length_map, onum_fl]; omega)), ?_⟩
      walk_at "go"
      exact ⟨_, rfl, (k.trans (Kp.of s6)).trans (Kp.put rfl), by rw [upd_same, fl_take Shp.outer htt, List.map_append]⟩
    rintro σ H6 ⟨y5, rfl, k6, hD6⟩
    rw [hvl, List.take_length] at hD6
    have hne : ∀ {c : Addr} {o : HO}, H3 c = some o → c ≠ D := fun {c o} e z => by rw [z, nD] at e; cases e
    have s36 : Same H3 H6 := fun c o e => k6 c o (s5 _ _ (s4 _ _ e)) (hne e)
    have he6 := he3.mono s36
    have ha6 := ha.mono s36
    have hr6 := hr3.mono s36
    have hva3 : ∃ o, H3 pa = some o := by obtain ⟨o, ho, _⟩ := ha; exact ⟨_, ho⟩
    have hvr3 : ∃ o, H3 pr = some o := by obtain ⟨o, ho, _⟩ := hr3; exact ⟨_, ho⟩
    have hve3 : ∃ o, H3 pe = some o := by obtain ⟨o, ho, _⟩ := he3; exact ⟨_, ho⟩
    clear hh nh hvh hvl hD5 hDph k6 hD4 s4 s5 he3 hr3
    obtain ⟨ve, hve, hvel⟩ := he6.len
    rw [List.length_map] at hvel
    obtain ⟨va, hva, hval⟩ := ha6.len
    walk_at "go"
    refine r_forL hve (fun i σ H' => ∃ (y5 : Option V), σ = [some v, some (.ref pr), some (.ref pe), some (.ref pa), some (.ref D), y5, none, none, none, none, none] ∧ Kp (· = D) H6 H' ∧ H' D = some (.lst (((ts.map Shp.outer).flatten ++ (((GG.el.take i).filter (c2 GG)).map Shp.outer).flatten).map V.str))) ?_ ?_ ?_ ?_
    · exact ⟨_, rfl, Kp.of (Same.refl _), by rw [hD6, List.take_zero]; simp⟩
    · rintro i σ H' hi ⟨y5, _, k, _⟩
      exact k _ _ hve (hne hve3.choose_spec)
    · rintro i x σ H' hx ⟨y5, rfl, k, hD'⟩
      obtain ⟨t, htt, hvt, hdt⟩ := la_at he6 hve hx
      have hvt' := hvt.kx (kp_kx hD6 k)
      have hva' := k _ _ hva (hne hva3.choose_spec)
      have hob := onum_filter (c2 GG) GG.el
      have hoe := Shp.onum_el GG.el
      have ho1 := onum_take GG.el i
      have ho3 := onum_filter (c2 GG) (GG.el.take i)
      have hofl := onum_fl ts
      have hto : (Shp.outer t).length ≤ Shp.onum GG.el := by
        have := onum_take GG.el (i + 1)
        rw [← onum_fl, fl_take Shp.outer htt, List.length_append] at this
        omega
      obtain ⟨pt, rt, rfl, hqt⟩ := tm_0 hvt'
      have hlen : ((((ts.map Shp.outer).flatten ++ (((GG.el.take i).filter (c2 GG)).map Shp.outer).flatten).map V.str)).length + ((Shp.outer t).map V.str).length ≤ sizeLine := Nat.le_of_lt (small (by rw [List.length_map, List.length_map, List.length_append, onum_fl, onum_fl]; omega))
      have hdt2 : t.d.depth < n := by have := helb t (List.mem_of_getElem? htt); omega
      have hext : c2 GG t = true → ∀ H7, Same H' H7 → Kp (· = D) H6 (upd H7 D (.lst ((((ts.map Shp.outer).flatten ++ (((GG.el.take i).filter (c2 GG)).map Shp.outer).flatten).map V.str) ++ (Shp.outer t).map V.str))) ∧
          (upd H7 D (.lst ((((ts.map Shp.outer).flatten ++ (((GG.el.take i).filter (c2 GG)).map Shp.outer).flatten).map V.str) ++ (Shp.outer t).map V.str))) D = some (.lst (((ts.map Shp.outer).flatten ++ (((GG.el.take (i + 1)).filter (c2 GG)).map Shp.outer).flatten).map V.str)) := by
        intro hc H7 s7
        refine ⟨(k.trans (Kp.of s7)).trans (Kp.put rfl), ?_⟩
        rw [upd_same, fl_put htt hc, List.map_append (l₂ := [t]), List.flatten_append, ← List.append_assoc, List.map_append (l₂ := ([t].map Shp.outer).flatten)]
        simp
      walk_at "go"
      refine r_ixQ hqt at0 ?_
      walk_at "go"
      have hskip : c2 GG t = false → (((GG.el.take (i + 1)).filter (c2 GG)).map Shp.outer).flatten = (((GG.el.take i).filter (c2 GG)).map Shp.outer).flatten := fun hc => by rw [fl_skip htt hc]
      rw [nm_k]
      cases hnm : isNm t with
      | false =>
        walk_at "go"
        have hc2 : c2 GG t = true := by unfold c2; rw [hnm]; rfl
        refine ⟨_, t, rfl, hvt', hdt2, by omega, fun H7 p7 s7 hp7 np7 => ?_⟩
        refine ⟨D, p7, _, _, rfl, rfl, s7 _ _ hD', hp7, hlen, ?_⟩
        walk_at "go"
        exact ⟨_, rfl, (hext hc2 H7 s7).1, (hext hc2 H7 s7).2⟩
      | true =>
        walk_at "go"
        refine r_ite (fun zz => ?_) (fun zz => ?_)
        · walk_at "go"
          have hc2 : c2 GG t = true := by
            unfold c2
            have : GG.as ≠ [] := fun e => by
              rw [hap.mpr e] at hval
              rw [hval] at zz
              exact absurd zz (by simp)
            cases hh : GG.as with
            | nil => exact absurd hh this
            | cons a b => rw [hnm]; rfl
          refine ⟨_, t, rfl, hvt', hdt2, by omega, fun H7 p7 s7 hp7 np7 => ?_⟩
          refine ⟨D, p7, _, _, rfl, rfl, s7 _ _ hD', hp7, hlen, ?_⟩
          walk_at "go"
          exact ⟨_, rfl, (hext hc2 H7 s7).1, (hext hc2 H7 s7).2⟩
        · walk_at "go"
          refine ⟨_, rfl, k, ?_⟩
          rw [hskip]
          · exact hD'
          · unfold c2
            have : GG.as = [] := hap.mp (List.eq_nil_of_length_eq_zero (by omega))
            rw [hnm, this]; rfl
    rintro σ H7 ⟨y5, rfl, k7, hD7⟩
    rw [hvel, List.take_length] at hD7
    have s37 : Same H3 H7 := fun c o e => k7 c o (s36 _ _ e) (hne e)
    have he7 : LA K H7 pe (GG.el.map Sy.Tm.d) := he6.kx (kp_kx hD6 k7) fun o ho => k7 _ _ ho (hne hve3.choose_spec)
    have ha7 : LA K H7 pa (firsts "asked" (rSg s) []) := ha6.kx (kp_kx hD6 k7) fun o ho => k7 _ _ ho (hne hva3.choose_spec)
    have hr7 : RwAt K H7 pr (rSg s) := by
      obtain ⟨as, q1, q2⟩ := hr6
      have hrp : pr ≠ D := hne hvr3.choose_spec
      exact ⟨as, k7 _ _ q1 hrp, Paired.mapP q2 fun a r hra => by
        obtain ⟨u, u1, u2⟩ := hra
        exact ⟨u, k7 _ _ u1 (fun z => by rw [show a = D from z, hD6] at u1; cases u1), u2.kx (kp_kx hD6 k7)⟩⟩
    have hmem : ∀ y, y ∈ (ts.map Shp.outer).flatten ++ ((GG.el.filter (c2 GG)).map Shp.outer).flatten ↔ y ∈ Shp.hoNs GG := by
      intro y
      rw [Shp.hold_iff hrel y, List.mem_append, List.mem_flatten, List.mem_flatten]
      constructor
      · rintro (⟨l, hl, hy⟩ | ⟨l, hl, hy⟩)
        · obtain ⟨t, ht, rfl⟩ := List.mem_map.mp hl
          have hm : t.d ∈ firsts "holding" (rSg s) [] := by rw [hts]; exact List.mem_map.mpr ⟨t, ht, rfl⟩
          rcases (Shp.firsts_mem _ _).mp hm with z | z
          · cases z
          · exact .inl ⟨t, z, hy⟩
        · obtain ⟨t, ht, rfl⟩ := List.mem_map.mp hl
          obtain ⟨h1, h2⟩ := List.mem_filter.mp ht
          refine .inr ⟨t, h1, ?_, hy⟩
          unfold c2 at h2
          rw [Bool.or_eq_true] at h2
          rcases h2 with h2 | h2
          · exact .inl (by simpa using h2)
          · exact .inr (fun e => by rw [e] at h2; simp at h2)
      · rintro (⟨t, ht, hy⟩ | ⟨t, ht, ho, hy⟩)
        · have hm : t.d ∈ firsts "holding" (rSg s) [] := (Shp.firsts_mem _ _).mpr (.inr ht)
          rw [hts] at hm
          exact .inl ⟨_, List.mem_map.mpr ⟨t, Shp.d_mem.mp hm, rfl⟩, hy⟩
        · refine .inr ⟨_, List.mem_map.mpr ⟨t, List.mem_filter.mpr ⟨ht, ?_⟩, rfl⟩, hy⟩
          unfold c2
          rcases ho with ho | ho
          · rw [ho]; rfl
          · cases hh : GG.as with
            | nil => exact absurd hh ho
            | cons a b => simp
    have hnl : ((ts.map Shp.outer).flatten ++ ((GG.el.filter (c2 GG)).map Shp.outer).flatten).length ≤ 1000 := by
      have h1 := onum_filter (c2 GG) GG.el
      have h2 := Shp.onum_el GG.el
      rw [List.length_append, onum_fl, onum_fl]
      omega
    generalize (ts.map Shp.outer).flatten ++ ((GG.el.filter (c2 GG)).map Shp.outer).flatten = nm at hD7 hmem hnl
    clear he6 ha6 hr6 hve hva hvel hval k7 hD6 s36
    walk_at "go"
    refine lcT_list topH (s0 := ()) trivial hD7 (fun i C acc => acc = (nm.take i).map V.str) rfl ?_ ?_
    · rintro D8 i x8 _ C8 acc _ hD8 hS8 hx8 rfl
      have hi := (List.getElem?_eq_some_iff.mp hx8).1
      rw [List.length_map] at hi
      obtain ⟨y, rfl, hy⟩ : ∃ z, x8 = .str z ∧ nm[i]? = some z := by
        rw [List.getElem?_map] at hx8
        cases e : nm[i]? with
        | none => rw [e] at hx8; cases hx8
        | some z => rw [e] at hx8; exact ⟨z, (Option.some.inj hx8).symm, rfl⟩
      walk_at "begin"
      walk_at "go"
      refine ⟨rfl, ?_⟩
      walk_at "go"
      refine r_strS ?_
      refine lcN_put topH (s := ()) trivial hD8 hS8 ?_ ?_
      · rw [List.length_map, List.length_take]; omega
      · rw [List.take_add_one, hy, List.map_append]; rfl
    rintro n8 _ C8 acc _ hB8 hD8 hS8 rfl
    rw [List.length_map, List.take_length]
    have hn8 : (upd C8 n8 (.lst (nm.map V.str))) n8 = some (.lst (nm.map V.str)) := upd_same
    have s8 := hS8.trans (same_new (o := .lst (nm.map V.str)) hD8)
    show (fun C => _) (upd C8 n8 (.lst (nm.map V.str)))
    generalize upd C8 n8 (.lst (nm.map V.str)) = H8 at hn8 s8 ⊢
    dsimp only
    clear hS8 hD8 hB8
    refine ⟨n8, _, rfl, SqL.of hn8, hnl, fun l p9 hl hnd hll np9 => ?_⟩
    walk_at "go"
    refine ⟨p9, l, rfl, upd_same, by omega, fun hl2 np10 => ?_⟩
    have hhl : (upd (upd H8 p9 (SetTO P w p9 l)) hl2 (.lst ((Ak.sortT l).map V.str))) hl2 = some (.lst ((Ak.sortT l).map V.str)) := upd_same
    have s10 := s8.trans ((same_new (o := SetTO P w p9 l) np9).trans (same_new (o := .lst ((Ak.sortT l).map V.str)) np10))
    generalize upd (upd H8 p9 (SetTO P w p9 l)) hl2 (.lst ((Ak.sortT l).map V.str)) = H10 at hhl s10 ⊢
    have he10 := he7.mono s10
    have ha10 := ha7.mono s10
    have hr10 := hr7.mono s10
    have s310 := s37.trans s10
    clear he7 ha7 hr7 s37 s10 s8 hn8 hD7
    obtain ⟨ve, hve, hvel⟩ := he10.len
    rw [List.length_map] at hvel
    walk_at "go"
    refine lcT_range topH (s0 := ()) trivial (by omega) (by omega) (fun i C acc => acc = (pick i fun j => (GG.el[j]?).elim false fun t => decide (t ∈ GG.as)).map V.int) rfl ?_ ?_
    · rintro D9 i _ C9 acc _ hD9 hS9 hi rfl
      rw [Int.toNat_natCast] at hi
      have sB := hS9.trans (same_new (o := .lst ((pick i fun j => (GG.el[j]?).elim false fun t => decide (t ∈ GG.as)).map V.int)) hD9)
      have hx9 : ve[i]? = some (ve[i]'hi) := List.getElem?_eq_getElem hi
      obtain ⟨t, htt, hvt, hdt⟩ := la_at he10 hve hx9
      have hpl := pick_len i fun j => (GG.el[j]?).elim false fun t => decide (t ∈ GG.as)
      walk_at "begin"
      walk_at "go"
      refine ⟨rfl, ?_⟩
      walk_at "go"
      refine r_ixL (sB _ _ hve) (atI_nat hx9) ?_
      walk_at "go"
      refine r_inLA (ha10.mono sB) (hvt.mono sB) hdt fun b hb => ?_
      rw [← haf t] at hb
      cases b with
      | true =>
        walk_at "go"
        refine lcN_put topH (s := ()) trivial hD9 hS9 ?_ ?_
        · rw [List.length_map]; omega
        · rw [pick_succ, elim_at htt, decide_eq_true (hb.mp rfl), ints_push]; rfl
      | false =>
        walk_at "go"
        refine lcN_skip (s := ()) trivial hD9 hS9 ?_
        rw [pick_succ, elim_at htt, decide_eq_false (fun z => Bool.false_ne_true (hb.mpr z)), if_neg Bool.false_ne_true, List.append_nil]
    rintro al _ C9 acc _ hB9 hD9 hS9 rfl
    rw [Int.toNat_natCast, hvel, show (pick GG.el.length fun j => (GG.el[j]?).elim false fun t => decide (t ∈ GG.as)) = ix GG.el fun t => decide (t ∈ GG.as) from rfl]
    have hal : (upd C9 al (.lst ((ix GG.el fun t => decide (t ∈ GG.as)).map V.int))) al = some (.lst ((ix GG.el fun t => decide (t ∈ GG.as)).map V.int)) := upd_same
    have s11 := hS9.trans (same_new (o := .lst ((ix GG.el fun t => decide (t ∈ GG.as)).map V.int)) hD9)
    try dsimp only
    generalize upd C9 al (.lst ((ix GG.el fun t => decide (t ∈ GG.as)).map V.int)) = H11 at hal s11 ⊢
    try dsimp only
    have he11 := he10.mono s11
    have hr11 := hr10.mono s11
    have hhl11 := s11 _ _ hhl
    have hve11 := s11 _ _ hve
    have s311 := s310.trans s11
    clear hS9 hD9 hB9 he10 ha10 hr10 hve s310 s11 hhl
    walk_at "go"
    refine lcT_range topH (s0 := ()) trivial (by omega) (by omega) (fun i C acc => acc = (pick i fun j => (GG.el[j]?).elim false (frT (Ak.sortT l))).map V.int) rfl ?_ ?_
    · rintro D9 i _ C9 acc _ hD9 hS9 hi rfl
      rw [Int.toNat_natCast] at hi
      have sB := hS9.trans (same_new (o := .lst ((pick i fun j => (GG.el[j]?).elim false (frT (Ak.sortT l))).map V.int)) hD9)
      have hx9 : ve[i]? = some (ve[i]'hi) := List.getElem?_eq_getElem hi
      obtain ⟨t, htt, hvt, hdt⟩ := la_at he11 hve11 hx9
      have hpl := pick_len i fun j => (GG.el[j]?).elim false (frT (Ak.sortT l))
      have hvt9 := hvt.mono sB
      have hh9 := sB _ _ hhl11
      have hve9 := sB _ _ hve11
      generalize ve[i]'hi = x9 at hx9 hvt9 hvt
      walk_at "begin"
      walk_at "go"
      refine ⟨rfl, ?_⟩
      walk_at "go"
      refine r_ixL hve9 (atI_nat hx9) ?_
      obtain ⟨pt, rt, rfl, hqt⟩ := tm_0 hvt9
      walk_at "go"
      refine r_ixQ hqt at0 ?_
      walk_at "go"
      rw [nm_k]
      cases hnm : isNm t with
      | true =>
        obtain ⟨y, rfl⟩ := Shp.outer_nm hnm
        obtain ⟨p5, y5, hp5, hq5, hy5⟩ := dp_1 hvt9.1
        cases hy5
        injection hp5 with hp5
        subst hp5
        walk_at "go"
        refine r_ixL hve9 (atI_nat hx9) ?_
        walk_at "go"
        refine r_ixQ hq5 rfl ?_
        walk_at "go"
        refine r_inS hh9 ?_
        rw [if_pos rfl]
        cases hfr : decide (y ∈ Ak.sortT l) with
        | true =>
          walk_at "go"
          refine lcN_skip (s := ()) trivial hD9 hS9 ?_
          rw [pick_succ, elim_at htt, show frT (Ak.sortT l) (.name y) = false by unfold frT; rw [show (Shp.outer (.name y)).headD "" = y from rfl, decide_eq_false (fun z => z (of_decide_eq_true hfr)), Bool.and_false], if_neg Bool.false_ne_true, List.append_nil]
        | false =>
          walk_at "go"
          refine lcN_put topH (s := ()) trivial hD9 hS9 ?_ ?_
          · rw [List.length_map]; omega
          · rw [pick_succ, elim_at htt, show frT (Ak.sortT l) (.name y) = true by unfold frT; rw [show (Shp.outer (.name y)).headD "" = y from rfl, decide_eq_true (of_decide_eq_false hfr)]; rfl, ints_push]; rfl
      | false =>
        walk_at "go"
        refine lcN_skip (s := ()) trivial hD9 hS9 ?_
        rw [pick_succ, elim_at htt, show frT (Ak.sortT l) t = false by unfold frT; rw [hnm]; rfl, if_neg Bool.false_ne_true, List.append_nil]
    rintro fl _ C9 acc _ hB9 hD9 hS9 rfl
    rw [Int.toNat_natCast, hvel, show (pick GG.el.length fun j => (GG.el[j]?).elim false (frT (Ak.sortT l))) = ix GG.el (frT (Ak.sortT l)) from rfl]
    have hfl : (upd C9 fl (.lst ((ix GG.el (frT (Ak.sortT l))).map V.int))) fl = some (.lst ((ix GG.el (frT (Ak.sortT l))).map V.int)) := upd_same
    have s12 := hS9.trans (same_new (o := .lst ((ix GG.el (frT (Ak.sortT l))).map V.int)) hD9)
    try dsimp only
    generalize upd C9 fl (.lst ((ix GG.el (frT (Ak.sortT l))).map V.int)) = H12 at hfl s12 ⊢
    try dsimp only
    walk_at "go"
    refine ⟨pr, "wide", rSg s, rfl, hr11.mono s12, by omega, hdr, fun H13 pw s13 hw _ => ?_⟩
    rw [show firsts "wide" (rSg s) [] = GG.wi from hrel.wi.symm] at hw
    walk_at "go"
    refine ⟨by walk_at "len", fun p14 np14 => ?_⟩
    have s14 := same_new (o := HO.lst [.ref pe, .ref hl2, .ref pw, .ref al, .ref fl]) np14
    have sZ := s12.trans (s13.trans s14)
    exact q _ p14 (s03.trans (s311.trans sZ)) ⟨pe, hl2, pw, al, fl, Ak.sortT l, l, upd_same, he11.mono sZ, hw.mono s14, sZ _ _ hal, rfl, hnd, (fun y => (hl y).trans (hmem y)), sZ _ _ hhl11, (s13.trans s14) _ _ hfl⟩
end
end K16
namespace K16
open PySem PySem.Spec PyProof.Rows L2 Lw
open Sy (Bd Sg Op Fk Jn Bk)
open Shp (rSg isNm firsts)
theorem ix_seqK {X : Cx} {K : PySem.W.Frag} (h : X.K = K) : IxR X (rIx K) := by subst h; exact ix_seq
inductive AlD : PyData → Prop
  | str (x : Str) : AlD (.str x)
  | int (i : Int) : AlD (.int i)
  | tup {ds : List PyData} (h : ∀ d ∈ ds, AlD d) (l : ds.length ≤ 100000) : AlD (.tuple ds)
  | lst {ds : List PyData} (h : ∀ d ∈ ds, AlD d) (l : ds.length ≤ 100000) : AlD (.list ds)
structure KI (K : PySem.W.Frag) : Prop where
  ss : PySem.W.kitOne K (.type "str") (.type "str") = some true
  is_ : PySem.W.kitOne K (.type "int") (.type "str") = some false
  ii : PySem.W.kitOne K (.type "int") (.type "int") = some true
  ib : PySem.W.kitOne K (.type "int") (.type "bool") = some false
  ts : PySem.W.kitOne K (.type "tuple") (.type "str") = some false
  ti : PySem.W.kitOne K (.type "tuple") (.type "int") = some false
  tt : PySem.W.kitOne K (.type "tuple") (.type "tuple") = some true
  tl : PySem.W.kitOne K (.type "tuple") (.type "list") = some false
  ls : PySem.W.kitOne K (.type "list") (.type "str") = some false
  li : PySem.W.kitOne K (.type "list") (.type "int") = some false
  lt : PySem.W.kitOne K (.type "list") (.type "tuple") = some false
  ll : PySem.W.kitOne K (.type "list") (.type "list") = some true
def spAl (K : PySem.W.Frag) (n : Nat) : Sp := fun vs H Q _ => ∃ (x y : V) (d : PyData), vs = [x, y] ∧ Dp K H x d ∧ Dp K H y d ∧ AlD d ∧ d.depth < n ∧ ∀ H', Same H H' → Q (.bl true) H'
theorem sql_s {K : PySem.W.Frag} {H H' : Hp} {p : Addr} {xs : List V} (s : Same H H') (h : SqL K H p xs) : SqL K H' p xs := h.imp (fun h => h.imp (fun h => s _ _ h) (fun ⟨o, h⟩ => ⟨o, s _ _ h⟩)) id
theorem sqt_ty {K : PySem.W.Frag} {H : Hp} {a : Addr} {xs : List V} (h : SqT K H a xs) : TyX K H (.ref a) (.type "tuple") := by
  rcases h with (h | ⟨o, h⟩) | ⟨o, its, n, hk, hc, _⟩
  · exact .base (.tup h)
  · exact .fTuple h
  · exact .kTuple hk hc
theorem sql_ty {K : PySem.W.Frag} {H : Hp} {a : Addr} {xs : List V} (h : SqL K H a xs) : TyX K H (.ref a) (.type "list") := by
  rcases h with (h | ⟨o, h⟩) | ⟨o, its, n, hk, hc, _⟩
  · exact .base (.lst h)
  · exact .base (.frz h)
  · exact .kList hk hc
section
variable {P : Program} {w : World} {K : PySem.W.Frag} {mg : Str → Option Value} {base : Heap}
theorem rd_alike {f : Addr} {fd : FuncData} (B : Blt mg) (I : KI K) (D : Dn K mg "_law_alike" s__law_alike ["told", "due"] f fd) : ∀ n, FnOk P w K mg base CX0 (1 + n) f fd ["told", "due"] (spAl K n)
  | 0 => ⟨fun vs H Q E h => (by obtain ⟨x, y, d, rfl, _⟩ := h; rfl), fun A outer s H args us vs Q E hr e0 hb r h => (by obtain ⟨x, y, d, _, _, _, _, hd, _⟩ := h; exact absurd hd (Nat.not_lt_zero _))⟩
  | n + 1 => by
    have ih := rd_alike B I D n
    refine D.F.ok (k := 1 + n) sc__law_alike (fun vs H Q E h => ?_) (fun cdv A outer s H vs Q E hr h => ?_)
    · obtain ⟨x, y, d, rfl, _⟩ := h
      rfl
    · obtain ⟨x, y, d, rfl, hx, hy, hal, hd, q⟩ := h
      refine ⟨_, (pss_cons (ps_if (pt_val (pe_callB (call_isiK' (K := K) rfl) (by rfl) B.m_isinstance (by decide +kernel) (pa_cons (pv 1) (pa_cons (pe_bltn (v := .ty "str") (by rfl) B.m_str (by decide +kernel) rfl) pa_nil)))) (pss_one (ps_ret (pe_and (pe_callB (call_isiK' (K := K) rfl) (by rfl) B.m_isinstance (by decide +kernel) (pa_cons (pv 0) (pa_cons (pe_bltn (v := .ty "str") (by rfl) B.m_str (by decide +kernel) rfl) pa_nil))) (pe_one (pe_cmpR op_eq (pv 0) (pv 1) (nomark _)))))) pss_nil)
      (pss_cons (ps_if (pt_val (pe_callB (call_isiK' (K := K) rfl) (by rfl) B.m_isinstance (by decide +kernel) (pa_cons (pv 1) (pa_cons (pe_bltn (v := .ty "int") (by rfl) B.m_int (by decide +kernel) rfl) pa_nil)))) (pss_one (ps_ret (pe_and (pe_callB (call_isiK' (K := K) rfl) (by rfl) B.m_isinstance (by decide +kernel) (pa_cons (pv 0) (pa_cons (pe_bltn (v := .ty "int") (by rfl) B.m_int (by decide +kernel) rfl) pa_nil))) (pe_and (pe_not (pe_callB (call_isiK' (K := K) rfl) (by rfl) B.m_isinstance (by decide +kernel) (pa_cons (pv 0) (pa_cons (pe_bltn (v := .ty "bool") (by rfl) B.m_bool (by decide +kernel) rfl) pa_nil)))) (pe_one (pe_cmpR op_eq (pv 0) (pv 1) (nomark _))))))) pss_nil)
      (pss_cons (ps_if (PW.pt (pw_or (pt_cmpR op_ne (pe_callB (call_isiK' (K := K) rfl) (by rfl) B.m_isinstance (by decide +kernel) (pa_cons (pv 0) (pa_cons (pe_bltn (v := .ty "tuple") (by rfl) B.m_tuple (by decide +kernel) rfl) pa_nil))) (pe_callB (call_isiK' (K := K) rfl) (by rfl) B.m_isinstance (by decide +kernel) (pa_cons (pv 1) (pa_cons (pe_bltn (v := .ty "tuple") (by rfl) B.m_tuple (by decide +kernel) rfl) pa_nil))) (nomark _)) (pw_or1 (pt_cmpR op_ne (pe_callB (call_isiK' (K := K) rfl) (by rfl) B.m_isinstance (by decide +kernel) (pa_cons (pv 0) (pa_cons (pe_bltn (v := .ty "list") (by rfl) B.m_list (by decide +kernel) rfl) pa_nil))) (pe_callB (call_isiK' (K := K) rfl) (by rfl) B.m_isinstance (by decide +kernel) (pa_cons (pv 1) (pa_cons (pe_bltn (v := .ty "list") (by rfl) B.m_list (by decide +kernel) rfl) pa_nil))) (nomark _))))) (pss_one (ps_ret pe_bl)) pss_nil)
      (pss_cons (ps_if (pt_cmpR op_ne (pe_callB (call_len_seqK (K := K) rfl) (by rfl) B.m_len PySem.boot_len (pa_cons (pv 0) pa_nil)) (pe_callB (call_len_seqK (K := K) rfl) (by rfl) B.m_len PySem.boot_len (pa_cons (pv 1) pa_nil)) (nomark _)) (pss_one (ps_ret pe_bl)) pss_nil)
      (pss_cons (ps_for PassesOwn.never rfl (pi_range1 (by rfl) B.m_range (pa_cons (pe_callB (call_len_seqK (K := K) rfl) (by rfl) B.m_len PySem.boot_len (pa_cons (pv 1) pa_nil)) pa_nil)) (pg_name (i := 2) sc__law_alike.nd rfl (.inl rfl)) (pss_one (ps_if (pt_not (pt_val (pe_call ih (hr.mono (Nat.le_refl _)) (by rfl) D.g D.F.kp D.b .nil pass0 (pa_cons (pe_ix (ix_seqK (K := K) rfl) (pv 0) (pv 2) (fun _ _ => rfl)) (pa_cons (pe_ix (ix_seqK (K := K) rfl) (pv 1) (pv 2) (fun _ _ => rfl)) pa_nil))))) (pss_one (ps_ret pe_bl)) pss_nil)))
      (pss_one (ps_ret pe_bl))))))), ?_⟩
      cases hal with
      | str z =>
        cases hx
        cases hy
        walk_at "begin"
        walk_at "go"
        refine ⟨.str z, .ty "str", .type "str", .type "str", true, rfl, .ty _, .base (.str _), I.ss, ?_⟩
        walk_at "go"
        refine ⟨.str z, .ty "str", .type "str", .type "str", true, rfl, .ty _, .base (.str _), I.ss, ?_⟩
        walk_at "go"
        rw [decide_eq_true rfl]
        walk_at "go"
        exact q H (Same.refl _)
      | int i =>
        cases hx
        cases hy
        walk_at "begin"
        walk_at "go"
        refine ⟨.int i, .ty "str", .type "int", .type "str", false, rfl, .ty _, .base (.int _), I.is_, ?_⟩
        walk_at "go"
        refine ⟨.int i, .ty "int", .type "int", .type "int", true, rfl, .ty _, .base (.int _), I.ii, ?_⟩
        walk_at "go"
        refine ⟨.int i, .ty "int", .type "int", .type "int", true, rfl, .ty _, .base (.int _), I.ii, ?_⟩
        walk_at "go"
        refine ⟨.int i, .ty "bool", .type "int", .type "bool", false, rfl, .ty _, .base (.int _), I.ib, ?_⟩
        walk_at "go"
        rw [decide_eq_true rfl]
        walk_at "go"
        exact q H (Same.refl _)
      | @tup ds hal hl =>
        obtain ⟨xs, a, rfl, hxa, hxs⟩ : ∃ (xs : List V) (a : Addr), x = .ref a ∧ SqT K H a xs ∧ DpAll K H xs ds := by cases hx with | tup h1 h2 => exact ⟨_, _, rfl, h1, h2⟩
        obtain ⟨ys, b, rfl, hya, hys⟩ : ∃ (ys : List V) (b : Addr), y = .ref b ∧ SqT K H b ys ∧ DpAll K H ys ds := by cases hy with | tup h1 h2 => exact ⟨_, _, rfl, h1, h2⟩
        have hxl := dpAll_len hxs
        have hyl := dpAll_len hys
        have hdd : PyData.depthAll ds + 1 < n + 1 := by simpa [PyData.depth] using hd
        walk_at "begin"
        walk_at "go"
        refine ⟨.ref b, .ty "str", .type "tuple", .type "str", false, rfl, .ty _, sqt_ty hya, I.ts, ?_⟩
        walk_at "go"
        refine ⟨.ref b, .ty "int", .type "tuple", .type "int", false, rfl, .ty _, sqt_ty hya, I.ti, ?_⟩
        walk_at "go"
        refine ⟨.ref a, .ty "tuple", .type "tuple", .type "tuple", true, rfl, .ty _, sqt_ty hxa, I.tt, ?_⟩
        walk_at "go"
        refine ⟨.ref b, .ty "tuple", .type "tuple", .type "tuple", true, rfl, .ty _, sqt_ty hya, I.tt, ?_⟩
        walk_at "go"
        rw [show (!decide (V.bl true = V.bl true)) = false by decide]
        walk_at "go"
        refine ⟨.ref a, .ty "list", .type "tuple", .type "list", false, rfl, .ty _, sqt_ty hxa, I.tl, ?_⟩
        walk_at "go"
        refine ⟨.ref b, .ty "list", .type "tuple", .type "list", false, rfl, .ty _, sqt_ty hya, I.tl, ?_⟩
        walk_at "go"
        rw [show (!decide (V.bl false = V.bl false)) = false by decide]
        walk_at "go"
        refine ⟨a, xs, rfl, .inr hxa, ?_⟩
        walk_at "go"
        refine ⟨b, ys, rfl, .inr hya, ?_⟩
        walk_at "go"
        rw [show (!decide (V.int ((xs.length : Nat) : Int) = V.int ((ys.length : Nat) : Int))) = false by rw [hxl, hyl, decide_eq_true rfl]; rfl]
        walk_at "go"
        refine ⟨b, ys, rfl, .inr hya, ?_⟩
        refine r_forR (by omega) (by omega) (fun i σ H' => ∃ y2 : Option V, σ = [some (.ref a), some (.ref b), y2] ∧ Same H H') ?_ ?_ ?_
        · exact ⟨_, rfl, Same.refl _⟩
        · rintro i σ H' hi ⟨y2, rfl, s1⟩
          rw [Int.toNat_natCast] at hi
          have hi2 : i < xs.length := by omega
          have hi3 : i < ds.length := by omega
          obtain ⟨dx, hdx, hdpx⟩ := dpAll_at hxs (List.getElem?_eq_getElem hi2)
          obtain ⟨dy, hdy, hdpy⟩ := dpAll_at hys (List.getElem?_eq_getElem hi)
          obtain rfl : dx = dy := Option.some.inj (hdx.symm.trans hdy)
          have hdep := depth_mem hdx
          walk_at "go"
          refine (.inr (.inl ⟨a, _, _, _, rfl, rfl, sqt_s s1 hxa, atI_nat (List.getElem?_eq_getElem hi2), ?_⟩))
          walk_at "go"
          refine (.inr (.inl ⟨b, _, _, _, rfl, rfl, sqt_s s1 hya, atI_nat (List.getElem?_eq_getElem hi), ?_⟩))
          walk_at "go"
          refine ⟨_, _, dx, rfl, dp_mono s1 hdpx, dp_mono s1 hdpy, hal dx (List.mem_of_getElem? hdx), by omega, fun H2 s2 => ?_⟩
          walk_at "go"
          exact ⟨_, rfl, s1.trans s2⟩
        · rintro σ H' ⟨y2, rfl, s1⟩
          walk_at "go"
          exact q H' s1
      | @lst ds hal hl =>
        obtain ⟨xs, a, rfl, hxa, hxs⟩ : ∃ (xs : List V) (a : Addr), x = .ref a ∧ SqL K H a xs ∧ DpAll K H xs ds := by cases hx with | lst h1 h2 => exact ⟨_, _, rfl, h1, h2⟩
        obtain ⟨ys, b, rfl, hya, hys⟩ : ∃ (ys : List V) (b : Addr), y = .ref b ∧ SqL K H b ys ∧ DpAll K H ys ds := by cases hy with | lst h1 h2 => exact ⟨_, _, rfl, h1, h2⟩
        have hxl := dpAll_len hxs
        have hyl := dpAll_len hys
        have hdd : PyData.depthAll ds + 1 < n + 1 := by simpa [PyData.depth] using hd
        walk_at "begin"
        walk_at "go"
        refine ⟨.ref b, .ty "str", .type "list", .type "str", false, rfl, .ty _, sql_ty hya, I.ls, ?_⟩
        walk_at "go"
        refine ⟨.ref b, .ty "int", .type "list", .type "int", false, rfl, .ty _, sql_ty hya, I.li, ?_⟩
        walk_at "go"
        refine ⟨.ref a, .ty "tuple", .type "list", .type "tuple", false, rfl, .ty _, sql_ty hxa, I.lt, ?_⟩
        walk_at "go"
        refine ⟨.ref b, .ty "tuple", .type "list", .type "tuple", false, rfl, .ty _, sql_ty hya, I.lt, ?_⟩
        walk_at "go"
        rw [show (!decide (V.bl false = V.bl false)) = false by decide]
        walk_at "go"
        refine ⟨.ref a, .ty "list", .type "list", .type "list", true, rfl, .ty _, sql_ty hxa, I.ll, ?_⟩
        walk_at "go"
        refine ⟨.ref b, .ty "list", .type "list", .type "list", true, rfl, .ty _, sql_ty hya, I.ll, ?_⟩
        walk_at "go"
        rw [show (!decide (V.bl true = V.bl true)) = false by decide]
        walk_at "go"
        refine ⟨a, xs, rfl, .inl hxa, ?_⟩
        walk_at "go"
        refine ⟨b, ys, rfl, .inl hya, ?_⟩
        walk_at "go"
        rw [show (!decide (V.int ((xs.length : Nat) : Int) = V.int ((ys.length : Nat) : Int))) = false by rw [hxl, hyl, decide_eq_true rfl]; rfl]
        walk_at "go"
        refine ⟨b, ys, rfl, .inl hya, ?_⟩
        refine r_forR (by omega) (by omega) (fun i σ H' => ∃ y2 : Option V, σ = [some (.ref a), some (.ref b), y2] ∧ Same H H') ?_ ?_ ?_
        · exact ⟨_, rfl, Same.refl _⟩
        · rintro i σ H' hi ⟨y2, rfl, s1⟩
          rw [Int.toNat_natCast] at hi
          have hi2 : i < xs.length := by omega
          have hi3 : i < ds.length := by omega
          obtain ⟨dx, hdx, hdpx⟩ := dpAll_at hxs (List.getElem?_eq_getElem hi2)
          obtain ⟨dy, hdy, hdpy⟩ := dpAll_at hys (List.getElem?_eq_getElem hi)
          obtain rfl : dx = dy := Option.some.inj (hdx.symm.trans hdy)
          have hdep := depth_mem hdx
          walk_at "go"
          refine (.inl ⟨a, _, _, _, rfl, rfl, sql_s s1 hxa, atI_nat (List.getElem?_eq_getElem hi2), ?_⟩)
          walk_at "go"
          refine (.inl ⟨b, _, _, _, rfl, rfl, sql_s s1 hya, atI_nat (List.getElem?_eq_getElem hi), ?_⟩)
          walk_at "go"
          refine ⟨_, _, dx, rfl, dp_mono s1 hdpx, dp_mono s1 hdpy, hal dx (List.mem_of_getElem? hdx), by omega, fun H2 s2 => ?_⟩
          walk_at "go"
          exact ⟨_, rfl, s1.trans s2⟩
        · rintro σ H' ⟨y2, rfl, s1⟩
          walk_at "go"
          exact q H' s1
end
end K16
namespace K16
open PySem PySem.Spec PyProof.Rows L2 Lw
open Sy (Bd Sg Op Fk Jn Bk)
open Shp (rSg isNm firsts)
theorem al_tm : ∀ t : Sy.Tm, AlD t.d
  | .name x => .tup (fun d hd => by rcases List.mem_cons.mp hd with rfl | hd; exact .str _; rw [List.mem_singleton.mp hd]; exact .str _) (show 2 ≤ 100000 by decide)
  | .none => .tup (fun d hd => by rw [List.mem_singleton.mp hd]; exact .str _) (show 1 ≤ 100000 by decide)
  | .just t => .tup (fun d hd => by rcases List.mem_cons.mp hd with rfl | hd; exact .str _; rw [List.mem_singleton.mp hd]; exact al_tm t) (show 2 ≤ 100000 by decide)
  | .bin _ a b => .tup (fun d hd => by
      rcases List.mem_cons.mp hd with rfl | hd
      · exact .str _
      · rcases List.mem_cons.mp hd with rfl | hd
        · exact al_tm a
        · rw [List.mem_singleton.mp hd]; exact al_tm b) (show 3 ≤ 100000 by decide)
theorem al_bd : ∀ t : Bd, AlD t.d
  | .fact _ t => .tup (fun d hd => by rcases List.mem_cons.mp hd with rfl | hd; exact .str _; rw [List.mem_singleton.mp hd]; exact al_tm t) (show 2 ≤ 100000 by decide)
  | .not t => .tup (fun d hd => by rcases List.mem_cons.mp hd with rfl | hd; exact .str _; rw [List.mem_singleton.mp hd]; exact al_bd t) (show 2 ≤ 100000 by decide)
  | .bin _ a b => .tup (fun d hd => by
      rcases List.mem_cons.mp hd with rfl | hd
      · exact .str _
      · rcases List.mem_cons.mp hd with rfl | hd
        · exact al_bd a
        · rw [List.mem_singleton.mp hd]; exact al_bd b) (show 3 ≤ 100000 by decide)
theorem al_sg : ∀ t : Sg, AlD t.d
  | .not t => .tup (fun d hd => by rcases List.mem_cons.mp hd with rfl | hd; exact .str _; rw [List.mem_singleton.mp hd]; exact al_sg t) (show 2 ≤ 100000 by decide)
  | .bin _ a b => .tup (fun d hd => by
      rcases List.mem_cons.mp hd with rfl | hd
      · exact .str _
      · rcases List.mem_cons.mp hd with rfl | hd
        · exact al_sg a
        · rw [List.mem_singleton.mp hd]; exact al_sg b) (show 3 ≤ 100000 by decide)
  | .fact _ a b => .tup (fun d hd => by
      rcases List.mem_cons.mp hd with rfl | hd
      · exact .str _
      · rcases List.mem_cons.mp hd with rfl | hd
        · exact al_tm a
        · rw [List.mem_singleton.mp hd]; exact al_tm b) (show 3 ≤ 100000 by decide)
  | .quant _ a b => .tup (fun d hd => by
      rcases List.mem_cons.mp hd with rfl | hd
      · exact .str _
      · rcases List.mem_cons.mp hd with rfl | hd
        · exact al_tm a
        · rw [List.mem_singleton.mp hd]; exact al_bd b) (show 3 ≤ 100000 by decide)
/-- the wide facts are wide facts of a saying -/
theorem al_wide {s : Sg} {d : PyData} (h : (("wide", d) : Shp.Row) ∈ rSg s) : AlD d := by
  induction s with
  | not s ih => exact ih h
  | bin j a b iha ihb => exact (List.mem_append.mp h).elim iha ihb
  | fact k a b =>
    cases k with
    | inn =>
      rcases List.mem_append.mp h with h | h
      · exact absurd rfl (Shp.rEl_kind h)
      · exact absurd rfl (Shp.rHo_kind h)
    | within =>
      rcases List.mem_append.mp h with h | h
      · rcases List.mem_append.mp h with h | h
        · exact absurd rfl (Shp.rHo_kind h)
        · exact absurd rfl (Shp.rHo_kind h)
      · rw [(Shp.only.mp h).2]; exact al_sg _
    | same =>
      rw [rSg] at h
      split at h
      · rcases List.mem_append.mp h with h | h
        · exact absurd rfl (Shp.rEl_kind h)
        · exact absurd rfl (Shp.rEl_kind h)
      · rcases List.mem_append.mp h with h | h
        · rcases List.mem_append.mp h with h | h
          · exact absurd rfl (Shp.rHo_kind h)
          · exact absurd rfl (Shp.rHo_kind h)
        · rw [(Shp.only.mp h).2]; exact al_sg _
  | quant ea a b =>
    cases ea with
    | true =>
      rcases List.mem_append.mp h with h | h
      · rcases List.mem_append.mp h with h | h
        · exact absurd rfl (Shp.rHo_kind h)
        · exact absurd rfl (Shp.rBd_kind h)
      · rw [(Shp.only.mp h).2]; exact al_sg _
    | false =>
      rcases List.mem_append.mp h with h | h
      · rcases List.mem_append.mp h with h | h
        · exact absurd rfl (Shp.rHo_kind h)
        · exact absurd rfl (Shp.rBd_kind h)
      · rw [(Shp.only.mp h).2]; exact al_sg _
theorem depthAll_le {n : Nat} : ∀ {ds : List PyData}, (∀ d ∈ ds, d.depth ≤ n) → PyData.depthAll ds ≤ n
  | [], _ => Nat.zero_le _
  | d :: ds, h => by
    have h1 := h d List.mem_cons_self
    have h2 := depthAll_le (ds := ds) fun x hx => h x (List.mem_cons_of_mem _ hx)
    show max d.depth (PyData.depthAll ds) ≤ n
    omega
theorem dp_ints {K : PySem.W.Frag} {H : Hp} : ∀ (zs : List Int), DpAll K H (zs.map V.int) (zs.map PyData.int)
  | [] => .nil
  | z :: zs => .cons (.int z) (dp_ints zs)
theorem dp_strs {K : PySem.W.Frag} {H : Hp} : ∀ (zs : List Str), DpAll K H (zs.map V.str) (zs.map PyData.str)
  | [] => .nil
  | z :: zs => .cons (.str z) (dp_strs zs)
theorem ints_depth (zs : List Int) : PyData.depthAll (zs.map PyData.int) ≤ 0 := depthAll_le fun d hd => by
  obtain ⟨z, _, rfl⟩ := List.mem_map.mp hd
  exact Nat.le_refl _
theorem strs_depth (zs : List Str) : PyData.depthAll (zs.map PyData.str) ≤ 0 := depthAll_le fun d hd => by
  obtain ⟨z, _, rfl⟩ := List.mem_map.mp hd
  exact Nat.le_refl _
def spIs (K : PySem.W.Frag) (CS : Addr) (n : Nat) : Sp := fun vs H Q _ => ∃ (x : Addr) (v v' : V) (s : Sg), vs = [.ref x, v'] ∧ ShAt K CS H x v s ∧ Tv K H v s.d ∧ Tv K H v' s.d ∧ s.d.depth < n ∧ s.sz ≤ 200 ∧ ∀ H', Same H H' → Q (.bl true) H'
section
variable {P : Program} {w : World} {K : PySem.W.Frag} {mg : Str → Option Value} {base : Heap} {CS : Addr}
theorem r_sf {H : Hp} {x dx : Addr} {fs : List (Str × V)} {f : Str} {v : V} {F : V → Prop} (ZZ : ZS K CS) (n : NoAttr K CS f) (e : H x = some (.ins CS dx fs)) (l : fs.lookup f = some v) (q : F v) :
    ∃ a' C dx fs v, V.ref x = .ref a' ∧ H a' = some (.ins C dx fs) ∧ Cls K C ∧ NoAttr K C f ∧ fs.lookup f = some v ∧ F v := ⟨x, CS, dx, fs, v, rfl, e, ZZ.cl, n, l, q⟩
theorem ok_isdue {n : Nat} {f f1 f2 : Addr} {fd fd1 fd2 : FuncData} (B : Blt mg) (ZZ : ZS K CS) (D : Dn K mg "_law_is_due" s__law_is_due ["shape", "saying"] f fd) (D_law_due : Dn K mg "_law_due" s__law_due ["saying"] f1 fd1) (G_law_due : FnOk P w K mg base CX0 (1 + n + 1 + n + n + 1) f1 fd1 ["saying"] (spDue K n))
    (D_law_alike : Dn K mg "_law_alike" s__law_alike ["told", "due"] f2 fd2) (G_law_alike : FnOk P w K mg base CX0 (1 + 100) f2 fd2 ["told", "due"] (spAl K 100)) (h50 : 50 ≤ n) (h90 : n ≤ 90) : FnOk P w K mg base CX0 (1 + n + 1 + n + n + 2) f fd ["shape", "saying"] (spIs K CS n) := by
  refine D.F.ok (k := 1 + n + 1 + n + n + 1) sc__law_is_due (fun vs H Q E h => ?_) (fun cdv A outer s H vs Q E hr h => ?_)
  · obtain ⟨x, v, v', s, rfl, _⟩ := h
    rfl
  · obtain ⟨x, v, v', s, rfl, hS, hv, hv', hd, hz, q⟩ := h
    refine ⟨_, (pss_cons (ps_set (i := 2) sc__law_is_due.nd rfl (.inl rfl) (pe_call G_law_due (hr.mono (by omega)) (by rfl) D_law_due.g D_law_due.F.kp D_law_due.b .nil pass0 (pa_cons (pv 1) pa_nil)))
      (pss_cons (ps_if (PW.pt (pw_or (pt_not (pt_val (pe_call G_law_alike (hr.mono (by omega)) (by rfl) D_law_alike.g D_law_alike.F.kp D_law_alike.b .nil pass0 (pa_cons (pe_fld (pv 0) rfl) (pa_cons (pv 1) pa_nil))))) (pw_or1 (pt_not (pt_val (pe_call G_law_alike (hr.mono (by omega)) (by rfl) D_law_alike.g D_law_alike.F.kp D_law_alike.b .nil pass0 (pa_cons (pe_fld (pv 0) rfl) (pa_cons (pe_ix (ix_listK (K := K) rfl) (pv 2) pe_int (fun _ _ => rfl)) pa_nil)))))))) (pss_one (ps_ret pe_bl)) pss_nil)
      (pss_cons (ps_if (PW.pt (pw_or (pt_not (pt_val (pe_call G_law_alike (hr.mono (by omega)) (by rfl) D_law_alike.g D_law_alike.F.kp D_law_alike.b .nil pass0 (pa_cons (pe_fld (pv 0) rfl) (pa_cons (pe_ix (ix_listK (K := K) rfl) (pv 2) pe_int (fun _ _ => rfl)) pa_nil))))) (pw_or1 (pt_not (pt_val (pe_call G_law_alike (hr.mono (by omega)) (by rfl) D_law_alike.g D_law_alike.F.kp D_law_alike.b .nil pass0 (pa_cons (pe_fld (pv 0) rfl) (pa_cons (pe_ix (ix_listK (K := K) rfl) (pv 2) pe_int (fun _ _ => rfl)) pa_nil)))))))) (pss_one (ps_ret pe_bl)) pss_nil)
      (pss_one (ps_ret (pe_and (pe_call G_law_alike (hr.mono (by omega)) (by rfl) D_law_alike.g D_law_alike.F.kp D_law_alike.b .nil pass0 (pa_cons (pe_fld (pv 0) rfl) (pa_cons (pe_ix (ix_listK (K := K) rfl) (pv 2) pe_int (fun _ _ => rfl)) pa_nil))) (pe_one (pe_call G_law_alike (hr.mono (by omega)) (by rfl) D_law_alike.g D_law_alike.F.kp D_law_alike.b .nil pass0 (pa_cons (pe_fld (pv 0) rfl) (pa_cons (pe_ix (ix_listK (K := K) rfl) (pv 2) pe_int (fun _ _ => rfl)) pa_nil)))))))))), ?_⟩
    have hrel := Shp.Rel.sg s Shp.G0
    have hge := Shp.sg_e s Shp.G0
    have e00 : Shp.G0.el.length = 0 := rfl
    have helb : ∀ d ∈ (Shp.G.sg s Shp.G0).el.map Sy.Tm.d, d.depth ≤ n := fun d hd2 => by
      have hm : d ∈ firsts "element" (rSg s) [] := by rw [show firsts "element" (rSg s) [] = (Shp.G.sg s Shp.G0).el.map Sy.Tm.d from hrel.el.symm]; exact hd2
      rcases (Shp.firsts_mem _ _).mp hm with z | z
      · cases z
      · have := Shp.rSg_dep z; omega
    have hwib : ∀ d ∈ (Shp.G.sg s Shp.G0).wi, d.depth ≤ n ∧ AlD d := fun d hd2 => by
      have hm : d ∈ firsts "wide" (rSg s) [] := by rw [show firsts "wide" (rSg s) [] = (Shp.G.sg s Shp.G0).wi from hrel.wi.symm]; exact hd2
      rcases (Shp.firsts_mem _ _).mp hm with z | z
      · cases z
      · have := Shp.rSg_dep z
        exact ⟨by omega, al_wide z⟩
    have hwl : (Shp.G.sg s Shp.G0).wi.length ≤ 600 := by
      have := firsts_len "wide" (rSg s) []
      rw [show firsts "wide" (rSg s) [] = (Shp.G.sg s Shp.G0).wi from hrel.wi.symm] at this
      have := rSg_len s
      simp only [List.length_nil] at *
      omega
    unfold ShAt at hS
    walk_at "begin"
    walk_at "go"
    refine ⟨v', s, rfl, hv', hd, hz, fun H1 p1 s1 hdue => ?_⟩
    unfold DueAt at hdue
    generalize Shp.G.sg s Shp.G0 = GG at hS hge helb hwib hwl hdue
    obtain ⟨dx, e, w1, al, hl, fl, W, D1, hs, l, hx, he, hw, hal, hhs, hnd, hlm, hhl, hl60, hfl⟩ := hS
    obtain ⟨e', hl', w', al', fl', hs', l', hp, he', hw', hal', hhs', hnd', hlm', hhl', hfl'⟩ := hdue
    have hperm : l.Perm l' := (List.perm_ext_iff_of_nodup hnd hnd').mpr fun y => (hlm y).trans (hlm' y).symm
    have hse : hs = hs' := by rw [hhs, hhs']; exact Ak.sortT_of hperm
    subst hse
    obtain ⟨ve, hve, hve2, _⟩ := he
    obtain ⟨ve', hve', hve2', _⟩ := he'
    obtain ⟨vw, hvw, hvw2, _⟩ := hw
    obtain ⟨vw', hvw', hvw2', _⟩ := hw'
    have ixl : ∀ p : Sy.Tm → Bool, (ix GG.el p).length ≤ 400 := fun p => by have := pick_len GG.el.length fun i => (GG.el[i]?).elim false p; unfold ix; omega
    have alk : ∀ {H2 : Hp} {ds : List PyData}, (∀ d ∈ ds, d.depth ≤ n ∧ AlD d) → ds.length ≤ 1000 → AlD (.list ds) ∧ (PyData.list ds).depth < 100 := fun {H2 ds} h hl => ⟨.lst (fun d hd => (h d hd).2) (by omega), by
      show PyData.depthAll ds + 1 < 100
      have := depthAll_le fun d hd => (h d hd).1
      omega⟩
    walk_at "go"
    refine r_sf ZZ ZZ.n1 (s1 _ _ hx) rfl ?_
    walk_at "go"
    refine ⟨v, v', s.d, rfl, dp_mono s1 hv.1, dp_mono s1 hv'.1, al_sg s, by omega, fun H2 s2 => ?_⟩
    walk_at "go"
    refine r_sf ZZ ZZ.n2 (s2 _ _ (s1 _ _ hx)) rfl ?_
    walk_at "go"
    have hE : Dp K H (.ref e) (.list (GG.el.map Sy.Tm.d)) := .lst (SqL.of hve) hve2
    have hE' : Dp K H1 (.ref e') (.list (GG.el.map Sy.Tm.d)) := .lst (SqL.of hve') hve2'
    have hW : Dp K H (.ref w1) (.list GG.wi) := .lst (SqL.of hvw) hvw2
    have hW' : Dp K H1 (.ref w') (.list GG.wi) := .lst (SqL.of hvw') hvw2'
    have hA : Dp K H (.ref al) (.list ((ix GG.el fun t => decide (t ∈ GG.as)).map PyData.int)) := .lst (SqL.of hal) (dp_ints _)
    have hA' : Dp K H1 (.ref al') (.list ((ix GG.el fun t => decide (t ∈ GG.as)).map PyData.int)) := .lst (SqL.of hal') (dp_ints _)
    have hF : Dp K H (.ref fl) (.list ((ix GG.el (frT hs)).map PyData.int)) := .lst (SqL.of hfl) (dp_ints _)
    have hF' : Dp K H1 (.ref fl') (.list ((ix GG.el (frT hs)).map PyData.int)) := .lst (SqL.of hfl') (dp_ints _)
    have hN : Dp K H (.ref hl) (.list (hs.map PyData.str)) := .lst (SqL.of hhl) (dp_strs _)
    have hN' : Dp K H1 (.ref hl') (.list (hs.map PyData.str)) := .lst (SqL.of hhl') (dp_strs _)
    obtain ⟨aE1, aE2⟩ := alk (H2 := H) (ds := GG.el.map Sy.Tm.d) (fun d hd2 => ⟨helb d hd2, by obtain ⟨t, _, rfl⟩ := List.mem_map.mp hd2; exact al_tm t⟩) (by rw [List.length_map]; omega)
    obtain ⟨aW1, aW2⟩ := alk (H2 := H) (ds := GG.wi) hwib (by omega)
    have aint : ∀ zs : List Int, zs.length ≤ 400 → AlD (.list (zs.map PyData.int)) ∧ (PyData.list (zs.map PyData.int)).depth < 100 := fun zs hz2 => ⟨.lst (fun d hd => by obtain ⟨z, _, rfl⟩ := List.mem_map.mp hd; exact .int z) (by rw [List.length_map]; omega), by
      show PyData.depthAll _ + 1 < 100
      have := ints_depth zs
      omega⟩
    obtain ⟨aA1, aA2⟩ := aint _ (ixl fun t => decide (t ∈ GG.as))
    obtain ⟨aF1, aF2⟩ := aint _ (ixl (frT hs))
    have aN1 : AlD (.list (hs.map PyData.str)) := .lst (fun d hd => by obtain ⟨z, _, rfl⟩ := List.mem_map.mp hd; exact .str z) (by rw [List.length_map]; omega)
    have aN2 : (PyData.list (hs.map PyData.str)).depth < 100 := by
      show PyData.depthAll _ + 1 < 100
      have := strs_depth hs
      omega
    refine ⟨_, _, _, rfl, dp_mono (s1.trans s2) hE, dp_mono s2 hE', aE1, aE2, fun H3 s3 => ?_⟩
    have t3 := s2.trans s3
    walk_at "go"
    refine r_sf ZZ ZZ.n5 (t3 _ _ (s1 _ _ hx)) rfl ?_
    walk_at "go"
    refine ⟨_, _, _, rfl, dp_mono (s1.trans t3) hN, dp_mono t3 hN', aN1, aN2, fun H4 s4 => ?_⟩
    have t4 := t3.trans s4
    walk_at "go"
    refine r_sf ZZ ZZ.n3 (t4 _ _ (s1 _ _ hx)) rfl ?_
    walk_at "go"
    refine ⟨_, _, _, rfl, dp_mono (s1.trans t4) hW, dp_mono t4 hW', aW1, aW2, fun H5 s5 => ?_⟩
    have t5 := t4.trans s5
    walk_at "go"
    refine r_sf ZZ ZZ.n4 (t5 _ _ (s1 _ _ hx)) rfl ?_
    walk_at "go"
    refine ⟨_, _, _, rfl, dp_mono (s1.trans t5) hA, dp_mono t5 hA', aA1, aA2, fun H6 s6 => ?_⟩
    have t6 := t5.trans s6
    walk_at "go"
    refine r_sf ZZ ZZ.n6 (t6 _ _ (s1 _ _ hx)) rfl ?_
    walk_at "go"
    refine ⟨_, _, _, rfl, dp_mono (s1.trans t6) hF, dp_mono t6 hF', aF1, aF2, fun H7 s7 => ?_⟩
    walk_at "go"
    exact q H7 (s1.trans (t6.trans s7))
end
end K16
end
section
open PySem PySem.Spec PyProof.Rows L2 Lw
local macro_rules | `(tactic| walk_at "look") => `(tactic| first
  | assumption
  | with_reducible exact upd_same
  | with_reducible exact rg_st
  | with_reducible exact rg_g (by assumption)
  | (with_reducible refine upd_old (by assumption) ?_; walk_at "look")
  | (with_reducible refine rg_get (by assumption) ?_; walk_at "look")
  | (with_reducible refine Same.get (by assumption) ?_; walk_at "look"))
local macro_rules | `(tactic| walk_at "cond") => `(tactic| first
  | (show _ ≠ _; omega) | exact cdivN (by omega) (by omega) | exact cmul_mod (by decide) (by decide) | exact cmulR (by omega) (by omega) | exact cmulL (by omega) (by omega) | exact cpow (by omega) (by omega) (by omega) (by omega) | (show (0:Int) ≤ _; omega))
local macro_rules | `(tactic| walk_at "at") => `(tactic| first | assumption | with_unfolding_all rfl)
local macro_rules | `(tactic| walk_at "sz") => `(tactic| first | assumption | (refine small ?_; omega) | (refine small ?_; simp only [List.length_map, List.length_append, List.length_cons, List.length_nil]; omega))
local macro_rules | `(tactic| walk_at "len") => `(tactic| first | exact size_nil | exact Nat.le_of_lt (small (by simp only [List.length_cons, List.length_nil, List.length_map]; omega)))
local macro_rules | `(tactic| walk_at "newD") => `(tactic| (refine ⟨by walk_at "len", fun p np => ?_⟩; obtain ⟨e, o', hD', n', ne'⟩ := newTD_eq (topRg _ _) (by assumption) (by assumption) np (.lst _); rw [e]; clear e))
local macro_rules | `(tactic| walk_at "new") => `(tactic| (refine ⟨by walk_at "len", fun p np => ?_⟩; obtain ⟨e, o', n'⟩ := newT_eq (topRg _ _) (by assumption) np (.lst _); rw [e]; clear e))
local macro_rules | `(tactic| walk_at "st") => `(tactic| first
  | with_reducible refine r_seq ?_
  | with_reducible refine r_var rfl ?_
  | with_reducible refine r_c ?_
  | with_reducible refine r_asg ?_
  | (with_reducible refine r_name ?_; dsimp only [List.set_cons_zero, List.set_cons_succ])
  | with_reducible refine r_sub ?_
  | with_reducible refine r_op ?_
  | with_reducible refine r_i0 ?_
  | (with_reducible refine' r_i ?k1 ?_; (case k1 => walk_at "cond"))
  | with_reducible refine r_cons ?_
  | with_reducible refine r_nil ?_
  | with_reducible refine r_cb ?_
  | with_reducible refine r_call ?_
  | with_reducible refine r_ifs ?_
  | with_reducible refine r_test ?_
  | with_reducible refine r_tB ?_
  | with_reducible refine r_bl ?_
  | with_reducible refine r_ret ?_
  | with_reducible refine r_drop ?_
  | with_reducible refine r_next ?_
  | (with_reducible refine' r_ixL ?k1 ?k2 ?_; (case k1 => walk_at "look"); (case k2 => walk_at "at"))
  | (with_reducible refine' r_setL ?k1 ?k2 ?_; (case k1 => walk_at "look"); (case k2 => walk_at "at"))
  | with_reducible refine r_aug rfl ?_
  | with_reducible refine r_augS ?_
  | with_reducible refine r_ipI ?_
  | with_reducible refine r_un ?_
  | with_reducible refine r_u ?_
  | with_reducible refine r_eq rfl ?_
  | with_reducible refine r_ne rfl ?_
  | with_reducible refine r_chain ?_
  | with_reducible refine iteF ?_
  | with_reducible refine r_not ?_
  | with_reducible refine r_and ?_
  | with_reducible refine r_or ?_
  | with_reducible refine r_andV ?_
  | with_reducible refine r_orV ?_
  | with_reducible refine r_notV ?_
  | with_reducible refine r_lst ?_
  | with_reducible refine r_bm ?_
  | with_reducible refine r_bm0 ?_
  | (with_reducible refine' And.intro (r_ty ?k1) ?_; (case k1 => walk_at "look"))
  | (with_reducible refine' r_append ?k1 ?k2 ?_; (case k1 => walk_at "look"); (case k2 => walk_at "sz"))
  | (with_reducible refine' r_lenK ?k1 ?_; (case k1 => walk_at "look"))
  | (with_reducible refine' r_listOf ?k1 ?_; (case k1 => walk_at "look"))
  | (with_reducible refine' r_sortedI ?k1 ?_; (case k1 => walk_at "look"))
  | (with_reducible refine' r_sum ?k1 ?_; (case k1 => walk_at "look"))
  | with_reducible refine r_int ?_
  | (with_reducible refine' r_draw (by assumption) ?k1 ?k2 ?_; (case k1 => omega); (case k2 => omega); intro R' n' o' h' h'')
  | with_reducible refine iteT ?_
  | with_reducible refine r_revL ?_
  | with_reducible refine r_lc ?_
  | with_reducible refine r_yes ?_
  | with_reducible refine r_for ?_
  | with_reducible refine r_iList ?_
  | with_reducible refine r_rng1 ?_
  | with_reducible refine r_enum ?_
  | (with_reducible show Ends.nx _ _ _; dsimp only)
  | (with_reducible show Ends.rt _ _ _; dsimp only)
  | (with_reducible show Ends.ct _ _ _; dsimp only)
  | (with_reducible show Ends.bk _ _ _; dsimp only))
local macro_rules | `(tactic| walk_at "go") => `(tactic| repeat (walk_at "st"))
local macro_rules | `(tactic| walk_at "begin") => `(tactic| dsimp only [cxOf, wipe, L2.start, List.map, List.length_cons, List.length_nil, Nat.reduceAdd, Nat.reduceSub, List.replicate, List.cons_append, List.nil_append])
local macro_rules | `(tactic| walk_at "st") => `(tactic| with_reducible refine r_abs ?_)
namespace K16
open PySem PySem.Spec PyProof.Rows L2 Lw
section
variable {P : Program} {w : World} {K : PySem.W.Frag} {mg : Str → Option Value} {base : Heap}
theorem ok_start {f : Addr} {fd : FuncData} {k : Nat} (B : Blt mg) (D : Dn K mg "_law_start" s__law_start ["script"] f fd) : FnOk P w K mg base CX0 (k + 1) f fd ["script"] (spStart K) := by
  refine D.F.ok sc__law_start (fun vs H Q E h => ?_) (fun cdv A outer s H vs Q E hr h => ?_)
  · obtain ⟨a, ns, rfl, _⟩ := h
    rfl
  · obtain ⟨a, ns, rfl, hS, hl, q⟩ := h
    refine ⟨_, (pss_cons (ps_set (i := 1) sc__law_start.nd rfl (.inl rfl) (pe_lst pa_nil))
      (pss_cons (ps_set (i := 2) sc__law_start.nd rfl (.inl rfl) pe_int)
      (pss_cons (ps_for PassesOwn.never rfl (pi_listK (K := K) rfl (pv 0)) (pg_name (i := 3) sc__law_start.nd rfl (.inl rfl)) (pss_cons (ps_if (pt_cmpR op_ge (pe_callB call_abs (by rfl) B.m_abs (by decide +kernel) (pa_cons (pv 3) pa_nil)) (pe_op op_pow pe_int pe_int) (nomark _)) (pss_one (ps_expr (pe_bmK (K := K) rfl PySem.F.plainAttrs_list PySem.F.slot_list_append PySem.F.type_list_append mt_append (pv 1) (pa_cons (pe_callB call_abs (by rfl) B.m_abs (by decide +kernel) (pa_cons (pv 3) pa_nil)) pa_nil)))) pss_nil)
      (pss_one (ps_set (i := 2) sc__law_start.nd rfl (.inl rfl) (pe_op op_modN (pe_callTy call_int1 (by rfl) B.m_int (by decide +kernel) (pa_cons (pe_op op_add (pe_op op_add (pe_op op_mul (pv 2) pe_int) (pe_callB call_abs (by rfl) B.m_abs (by decide +kernel) (pa_cons (pv 3) pa_nil))) pe_int) pa_nil)) pe_int)))))
      (pss_one (ps_ret (pe_lst (pa_cons (pv 1) (pa_cons pe_int (pa_cons (pv 2) (pa_cons pe_int pa_nil)))))))))), ?_⟩
    walk_at "begin"
    walk_at "go"
    refine ⟨size_nil, fun p np => ?_⟩
    walk_at "go"
    refine r_forS (xs := ns.map V.int) (Same.seq (same_new np) hS) (fun i σ H' => ∃ (gs : List Int) (m : Int) (y : Option V), σ = [some (.ref a), some (.ref p), some (.int m), y] ∧ H' = upd H p (.lst (gs.map V.int)) ∧ gs.length ≤ i ∧ (∀ n ∈ gs, 0 ≤ n) ∧ 0 ≤ m ∧ m < 2147483647) ?_ ?_ ?_ ?_
    · exact ⟨[], 1, none, rfl, rfl, Nat.le_refl _, (fun n hn => nomatch hn), by decide, by decide⟩
    · rintro i σ H' _ ⟨gs, m, y, _, rfl, _⟩
      exact Same.seq (same_new np) hS
    · rintro i x σ H' hx ⟨gs, m, y, rfl, rfl, h1, h2, h3, h4⟩
      obtain ⟨z, rfl⟩ : ∃ z : Int, x = .int z := by
        rw [List.getElem?_map] at hx
        cases e : ns[i]? with
        | none => rw [e] at hx; cases hx
        | some z => rw [e] at hx; exact ⟨z, (Option.some.inj hx).symm⟩
      have hi : i < 63 := by
        have := (List.getElem?_eq_some_iff.mp hx).1
        rw [List.length_map] at this
        omega
      walk_at "go"
      have fm : ∀ t : Int, 0 ≤ t.fmod 2147483647 ∧ t.fmod 2147483647 < 2147483647 := fun t => ⟨Int.fmod_nonneg_of_pos _ (by decide), Int.fmod_lt_of_pos _ (by decide)⟩
      refine r_ite (fun _ => ?_) (fun _ => ?_)
      · walk_at "go"
        refine ⟨gs ++ [if z < 0 then -z else z], _, _, rfl, by rw [upd_upd, List.map_append]; rfl, by rw [List.length_append, List.length_singleton]; omega, fun n hn => ?_, (fm _).1, (fm _).2⟩
        rcases List.mem_append.mp hn with e | e
        · exact h2 n e
        · rw [List.mem_singleton.mp e]; split <;> omega
      · walk_at "go"
        exact ⟨gs, _, _, rfl, rfl, by omega, h2, (fm _).1, (fm _).2⟩
    · rintro σ H' ⟨gs, m, y, rfl, rfl, h1, h2, h3, h4⟩
      walk_at "go"
      refine ⟨size_le (n := 4) rfl (by decide), fun st ns' => ?_⟩
      have hne : st ≠ p := (upd_none ns').1
      rw [List.length_map] at h1
      exact q st p ⟨gs, 0, m, 0⟩ ⟨hne, ⟨Int.le_refl _, by show (0:Int) ≤ (gs.length : Int); omega, h2, by show gs.length ≤ 63; omega⟩, (upd_none ns').2, np⟩
end
end K16
end
section
open PySem PySem.Spec PyProof.Rows L2 Lw
local macro_rules | `(tactic| walk_at "look") => `(tactic| first
  | assumption
  | with_reducible exact upd_same
  | with_reducible exact rg_st
  | with_reducible exact rg_g (by assumption)
  | (with_reducible refine upd_old (by assumption) ?_; walk_at "look")
  | (with_reducible refine rg_get (by assumption) ?_; walk_at "look")
  | (with_reducible refine Same.get (by assumption) ?_; walk_at "look"))
local macro_rules | `(tactic| walk_at "cond") => `(tactic| first
  | (show _ ≠ _; omega) | exact cdivN (by omega) (by omega) | exact cmul_mod (by decide) (by decide) | exact cmulR (by omega) (by omega) | exact cmulL (by omega) (by omega) | exact cpow (by omega) (by omega) (by omega) (by omega) | (show (0:Int) ≤ _; omega))
local macro_rules | `(tactic| walk_at "at") => `(tactic| first | assumption | with_unfolding_all rfl)
local macro_rules | `(tactic| walk_at "sz") => `(tactic| first | assumption | (refine small ?_; omega) | (refine small ?_; simp only [List.length_map, List.length_append, List.length_cons, List.length_nil]; omega))
local macro_rules | `(tactic| walk_at "len") => `(tactic| first | exact size_nil | exact Nat.le_of_lt (small (by simp only [List.length_cons, List.length_nil, List.length_map]; omega)))
local macro_rules | `(tactic| walk_at "newD") => `(tactic| (refine ⟨by walk_at "len", fun p np => ?_⟩; obtain ⟨e, o', hD', n', ne'⟩ := newTD_eq (topRg _ _) (by assumption) (by assumption) np (.lst _); rw [e]; clear e))
local macro_rules | `(tactic| walk_at "new") => `(tactic| (refine ⟨by walk_at "len", fun p np => ?_⟩; obtain ⟨e, o', n'⟩ := newT_eq (topRg _ _) (by assumption) np (.lst _); rw [e]; clear e))
local macro_rules | `(tactic| walk_at "st") => `(tactic| first
  | with_reducible refine r_seq ?_
  | with_reducible refine r_var rfl ?_
  | with_reducible refine r_c ?_
  | with_reducible refine r_asg ?_
  | (with_reducible refine r_name ?_; dsimp only [List.set_cons_zero, List.set_cons_succ])
  | with_reducible refine r_sub ?_
  | with_reducible refine r_op ?_
  | with_reducible refine r_i0 ?_
  | (with_reducible refine' r_i ?k1 ?_; (case k1 => walk_at "cond"))
  | with_reducible refine r_cons ?_
  | with_reducible refine r_nil ?_
  | with_reducible refine r_cb ?_
  | with_reducible refine r_call ?_
  | with_reducible refine r_ifs ?_
  | with_reducible refine r_test ?_
  | with_reducible refine r_tB ?_
  | with_reducible refine r_bl ?_
  | with_reducible refine r_ret ?_
  | with_reducible refine r_drop ?_
  | with_reducible refine r_next ?_
  | (with_reducible refine' r_ixL ?k1 ?k2 ?_; (case k1 => walk_at "look"); (case k2 => walk_at "at"))
  | (with_reducible refine' r_setL ?k1 ?k2 ?_; (case k1 => walk_at "look"); (case k2 => walk_at "at"))
  | (with_reducible refine' r_tup (SqT.of ?k1) ?k2 ?_; (case k1 => walk_at "look"); (case k2 => rfl))
  | with_reducible refine r_gcons ?_
  | with_reducible refine r_gnil ?_
  | with_reducible refine r_aug rfl ?_
  | with_reducible refine r_augS ?_
  | with_reducible refine r_ipI ?_
  | with_reducible refine r_un ?_
  | with_reducible refine r_u ?_
  | with_reducible refine r_eq rfl ?_
  | with_reducible refine r_ne rfl ?_
  | with_reducible refine r_chain ?_
  | with_reducible refine iteF ?_
  | with_reducible refine r_not ?_
  | with_reducible refine r_and ?_
  | with_reducible refine r_or ?_
  | with_reducible refine r_andV ?_
  | with_reducible refine r_orV ?_
  | with_reducible refine r_notV ?_
  | with_reducible refine r_lst ?_
  | with_reducible refine r_bm ?_
  | with_reducible refine r_bm0 ?_
  | (with_reducible refine' And.intro (r_ty ?k1) ?_; (case k1 => walk_at "look"))
  | (with_reducible refine' r_append ?k1 ?k2 ?_; (case k1 => walk_at "look"); (case k2 => walk_at "sz"))
  | (with_reducible refine' r_lenK ?k1 ?_; (case k1 => walk_at "look"))
  | (with_reducible refine' r_listOf ?k1 ?_; (case k1 => walk_at "look"))
  | (with_reducible refine' r_sortedI ?k1 ?_; (case k1 => walk_at "look"))
  | (with_reducible refine' r_sum ?k1 ?_; (case k1 => walk_at "look"))
  | with_reducible refine r_int ?_
  | (with_reducible refine' r_draw (by assumption) ?k1 ?k2 ?_; (case k1 => omega); (case k2 => omega); intro R' n' o' h' h'')
  | with_reducible refine iteT ?_
  | with_reducible refine r_revL ?_
  | with_reducible refine r_lc ?_
  | with_reducible refine r_yes ?_
  | with_reducible refine r_sl ?_
  | with_reducible refine iteNTr ?_
  | with_reducible refine iteNFa ?_
  | with_reducible refine r_fld ?_
  | with_reducible refine r_sFld ?_
  | with_reducible refine r_meth ?_
  | with_reducible refine r_methT ?_
  | with_reducible refine r_prop ?_
  | with_reducible refine r_dget ?_
  | with_reducible refine r_dput ?_
  | with_reducible refine r_noPart ?_
  | with_reducible refine r_part ?_
  | with_reducible refine r_lc2 ?_
  | with_reducible refine r_callN ?_
  | with_reducible refine r_callD ?_
  | with_reducible refine r_tupE ?_
  | with_reducible refine r_rng2 ?_
  | with_reducible refine r_i1 ?_
  | (with_reducible refine' r_slL ?k1 ?_; (case k1 => walk_at "look"))
  | with_reducible refine r_for ?_
  | with_reducible refine r_iList ?_
  | with_reducible refine r_rng1 ?_
  | with_reducible refine r_enum ?_
  | (with_reducible show Ends.nx _ _ _; dsimp only)
  | (with_reducible show Ends.rt _ _ _; dsimp only)
  | (with_reducible show Ends.ct _ _ _; dsimp only)
  | (with_reducible show Ends.bk _ _ _; dsimp only))
local macro_rules | `(tactic| walk_at "go") => `(tactic| repeat (walk_at "st"))
local macro_rules | `(tactic| walk_at "begin") => `(tactic| dsimp only [cxOf, wipe, L2.start, List.map, List.length_cons, List.length_nil, Nat.reduceAdd, Nat.reduceSub, List.replicate, List.cons_append, List.nil_append])
namespace K16
open PySem PySem.Spec PyProof.Rows L2 Lw
open Sy (Bd Sg Op Fk Jn Bk)
open Shp (rSg isNm firsts)
def spLaw (K : PySem.W.Frag) : Sp := fun vs H Q _ => ∃ (a : Addr) (ns : List Int), vs = [.ref a] ∧ SqL K H a (ns.map V.int) ∧ ns.length ≤ 63 ∧ ∀ H', Q (.bl true) H'
theorem pick_ints (l : List Int) {z : Int} (h0 : 0 ≤ z) (h1 : z < (l.length : Int)) : ∃ v, v ∈ l ∧ atI (l.map V.int) z = some (.int v) := by
  obtain ⟨v, hv⟩ : ∃ v, l[z.toNat]? = some v := ⟨_, List.getElem?_eq_getElem (by omega)⟩
  refine ⟨v, List.mem_of_getElem? hv, ?_⟩
  have := at_int hv
  rwa [Int.toNat_of_nonneg h0] at this
theorem ShAt.same {K : PySem.W.Frag} {CS : Addr} {H H' : Hp} {x : Addr} {v : V} {s : Sg} (h : ShAt K CS H x v s) (t : Same H H') : ShAt K CS H' x v s := by
  obtain ⟨dx, e, w, al, hl, fl, W, D, hs, l, h1, h2, h3, h4, h5, h6, h7, h8, h9, h10⟩ := h
  exact ⟨dx, e, w, al, hl, fl, W, D, hs, l, t _ _ h1, h2.mono t, h3.mono t, t _ _ h4, h5, h6, h7, t _ _ h8, h9, t _ _ h10⟩
section
variable {P : Program} {w : World} {K : PySem.W.Frag} {mg : Str → Option Value} {base : Heap} {CS : Addr}
theorem ok_law {f fSh fDr fSt fRn fPk fBu fSz fIs : Addr} {fd dSh dDr dSt dRn dPk dBu dSz dIs : FuncData} (B : Blt mg) (D : Dn K mg "law" s_law ["script"] f fd)
    (MS : Mk K CS fSh) (gS : mg "Shape" = some (.ref CS)) (bS : Binds K dSh ["self", "saying"] []) (G_sh : FnOk P w K mg base CX0 185 fSh dSh ["self", "saying"] (spShI K CS 60))
    (D_law_draw : Dn K mg "_law_draw" s__law_draw ["state", "many"] fDr dDr) (G_law_draw : FnOk P w K mg base CX0 1 fDr dDr ["state", "many"] spDraw)
    (D_law_start : Dn K mg "_law_start" s__law_start ["script"] fSt dSt) (G_law_start : FnOk P w K mg base CX0 1 fSt dSt ["script"] (spStart K))
    (D_law_row_of_names : Dn K mg "_law_row_of_names" s__law_row_of_names ["state", "many"] fRn dRn) (G_law_row_of_names : FnOk P w K mg base CX0 3 fRn dRn ["state", "many"] spRown)
    (D_law_pick : Dn K mg "_law_pick" s__law_pick ["state", "row"] fPk dPk) (G_law_pick : FnOk P w K mg base CX0 2 fPk dPk ["state", "row"] spPickV)
    (D_law_built : Dn K mg "_law_built" s__law_built ["state", "names", "steps", "most"] fBu dBu) (G_law_built : FnOk P w K mg base CX0 62 fBu dBu ["state", "names", "steps", "most"] (spBu K))
    (D_law_size : Dn K mg "_law_size" s__law_size ["tree"] fSz dSz) (G_law_size : FnOk P w K mg base CX0 (1 + 60) fSz dSz ["tree"] (spSz K 60))
    (D_law_is_due : Dn K mg "_law_is_due" s__law_is_due ["shape", "saying"] fIs dIs) (G_law_is_due : FnOk P w K mg base CX0 184 fIs dIs ["shape", "saying"] (spIs K CS 60)) :
    FnOk P w K mg base CX0 187 f fd ["script"] (spLaw K) := by
  refine D.F.ok (k := 186) sc_law (fun vs H Q E h => ?_) (fun cdv A outer s H vs Q E hr h => ?_)
  · obtain ⟨a, ns, rfl, _⟩ := h
    rfl
  · obtain ⟨a, ins, rfl, hS, hlen, q⟩ := h
    refine ⟨_, (pss_cons (ps_set (i := 1) sc_law.nd rfl (.inl rfl) (pe_call G_law_start (hr.mono (by omega)) (by rfl) D_law_start.g D_law_start.F.kp D_law_start.b .nil pass0 (pa_cons (pv 0) pa_nil)))
      (pss_cons (ps_set (i := 2) sc_law.nd rfl (.inl rfl) (pe_call G_law_row_of_names (hr.mono (by omega)) (by rfl) D_law_row_of_names.g D_law_row_of_names.F.kp D_law_row_of_names.b .nil pass0 (pa_cons (pv 1) (pa_cons (pe_ix (ix_listK (K := K) rfl) (pe_lst (pa_cons pe_int (pa_cons pe_int (pa_cons pe_int (pa_cons pe_int (pa_cons pe_int (pa_cons pe_int (pa_cons pe_int (pa_cons pe_int pa_nil))))))))) (pe_call G_law_draw (hr.mono (by omega)) (by rfl) D_law_draw.g D_law_draw.F.kp D_law_draw.b .nil pass0 (pa_cons (pv 1) (pa_cons pe_int pa_nil))) (fun _ _ => rfl)) pa_nil))))
      (pss_cons (ps_set (i := 3) sc_law.nd rfl (.inl rfl) (pe_ix (ix_listK (K := K) rfl) (pe_lst (pa_cons pe_int (pa_cons pe_int (pa_cons pe_int (pa_cons pe_int pa_nil))))) (pe_call G_law_draw (hr.mono (by omega)) (by rfl) D_law_draw.g D_law_draw.F.kp D_law_draw.b .nil pass0 (pa_cons (pv 1) (pa_cons pe_int pa_nil))) (fun _ _ => rfl)))
      (pss_cons (ps_set (i := 4) sc_law.nd rfl (.inl rfl) (pe_call G_law_built (hr.mono (by omega)) (by rfl) D_law_built.g D_law_built.F.kp D_law_built.b .nil pass0 (pa_cons (pv 1) (pa_cons (pv 2) (pa_cons (pe_call G_law_draw (hr.mono (by omega)) (by rfl) D_law_draw.g D_law_draw.F.kp D_law_draw.b .nil pass0 (pa_cons (pv 1) (pa_cons pe_int pa_nil))) (pa_cons (pv 3) pa_nil))))))
      (pss_cons (ps_set (i := 5) sc_law.nd rfl (.inl rfl) (pe_ix (ix_listK (K := K) rfl) (pv 4) (pe_un un_neg pe_int) (fun _ _ => rfl)))
      (pss_cons (ps_set (i := 6) sc_law.nd rfl (.inl rfl) (pe_call G_law_pick (hr.mono (by omega)) (by rfl) D_law_pick.g D_law_pick.F.kp D_law_pick.b .nil pass0 (pa_cons (pv 1) (pa_cons (pv 4) pa_nil))))
      (pss_cons (ps_set (i := 7) sc_law.nd rfl (.inl rfl) (pv 6))
      (C8.pss_cut (ps_if (pt_cmpR op_le (pe_op op_add (pe_op op_add pe_int (pe_call G_law_size (hr.mono (by omega)) (by rfl) D_law_size.g D_law_size.F.kp D_law_size.b .nil pass0 (pa_cons (pv 5) pa_nil))) (pe_call G_law_size (hr.mono (by omega)) (by rfl) D_law_size.g D_law_size.F.kp D_law_size.b .nil pass0 (pa_cons (pv 6) pa_nil))) pe_int (nomark _)) (pss_one (ps_set (i := 7) sc_law.nd rfl (.inl rfl) (pe_tup (pa_cons pe_str (pa_cons (pv 5) (pa_cons (pv 6) pa_nil)))))) pss_nil)
      (pss_cons (ps_set (i := 8) sc_law.nd rfl (.inl rfl) (pe_make MS G_sh (hr.mono (by omega)) (by rfl) gS bS .nil pass0 (pa_cons (pv 5) pa_nil)))
      (pss_cons (ps_if (pt_not (pt_val (pe_call G_law_is_due (hr.mono (by omega)) (by rfl) D_law_is_due.g D_law_is_due.F.kp D_law_is_due.b .nil pass0 (pa_cons (pv 8) (pa_cons (pv 5) pa_nil))))) (pss_one (ps_ret pe_bl)) pss_nil)
      (pss_cons (ps_if (PW.pt (pw_or (pt_not (pt_val (pe_call G_law_is_due (hr.mono (by omega)) (by rfl) D_law_is_due.g D_law_is_due.F.kp D_law_is_due.b .nil pass0 (pa_cons (pe_make MS G_sh (hr.mono (by omega)) (by rfl) gS bS .nil pass0 (pa_cons (pv 6) pa_nil)) (pa_cons (pv 6) pa_nil))))) (pw_or1 (pt_not (pt_val (pe_call G_law_is_due (hr.mono (by omega)) (by rfl) D_law_is_due.g D_law_is_due.F.kp D_law_is_due.b .nil pass0 (pa_cons (pe_make MS G_sh (hr.mono (by omega)) (by rfl) gS bS .nil pass0 (pa_cons (pv 7) pa_nil)) (pa_cons (pv 7) pa_nil)))))))) (pss_one (ps_ret pe_bl)) pss_nil)
      (pss_one (ps_ret (pe_call G_law_is_due (hr.mono (by omega)) (by rfl) D_law_is_due.g D_law_is_due.F.kp D_law_is_due.b .nil pass0 (pa_cons (pv 8) (pa_cons (pv 5) pa_nil)))))))))))))))), ?_⟩
    walk_at "begin"
    walk_at "go"
    refine ⟨a, ins, rfl, hS, hlen, fun st g R o => ?_⟩
    clear hS hlen
    walk_at "go"
    refine ⟨by walk_at "len", fun D1 nD1 => ?_⟩
    obtain ⟨e1, o1, n1⟩ := newT_eq (topRg st g) o nD1 (.lst [.int 2, .int 0, .int 1, .int 3, .int 3, .int 4, .int 2, .int 1])
    rw [e1]
    clear e1 nD1
    walk_at "go"
    rename_i R1 z1 o2 h10 h11
    obtain ⟨v1, hv1, hat1⟩ := pick_ints [2, 0, 1, 3, 3, 4, 2, 1] h10 h11
    have hb1 : 0 ≤ v1 ∧ v1 ≤ 4 := (show ∀ v ∈ ([2, 0, 1, 3, 3, 4, 2, 1] : List Int), 0 ≤ v ∧ v ≤ 4 by decide) v1 hv1
    refine r_ixL (rg_get o2 upd_same) hat1 ?_
    obtain ⟨nv, rfl⟩ : ∃ k : Nat, v1 = (k : Int) := ⟨v1.toNat, by omega⟩
    clear hat1
    walk_at "go"
    refine ⟨st, g, R1, _, nv, rfl, rfl, o2, by omega, fun R2 C2 nl ns o3 s2 hnl _ hn2 hn3 => ?_⟩
    have hn4 : ns.length ≤ 4 := by omega
    clear o1 o2 hb1 hv1 h10 h11 n1 s2
    walk_at "go"
    refine ⟨by walk_at "len", fun D2 nD2 => ?_⟩
    obtain ⟨e2, o4, n4⟩ := newT_eq (topRg st g) o3 nD2 (.lst [.int 24, .int 60, .int 60, .int 200])
    rw [e2]
    clear e2 nD2
    have s4 := same_new (o := HO.lst [.int 24, .int 60, .int 60, .int 200]) n4
    walk_at "go"
    rename_i R3 z3 o5 h30 h31
    obtain ⟨v3, hv3, hat3⟩ := pick_ints [24, 60, 60, 200] h30 h31
    have hb3 : 0 ≤ v3 ∧ v3 ≤ 200 := (show ∀ v ∈ ([24, 60, 60, 200] : List Int), 0 ≤ v ∧ v ≤ 200 by decide) v3 hv3
    refine r_ixL (rg_get o5 upd_same) hat3 ?_
    obtain ⟨mv, rfl⟩ : ∃ k : Nat, v3 = (k : Int) := ⟨v3.toNat, by omega⟩
    clear hat3
    have hnl5 := s4 _ _ hnl
    generalize upd C2 D2 (.lst [.int 24, .int 60, .int 60, .int 200]) = C5 at o5 o4 hnl5 s4 ⊢
    clear s4 hnl o4 n4
    walk_at "go"
    rename_i R4 z4 o6 h40 h41
    obtain ⟨sv, rfl⟩ : ∃ k : Nat, z4 = (k : Int) := ⟨z4.toNat, by omega⟩
    refine ⟨st, g, nl, R4, C5, ns, sv, mv, rfl, rfl, o6, hnl5, by omega, hn3, by omega, by omega, fun R6 C6 pz zs o7 s6 hpz l1 l2 hz => ?_⟩
    clear o3 o5 o6 hb3 hv3
    obtain ⟨z0, u9, ez⟩ : ∃ z0 u9, zs = z0 ++ [u9] := ⟨_, _, (List.dropLast_concat_getLast (by intro e; rw [e] at l1; exact absurd l1 (by decide))).symm⟩
    have at9 : atI zs (-1) = some u9 := by rw [ez]; exact last_at
    obtain ⟨t1, a1, a2, a3, a4⟩ := hz u9 (by rw [ez]; simp)
    walk_at "go"
    refine ⟨st, g, pz, R6, C6, zs, rfl, rfl, o7, hpz, l1, by omega, fun R7 i7 u7 o8 hu7 => ?_⟩
    obtain ⟨t2, b1, b2, b3, b4⟩ := hz _ (List.mem_of_getElem? hu7)
    walk_at "go"
    have a1 : Tv K (rg st g R7 C6) u9 t1.d := ⟨dp_rg o8 a1.1, a1.2⟩
    have b1 : Tv K (rg st g R7 C6) u7 t2.d := ⟨dp_rg o8 b1.1, b1.2⟩
    generalize rg st g R7 C6 = H0 at a1 b1 ⊢
    clear hz l1 l2 hpz at9 o7 o8 hu7 s6 hnl5
    refine ⟨fun σ H1 => ∃ (v3 : V) (t3 : Sg), σ = [some (.ref a), some (.ref st), some (.ref nl), some (.int ((mv : Nat) : Int)), some (.ref pz), some u9, some u7, some v3, none] ∧ Same H0 H1 ∧ Tv K H1 v3 t3.d ∧ t3.d.depth ≤ 44 ∧ t3.sz ≤ 200 ∧ ∀ x ∈ t3.ns, x ∈ ns, ?_, ?_⟩
    · walk_at "go"
      refine ⟨u9, t1.d, t1.sz, rfl, a1.1, Sy.Sg.pt t1, by omega, by omega, fun H2 s2 => ?_⟩
      walk_at "go"
      refine ⟨u7, t2.d, t2.sz, rfl, dp_mono s2 b1.1, Sy.Sg.pt t2, by omega, by omega, fun H3 s3 => ?_⟩
      walk_at "go"
      refine r_ite (fun z => ?_) (fun z => ?_)
      · walk_at "go"
        refine ⟨by walk_at "len", fun p3 np3 => ?_⟩
        have s4 := (s2.trans s3).trans (same_new (o := HO.tup [.str "then", u9, u7]) np3)
        walk_at "go"
        refine ⟨.ref p3, .bin .thn t1 t2, rfl, s4, tv_mk2 (by decide +kernel) upd_same (a1.mono s4) (b1.mono s4), ?_, ?_, fun x hx => (List.mem_append.mp hx).elim (a4 x) (b4 x)⟩
        · show (PyData.tuple [.str "then", t1.d, t2.d]).depth ≤ 44
          rw [dep2]; omega
        · show t1.sz + t2.sz + 1 ≤ 200; omega
      · walk_at "go"
        exact ⟨u7, t2, rfl, s2.trans s3, (b1.mono s2).mono s3, by omega, by omega, b4⟩
    rintro σ H1 ⟨v3, t3, rfl, s1, c1, c2, c3, c4⟩
    have a1 := a1.mono s1
    have b1 := b1.mono s1
    clear s1
    have mkS : ∀ {H2 : Hp} {v : V} {t : Sg} {F : Addr → Hp → Prop}, Tv K H2 v t.d → t.d.depth ≤ 44 → t.sz ≤ 200 → (∀ x ∈ t.ns, x ∈ ns) → (∀ x H3, Same H2 H3 → ShAt K CS H3 x v t → F x H3) →
        ∀ x dx, H2 x = none → H2 dx = none → dx ≠ x → spShI K CS 60 (.ref x :: ([v] ++ [])) (upd (upd H2 dx (.own x)) x (.ins CS dx [])) (fun v' H4 => v' = .non ∧ F x H4) E0 := by
      intro H2 v t F h1 h2 h3 h4 h5 x dx nx ndx hne
      have sb : Same H2 (upd (upd H2 dx (.own x)) x (.ins CS dx [])) := (same_new ndx).trans (same_new (by rw [upd_ne hne.symm]; exact nx))
      refine ⟨x, dx, v, t, rfl, upd_same, h1.mono sb, by omega, by decide, h3, ⟨ns, by omega, h4⟩, fun H3 k3 hs => ⟨rfl, h5 x H3 ?_ hs⟩⟩
      exact fun c o e => k3 c o (sb c o e) fun z => by rw [show c = x from z, nx] at e; cases e
    walk_at "go"
    refine r_make ?_
    walk_at "go"
    refine mkS a1 (by omega) (by omega) a4 fun x1 H2 s2 h2 => ?_
    have a1 := a1.mono s2
    have b1 := b1.mono s2
    have c1 := c1.mono s2
    walk_at "go"
    refine ⟨x1, u9, u9, t1, rfl, h2, a1, a1, by omega, by omega, fun H3 s3 => ?_⟩
    have a1 := a1.mono s3
    have b1 := b1.mono s3
    have c1 := c1.mono s3
    have h2 := h2.same s3
    walk_at "go"
    refine r_make ?_
    walk_at "go"
    refine mkS b1 (by omega) (by omega) b4 fun x2 H4 s4 h4 => ?_
    have a1 := a1.mono s4
    have b1 := b1.mono s4
    have c1 := c1.mono s4
    have h2 := h2.same s4
    walk_at "go"
    refine ⟨x2, u7, u7, t2, rfl, h4, b1, b1, by omega, by omega, fun H5 s5 => ?_⟩
    have a1 := a1.mono s5
    have c1 := c1.mono s5
    have h2 := h2.same s5
    walk_at "go"
    refine r_make ?_
    walk_at "go"
    refine mkS c1 (by omega) (by omega) c4 fun x3 H6 s6 h6 => ?_
    have a1 := a1.mono s6
    have c1 := c1.mono s6
    have h2 := h2.same s6
    walk_at "go"
    refine ⟨x3, v3, v3, t3, rfl, h6, c1, c1, by omega, by omega, fun H7 s7 => ?_⟩
    have a1 := a1.mono s7
    have h2 := h2.same s7
    walk_at "go"
    refine ⟨x1, u9, u9, t1, rfl, h2, a1, a1, by omega, by omega, fun H8 s8 => ?_⟩
    walk_at "go"
    exact q H8
end
end K16
end
namespace K16
open PySem PySem.Spec PyProof.Rows L2 Lw
theorem all_mk {P : Program} {w : World} {K : PySem.W.Frag} {h : Heap} {mg : Str → Option Value} {fa f1 f2 f3 f4 f5 f6 f7 f8 f9 f10 f11 f12 f13 f14 f15 f16 f17 f18 f19 f20 f21 f22 f23 f24 f25 f26 f27 f28 : Addr} (X : K.In h) (G : h.Ns mainGlobals mg) (hfa : mg "law" = some (.ref fa))
    {od1 od2 od3 od4 od5 od6 od7 od8 od9 od10 od11 od12 od13 od14 od15 od16 od17 od18 od19 od20 od21 od22 od23 od24 od25 od26 od27 od28 an1 an2 an3 an4 an5 an6 an7 an8 an9 an10 an11 an12 an13 an14 an15 an16 an17 an18 an19 an20 an21 an22 an23 an24 an25 an26 an27 an28 : Option Addr} {sl1 sl2 sl3 sl4 sl5 sl6 sl7 sl8 sl9 sl10 sl11 sl12 sl13 sl14 sl15 sl16 sl17 sl18 sl19 sl20 sl21 sl22 sl23 sl24 sl25 sl26 sl27 sl28 : Array (Option Value)} {oc1 oc2 oc3 oc4 oc5 oc6 oc7 oc8 oc9 oc10 oc11 oc12 oc13 oc14 oc15 oc16 oc17 oc18 oc19 oc20 oc21 oc22 oc23 oc24 oc25 oc26 oc27 oc28 dc1 dc2 dc3 dc4 dc5 dc6 dc7 dc8 dc9 dc10 dc11 dc12 dc13 dc14 dc15 dc16 dc17 dc18 dc19 dc20 dc21 dc22 dc23 dc24 dc25 dc26 dc27 dc28 pm1 pm2 pm3 pm4 pm5 pm6 pm7 pm8 pm9 pm10 pm11 pm12 pm13 pm14 pm15 pm16 pm17 pm18 pm19 pm20 pm21 pm22 pm23 pm24 pm25 pm26 pm27 pm28 cd1 cd2 cd3 cd4 cd5 cd6 cd7 cd8 cd9 cd10 cd11 cd12 cd13 cd14 cd15 cd16 cd17 cd18 cd19 cd20 cd21 cd22 cd23 cd24 cd25 cd26 cd27 cd28 ct1 ct2 ct3 ct4 ct5 ct6 ct7 ct8 ct9 ct10 ct11 ct12 ct13 ct14 ct15 ct16 ct17 ct18 ct19 ct20 ct21 ct22 ct23 ct24 ct25 ct26 ct27 ct28 kV1 kV2 kV3 kV4 kV5 kV6 kV7 kV8 kV9 kV10 kV11 kV12 kV13 kV14 kV15 kV16 kV17 kV18 kV19 kV20 kV21 kV22 kV23 kV24 kV25 kV26 kV27 kV28 : Value}
    (a1 : PySem.W.nsIn K mainGlobals "division_counts" = some (some (.ref f1))) (l1 : K.lookup f1 = some ⟨oc1, od1, .func (PySem.W.fnOf "division_counts" "division_counts" (defArgs s_division_counts) (defBody s_division_counts) (defScope s_division_counts) .none kV1 dc1 pm1 an1 cd1 ct1), sl1⟩) (c1 : PySem.W.codeIn K cd1 "division_counts" = true) (k1 : PySem.W.keepIn K (.ref f1) = true)
    (a2 : PySem.W.nsIn K mainGlobals "doubled" = some (some (.ref f2))) (l2 : K.lookup f2 = some ⟨oc2, od2, .func (PySem.W.fnOf "doubled" "doubled" (defArgs s_doubled) (defBody s_doubled) (defScope s_doubled) .none kV2 dc2 pm2 an2 cd2 ct2), sl2⟩) (c2 : PySem.W.codeIn K cd2 "doubled" = true) (k2 : PySem.W.keepIn K (.ref f2) = true)
    (a3 : PySem.W.nsIn K mainGlobals "weight_of" = some (some (.ref f3))) (l3 : K.lookup f3 = some ⟨oc3, od3, .func (PySem.W.fnOf "weight_of" "weight_of" (defArgs s_weight_of) (defBody s_weight_of) (defScope s_weight_of) .none kV3 dc3 pm3 an3 cd3 ct3), sl3⟩) (c3 : PySem.W.codeIn K cd3 "weight_of" = true) (k3 : PySem.W.keepIn K (.ref f3) = true)
    (a4 : PySem.W.nsIn K mainGlobals "depth_of" = some (some (.ref f4))) (l4 : K.lookup f4 = some ⟨oc4, od4, .func (PySem.W.fnOf "depth_of" "depth_of" (defArgs s_depth_of) (defBody s_depth_of) (defScope s_depth_of) .none kV4 dc4 pm4 an4 cd4 ct4), sl4⟩) (c4 : PySem.W.codeIn K cd4 "depth_of" = true) (k4 : PySem.W.keepIn K (.ref f4) = true)
    (a5 : PySem.W.nsIn K mainGlobals "is_name_term" = some (some (.ref f5))) (l5 : K.lookup f5 = some ⟨oc5, od5, .func (PySem.W.fnOf "is_name_term" "is_name_term" (defArgs s_is_name_term) (defBody s_is_name_term) (defScope s_is_name_term) .none kV5 dc5 pm5 an5 cd5 ct5), sl5⟩) (c5 : PySem.W.codeIn K cd5 "is_name_term" = true) (k5 : PySem.W.keepIn K (.ref f5) = true)
    (a6 : PySem.W.nsIn K mainGlobals "outer_names" = some (some (.ref f6))) (l6 : K.lookup f6 = some ⟨oc6, od6, .func (PySem.W.fnOf "outer_names" "outer_names" (defArgs s_outer_names) (defBody s_outer_names) (defScope s_outer_names) .none kV6 dc6 pm6 an6 cd6 ct6), sl6⟩) (c6 : PySem.W.codeIn K cd6 "outer_names" = true) (k6 : PySem.W.keepIn K (.ref f6) = true)
    (a7 : PySem.W.nsIn K mainGlobals "wide_fact_of" = some (some (.ref f7))) (l7 : K.lookup f7 = some ⟨oc7, od7, .func (PySem.W.fnOf "wide_fact_of" "wide_fact_of" (defArgs s_wide_fact_of) (defBody s_wide_fact_of) (defScope s_wide_fact_of) .none kV7 dc7 pm7 an7 cd7 ct7), sl7⟩) (c7 : PySem.W.codeIn K cd7 "wide_fact_of" = true) (k7 : PySem.W.keepIn K (.ref f7) = true)
    (a8 : PySem.W.nsIn K mainGlobals "_law_start" = some (some (.ref f8))) (l8 : K.lookup f8 = some ⟨oc8, od8, .func (PySem.W.fnOf "_law_start" "_law_start" (defArgs s__law_start) (defBody s__law_start) (defScope s__law_start) .none kV8 dc8 pm8 an8 cd8 ct8), sl8⟩) (c8 : PySem.W.codeIn K cd8 "_law_start" = true) (k8 : PySem.W.keepIn K (.ref f8) = true)
    (a9 : PySem.W.nsIn K mainGlobals "_law_draw" = some (some (.ref f9))) (l9 : K.lookup f9 = some ⟨oc9, od9, .func (PySem.W.fnOf "_law_draw" "_law_draw" (defArgs s__law_draw) (defBody s__law_draw) (defScope s__law_draw) .none kV9 dc9 pm9 an9 cd9 ct9), sl9⟩) (c9 : PySem.W.codeIn K cd9 "_law_draw" = true) (k9 : PySem.W.keepIn K (.ref f9) = true)
    (a10 : PySem.W.nsIn K mainGlobals "_law_pick" = some (some (.ref f10))) (l10 : K.lookup f10 = some ⟨oc10, od10, .func (PySem.W.fnOf "_law_pick" "_law_pick" (defArgs s__law_pick) (defBody s__law_pick) (defScope s__law_pick) .none kV10 dc10 pm10 an10 cd10 ct10), sl10⟩) (c10 : PySem.W.codeIn K cd10 "_law_pick" = true) (k10 : PySem.W.keepIn K (.ref f10) = true)
    (a11 : PySem.W.nsIn K mainGlobals "_law_size" = some (some (.ref f11))) (l11 : K.lookup f11 = some ⟨oc11, od11, .func (PySem.W.fnOf "_law_size" "_law_size" (defArgs s__law_size) (defBody s__law_size) (defScope s__law_size) .none kV11 dc11 pm11 an11 cd11 ct11), sl11⟩) (c11 : PySem.W.codeIn K cd11 "_law_size" = true) (k11 : PySem.W.keepIn K (.ref f11) = true)
    (a12 : PySem.W.nsIn K mainGlobals "_law_name" = some (some (.ref f12))) (l12 : K.lookup f12 = some ⟨oc12, od12, .func (PySem.W.fnOf "_law_name" "_law_name" (defArgs s__law_name) (defBody s__law_name) (defScope s__law_name) .none kV12 dc12 pm12 an12 cd12 ct12), sl12⟩) (c12 : PySem.W.codeIn K cd12 "_law_name" = true) (k12 : PySem.W.keepIn K (.ref f12) = true)
    (a13 : PySem.W.nsIn K mainGlobals "_law_row_of_names" = some (some (.ref f13))) (l13 : K.lookup f13 = some ⟨oc13, od13, .func (PySem.W.fnOf "_law_row_of_names" "_law_row_of_names" (defArgs s__law_row_of_names) (defBody s__law_row_of_names) (defScope s__law_row_of_names) .none kV13 dc13 pm13 an13 cd13 ct13), sl13⟩) (c13 : PySem.W.codeIn K cd13 "_law_row_of_names" = true) (k13 : PySem.W.keepIn K (.ref f13) = true)
    (a14 : PySem.W.nsIn K mainGlobals "_law_new_term" = some (some (.ref f14))) (l14 : K.lookup f14 = some ⟨oc14, od14, .func (PySem.W.fnOf "_law_new_term" "_law_new_term" (defArgs s__law_new_term) (defBody s__law_new_term) (defScope s__law_new_term) .none kV14 dc14 pm14 an14 cd14 ct14), sl14⟩) (c14 : PySem.W.codeIn K cd14 "_law_new_term" = true) (k14 : PySem.W.keepIn K (.ref f14) = true)
    (a15 : PySem.W.nsIn K mainGlobals "_law_new_body" = some (some (.ref f15))) (l15 : K.lookup f15 = some ⟨oc15, od15, .func (PySem.W.fnOf "_law_new_body" "_law_new_body" (defArgs s__law_new_body) (defBody s__law_new_body) (defScope s__law_new_body) .none kV15 dc15 pm15 an15 cd15 ct15), sl15⟩) (c15 : PySem.W.codeIn K cd15 "_law_new_body" = true) (k15 : PySem.W.keepIn K (.ref f15) = true)
    (a16 : PySem.W.nsIn K mainGlobals "_law_new_saying" = some (some (.ref f16))) (l16 : K.lookup f16 = some ⟨oc16, od16, .func (PySem.W.fnOf "_law_new_saying" "_law_new_saying" (defArgs s__law_new_saying) (defBody s__law_new_saying) (defScope s__law_new_saying) .none kV16 dc16 pm16 an16 cd16 ct16), sl16⟩) (c16 : PySem.W.codeIn K cd16 "_law_new_saying" = true) (k16 : PySem.W.keepIn K (.ref f16) = true)
    (a17 : PySem.W.nsIn K mainGlobals "_law_built" = some (some (.ref f17))) (l17 : K.lookup f17 = some ⟨oc17, od17, .func (PySem.W.fnOf "_law_built" "_law_built" (defArgs s__law_built) (defBody s__law_built) (defScope s__law_built) .none kV17 dc17 pm17 an17 cd17 ct17), sl17⟩) (c17 : PySem.W.codeIn K cd17 "_law_built" = true) (k17 : PySem.W.keepIn K (.ref f17) = true)
    (a18 : PySem.W.nsIn K mainGlobals "_law_term_rows" = some (some (.ref f18))) (l18 : K.lookup f18 = some ⟨oc18, od18, .func (PySem.W.fnOf "_law_term_rows" "_law_term_rows" (defArgs s__law_term_rows) (defBody s__law_term_rows) (defScope s__law_term_rows) .none kV18 dc18 pm18 an18 cd18 ct18), sl18⟩) (c18 : PySem.W.codeIn K cd18 "_law_term_rows" = true) (k18 : PySem.W.keepIn K (.ref f18) = true)
    (a19 : PySem.W.nsIn K mainGlobals "_law_element_rows" = some (some (.ref f19))) (l19 : K.lookup f19 = some ⟨oc19, od19, .func (PySem.W.fnOf "_law_element_rows" "_law_element_rows" (defArgs s__law_element_rows) (defBody s__law_element_rows) (defScope s__law_element_rows) .none kV19 dc19 pm19 an19 cd19 ct19), sl19⟩) (c19 : PySem.W.codeIn K cd19 "_law_element_rows" = true) (k19 : PySem.W.keepIn K (.ref f19) = true)
    (a20 : PySem.W.nsIn K mainGlobals "_law_holding_rows" = some (some (.ref f20))) (l20 : K.lookup f20 = some ⟨oc20, od20, .func (PySem.W.fnOf "_law_holding_rows" "_law_holding_rows" (defArgs s__law_holding_rows) (defBody s__law_holding_rows) (defScope s__law_holding_rows) .none kV20 dc20 pm20 an20 cd20 ct20), sl20⟩) (c20 : PySem.W.codeIn K cd20 "_law_holding_rows" = true) (k20 : PySem.W.keepIn K (.ref f20) = true)
    (a21 : PySem.W.nsIn K mainGlobals "_law_body_rows" = some (some (.ref f21))) (l21 : K.lookup f21 = some ⟨oc21, od21, .func (PySem.W.fnOf "_law_body_rows" "_law_body_rows" (defArgs s__law_body_rows) (defBody s__law_body_rows) (defScope s__law_body_rows) .none kV21 dc21 pm21 an21 cd21 ct21), sl21⟩) (c21 : PySem.W.codeIn K cd21 "_law_body_rows" = true) (k21 : PySem.W.keepIn K (.ref f21) = true)
    (a22 : PySem.W.nsIn K mainGlobals "_law_rows" = some (some (.ref f22))) (l22 : K.lookup f22 = some ⟨oc22, od22, .func (PySem.W.fnOf "_law_rows" "_law_rows" (defArgs s__law_rows) (defBody s__law_rows) (defScope s__law_rows) .none kV22 dc22 pm22 an22 cd22 ct22), sl22⟩) (c22 : PySem.W.codeIn K cd22 "_law_rows" = true) (k22 : PySem.W.keepIn K (.ref f22) = true)
    (a23 : PySem.W.nsIn K mainGlobals "_law_firsts" = some (some (.ref f23))) (l23 : K.lookup f23 = some ⟨oc23, od23, .func (PySem.W.fnOf "_law_firsts" "_law_firsts" (defArgs s__law_firsts) (defBody s__law_firsts) (defScope s__law_firsts) .none kV23 dc23 pm23 an23 cd23 ct23), sl23⟩) (c23 : PySem.W.codeIn K cd23 "_law_firsts" = true) (k23 : PySem.W.keepIn K (.ref f23) = true)
    (a24 : PySem.W.nsIn K mainGlobals "_law_outer" = some (some (.ref f24))) (l24 : K.lookup f24 = some ⟨oc24, od24, .func (PySem.W.fnOf "_law_outer" "_law_outer" (defArgs s__law_outer) (defBody s__law_outer) (defScope s__law_outer) .none kV24 dc24 pm24 an24 cd24 ct24), sl24⟩) (c24 : PySem.W.codeIn K cd24 "_law_outer" = true) (k24 : PySem.W.keepIn K (.ref f24) = true)
    (a25 : PySem.W.nsIn K mainGlobals "_law_due" = some (some (.ref f25))) (l25 : K.lookup f25 = some ⟨oc25, od25, .func (PySem.W.fnOf "_law_due" "_law_due" (defArgs s__law_due) (defBody s__law_due) (defScope s__law_due) .none kV25 dc25 pm25 an25 cd25 ct25), sl25⟩) (c25 : PySem.W.codeIn K cd25 "_law_due" = true) (k25 : PySem.W.keepIn K (.ref f25) = true)
    (a26 : PySem.W.nsIn K mainGlobals "_law_alike" = some (some (.ref f26))) (l26 : K.lookup f26 = some ⟨oc26, od26, .func (PySem.W.fnOf "_law_alike" "_law_alike" (defArgs s__law_alike) (defBody s__law_alike) (defScope s__law_alike) .none kV26 dc26 pm26 an26 cd26 ct26), sl26⟩) (c26 : PySem.W.codeIn K cd26 "_law_alike" = true) (k26 : PySem.W.keepIn K (.ref f26) = true)
    (a27 : PySem.W.nsIn K mainGlobals "_law_is_due" = some (some (.ref f27))) (l27 : K.lookup f27 = some ⟨oc27, od27, .func (PySem.W.fnOf "_law_is_due" "_law_is_due" (defArgs s__law_is_due) (defBody s__law_is_due) (defScope s__law_is_due) .none kV27 dc27 pm27 an27 cd27 ct27), sl27⟩) (c27 : PySem.W.codeIn K cd27 "_law_is_due" = true) (k27 : PySem.W.keepIn K (.ref f27) = true)
    (a28 : PySem.W.nsIn K mainGlobals "law" = some (some (.ref f28))) (l28 : K.lookup f28 = some ⟨oc28, od28, .func (PySem.W.fnOf "law" "law" (defArgs s_law) (defBody s_law) (defScope s_law) .none kV28 dc28 pm28 an28 cd28 ct28), sl28⟩) (c28 : PySem.W.codeIn K cd28 "law" = true) (k28 : PySem.W.keepIn K (.ref f28) = true)
    (z0 : PySem.W.nsIn K mainGlobals "abs" = some none)
    (z1 : PySem.W.nsIn K mainGlobals "bool" = some none)
    (z2 : PySem.W.nsIn K mainGlobals "enumerate" = some none)
    (z3 : PySem.W.nsIn K mainGlobals "int" = some none)
    (z4 : PySem.W.nsIn K mainGlobals "isinstance" = some none)
    (z5 : PySem.W.nsIn K mainGlobals "len" = some none)
    (z6 : PySem.W.nsIn K mainGlobals "list" = some none)
    (z7 : PySem.W.nsIn K mainGlobals "max" = some none)
    (z8 : PySem.W.nsIn K mainGlobals "range" = some none)
    (z9 : PySem.W.nsIn K mainGlobals "set" = some none)
    (z10 : PySem.W.nsIn K mainGlobals "sorted" = some none)
    (z11 : PySem.W.nsIn K mainGlobals "str" = some none)
    (z12 : PySem.W.nsIn K mainGlobals "tuple" = some none)
    {CG CS : Addr} {fGI : Addr} {odGI anGI : Option Addr} {slGI : Array (Option Value)} {ocGI dcGI pmGI cdGI ctGI kVGI : Value} {fWS : Addr} {odWS anWS : Option Addr} {slWS : Array (Option Value)} {ocWS dcWS pmWS cdWS ctWS kVWS : Value} {fWF : Addr} {odWF anWF : Option Addr} {slWF : Array (Option Value)} {ocWF dcWF pmWF cdWF ctWF kVWF : Value} {fWB : Addr} {odWB anWB : Option Addr} {slWB : Array (Option Value)} {ocWB dcWB pmWB cdWB ctWB kVWB : Value} {fWH : Addr} {odWH anWH : Option Addr} {slWH : Array (Option Value)} {ocWH dcWH pmWH cdWH ctWH kVWH : Value} {fWE : Addr} {odWE anWE : Option Addr} {slWE : Array (Option Value)} {ocWE dcWE pmWE cdWE ctWE kVWE : Value} {fWT : Addr} {odWT anWT : Option Addr} {slWT : Array (Option Value)} {ocWT dcWT pmWT cdWT ctWT kVWT : Value} {fTE : Addr} {odTE anTE : Option Addr} {slTE : Array (Option Value)} {ocTE dcTE pmTE cdTE ctTE kVTE : Value} {fTW : Addr} {odTW anTW : Option Addr} {slTW : Array (Option Value)} {ocTW dcTW pmTW cdTW ctTW kVTW : Value} {fSI : Addr} {odSI anSI : Option Addr} {slSI : Array (Option Value)} {ocSI dcSI pmSI cdSI ctSI kVSI : Value}
    (x_gG : PySem.W.nsIn K mainGlobals "Gatherer" = some (some (.ref CG)))
    (x_pgG : PySem.W.plainGet K CG Str.empty = true)
    (x_hdG : PySem.W.hasDictIn K CG = true)
    (x_poG : PySem.W.plainOver K CG = true)
    (x_saG : PySem.W.findIn K (.ref CG) "__setattr__" = some (some (.builtin "object.__setattr__")))
    (x_mkG : PySem.W.makesIn K CG = true)
    (x_kWG : PySem.W.keepIn K (.ref CG) = true)
    (x_gS : PySem.W.nsIn K mainGlobals "Shape" = some (some (.ref CS)))
    (x_pgS : PySem.W.plainGet K CS Str.empty = true)
    (x_hdS : PySem.W.hasDictIn K CS = true)
    (x_poS : PySem.W.plainOver K CS = true)
    (x_saS : PySem.W.findIn K (.ref CS) "__setattr__" = some (some (.builtin "object.__setattr__")))
    (x_mkS : PySem.W.makesIn K CS = true)
    (x_kWS : PySem.W.keepIn K (.ref CS) = true)
    (x_nG0 : PySem.W.findIn K (.ref CG) "element_terms" = some none)
    (x_nG1 : PySem.W.findIn K (.ref CG) "asked_terms" = some none)
    (x_nG2 : PySem.W.findIn K (.ref CG) "holding_terms" = some none)
    (x_nG3 : PySem.W.findIn K (.ref CG) "wide_facts" = some none)
    (x_nS0 : PySem.W.findIn K (.ref CS) "saying" = some none)
    (x_nS1 : PySem.W.findIn K (.ref CS) "element_terms" = some none)
    (x_nS2 : PySem.W.findIn K (.ref CS) "wide_facts" = some none)
    (x_nS3 : PySem.W.findIn K (.ref CS) "asked" = some none)
    (x_nS4 : PySem.W.findIn K (.ref CS) "holders" = some none)
    (x_nS5 : PySem.W.findIn K (.ref CS) "free" = some none)
    (x_nS6 : PySem.W.findIn K (.ref CS) "weight" = some none)
    (x_nS7 : PySem.W.findIn K (.ref CS) "depth" = some none)
    (aGI : PySem.W.findIn K (.ref CG) "__init__" = some (some (.ref fGI)))
    (iGI : PySem.W.isFn K (.ref fGI) = true)
    (lGI : K.lookup fGI = some ⟨ocGI, odGI, .func (PySem.W.fnOf "__init__" "Gatherer.__init__" (defArgs s_Gatherer___init__) (defBody s_Gatherer___init__) (defScope s_Gatherer___init__) .none kVGI dcGI pmGI anGI cdGI ctGI), slGI⟩)
    (cGI : PySem.W.codeIn K cdGI "Gatherer.__init__" = true)
    (kGI : PySem.W.keepIn K (.ref fGI) = true)
    (aWS : PySem.W.findIn K (.ref CG) "walk_saying" = some (some (.ref fWS)))
    (iWS : PySem.W.isFn K (.ref fWS) = true)
    (lWS : K.lookup fWS = some ⟨ocWS, odWS, .func (PySem.W.fnOf "walk_saying" "Gatherer.walk_saying" (defArgs s_Gatherer_walk_saying) (defBody s_Gatherer_walk_saying) (defScope s_Gatherer_walk_saying) .none kVWS dcWS pmWS anWS cdWS ctWS), slWS⟩)
    (cWS : PySem.W.codeIn K cdWS "Gatherer.walk_saying" = true)
    (kWS : PySem.W.keepIn K (.ref fWS) = true)
    (aWF : PySem.W.findIn K (.ref CG) "walk_fact" = some (some (.ref fWF)))
    (iWF : PySem.W.isFn K (.ref fWF) = true)
    (lWF : K.lookup fWF = some ⟨ocWF, odWF, .func (PySem.W.fnOf "walk_fact" "Gatherer.walk_fact" (defArgs s_Gatherer_walk_fact) (defBody s_Gatherer_walk_fact) (defScope s_Gatherer_walk_fact) .none kVWF dcWF pmWF anWF cdWF ctWF), slWF⟩)
    (cWF : PySem.W.codeIn K cdWF "Gatherer.walk_fact" = true)
    (kWF : PySem.W.keepIn K (.ref fWF) = true)
    (aWB : PySem.W.findIn K (.ref CG) "walk_body" = some (some (.ref fWB)))
    (iWB : PySem.W.isFn K (.ref fWB) = true)
    (lWB : K.lookup fWB = some ⟨ocWB, odWB, .func (PySem.W.fnOf "walk_body" "Gatherer.walk_body" (defArgs s_Gatherer_walk_body) (defBody s_Gatherer_walk_body) (defScope s_Gatherer_walk_body) .none kVWB dcWB pmWB anWB cdWB ctWB), slWB⟩)
    (cWB : PySem.W.codeIn K cdWB "Gatherer.walk_body" = true)
    (kWB : PySem.W.keepIn K (.ref fWB) = true)
    (aWH : PySem.W.findIn K (.ref CG) "walk_holding" = some (some (.ref fWH)))
    (iWH : PySem.W.isFn K (.ref fWH) = true)
    (lWH : K.lookup fWH = some ⟨ocWH, odWH, .func (PySem.W.fnOf "walk_holding" "Gatherer.walk_holding" (defArgs s_Gatherer_walk_holding) (defBody s_Gatherer_walk_holding) (defScope s_Gatherer_walk_holding) .none kVWH dcWH pmWH anWH cdWH ctWH), slWH⟩)
    (cWH : PySem.W.codeIn K cdWH "Gatherer.walk_holding" = true)
    (kWH : PySem.W.keepIn K (.ref fWH) = true)
    (aWE : PySem.W.findIn K (.ref CG) "walk_element" = some (some (.ref fWE)))
    (iWE : PySem.W.isFn K (.ref fWE) = true)
    (lWE : K.lookup fWE = some ⟨ocWE, odWE, .func (PySem.W.fnOf "walk_element" "Gatherer.walk_element" (defArgs s_Gatherer_walk_element) (defBody s_Gatherer_walk_element) (defScope s_Gatherer_walk_element) .none kVWE dcWE pmWE anWE cdWE ctWE), slWE⟩)
    (cWE : PySem.W.codeIn K cdWE "Gatherer.walk_element" = true)
    (kWE : PySem.W.keepIn K (.ref fWE) = true)
    (aWT : PySem.W.findIn K (.ref CG) "walk_term" = some (some (.ref fWT)))
    (iWT : PySem.W.isFn K (.ref fWT) = true)
    (lWT : K.lookup fWT = some ⟨ocWT, odWT, .func (PySem.W.fnOf "walk_term" "Gatherer.walk_term" (defArgs s_Gatherer_walk_term) (defBody s_Gatherer_walk_term) (defScope s_Gatherer_walk_term) .none kVWT dcWT pmWT anWT cdWT ctWT), slWT⟩)
    (cWT : PySem.W.codeIn K cdWT "Gatherer.walk_term" = true)
    (kWT : PySem.W.keepIn K (.ref fWT) = true)
    (aTE : PySem.W.findIn K (.ref CG) "take_element" = some (some (.ref fTE)))
    (iTE : PySem.W.isFn K (.ref fTE) = true)
    (lTE : K.lookup fTE = some ⟨ocTE, odTE, .func (PySem.W.fnOf "take_element" "Gatherer.take_element" (defArgs s_Gatherer_take_element) (defBody s_Gatherer_take_element) (defScope s_Gatherer_take_element) .none kVTE dcTE pmTE anTE cdTE ctTE), slTE⟩)
    (cTE : PySem.W.codeIn K cdTE "Gatherer.take_element" = true)
    (kTE : PySem.W.keepIn K (.ref fTE) = true)
    (aTW : PySem.W.findIn K (.ref CG) "take_wide" = some (some (.ref fTW)))
    (iTW : PySem.W.isFn K (.ref fTW) = true)
    (lTW : K.lookup fTW = some ⟨ocTW, odTW, .func (PySem.W.fnOf "take_wide" "Gatherer.take_wide" (defArgs s_Gatherer_take_wide) (defBody s_Gatherer_take_wide) (defScope s_Gatherer_take_wide) .none kVTW dcTW pmTW anTW cdTW ctTW), slTW⟩)
    (cTW : PySem.W.codeIn K cdTW "Gatherer.take_wide" = true)
    (kTW : PySem.W.keepIn K (.ref fTW) = true)
    (aSI : PySem.W.findIn K (.ref CS) "__init__" = some (some (.ref fSI)))
    (iSI : PySem.W.isFn K (.ref fSI) = true)
    (lSI : K.lookup fSI = some ⟨ocSI, odSI, .func (PySem.W.fnOf "__init__" "Shape.__init__" (defArgs s_Shape___init__) (defBody s_Shape___init__) (defScope s_Shape___init__) .none kVSI dcSI pmSI anSI cdSI ctSI), slSI⟩)
    (cSI : PySem.W.codeIn K cdSI "Shape.__init__" = true)
    (kSI : PySem.W.keepIn K (.ref fSI) = true)
    (xk0 : PySem.W.kitOne K (.type "str") (.type "str") = some true)
    (xk1 : PySem.W.kitOne K (.type "int") (.type "str") = some false)
    (xk2 : PySem.W.kitOne K (.type "int") (.type "int") = some true)
    (xk3 : PySem.W.kitOne K (.type "int") (.type "bool") = some false)
    (xk4 : PySem.W.kitOne K (.type "tuple") (.type "str") = some false)
    (xk5 : PySem.W.kitOne K (.type "tuple") (.type "int") = some false)
    (xk6 : PySem.W.kitOne K (.type "tuple") (.type "tuple") = some true)
    (xk7 : PySem.W.kitOne K (.type "tuple") (.type "list") = some false)
    (xk8 : PySem.W.kitOne K (.type "list") (.type "str") = some false)
    (xk9 : PySem.W.kitOne K (.type "list") (.type "int") = some false)
    (xk10 : PySem.W.kitOne K (.type "list") (.type "tuple") = some false)
    (xk11 : PySem.W.kitOne K (.type "list") (.type "list") = some true)
    (xk12 : PySem.W.kitOne K (.type "str") (.type "tuple") = some false)
    : ∃ fd : FuncData, (∀ (s : Shared) (v : Value), BindsTo s fd ⟨[v], []⟩ [("script", v)]) ∧ ∀ base : Heap, K.In base → base.Ns mainGlobals mg → FnOk P w K mg base CX0 187 fa fd ["script"] (spLaw K) := by
  have e := hfa.symm.trans (PySem.W.mg_of X G a28)
  cases e
  have B : Blt mg := ⟨PySem.W.mg_none_of X G z0, PySem.W.mg_none_of X G z1, PySem.W.mg_none_of X G z2, PySem.W.mg_none_of X G z3, PySem.W.mg_none_of X G z4, PySem.W.mg_none_of X G z5, PySem.W.mg_none_of X G z6, PySem.W.mg_none_of X G z7, PySem.W.mg_none_of X G z8, PySem.W.mg_none_of X G z9, PySem.W.mg_none_of X G z10, PySem.W.mg_none_of X G z11, PySem.W.mg_none_of X G z12⟩
  have FGI := fun_mk (st := s_Gatherer___init__) lGI cGI kGI
  have bGI := FGI.binds (ps := ["self"]) fun _ _ _ _ _ _ us hl => match us, hl with | [_], _ => rfl
  have MGI : Mk K CG fGI := ⟨x_mkG, aGI, iGI, x_kWG⟩
  have FWS := fun_mk (st := s_Gatherer_walk_saying) lWS cWS kWS
  have bWS := FWS.binds (ps := ["self", "saying"]) fun _ _ _ _ _ _ us hl => match us, hl with | [_, _], _ => rfl
  have mWS : Meth K CG "walk_saying" fWS := ⟨aWS, iWS, kWS⟩
  have FWF := fun_mk (st := s_Gatherer_walk_fact) lWF cWF kWF
  have bWF := FWF.binds (ps := ["self", "fact"]) fun _ _ _ _ _ _ us hl => match us, hl with | [_, _], _ => rfl
  have mWF : Meth K CG "walk_fact" fWF := ⟨aWF, iWF, kWF⟩
  have FWB := fun_mk (st := s_Gatherer_walk_body) lWB cWB kWB
  have bWB := FWB.binds (ps := ["self", "body"]) fun _ _ _ _ _ _ us hl => match us, hl with | [_, _], _ => rfl
  have mWB : Meth K CG "walk_body" fWB := ⟨aWB, iWB, kWB⟩
  have FWH := fun_mk (st := s_Gatherer_walk_holding) lWH cWH kWH
  have bWH := FWH.binds (ps := ["self", "term"]) fun _ _ _ _ _ _ us hl => match us, hl with | [_, _], _ => rfl
  have mWH : Meth K CG "walk_holding" fWH := ⟨aWH, iWH, kWH⟩
  have FWE := fun_mk (st := s_Gatherer_walk_element) lWE cWE kWE
  have bWE := FWE.binds (ps := ["self", "term"]) fun _ _ _ _ _ _ us hl => match us, hl with | [_, _], _ => rfl
  have mWE : Meth K CG "walk_element" fWE := ⟨aWE, iWE, kWE⟩
  have FWT := fun_mk (st := s_Gatherer_walk_term) lWT cWT kWT
  have bWT := FWT.binds (ps := ["self", "term"]) fun _ _ _ _ _ _ us hl => match us, hl with | [_, _], _ => rfl
  have mWT : Meth K CG "walk_term" fWT := ⟨aWT, iWT, kWT⟩
  have FTE := fun_mk (st := s_Gatherer_take_element) lTE cTE kTE
  have bTE := FTE.binds (ps := ["self", "term"]) fun _ _ _ _ _ _ us hl => match us, hl with | [_, _], _ => rfl
  have mTE : Meth K CG "take_element" fTE := ⟨aTE, iTE, kTE⟩
  have FTW := fun_mk (st := s_Gatherer_take_wide) lTW cTW kTW
  have bTW := FTW.binds (ps := ["self", "fact"]) fun _ _ _ _ _ _ us hl => match us, hl with | [_, _], _ => rfl
  have mTW : Meth K CG "take_wide" fTW := ⟨aTW, iTW, kTW⟩
  have FSI := fun_mk (st := s_Shape___init__) lSI cSI kSI
  have bSI := FSI.binds (ps := ["self", "saying"]) fun _ _ _ _ _ _ us hl => match us, hl with | [_, _], _ => rfl
  have MSI : Mk K CS fSI := ⟨x_mkS, aSI, iSI, x_kWS⟩
  have I : KI K := ⟨xk0, xk1, xk2, xk3, xk4, xk5, xk6, xk7, xk8, xk9, xk10, xk11⟩
  have Z : ZG K CG := ⟨⟨x_pgG, x_hdG, x_poG, x_saG⟩, x_nG0, x_nG1, x_nG2, x_nG3⟩
  have ZZ : ZS K CS := ⟨⟨x_pgS, x_hdS, x_poS, x_saS⟩, x_nS0, x_nS1, x_nS2, x_nS3, x_nS4, x_nS5, x_nS6, x_nS7⟩
  have gGG : mg "Gatherer" = some (.ref CG) := PySem.W.mg_of X G x_gG
  have gSS : mg "Shape" = some (.ref CS) := PySem.W.mg_of X G x_gS
  have F1 := fun_mk (st := s_division_counts) l1 c1 k1
  have D_division_counts : Dn K mg "division_counts" s_division_counts ["things"] f1 _ := ⟨F1, F1.binds (ps := ["things"]) fun _ _ _ _ _ _ us hl => match us, hl with | [_], _ => rfl, PySem.W.mg_of X G a1⟩
  have F2 := fun_mk (st := s_doubled) l2 c2 k2
  have D_doubled : Dn K mg "doubled" s_doubled ["number", "times"] f2 _ := ⟨F2, F2.binds (ps := ["number", "times"]) fun _ _ _ _ _ _ us hl => match us, hl with | [_, _], _ => rfl, PySem.W.mg_of X G a2⟩
  have F3 := fun_mk (st := s_weight_of) l3 c3 k3
  have D_weight_of : Dn K mg "weight_of" s_weight_of ["things", "holders", "wides", "ordered"] f3 _ := ⟨F3, F3.binds (ps := ["things", "holders", "wides", "ordered"]) fun _ _ _ _ _ _ us hl => match us, hl with | [_, _, _, _], _ => rfl, PySem.W.mg_of X G a3⟩
  have F4 := fun_mk (st := s_depth_of) l4 c4 k4
  have D_depth_of : Dn K mg "depth_of" s_depth_of ["things", "wides"] f4 _ := ⟨F4, F4.binds (ps := ["things", "wides"]) fun _ _ _ _ _ _ us hl => match us, hl with | [_, _], _ => rfl, PySem.W.mg_of X G a4⟩
  have F5 := fun_mk (st := s_is_name_term) l5 c5 k5
  have D_is_name_term : Dn K mg "is_name_term" s_is_name_term ["term"] f5 _ := ⟨F5, F5.binds (ps := ["term"]) fun _ _ _ _ _ _ us hl => match us, hl with | [_], _ => rfl, PySem.W.mg_of X G a5⟩
  have F6 := fun_mk (st := s_outer_names) l6 c6 k6
  have D_outer_names : Dn K mg "outer_names" s_outer_names ["term"] f6 _ := ⟨F6, F6.binds (ps := ["term"]) fun _ _ _ _ _ _ us hl => match us, hl with | [_], _ => rfl, PySem.W.mg_of X G a6⟩
  have F7 := fun_mk (st := s_wide_fact_of) l7 c7 k7
  have D_wide_fact_of : Dn K mg "wide_fact_of" s_wide_fact_of ["fact"] f7 _ := ⟨F7, F7.binds (ps := ["fact"]) fun _ _ _ _ _ _ us hl => match us, hl with | [_], _ => rfl, PySem.W.mg_of X G a7⟩
  have F8 := fun_mk (st := s__law_start) l8 c8 k8
  have D__law_start : Dn K mg "_law_start" s__law_start ["script"] f8 _ := ⟨F8, F8.binds (ps := ["script"]) fun _ _ _ _ _ _ us hl => match us, hl with | [_], _ => rfl, PySem.W.mg_of X G a8⟩
  have F9 := fun_mk (st := s__law_draw) l9 c9 k9
  have D__law_draw : Dn K mg "_law_draw" s__law_draw ["state", "many"] f9 _ := ⟨F9, F9.binds (ps := ["state", "many"]) fun _ _ _ _ _ _ us hl => match us, hl with | [_, _], _ => rfl, PySem.W.mg_of X G a9⟩
  have F10 := fun_mk (st := s__law_pick) l10 c10 k10
  have D__law_pick : Dn K mg "_law_pick" s__law_pick ["state", "row"] f10 _ := ⟨F10, F10.binds (ps := ["state", "row"]) fun _ _ _ _ _ _ us hl => match us, hl with | [_, _], _ => rfl, PySem.W.mg_of X G a10⟩
  have F11 := fun_mk (st := s__law_size) l11 c11 k11
  have D__law_size : Dn K mg "_law_size" s__law_size ["tree"] f11 _ := ⟨F11, F11.binds (ps := ["tree"]) fun _ _ _ _ _ _ us hl => match us, hl with | [_], _ => rfl, PySem.W.mg_of X G a11⟩
  have F12 := fun_mk (st := s__law_name) l12 c12 k12
  have D__law_name : Dn K mg "_law_name" s__law_name ["state"] f12 _ := ⟨F12, F12.binds (ps := ["state"]) fun _ _ _ _ _ _ us hl => match us, hl with | [_], _ => rfl, PySem.W.mg_of X G a12⟩
  have F13 := fun_mk (st := s__law_row_of_names) l13 c13 k13
  have D__law_row_of_names : Dn K mg "_law_row_of_names" s__law_row_of_names ["state", "many"] f13 _ := ⟨F13, F13.binds (ps := ["state", "many"]) fun _ _ _ _ _ _ us hl => match us, hl with | [_, _], _ => rfl, PySem.W.mg_of X G a13⟩
  have F14 := fun_mk (st := s__law_new_term) l14 c14 k14
  have D__law_new_term : Dn K mg "_law_new_term" s__law_new_term ["state", "terms"] f14 _ := ⟨F14, F14.binds (ps := ["state", "terms"]) fun _ _ _ _ _ _ us hl => match us, hl with | [_, _], _ => rfl, PySem.W.mg_of X G a14⟩
  have F15 := fun_mk (st := s__law_new_body) l15 c15 k15
  have D__law_new_body : Dn K mg "_law_new_body" s__law_new_body ["state", "terms", "bodies"] f15 _ := ⟨F15, F15.binds (ps := ["state", "terms", "bodies"]) fun _ _ _ _ _ _ us hl => match us, hl with | [_, _, _], _ => rfl, PySem.W.mg_of X G a15⟩
  have F16 := fun_mk (st := s__law_new_saying) l16 c16 k16
  have D__law_new_saying : Dn K mg "_law_new_saying" s__law_new_saying ["state", "terms", "bodies", "sayings"] f16 _ := ⟨F16, F16.binds (ps := ["state", "terms", "bodies", "sayings"]) fun _ _ _ _ _ _ us hl => match us, hl with | [_, _, _, _], _ => rfl, PySem.W.mg_of X G a16⟩
  have F17 := fun_mk (st := s__law_built) l17 c17 k17
  have D__law_built : Dn K mg "_law_built" s__law_built ["state", "names", "steps", "most"] f17 _ := ⟨F17, F17.binds (ps := ["state", "names", "steps", "most"]) fun _ _ _ _ _ _ us hl => match us, hl with | [_, _, _, _], _ => rfl, PySem.W.mg_of X G a17⟩
  have F18 := fun_mk (st := s__law_term_rows) l18 c18 k18
  have D__law_term_rows : Dn K mg "_law_term_rows" s__law_term_rows ["term"] f18 _ := ⟨F18, F18.binds (ps := ["term"]) fun _ _ _ _ _ _ us hl => match us, hl with | [_], _ => rfl, PySem.W.mg_of X G a18⟩
  have F19 := fun_mk (st := s__law_element_rows) l19 c19 k19
  have D__law_element_rows : Dn K mg "_law_element_rows" s__law_element_rows ["term"] f19 _ := ⟨F19, F19.binds (ps := ["term"]) fun _ _ _ _ _ _ us hl => match us, hl with | [_], _ => rfl, PySem.W.mg_of X G a19⟩
  have F20 := fun_mk (st := s__law_holding_rows) l20 c20 k20
  have D__law_holding_rows : Dn K mg "_law_holding_rows" s__law_holding_rows ["term"] f20 _ := ⟨F20, F20.binds (ps := ["term"]) fun _ _ _ _ _ _ us hl => match us, hl with | [_], _ => rfl, PySem.W.mg_of X G a20⟩
  have F21 := fun_mk (st := s__law_body_rows) l21 c21 k21
  have D__law_body_rows : Dn K mg "_law_body_rows" s__law_body_rows ["body"] f21 _ := ⟨F21, F21.binds (ps := ["body"]) fun _ _ _ _ _ _ us hl => match us, hl with | [_], _ => rfl, PySem.W.mg_of X G a21⟩
  have F22 := fun_mk (st := s__law_rows) l22 c22 k22
  have D__law_rows : Dn K mg "_law_rows" s__law_rows ["saying"] f22 _ := ⟨F22, F22.binds (ps := ["saying"]) fun _ _ _ _ _ _ us hl => match us, hl with | [_], _ => rfl, PySem.W.mg_of X G a22⟩
  have F23 := fun_mk (st := s__law_firsts) l23 c23 k23
  have D__law_firsts : Dn K mg "_law_firsts" s__law_firsts ["rows", "word"] f23 _ := ⟨F23, F23.binds (ps := ["rows", "word"]) fun _ _ _ _ _ _ us hl => match us, hl with | [_, _], _ => rfl, PySem.W.mg_of X G a23⟩
  have F24 := fun_mk (st := s__law_outer) l24 c24 k24
  have D__law_outer : Dn K mg "_law_outer" s__law_outer ["term"] f24 _ := ⟨F24, F24.binds (ps := ["term"]) fun _ _ _ _ _ _ us hl => match us, hl with | [_], _ => rfl, PySem.W.mg_of X G a24⟩
  have F25 := fun_mk (st := s__law_due) l25 c25 k25
  have D__law_due : Dn K mg "_law_due" s__law_due ["saying"] f25 _ := ⟨F25, F25.binds (ps := ["saying"]) fun _ _ _ _ _ _ us hl => match us, hl with | [_], _ => rfl, PySem.W.mg_of X G a25⟩
  have F26 := fun_mk (st := s__law_alike) l26 c26 k26
  have D__law_alike : Dn K mg "_law_alike" s__law_alike ["told", "due"] f26 _ := ⟨F26, F26.binds (ps := ["told", "due"]) fun _ _ _ _ _ _ us hl => match us, hl with | [_, _], _ => rfl, PySem.W.mg_of X G a26⟩
  have F27 := fun_mk (st := s__law_is_due) l27 c27 k27
  have D__law_is_due : Dn K mg "_law_is_due" s__law_is_due ["shape", "saying"] f27 _ := ⟨F27, F27.binds (ps := ["shape", "saying"]) fun _ _ _ _ _ _ us hl => match us, hl with | [_, _], _ => rfl, PySem.W.mg_of X G a27⟩
  have F28 := fun_mk (st := s_law) l28 c28 k28
  have D_law : Dn K mg "law" s_law ["script"] fa _ := ⟨F28, F28.binds (ps := ["script"]) fun _ _ _ _ _ _ us hl => match us, hl with | [_], _ => rfl, PySem.W.mg_of X G a28⟩
  refine ⟨PySem.W.fnOf "law" "law" (defArgs s_law) (defBody s_law) (defScope s_law) .none kV28 dc28 pm28 an28 cd28 ct28, fun s v => .of_eq rfl, fun base _ _ => ?_⟩
  have Gdr := ok_draw (P := P) (w := w) (base := base) (k := 0) B D__law_draw
  have Gst := ok_start (P := P) (w := w) (base := base) (k := 0) B D__law_start
  have Gna := ok_name (P := P) (w := w) (base := base) B D__law_name D__law_draw Gdr
  have Grn := ok_rown (P := P) (w := w) (base := base) B D__law_row_of_names D__law_draw Gdr D__law_name Gna
  have Gpk := ok_pickV (P := P) (w := w) (base := base) B D__law_pick D__law_draw Gdr
  have Gsz := rd_size (P := P) (w := w) (base := base) B xk6 xk12 D__law_size 60
  have Gnt := ok_newTm (P := P) (w := w) (base := base) B D__law_new_term D__law_draw Gdr D__law_pick Gpk
  have Gnb := ok_newBd (P := P) (w := w) (base := base) B D__law_new_body D__law_draw Gdr D__law_pick Gpk
  have Gns := ok_newSg (P := P) (w := w) (base := base) B D__law_new_saying D__law_draw Gdr D__law_pick Gpk
  have Gbu := ok_built (P := P) (w := w) (base := base) B D__law_built D__law_draw Gdr D__law_new_term Gnt D__law_new_body Gnb D__law_new_saying Gns D__law_size Gsz
  have Gdb := ok_doubled (P := P) (w := w) (base := base) B D_doubled
  have Gdc := ok_divc (P := P) (w := w) (base := base) B D_division_counts
  have Gwe := ok_weight (P := P) (w := w) (base := base) B D_weight_of D_doubled Gdb D_division_counts Gdc
  have Gde := ok_depth (P := P) (w := w) (base := base) B D_depth_of
  have Gnm := ok_nmT (P := P) (w := w) (base := base) B D_is_name_term
  have Gou := rd_outer (P := P) (w := w) (base := base) B D_outer_names 150
  have Gwf := ok_wf (P := P) (w := w) (base := base) B D_wide_fact_of D_is_name_term Gnm
  have Gtk := ok_take (P := P) (w := w) (base := base) B Z FTE D_is_name_term Gnm
  have Gtw := ok_twi (P := P) (w := w) (base := base) B Z FTW
  have Gwt := rd_wtm (P := P) (w := w) (base := base) B Z FWT bWT mWT mTE bTE Gtk 60
  have Gwl := ok_wel (P := P) (w := w) (base := base) (n := 60) B Z FWE mTE bTE Gtk mWT bWT Gwt
  have Gwh := ok_who (P := P) (w := w) (base := base) (n := 60) B Z FWH mWT bWT Gwt
  have Gwb := rd_wbd (P := P) (w := w) (base := base) (n := 60) B Z FWB bWB mWB mWH bWH Gwh mWE bWE Gwl 60
  have Gwfa := ok_wfa (P := P) (w := w) (base := base) (n := 60) B Z FWF D_wide_fact_of Gwf mWH bWH Gwh mWE bWE Gwl mWB bWB Gwb mTW bTW Gtw
  have Gws := rd_wsg (P := P) (w := w) (base := base) (n := 60) B Z FWS bWS mWS mWF bWF Gwfa 60
  have Ggi := ok_gi (P := P) (w := w) (base := base) B Z FGI
  have Gsh := ok_shape (P := P) (w := w) (base := base) (n := 60) B Z ZZ FSI MGI gGG bGI Ggi mWS bWS Gws D_outer_names Gou D_is_name_term Gnm D_weight_of Gwe D_depth_of Gde (by decide)
  have Gtr := rd_tr (P := P) (w := w) (base := base) B D__law_term_rows 60
  have Ger := ok_er (P := P) (w := w) (base := base) (n := 60) B D__law_element_rows D__law_term_rows Gtr
  have Ghr := ok_hr (P := P) (w := w) (base := base) (n := 60) B D__law_holding_rows D__law_term_rows Gtr
  have Gbr := rd_br (P := P) (w := w) (base := base) (n := 60) B D__law_body_rows D__law_element_rows Ger D__law_holding_rows Ghr 60 (Nat.le_refl _)
  have Gsr := rd_sr (P := P) (w := w) (base := base) (n := 60) B D__law_rows D__law_element_rows Ger D__law_holding_rows Ghr D__law_body_rows Gbr 60 (Nat.le_refl _)
  have Gfi := ok_firsts (P := P) (w := w) (base := base) B D__law_firsts
  have Go2 := rd_outer2 (P := P) (w := w) (base := base) B D__law_outer 60
  have Gdu := ok_due (P := P) (w := w) (base := base) (n := 60) B D__law_due D__law_rows Gsr D__law_firsts Gfi D__law_outer Go2 (by decide)
  have Gal := rd_alike (P := P) (w := w) (base := base) B I D__law_alike 100
  have Gis := ok_isdue (P := P) (w := w) (base := base) (n := 60) B ZZ D__law_is_due D__law_due Gdu D__law_alike Gal (by decide) (by decide)
  have Glaw := ok_law (P := P) (w := w) (base := base) B D_law MSI gSS bSI Gsh D__law_draw Gdr D__law_start Gst D__law_row_of_names Grn D__law_pick Gpk D__law_built Gbu D__law_size Gsz D__law_is_due Gis
  exact Glaw
end K16
open PySem PySem.W PyProof.Rows
set_option maxHeartbeats 0 in
theorem PySem.Challenge.cw_setnests_k16_whole_shapes_holds : PySem.Challenge.rw_setnests_k16_whole_shapes.Holds := by
  w_on; o_law; k_head; (case hw => w_witness2)
  k_fill
  refine L2.walk_of (l := PySem.Challenge.rw_setnests_k16_whole_shapes) (n := 63) (k := 187) (x := "script") (CX := fun _ => L2.CX0) (sp := fun w => K16.spLaw _) rfl (by decide) rfl ⟨rfl, by decide, by decide⟩ (fun w h Y => PySem.W.kIn_of Y) ?F (fun _ _ a ns hl _ hS => ⟨a, ns, rfl, hS, hl, fun _ => rfl⟩) (fun _ _ _ _ _ h => h)
  case F =>
    intro w mg fa h KX G hmg
    refine' K16.all_mk KX G hmg ?a1 ?l1 ?c1 ?k1 ?a2 ?l2 ?c2 ?k2 ?a3 ?l3 ?c3 ?k3 ?a4 ?l4 ?c4 ?k4 ?a5 ?l5 ?c5 ?k5 ?a6 ?l6 ?c6 ?k6 ?a7 ?l7 ?c7 ?k7 ?a8 ?l8 ?c8 ?k8 ?a9 ?l9 ?c9 ?k9 ?a10 ?l10 ?c10 ?k10 ?a11 ?l11 ?c11 ?k11 ?a12 ?l12 ?c12 ?k12 ?a13 ?l13 ?c13 ?k13 ?a14 ?l14 ?c14 ?k14 ?a15 ?l15 ?c15 ?k15 ?a16 ?l16 ?c16 ?k16 ?a17 ?l17 ?c17 ?k17 ?a18 ?l18 ?c18 ?k18 ?a19 ?l19 ?c19 ?k19 ?a20 ?l20 ?c20 ?k20 ?a21 ?l21 ?c21 ?k21 ?a22 ?l22 ?c22 ?k22 ?a23 ?l23 ?c23 ?k23 ?a24 ?l24 ?c24 ?k24 ?a25 ?l25 ?c25 ?k25 ?a26 ?l26 ?c26 ?k26 ?a27 ?l27 ?c27 ?k27 ?a28 ?l28 ?c28 ?k28 ?z0 ?z1 ?z2 ?z3 ?z4 ?z5 ?z6 ?z7 ?z8 ?z9 ?z10 ?z11 ?z12 ?x_gG ?x_pgG ?x_hdG ?x_poG ?x_saG ?x_mkG ?x_kWG ?x_gS ?x_pgS ?x_hdS ?x_poS ?x_saS ?x_mkS ?x_kWS ?x_nG0 ?x_nG1 ?x_nG2 ?x_nG3 ?x_nS0 ?x_nS1 ?x_nS2 ?x_nS3 ?x_nS4 ?x_nS5 ?x_nS6 ?x_nS7 ?aGI ?iGI ?lGI ?cGI ?kGI ?aWS ?iWS ?lWS ?cWS ?kWS ?aWF ?iWF ?lWF ?cWF ?kWF ?aWB ?iWB ?lWB ?cWB ?kWB ?aWH ?iWH ?lWH ?cWH ?kWH ?aWE ?iWE ?lWE ?cWE ?kWE ?aWT ?iWT ?lWT ?cWT ?kWT ?aTE ?iTE ?lTE ?cTE ?kTE ?aTW ?iTW ?lTW ?cTW ?kTW ?aSI ?iSI ?lSI ?cSI ?kSI ?xk0 ?xk1 ?xk2 ?xk3 ?xk4 ?xk5 ?xk6 ?xk7 ?xk8 ?xk9 ?xk10 ?xk11 ?xk12
    (case a1 => k_is); (case l1 => k_is); (case c1 => k_is); (case k1 => k_is); (case a2 => k_is); (case l2 => k_is); (case c2 => k_is); (case k2 => k_is); (case a3 => k_is); (case l3 => k_is); (case c3 => k_is); (case k3 => k_is); (case a4 => k_is); (case l4 => k_is); (case c4 => k_is); (case k4 => k_is); (case a5 => k_is); (case l5 => k_is); (case c5 => k_is); (case k5 => k_is); (case a6 => k_is); (case l6 => k_is); (case c6 => k_is); (case k6 => k_is); (case a7 => k_is); (case l7 => k_is); (case c7 => k_is); (case k7 => k_is); (case a8 => k_is); (case l8 => k_is); (case c8 => k_is); (case k8 => k_is); (case a9 => k_is); (case l9 => k_is); (case c9 => k_is); (case k9 => k_is); (case a10 => k_is); (case l10 => k_is); (case c10 => k_is); (case k10 => k_is); (case a11 => k_is); (case l11 => k_is); (case c11 => k_is); (case k11 => k_is); (case a12 => k_is); (case l12 => k_is); (case c12 => k_is); (case k12 => k_is); (case a13 => k_is); (case l13 => k_is); (case c13 => k_is); (case k13 => k_is); (case a14 => k_is); (case l14 => k_is); (case c14 => k_is); (case k14 => k_is); (case a15 => k_is); (case l15 => k_is); (case c15 => k_is); (case k15 => k_is); (case a16 => k_is); (case l16 => k_is); (case c16 => k_is); (case k16 => k_is); (case a17 => k_is); (case l17 => k_is); (case c17 => k_is); (case k17 => k_is); (case a18 => k_is); (case l18 => k_is); (case c18 => k_is); (case k18 => k_is); (case a19 => k_is); (case l19 => k_is); (case c19 => k_is); (case k19 => k_is); (case a20 => k_is); (case l20 => k_is); (case c20 => k_is); (case k20 => k_is); (case a21 => k_is); (case l21 => k_is); (case c21 => k_is); (case k21 => k_is); (case a22 => k_is); (case l22 => k_is); (case c22 => k_is); (case k22 => k_is); (case a23 => k_is); (case l23 => k_is); (case c23 => k_is); (case k23 => k_is); (case a24 => k_is); (case l24 => k_is); (case c24 => k_is); (case k24 => k_is); (case a25 => k_is); (case l25 => k_is); (case c25 => k_is); (case k25 => k_is); (case a26 => k_is); (case l26 => k_is); (case c26 => k_is); (case k26 => k_is); (case a27 => k_is); (case l27 => k_is); (case c27 => k_is); (case k27 => k_is); (case a28 => k_is); (case l28 => k_is); (case c28 => k_is); (case k28 => k_is); (case z0 => k_is); (case z1 => k_is); (case z2 => k_is); (case z3 => k_is); (case z4 => k_is); (case z5 => k_is); (case z6 => k_is); (case z7 => k_is); (case z8 => k_is); (case z9 => k_is); (case z10 => k_is); (case z11 => k_is); (case z12 => k_is); (case x_gG => first | k_is | k_exc | kit_is | kts_exm | ks_is | rfl | kernel_rfl | decide +kernel); (case x_pgG => first | k_is | k_exc | kit_is | kts_exm | ks_is | rfl | kernel_rfl | decide +kernel); (case x_hdG => first | k_is | k_exc | kit_is | kts_exm | ks_is | rfl | kernel_rfl | decide +kernel); (case x_poG => first | k_is | k_exc | kit_is | kts_exm | ks_is | rfl | kernel_rfl | decide +kernel); (case x_saG => first | k_is | k_exc | kit_is | kts_exm | ks_is | rfl | kernel_rfl | decide +kernel); (case x_mkG => first | k_is | k_exc | kit_is | kts_exm | ks_is | rfl | kernel_rfl | decide +kernel); (case x_kWG => first | k_is | k_exc | kit_is | kts_exm | ks_is | rfl | kernel_rfl | decide +kernel); (case x_gS => first | k_is | k_exc | kit_is | kts_exm | ks_is | rfl | kernel_rfl | decide +kernel); (case x_pgS => first | k_is | k_exc | kit_is | kts_exm | ks_is | rfl | kernel_rfl | decide +kernel); (case x_hdS => first | k_is | k_exc | kit_is | kts_exm | ks_is | rfl | kernel_rfl | decide +kernel); (case x_poS => first | k_is | k_exc | kit_is | kts_exm | ks_is | rfl | kernel_rfl | decide +kernel); (case x_saS => first | k_is | k_exc | kit_is | kts_exm | ks_is | rfl | kernel_rfl | decide +kernel); (case x_mkS => first | k_is | k_exc | kit_is | kts_exm | ks_is | rfl | kernel_rfl | decide +kernel); (case x_kWS => first | k_is | k_exc | kit_is | kts_exm | ks_is | rfl | kernel_rfl | decide +kernel); (case x_nG0 => first | k_is | k_exc | kit_is | kts_exm | ks_is | rfl | kernel_rfl | decide +kernel); (case x_nG1 => first | k_is | k_exc | kit_is | kts_exm | ks_is | rfl | kernel_rfl | decide +kernel); (case x_nG2 => first | k_is | k_exc | kit_is | kts_exm | ks_is | rfl | kernel_rfl | decide +kernel); (case x_nG3 => first | k_is | k_exc | kit_is | kts_exm | ks_is | rfl | kernel_rfl | decide +kernel); (case x_nS0 => first | k_is | k_exc | kit_is | kts_exm | ks_is | rfl | kernel_rfl | decide +kernel); (case x_nS1 => first | k_is | k_exc | kit_is | kts_exm | ks_is | rfl | kernel_rfl | decide +kernel); (case x_nS2 => first | k_is | k_exc | kit_is | kts_exm | ks_is | rfl | kernel_rfl | decide +kernel); (case x_nS3 => first | k_is | k_exc | kit_is | kts_exm | ks_is | rfl | kernel_rfl | decide +kernel); (case x_nS4 => first | k_is | k_exc | kit_is | kts_exm | ks_is | rfl | kernel_rfl | decide +kernel); (case x_nS5 => first | k_is | k_exc | kit_is | kts_exm | ks_is | rfl | kernel_rfl | decide +kernel); (case x_nS6 => first | k_is | k_exc | kit_is | kts_exm | ks_is | rfl | kernel_rfl | decide +kernel); (case x_nS7 => first | k_is | k_exc | kit_is | kts_exm | ks_is | rfl | kernel_rfl | decide +kernel); (case aGI => first | k_is | k_exc | kit_is | kts_exm | ks_is | rfl | kernel_rfl | decide +kernel); (case iGI => first | k_is | k_exc | kit_is | kts_exm | ks_is | rfl | kernel_rfl | decide +kernel); (case lGI => first | k_is | k_exc | kit_is | kts_exm | ks_is | rfl | kernel_rfl | decide +kernel); (case cGI => first | k_is | k_exc | kit_is | kts_exm | ks_is | rfl | kernel_rfl | decide +kernel); (case kGI => first | k_is | k_exc | kit_is | kts_exm | ks_is | rfl | kernel_rfl | decide +kernel); (case aWS => first | k_is | k_exc | kit_is | kts_exm | ks_is | rfl | kernel_rfl | decide +kernel); (case iWS => first | k_is | k_exc | kit_is | kts_exm | ks_is | rfl | kernel_rfl | decide +kernel); (case lWS => first | k_is | k_exc | kit_is | kts_exm | ks_is | rfl | kernel_rfl | decide +kernel); (case cWS => first | k_is | k_exc | kit_is | kts_exm | ks_is | rfl | kernel_rfl | decide +kernel); (case kWS => first | k_is | k_exc | kit_is | kts_exm | ks_is | rfl | kernel_rfl | decide +kernel); (case aWF => first | k_is | k_exc | kit_is | kts_exm | ks_is | rfl | kernel_rfl | decide +kernel); (case iWF => first | k_is | k_exc | kit_is | kts_exm | ks_is | rfl | kernel_rfl | decide +kernel); (case lWF => first | k_is | k_exc | kit_is | kts_exm | ks_is | rfl | kernel_rfl | decide +kernel); (case cWF => first | k_is | k_exc | kit_is | kts_exm | ks_is | rfl | kernel_rfl | decide +kernel); (case kWF => first | k_is | k_exc | kit_is | kts_exm | ks_is | rfl | kernel_rfl | decide +kernel); (case aWB => first | k_is | k_exc | kit_is | kts_exm | ks_is | rfl | kernel_rfl | decide +kernel); (case iWB => first | k_is | k_exc | kit_is | kts_exm | ks_is | rfl | kernel_rfl | decide +kernel); (case lWB => first | k_is | k_exc | kit_is | kts_exm | ks_is | rfl | kernel_rfl | decide +kernel); (case cWB => first | k_is | k_exc | kit_is | kts_exm | ks_is | rfl | kernel_rfl | decide +kernel); (case kWB => first | k_is | k_exc | kit_is | kts_exm | ks_is | rfl | kernel_rfl | decide +kernel); (case aWH => first | k_is | k_exc | kit_is | kts_exm | ks_is | rfl | kernel_rfl | decide +kernel); (case iWH => first | k_is | k_exc | kit_is | kts_exm | ks_is | rfl | kernel_rfl | decide +kernel); (case lWH => first | k_is | k_exc | kit_is | kts_exm | ks_is | rfl | kernel_rfl | decide +kernel); (case cWH => first | k_is | k_exc | kit_is | kts_exm | ks_is | rfl | kernel_rfl | decide +kernel); (case kWH => first | k_is | k_exc | kit_is | kts_exm | ks_is | rfl | kernel_rfl | decide +kernel); (case aWE => first | k_is | k_exc | kit_is | kts_exm | ks_is | rfl | kernel_rfl | decide +kernel); (case iWE => first | k_is | k_exc | kit_is | kts_exm | ks_is | rfl | kernel_rfl | decide +kernel); (case lWE => first | k_is | k_exc | kit_is | kts_exm | ks_is | rfl | kernel_rfl | decide +kernel); (case cWE => first | k_is | k_exc | kit_is | kts_exm | ks_is | rfl | kernel_rfl | decide +kernel); (case kWE => first | k_is | k_exc | kit_is | kts_exm | ks_is | rfl | kernel_rfl | decide +kernel); (case aWT => first | k_is | k_exc | kit_is | kts_exm | ks_is | rfl | kernel_rfl | decide +kernel); (case iWT => first | k_is | k_exc | kit_is | kts_exm | ks_is | rfl | kernel_rfl | decide +kernel); (case lWT => first | k_is | k_exc | kit_is | kts_exm | ks_is | rfl | kernel_rfl | decide +kernel); (case cWT => first | k_is | k_exc | kit_is | kts_exm | ks_is | rfl | kernel_rfl | decide +kernel); (case kWT => first | k_is | k_exc | kit_is | kts_exm | ks_is | rfl | kernel_rfl | decide +kernel); (case aTE => first | k_is | k_exc | kit_is | kts_exm | ks_is | rfl | kernel_rfl | decide +kernel); (case iTE => first | k_is | k_exc | kit_is | kts_exm | ks_is | rfl | kernel_rfl | decide +kernel); (case lTE => first | k_is | k_exc | kit_is | kts_exm | ks_is | rfl | kernel_rfl | decide +kernel); (case cTE => first | k_is | k_exc | kit_is | kts_exm | ks_is | rfl | kernel_rfl | decide +kernel); (case kTE => first | k_is | k_exc | kit_is | kts_exm | ks_is | rfl | kernel_rfl | decide +kernel); (case aTW => first | k_is | k_exc | kit_is | kts_exm | ks_is | rfl | kernel_rfl | decide +kernel); (case iTW => first | k_is | k_exc | kit_is | kts_exm | ks_is | rfl | kernel_rfl | decide +kernel); (case lTW => first | k_is | k_exc | kit_is | kts_exm | ks_is | rfl | kernel_rfl | decide +kernel); (case cTW => first | k_is | k_exc | kit_is | kts_exm | ks_is | rfl | kernel_rfl | decide +kernel); (case kTW => first | k_is | k_exc | kit_is | kts_exm | ks_is | rfl | kernel_rfl | decide +kernel); (case aSI => first | k_is | k_exc | kit_is | kts_exm | ks_is | rfl | kernel_rfl | decide +kernel); (case iSI => first | k_is | k_exc | kit_is | kts_exm | ks_is | rfl | kernel_rfl | decide +kernel); (case lSI => first | k_is | k_exc | kit_is | kts_exm | ks_is | rfl | kernel_rfl | decide +kernel); (case cSI => first | k_is | k_exc | kit_is | kts_exm | ks_is | rfl | kernel_rfl | decide +kernel); (case kSI => first | k_is | k_exc | kit_is | kts_exm | ks_is | rfl | kernel_rfl | decide +kernel); (case xk0 => first | k_is | k_exc | kit_is | kts_exm | ks_is | rfl | kernel_rfl | decide +kernel); (case xk1 => first | k_is | k_exc | kit_is | kts_exm | ks_is | rfl | kernel_rfl | decide +kernel); (case xk2 => first | k_is | k_exc | kit_is | kts_exm | ks_is | rfl | kernel_rfl | decide +kernel); (case xk3 => first | k_is | k_exc | kit_is | kts_exm | ks_is | rfl | kernel_rfl | decide +kernel); (case xk4 => first | k_is | k_exc | kit_is | kts_exm | ks_is | rfl | kernel_rfl | decide +kernel); (case xk5 => first | k_is | k_exc | kit_is | kts_exm | ks_is | rfl | kernel_rfl | decide +kernel); (case xk6 => first | k_is | k_exc | kit_is | kts_exm | ks_is | rfl | kernel_rfl | decide +kernel); (case xk7 => first | k_is | k_exc | kit_is | kts_exm | ks_is | rfl | kernel_rfl | decide +kernel); (case xk8 => first | k_is | k_exc | kit_is | kts_exm | ks_is | rfl | kernel_rfl | decide +kernel); (case xk9 => first | k_is | k_exc | kit_is | kts_exm | ks_is | rfl | kernel_rfl | decide +kernel); (case xk10 => first | k_is | k_exc | kit_is | kts_exm | ks_is | rfl | kernel_rfl | decide +kernel); (case xk11 => first | k_is | k_exc | kit_is | kts_exm | ks_is | rfl | kernel_rfl | decide +kernel); (case xk12 => first | k_is | k_exc | kit_is | kts_exm | ks_is | rfl | kernel_rfl | decide +kernel)
