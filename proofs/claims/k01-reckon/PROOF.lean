import PyProof.Rows.All
import Wide.All
import OpenK.AllK
import Wide.FinOn
import HandS.ForMost
import HandS.Exc
import HandS.TryOnly
import HandS.ExcOwn
import HandS.WordsExc
import HandS.Evl
import HandS.Steps
import HandS.More
import HandS.IsInst
import HandS.Codes
import HandS.Conv
import PySem.Challenge.RW_retryhall_k01_reckon
set_option Elab.async false
set_option linter.all false
set_option maxRecDepth 100000
set_option maxHeartbeats 2000000
namespace RT
open PySem L2
abbrev Ex := Evl.Ex
structure Ad where
  K : PySem.W.Frag
  cPart : Addr := 0
  cLet : Addr := 0
  cReckon : Addr := 0
  cTake : Addr := 0
  cPut : Addr := 0
  cIf : Addr := 0
  cEither : Addr := 0
  cTry : Addr := 0
  cThrow : Addr := 0
  cWait : Addr := 0
  cLog : Addr := 0
  cDoer : Addr := 0
  cHand : Addr := 0
  cHall : Addr := 0
  cDesk : Addr := 0
  cHallError : Addr := 0
  cNoDeed : Addr := 0
  cNoBoxes : Addr := 0
  cNoHands : Addr := 0
  cNoHand : Addr := 0
  cNoRow : Addr := 0
  aSUMS : Addr := 0
def spLaw (K : PySem.W.Frag) : Sp := fun vs H Q _ => ∃ (a : Addr) (ns : List Int), vs = [.ref a] ∧ SqL K H a (ns.map V.int) ∧ ns.length ≤ 63 ∧ ∀ H', Q (.bl true) H'
abbrev aAdd := tOp (rI0 fun i j => V.int (i + j))
abbrev aSub := tOp (rI0 fun i j => V.int (i - j))
abbrev aMul := tOp (rI CMul fun i j => V.int (i * j))
abbrev aMod := tOp (rI (fun _ j => 0 < j) fun i j => V.int (i % j))
abbrev aDiv := tOp (rI CDiv fun i j => V.int (i / j))
abbrev aPow := tOp (rI CPow fun i j => V.int (i ^ j.toNat))
abbrev aNeg := tUn (rU fun i => V.int (-i))
abbrev rAddS : R2 := fun x y H Q => ∃ i j, x = .str i ∧ y = .str j ∧ i.length + j.length ≤ sizeLine ∧ Q (.str (i ++ j)) H
abbrev aAddS := tOp rAddS
abbrev aCat := tOp rCat
abbrev aCatT (K : PySem.W.Frag) := tOp (rCatT K)
abbrev aRep := tOp rRep
abbrev rLt : R2 := rI0 fun i j => V.bl (decide (i < j))
abbrev rLe : R2 := rI0 fun i j => V.bl (decide (i ≤ j))
abbrev rGt : R2 := rI0 fun i j => V.bl (decide (j < i))
abbrev rGe : R2 := rI0 fun i j => V.bl (decide (j ≤ i))
abbrev rLtS : R2 := fun x y H Q => ∃ i j, x = .str i ∧ y = .str j ∧ Q (.bl (decide (i.cps.toList < j.cps.toList))) H
abbrev rLeS : R2 := fun x y H Q => ∃ i j, x = .str i ∧ y = .str j ∧ Q (.bl (!decide (j.cps.toList < i.cps.toList))) H
abbrev rGtS : R2 := fun x y H Q => ∃ i j, x = .str i ∧ y = .str j ∧ Q (.bl (decide (j.cps.toList < i.cps.toList))) H
abbrev rGeS : R2 := fun x y H Q => ∃ i j, x = .str i ∧ y = .str j ∧ Q (.bl (!decide (i.cps.toList < j.cps.toList))) H
abbrev rLenStr : List V → Hp → VK → Prop := fun xs H Q => ∃ x, xs = [.str x] ∧ x.length ≤ sizeLine ∧ Q (.int (x.length : Nat)) H
abbrev rLenD : List V → Hp → VK → Prop := fun xs H Q => ∃ a kvs, xs = [V.ref a] ∧ H a = some (.dK kvs) ∧ Q (.int kvs.length) H
abbrev rIntS : List V → Hp → VK → Prop := fun xs H Q => ∃ a n, xs = [.str a] ∧ PySem.intText? a = some n ∧ a.length ≤ 640 ∧ Q (.int n) H
abbrev rInt1 : List V → Hp → VK → Prop := fun xs H Q => (∃ i, xs = [.int i] ∧ Q (.int i) H) ∨ ∃ k, xs = [.bl k] ∧ Q (.int (if k then 1 else 0)) H
abbrev rStrI : List V → Hp → VK → Prop := fun xs H Q => ∃ i, xs = [.int i] ∧ i.natAbs.log2 < 1920 ∧ Q (.str (toString i)) H
abbrev rMin2 : List V → Hp → VK → Prop := fun xs H Q => ∃ i j, xs = [.int i, .int j] ∧ Q (.int (if j < i then j else i)) H
abbrev rListOf (K : PySem.W.Frag) : List V → Hp → VK → Prop := fun xs H Q => ∃ p ys, xs = [.ref p] ∧ (SqL K H p ys ∨ SqT K H p ys) ∧ ∀ l, H l = none → Q (.ref l) (upd H l (.lst ys))
abbrev rTupleOf (K : PySem.W.Frag) : List V → Hp → VK → Prop := fun xs H Q => ∃ p ys, xs = [.ref p] ∧ ((SqL K H p ys ∧ ∀ l, H l = none → Q (.ref l) (upd H l (.tup ys))) ∨ (SqT K H p ys ∧ Q (.ref p) H))
abbrev rSortedD : List V → Hp → VK → Prop := fun xs H Q => ∃ (a : Addr) (kvs : List (Key × V)) (ks : List Int), xs = [.ref a] ∧ Rd H a (.dK kvs) ∧ kvs.map (·.1) = ks.map Sum.inl ∧ ks.length < 64 ∧
    ∀ (ys : List Int) (p : Addr), ys.Perm ks → ys.Pairwise (· ≤ ·) → H p = none → Q (.ref p) (upd H p (.lst (ys.map V.int)))
abbrev aJoin (K : PySem.W.Frag) := tM1 (fun x xs H Q => ∃ a p, ∃ ys : List Str, x = .str a ∧ xs = [.ref p] ∧ (SqL K H p (ys.map V.str) ∨ SqT K H p (ys.map V.str)) ∧ (ys.map (·.length)).sum + ys.length * a.length ≤ 16777216 ∧ Q (.str (Txt.join a ys)) H)
abbrev aSplit := tM1 (fun x xs H Q => ∃ a b, x = .str a ∧ xs = [.str b] ∧ (b.length == 0) = false ∧ a.length + 2 ≤ sizeLine ∧ rNewStrs (Txt.split a b) H Q)
abbrev aFind := tM1 (fun x xs H Q => ∃ a b, x = .str a ∧ xs = [.str b] ∧ Q (.int (Txt.find a b)) H)
theorem kit_int_int : kitB "int" "int" = some true := by decide +kernel
theorem kit_int_bool : kitB "int" "bool" = some false := by decide +kernel
theorem kit_int_str : kitB "int" "str" = some false := by decide +kernel
theorem kit_int_list : kitB "int" "list" = some false := by decide +kernel
theorem kit_int_tuple : kitB "int" "tuple" = some false := by decide +kernel
theorem kit_int_dict : kitB "int" "dict" = some false := by decide +kernel
theorem kit_bool_int : kitB "bool" "int" = some true := by decide +kernel
theorem kit_bool_bool : kitB "bool" "bool" = some true := by decide +kernel
theorem kit_bool_str : kitB "bool" "str" = some false := by decide +kernel
theorem kit_bool_list : kitB "bool" "list" = some false := by decide +kernel
theorem kit_bool_tuple : kitB "bool" "tuple" = some false := by decide +kernel
theorem kit_bool_dict : kitB "bool" "dict" = some false := by decide +kernel
theorem kit_str_int : kitB "str" "int" = some false := by decide +kernel
theorem kit_str_bool : kitB "str" "bool" = some false := by decide +kernel
theorem kit_str_str : kitB "str" "str" = some true := by decide +kernel
theorem kit_str_list : kitB "str" "list" = some false := by decide +kernel
theorem kit_str_tuple : kitB "str" "tuple" = some false := by decide +kernel
theorem kit_str_dict : kitB "str" "dict" = some false := by decide +kernel
theorem kit_NoneType_int : kitB "NoneType" "int" = some false := by decide +kernel
theorem kit_NoneType_bool : kitB "NoneType" "bool" = some false := by decide +kernel
theorem kit_NoneType_str : kitB "NoneType" "str" = some false := by decide +kernel
theorem kit_NoneType_list : kitB "NoneType" "list" = some false := by decide +kernel
theorem kit_NoneType_tuple : kitB "NoneType" "tuple" = some false := by decide +kernel
theorem kit_NoneType_dict : kitB "NoneType" "dict" = some false := by decide +kernel
theorem kit_list_int : kitB "list" "int" = some false := by decide +kernel
theorem kit_list_bool : kitB "list" "bool" = some false := by decide +kernel
theorem kit_list_str : kitB "list" "str" = some false := by decide +kernel
theorem kit_list_list : kitB "list" "list" = some true := by decide +kernel
theorem kit_list_tuple : kitB "list" "tuple" = some false := by decide +kernel
theorem kit_list_dict : kitB "list" "dict" = some false := by decide +kernel
theorem kit_tuple_int : kitB "tuple" "int" = some false := by decide +kernel
theorem kit_tuple_bool : kitB "tuple" "bool" = some false := by decide +kernel
theorem kit_tuple_str : kitB "tuple" "str" = some false := by decide +kernel
theorem kit_tuple_list : kitB "tuple" "list" = some false := by decide +kernel
theorem kit_tuple_tuple : kitB "tuple" "tuple" = some true := by decide +kernel
theorem kit_tuple_dict : kitB "tuple" "dict" = some false := by decide +kernel
theorem kit_dict_int : kitB "dict" "int" = some false := by decide +kernel
theorem kit_dict_bool : kitB "dict" "bool" = some false := by decide +kernel
theorem kit_dict_str : kitB "dict" "str" = some false := by decide +kernel
theorem kit_dict_list : kitB "dict" "list" = some false := by decide +kernel
theorem kit_dict_tuple : kitB "dict" "tuple" = some false := by decide +kernel
theorem kit_dict_dict : kitB "dict" "dict" = some true := by decide +kernel
section
variable {K : PySem.W.Frag} {σ σ' : L2.St} {H H' : Hp} {ta tb te tx : TE} {x y z v : V} {r : R2} {Q : VK} {D : Ends} {t u c : TT} {ts tu tw : TS} {g : TG} {i j : Nat}
theorem w_var (h : σ[i]? = some (some v)) (q : Q v H) : tVar i σ H Q := ⟨v, h, q⟩
theorem w_c (q : Q v H) : tC v σ H Q := q
theorem w_op (q : ta σ H fun x H1 => tb σ H1 fun y H2 => r x y H2 Q) : tOp r ta tb σ H Q := q
theorem w_un {r : V → Hp → VK → Prop} (q : ta σ H fun x H1 => r x H1 Q) : tUn r ta σ H Q := q
theorem w_i0 {f : Int → Int → V} {a b : Int} (q : Q (f a b) H) : rI0 f (.int a) (.int b) H Q := ⟨a, b, rfl, rfl, q⟩
theorem w_i {C : Int → Int → Prop} {f : Int → Int → V} {a b : Int} (hc : C a b) (q : Q (f a b) H) : rI C f (.int a) (.int b) H Q := ⟨a, b, rfl, rfl, hc, q⟩
theorem w_u {f : Int → V} {a : Int} (q : Q (f a) H) : rU f (.int a) H Q := ⟨a, rfl, q⟩
theorem w_eqI {a b : Int} (q : Q (.bl (decide (a = b))) H) : rEq (.int a) (.int b) H Q := ⟨rfl, by simpa using q⟩
theorem w_neI {a b : Int} (q : Q (.bl (!decide (a = b))) H) : rNe (.int a) (.int b) H Q := ⟨rfl, by simpa using q⟩
theorem w_eqS {a b : Str} (q : Q (.bl (decide (a = b))) H) : rEq (.str a) (.str b) H Q := ⟨rfl, by simpa using q⟩
theorem w_neS {a b : Str} (q : Q (.bl (!decide (a = b))) H) : rNe (.str a) (.str b) H Q := ⟨rfl, by simpa using q⟩
theorem w_eq (h : scal x y = true) (q : Q (.bl (decide (x = y))) H) : rEq x y H Q := ⟨h, q⟩
theorem w_ne (h : scal x y = true) (q : Q (.bl (!decide (x = y))) H) : rNe x y H Q := ⟨h, q⟩
theorem w_isN (q : Q (.bl (decide (x = .non))) H) : rIsN x .non H Q := ⟨rfl, q⟩
theorem w_notN (q : Q (.bl (!decide (x = .non))) H) : rNotN x .non H Q := ⟨rfl, q⟩
theorem w_s2 {P : Str → Str → Prop} {a b : Str} (q : P a b) : ∃ i j, V.str a = .str i ∧ V.str b = .str j ∧ P i j := ⟨a, b, rfl, rfl, q⟩
theorem w_addS {a b : Str} (h : a.length + b.length ≤ sizeLine) (q : Q (.str (a ++ b)) H) : rAddS (.str a) (.str b) H Q := ⟨a, b, rfl, rfl, h, q⟩
theorem w_inS {c : Nat} {w : Str} (q : Q (.bl (decide (c ∈ w.cps.toList))) H) : rInS (.str ⟨#[c]⟩) (.str w) H Q := ⟨c, w, rfl, rfl, q⟩
theorem w_ninS {c : Nat} {w : Str} (q : Q (.bl (!decide (c ∈ w.cps.toList))) H) : rNotInS (.str ⟨#[c]⟩) (.str w) H Q := ⟨c, w, rfl, rfl, q⟩
theorem w_test {Q : Bool → Hp → Prop} (q : te σ H fun x H' => ∃ k, x = .bl k ∧ Q k H') : tTest te σ H Q := q
theorem w_tB {Q : Bool → Hp → Prop} (q : te σ H fun x H' => ∃ k, x = .bl k ∧ Q k H') : tB te σ H Q := q
theorem w_tru {Q : Bool → Hp → Prop} (q : te σ H fun x H' => ∃ k, TruV K x H' k ∧ Q k H') : tTru K te σ H Q := q
theorem w_bl {P : Bool → Prop} {b : Bool} (q : P b) : ∃ k, V.bl b = .bl k ∧ P k := ⟨b, rfl, q⟩
theorem w_int {P : Int → Prop} {b : Int} (q : P b) : ∃ k, V.int b = .int k ∧ P k := ⟨b, rfl, q⟩
theorem w_ref {P : Addr → Prop} {b : Addr} (q : P b) : ∃ k, V.ref b = .ref k ∧ P k := ⟨b, rfl, q⟩
theorem w_str {P : Str → Prop} {b : Str} (q : P b) : ∃ k, V.str b = .str k ∧ P k := ⟨b, rfl, q⟩
theorem w_and {Q : Bool → Hp → Prop} (q : t σ H fun c H1 => if c = true then u σ H1 Q else Q false H1) : tAnd t u σ H Q := q
theorem w_or {Q : Bool → Hp → Prop} (q : t σ H fun c H1 => if c = true then Q true H1 else u σ H1 Q) : tOr t u σ H Q := q
theorem w_not {Q : Bool → Hp → Prop} (q : t σ H fun c H1 => Q (!c) H1) : tNot t σ H Q := q
theorem w_andV (q : ta σ H fun x H1 => ∃ c, x = .bl c ∧ if c = true then tb σ H1 Q else Q (.bl false) H1) : tAndV ta tb σ H Q := q
theorem w_orV (q : ta σ H fun x H1 => ∃ c, x = .bl c ∧ if c = true then Q (.bl true) H1 else tb σ H1 Q) : tOrV ta tb σ H Q := q
theorem w_notV (q : ta σ H fun x H1 => ∃ c, x = .bl c ∧ Q (.bl (!c)) H1) : tNotV ta σ H Q := q
theorem w_ifE (q : t σ H fun c H1 => if c = true then ta σ H1 Q else tb σ H1 Q) : tIf t ta tb σ H Q := q
theorem w_chain {r r' : R2} {tc : TE} (q : ta σ H fun x H1 => tb σ H1 fun y H2 => r x y H2 fun z H3 => ∃ k, z = .bl k ∧ (if k = true then tc σ H3 fun w' H4 => r' y w' H4 Q else Q (.bl false) H3)) : tChain r r' ta tb tc σ H Q := q
theorem w_dec {p A B : Prop} [Decidable p] (h1 : p → A) (h2 : ¬ p → B) : if decide p = true then A else B := by
  by_cases h : p
  · rw [if_pos (decide_eq_true h)]; exact h1 h
  · rw [if_neg (by simpa using h)]; exact h2 h
theorem w_ndec {p A B : Prop} [Decidable p] (h1 : ¬ p → A) (h2 : p → B) : if (!decide p) = true then A else B := by
  by_cases h : p
  · rw [if_neg (by simpa using h)]; exact h2 h
  · rw [if_pos (by simpa using h)]; exact h1 h
theorem w_bool {b : Bool} {A B : Prop} (h1 : b = true → A) (h2 : b = false → B) : if b = true then A else B := by
  cases b with
  | true => exact h1 rfl
  | false => exact h2 rfl
theorem w_tt {b : Bool} {A B : Prop} (e : b = true) (h : A) : if b = true then A else B := by rw [if_pos e]; exact h
theorem w_ff {b : Bool} {A B : Prop} (e : b = false) (h : B) : if b = true then A else B := by rw [if_neg (by rw [e]; exact Bool.false_ne_true)]; exact h
theorem w_seq (q : ts { D with nx := tu D } σ H) : tSeq ts tu D σ H := q
theorem w_next (q : D.nx σ H) : tNext D σ H := q
theorem w_brk (q : D.bk σ H) : tBreak D σ H := q
theorem w_cont (q : D.ct σ H) : tCont D σ H := q
theorem w_asg (q : te σ H fun x H1 => g x σ H1 D.nx) : tAsg te g D σ H := q
theorem w_gn {Q : L2.St → Hp → Prop} (e : σ.set i (some v) = σ') (q : Q σ' H) : gName i v σ H Q := by subst e; exact q
theorem w_drop (q : te σ H fun _ H1 => D.nx σ H1) : tDrop te D σ H := q
theorem w_ret (q : te σ H D.rt) : tRet te D σ H := q
theorem w_retN (q : D.rt .non H) : tRetN D σ H := q
theorem w_ifS (q : c σ H fun b H1 => if b = true then ts D σ H1 else tu D σ H1) : tIfS c ts tu D σ H := q
theorem w_aug {ti : TIp} (h : σ[i]? = some (some x)) (q : te σ H fun y H1 => ti x y H1 fun z H2 => D.nx (σ.set i (some z)) H2) : tAug i te ti D σ H := ⟨x, h, q⟩
theorem w_ip {f : Int → Int → Int} {a b : Int} (q : Q (.int (f a b)) H) : ipI f (.int a) (.int b) H Q := ⟨a, b, rfl, rfl, q⟩
theorem w_par {ta : TA} (q : ta σ H fun vs H1 => ∃ v w, vs = [v, w] ∧ D.nx ((σ.set i (some v)).set j (some w)) H1) : tPar i j ta D σ H := q
theorem w_v2 {P : V → V → Prop} (q : P x y) : ∃ v w, [x, y] = [v, w] ∧ P v w := ⟨x, y, rfl, q⟩
theorem w_nil {Q : List V → Hp → Prop} (q : Q [] H) : tNil σ H Q := q
theorem w_cons {tr : TA} {Q : List V → Hp → Prop} (q : ta σ H fun x H1 => tr σ H1 fun xs H2 => Q (x :: xs) H2) : tCons ta tr σ H Q := q
theorem w_call {sp : Sp} {E : XK} {t : TA} (q : t σ H fun vs H1 => sp vs H1 Q E) : tCall sp [] E t σ H Q := by
  unfold tCall
  simp only [List.append_nil]
  exact q
theorem w_cb {r : List V → Hp → VK → Prop} {t : TA} (q : t σ H fun vs H1 => r vs H1 Q) : tCB r t σ H Q := q
theorem w_meth {C : Addr} {m : Str} {sp : Sp} {E : XK} {t : TA} (q : ta σ H fun x H1 => ∃ a dx fs, x = .ref a ∧ H1 a = some (.ins C dx fs) ∧ fs.lookup m = none ∧ t σ H1 fun vs H2 => sp (x :: vs) H2 Q E) : tMeth C m sp [] E ta t σ H Q := by
  unfold tMeth
  simp only [List.append_nil]
  exact q
theorem w_make {C : Addr} {sp : Sp} {E : XK} {t : TA} (q : t σ H fun vs H1 => ∀ x dx, H1 x = none → H1 dx = none → dx ≠ x → sp (.ref x :: vs) (upd (upd H1 dx (.own x)) x (.ins C dx [])) (fun v H2 => v = .non ∧ Q (.ref x) H2) E) : tMake C sp [] E t σ H Q := by
  unfold tMake
  simp only [List.append_nil]
  exact q
theorem w_int1 {a : Int} (q : Q (.int a) H) : rInt1 [.int a] H Q := .inl ⟨a, rfl, q⟩
theorem w_int1b {k : Bool} (q : Q (.int (if k then 1 else 0)) H) : rInt1 [.bl k] H Q := .inr ⟨k, rfl, q⟩
theorem w_lenStr {x : Str} (h : x.length ≤ sizeLine) (q : Q (.int (x.length : Nat)) H) : rLenStr [.str x] H Q := ⟨x, rfl, h, q⟩
theorem w_lenS {p : Addr} {xs : List V} (h : SqL K H p xs) (q : Q (.int xs.length) H) : Evl.rLenS K [.ref p] H Q := ⟨p, xs, rfl, .inl h, q⟩
theorem w_lenT {p : Addr} {xs : List V} (h : SqT K H p xs) (q : Q (.int xs.length) H) : Evl.rLenS K [.ref p] H Q := ⟨p, xs, rfl, .inr h, q⟩
theorem w_max2 {a b : Int} (q : Q (.int (if b > a then b else a)) H) : Evl.rMax2 [.int a, .int b] H Q := ⟨a, b, rfl, q⟩
theorem w_min2 {a b : Int} (q : Q (.int (if b < a then b else a)) H) : rMin2 [.int a, .int b] H Q := ⟨a, b, rfl, q⟩
theorem w_isi {c : V} {t u : Value} {b : Bool} (k : ClsV c u) (ty : TyX K H x t) (e : PySem.W.kitOne K t u = some b) (q : Q (.bl b) H) : rIsi K [x, c] H Q := ⟨x, c, t, u, b, rfl, k, ty, e, q⟩
theorem w_isiI {n : String} {b : Bool} {a : Int} (e : kitB "int" n = some b) (q : Q (.bl b) H) : rIsi K [.int a, .ty n] H Q := w_isi (.ty n) (.base (.int a)) (kit_ty e) q
theorem w_isiB {n : String} {b : Bool} {a : Bool} (e : kitB "bool" n = some b) (q : Q (.bl b) H) : rIsi K [.bl a, .ty n] H Q := w_isi (.ty n) (.base (.bl a)) (kit_ty e) q
theorem w_isiN {n : String} {b : Bool} (e : kitB "NoneType" n = some b) (q : Q (.bl b) H) : rIsi K [.non, .ty n] H Q := w_isi (.ty n) (.base .non) (kit_ty e) q
theorem w_isiS {n : String} {b : Bool} {a : Str} (e : kitB "str" n = some b) (q : Q (.bl b) H) : rIsi K [.str a, .ty n] H Q := w_isi (.ty n) (.base (.str a)) (kit_ty e) q
theorem w_isiL {n : String} {b : Bool} {p : Addr} {xs : List V} (h : H p = some (.lst xs)) (e : kitB "list" n = some b) (q : Q (.bl b) H) : rIsi K [.ref p, .ty n] H Q := w_isi (.ty n) (.base (.lst h)) (kit_ty e) q
theorem w_isiT {n : String} {b : Bool} {p : Addr} {xs : List V} (h : H p = some (.tup xs)) (e : kitB "tuple" n = some b) (q : Q (.bl b) H) : rIsi K [.ref p, .ty n] H Q := w_isi (.ty n) (.base (.tup h)) (kit_ty e) q
theorem w_tup {t : TA} (q : t σ H fun xs H1 => xs.length ≤ sizeLine ∧ ∀ p, H1 p = none → Q (.ref p) (upd H1 p (.tup xs))) : tTup t σ H Q := q
theorem w_lst {t : TA} (q : t σ H fun xs H1 => xs.length ≤ sizeLine ∧ ∀ p, H1 p = none → Q (.ref p) (upd H1 p (.lst xs))) : tLst t σ H Q := q
theorem w_sz {n : Nat} {B : Prop} (h : n ≤ sizeLine) (q : B) : n ≤ sizeLine ∧ B := ⟨h, q⟩
theorem w_dnew (q : ∀ p, H p = none → Q (.ref p) (upd H p (.dK []))) : tDNewK σ H Q := q
theorem ex_at {a : Addr} {o : HO} (e : Ex H H') (h : H a = some o) : H' a = some o := e a o h
theorem ex_sq {a : Addr} {xs : List V} (e : Ex H H') (h : SqL K H a xs) : SqL K H' a xs := Evl.ex_l e h
theorem ex_st {a : Addr} {xs : List V} (e : Ex H H') (h : SqT K H a xs) : SqT K H' a xs := Evl.ex_t e h
theorem new_ex {p : Addr} {o : HO} (h : H p = none) (e : upd H p o = H') : Ex H H' := e ▸ Evl.Ex.new h
theorem new_at {p : Addr} {o : HO} (e : upd H p o = H') : H' p = some o := e ▸ upd_same
theorem ex_free {a : Addr} (e : Ex H H') (h : H' a = none) : H a = none := Evl.fresh_back e h
theorem w_ixL {p : Addr} {xs : List V} {i : Int} (h : SqL K H p xs) (a : atI xs i = some v) (q : Q v H) : rIxL K (.ref p) (.int i) H Q := ⟨p, xs, i, v, rfl, rfl, h, a, q⟩
theorem w_ixT {p : Addr} {xs : List V} {i : Int} (h : SqT K H p xs) (a : atI xs i = some v) (q : Q v H) : rIxT K (.ref p) (.int i) H Q := ⟨p, xs, i, v, rfl, rfl, h, a, q⟩
theorem w_ixS {z : Str} {i : Int} {c : Nat} (h : z.length ≤ sizeLine) (a : atI z.cps.toList i = some c) (q : Q (.str ⟨#[c]⟩) H) : rIxS (.str z) (.int i) H Q := ⟨z, i, c, rfl, rfl, h, a, q⟩
theorem w_sl {r : V → Option Int → Option Int → Hp → VK → Prop} {tl th : TO} (q : te σ H fun x H1 => tl σ H1 fun l H2 => th σ H2 fun u H3 => r x l u H3 Q) : tSl r te tl th σ H Q := q
theorem w_noPart {Q : Option Int → Hp → Prop} (q : Q none H) : tNoPart σ H Q := q
theorem w_part {Q : Option Int → Hp → Prop} (q : te σ H fun x H1 => ∃ i, x = .int i ∧ Q (some i) H1) : tPart te σ H Q := q
theorem w_slL {p : Addr} {xs : List V} {lo hi : Option Int} (h : SqL K H p xs) (q : ∀ l, H l = none → Q (.ref l) (upd H l (.lst (cutV xs lo hi)))) : rSlL K (.ref p) lo hi H Q := ⟨p, xs, rfl, h, q⟩
theorem w_slS {z : Str} {lo hi : Option Int} (h : z.length ≤ sizeLine) (q : Q (.str (cutS z lo hi)) H) : rSlS (.str z) lo hi H Q := ⟨z, rfl, h, q⟩
theorem w_cat {l b : Addr} {xs zs : List V} (h1 : H l = some (.lst xs)) (h2 : H b = some (.lst zs)) (hl : xs.length + zs.length ≤ sizeLine) (q : ∀ p, H p = none → Q (.ref p) (upd H p (.lst (xs ++ zs)))) : rCat (.ref l) (.ref b) H Q := ⟨l, b, xs, zs, rfl, rfl, h1, h2, hl, q⟩
theorem w_for {wi : TI} (q : wi σ H fun J H1 => ∃ W : Nat → Nat → L2.St → Hp → Prop, (∃ m, W 0 m σ H1) ∧ ∀ i m σ H, W i m σ H →
  (J.stop i H ∧ D.nx σ H) ∨ (J.go i H ∧ ∃ N : L2.St → Hp → Prop, (∀ σ' H', N σ' H' → ∃ m', m' < m ∧ W (i + 1) m' σ' H') ∧ ∀ x H', J.yld i H x H' → g x σ H' fun σ2 H2 => ts { D with nx := N, ct := N, bk := D.nx } σ2 H2)) : tFor wi g ts D σ H := q
theorem w_iList {R : It → Hp → Prop} (q : te σ H fun x H1 => ∃ a, x = .ref a ∧ (∃ xs, SqL K H1 a xs) ∧ R (Itl K a) H1) : iList K te σ H R := q
theorem w_iTup {R : It → Hp → Prop} (q : te σ H fun x H1 => ∃ a, x = .ref a ∧ (∃ xs, SqT K H1 a xs) ∧ R (Itt K a) H1) : iTup K te σ H R := q
theorem w_iStr {R : It → Hp → Prop} (q : te σ H fun v H1 => ∃ x, v = .str x ∧ R (Its x) H1) : iStr te σ H R := q
theorem w_iRng1 {ta : TA} {R : It → Hp → Prop} (q : ta σ H fun vs H1 => ∃ j : Int, vs = [.int j] ∧ -(2 ^ 62) ≤ j ∧ j < 2 ^ 62 ∧ R (Itr 0 j.toNat) H1) : iRng1 ta σ H R := q
theorem w_iRng2 {ta : TA} {R : It → Hp → Prop} (q : ta σ H fun vs H1 => ∃ i j : Int, vs = [.int i, .int j] ∧ (-(2 ^ 62) ≤ i ∧ i < 2 ^ 62 ∧ -(2 ^ 62) ≤ j ∧ j < 2 ^ 62) ∧ R (Itr i (j - i).toNat) H1) : iRng2 ta σ H R := q
theorem w_v1I {P : Int → Prop} {n : Int} (q : P n) : ∃ j, [V.int n] = [.int j] ∧ P j := ⟨n, rfl, q⟩
theorem w_v2I {P : Int → Int → Prop} {n m : Int} (q : P n m) : ∃ i j, [V.int n, .int m] = [.int i, .int j] ∧ P i j := ⟨n, m, rfl, q⟩
theorem f_list {a : Addr} {xs : List V} (hx : SqL K H a xs) (Pv : Nat → L2.St → Hp → Prop) (h0 : Pv 0 σ H) (hl : ∀ i σ H, i ≤ xs.length → Pv i σ H → SqL K H a xs)
    (hs : ∀ i x σ H, xs[i]? = some x → Pv i σ H → g x σ H fun σ2 H2 => ts { D with nx := Pv (i + 1), ct := Pv (i + 1), bk := D.nx } σ2 H2) (hd : ∀ σ H, Pv xs.length σ H → D.nx σ H) :
    (∃ xs, SqL K H a xs) ∧ ∃ W : Nat → Nat → L2.St → Hp → Prop, (∃ m, W 0 m σ H) ∧ ∀ i m σ H, W i m σ H →
      ((Itl K a).stop i H ∧ D.nx σ H) ∨ ((Itl K a).go i H ∧ ∃ N : L2.St → Hp → Prop, (∀ σ' H', N σ' H' → ∃ m', m' < m ∧ W (i + 1) m' σ' H') ∧ ∀ x H', (Itl K a).yld i H x H' → g x σ H' fun σ2 H2 => ts { D with nx := N, ct := N, bk := D.nx } σ2 H2) :=
  ⟨⟨xs, hx⟩, for_list Pv h0 hl hs hd⟩
theorem f_tup {a : Addr} {xs : List V} (hx : SqT K H a xs) (Pv : Nat → L2.St → Hp → Prop) (h0 : Pv 0 σ H) (hl : ∀ i σ H, i ≤ xs.length → Pv i σ H → SqT K H a xs)
    (hs : ∀ i x σ H, xs[i]? = some x → Pv i σ H → g x σ H fun σ2 H2 => ts { D with nx := Pv (i + 1), ct := Pv (i + 1), bk := D.nx } σ2 H2) (hd : ∀ σ H, Pv xs.length σ H → D.nx σ H) :
    (∃ xs, SqT K H a xs) ∧ ∃ W : Nat → Nat → L2.St → Hp → Prop, (∃ m, W 0 m σ H) ∧ ∀ i m σ H, W i m σ H →
      ((Itt K a).stop i H ∧ D.nx σ H) ∨ ((Itt K a).go i H ∧ ∃ N : L2.St → Hp → Prop, (∀ σ' H', N σ' H' → ∃ m', m' < m ∧ W (i + 1) m' σ' H') ∧ ∀ x H', (Itt K a).yld i H x H' → g x σ H' fun σ2 H2 => ts { D with nx := N, ct := N, bk := D.nx } σ2 H2) :=
  ⟨⟨xs, hx⟩, for_tup Pv h0 hl hs hd⟩
theorem f_rng {n : Int} (h1 : 0 ≤ n) (h2 : n ≤ 1000000) (Pv : Nat → L2.St → Hp → Prop) (h0 : Pv 0 σ H)
    (hs : ∀ (i : Nat) σ H, (i : Int) < n → Pv i σ H → g (.int (i : Int)) σ H fun σ2 H2 => ts { D with nx := Pv (i + 1), ct := Pv (i + 1), bk := D.nx } σ2 H2) (hd : ∀ σ H, Pv n.toNat σ H → D.nx σ H) :
    -(2 ^ 62) ≤ n ∧ n < 2 ^ 62 ∧ ∃ W : Nat → Nat → L2.St → Hp → Prop, (∃ m, W 0 m σ H) ∧ ∀ i m σ H, W i m σ H →
      ((Itr 0 n.toNat).stop i H ∧ D.nx σ H) ∨ ((Itr 0 n.toNat).go i H ∧ ∃ N : L2.St → Hp → Prop, (∀ σ' H', N σ' H' → ∃ m', m' < m ∧ W (i + 1) m' σ' H') ∧ ∀ x H', (Itr 0 n.toNat).yld i H x H' → g x σ H' fun σ2 H2 => ts { D with nx := N, ct := N, bk := D.nx } σ2 H2) := by
  refine ⟨by omega, by omega, for_range Pv h0 (fun i σ H hi p => ?_) hd⟩
  have e : (0 : Int) + (i : Int) = (i : Int) := Int.zero_add _
  rw [e]
  exact hs i σ H (by omega) p
theorem int_item {ns : List Int} {i : Nat} {x : V} (h : (ns.map V.int)[i]? = some x) : ∃ n, x = .int n ∧ ns[i]? = some n := by
  rw [List.getElem?_map] at h
  cases e : ns[i]? with
  | none => rw [e] at h; cases h
  | some z => rw [e] at h; exact ⟨z, (Option.some.inj h).symm, rfl⟩
theorem atI_lt {xs : List V} {i : Int} (h0 : 0 ≤ i) (h1 : i < xs.length) : atI xs i = some (xs.getD i.toNat .non) := by
  have e2 : ((i.toNat : Nat) : Int) = i := by omega
  have h3 : i.toNat < xs.length := by omega
  have e3 : xs[i.toNat]? = some (xs.getD i.toNat .non) := by
    rw [List.getD_eq_getElem?_getD, List.getElem?_eq_getElem h3]
    rfl
  have e := atI_nat (xs := xs) e3
  rw [e2] at e
  exact e
theorem sIx_nat (n d k : Nat) : HT.sIx n d (some (k : Int)) = min k n := by
  unfold HT.sIx
  simp
  omega
theorem cutV_to (xs : List V) (k : Nat) : cutV xs none (some (k : Int)) = xs.take k := by
  unfold cutV
  rw [sIx_nat]
  show (xs.drop 0).take (min k xs.length - 0) = xs.take k
  rw [List.drop_zero, Nat.sub_zero]
  rcases Nat.le_total k xs.length with h | h
  · rw [Nat.min_eq_left h]
  · rw [Nat.min_eq_right h, List.take_of_length_le (Nat.le_refl _), List.take_of_length_le h]
theorem cutV_all (xs : List V) (k : Nat) (h : xs.length ≤ k) : cutV xs none (some (k : Int)) = xs := by
  rw [cutV_to, List.take_of_length_le h]
end
end RT

set_option Elab.async false
set_option linter.all false
set_option maxRecDepth 100000
set_option maxHeartbeats 2000000
namespace RT
open PySem L2
local macro_rules | `(tactic| walk_at "kit") => `(tactic| first | exact kit_int_int | exact kit_int_bool | exact kit_int_str | exact kit_int_list | exact kit_int_tuple | exact kit_int_dict | exact kit_bool_int | exact kit_bool_bool | exact kit_bool_str | exact kit_bool_list | exact kit_bool_tuple | exact kit_bool_dict | exact kit_str_int | exact kit_str_bool | exact kit_str_str | exact kit_str_list | exact kit_str_tuple | exact kit_str_dict | exact kit_NoneType_int | exact kit_NoneType_bool | exact kit_NoneType_str | exact kit_NoneType_list | exact kit_NoneType_tuple | exact kit_NoneType_dict | exact kit_list_int | exact kit_list_bool | exact kit_list_str | exact kit_list_list | exact kit_list_tuple | exact kit_list_dict | exact kit_tuple_int | exact kit_tuple_bool | exact kit_tuple_str | exact kit_tuple_list | exact kit_tuple_tuple | exact kit_tuple_dict | exact kit_dict_int | exact kit_dict_bool | exact kit_dict_str | exact kit_dict_list | exact kit_dict_tuple | exact kit_dict_dict)
local macro_rules | `(tactic| walk_at "hk") => `(tactic| first | assumption | exact ex_at (by assumption) (by walk_at "hk"))
local macro_rules | `(tactic| walk_at "sq") => `(tactic| first | assumption | exact SqL.of (by walk_at "hk") | exact ex_sq (by assumption) (by walk_at "sq"))
local macro_rules | `(tactic| walk_at "st") => `(tactic| first | assumption | exact SqT.of (by walk_at "hk") | exact ex_st (by assumption) (by walk_at "st"))
local macro_rules | `(tactic| walk_at "new") => `(tactic| (intro p hp; generalize hU : upd _ p _ = H'; have e1 := new_ex hp hU; have e2 := new_at hU; clear hU))
local macro_rules | `(tactic| walk_at "set") => `(tactic| ((try simp only [List.set_cons_succ, List.set_cons_zero]); rfl))
local macro_rules | `(tactic| walk_at "small") => `(tactic| first | assumption | (with_unfolding_all exact (by decide : _ ≤ sizeLine)) | (rw [sizeLine_eq]; (try simp only [List.length_cons, List.length_nil]); omega))
local macro_rules | `(tactic| walk_at "sc") => `(tactic| first | assumption | decide | omega | (unfold CMul; omega) | (unfold CDiv; omega) | (unfold CPow; decide))
local macro_rules | `(tactic| walk_at "step") => `(tactic| first
  | with_reducible refine' w_seq ?_
  | with_reducible refine' w_op ?_
  | ((with_reducible refine' w_var ?h ?_); (case h => rfl))
  | with_reducible refine' w_c ?_
  | with_reducible refine' w_i0 ?_
  | with_reducible refine' w_cons ?_
  | with_reducible refine' w_nil ?_
  | with_reducible refine' w_asg ?_
  | ((with_reducible refine' w_gn ?e ?_); (case e => walk_at "set"))
  | with_reducible refine' w_ifS ?_
  | with_reducible refine' w_test ?_
  | with_reducible refine' w_tB ?_
  | with_reducible refine' w_bl ?_
  | with_reducible refine' w_int ?_
  | with_reducible refine' w_ref ?_
  | with_reducible refine' w_str ?_
  | with_reducible refine' w_eqI ?_
  | with_reducible refine' w_neI ?_
  | with_reducible refine' w_eqS ?_
  | with_reducible refine' w_neS ?_
  | with_reducible refine' w_ret ?_
  | with_reducible refine' w_for ?_
  | with_reducible refine' w_iList ?_
  | with_reducible refine' w_iTup ?_
  | with_reducible refine' w_iStr ?_
  | with_reducible refine' w_iRng1 ?_
  | with_reducible refine' w_iRng2 ?_
  | with_reducible refine' w_v1I ?_
  | with_reducible refine' w_v2I ?_
  | with_reducible refine' w_next ?_
  | with_reducible refine' w_call ?_
  | with_reducible refine' w_cb ?_
  | with_reducible refine' w_and ?_
  | with_reducible refine' w_or ?_
  | with_reducible refine' w_not ?_
  | with_reducible refine' w_andV ?_
  | with_reducible refine' w_orV ?_
  | with_reducible refine' w_notV ?_
  | with_reducible refine' w_ifE ?_
  | with_reducible refine' w_drop ?_
  | with_reducible refine' w_un ?_
  | with_reducible refine' w_u ?_
  | with_reducible refine' w_isN ?_
  | with_reducible refine' w_notN ?_
  | with_reducible refine' w_int1 ?_
  | with_reducible refine' w_int1b ?_
  | with_reducible refine' w_tup ?_
  | with_reducible refine' w_lst ?_
  | with_reducible refine' w_dnew ?_
  | with_reducible refine' w_sl ?_
  | with_reducible refine' w_noPart ?_
  | with_reducible refine' w_part ?_
  | with_reducible refine' w_retN ?_
  | with_reducible refine' w_brk ?_
  | with_reducible refine' w_cont ?_
  | with_reducible refine' w_chain ?_
  | with_reducible refine' w_s2 ?_
  | with_reducible refine' w_inS ?_
  | with_reducible refine' w_ninS ?_
  | with_reducible refine' w_par ?_
  | with_reducible refine' w_v2 ?_
  | with_reducible refine' w_max2 ?_
  | with_reducible refine' w_min2 ?_
  | with_reducible refine' w_tru ?_
  | with_reducible refine' w_meth ?_
  | with_reducible refine' w_make ?_
  | ((with_reducible refine' w_isiI ?h ?_); (case h => walk_at "kit"))
  | ((with_reducible refine' w_isiB ?h ?_); (case h => walk_at "kit"))
  | ((with_reducible refine' w_isiN ?h ?_); (case h => walk_at "kit"))
  | ((with_reducible refine' w_isiS ?h ?_); (case h => walk_at "kit"))
  | ((with_reducible refine' w_i ?h ?_); (case h => walk_at "sc"))
  | ((with_reducible refine' w_tt ?h ?_); (case h => rfl))
  | ((with_reducible refine' w_ff ?h ?_); (case h => rfl))
  | ((with_reducible refine' w_lenS ?h ?_); (case h => walk_at "sq"))
  | ((with_reducible refine' w_lenT ?h ?_); (case h => walk_at "st"))
  | ((with_reducible refine' w_slL ?h ?_); (case h => walk_at "sq"))
  | ((with_reducible refine' w_aug ?h ?_); (case h => rfl))
  | with_reducible refine' w_ip ?_
  | ((with_reducible refine' w_cat ?h1 ?h2 ?h3 ?_); (case h1 => walk_at "hk"); (case h2 => walk_at "hk"); (case h3 => walk_at "small"))
  | ((with_reducible refine' w_ixL ?h1 ?h2 ?_); (case h1 => walk_at "sq"); (case h2 => rfl))
  | ((with_reducible refine' w_ixT ?h1 ?h2 ?_); (case h1 => walk_at "st"); (case h2 => rfl))
  | ((with_reducible refine' w_sz ?h ?_); (case h => walk_at "small")))
local macro_rules | `(tactic| walk_at "go") => `(tactic| (repeat (first | walk_at "step" | walk_at "callx")))
local macro_rules | `(tactic| walk_at "goN") => `(tactic| (repeat (first | walk_at "step" | walk_at "callx" | ((with_reducible show ∀ p, _ = none → _); walk_at "new"))))
local macro_rules | `(tactic| walk_at "len") => `(tactic| first
  | (obtain ⟨rfl, _⟩ := h; rfl) | (obtain ⟨_, rfl, _⟩ := h; rfl) | (obtain ⟨_, _, rfl, _⟩ := h; rfl) | (obtain ⟨_, _, _, rfl, _⟩ := h; rfl) | (obtain ⟨_, _, _, _, rfl, _⟩ := h; rfl)
  | (obtain ⟨_, _, _, _, _, rfl, _⟩ := h; rfl) | (obtain ⟨_, _, _, _, _, _, rfl, _⟩ := h; rfl) | (obtain ⟨_, _, _, _, _, _, _, rfl, _⟩ := h; rfl) | (obtain ⟨_, _, _, _, _, _, _, _, rfl, _⟩ := h; rfl)
  | (obtain ⟨_, _, _, _, _, _, _, _, _, rfl, _⟩ := h; rfl) | (obtain ⟨_, _, _, _, _, _, _, _, _, _, rfl, _⟩ := h; rfl))
local macro_rules | `(tactic| walk_at "dec") => `(tactic| (first | with_reducible apply w_dec | with_reducible apply w_ndec | with_reducible apply w_bool) <;> intro hc)
def WD : Int := 18446744073709551616
def reckonF (w : Str) (a b : Int) : Int :=
  if w = "plus" then (a + b) % 18446744073709551616 else if w = "minus" then (a - b) % 18446744073709551616 else if w = "times" then a * b % 18446744073709551616
  else if w = "less" then (if a < b then 1 else 0) else (if a = b then 1 else 0)
def numF (c : Int) : Int := if c % 3 = 0 then c / 3 % 12 else if c % 3 = 1 then 2 ^ 64 - 1 - c / 3 % 5 else c / 3 % 2 ^ 64
def sp_reckon (_ : Ad) : Sp := fun vs H Q _ => ∃ (w : Str) (a b : Int), vs = [.str w, .int a, .int b] ∧ (0 ≤ a ∧ a < 2 ^ 64) ∧ Q (.int (reckonF w a b)) H
def sp_l_number (_ : Ad) : Sp := fun vs H Q _ => ∃ (c : Int), vs = [.int c] ∧ Q (.int (numF c)) H
def sp_l_whole (_ : Ad) : Sp := fun vs H Q _ => ∃ (c : Int), vs = [.int c] ∧ Q (.bl true) H
def sp_l_due (_ : Ad) : Sp := fun vs H Q _ => ∃ (w : Str) (a b : Int), vs = [.str w, .int a, .int b] ∧ (0 ≤ a ∧ a < 2 ^ 64) ∧ Q (.int (reckonF w a b)) H
abbrev sp_law (d : Ad) : Sp := spLaw d.K
abbrev N_reckon : List Str := ["word", "one", "other"]
def t_reckon (d : Ad) : TS :=
  (tSeq (tIfS (tTest (tOp rEq (tVar 0) (tC (.str "plus")))) (tRet (aMod (aAdd (tVar 1) (tVar 2)) (tC (.int 18446744073709551616)))) tNext)
  (tSeq (tIfS (tTest (tOp rEq (tVar 0) (tC (.str "minus")))) (tRet (aMod (aSub (tVar 1) (tVar 2)) (tC (.int 18446744073709551616)))) tNext)
  (tSeq (tIfS (tTest (tOp rEq (tVar 0) (tC (.str "times")))) (tRet (aMod (aMul (tVar 1) (tVar 2)) (tC (.int 18446744073709551616)))) tNext)
  (tSeq (tIfS (tTest (tOp rEq (tVar 0) (tC (.str "less")))) (tRet (tCB rInt1 (tCons (tOp rLt (tVar 1) (tVar 2)) tNil))) tNext)
  (tRet (tCB rInt1 (tCons (tOp rEq (tVar 1) (tVar 2)) tNil)))))))
abbrev N_l_number : List Str := ["_law_cell"]
def t_l_number (d : Ad) : TS :=
  (tSeq (tIfS (tTest (tOp rEq (aMod (tVar 0) (tC (.int 3))) (tC (.int 0)))) (tRet (aMod (aDiv (tVar 0) (tC (.int 3))) (tC (.int 12)))) tNext)
  (tSeq (tIfS (tTest (tOp rEq (aMod (tVar 0) (tC (.int 3))) (tC (.int 1)))) (tRet (aSub (aSub (aPow (tC (.int 2)) (tC (.int 64))) (tC (.int 1))) (aMod (aDiv (tVar 0) (tC (.int 3))) (tC (.int 5))))) tNext)
  (tRet (aMod (aDiv (tVar 0) (tC (.int 3))) (aPow (tC (.int 2)) (tC (.int 64)))))))
abbrev N_l_whole : List Str := ["_law_found"]
def t_l_whole (d : Ad) : TS :=
  (tRet (tAndV (tCB (rIsi d.K) (tCons (tVar 0) (tCons (tC (.ty "int")) tNil))) (tNotV (tCB (rIsi d.K) (tCons (tVar 0) (tCons (tC (.ty "bool")) tNil))))))
abbrev N_l_due : List Str := ["_law_word", "_law_one", "_law_other", "_law_found"]
def t_l_due (d : Ad) : TS :=
  (tSeq (tIfS (tTest (tOp rEq (tVar 0) (tC (.str "plus")))) (tAsg (aAdd (tVar 1) (tVar 2)) (gName 3)) (tIfS (tTest (tOp rEq (tVar 0) (tC (.str "minus")))) (tAsg (aSub (tVar 1) (tVar 2)) (gName 3)) (tIfS (tTest (tOp rEq (tVar 0) (tC (.str "times")))) (tAsg (aMul (tVar 1) (tVar 2)) (gName 3)) (tIfS (tTest (tOp rEq (tVar 0) (tC (.str "less")))) (tAsg (tCB rInt1 (tCons (tOp rLt (tVar 1) (tVar 2)) tNil)) (gName 3)) (tAsg (tCB rInt1 (tCons (tOp rEq (tVar 1) (tVar 2)) tNil)) (gName 3))))))
  (tRet (aMod (tVar 3) (aPow (tC (.int 2)) (tC (.int 64))))))
abbrev N_law : List Str := ["_law_script", "_law_words", "_law_cell", "_law_one", "_law_other", "_law_k", "_law_word", "_law_found"]
def t_law (d : Ad) : TS :=
  (tSeq (tIfS (tOr (tNot (tB (tCall (sp_l_whole d) [] E0 (tCons (tC (.int 18446744073709551616)) tNil)))) (tTest (tOp rNe (tC (.int 18446744073709551616)) (aPow (tC (.int 2)) (tC (.int 64)))))) (tRet (tC (.bl false))) tNext)
  (tSeq (tAsg (tLst (tCons (tC (.str "plus")) (tCons (tC (.str "minus")) (tCons (tC (.str "times")) (tCons (tC (.str "less")) (tCons (tC (.str "same")) tNil)))))) (gName 1))
  (tSeq (tFor (iList d.K (aCat (tLst (tCons (tC (.int 7)) tNil)) (tSl (rSlL d.K) (tVar 0) tNoPart (tPart (tC (.int 63)))))) (gName 2) (tSeq (tAsg (tCall (sp_l_number d) [] E0 (tCons (tVar 2) tNil)) (gName 3))
  (tSeq (tAsg (tCall (sp_l_number d) [] E0 (tCons (aMod (aMul (tVar 2) (tC (.int 48271))) (tC (.int 999999999989))) tNil)) (gName 4))
  (tSeq (tIfS (tTest (tOp rEq (aMod (tVar 2) (tC (.int 5))) (tC (.int 2)))) (tAsg (tVar 3) (gName 4)) tNext)
  (tFor (iRng1 (tCons (tC (.int 5)) tNil)) (gName 5) (tSeq (tAsg (tOp (rIxL d.K) (tVar 1) (aMod (aAdd (aMul (tVar 5) (aAdd (tC (.int 1)) (aMod (aDiv (tVar 2) (tC (.int 5))) (tC (.int 4))))) (aDiv (tVar 2) (tC (.int 20)))) (tC (.int 5)))) (gName 6))
  (tSeq (tAsg (tCall (sp_reckon d) [] E0 (tCons (tVar 6) (tCons (tVar 3) (tCons (tVar 4) tNil)))) (gName 7))
  (tIfS (tOr (tNot (tB (tCall (sp_l_whole d) [] E0 (tCons (tVar 7) tNil)))) (tTest (tOp rNe (tVar 7) (tCall (sp_l_due d) [] E0 (tCons (tVar 6) (tCons (tVar 3) (tCons (tVar 4) tNil))))))) (tRet (tC (.bl false))) tNext))))))))
  (tRet (tC (.bl true))))))
local macro_rules | `(tactic| walk_at "callx") => `(tactic| fail)
theorem pure_reckon {d : Ad} {vs : List V} {H : Hp} {Q : VK} {E : XK} (h : sp_reckon d vs H Q E) : t_reckon d { nx := fun _ H' => Q .non H', rt := Q } (start N_reckon vs) H := by
  obtain ⟨w, a, b, rfl, ha, k⟩ := h
  show t_reckon d _ [some (.str w), some (.int a), some (.int b)] H
  unfold t_reckon
  unfold reckonF at k
  walk_at "go"
  walk_at "dec"
  · rw [if_pos (by assumption)] at k
    walk_at "go"
    exact k
  rw [if_neg (by assumption)] at k
  walk_at "go"
  walk_at "dec"
  · rw [if_pos (by assumption)] at k
    walk_at "go"
    exact k
  rw [if_neg (by assumption)] at k
  walk_at "go"
  walk_at "dec"
  · rw [if_pos (by assumption)] at k
    walk_at "go"
    exact k
  rw [if_neg (by assumption)] at k
  walk_at "go"
  walk_at "dec"
  · rw [if_pos (by assumption)] at k
    walk_at "go"
    simpa using k
  rw [if_neg (by assumption)] at k
  walk_at "go"
  simpa using k
theorem pure_l_number {d : Ad} {vs : List V} {H : Hp} {Q : VK} {E : XK} (h : sp_l_number d vs H Q E) : t_l_number d { nx := fun _ H' => Q .non H', rt := Q } (start N_l_number vs) H := by
  obtain ⟨c, rfl, k⟩ := h
  show t_l_number d _ [some (.int c)] H
  unfold t_l_number
  unfold numF at k
  walk_at "go"
  walk_at "dec"
  · rw [if_pos (by assumption)] at k
    walk_at "go"
    exact k
  rw [if_neg (by assumption)] at k
  walk_at "go"
  walk_at "dec"
  · rw [if_pos (by assumption)] at k
    walk_at "go"
    exact k
  rw [if_neg (by assumption)] at k
  walk_at "go"
  exact k
theorem pure_l_whole {d : Ad} {vs : List V} {H : Hp} {Q : VK} {E : XK} (h : sp_l_whole d vs H Q E) : t_l_whole d { nx := fun _ H' => Q .non H', rt := Q } (start N_l_whole vs) H := by
  obtain ⟨c, rfl, k⟩ := h
  show t_l_whole d _ [some (.int c)] H
  unfold t_l_whole
  walk_at "go"
  exact k
theorem pw64 : (2 : Int) ^ (64 : Int).toNat = 18446744073709551616 := by decide
theorem pure_l_due {d : Ad} {vs : List V} {H : Hp} {Q : VK} {E : XK} (h : sp_l_due d vs H Q E) : t_l_due d { nx := fun _ H' => Q .non H', rt := Q } (start N_l_due vs) H := by
  obtain ⟨w, a, b, rfl, ha, k⟩ := h
  show t_l_due d _ [some (.str w), some (.int a), some (.int b), none] H
  unfold t_l_due
  unfold reckonF at k
  walk_at "go"
  walk_at "dec"
  · rw [if_pos (by assumption)] at k
    walk_at "go"
    rw [pw64]; exact k
  rw [if_neg (by assumption)] at k
  walk_at "go"
  walk_at "dec"
  · rw [if_pos (by assumption)] at k
    walk_at "go"
    rw [pw64]; exact k
  rw [if_neg (by assumption)] at k
  walk_at "go"
  walk_at "dec"
  · rw [if_pos (by assumption)] at k
    walk_at "go"
    rw [pw64]; exact k
  rw [if_neg (by assumption)] at k
  walk_at "go"
  walk_at "dec"
  · rw [if_pos (by assumption)] at k
    walk_at "go"
    rw [pw64]
    have e : (if decide (a < b) = true then (1 : Int) else 0) % 18446744073709551616 = if a < b then 1 else 0 := by
      by_cases h : a < b <;> simp [h]
    rw [e]; exact k
  rw [if_neg (by assumption)] at k
  walk_at "go"
  rw [pw64]
  have e : (if decide (a = b) = true then (1 : Int) else 0) % 18446744073709551616 = if a = b then 1 else 0 := by
    by_cases h : a = b <;> simp [h]
  rw [e]; exact k
theorem c_whole {d : Ad} {c : Int} {H : Hp} {Q : VK} {E : XK} (q : Q (.bl true) H) : sp_l_whole d [.int c] H Q E := ⟨c, rfl, q⟩
theorem c_number {d : Ad} {c : Int} {H : Hp} {Q : VK} {E : XK} (q : Q (.int (numF c)) H) : sp_l_number d [.int c] H Q E := ⟨c, rfl, q⟩
theorem numF_in (c : Int) : 0 ≤ numF c ∧ numF c < 2 ^ 64 := by
  unfold numF
  split
  · omega
  · split <;> omega
local macro_rules | `(tactic| walk_at "callx") => `(tactic| first | with_reducible refine' c_whole ?_ | with_reducible refine' c_number ?_)
def words5 : List V := [.str "plus", .str "minus", .str "times", .str "less", .str "same"]
theorem words5_str (i : Nat) (h : i < 5) : ∃ w : Str, words5.getD i .non = .str w := by
  match i, h with
  | 0, _ => exact ⟨_, rfl⟩
  | 1, _ => exact ⟨_, rfl⟩
  | 2, _ => exact ⟨_, rfl⟩
  | 3, _ => exact ⟨_, rfl⟩
  | 4, _ => exact ⟨_, rfl⟩
theorem pure_law {d : Ad} {vs : List V} {H : Hp} {Q : VK} {E : XK} (h : sp_law d vs H Q E) : t_law d { nx := fun _ H' => Q .non H', rt := Q } (start N_law vs) H := by
  obtain ⟨a, ns, rfl, hS, hlen, k⟩ := h
  show t_law d _ [some (.ref a), none, none, none, none, none, none, none] H
  unfold t_law
  walk_at "goN"
  rename_i wp hwp H1 e1 f1 p7 hp7 H2 e2 f2 l hl H3 e3 f3
  rw [show (63 : Int) = ((63 : Nat) : Int) from rfl, cutV_all _ _ (by simpa using hlen)] at f3
  refine w_cat (by walk_at "hk") (by walk_at "hk") (by rw [sizeLine_eq]; simp; omega) ?_
  walk_at "goN"
  rename_i c hc H4 e4 f4
  have f4' : H4 c = some (.lst ((7 :: ns).map V.int)) := f4
  refine f_list (SqL.of f4') (fun i σ H => ∃ x2 x3 x4 x5 x6 x7, σ = [some (.ref a), some (.ref wp), x2, x3, x4, x5, x6, x7] ∧ Ex H4 H) ⟨_, _, _, _, _, _, rfl, Evl.Ex.refl _⟩ (fun i σ H _ ⟨_, _, _, _, _, _, _, e⟩ => SqL.of (e _ _ f4')) ?_ ?_
  · rintro i x σ H5 hi ⟨x2, x3, x4, x5, x6, x7, rfl, e5⟩
    obtain ⟨n, rfl, _⟩ := int_item hi
    walk_at "goN"
    walk_at "dec"
    all_goals
      walk_at "goN"
      refine f_rng (by omega) (by omega) (fun i σ H => ∃ x5 x6 x7, σ = [some (.ref a), some (.ref wp), some (.int n), some (.int _), some (.int _), x5, x6, x7] ∧ Ex H4 H) ⟨_, _, _, rfl, e5⟩ ?_ ?_
      · rintro j σ H6 hj ⟨x5, x6, x7, rfl, e6⟩
        have f6 : H6 wp = some (.lst words5) := e6 _ _ (by walk_at "hk")
        walk_at "goN"
        refine w_ixL (SqL.of f6) (atI_lt (by omega) (by show _ < (5 : Int); omega)) ?_
        generalize hm : ((↑j * (1 + n / 5 % 4) + n / 20) % 5 : Int) = m
        obtain ⟨w, hw⟩ := words5_str m.toNat (by omega)
        rw [hw]
        walk_at "goN"
        refine ⟨_, _, _, rfl, numF_in _, ?_⟩
        walk_at "goN"
        refine ⟨_, _, _, rfl, numF_in _, ?_⟩
        walk_at "goN"
        walk_at "dec"
        · exact absurd rfl (by assumption)
        · walk_at "goN"
          exact ⟨_, _, _, rfl, e6⟩
      · rintro σ H6 ⟨x5, x6, x7, rfl, e6⟩
        exact ⟨_, _, _, _, _, _, rfl, e6⟩
  · rintro σ H5 ⟨x2, x3, x4, x5, x6, x7, rfl, e5⟩
    walk_at "goN"
    exact k _
end RT

set_option Elab.async false
set_option linter.all false
set_option maxRecDepth 100000
set_option maxHeartbeats 2000000
namespace Row
open PySem L2 RT
local macro_rules | `(tactic| walk_at "kit") => `(tactic| first | exact kit_int_int | exact kit_int_bool | exact kit_int_str | exact kit_int_list | exact kit_int_tuple | exact kit_int_dict | exact kit_bool_int | exact kit_bool_bool | exact kit_bool_str | exact kit_bool_list | exact kit_bool_tuple | exact kit_bool_dict | exact kit_str_int | exact kit_str_bool | exact kit_str_str | exact kit_str_list | exact kit_str_tuple | exact kit_str_dict | exact kit_NoneType_int | exact kit_NoneType_bool | exact kit_NoneType_str | exact kit_NoneType_list | exact kit_NoneType_tuple | exact kit_NoneType_dict | exact kit_list_int | exact kit_list_bool | exact kit_list_str | exact kit_list_list | exact kit_list_tuple | exact kit_list_dict | exact kit_tuple_int | exact kit_tuple_bool | exact kit_tuple_str | exact kit_tuple_list | exact kit_tuple_tuple | exact kit_tuple_dict | exact kit_dict_int | exact kit_dict_bool | exact kit_dict_str | exact kit_dict_list | exact kit_dict_tuple | exact kit_dict_dict)
local macro_rules | `(tactic| walk_at "hk") => `(tactic| first | assumption | exact ex_at (by assumption) (by walk_at "hk"))
local macro_rules | `(tactic| walk_at "sq") => `(tactic| first | assumption | exact SqL.of (by walk_at "hk") | exact ex_sq (by assumption) (by walk_at "sq"))
local macro_rules | `(tactic| walk_at "st") => `(tactic| first | assumption | exact SqT.of (by walk_at "hk") | exact ex_st (by assumption) (by walk_at "st"))
local macro_rules | `(tactic| walk_at "new") => `(tactic| (intro p hp; generalize hU : upd _ p _ = H'; have e1 := new_ex hp hU; have e2 := new_at hU; clear hU))
local macro_rules | `(tactic| walk_at "set") => `(tactic| ((try simp only [List.set_cons_succ, List.set_cons_zero]); rfl))
local macro_rules | `(tactic| walk_at "small") => `(tactic| first | assumption | (with_unfolding_all exact (by decide : _ ≤ sizeLine)) | (rw [sizeLine_eq]; (try simp only [List.length_cons, List.length_nil]); omega))
local macro_rules | `(tactic| walk_at "sc") => `(tactic| first | assumption | decide | omega | (unfold CMul; omega) | (unfold CDiv; omega) | (unfold CPow; decide))
local macro_rules | `(tactic| walk_at "step") => `(tactic| first
  | with_reducible refine' w_seq ?_
  | with_reducible refine' w_op ?_
  | ((with_reducible refine' w_var ?h ?_); (case h => rfl))
  | with_reducible refine' w_c ?_
  | with_reducible refine' w_i0 ?_
  | with_reducible refine' w_cons ?_
  | with_reducible refine' w_nil ?_
  | with_reducible refine' w_asg ?_
  | ((with_reducible refine' w_gn ?e ?_); (case e => walk_at "set"))
  | with_reducible refine' w_ifS ?_
  | with_reducible refine' w_test ?_
  | with_reducible refine' w_tB ?_
  | with_reducible refine' w_bl ?_
  | with_reducible refine' w_int ?_
  | with_reducible refine' w_ref ?_
  | with_reducible refine' w_str ?_
  | with_reducible refine' w_eqI ?_
  | with_reducible refine' w_neI ?_
  | with_reducible refine' w_eqS ?_
  | with_reducible refine' w_neS ?_
  | with_reducible refine' w_ret ?_
  | with_reducible refine' w_for ?_
  | with_reducible refine' w_iList ?_
  | with_reducible refine' w_iTup ?_
  | with_reducible refine' w_iStr ?_
  | with_reducible refine' w_iRng1 ?_
  | with_reducible refine' w_iRng2 ?_
  | with_reducible refine' w_v1I ?_
  | with_reducible refine' w_v2I ?_
  | with_reducible refine' w_next ?_
  | with_reducible refine' w_call ?_
  | with_reducible refine' w_cb ?_
  | with_reducible refine' w_and ?_
  | with_reducible refine' w_or ?_
  | with_reducible refine' w_not ?_
  | with_reducible refine' w_andV ?_
  | with_reducible refine' w_orV ?_
  | with_reducible refine' w_notV ?_
  | with_reducible refine' w_ifE ?_
  | with_reducible refine' w_drop ?_
  | with_reducible refine' w_un ?_
  | with_reducible refine' w_u ?_
  | with_reducible refine' w_isN ?_
  | with_reducible refine' w_notN ?_
  | with_reducible refine' w_int1 ?_
  | with_reducible refine' w_int1b ?_
  | with_reducible refine' w_tup ?_
  | with_reducible refine' w_lst ?_
  | with_reducible refine' w_dnew ?_
  | with_reducible refine' w_sl ?_
  | with_reducible refine' w_noPart ?_
  | with_reducible refine' w_part ?_
  | with_reducible refine' w_retN ?_
  | with_reducible refine' w_brk ?_
  | with_reducible refine' w_cont ?_
  | with_reducible refine' w_chain ?_
  | with_reducible refine' w_s2 ?_
  | with_reducible refine' w_inS ?_
  | with_reducible refine' w_ninS ?_
  | with_reducible refine' w_par ?_
  | with_reducible refine' w_v2 ?_
  | with_reducible refine' w_max2 ?_
  | with_reducible refine' w_min2 ?_
  | with_reducible refine' w_tru ?_
  | with_reducible refine' w_meth ?_
  | with_reducible refine' w_make ?_
  | ((with_reducible refine' w_isiI ?h ?_); (case h => walk_at "kit"))
  | ((with_reducible refine' w_isiB ?h ?_); (case h => walk_at "kit"))
  | ((with_reducible refine' w_isiN ?h ?_); (case h => walk_at "kit"))
  | ((with_reducible refine' w_isiS ?h ?_); (case h => walk_at "kit"))
  | ((with_reducible refine' w_i ?h ?_); (case h => walk_at "sc"))
  | ((with_reducible refine' w_tt ?h ?_); (case h => rfl))
  | ((with_reducible refine' w_ff ?h ?_); (case h => rfl))
  | ((with_reducible refine' w_lenS ?h ?_); (case h => walk_at "sq"))
  | ((with_reducible refine' w_lenT ?h ?_); (case h => walk_at "st"))
  | ((with_reducible refine' w_slL ?h ?_); (case h => walk_at "sq"))
  | ((with_reducible refine' w_aug ?h ?_); (case h => rfl))
  | with_reducible refine' w_ip ?_
  | ((with_reducible refine' w_cat ?h1 ?h2 ?h3 ?_); (case h1 => walk_at "hk"); (case h2 => walk_at "hk"); (case h3 => walk_at "small"))
  | ((with_reducible refine' w_ixL ?h1 ?h2 ?_); (case h1 => walk_at "sq"); (case h2 => rfl))
  | ((with_reducible refine' w_ixT ?h1 ?h2 ?_); (case h1 => walk_at "st"); (case h2 => rfl))
  | ((with_reducible refine' w_sz ?h ?_); (case h => walk_at "small")))
local macro_rules | `(tactic| walk_at "go") => `(tactic| (repeat (first | walk_at "step" | walk_at "callx")))
local macro_rules | `(tactic| walk_at "goN") => `(tactic| (repeat (first | walk_at "step" | walk_at "callx" | ((with_reducible show ∀ p, _ = none → _); walk_at "new"))))
local macro_rules | `(tactic| walk_at "len") => `(tactic| first
  | (obtain ⟨rfl, _⟩ := h; rfl) | (obtain ⟨_, rfl, _⟩ := h; rfl) | (obtain ⟨_, _, rfl, _⟩ := h; rfl) | (obtain ⟨_, _, _, rfl, _⟩ := h; rfl) | (obtain ⟨_, _, _, _, rfl, _⟩ := h; rfl)
  | (obtain ⟨_, _, _, _, _, rfl, _⟩ := h; rfl) | (obtain ⟨_, _, _, _, _, _, rfl, _⟩ := h; rfl) | (obtain ⟨_, _, _, _, _, _, _, rfl, _⟩ := h; rfl) | (obtain ⟨_, _, _, _, _, _, _, _, rfl, _⟩ := h; rfl)
  | (obtain ⟨_, _, _, _, _, _, _, _, _, rfl, _⟩ := h; rfl) | (obtain ⟨_, _, _, _, _, _, _, _, _, _, rfl, _⟩ := h; rfl))
local macro_rules | `(tactic| walk_at "dec") => `(tactic| (first | with_reducible apply w_dec | with_reducible apply w_ndec | with_reducible apply w_bool) <;> intro hc)
def top (i : Nat) : Stmt := PySem.Challenge.pw_retryhall_k01_reckon.main.body.getD i (.Pass ⟨0, 0, 0, 0⟩)
abbrev s_reckon : Stmt := top 2
theorem sc_reckon : FnScope N_reckon ["word", "one", "other"] (defScope s_reckon) := ⟨rfl, rfl, rfl, by decide +kernel, rfl, by decide +kernel, by decide +kernel⟩
abbrev s_l_number : Stmt := top 4
theorem sc_l_number : FnScope N_l_number ["_law_cell"] (defScope s_l_number) := ⟨rfl, rfl, rfl, by decide +kernel, rfl, by decide +kernel, by decide +kernel⟩
abbrev s_l_whole : Stmt := top 5
theorem sc_l_whole : FnScope N_l_whole ["_law_found"] (defScope s_l_whole) := ⟨rfl, rfl, rfl, by decide +kernel, rfl, by decide +kernel, by decide +kernel⟩
abbrev s_l_due : Stmt := top 6
theorem sc_l_due : FnScope N_l_due ["_law_word", "_law_one", "_law_other"] (defScope s_l_due) := ⟨rfl, rfl, rfl, by decide +kernel, rfl, by decide +kernel, by decide +kernel⟩
abbrev s_law : Stmt := top 7
theorem sc_law : FnScope N_law ["_law_script"] (defScope s_law) := ⟨rfl, rfl, rfl, by decide +kernel, rfl, by decide +kernel, by decide +kernel⟩
structure Fs where
  f_reckon : Addr
  d_reckon : FuncData
  f_l_number : Addr
  d_l_number : FuncData
  f_l_whole : Addr
  d_l_whole : FuncData
  f_l_due : Addr
  d_l_due : FuncData
  f_law : Addr
  d_law : FuncData
  k_WIDE : Tok
structure Txt (d : Ad) (mg : Str → Option Value) (z : Fs) : Prop where
  F_reckon : Fun d.K "reckon" "reckon" s_reckon z.f_reckon z.d_reckon
  B_reckon : Binds d.K z.d_reckon ["word", "one", "other"] []
  m_reckon : mg "reckon" = some (.ref z.f_reckon)
  F_l_number : Fun d.K "_law_number" "_law_number" s_l_number z.f_l_number z.d_l_number
  B_l_number : Binds d.K z.d_l_number ["_law_cell"] []
  m_l_number : mg "_law_number" = some (.ref z.f_l_number)
  F_l_whole : Fun d.K "_law_whole" "_law_whole" s_l_whole z.f_l_whole z.d_l_whole
  B_l_whole : Binds d.K z.d_l_whole ["_law_found"] []
  m_l_whole : mg "_law_whole" = some (.ref z.f_l_whole)
  F_l_due : Fun d.K "_law_due" "_law_due" s_l_due z.f_l_due z.d_l_due
  B_l_due : Binds d.K z.d_l_due ["_law_word", "_law_one", "_law_other"] []
  m_l_due : mg "_law_due" = some (.ref z.f_l_due)
  F_law : Fun d.K "law" "law" s_law z.f_law z.d_law
  B_law : Binds d.K z.d_law ["_law_script"] []
  m_law : mg "law" = some (.ref z.f_law)
  b_bool : mg "bool" = none
  b_int : mg "int" = none
  b_isinstance : mg "isinstance" = none
  b_range : mg "range" = none
  g_WIDE : mg "WIDE" = some (.int 18446744073709551616 z.k_WIDE)
section
variable {P : Program} {w : World} {mg : Str → Option Value} {base : Heap} {d : Ad} {z : Fs}
theorem ok_reckon (T : Txt d mg z) : FnOk P w d.K mg base CX0 1 z.f_reckon z.d_reckon ["word", "one", "other"] (sp_reckon d) := by
  refine T.F_reckon.ok sc_reckon (fun vs H Q E h => by first | (obtain ⟨rfl, _⟩ := h; rfl) | (obtain ⟨_, rfl, _⟩ := h; rfl) | (obtain ⟨_, _, rfl, _⟩ := h; rfl) | (obtain ⟨_, _, _, rfl, _⟩ := h; rfl) | (obtain ⟨_, _, _, _, rfl, _⟩ := h; rfl) | (obtain ⟨_, _, _, _, _, rfl, _⟩ := h; rfl) | (obtain ⟨_, _, _, _, _, _, rfl, _⟩ := h; rfl) | (obtain ⟨_, _, _, _, _, _, _, rfl, _⟩ := h; rfl) | (obtain ⟨_, _, _, _, _, _, _, _, rfl, _⟩ := h; rfl) | (obtain ⟨_, _, _, _, _, _, _, _, _, rfl, _⟩ := h; rfl) | (obtain ⟨_, _, _, _, _, _, _, _, _, _, rfl, _⟩ := h; rfl)) (fun cdv A outer s H vs Q E hr h => ⟨t_reckon d, ?_, pure_reckon  h⟩)
  exact (pss_cons (ps_if (pt_cmpR op_eq (pv 0) pe_str (nomark _)) (pss_one (ps_ret (pe_op op_mod (pe_op op_add (pv 1) (pv 2)) (pe_glob rfl T.g_WIDE ⟨_, rfl⟩)))) pss_nil)
      (pss_cons (ps_if (pt_cmpR op_eq (pv 0) pe_str (nomark _)) (pss_one (ps_ret (pe_op op_mod (pe_op op_sub (pv 1) (pv 2)) (pe_glob rfl T.g_WIDE ⟨_, rfl⟩)))) pss_nil)
      (pss_cons (ps_if (pt_cmpR op_eq (pv 0) pe_str (nomark _)) (pss_one (ps_ret (pe_op op_mod (pe_op op_mul (pv 1) (pv 2)) (pe_glob rfl T.g_WIDE ⟨_, rfl⟩)))) pss_nil)
      (pss_cons (ps_if (pt_cmpR op_eq (pv 0) pe_str (nomark _)) (pss_one (ps_ret (pe_callTy call_int1 (by rfl) T.b_int (by decide +kernel) (pa_cons (pe_cmpR op_lt (pv 1) (pv 2) (nomark _)) pa_nil)))) pss_nil)
      (pss_one (ps_ret (pe_callTy call_int1 (by rfl) T.b_int (by decide +kernel) (pa_cons (pe_cmpR op_eq (pv 1) (pv 2) (nomark _)) pa_nil))))))))
theorem ok_l_number (T : Txt d mg z) : FnOk P w d.K mg base CX0 1 z.f_l_number z.d_l_number ["_law_cell"] (sp_l_number d) := by
  refine T.F_l_number.ok sc_l_number (fun vs H Q E h => by first | (obtain ⟨rfl, _⟩ := h; rfl) | (obtain ⟨_, rfl, _⟩ := h; rfl) | (obtain ⟨_, _, rfl, _⟩ := h; rfl) | (obtain ⟨_, _, _, rfl, _⟩ := h; rfl) | (obtain ⟨_, _, _, _, rfl, _⟩ := h; rfl) | (obtain ⟨_, _, _, _, _, rfl, _⟩ := h; rfl) | (obtain ⟨_, _, _, _, _, _, rfl, _⟩ := h; rfl) | (obtain ⟨_, _, _, _, _, _, _, rfl, _⟩ := h; rfl) | (obtain ⟨_, _, _, _, _, _, _, _, rfl, _⟩ := h; rfl) | (obtain ⟨_, _, _, _, _, _, _, _, _, rfl, _⟩ := h; rfl) | (obtain ⟨_, _, _, _, _, _, _, _, _, _, rfl, _⟩ := h; rfl)) (fun cdv A outer s H vs Q E hr h => ⟨t_l_number d, ?_, pure_l_number  h⟩)
  exact (pss_cons (ps_if (pt_cmpR op_eq (pe_op op_mod (pv 0) pe_int) pe_int (nomark _)) (pss_one (ps_ret (pe_op op_mod (pe_op op_fdiv (pv 0) pe_int) pe_int))) pss_nil)
      (pss_cons (ps_if (pt_cmpR op_eq (pe_op op_mod (pv 0) pe_int) pe_int (nomark _)) (pss_one (ps_ret (pe_op op_sub (pe_op op_sub (pe_op op_pow pe_int pe_int) pe_int) (pe_op op_mod (pe_op op_fdiv (pv 0) pe_int) pe_int)))) pss_nil)
      (pss_one (ps_ret (pe_op op_mod (pe_op op_fdiv (pv 0) pe_int) (pe_op op_pow pe_int pe_int))))))
theorem ok_l_whole (T : Txt d mg z) : FnOk P w d.K mg base CX0 1 z.f_l_whole z.d_l_whole ["_law_found"] (sp_l_whole d) := by
  refine T.F_l_whole.ok sc_l_whole (fun vs H Q E h => by first | (obtain ⟨rfl, _⟩ := h; rfl) | (obtain ⟨_, rfl, _⟩ := h; rfl) | (obtain ⟨_, _, rfl, _⟩ := h; rfl) | (obtain ⟨_, _, _, rfl, _⟩ := h; rfl) | (obtain ⟨_, _, _, _, rfl, _⟩ := h; rfl) | (obtain ⟨_, _, _, _, _, rfl, _⟩ := h; rfl) | (obtain ⟨_, _, _, _, _, _, rfl, _⟩ := h; rfl) | (obtain ⟨_, _, _, _, _, _, _, rfl, _⟩ := h; rfl) | (obtain ⟨_, _, _, _, _, _, _, _, rfl, _⟩ := h; rfl) | (obtain ⟨_, _, _, _, _, _, _, _, _, rfl, _⟩ := h; rfl) | (obtain ⟨_, _, _, _, _, _, _, _, _, _, rfl, _⟩ := h; rfl)) (fun cdv A outer s H vs Q E hr h => ⟨t_l_whole d, ?_, pure_l_whole  h⟩)
  exact (pss_one (ps_ret (pe_and (pe_callB call_isi (by rfl) T.b_isinstance (by decide +kernel) (pa_cons (pv 0) (pa_cons (pe_bltn (v := .ty "int") (by rfl) T.b_int (by decide +kernel) rfl) pa_nil))) (pe_one (pe_not (pe_callB call_isi (by rfl) T.b_isinstance (by decide +kernel) (pa_cons (pv 0) (pa_cons (pe_bltn (v := .ty "bool") (by rfl) T.b_bool (by decide +kernel) rfl) pa_nil))))))))
theorem ok_l_due (T : Txt d mg z) : FnOk P w d.K mg base CX0 1 z.f_l_due z.d_l_due ["_law_word", "_law_one", "_law_other"] (sp_l_due d) := by
  refine T.F_l_due.ok sc_l_due (fun vs H Q E h => by first | (obtain ⟨rfl, _⟩ := h; rfl) | (obtain ⟨_, rfl, _⟩ := h; rfl) | (obtain ⟨_, _, rfl, _⟩ := h; rfl) | (obtain ⟨_, _, _, rfl, _⟩ := h; rfl) | (obtain ⟨_, _, _, _, rfl, _⟩ := h; rfl) | (obtain ⟨_, _, _, _, _, rfl, _⟩ := h; rfl) | (obtain ⟨_, _, _, _, _, _, rfl, _⟩ := h; rfl) | (obtain ⟨_, _, _, _, _, _, _, rfl, _⟩ := h; rfl) | (obtain ⟨_, _, _, _, _, _, _, _, rfl, _⟩ := h; rfl) | (obtain ⟨_, _, _, _, _, _, _, _, _, rfl, _⟩ := h; rfl) | (obtain ⟨_, _, _, _, _, _, _, _, _, _, rfl, _⟩ := h; rfl)) (fun cdv A outer s H vs Q E hr h => ⟨t_l_due d, ?_, pure_l_due  h⟩)
  exact (pss_cons (ps_if (pt_cmpR op_eq (pv 0) pe_str (nomark _)) (pss_one (ps_set (i := 3) sc_l_due.nd rfl (Or.inl rfl) (pe_op op_add (pv 1) (pv 2)))) (pss_one (ps_if (pt_cmpR op_eq (pv 0) pe_str (nomark _)) (pss_one (ps_set (i := 3) sc_l_due.nd rfl (Or.inl rfl) (pe_op op_sub (pv 1) (pv 2)))) (pss_one (ps_if (pt_cmpR op_eq (pv 0) pe_str (nomark _)) (pss_one (ps_set (i := 3) sc_l_due.nd rfl (Or.inl rfl) (pe_op op_mul (pv 1) (pv 2)))) (pss_one (ps_if (pt_cmpR op_eq (pv 0) pe_str (nomark _)) (pss_one (ps_set (i := 3) sc_l_due.nd rfl (Or.inl rfl) (pe_callTy call_int1 (by rfl) T.b_int (by decide +kernel) (pa_cons (pe_cmpR op_lt (pv 1) (pv 2) (nomark _)) pa_nil)))) (pss_one (ps_set (i := 3) sc_l_due.nd rfl (Or.inl rfl) (pe_callTy call_int1 (by rfl) T.b_int (by decide +kernel) (pa_cons (pe_cmpR op_eq (pv 1) (pv 2) (nomark _)) pa_nil)))))))))))
      (pss_one (ps_ret (pe_op op_mod (pv 3) (pe_op op_pow pe_int pe_int)))))
theorem ok_law (T : Txt d mg z) : FnOk P w d.K mg base CX0 2 z.f_law z.d_law ["_law_script"] (sp_law d) := by
  have G_l_whole := ok_l_whole (P := P) (w := w) (base := base) T
  have G_l_number := ok_l_number (P := P) (w := w) (base := base) T
  have G_reckon := ok_reckon (P := P) (w := w) (base := base) T
  have G_l_due := ok_l_due (P := P) (w := w) (base := base) T
  refine T.F_law.ok sc_law (fun vs H Q E h => by first | (obtain ⟨rfl, _⟩ := h; rfl) | (obtain ⟨_, rfl, _⟩ := h; rfl) | (obtain ⟨_, _, rfl, _⟩ := h; rfl) | (obtain ⟨_, _, _, rfl, _⟩ := h; rfl) | (obtain ⟨_, _, _, _, rfl, _⟩ := h; rfl) | (obtain ⟨_, _, _, _, _, rfl, _⟩ := h; rfl) | (obtain ⟨_, _, _, _, _, _, rfl, _⟩ := h; rfl) | (obtain ⟨_, _, _, _, _, _, _, rfl, _⟩ := h; rfl) | (obtain ⟨_, _, _, _, _, _, _, _, rfl, _⟩ := h; rfl) | (obtain ⟨_, _, _, _, _, _, _, _, _, rfl, _⟩ := h; rfl) | (obtain ⟨_, _, _, _, _, _, _, _, _, _, rfl, _⟩ := h; rfl)) (fun cdv A outer s H vs Q E hr h => ⟨t_law d, ?_, pure_law  h⟩)
  exact (pss_cons (ps_if (PW.pt (pw_or (pt_not (pt_val (pe_call G_l_whole (hr.mono (by decide)) rfl T.m_l_whole T.F_l_whole.kp T.B_l_whole .nil pass0 (pa_cons (pe_glob rfl T.g_WIDE ⟨_, rfl⟩) pa_nil)))) (pw_or1 (pt_cmpR op_ne (pe_glob rfl T.g_WIDE ⟨_, rfl⟩) (pe_op op_pow pe_int pe_int) (nomark _))))) (pss_one (ps_ret pe_bl)) pss_nil)
      (pss_cons (ps_set (i := 1) sc_law.nd rfl (Or.inl rfl) (pe_lst (pa_cons pe_str (pa_cons pe_str (pa_cons pe_str (pa_cons pe_str (pa_cons pe_str pa_nil)))))))
      (pss_cons (ps_for PassesOwn.never rfl (pi_list (pe_op op_cat (pe_lst (pa_cons pe_int pa_nil)) (pe_slice sl_list (pv 0) po_none (po_some pe_int)))) (pg_name (i := 2) sc_law.nd rfl (Or.inl rfl)) (pss_cons (ps_set (i := 3) sc_law.nd rfl (Or.inl rfl) (pe_call G_l_number (hr.mono (by decide)) rfl T.m_l_number T.F_l_number.kp T.B_l_number .nil pass0 (pa_cons (pv 2) pa_nil)))
      (pss_cons (ps_set (i := 4) sc_law.nd rfl (Or.inl rfl) (pe_call G_l_number (hr.mono (by decide)) rfl T.m_l_number T.F_l_number.kp T.B_l_number .nil pass0 (pa_cons (pe_op op_mod (pe_op op_mul (pv 2) pe_int) pe_int) pa_nil)))
      (pss_cons (ps_if (pt_cmpR op_eq (pe_op op_mod (pv 2) pe_int) pe_int (nomark _)) (pss_one (ps_set (i := 4) sc_law.nd rfl (Or.inl rfl) (pv 3))) pss_nil)
      (pss_one (ps_for PassesOwn.never rfl (pi_range1 rfl T.b_range (pa_cons pe_int pa_nil)) (pg_name (i := 5) sc_law.nd rfl (Or.inl rfl)) (pss_cons (ps_set (i := 6) sc_law.nd rfl (Or.inl rfl) (pe_ix ix_list (pv 1) (pe_op op_mod (pe_op op_add (pe_op op_mul (pv 5) (pe_op op_add pe_int (pe_op op_mod (pe_op op_fdiv (pv 2) pe_int) pe_int))) (pe_op op_fdiv (pv 2) pe_int)) pe_int) (fun _ _ => rfl)))
      (pss_cons (ps_set (i := 7) sc_law.nd rfl (Or.inl rfl) (pe_call G_reckon (hr.mono (by decide)) rfl T.m_reckon T.F_reckon.kp T.B_reckon .nil pass0 (pa_cons (pv 6) (pa_cons (pv 3) (pa_cons (pv 4) pa_nil)))))
      (pss_one (ps_if (PW.pt (pw_or (pt_not (pt_val (pe_call G_l_whole (hr.mono (by decide)) rfl T.m_l_whole T.F_l_whole.kp T.B_l_whole .nil pass0 (pa_cons (pv 7) pa_nil)))) (pw_or1 (pt_cmpR op_ne (pv 7) (pe_call G_l_due (hr.mono (by decide)) rfl T.m_l_due T.F_l_due.kp T.B_l_due .nil pass0 (pa_cons (pv 6) (pa_cons (pv 3) (pa_cons (pv 4) pa_nil)))) (nomark _))))) (pss_one (ps_ret pe_bl)) pss_nil))))))))))
      (pss_one (ps_ret pe_bl)))))
end
theorem all_mk {P : Program} {w : World} {K : PySem.W.Frag} {h : Heap} {mg : Str → Option Value} {fa : Addr} (X : K.In h) (G : h.Ns mainGlobals mg) (hfa : mg "law" = some (.ref fa))
    {f_reckon f_l_number f_l_whole f_l_due f_law : Addr} {oc_reckon kV_reckon dc_reckon pm_reckon cd_reckon ct_reckon oc_l_number kV_l_number dc_l_number pm_l_number cd_l_number ct_l_number oc_l_whole kV_l_whole dc_l_whole pm_l_whole cd_l_whole ct_l_whole oc_l_due kV_l_due dc_l_due pm_l_due cd_l_due ct_l_due oc_law kV_law dc_law pm_law cd_law ct_law : Value} {od_reckon an_reckon od_l_number an_l_number od_l_whole an_l_whole od_l_due an_l_due od_law an_law : Option Addr} {sl_reckon sl_l_number sl_l_whole sl_l_due sl_law : Array (Option Value)}
    {k_WIDE : Tok}
    (a_reckon : PySem.W.nsIn K mainGlobals "reckon" = some (some (.ref f_reckon)))
    (l_reckon : K.lookup f_reckon = some ⟨oc_reckon, od_reckon, .func (PySem.W.fnOf "reckon" "reckon" (defArgs s_reckon) (defBody s_reckon) (defScope s_reckon) .none kV_reckon dc_reckon pm_reckon an_reckon cd_reckon ct_reckon), sl_reckon⟩)
    (cc_reckon : PySem.W.codeIn K cd_reckon "reckon" = true)
    (kk_reckon : PySem.W.keepIn K (.ref f_reckon) = true)
    (a_l_number : PySem.W.nsIn K mainGlobals "_law_number" = some (some (.ref f_l_number)))
    (l_l_number : K.lookup f_l_number = some ⟨oc_l_number, od_l_number, .func (PySem.W.fnOf "_law_number" "_law_number" (defArgs s_l_number) (defBody s_l_number) (defScope s_l_number) .none kV_l_number dc_l_number pm_l_number an_l_number cd_l_number ct_l_number), sl_l_number⟩)
    (cc_l_number : PySem.W.codeIn K cd_l_number "_law_number" = true)
    (kk_l_number : PySem.W.keepIn K (.ref f_l_number) = true)
    (a_l_whole : PySem.W.nsIn K mainGlobals "_law_whole" = some (some (.ref f_l_whole)))
    (l_l_whole : K.lookup f_l_whole = some ⟨oc_l_whole, od_l_whole, .func (PySem.W.fnOf "_law_whole" "_law_whole" (defArgs s_l_whole) (defBody s_l_whole) (defScope s_l_whole) .none kV_l_whole dc_l_whole pm_l_whole an_l_whole cd_l_whole ct_l_whole), sl_l_whole⟩)
    (cc_l_whole : PySem.W.codeIn K cd_l_whole "_law_whole" = true)
    (kk_l_whole : PySem.W.keepIn K (.ref f_l_whole) = true)
    (a_l_due : PySem.W.nsIn K mainGlobals "_law_due" = some (some (.ref f_l_due)))
    (l_l_due : K.lookup f_l_due = some ⟨oc_l_due, od_l_due, .func (PySem.W.fnOf "_law_due" "_law_due" (defArgs s_l_due) (defBody s_l_due) (defScope s_l_due) .none kV_l_due dc_l_due pm_l_due an_l_due cd_l_due ct_l_due), sl_l_due⟩)
    (cc_l_due : PySem.W.codeIn K cd_l_due "_law_due" = true)
    (kk_l_due : PySem.W.keepIn K (.ref f_l_due) = true)
    (a_law : PySem.W.nsIn K mainGlobals "law" = some (some (.ref f_law)))
    (l_law : K.lookup f_law = some ⟨oc_law, od_law, .func (PySem.W.fnOf "law" "law" (defArgs s_law) (defBody s_law) (defScope s_law) .none kV_law dc_law pm_law an_law cd_law ct_law), sl_law⟩)
    (cc_law : PySem.W.codeIn K cd_law "law" = true)
    (kk_law : PySem.W.keepIn K (.ref f_law) = true)
    (b_bool : PySem.W.nsIn K mainGlobals "bool" = some none)
    (b_int : PySem.W.nsIn K mainGlobals "int" = some none)
    (b_isinstance : PySem.W.nsIn K mainGlobals "isinstance" = some none)
    (b_range : PySem.W.nsIn K mainGlobals "range" = some none)
    (g_WIDE : PySem.W.nsIn K mainGlobals "WIDE" = some (some (.int 18446744073709551616 k_WIDE)))
    : ∃ fd : FuncData, (∀ (s : Shared) (v : Value), BindsTo s fd ⟨[v], []⟩ [("_law_script", v)]) ∧ ∀ base : Heap, K.In base → base.Ns mainGlobals mg → FnOk P w K mg base CX0 2 fa fd ["_law_script"] (spLaw K) := by
  have e := hfa.symm.trans (PySem.W.mg_of X G a_law)
  cases e
  have F_reckon := fun_mk (st := s_reckon) l_reckon cc_reckon kk_reckon
  have F_l_number := fun_mk (st := s_l_number) l_l_number cc_l_number kk_l_number
  have F_l_whole := fun_mk (st := s_l_whole) l_l_whole cc_l_whole kk_l_whole
  have F_l_due := fun_mk (st := s_l_due) l_l_due cc_l_due kk_l_due
  have F_law := fun_mk (st := s_law) l_law cc_law kk_law
  let d : Ad := { K := K }
  have T : Txt d mg { f_reckon := f_reckon, d_reckon := _, f_l_number := f_l_number, d_l_number := _, f_l_whole := f_l_whole, d_l_whole := _, f_l_due := f_l_due, d_l_due := _, f_law := fa, d_law := _, k_WIDE := k_WIDE } :=
    { F_reckon := F_reckon
      B_reckon := F_reckon.binds (ps := ["word", "one", "other"]) fun _ _ _ _ _ _ us hl => match us, hl with | [_, _, _], _ => rfl
      m_reckon := PySem.W.mg_of X G a_reckon
      F_l_number := F_l_number
      B_l_number := F_l_number.binds (ps := ["_law_cell"]) fun _ _ _ _ _ _ us hl => match us, hl with | [_], _ => rfl
      m_l_number := PySem.W.mg_of X G a_l_number
      F_l_whole := F_l_whole
      B_l_whole := F_l_whole.binds (ps := ["_law_found"]) fun _ _ _ _ _ _ us hl => match us, hl with | [_], _ => rfl
      m_l_whole := PySem.W.mg_of X G a_l_whole
      F_l_due := F_l_due
      B_l_due := F_l_due.binds (ps := ["_law_word", "_law_one", "_law_other"]) fun _ _ _ _ _ _ us hl => match us, hl with | [_, _, _], _ => rfl
      m_l_due := PySem.W.mg_of X G a_l_due
      F_law := F_law
      B_law := F_law.binds (ps := ["_law_script"]) fun _ _ _ _ _ _ us hl => match us, hl with | [_], _ => rfl
      m_law := PySem.W.mg_of X G a_law
      b_bool := PySem.W.mg_none_of X G b_bool
      b_int := PySem.W.mg_none_of X G b_int
      b_isinstance := PySem.W.mg_none_of X G b_isinstance
      b_range := PySem.W.mg_none_of X G b_range
      g_WIDE := PySem.W.mg_of X G g_WIDE }
  exact ⟨PySem.W.fnOf "law" "law" (defArgs s_law) (defBody s_law) (defScope s_law) .none kV_law dc_law pm_law an_law cd_law ct_law, fun s v => .of_eq rfl, fun base _ _ => ok_law T⟩
theorem walk {l : PySem.W.OpenLaw} {q : Program} {loose : List Str} {XP : (Str → Option Value) → Heap → Prop} {YP : World → Heap → Prop} {d : DefRec} {K : Params → PySem.W.Frag} (hn : l.most = some 63) (hdf : d.params.defaults = [])
    (hY : ∀ (w : World) (h : Heap), YP w h → (K w.params).In h)
    (F : ∀ (w : World) (mg : Str → Option Value) (fa : Addr) (h : Heap), (K w.params).In h → h.Ns mainGlobals mg → mg d.name = some (.ref fa) →
      ∃ fd : FuncData, (∀ (s : Shared) (u : Value), BindsTo s fd ⟨[u], []⟩ [("_law_script", u)]) ∧ ∀ base : Heap, (K w.params).In base → base.Ns mainGlobals mg → FnOk l.prog w (K w.params) mg base CX0 2 fa fd ["_law_script"] (spLaw (K w.params))) :
    PySem.W.WalkO q loose XP YP l.row.toRowW d [] (fun f vs => PySem.call f vs) :=
  L2.walk_of (n := 63) (k := 2) (x := "_law_script") (CX := fun _ => CX0) (sp := fun w => spLaw (K w.params)) hn (by decide) hdf ⟨rfl, by decide, by decide⟩ hY F (fun _ _ a ns hl _ hS => ⟨a, ns, rfl, hS, hl, fun _ => rfl⟩) fun _ _ _ _ _ z => z
end Row
open PySem PySem.W PyProof.Rows
set_option maxRecDepth 100000 in
set_option maxHeartbeats 0 in
theorem PySem.Challenge.cw_retryhall_k01_reckon_holds : PySem.Challenge.rw_retryhall_k01_reckon.Holds := by
  w_on; o_law; k_head; (case hw => w_witness2)
  k_fill
  refine Row.walk (l := PySem.Challenge.rw_retryhall_k01_reckon) rfl rfl (fun w h Y => PySem.W.kIn_of Y) ?F
  case F =>
    intro w mg fa h KX G hmg
    refine' Row.all_mk KX G hmg ?a_reckon ?l_reckon ?cc_reckon ?kk_reckon ?a_l_number ?l_l_number ?cc_l_number ?kk_l_number ?a_l_whole ?l_l_whole ?cc_l_whole ?kk_l_whole ?a_l_due ?l_l_due ?cc_l_due ?kk_l_due ?a_law ?l_law ?cc_law ?kk_law ?b_bool ?b_int ?b_isinstance ?b_range ?g_WIDE
    (case a_reckon => k_is)
    (case l_reckon => k_is)
    (case cc_reckon => k_is)
    (case kk_reckon => k_is)
    (case a_l_number => k_is)
    (case l_l_number => k_is)
    (case cc_l_number => k_is)
    (case kk_l_number => k_is)
    (case a_l_whole => k_is)
    (case l_l_whole => k_is)
    (case cc_l_whole => k_is)
    (case kk_l_whole => k_is)
    (case a_l_due => k_is)
    (case l_l_due => k_is)
    (case cc_l_due => k_is)
    (case kk_l_due => k_is)
    (case a_law => k_is)
    (case l_law => k_is)
    (case cc_law => k_is)
    (case kk_law => k_is)
    (case b_bool => k_is)
    (case b_int => k_is)
    (case b_isinstance => k_is)
    (case b_range => k_is)
    (case g_WIDE => k_is)
#print axioms PySem.Challenge.cw_retryhall_k01_reckon_holds

