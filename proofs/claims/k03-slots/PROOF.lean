import PyProof.Rows.All
import Wide.All
import OpenK.AllK
import Wide.FinOn
import HandS.ForMost
import HandS.Exc
import HandS.TryOnly
import HandS.ExcOwn
import HandS.WordsExc
import HandS.Evl
import HandS.Steps
import HandS.More
import HandS.IsInst
import HandS.Codes
import HandS.Conv
import HandS.Walk
import HandS.Zip
import PySem.Challenge.RW_retryhall_k03_slots_and_names
set_option Elab.async false
set_option linter.all false
set_option maxRecDepth 100000
set_option maxHeartbeats 2000000
namespace RT
open PySem L2
abbrev Ex := Evl.Ex
structure Ad where
  K : PySem.W.Frag
  cPart : Addr := 0
  cLet : Addr := 0
  cReckon : Addr := 0
  cTake : Addr := 0
  cPut : Addr := 0
  cIf : Addr := 0
  cEither : Addr := 0
  cTry : Addr := 0
  cThrow : Addr := 0
  cWait : Addr := 0
  cLog : Addr := 0
  cDoer : Addr := 0
  cHand : Addr := 0
  cHall : Addr := 0
  cDesk : Addr := 0
  cHallError : Addr := 0
  cNoDeed : Addr := 0
  cNoBoxes : Addr := 0
  cNoHands : Addr := 0
  cNoHand : Addr := 0
  cNoRow : Addr := 0
  aSUMS : Addr := 0
def spLaw (K : PySem.W.Frag) : Sp := fun vs H Q _ => ∃ (a : Addr) (ns : List Int), vs = [.ref a] ∧ SqL K H a (ns.map V.int) ∧ ns.length ≤ 63 ∧ ∀ H', Q (.bl true) H'
abbrev aAdd := tOp (rI0 fun i j => V.int (i + j))
abbrev aSub := tOp (rI0 fun i j => V.int (i - j))
abbrev aMul := tOp (rI CMul fun i j => V.int (i * j))
abbrev aMod := tOp (rI (fun _ j => 0 < j) fun i j => V.int (i % j))
abbrev aDiv := tOp (rI CDiv fun i j => V.int (i / j))
abbrev aPow := tOp (rI CPow fun i j => V.int (i ^ j.toNat))
abbrev aNeg := tUn (rU fun i => V.int (-i))
abbrev rAddS : R2 := fun x y H Q => ∃ i j, x = .str i ∧ y = .str j ∧ i.length + j.length ≤ sizeLine ∧ Q (.str (i ++ j)) H
abbrev aAddS := tOp rAddS
abbrev aCat := tOp rCat
abbrev aCatT (K : PySem.W.Frag) := tOp (rCatT K)
abbrev aRep := tOp rRep
abbrev rLt : R2 := rI0 fun i j => V.bl (decide (i < j))
abbrev rLe : R2 := rI0 fun i j => V.bl (decide (i ≤ j))
abbrev rGt : R2 := rI0 fun i j => V.bl (decide (j < i))
abbrev rGe : R2 := rI0 fun i j => V.bl (decide (j ≤ i))
abbrev rLtS : R2 := fun x y H Q => ∃ i j, x = .str i ∧ y = .str j ∧ Q (.bl (decide (i.cps.toList < j.cps.toList))) H
abbrev rLeS : R2 := fun x y H Q => ∃ i j, x = .str i ∧ y = .str j ∧ Q (.bl (!decide (j.cps.toList < i.cps.toList))) H
abbrev rGtS : R2 := fun x y H Q => ∃ i j, x = .str i ∧ y = .str j ∧ Q (.bl (decide (j.cps.toList < i.cps.toList))) H
abbrev rGeS : R2 := fun x y H Q => ∃ i j, x = .str i ∧ y = .str j ∧ Q (.bl (!decide (i.cps.toList < j.cps.toList))) H
abbrev rLenStr : List V → Hp → VK → Prop := fun xs H Q => ∃ x, xs = [.str x] ∧ x.length ≤ sizeLine ∧ Q (.int (x.length : Nat)) H
abbrev rLenD : List V → Hp → VK → Prop := fun xs H Q => ∃ a kvs, xs = [V.ref a] ∧ H a = some (.dK kvs) ∧ Q (.int kvs.length) H
abbrev rIntS : List V → Hp → VK → Prop := fun xs H Q => ∃ a n, xs = [.str a] ∧ PySem.intText? a = some n ∧ a.length ≤ 640 ∧ Q (.int n) H
abbrev rInt1 : List V → Hp → VK → Prop := fun xs H Q => (∃ i, xs = [.int i] ∧ Q (.int i) H) ∨ ∃ k, xs = [.bl k] ∧ Q (.int (if k then 1 else 0)) H
abbrev rStrI : List V → Hp → VK → Prop := fun xs H Q => ∃ i, xs = [.int i] ∧ i.natAbs.log2 < 1920 ∧ Q (.str (toString i)) H
abbrev rMin2 : List V → Hp → VK → Prop := fun xs H Q => ∃ i j, xs = [.int i, .int j] ∧ Q (.int (if j < i then j else i)) H
abbrev rListOf (K : PySem.W.Frag) : List V → Hp → VK → Prop := fun xs H Q => ∃ p ys, xs = [.ref p] ∧ (SqL K H p ys ∨ SqT K H p ys) ∧ ∀ l, H l = none → Q (.ref l) (upd H l (.lst ys))
abbrev rTupleOf (K : PySem.W.Frag) : List V → Hp → VK → Prop := fun xs H Q => ∃ p ys, xs = [.ref p] ∧ ((SqL K H p ys ∧ ∀ l, H l = none → Q (.ref l) (upd H l (.tup ys))) ∨ (SqT K H p ys ∧ Q (.ref p) H))
abbrev rSortedD : List V → Hp → VK → Prop := fun xs H Q => ∃ (a : Addr) (kvs : List (Key × V)) (ks : List Int), xs = [.ref a] ∧ Rd H a (.dK kvs) ∧ kvs.map (·.1) = ks.map Sum.inl ∧ ks.length < 64 ∧
    ∀ (ys : List Int) (p : Addr), ys.Perm ks → ys.Pairwise (· ≤ ·) → H p = none → Q (.ref p) (upd H p (.lst (ys.map V.int)))
abbrev aJoin (K : PySem.W.Frag) := tM1 (fun x xs H Q => ∃ a p, ∃ ys : List Str, x = .str a ∧ xs = [.ref p] ∧ (SqL K H p (ys.map V.str) ∨ SqT K H p (ys.map V.str)) ∧ (ys.map (·.length)).sum + ys.length * a.length ≤ 16777216 ∧ Q (.str (Txt.join a ys)) H)
abbrev aSplit := tM1 (fun x xs H Q => ∃ a b, x = .str a ∧ xs = [.str b] ∧ (b.length == 0) = false ∧ a.length + 2 ≤ sizeLine ∧ rNewStrs (Txt.split a b) H Q)
abbrev aFind := tM1 (fun x xs H Q => ∃ a b, x = .str a ∧ xs = [.str b] ∧ Q (.int (Txt.find a b)) H)
theorem kit_int_int : kitB "int" "int" = some true := by decide +kernel
theorem kit_int_bool : kitB "int" "bool" = some false := by decide +kernel
theorem kit_int_str : kitB "int" "str" = some false := by decide +kernel
theorem kit_int_list : kitB "int" "list" = some false := by decide +kernel
theorem kit_int_tuple : kitB "int" "tuple" = some false := by decide +kernel
theorem kit_int_dict : kitB "int" "dict" = some false := by decide +kernel
theorem kit_bool_int : kitB "bool" "int" = some true := by decide +kernel
theorem kit_bool_bool : kitB "bool" "bool" = some true := by decide +kernel
theorem kit_bool_str : kitB "bool" "str" = some false := by decide +kernel
theorem kit_bool_list : kitB "bool" "list" = some false := by decide +kernel
theorem kit_bool_tuple : kitB "bool" "tuple" = some false := by decide +kernel
theorem kit_bool_dict : kitB "bool" "dict" = some false := by decide +kernel
theorem kit_str_int : kitB "str" "int" = some false := by decide +kernel
theorem kit_str_bool : kitB "str" "bool" = some false := by decide +kernel
theorem kit_str_str : kitB "str" "str" = some true := by decide +kernel
theorem kit_str_list : kitB "str" "list" = some false := by decide +kernel
theorem kit_str_tuple : kitB "str" "tuple" = some false := by decide +kernel
theorem kit_str_dict : kitB "str" "dict" = some false := by decide +kernel
theorem kit_NoneType_int : kitB "NoneType" "int" = some false := by decide +kernel
theorem kit_NoneType_bool : kitB "NoneType" "bool" = some false := by decide +kernel
theorem kit_NoneType_str : kitB "NoneType" "str" = some false := by decide +kernel
theorem kit_NoneType_list : kitB "NoneType" "list" = some false := by decide +kernel
theorem kit_NoneType_tuple : kitB "NoneType" "tuple" = some false := by decide +kernel
theorem kit_NoneType_dict : kitB "NoneType" "dict" = some false := by decide +kernel
theorem kit_list_int : kitB "list" "int" = some false := by decide +kernel
theorem kit_list_bool : kitB "list" "bool" = some false := by decide +kernel
theorem kit_list_str : kitB "list" "str" = some false := by decide +kernel
theorem kit_list_list : kitB "list" "list" = some true := by decide +kernel
theorem kit_list_tuple : kitB "list" "tuple" = some false := by decide +kernel
theorem kit_list_dict : kitB "list" "dict" = some false := by decide +kernel
theorem kit_tuple_int : kitB "tuple" "int" = some false := by decide +kernel
theorem kit_tuple_bool : kitB "tuple" "bool" = some false := by decide +kernel
theorem kit_tuple_str : kitB "tuple" "str" = some false := by decide +kernel
theorem kit_tuple_list : kitB "tuple" "list" = some false := by decide +kernel
theorem kit_tuple_tuple : kitB "tuple" "tuple" = some true := by decide +kernel
theorem kit_tuple_dict : kitB "tuple" "dict" = some false := by decide +kernel
theorem kit_dict_int : kitB "dict" "int" = some false := by decide +kernel
theorem kit_dict_bool : kitB "dict" "bool" = some false := by decide +kernel
theorem kit_dict_str : kitB "dict" "str" = some false := by decide +kernel
theorem kit_dict_list : kitB "dict" "list" = some false := by decide +kernel
theorem kit_dict_tuple : kitB "dict" "tuple" = some false := by decide +kernel
theorem kit_dict_dict : kitB "dict" "dict" = some true := by decide +kernel
section
variable {K : PySem.W.Frag} {σ σ' : L2.St} {H H' : Hp} {ta tb te tx : TE} {x y z v : V} {r : R2} {Q : VK} {D : Ends} {t u c : TT} {ts tu tw : TS} {g : TG} {i j : Nat}
theorem w_var (h : σ[i]? = some (some v)) (q : Q v H) : tVar i σ H Q := ⟨v, h, q⟩
theorem w_c (q : Q v H) : tC v σ H Q := q
theorem w_op (q : ta σ H fun x H1 => tb σ H1 fun y H2 => r x y H2 Q) : tOp r ta tb σ H Q := q
theorem w_un {r : V → Hp → VK → Prop} (q : ta σ H fun x H1 => r x H1 Q) : tUn r ta σ H Q := q
theorem w_i0 {f : Int → Int → V} {a b : Int} (q : Q (f a b) H) : rI0 f (.int a) (.int b) H Q := ⟨a, b, rfl, rfl, q⟩
theorem w_i {C : Int → Int → Prop} {f : Int → Int → V} {a b : Int} (hc : C a b) (q : Q (f a b) H) : rI C f (.int a) (.int b) H Q := ⟨a, b, rfl, rfl, hc, q⟩
theorem w_u {f : Int → V} {a : Int} (q : Q (f a) H) : rU f (.int a) H Q := ⟨a, rfl, q⟩
theorem w_eqI {a b : Int} (q : Q (.bl (decide (a = b))) H) : rEq (.int a) (.int b) H Q := ⟨rfl, by simpa using q⟩
theorem w_neI {a b : Int} (q : Q (.bl (!decide (a = b))) H) : rNe (.int a) (.int b) H Q := ⟨rfl, by simpa using q⟩
theorem w_eqS {a b : Str} (q : Q (.bl (decide (a = b))) H) : rEq (.str a) (.str b) H Q := ⟨rfl, by simpa using q⟩
theorem w_neS {a b : Str} (q : Q (.bl (!decide (a = b))) H) : rNe (.str a) (.str b) H Q := ⟨rfl, by simpa using q⟩
theorem w_eq (h : scal x y = true) (q : Q (.bl (decide (x = y))) H) : rEq x y H Q := ⟨h, q⟩
theorem w_ne (h : scal x y = true) (q : Q (.bl (!decide (x = y))) H) : rNe x y H Q := ⟨h, q⟩
theorem w_isN (q : Q (.bl (decide (x = .non))) H) : rIsN x .non H Q := ⟨rfl, q⟩
theorem w_notN (q : Q (.bl (!decide (x = .non))) H) : rNotN x .non H Q := ⟨rfl, q⟩
theorem w_s2 {P : Str → Str → Prop} {a b : Str} (q : P a b) : ∃ i j, V.str a = .str i ∧ V.str b = .str j ∧ P i j := ⟨a, b, rfl, rfl, q⟩
theorem w_addS {a b : Str} (h : a.length + b.length ≤ sizeLine) (q : Q (.str (a ++ b)) H) : rAddS (.str a) (.str b) H Q := ⟨a, b, rfl, rfl, h, q⟩
theorem w_inS {c : Nat} {w : Str} (q : Q (.bl (decide (c ∈ w.cps.toList))) H) : rInS (.str ⟨#[c]⟩) (.str w) H Q := ⟨c, w, rfl, rfl, q⟩
theorem w_ninS {c : Nat} {w : Str} (q : Q (.bl (!decide (c ∈ w.cps.toList))) H) : rNotInS (.str ⟨#[c]⟩) (.str w) H Q := ⟨c, w, rfl, rfl, q⟩
theorem w_test {Q : Bool → Hp → Prop} (q : te σ H fun x H' => ∃ k, x = .bl k ∧ Q k H') : tTest te σ H Q := q
theorem w_tB {Q : Bool → Hp → Prop} (q : te σ H fun x H' => ∃ k, x = .bl k ∧ Q k H') : tB te σ H Q := q
theorem w_tru {Q : Bool → Hp → Prop} (q : te σ H fun x H' => ∃ k, TruV K x H' k ∧ Q k H') : tTru K te σ H Q := q
theorem w_bl {P : Bool → Prop} {b : Bool} (q : P b) : ∃ k, V.bl b = .bl k ∧ P k := ⟨b, rfl, q⟩
theorem w_int {P : Int → Prop} {b : Int} (q : P b) : ∃ k, V.int b = .int k ∧ P k := ⟨b, rfl, q⟩
theorem w_ref {P : Addr → Prop} {b : Addr} (q : P b) : ∃ k, V.ref b = .ref k ∧ P k := ⟨b, rfl, q⟩
theorem w_str {P : Str → Prop} {b : Str} (q : P b) : ∃ k, V.str b = .str k ∧ P k := ⟨b, rfl, q⟩
theorem w_and {Q : Bool → Hp → Prop} (q : t σ H fun c H1 => if c = true then u σ H1 Q else Q false H1) : tAnd t u σ H Q := q
theorem w_or {Q : Bool → Hp → Prop} (q : t σ H fun c H1 => if c = true then Q true H1 else u σ H1 Q) : tOr t u σ H Q := q
theorem w_not {Q : Bool → Hp → Prop} (q : t σ H fun c H1 => Q (!c) H1) : tNot t σ H Q := q
theorem w_andV (q : ta σ H fun x H1 => ∃ c, x = .bl c ∧ if c = true then tb σ H1 Q else Q (.bl false) H1) : tAndV ta tb σ H Q := q
theorem w_orV (q : ta σ H fun x H1 => ∃ c, x = .bl c ∧ if c = true then Q (.bl true) H1 else tb σ H1 Q) : tOrV ta tb σ H Q := q
theorem w_notV (q : ta σ H fun x H1 => ∃ c, x = .bl c ∧ Q (.bl (!c)) H1) : tNotV ta σ H Q := q
theorem w_ifE (q : t σ H fun c H1 => if c = true then ta σ H1 Q else tb σ H1 Q) : tIf t ta tb σ H Q := q
theorem w_chain {r r' : R2} {tc : TE} (q : ta σ H fun x H1 => tb σ H1 fun y H2 => r x y H2 fun z H3 => ∃ k, z = .bl k ∧ (if k = true then tc σ H3 fun w' H4 => r' y w' H4 Q else Q (.bl false) H3)) : tChain r r' ta tb tc σ H Q := q
theorem w_dec {p A B : Prop} [Decidable p] (h1 : p → A) (h2 : ¬ p → B) : if decide p = true then A else B := by
  by_cases h : p
  · rw [if_pos (decide_eq_true h)]; exact h1 h
  · rw [if_neg (by simpa using h)]; exact h2 h
theorem w_ndec {p A B : Prop} [Decidable p] (h1 : ¬ p → A) (h2 : p → B) : if (!decide p) = true then A else B := by
  by_cases h : p
  · rw [if_neg (by simpa using h)]; exact h2 h
  · rw [if_pos (by simpa using h)]; exact h1 h
theorem w_bool {b : Bool} {A B : Prop} (h1 : b = true → A) (h2 : b = false → B) : if b = true then A else B := by
  cases b with
  | true => exact h1 rfl
  | false => exact h2 rfl
theorem w_tt {b : Bool} {A B : Prop} (e : b = true) (h : A) : if b = true then A else B := by rw [if_pos e]; exact h
theorem w_ff {b : Bool} {A B : Prop} (e : b = false) (h : B) : if b = true then A else B := by rw [if_neg (by rw [e]; exact Bool.false_ne_true)]; exact h
theorem w_seq (q : ts { D with nx := tu D } σ H) : tSeq ts tu D σ H := q
theorem w_next (q : D.nx σ H) : tNext D σ H := q
theorem w_brk (q : D.bk σ H) : tBreak D σ H := q
theorem w_cont (q : D.ct σ H) : tCont D σ H := q
theorem w_asg (q : te σ H fun x H1 => g x σ H1 D.nx) : tAsg te g D σ H := q
theorem w_gn {Q : L2.St → Hp → Prop} (e : σ.set i (some v) = σ') (q : Q σ' H) : gName i v σ H Q := by subst e; exact q
theorem w_drop (q : te σ H fun _ H1 => D.nx σ H1) : tDrop te D σ H := q
theorem w_ret (q : te σ H D.rt) : tRet te D σ H := q
theorem w_retN (q : D.rt .non H) : tRetN D σ H := q
theorem w_ifS (q : c σ H fun b H1 => if b = true then ts D σ H1 else tu D σ H1) : tIfS c ts tu D σ H := q
theorem w_aug {ti : TIp} (h : σ[i]? = some (some x)) (q : te σ H fun y H1 => ti x y H1 fun z H2 => D.nx (σ.set i (some z)) H2) : tAug i te ti D σ H := ⟨x, h, q⟩
theorem w_ip {f : Int → Int → Int} {a b : Int} (q : Q (.int (f a b)) H) : ipI f (.int a) (.int b) H Q := ⟨a, b, rfl, rfl, q⟩
theorem w_par {ta : TA} (q : ta σ H fun vs H1 => ∃ v w, vs = [v, w] ∧ D.nx ((σ.set i (some v)).set j (some w)) H1) : tPar i j ta D σ H := q
theorem w_v2 {P : V → V → Prop} (q : P x y) : ∃ v w, [x, y] = [v, w] ∧ P v w := ⟨x, y, rfl, q⟩
theorem w_nil {Q : List V → Hp → Prop} (q : Q [] H) : tNil σ H Q := q
theorem w_cons {tr : TA} {Q : List V → Hp → Prop} (q : ta σ H fun x H1 => tr σ H1 fun xs H2 => Q (x :: xs) H2) : tCons ta tr σ H Q := q
theorem w_call {sp : Sp} {E : XK} {t : TA} (q : t σ H fun vs H1 => sp vs H1 Q E) : tCall sp [] E t σ H Q := by
  unfold tCall
  simp only [List.append_nil]
  exact q
theorem w_cb {r : List V → Hp → VK → Prop} {t : TA} (q : t σ H fun vs H1 => r vs H1 Q) : tCB r t σ H Q := q
theorem w_meth {C : Addr} {m : Str} {sp : Sp} {E : XK} {t : TA} (q : ta σ H fun x H1 => ∃ a dx fs, x = .ref a ∧ H1 a = some (.ins C dx fs) ∧ fs.lookup m = none ∧ t σ H1 fun vs H2 => sp (x :: vs) H2 Q E) : tMeth C m sp [] E ta t σ H Q := by
  unfold tMeth
  simp only [List.append_nil]
  exact q
theorem w_make {C : Addr} {sp : Sp} {E : XK} {t : TA} (q : t σ H fun vs H1 => ∀ x dx, H1 x = none → H1 dx = none → dx ≠ x → sp (.ref x :: vs) (upd (upd H1 dx (.own x)) x (.ins C dx [])) (fun v H2 => v = .non ∧ Q (.ref x) H2) E) : tMake C sp [] E t σ H Q := by
  unfold tMake
  simp only [List.append_nil]
  exact q
theorem w_int1 {a : Int} (q : Q (.int a) H) : rInt1 [.int a] H Q := .inl ⟨a, rfl, q⟩
theorem w_int1b {k : Bool} (q : Q (.int (if k then 1 else 0)) H) : rInt1 [.bl k] H Q := .inr ⟨k, rfl, q⟩
theorem w_lenStr {x : Str} (h : x.length ≤ sizeLine) (q : Q (.int (x.length : Nat)) H) : rLenStr [.str x] H Q := ⟨x, rfl, h, q⟩
theorem w_lenS {p : Addr} {xs : List V} (h : SqL K H p xs) (q : Q (.int xs.length) H) : Evl.rLenS K [.ref p] H Q := ⟨p, xs, rfl, .inl h, q⟩
theorem w_lenT {p : Addr} {xs : List V} (h : SqT K H p xs) (q : Q (.int xs.length) H) : Evl.rLenS K [.ref p] H Q := ⟨p, xs, rfl, .inr h, q⟩
theorem w_max2 {a b : Int} (q : Q (.int (if b > a then b else a)) H) : Evl.rMax2 [.int a, .int b] H Q := ⟨a, b, rfl, q⟩
theorem w_min2 {a b : Int} (q : Q (.int (if b < a then b else a)) H) : rMin2 [.int a, .int b] H Q := ⟨a, b, rfl, q⟩
theorem w_isi {c : V} {t u : Value} {b : Bool} (k : ClsV c u) (ty : TyX K H x t) (e : PySem.W.kitOne K t u = some b) (q : Q (.bl b) H) : rIsi K [x, c] H Q := ⟨x, c, t, u, b, rfl, k, ty, e, q⟩
theorem w_isiI {n : String} {b : Bool} {a : Int} (e : kitB "int" n = some b) (q : Q (.bl b) H) : rIsi K [.int a, .ty n] H Q := w_isi (.ty n) (.base (.int a)) (kit_ty e) q
theorem w_isiB {n : String} {b : Bool} {a : Bool} (e : kitB "bool" n = some b) (q : Q (.bl b) H) : rIsi K [.bl a, .ty n] H Q := w_isi (.ty n) (.base (.bl a)) (kit_ty e) q
theorem w_isiN {n : String} {b : Bool} (e : kitB "NoneType" n = some b) (q : Q (.bl b) H) : rIsi K [.non, .ty n] H Q := w_isi (.ty n) (.base .non) (kit_ty e) q
theorem w_isiS {n : String} {b : Bool} {a : Str} (e : kitB "str" n = some b) (q : Q (.bl b) H) : rIsi K [.str a, .ty n] H Q := w_isi (.ty n) (.base (.str a)) (kit_ty e) q
theorem w_isiL {n : String} {b : Bool} {p : Addr} {xs : List V} (h : H p = some (.lst xs)) (e : kitB "list" n = some b) (q : Q (.bl b) H) : rIsi K [.ref p, .ty n] H Q := w_isi (.ty n) (.base (.lst h)) (kit_ty e) q
theorem w_isiT {n : String} {b : Bool} {p : Addr} {xs : List V} (h : H p = some (.tup xs)) (e : kitB "tuple" n = some b) (q : Q (.bl b) H) : rIsi K [.ref p, .ty n] H Q := w_isi (.ty n) (.base (.tup h)) (kit_ty e) q
theorem w_tup {t : TA} (q : t σ H fun xs H1 => xs.length ≤ sizeLine ∧ ∀ p, H1 p = none → Q (.ref p) (upd H1 p (.tup xs))) : tTup t σ H Q := q
theorem w_lst {t : TA} (q : t σ H fun xs H1 => xs.length ≤ sizeLine ∧ ∀ p, H1 p = none → Q (.ref p) (upd H1 p (.lst xs))) : tLst t σ H Q := q
theorem w_sz {n : Nat} {B : Prop} (h : n ≤ sizeLine) (q : B) : n ≤ sizeLine ∧ B := ⟨h, q⟩
theorem w_dnew (q : ∀ p, H p = none → Q (.ref p) (upd H p (.dK []))) : tDNewK σ H Q := q
theorem ex_at {a : Addr} {o : HO} (e : Ex H H') (h : H a = some o) : H' a = some o := e a o h
theorem ex_sq {a : Addr} {xs : List V} (e : Ex H H') (h : SqL K H a xs) : SqL K H' a xs := Evl.ex_l e h
theorem ex_st {a : Addr} {xs : List V} (e : Ex H H') (h : SqT K H a xs) : SqT K H' a xs := Evl.ex_t e h
theorem new_ex {p : Addr} {o : HO} (h : H p = none) (e : upd H p o = H') : Ex H H' := e ▸ Evl.Ex.new h
theorem new_at {p : Addr} {o : HO} (e : upd H p o = H') : H' p = some o := e ▸ upd_same
theorem ex_free {a : Addr} (e : Ex H H') (h : H' a = none) : H a = none := Evl.fresh_back e h
theorem w_ixL {p : Addr} {xs : List V} {i : Int} (h : SqL K H p xs) (a : atI xs i = some v) (q : Q v H) : rIxL K (.ref p) (.int i) H Q := ⟨p, xs, i, v, rfl, rfl, h, a, q⟩
theorem w_ixT {p : Addr} {xs : List V} {i : Int} (h : SqT K H p xs) (a : atI xs i = some v) (q : Q v H) : rIxT K (.ref p) (.int i) H Q := ⟨p, xs, i, v, rfl, rfl, h, a, q⟩
theorem w_ixS {z : Str} {i : Int} {c : Nat} (h : z.length ≤ sizeLine) (a : atI z.cps.toList i = some c) (q : Q (.str ⟨#[c]⟩) H) : rIxS (.str z) (.int i) H Q := ⟨z, i, c, rfl, rfl, h, a, q⟩
theorem w_sl {r : V → Option Int → Option Int → Hp → VK → Prop} {tl th : TO} (q : te σ H fun x H1 => tl σ H1 fun l H2 => th σ H2 fun u H3 => r x l u H3 Q) : tSl r te tl th σ H Q := q
theorem w_noPart {Q : Option Int → Hp → Prop} (q : Q none H) : tNoPart σ H Q := q
theorem w_part {Q : Option Int → Hp → Prop} (q : te σ H fun x H1 => ∃ i, x = .int i ∧ Q (some i) H1) : tPart te σ H Q := q
theorem w_slL {p : Addr} {xs : List V} {lo hi : Option Int} (h : SqL K H p xs) (q : ∀ l, H l = none → Q (.ref l) (upd H l (.lst (cutV xs lo hi)))) : rSlL K (.ref p) lo hi H Q := ⟨p, xs, rfl, h, q⟩
theorem w_slS {z : Str} {lo hi : Option Int} (h : z.length ≤ sizeLine) (q : Q (.str (cutS z lo hi)) H) : rSlS (.str z) lo hi H Q := ⟨z, rfl, h, q⟩
theorem w_cat {l b : Addr} {xs zs : List V} (h1 : H l = some (.lst xs)) (h2 : H b = some (.lst zs)) (hl : xs.length + zs.length ≤ sizeLine) (q : ∀ p, H p = none → Q (.ref p) (upd H p (.lst (xs ++ zs)))) : rCat (.ref l) (.ref b) H Q := ⟨l, b, xs, zs, rfl, rfl, h1, h2, hl, q⟩
theorem w_for {wi : TI} (q : wi σ H fun J H1 => ∃ W : Nat → Nat → L2.St → Hp → Prop, (∃ m, W 0 m σ H1) ∧ ∀ i m σ H, W i m σ H →
  (J.stop i H ∧ D.nx σ H) ∨ (J.go i H ∧ ∃ N : L2.St → Hp → Prop, (∀ σ' H', N σ' H' → ∃ m', m' < m ∧ W (i + 1) m' σ' H') ∧ ∀ x H', J.yld i H x H' → g x σ H' fun σ2 H2 => ts { D with nx := N, ct := N, bk := D.nx } σ2 H2)) : tFor wi g ts D σ H := q
theorem w_iList {R : It → Hp → Prop} (q : te σ H fun x H1 => ∃ a, x = .ref a ∧ (∃ xs, SqL K H1 a xs) ∧ R (Itl K a) H1) : iList K te σ H R := q
theorem w_iTup {R : It → Hp → Prop} (q : te σ H fun x H1 => ∃ a, x = .ref a ∧ (∃ xs, SqT K H1 a xs) ∧ R (Itt K a) H1) : iTup K te σ H R := q
theorem w_iStr {R : It → Hp → Prop} (q : te σ H fun v H1 => ∃ x, v = .str x ∧ R (Its x) H1) : iStr te σ H R := q
theorem w_iRng1 {ta : TA} {R : It → Hp → Prop} (q : ta σ H fun vs H1 => ∃ j : Int, vs = [.int j] ∧ -(2 ^ 62) ≤ j ∧ j < 2 ^ 62 ∧ R (Itr 0 j.toNat) H1) : iRng1 ta σ H R := q
theorem w_iRng2 {ta : TA} {R : It → Hp → Prop} (q : ta σ H fun vs H1 => ∃ i j : Int, vs = [.int i, .int j] ∧ (-(2 ^ 62) ≤ i ∧ i < 2 ^ 62 ∧ -(2 ^ 62) ≤ j ∧ j < 2 ^ 62) ∧ R (Itr i (j - i).toNat) H1) : iRng2 ta σ H R := q
theorem w_v1I {P : Int → Prop} {n : Int} (q : P n) : ∃ j, [V.int n] = [.int j] ∧ P j := ⟨n, rfl, q⟩
theorem w_v2I {P : Int → Int → Prop} {n m : Int} (q : P n m) : ∃ i j, [V.int n, .int m] = [.int i, .int j] ∧ P i j := ⟨n, m, rfl, q⟩
theorem f_list {a : Addr} {xs : List V} (hx : SqL K H a xs) (Pv : Nat → L2.St → Hp → Prop) (h0 : Pv 0 σ H) (hl : ∀ i σ H, i ≤ xs.length → Pv i σ H → SqL K H a xs)
    (hs : ∀ i x σ H, xs[i]? = some x → Pv i σ H → g x σ H fun σ2 H2 => ts { D with nx := Pv (i + 1), ct := Pv (i + 1), bk := D.nx } σ2 H2) (hd : ∀ σ H, Pv xs.length σ H → D.nx σ H) :
    (∃ xs, SqL K H a xs) ∧ ∃ W : Nat → Nat → L2.St → Hp → Prop, (∃ m, W 0 m σ H) ∧ ∀ i m σ H, W i m σ H →
      ((Itl K a).stop i H ∧ D.nx σ H) ∨ ((Itl K a).go i H ∧ ∃ N : L2.St → Hp → Prop, (∀ σ' H', N σ' H' → ∃ m', m' < m ∧ W (i + 1) m' σ' H') ∧ ∀ x H', (Itl K a).yld i H x H' → g x σ H' fun σ2 H2 => ts { D with nx := N, ct := N, bk := D.nx } σ2 H2) :=
  ⟨⟨xs, hx⟩, for_list Pv h0 hl hs hd⟩
theorem f_tup {a : Addr} {xs : List V} (hx : SqT K H a xs) (Pv : Nat → L2.St → Hp → Prop) (h0 : Pv 0 σ H) (hl : ∀ i σ H, i ≤ xs.length → Pv i σ H → SqT K H a xs)
    (hs : ∀ i x σ H, xs[i]? = some x → Pv i σ H → g x σ H fun σ2 H2 => ts { D with nx := Pv (i + 1), ct := Pv (i + 1), bk := D.nx } σ2 H2) (hd : ∀ σ H, Pv xs.length σ H → D.nx σ H) :
    (∃ xs, SqT K H a xs) ∧ ∃ W : Nat → Nat → L2.St → Hp → Prop, (∃ m, W 0 m σ H) ∧ ∀ i m σ H, W i m σ H →
      ((Itt K a).stop i H ∧ D.nx σ H) ∨ ((Itt K a).go i H ∧ ∃ N : L2.St → Hp → Prop, (∀ σ' H', N σ' H' → ∃ m', m' < m ∧ W (i + 1) m' σ' H') ∧ ∀ x H', (Itt K a).yld i H x H' → g x σ H' fun σ2 H2 => ts { D with nx := N, ct := N, bk := D.nx } σ2 H2) :=
  ⟨⟨xs, hx⟩, for_tup Pv h0 hl hs hd⟩
theorem f_rng {n : Int} (h1 : 0 ≤ n) (h2 : n ≤ 1000000) (Pv : Nat → L2.St → Hp → Prop) (h0 : Pv 0 σ H)
    (hs : ∀ (i : Nat) σ H, (i : Int) < n → Pv i σ H → g (.int (i : Int)) σ H fun σ2 H2 => ts { D with nx := Pv (i + 1), ct := Pv (i + 1), bk := D.nx } σ2 H2) (hd : ∀ σ H, Pv n.toNat σ H → D.nx σ H) :
    -(2 ^ 62) ≤ n ∧ n < 2 ^ 62 ∧ ∃ W : Nat → Nat → L2.St → Hp → Prop, (∃ m, W 0 m σ H) ∧ ∀ i m σ H, W i m σ H →
      ((Itr 0 n.toNat).stop i H ∧ D.nx σ H) ∨ ((Itr 0 n.toNat).go i H ∧ ∃ N : L2.St → Hp → Prop, (∀ σ' H', N σ' H' → ∃ m', m' < m ∧ W (i + 1) m' σ' H') ∧ ∀ x H', (Itr 0 n.toNat).yld i H x H' → g x σ H' fun σ2 H2 => ts { D with nx := N, ct := N, bk := D.nx } σ2 H2) := by
  refine ⟨by omega, by omega, for_range Pv h0 (fun i σ H hi p => ?_) hd⟩
  have e : (0 : Int) + (i : Int) = (i : Int) := Int.zero_add _
  rw [e]
  exact hs i σ H (by omega) p
theorem int_item {ns : List Int} {i : Nat} {x : V} (h : (ns.map V.int)[i]? = some x) : ∃ n, x = .int n ∧ ns[i]? = some n := by
  rw [List.getElem?_map] at h
  cases e : ns[i]? with
  | none => rw [e] at h; cases h
  | some z => rw [e] at h; exact ⟨z, (Option.some.inj h).symm, rfl⟩
theorem atI_lt {xs : List V} {i : Int} (h0 : 0 ≤ i) (h1 : i < xs.length) : atI xs i = some (xs.getD i.toNat .non) := by
  have e2 : ((i.toNat : Nat) : Int) = i := by omega
  have h3 : i.toNat < xs.length := by omega
  have e3 : xs[i.toNat]? = some (xs.getD i.toNat .non) := by
    rw [List.getD_eq_getElem?_getD, List.getElem?_eq_getElem h3]
    rfl
  have e := atI_nat (xs := xs) e3
  rw [e2] at e
  exact e
theorem sIx_nat (n d k : Nat) : HT.sIx n d (some (k : Int)) = min k n := by
  unfold HT.sIx
  simp
  omega
theorem cutV_to (xs : List V) (k : Nat) : cutV xs none (some (k : Int)) = xs.take k := by
  unfold cutV
  rw [sIx_nat]
  show (xs.drop 0).take (min k xs.length - 0) = xs.take k
  rw [List.drop_zero, Nat.sub_zero]
  rcases Nat.le_total k xs.length with h | h
  · rw [Nat.min_eq_left h]
  · rw [Nat.min_eq_right h, List.take_of_length_le (Nat.le_refl _), List.take_of_length_le h]
theorem cutV_all (xs : List V) (k : Nat) (h : xs.length ≤ k) : cutV xs none (some (k : Int)) = xs := by
  rw [cutV_to, List.take_of_length_le h]
mutual
theorem dp_mono (e : Ex H H') : ∀ (d : PyData) (v : V), Dp K H v d → Dp K H' v d
  | .none, _, h => by cases h; exact .non
  | .bool b, _, h => by cases h; exact .bl b
  | .int i, _, h => by cases h; exact .int i
  | .str x, _, h => by cases h; exact .str x
  | .list ds, _, h => by
    cases h with
    | lst hs ha => exact .lst (ex_sq e hs) (dpAll_mono e ds _ ha)
  | .tuple ds, _, h => by
    cases h with
    | tup hs ha => exact .tup (ex_st e hs) (dpAll_mono e ds _ ha)
  | .dict _, _, h => by cases h
theorem dpAll_mono (e : Ex H H') : ∀ (ds : List PyData) (vs : List V), DpAll K H vs ds → DpAll K H' vs ds
  | [], _, h => by cases h; exact .nil
  | d :: ds, _, h => by
    cases h with
    | cons h1 h2 => exact .cons (dp_mono e d _ h1) (dpAll_mono e ds _ h2)
end
theorem w_eqD {d1 d2 : PyData} {b : Bool} (h1 : Dp K H x d1) (h2 : Dp K H y d2) (s1 : SeqAt.shaped d1 = true) (s2 : SeqAt.shaped d2 = true) (e : PyData.eqv d1 d2 = b) (q : Q (.bl b) H) : rEqD K x y H Q := ⟨d1, d2, h1, h2, s1, s2, e ▸ q⟩
theorem w_neD {d1 d2 : PyData} {b : Bool} (h1 : Dp K H x d1) (h2 : Dp K H y d2) (s1 : SeqAt.shaped d1 = true) (s2 : SeqAt.shaped d2 = true) (e : PyData.eqv d1 d2 = b) (q : Q (.bl (!b)) H) : rNeD K x y H Q := ⟨d1, d2, h1, h2, s1, s2, e ▸ q⟩
theorem eqv_self {d : PyData} (h : SeqAt.shaped d = true) : PyData.eqv d d = true := by
  unfold SeqAt.shaped at h
  exact SeqAt.eqv_refl d (by simp at h; exact h.1)
theorem w_lc {wi : TI} {vs : List Nat} (q : wi σ H fun J H1 => ∀ D, H1 D = none → ∃ W : Nat → Nat → Hp → Prop, (∃ m, W 0 m (upd H1 D (.lst []))) ∧ ∀ i m H, W i m H →
  (J.stop i H ∧ Q (.ref D) H) ∨ (J.go i H ∧ ∃ Nx : Hp → Prop, (∀ H', Nx H' → ∃ m', m' < m ∧ W (i + 1) m' H') ∧ ∀ x H', J.yld i H x H' → g x (wipe σ vs) H' fun σ2 H2 => wipe σ2 vs = wipe σ vs ∧ t σ2 H2 fun b H3 =>
    if b = true then te σ2 H3 fun y H4 => ∃ acc, H4 D = some (.lst acc) ∧ acc.length < sizeLine ∧ Nx (upd H4 D (.lst (acc ++ [y]))) else Nx H3)) : tLc wi g t te vs σ H Q := q
theorem lc_fil {J : It} {n : Nat} {G : Hp → Prop} {Y : Nat → Hp → V → Hp → Prop} (w : Walk J n G Y) {vs : List Nat} {H1 : Hp} {Qd : Addr → Hp → Prop} (hn : n ≤ 1000000) (f : Nat → Option V) (hG : ∀ H', Ex H1 H' → G H') (hY : ∀ i H x H', i < n → Y i H x H' → Ex H H')
    (hs : ∀ i x H H', i < n → Ex H1 H → Y i H x H' → ∀ (R : V → Hp → Prop) (S : Hp → Prop), (∀ H4, Ex H' H4 → ∀ v, f i = some v → R v H4) → (∀ H4, Ex H' H4 → f i = none → S H4) →
      g x (wipe σ vs) H' fun σ2 H2 => wipe σ2 vs = wipe σ vs ∧ t σ2 H2 fun b H3 => if b = true then te σ2 H3 R else S H3)
    (hq : ∀ D H', H1 D = none → Ex H1 H' → H' D = some (.lst ((List.range n).filterMap f)) → Qd D H') :
    ∀ D, H1 D = none → ∃ W : Nat → Nat → Hp → Prop, (∃ m, W 0 m (upd H1 D (.lst []))) ∧ ∀ i m H, W i m H →
      (J.stop i H ∧ Qd D H) ∨ (J.go i H ∧ ∃ Nx : Hp → Prop, (∀ H', Nx H' → ∃ m', m' < m ∧ W (i + 1) m' H') ∧ ∀ x H', J.yld i H x H' → g x (wipe σ vs) H' fun σ2 H2 => wipe σ2 vs = wipe σ vs ∧ t σ2 H2 fun b H3 =>
        if b = true then te σ2 H3 fun y H4 => ∃ acc, H4 D = some (.lst acc) ∧ acc.length < sizeLine ∧ Nx (upd H4 D (.lst (acc ++ [y]))) else Nx H3) := by
  intro D hD
  have hlen : ∀ i, ((List.range i).filterMap f).length ≤ i := fun i => by
    have h := List.length_filterMap_le f (List.range i)
    rwa [List.length_range] at h
  refine lc_it w (fun i H => Ex H1 H ∧ H D = some (.lst ((List.range i).filterMap f))) ⟨Evl.Ex.new hD, upd_same⟩ (fun i H _ p => hG H p.1) ?_ (fun H p => hq D H hD p.1 p.2)
  rintro i x H H' hi ⟨e, p⟩ y
  have eY := hY i H x H' hi y
  refine hs i x H H' hi e y _ _ (fun H4 e4 v hv => ⟨_, e4 _ _ (eY _ _ p), ?_, ?_⟩) fun H4 e4 hv => ?_
  · have h1 := hlen i
    rw [sizeLine_eq]
    omega
  · refine ⟨Evl.Ex.mut ((e.trans eY).trans e4) hD, ?_⟩
    rw [upd_same, List.range_succ, List.filterMap_append]
    simp [hv]
  · refine ⟨(e.trans eY).trans e4, ?_⟩
    rw [e4 _ _ (eY _ _ p), List.range_succ, List.filterMap_append]
    simp [hv]
theorem lc_map {J : It} {n : Nat} {G : Hp → Prop} {Y : Nat → Hp → V → Hp → Prop} (w : Walk J n G Y) {vs : List Nat} {H1 : Hp} {Qd : Addr → Hp → Prop} (hn : n ≤ 1000000) (f : Nat → V) (hG : ∀ H', Ex H1 H' → G H') (hY : ∀ i H x H', i < n → Y i H x H' → Ex H H')
    (hs : ∀ i x H H', i < n → Ex H1 H → Y i H x H' → ∀ (R : V → Hp → Prop), (∀ H4, Ex H' H4 → R (f i) H4) → g x (wipe σ vs) H' fun σ2 H2 => wipe σ2 vs = wipe σ vs ∧ te σ2 H2 R)
    (hq : ∀ D H', H1 D = none → Ex H1 H' → H' D = some (.lst ((List.range n).map f)) → Qd D H') (hg : ∀ x σ H (P P' : L2.St → Hp → Prop), (∀ σ H, P σ H → P' σ H) → g x σ H P → g x σ H P') :
    ∀ D, H1 D = none → ∃ W : Nat → Nat → Hp → Prop, (∃ m, W 0 m (upd H1 D (.lst []))) ∧ ∀ i m H, W i m H →
      (J.stop i H ∧ Qd D H) ∨ (J.go i H ∧ ∃ Nx : Hp → Prop, (∀ H', Nx H' → ∃ m', m' < m ∧ W (i + 1) m' H') ∧ ∀ x H', J.yld i H x H' → g x (wipe σ vs) H' fun σ2 H2 => wipe σ2 vs = wipe σ vs ∧ tYes σ2 H2 fun b H3 =>
        if b = true then te σ2 H3 fun y H4 => ∃ acc, H4 D = some (.lst acc) ∧ acc.length < sizeLine ∧ Nx (upd H4 D (.lst (acc ++ [y]))) else Nx H3) := by
  refine lc_fil w hn (fun i => some (f i)) hG hY (fun i x H H' hi e y R S hR _ => ?_) fun D H' hD e p => hq D H' hD e ?_
  · refine hg _ _ _ _ _ (fun σ2 H2 z => ?_) (hs i x H H' hi e y R fun H4 e4 => hR H4 e4 _ rfl)
    exact ⟨z.1, (iteT z.2 : if true = true then te σ2 H2 R else S H2)⟩
  · rw [p]
    congr 2
    induction n with
    | zero => rfl
    | succ n ih => simp
theorem mono_gn (i : Nat) : ∀ x σ H (P P' : L2.St → Hp → Prop), (∀ σ H, P σ H → P' σ H) → gName i x σ H P → gName i x σ H P' := fun _ _ _ _ _ h q => h _ _ q
theorem small_of {n m : Nat} (h : n ≤ m) (h2 : m ≤ 1000000) : n ≤ sizeLine := by rw [sizeLine_eq]; omega
theorem str_len_app (a b : Str) : (a ++ b).length = a.length + b.length := Array.size_append
theorem sign_len (c : Nat) : (⟨#[c]⟩ : Str).length = 1 := rfl
theorem len_toList (z : Str) : z.cps.toList.length = z.length := Array.length_toList
theorem atI_ltN {l : List Nat} {i : Int} (h0 : 0 ≤ i) (h1 : i < l.length) : atI l i = some (l.getD i.toNat 0) := by
  have e2 : ((i.toNat : Nat) : Int) = i := by omega
  have h3 : i.toNat < l.length := by omega
  have e3 : l[i.toNat]? = some (l.getD i.toNat 0) := by
    rw [List.getD_eq_getElem?_getD, List.getElem?_eq_getElem h3]
    rfl
  have e := atI_nat (xs := l) e3
  rw [e2] at e
  exact e
theorem w_ixSn {z : Str} {i : Int} (h : z.length ≤ sizeLine) (h0 : 0 ≤ i) (h1 : i < z.length) (q : Q (.str ⟨#[z.cps.toList.getD i.toNat 0]⟩) H) : rIxS (.str z) (.int i) H Q :=
  w_ixS h (atI_ltN h0 (by rw [len_toList]; exact h1)) q
end
end RT

set_option Elab.async false
set_option linter.all false
set_option maxRecDepth 100000
set_option maxHeartbeats 2000000
namespace RT
open PySem L2
local macro_rules | `(tactic| walk_at "kit") => `(tactic| first | exact kit_int_int | exact kit_int_bool | exact kit_int_str | exact kit_int_list | exact kit_int_tuple | exact kit_int_dict | exact kit_bool_int | exact kit_bool_bool | exact kit_bool_str | exact kit_bool_list | exact kit_bool_tuple | exact kit_bool_dict | exact kit_str_int | exact kit_str_bool | exact kit_str_str | exact kit_str_list | exact kit_str_tuple | exact kit_str_dict | exact kit_NoneType_int | exact kit_NoneType_bool | exact kit_NoneType_str | exact kit_NoneType_list | exact kit_NoneType_tuple | exact kit_NoneType_dict | exact kit_list_int | exact kit_list_bool | exact kit_list_str | exact kit_list_list | exact kit_list_tuple | exact kit_list_dict | exact kit_tuple_int | exact kit_tuple_bool | exact kit_tuple_str | exact kit_tuple_list | exact kit_tuple_tuple | exact kit_tuple_dict | exact kit_dict_int | exact kit_dict_bool | exact kit_dict_str | exact kit_dict_list | exact kit_dict_tuple | exact kit_dict_dict)
local macro_rules | `(tactic| walk_at "hk") => `(tactic| first | assumption | exact ex_at (by assumption) (by walk_at "hk"))
local macro_rules | `(tactic| walk_at "sq") => `(tactic| first | assumption | exact SqL.of (by walk_at "hk") | exact ex_sq (by assumption) (by walk_at "sq"))
local macro_rules | `(tactic| walk_at "st") => `(tactic| first | assumption | exact SqT.of (by walk_at "hk") | exact ex_st (by assumption) (by walk_at "st"))
local macro_rules | `(tactic| walk_at "new") => `(tactic| (intro p hp; generalize hU : upd _ p _ = H'; have e1 := new_ex hp hU; have e2 := new_at hU; clear hU))
local macro_rules | `(tactic| walk_at "set") => `(tactic| ((try simp only [List.set_cons_succ, List.set_cons_zero]); rfl))
local macro_rules | `(tactic| walk_at "small") => `(tactic| first | assumption | (rw [sizeLine_eq]; (try simp only [List.length_cons, List.length_nil, str_len_app, sign_len]); omega) | (with_unfolding_all decide))
local macro_rules | `(tactic| walk_at "sc") => `(tactic| first | assumption | decide | omega | (unfold CMul; omega) | (unfold CDiv; omega) | (unfold CPow; decide))
local macro_rules | `(tactic| walk_at "step") => `(tactic| first
  | with_reducible refine' w_seq ?_
  | with_reducible refine' w_op ?_
  | ((with_reducible refine' w_var ?h ?_); (case h => rfl))
  | with_reducible refine' w_c ?_
  | with_reducible refine' w_i0 ?_
  | with_reducible refine' w_cons ?_
  | with_reducible refine' w_nil ?_
  | with_reducible refine' w_asg ?_
  | ((with_reducible refine' w_gn ?e ?_); (case e => walk_at "set"))
  | with_reducible refine' w_ifS ?_
  | with_reducible refine' w_test ?_
  | with_reducible refine' w_tB ?_
  | with_reducible refine' w_bl ?_
  | with_reducible refine' w_int ?_
  | with_reducible refine' w_ref ?_
  | with_reducible refine' w_str ?_
  | with_reducible refine' w_eqI ?_
  | with_reducible refine' w_neI ?_
  | with_reducible refine' w_eqS ?_
  | with_reducible refine' w_neS ?_
  | with_reducible refine' w_ret ?_
  | with_reducible refine' w_for ?_
  | with_reducible refine' w_lc ?_
  | with_reducible refine' w_iList ?_
  | with_reducible refine' w_iTup ?_
  | with_reducible refine' w_iStr ?_
  | with_reducible refine' w_iRng1 ?_
  | with_reducible refine' w_iRng2 ?_
  | with_reducible refine' w_v1I ?_
  | with_reducible refine' w_v2I ?_
  | with_reducible refine' w_next ?_
  | with_reducible refine' w_call ?_
  | with_reducible refine' w_cb ?_
  | with_reducible refine' w_and ?_
  | with_reducible refine' w_or ?_
  | with_reducible refine' w_not ?_
  | with_reducible refine' w_andV ?_
  | with_reducible refine' w_orV ?_
  | with_reducible refine' w_notV ?_
  | with_reducible refine' w_ifE ?_
  | with_reducible refine' w_drop ?_
  | with_reducible refine' w_un ?_
  | with_reducible refine' w_u ?_
  | with_reducible refine' w_isN ?_
  | with_reducible refine' w_notN ?_
  | with_reducible refine' w_int1 ?_
  | with_reducible refine' w_int1b ?_
  | with_reducible refine' w_tup ?_
  | with_reducible refine' w_lst ?_
  | with_reducible refine' w_dnew ?_
  | with_reducible refine' w_sl ?_
  | with_reducible refine' w_noPart ?_
  | with_reducible refine' w_part ?_
  | with_reducible refine' w_retN ?_
  | with_reducible refine' w_brk ?_
  | with_reducible refine' w_cont ?_
  | with_reducible refine' w_chain ?_
  | with_reducible refine' w_s2 ?_
  | with_reducible refine' w_inS ?_
  | with_reducible refine' w_ninS ?_
  | with_reducible refine' w_par ?_
  | with_reducible refine' w_v2 ?_
  | with_reducible refine' w_max2 ?_
  | with_reducible refine' w_min2 ?_
  | with_reducible refine' w_tru ?_
  | with_reducible refine' w_meth ?_
  | with_reducible refine' w_make ?_
  | ((with_reducible refine' w_isiI ?h ?_); (case h => walk_at "kit"))
  | ((with_reducible refine' w_isiB ?h ?_); (case h => walk_at "kit"))
  | ((with_reducible refine' w_isiN ?h ?_); (case h => walk_at "kit"))
  | ((with_reducible refine' w_isiS ?h ?_); (case h => walk_at "kit"))
  | ((with_reducible refine' w_i ?h ?_); (case h => walk_at "sc"))
  | ((with_reducible refine' w_tt ?h ?_); (case h => rfl))
  | ((with_reducible refine' w_ff ?h ?_); (case h => rfl))
  | ((with_reducible refine' w_lenS ?h ?_); (case h => walk_at "sq"))
  | ((with_reducible refine' w_lenT ?h ?_); (case h => walk_at "st"))
  | ((with_reducible refine' w_slL ?h ?_); (case h => walk_at "sq"))
  | ((with_reducible refine' w_aug ?h ?_); (case h => rfl))
  | with_reducible refine' w_ip ?_
  | ((with_reducible refine' w_cat ?h1 ?h2 ?h3 ?_); (case h1 => walk_at "hk"); (case h2 => walk_at "hk"); (case h3 => walk_at "small"))
  | ((with_reducible refine' w_ixL ?h1 ?h2 ?_); (case h1 => walk_at "sq"); (case h2 => rfl))
  | ((with_reducible refine' w_ixT ?h1 ?h2 ?_); (case h1 => walk_at "st"); (case h2 => rfl))
  | ((with_reducible refine' w_lenStr ?h ?_); (case h => walk_at "small"))
  | ((with_reducible refine' w_slS ?h ?_); (case h => walk_at "small"))
  | ((with_reducible refine' w_sz ?h ?_); (case h => walk_at "small")))
local macro_rules | `(tactic| walk_at "go") => `(tactic| (repeat (first | walk_at "step" | walk_at "callx")))
local macro_rules | `(tactic| walk_at "goN") => `(tactic| (repeat (first | walk_at "step" | walk_at "callx" | ((with_reducible show ∀ p, _ = none → _); walk_at "new"))))
local macro_rules | `(tactic| walk_at "len") => `(tactic| first
  | (obtain ⟨rfl, _⟩ := h; rfl) | (obtain ⟨_, rfl, _⟩ := h; rfl) | (obtain ⟨_, _, rfl, _⟩ := h; rfl) | (obtain ⟨_, _, _, rfl, _⟩ := h; rfl) | (obtain ⟨_, _, _, _, rfl, _⟩ := h; rfl)
  | (obtain ⟨_, _, _, _, _, rfl, _⟩ := h; rfl) | (obtain ⟨_, _, _, _, _, _, rfl, _⟩ := h; rfl) | (obtain ⟨_, _, _, _, _, _, _, rfl, _⟩ := h; rfl) | (obtain ⟨_, _, _, _, _, _, _, _, rfl, _⟩ := h; rfl)
  | (obtain ⟨_, _, _, _, _, _, _, _, _, rfl, _⟩ := h; rfl) | (obtain ⟨_, _, _, _, _, _, _, _, _, _, rfl, _⟩ := h; rfl))
local macro_rules | `(tactic| walk_at "dec") => `(tactic| (first | with_reducible apply w_dec | with_reducible apply w_ndec | with_reducible apply w_bool) <;> intro hc)
def lowC (c : Nat) : Bool := decide (97 ≤ c) && decide (c ≤ 122)
def slotF (z : Str) : Bool := decide (z.length = 1) && z.cps.toList.all fun c => decide (97 ≤ c) && decide (c ≤ 104)
def nameF (z : Str) : Bool := decide (1 ≤ z.length) && decide (z.length ≤ 8) && z.cps.toList.all lowC
def sp_is_slot (_ : Ad) : Sp := fun vs H Q _ => ∃ (z : Str), vs = [.str z] ∧ z.length ≤ 1000 ∧ Q (.bl (slotF z)) H
def sp_is_name (_ : Ad) : Sp := fun vs H Q _ => ∃ (z : Str), vs = [.str z] ∧ z.length ≤ 1000 ∧ Q (.bl (nameF z)) H
def signs : Str := "abcdefghijklmnopqrstuvwxyz !\"#$&'()*+,-./0123456789:;<=>?\x40[\\]^_`{|}~ABCDEFGHIJKLMNOPQRSTUVWXYZ"
def sp_l_signs (_ : Ad) : Sp := fun vs H Q _ => vs = [] ∧ Q (.str signs) H
def sp_l_due (_ : Ad) : Sp := fun vs H Q _ => ∃ (z : Str), vs = [.str z] ∧ z.length ≤ 1000 ∧ ∀ p H', H p = none → Ex H H' → H' p = some (.lst [.bl (slotF z), .bl (nameF z)]) → Q (.ref p) H'
def sp_l_asked (_ : Ad) : Sp := fun vs H Q _ => ∃ (z : Str) (n : Int), vs = [.str z, .int n] ∧ z.length ≤ 1000 ∧ ∀ H', Ex H H' → Q (.bl true) H'
def sp_l_text (_ : Ad) : Sp := fun vs H Q _ => ∃ (n : Int), vs = [.int n] ∧ ∀ z : Str, z.length ≤ 100 → Q (.str z) H
abbrev sp_law (d : Ad) : Sp := spLaw d.K
abbrev N_is_slot : List Str := ["text"]
def t_is_slot (d : Ad) : TS :=
  (tRet (tAndV (tOp rEq (tCB rLenStr (tCons (tVar 0) tNil)) (tC (.int 1))) (tChain rLeS rLeS (tC (.str "a")) (tVar 0) (tC (.str "h")))))
abbrev N_is_name : List Str := ["text", "sign"]
def t_is_name (d : Ad) : TS :=
  (tSeq (tIfS (tOr (tTest (tOp rLt (tCB rLenStr (tCons (tVar 0) tNil)) (tC (.int 1)))) (tTest (tOp rGt (tCB rLenStr (tCons (tVar 0) tNil)) (tC (.int 8))))) (tRet (tC (.bl false))) tNext)
  (tSeq (tFor (iStr (tVar 0)) (gName 1) (tIfS (tNot (tTest (tChain rLeS rLeS (tC (.str "a")) (tVar 1) (tC (.str "z"))))) (tRet (tC (.bl false))) tNext))
  (tRet (tC (.bl true)))))
abbrev N_l_signs : List Str := ["_law_signs_here"]
def t_l_signs (d : Ad) : TS :=
  (tSeq (tAsg (tC (.str "abcdefghijklmnopqrstuvwxyz !\"#$&'()*+,-./0123456789:;<=>?\x40[\\]^_`{|}~")) (gName 0))
  (tRet (aAddS (tVar 0) (tC (.str "ABCDEFGHIJKLMNOPQRSTUVWXYZ")))))
abbrev N_l_due : List Str := ["_law_text_here", "_law_letters", "_law_good", "_law_sign"]
def t_l_due (d : Ad) : TS :=
  (tSeq (tAsg (tSl rSlS (tCall (sp_l_signs d) [] E0 tNil) tNoPart (tPart (tC (.int 26)))) (gName 1))
  (tSeq (tAsg (tCB (rAll d.K) (tCons (tLc (iStr (tVar 0)) (gName 3) tYes (tOp rInS (tVar 3) (tVar 1)) [3]) tNil)) (gName 2))
  (tRet (tLst (tCons (tAndV (tVar 2) (tAndV (tOp rEq (tCB rLenStr (tCons (tVar 0) tNil)) (tC (.int 1))) (tOp rInS (tVar 0) (tSl rSlS (tVar 1) tNoPart (tPart (tC (.int 8))))))) (tCons (tAndV (tVar 2) (tChain rLe rLe (tC (.int 1)) (tCB rLenStr (tCons (tVar 0) tNil)) (tC (.int 8)))) tNil))))))
abbrev N_l_asked : List Str := ["_law_text_here", "_law_turn", "_law_due_here", "_law_found", "_law_second"]
def t_l_asked (d : Ad) : TS :=
  (tSeq (tAsg (tCall (sp_l_due d) [] E0 (tCons (tVar 0) tNil)) (gName 2))
  (tSeq (tIfS (tTest (tOp rEq (tVar 1) (tC (.int 0)))) (tAsg (tLst (tCons (tCall (sp_is_slot d) [] E0 (tCons (tVar 0) tNil)) (tCons (tCall (sp_is_name d) [] E0 (tCons (tVar 0) tNil)) tNil))) (gName 3)) (tSeq (tAsg (tCall (sp_is_name d) [] E0 (tCons (tVar 0) tNil)) (gName 4))
  (tAsg (tLst (tCons (tCall (sp_is_slot d) [] E0 (tCons (tVar 0) tNil)) (tCons (tVar 4) tNil))) (gName 3))))
  (tSeq (tIfS (tOr (tNot (tB (tCB (rIsi d.K) (tCons (tOp (rIxL d.K) (tVar 3) (tC (.int 0))) (tCons (tC (.ty "bool")) tNil))))) (tNot (tB (tCB (rIsi d.K) (tCons (tOp (rIxL d.K) (tVar 3) (tC (.int 1))) (tCons (tC (.ty "bool")) tNil)))))) (tRet (tC (.bl false))) tNext)
  (tRet (tOp (rEqD d.K) (tVar 3) (tVar 2))))))
abbrev N_l_text : List Str := ["_law_cell", "_law_signs_here", "_law_text_here", "_law_k", "_law_step", "_law_at", "_law_sign"]
def t_l_text (d : Ad) : TS :=
  (tSeq (tAsg (tCall (sp_l_signs d) [] E0 tNil) (gName 1))
  (tSeq (tAsg (tC (.str "")) (gName 2))
  (tSeq (tFor (iRng1 (tCons (aMod (tVar 0) (tC (.int 10))) tNil)) (gName 3) (tSeq (tAsg (aMul (aMul (tVar 3) (tVar 3)) (aMod (aDiv (tVar 0) (tC (.int 260))) (tC (.int 2)))) (gName 4))
  (tAsg (aAddS (tVar 2) (tOp rIxS (tVar 1) (aMod (aAdd (aDiv (tVar 0) (tC (.int 10))) (tVar 4)) (tC (.int 26))))) (gName 2))))
  (tSeq (tIfS (tAnd (tTest (tOp rGt (tCB rLenStr (tCons (tVar 2) tNil)) (tC (.int 0)))) (tTest (tOp rGt (aMod (aDiv (tVar 0) (tC (.int 520))) (tC (.int 3))) (tC (.int 0))))) (tSeq (tAsg (aMod (aDiv (tVar 0) (tC (.int 1560))) (tCB rLenStr (tCons (tVar 2) tNil))) (gName 5))
  (tSeq (tAsg (tOp rIxS (tVar 1) (aMod (aDiv (tVar 0) (tC (.int 15600))) (tCB rLenStr (tCons (tVar 1) tNil)))) (gName 6))
  (tAsg (aAddS (aAddS (tSl rSlS (tVar 2) tNoPart (tPart (tVar 5))) (tVar 6)) (tSl rSlS (tVar 2) (tPart (aAdd (tVar 5) (tC (.int 1)))) tNoPart)) (gName 2)))) tNext)
  (tRet (tVar 2))))))
abbrev N_law : List Str := ["_law_script", "_law_sign", "_law_cell"]
def t_law (d : Ad) : TS :=
  (tSeq (tFor (iStr (tCall (sp_l_signs d) [] E0 tNil)) (gName 1) (tIfS (tNot (tB (tCall (sp_l_asked d) [] E0 (tCons (tVar 1) (tCons (tC (.int 0)) tNil))))) (tRet (tC (.bl false))) tNext))
  (tSeq (tFor (iList d.K (aCat (tLst (tCons (tC (.int 0)) (tCons (tC (.int 1)) tNil))) (tSl (rSlL d.K) (tVar 0) tNoPart (tPart (tC (.int 60)))))) (gName 2) (tSeq (tAsg (aMod (tVar 2) (aPow (tC (.int 10)) (tC (.int 60)))) (gName 2))
  (tIfS (tNot (tB (tCall (sp_l_asked d) [] E0 (tCons (tCall (sp_l_text d) [] E0 (tCons (tVar 2) tNil)) (tCons (aMod (aDiv (tVar 2) (tC (.int 7))) (tC (.int 2))) tNil))))) (tRet (tC (.bl false))) tNext)))
  (tRet (tC (.bl true)))))
local macro_rules | `(tactic| walk_at "callx") => `(tactic| fail)
theorem one_sign {z : Str} (h : z.length = 1) : ∃ c, z = ⟨#[c]⟩ := by
  obtain ⟨⟨l⟩⟩ := z
  have h' : l.length = 1 := h
  match l, h' with
  | [c], _ => exact ⟨c, rfl⟩
theorem lt1 (a b : Nat) : decide (([a] : List Nat) < [b]) = decide (a < b) := by
  by_cases h : a < b
  · rw [decide_eq_true h]; exact decide_eq_true (List.Lex.rel h)
  · rw [decide_eq_false h]
    refine decide_eq_false fun q => ?_
    cases q with
    | rel q => exact h q
    | cons q => cases q
theorem le_str1 (c k : Nat) (x : Str) (hx : x = ⟨#[k]⟩) : (!decide ((⟨#[c]⟩ : Str).cps.toList < x.cps.toList)) = decide (k ≤ c) := by
  subst hx
  show (!decide (([c] : List Nat) < [k])) = decide (k ≤ c)
  rw [lt1]
  by_cases h : c < k
  · rw [decide_eq_true h, decide_eq_false (by omega)]; rfl
  · rw [decide_eq_false h, decide_eq_true (by omega)]; rfl
theorem ge_str1 (c k : Nat) (x : Str) (hx : x = ⟨#[k]⟩) : (!decide (x.cps.toList < (⟨#[c]⟩ : Str).cps.toList)) = decide (c ≤ k) := by
  subst hx
  show (!decide (([k] : List Nat) < [c])) = decide (c ≤ k)
  rw [lt1]
  by_cases h : k < c
  · rw [decide_eq_true h, decide_eq_false (by omega)]; rfl
  · rw [decide_eq_false h, decide_eq_true (by omega)]; rfl
theorem pure_is_slot {d : Ad} {vs : List V} {H : Hp} {Q : VK} {E : XK} (h : sp_is_slot d vs H Q E) : t_is_slot d { nx := fun _ H' => Q .non H', rt := Q } (start N_is_slot vs) H := by
  obtain ⟨z, rfl, hz, k⟩ := h
  have hz' := small_of hz (by decide)
  show t_is_slot d _ [some (.str z)] H
  unfold t_is_slot
  unfold slotF at k
  walk_at "go"
  walk_at "dec"
  · obtain ⟨c, rfl⟩ := one_sign (z := z) (by omega)
    walk_at "go"
    rw [le_str1 c 97 "a" (by decide)]
    walk_at "dec"
    · walk_at "go"
      rw [ge_str1 c 104 "h" (by decide)]
      rename_i hc
      have e : (decide ((⟨#[c]⟩ : Str).length = 1) && (⟨#[c]⟩ : Str).cps.toList.all fun c => decide (97 ≤ c) && decide (c ≤ 104)) = decide (c ≤ 104) := by
        show (true && ((decide (97 ≤ c) && decide (c ≤ 104)) && true)) = _
        rw [decide_eq_true hc]; simp
      rw [← e]; exact k
    · walk_at "go"
      rename_i hc
      have e : (decide ((⟨#[c]⟩ : Str).length = 1) && (⟨#[c]⟩ : Str).cps.toList.all fun c => decide (97 ≤ c) && decide (c ≤ 104)) = false := by
        show (true && ((decide (97 ≤ c) && decide (c ≤ 104)) && true)) = _
        rw [decide_eq_false hc]; simp
      rw [← e]; exact k
  · rename_i hc
    rw [decide_eq_false (by omega : ¬ z.length = 1)] at k
    exact k
theorem all_take_succ {p : Nat → Bool} {l : List Nat} {i c : Nat} (h : l[i]? = some c) : (l.take (i + 1)).all p = ((l.take i).all p && p c) := by
  rw [List.take_succ, h]
  simp
theorem all_of_not {p : Nat → Bool} {l : List Nat} {i c : Nat} (h : l[i]? = some c) (hp : p c = false) : l.all p = false := by
  rw [List.all_eq_false]
  exact ⟨c, List.mem_of_getElem? h, by simp [hp]⟩
theorem pure_is_name {d : Ad} {vs : List V} {H : Hp} {Q : VK} {E : XK} (h : sp_is_name d vs H Q E) : t_is_name d { nx := fun _ H' => Q .non H', rt := Q } (start N_is_name vs) H := by
  obtain ⟨z, rfl, hz, k⟩ := h
  have hz' := small_of hz (by decide)
  show t_is_name d _ [some (.str z), none] H
  unfold t_is_name
  unfold nameF at k
  walk_at "go"
  walk_at "dec"
  · walk_at "go"
    rw [decide_eq_false (by omega : ¬ 1 ≤ z.length)] at k
    exact k
  walk_at "go"
  walk_at "dec"
  · walk_at "go"
    rw [decide_eq_false (by omega : ¬ z.length ≤ 8)] at k
    simpa using k
  walk_at "go"
  rename_i h1 h2
  rw [decide_eq_true (by omega : 1 ≤ z.length), decide_eq_true (by omega : z.length ≤ 8)] at k
  refine for_it walk_str (fun i σ H' => (∃ x, σ = [some (.str z), x]) ∧ H' = H ∧ (z.cps.toList.take i).all lowC = true) ⟨⟨_, rfl⟩, rfl, rfl⟩ (fun _ _ _ _ _ => trivial) ?_ ?_
  · rintro i x σ H1 H2 hi ⟨⟨x2, rfl⟩, rfl, ha⟩ ⟨rfl, c, hc, rfl⟩
    have hc' : z.cps.toList[i]? = some c := by simpa using hc
    walk_at "go"
    rw [le_str1 c 97 "a" (by decide)]
    walk_at "dec"
    · walk_at "go"
      rw [ge_str1 c 122 "z" (by decide)]
      rename_i g1
      walk_at "go"
      by_cases g2 : c ≤ 122
      · rw [decide_eq_true g2]
        walk_at "go"
        refine ⟨⟨_, rfl⟩, rfl, ?_⟩
        rw [all_take_succ hc', ha]
        simp [lowC, g1, g2]
      · rw [decide_eq_false g2]
        walk_at "go"
        rw [all_of_not hc' (by simp [lowC, g2])] at k
        exact k
    · walk_at "go"
      rename_i g1
      rw [all_of_not hc' (by simp [lowC, g1])] at k
      exact k
  · rintro σ H1 ⟨⟨x2, rfl⟩, rfl, ha⟩
    walk_at "go"
    rw [List.take_of_length_le (by rw [Array.length_toList]; exact Nat.le_refl _)] at ha
    rw [ha] at k
    exact k
theorem pure_l_signs {d : Ad} {vs : List V} {H : Hp} {Q : VK} {E : XK} (h : sp_l_signs d vs H Q E) : t_l_signs d { nx := fun _ H' => Q .non H', rt := Q } (start N_l_signs vs) H := by
  obtain ⟨rfl, k⟩ := h
  show t_l_signs d _ [none] H
  unfold t_l_signs
  walk_at "go"
  exact k
theorem c_signs {d : Ad} {H : Hp} {Q : VK} {E : XK} (q : Q (.str signs) H) : sp_l_signs d [] H Q E := ⟨rfl, q⟩
local macro_rules | `(tactic| walk_at "callx") => `(tactic| with_reducible refine' c_signs ?_)
theorem all26 (c : Nat) : decide (c ∈ (cutS signs none (some 26)).cps.toList) = lowC c := by
  have e : (cutS signs none (some 26)).cps.toList = (List.range 26).map (· + 97) := by decide +kernel
  rw [e]
  by_cases h : 97 ≤ c ∧ c ≤ 122
  · have h2 : lowC c = true := by simp [lowC, h.1, h.2]
    rw [h2]
    refine decide_eq_true (List.mem_map.mpr ⟨c - 97, List.mem_range.mpr (by omega), by omega⟩)
  · have h2 : lowC c = false := by
      by_cases g : 97 ≤ c
      · simp [lowC, g]; omega
      · simp [lowC, g]
    rw [h2]
    refine decide_eq_false fun q => ?_
    obtain ⟨k, hk, e⟩ := List.mem_map.mp q
    have := List.mem_range.mp hk
    exact h ⟨by omega, by omega⟩
theorem all8 (c : Nat) : decide (c ∈ (cutS (cutS signs none (some 26)) none (some 8)).cps.toList) = (decide (97 ≤ c) && decide (c ≤ 104)) := by
  have e : (cutS (cutS signs none (some 26)) none (some 8)).cps.toList = (List.range 8).map (· + 97) := by decide +kernel
  rw [e]
  by_cases h : 97 ≤ c ∧ c ≤ 104
  · rw [decide_eq_true h.1, decide_eq_true h.2]
    refine decide_eq_true (List.mem_map.mpr ⟨c - 97, List.mem_range.mpr (by omega), by omega⟩)
  · have h2 : (decide (97 ≤ c) && decide (c ≤ 104)) = false := by
      by_cases g : 97 ≤ c
      · simp [g]; omega
      · simp [g]
    rw [h2]
    refine decide_eq_false fun q => ?_
    obtain ⟨k, hk, e⟩ := List.mem_map.mp q
    have := List.mem_range.mp hk
    exact h ⟨by omega, by omega⟩
theorem map_range_all {p : Nat → Bool} (z : Str) : ((List.range z.cps.size).map fun i => V.bl (p (z.cps.toList.getD i 0))) = (z.cps.toList.map p).map V.bl := by
  apply List.ext_getElem
  · simp
  · intro i h1 h2
    have h3 : i < z.cps.size := by simpa using h1
    simp [List.getD_eq_getElem?_getD, h3]
theorem pure_l_due {d : Ad} {vs : List V} {H : Hp} {Q : VK} {E : XK} (h : sp_l_due d vs H Q E) : t_l_due d { nx := fun _ H' => Q .non H', rt := Q } (start N_l_due vs) H := by
  obtain ⟨z, rfl, hz, k⟩ := h
  have hz' := small_of hz (by decide)
  show t_l_due d _ [some (.str z), none, none, none] H
  unfold t_l_due
  have hs1 : signs.length ≤ sizeLine := by rw [sizeLine_eq]; decide +kernel
  have hs2 : (cutS signs none (some 26)).length ≤ sizeLine := by rw [sizeLine_eq]; decide +kernel
  walk_at "go"
  refine lc_map (walk_str (z := z)) (by have := len_toList z; simp at this; omega) (fun i => V.bl (lowC (z.cps.toList.getD i 0))) (fun _ _ => trivial) (fun i H x H' _ y => y.1 ▸ Evl.Ex.refl _) ?_ ?_ (mono_gn 3)
  · rintro i x H1 H2 hi e1 ⟨rfl, c, hc, rfl⟩ R hR
    have hc' : z.cps.toList[i]? = some c := by simpa using hc
    show wipe _ _ = wipe _ _ ∧ _
    refine ⟨rfl, ?_⟩
    walk_at "go"
    rw [all26]
    have e : z.cps.toList.getD i 0 = c := by rw [List.getD_eq_getElem?_getD, hc']; rfl
    have := hR _ (Evl.Ex.refl _)
    rw [e] at this
    exact this
  · intro D H1 hD e1 f1
    rw [map_range_all] at f1
    walk_at "go"
    refine ⟨D, _, rfl, SqL.of f1, ?_⟩
    walk_at "go"
    have ea : (z.cps.toList.map lowC).all id = z.cps.toList.all lowC := by rw [List.all_map]; rfl
    rw [ea]
    have fin : ∀ b1 b2, b1 = slotF z → b2 = nameF z → ∀ p, H1 p = none → Q (.ref p) (upd H1 p (.lst [.bl b1, .bl b2])) := fun b1 b2 h1 h2 p hp => by
      subst h1 h2
      exact k p _ (ex_free e1 hp) (e1.trans (Evl.Ex.new hp)) upd_same
    have slot0 : z.cps.toList.all lowC = false → slotF z = false := fun h => by
      unfold slotF
      rw [List.all_eq_false] at h
      obtain ⟨c, hc, h⟩ := h
      have : (z.cps.toList.all fun c => decide (97 ≤ c) && decide (c ≤ 104)) = false := List.all_eq_false.mpr ⟨c, hc, by
        simp only [lowC, Bool.and_eq_true, decide_eq_true_eq, not_and] at h
        simp only [Bool.and_eq_true, decide_eq_true_eq, not_and]
        intro h1; have := h h1; omega⟩
      rw [this, Bool.and_false]
    walk_at "dec"
    · rename_i hg
      have hn : nameF z = (decide (1 ≤ z.length) && decide (z.length ≤ 8)) := by unfold nameF; rw [hg, Bool.and_true]
      walk_at "go"
      walk_at "dec"
      · rename_i h1
        obtain ⟨c, rfl⟩ := one_sign (z := z) (by omega)
        walk_at "go"
        rw [all8]
        walk_at "go"
        rw [hg]
        walk_at "go"
        refine fin _ _ ?_ ?_
        · show _ = (true && ((decide (97 ≤ c) && decide (c ≤ 104)) && true)); simp
        · rw [hn]; rfl
      · rename_i h1
        have hs : slotF z = false := by unfold slotF; rw [decide_eq_false (by omega : ¬ z.length = 1)]; rfl
        walk_at "go"
        rw [hg]
        walk_at "go"
        walk_at "dec"
        · walk_at "go"
          refine fin _ _ hs.symm ?_
          rename_i h2
          rw [hn, decide_eq_true (by omega : 1 ≤ z.length), Bool.true_and]
          exact decide_eq_decide.mpr (by omega)
        · walk_at "go"
          refine fin _ _ hs.symm ?_
          rename_i h2
          rw [hn, decide_eq_false (by omega : ¬ 1 ≤ z.length), Bool.false_and]
    · rename_i hg
      have hn : nameF z = false := by unfold nameF; rw [hg, Bool.and_false]
      walk_at "go"
      rw [hg]
      walk_at "go"
      exact fin _ _ (slot0 hg).symm hn.symm
theorem c_slot {d : Ad} {z : Str} {H : Hp} {Q : VK} {E : XK} (h : z.length ≤ 1000) (q : Q (.bl (slotF z)) H) : sp_is_slot d [.str z] H Q E := ⟨z, rfl, h, q⟩
theorem c_name {d : Ad} {z : Str} {H : Hp} {Q : VK} {E : XK} (h : z.length ≤ 1000) (q : Q (.bl (nameF z)) H) : sp_is_name d [.str z] H Q E := ⟨z, rfl, h, q⟩
local macro_rules | `(tactic| walk_at "callx") => `(tactic| first | with_reducible refine' c_signs ?_ | ((with_reducible refine' c_slot ?h ?_); (case h => assumption)) | ((with_reducible refine' c_name ?h ?_); (case h => assumption)))
theorem pure_l_asked {d : Ad} {vs : List V} {H : Hp} {Q : VK} {E : XK} (h : sp_l_asked d vs H Q E) : t_l_asked d { nx := fun _ H' => Q .non H', rt := Q } (start N_l_asked vs) H := by
  obtain ⟨z, n, rfl, hz, k⟩ := h
  show t_l_asked d _ [some (.str z), some (.int n), none, none, none] H
  unfold t_l_asked
  walk_at "go"
  refine ⟨z, rfl, hz, fun p H1 hp e1 f1 => ?_⟩
  walk_at "go"
  walk_at "dec"
  all_goals
    walk_at "goN"
    refine w_eqD (d1 := .list [.bool (slotF z), .bool (nameF z)]) (d2 := .list [.bool (slotF z), .bool (nameF z)]) (b := true) (.lst (by walk_at "sq") (.cons (.bl _) (.cons (.bl _) .nil))) (.lst (by walk_at "sq") (.cons (.bl _) (.cons (.bl _) .nil))) rfl rfl (eqv_self rfl) ?_
    exact k _ (e1.trans (by assumption))
theorem pure_l_text {d : Ad} {vs : List V} {H : Hp} {Q : VK} {E : XK} (h : sp_l_text d vs H Q E) : t_l_text d { nx := fun _ H' => Q .non H', rt := Q } (start N_l_text vs) H := by
  obtain ⟨n, rfl, k⟩ := h
  show t_l_text d _ [some (.int n), none, none, none, none, none, none] H
  unfold t_l_text
  have hs1 : signs.length ≤ sizeLine := by rw [sizeLine_eq]; decide +kernel
  have hs2 : signs.length = 94 := by decide +kernel
  walk_at "go"
  refine f_rng (by omega) (by omega) (fun i σ H' => ∃ (z : Str) (x3 x4 : Option V), σ = [some (.int n), some (.str signs), some (.str z), x3, x4, none, none] ∧ H' = H ∧ z.length = i) ⟨_, _, _, rfl, rfl, rfl⟩ ?_ ?_
  · rintro i σ H1 hi ⟨z, x3, x4, rfl, rfl, hz⟩
    walk_at "go"
    refine w_ixSn hs1 (by omega) (by omega) ?_
    walk_at "go"
    exact ⟨_, _, _, rfl, rfl, by rw [str_len_app, hz]; rfl⟩
  · rintro σ H1 ⟨z, x3, x4, rfl, rfl, hz⟩
    have hs3 : z.length ≤ sizeLine := small_of (m := 10) (by omega) (by decide)
    walk_at "go"
    walk_at "dec"
    · walk_at "go"
      walk_at "dec"
      · walk_at "go"
        refine w_ixSn hs1 (by rw [hs2]; omega) (by rw [hs2]; omega) ?_
        have h1 := cutS_length z none (some (n / 1560 % (z.length : Int)))
        have h2 := cutS_length z (some (n / 1560 % (z.length : Int) + 1)) none
        walk_at "go"
        exact k _ (by rw [str_len_app, str_len_app, sign_len]; omega)
      · walk_at "go"
        exact k _ (by omega)
    · walk_at "go"
      exact k _ (by omega)
theorem pure_law {d : Ad} {vs : List V} {H : Hp} {Q : VK} {E : XK} (h : sp_law d vs H Q E) : t_law d { nx := fun _ H' => Q .non H', rt := Q } (start N_law vs) H := by
  obtain ⟨a, ns, rfl, hS, hlen, k⟩ := h
  show t_law d _ [some (.ref a), none, none] H
  unfold t_law
  walk_at "go"
  refine for_it walk_str (fun i σ H' => (∃ x, σ = [some (.ref a), x, none]) ∧ Ex H H') ⟨⟨_, rfl⟩, Evl.Ex.refl _⟩ (fun _ _ _ _ _ => trivial) ?_ ?_
  · rintro i x σ H1 H2 hi ⟨⟨x2, rfl⟩, e1⟩ ⟨rfl, c, hc, rfl⟩
    walk_at "go"
    refine ⟨_, _, rfl, by rw [sign_len]; decide, fun H3 e3 => ?_⟩
    walk_at "go"
    exact ⟨⟨_, rfl⟩, e1.trans e3⟩
  · rintro σ H1 ⟨⟨x2, rfl⟩, e1⟩
    walk_at "goN"
    rename_i p hp H2 e2 f2 q hq H3 e3 f3
    refine w_cat (by walk_at "hk") (by walk_at "hk") (by rw [sizeLine_eq, show (60 : Int) = ((60 : Nat) : Int) from rfl, cutV_to]; simp; omega) ?_
    walk_at "goN"
    rename_i c hc H4 e4 f4
    rw [show (60 : Int) = ((60 : Nat) : Int) from rfl, cutV_to, ← List.map_take] at f4
    have f4' : H4 c = some (.lst ((0 :: 1 :: ns.take 60).map V.int)) := f4
    refine f_list (SqL.of f4') (fun i σ H => (∃ x2 x3, σ = [some (.ref a), x2, x3]) ∧ Ex H4 H) ⟨⟨_, _, rfl⟩, Evl.Ex.refl _⟩ (fun i σ H _ p => SqL.of (p.2 _ _ f4')) ?_ ?_
    · rintro i x σ H5 hi ⟨⟨x2, x3, rfl⟩, e5⟩
      obtain ⟨n, rfl, _⟩ := int_item hi
      walk_at "go"
      refine ⟨_, rfl, fun z hz => ?_⟩
      walk_at "go"
      refine ⟨_, _, rfl, by omega, fun H6 e6 => ?_⟩
      walk_at "go"
      exact ⟨⟨_, _, rfl⟩, e5.trans e6⟩
    · rintro σ H5 ⟨⟨x2, x3, rfl⟩, e5⟩
      walk_at "go"
      exact k _
end RT

set_option Elab.async false
set_option linter.all false
set_option maxRecDepth 100000
set_option maxHeartbeats 2000000
namespace Row
open PySem L2 RT
local macro_rules | `(tactic| walk_at "kit") => `(tactic| first | exact kit_int_int | exact kit_int_bool | exact kit_int_str | exact kit_int_list | exact kit_int_tuple | exact kit_int_dict | exact kit_bool_int | exact kit_bool_bool | exact kit_bool_str | exact kit_bool_list | exact kit_bool_tuple | exact kit_bool_dict | exact kit_str_int | exact kit_str_bool | exact kit_str_str | exact kit_str_list | exact kit_str_tuple | exact kit_str_dict | exact kit_NoneType_int | exact kit_NoneType_bool | exact kit_NoneType_str | exact kit_NoneType_list | exact kit_NoneType_tuple | exact kit_NoneType_dict | exact kit_list_int | exact kit_list_bool | exact kit_list_str | exact kit_list_list | exact kit_list_tuple | exact kit_list_dict | exact kit_tuple_int | exact kit_tuple_bool | exact kit_tuple_str | exact kit_tuple_list | exact kit_tuple_tuple | exact kit_tuple_dict | exact kit_dict_int | exact kit_dict_bool | exact kit_dict_str | exact kit_dict_list | exact kit_dict_tuple | exact kit_dict_dict)
local macro_rules | `(tactic| walk_at "hk") => `(tactic| first | assumption | exact ex_at (by assumption) (by walk_at "hk"))
local macro_rules | `(tactic| walk_at "sq") => `(tactic| first | assumption | exact SqL.of (by walk_at "hk") | exact ex_sq (by assumption) (by walk_at "sq"))
local macro_rules | `(tactic| walk_at "st") => `(tactic| first | assumption | exact SqT.of (by walk_at "hk") | exact ex_st (by assumption) (by walk_at "st"))
local macro_rules | `(tactic| walk_at "new") => `(tactic| (intro p hp; generalize hU : upd _ p _ = H'; have e1 := new_ex hp hU; have e2 := new_at hU; clear hU))
local macro_rules | `(tactic| walk_at "set") => `(tactic| ((try simp only [List.set_cons_succ, List.set_cons_zero]); rfl))
local macro_rules | `(tactic| walk_at "small") => `(tactic| first | assumption | (rw [sizeLine_eq]; (try simp only [List.length_cons, List.length_nil, str_len_app, sign_len]); omega) | (with_unfolding_all decide))
local macro_rules | `(tactic| walk_at "sc") => `(tactic| first | assumption | decide | omega | (unfold CMul; omega) | (unfold CDiv; omega) | (unfold CPow; decide))
local macro_rules | `(tactic| walk_at "step") => `(tactic| first
  | with_reducible refine' w_seq ?_
  | with_reducible refine' w_op ?_
  | ((with_reducible refine' w_var ?h ?_); (case h => rfl))
  | with_reducible refine' w_c ?_
  | with_reducible refine' w_i0 ?_
  | with_reducible refine' w_cons ?_
  | with_reducible refine' w_nil ?_
  | with_reducible refine' w_asg ?_
  | ((with_reducible refine' w_gn ?e ?_); (case e => walk_at "set"))
  | with_reducible refine' w_ifS ?_
  | with_reducible refine' w_test ?_
  | with_reducible refine' w_tB ?_
  | with_reducible refine' w_bl ?_
  | with_reducible refine' w_int ?_
  | with_reducible refine' w_ref ?_
  | with_reducible refine' w_str ?_
  | with_reducible refine' w_eqI ?_
  | with_reducible refine' w_neI ?_
  | with_reducible refine' w_eqS ?_
  | with_reducible refine' w_neS ?_
  | with_reducible refine' w_ret ?_
  | with_reducible refine' w_for ?_
  | with_reducible refine' w_lc ?_
  | with_reducible refine' w_iList ?_
  | with_reducible refine' w_iTup ?_
  | with_reducible refine' w_iStr ?_
  | with_reducible refine' w_iRng1 ?_
  | with_reducible refine' w_iRng2 ?_
  | with_reducible refine' w_v1I ?_
  | with_reducible refine' w_v2I ?_
  | with_reducible refine' w_next ?_
  | with_reducible refine' w_call ?_
  | with_reducible refine' w_cb ?_
  | with_reducible refine' w_and ?_
  | with_reducible refine' w_or ?_
  | with_reducible refine' w_not ?_
  | with_reducible refine' w_andV ?_
  | with_reducible refine' w_orV ?_
  | with_reducible refine' w_notV ?_
  | with_reducible refine' w_ifE ?_
  | with_reducible refine' w_drop ?_
  | with_reducible refine' w_un ?_
  | with_reducible refine' w_u ?_
  | with_reducible refine' w_isN ?_
  | with_reducible refine' w_notN ?_
  | with_reducible refine' w_int1 ?_
  | with_reducible refine' w_int1b ?_
  | with_reducible refine' w_tup ?_
  | with_reducible refine' w_lst ?_
  | with_reducible refine' w_dnew ?_
  | with_reducible refine' w_sl ?_
  | with_reducible refine' w_noPart ?_
  | with_reducible refine' w_part ?_
  | with_reducible refine' w_retN ?_
  | with_reducible refine' w_brk ?_
  | with_reducible refine' w_cont ?_
  | with_reducible refine' w_chain ?_
  | with_reducible refine' w_s2 ?_
  | with_reducible refine' w_inS ?_
  | with_reducible refine' w_ninS ?_
  | with_reducible refine' w_par ?_
  | with_reducible refine' w_v2 ?_
  | with_reducible refine' w_max2 ?_
  | with_reducible refine' w_min2 ?_
  | with_reducible refine' w_tru ?_
  | with_reducible refine' w_meth ?_
  | with_reducible refine' w_make ?_
  | ((with_reducible refine' w_isiI ?h ?_); (case h => walk_at "kit"))
  | ((with_reducible refine' w_isiB ?h ?_); (case h => walk_at "kit"))
  | ((with_reducible refine' w_isiN ?h ?_); (case h => walk_at "kit"))
  | ((with_reducible refine' w_isiS ?h ?_); (case h => walk_at "kit"))
  | ((with_reducible refine' w_i ?h ?_); (case h => walk_at "sc"))
  | ((with_reducible refine' w_tt ?h ?_); (case h => rfl))
  | ((with_reducible refine' w_ff ?h ?_); (case h => rfl))
  | ((with_reducible refine' w_lenS ?h ?_); (case h => walk_at "sq"))
  | ((with_reducible refine' w_lenT ?h ?_); (case h => walk_at "st"))
  | ((with_reducible refine' w_slL ?h ?_); (case h => walk_at "sq"))
  | ((with_reducible refine' w_aug ?h ?_); (case h => rfl))
  | with_reducible refine' w_ip ?_
  | ((with_reducible refine' w_cat ?h1 ?h2 ?h3 ?_); (case h1 => walk_at "hk"); (case h2 => walk_at "hk"); (case h3 => walk_at "small"))
  | ((with_reducible refine' w_ixL ?h1 ?h2 ?_); (case h1 => walk_at "sq"); (case h2 => rfl))
  | ((with_reducible refine' w_ixT ?h1 ?h2 ?_); (case h1 => walk_at "st"); (case h2 => rfl))
  | ((with_reducible refine' w_lenStr ?h ?_); (case h => walk_at "small"))
  | ((with_reducible refine' w_slS ?h ?_); (case h => walk_at "small"))
  | ((with_reducible refine' w_sz ?h ?_); (case h => walk_at "small")))
local macro_rules | `(tactic| walk_at "go") => `(tactic| (repeat (first | walk_at "step" | walk_at "callx")))
local macro_rules | `(tactic| walk_at "goN") => `(tactic| (repeat (first | walk_at "step" | walk_at "callx" | ((with_reducible show ∀ p, _ = none → _); walk_at "new"))))
local macro_rules | `(tactic| walk_at "len") => `(tactic| first
  | (obtain ⟨rfl, _⟩ := h; rfl) | (obtain ⟨_, rfl, _⟩ := h; rfl) | (obtain ⟨_, _, rfl, _⟩ := h; rfl) | (obtain ⟨_, _, _, rfl, _⟩ := h; rfl) | (obtain ⟨_, _, _, _, rfl, _⟩ := h; rfl)
  | (obtain ⟨_, _, _, _, _, rfl, _⟩ := h; rfl) | (obtain ⟨_, _, _, _, _, _, rfl, _⟩ := h; rfl) | (obtain ⟨_, _, _, _, _, _, _, rfl, _⟩ := h; rfl) | (obtain ⟨_, _, _, _, _, _, _, _, rfl, _⟩ := h; rfl)
  | (obtain ⟨_, _, _, _, _, _, _, _, _, rfl, _⟩ := h; rfl) | (obtain ⟨_, _, _, _, _, _, _, _, _, _, rfl, _⟩ := h; rfl))
local macro_rules | `(tactic| walk_at "dec") => `(tactic| (first | with_reducible apply w_dec | with_reducible apply w_ndec | with_reducible apply w_bool) <;> intro hc)
def top (i : Nat) : Stmt := PySem.Challenge.pw_retryhall_k03_slots_and_names.main.body.getD i (.Pass ⟨0, 0, 0, 0⟩)
abbrev s_is_slot : Stmt := top 1
theorem sc_is_slot : FnScope N_is_slot ["text"] (defScope s_is_slot) := ⟨rfl, rfl, rfl, by decide +kernel, rfl, by decide +kernel, by decide +kernel⟩
abbrev s_is_name : Stmt := top 2
theorem sc_is_name : FnScope N_is_name ["text"] (defScope s_is_name) := ⟨rfl, rfl, rfl, by decide +kernel, rfl, by decide +kernel, by decide +kernel⟩
abbrev s_l_signs : Stmt := top 4
theorem sc_l_signs : FnScope N_l_signs [] (defScope s_l_signs) := ⟨rfl, rfl, rfl, by decide +kernel, rfl, by decide +kernel, by decide +kernel⟩
abbrev s_l_due : Stmt := top 5
theorem sc_l_due : FnScope N_l_due ["_law_text_here"] (defScope s_l_due) := ⟨rfl, rfl, rfl, by decide +kernel, rfl, by decide +kernel, by decide +kernel⟩
abbrev s_l_asked : Stmt := top 6
theorem sc_l_asked : FnScope N_l_asked ["_law_text_here", "_law_turn"] (defScope s_l_asked) := ⟨rfl, rfl, rfl, by decide +kernel, rfl, by decide +kernel, by decide +kernel⟩
abbrev s_l_text : Stmt := top 7
theorem sc_l_text : FnScope N_l_text ["_law_cell"] (defScope s_l_text) := ⟨rfl, rfl, rfl, by decide +kernel, rfl, by decide +kernel, by decide +kernel⟩
abbrev s_law : Stmt := top 8
theorem sc_law : FnScope N_law ["_law_script"] (defScope s_law) := ⟨rfl, rfl, rfl, by decide +kernel, rfl, by decide +kernel, by decide +kernel⟩
structure Fs where
  f_is_slot : Addr
  d_is_slot : FuncData
  f_is_name : Addr
  d_is_name : FuncData
  f_l_signs : Addr
  d_l_signs : FuncData
  f_l_due : Addr
  d_l_due : FuncData
  f_l_asked : Addr
  d_l_asked : FuncData
  f_l_text : Addr
  d_l_text : FuncData
  f_law : Addr
  d_law : FuncData
structure Txt (d : Ad) (mg : Str → Option Value) (z : Fs) : Prop where
  F_is_slot : Fun d.K "is_slot" "is_slot" s_is_slot z.f_is_slot z.d_is_slot
  B_is_slot : Binds d.K z.d_is_slot ["text"] []
  m_is_slot : mg "is_slot" = some (.ref z.f_is_slot)
  F_is_name : Fun d.K "is_name" "is_name" s_is_name z.f_is_name z.d_is_name
  B_is_name : Binds d.K z.d_is_name ["text"] []
  m_is_name : mg "is_name" = some (.ref z.f_is_name)
  F_l_signs : Fun d.K "_law_signs" "_law_signs" s_l_signs z.f_l_signs z.d_l_signs
  B_l_signs : Binds d.K z.d_l_signs [] []
  m_l_signs : mg "_law_signs" = some (.ref z.f_l_signs)
  F_l_due : Fun d.K "_law_due" "_law_due" s_l_due z.f_l_due z.d_l_due
  B_l_due : Binds d.K z.d_l_due ["_law_text_here"] []
  m_l_due : mg "_law_due" = some (.ref z.f_l_due)
  F_l_asked : Fun d.K "_law_asked" "_law_asked" s_l_asked z.f_l_asked z.d_l_asked
  B_l_asked : Binds d.K z.d_l_asked ["_law_text_here", "_law_turn"] []
  m_l_asked : mg "_law_asked" = some (.ref z.f_l_asked)
  F_l_text : Fun d.K "_law_text" "_law_text" s_l_text z.f_l_text z.d_l_text
  B_l_text : Binds d.K z.d_l_text ["_law_cell"] []
  m_l_text : mg "_law_text" = some (.ref z.f_l_text)
  F_law : Fun d.K "law" "law" s_law z.f_law z.d_law
  B_law : Binds d.K z.d_law ["_law_script"] []
  m_law : mg "law" = some (.ref z.f_law)
  b_all : mg "all" = none
  b_bool : mg "bool" = none
  b_isinstance : mg "isinstance" = none
  b_len : mg "len" = none
  b_range : mg "range" = none
section
variable {P : Program} {w : World} {mg : Str → Option Value} {base : Heap} {d : Ad} {z : Fs}
theorem ok_is_slot (T : Txt d mg z) : FnOk P w d.K mg base CX0 1 z.f_is_slot z.d_is_slot ["text"] (sp_is_slot d) := by
  refine T.F_is_slot.ok sc_is_slot (fun vs H Q E h => by first | (obtain ⟨rfl, _⟩ := h; rfl) | (obtain ⟨_, rfl, _⟩ := h; rfl) | (obtain ⟨_, _, rfl, _⟩ := h; rfl) | (obtain ⟨_, _, _, rfl, _⟩ := h; rfl) | (obtain ⟨_, _, _, _, rfl, _⟩ := h; rfl) | (obtain ⟨_, _, _, _, _, rfl, _⟩ := h; rfl) | (obtain ⟨_, _, _, _, _, _, rfl, _⟩ := h; rfl) | (obtain ⟨_, _, _, _, _, _, _, rfl, _⟩ := h; rfl) | (obtain ⟨_, _, _, _, _, _, _, _, rfl, _⟩ := h; rfl) | (obtain ⟨_, _, _, _, _, _, _, _, _, rfl, _⟩ := h; rfl) | (obtain ⟨_, _, _, _, _, _, _, _, _, _, rfl, _⟩ := h; rfl)) (fun cdv A outer s H vs Q E hr h => ⟨t_is_slot d, ?_, pure_is_slot  h⟩)
  exact (pss_one (ps_ret (pe_and (pe_cmpR op_eq (pe_callB call_len_str (by rfl) T.b_len (by decide +kernel) (pa_cons (pv 0) pa_nil)) pe_int (nomark _)) (pe_one (pe_chain op_le_str op_le_str pe_str (pv 0) pe_str)))))
theorem ok_is_name (T : Txt d mg z) : FnOk P w d.K mg base CX0 1 z.f_is_name z.d_is_name ["text"] (sp_is_name d) := by
  refine T.F_is_name.ok sc_is_name (fun vs H Q E h => by first | (obtain ⟨rfl, _⟩ := h; rfl) | (obtain ⟨_, rfl, _⟩ := h; rfl) | (obtain ⟨_, _, rfl, _⟩ := h; rfl) | (obtain ⟨_, _, _, rfl, _⟩ := h; rfl) | (obtain ⟨_, _, _, _, rfl, _⟩ := h; rfl) | (obtain ⟨_, _, _, _, _, rfl, _⟩ := h; rfl) | (obtain ⟨_, _, _, _, _, _, rfl, _⟩ := h; rfl) | (obtain ⟨_, _, _, _, _, _, _, rfl, _⟩ := h; rfl) | (obtain ⟨_, _, _, _, _, _, _, _, rfl, _⟩ := h; rfl) | (obtain ⟨_, _, _, _, _, _, _, _, _, rfl, _⟩ := h; rfl) | (obtain ⟨_, _, _, _, _, _, _, _, _, _, rfl, _⟩ := h; rfl)) (fun cdv A outer s H vs Q E hr h => ⟨t_is_name d, ?_, pure_is_name  h⟩)
  exact (pss_cons (ps_if (PW.pt (pw_or (pt_cmpR op_lt (pe_callB call_len_str (by rfl) T.b_len (by decide +kernel) (pa_cons (pv 0) pa_nil)) pe_int (nomark _)) (pw_or1 (pt_cmpR op_gt (pe_callB call_len_str (by rfl) T.b_len (by decide +kernel) (pa_cons (pv 0) pa_nil)) pe_int (nomark _))))) (pss_one (ps_ret pe_bl)) pss_nil)
      (pss_cons (ps_for PassesOwn.never rfl (pi_str (pv 0)) (pg_name (i := 1) sc_is_name.nd rfl (Or.inl rfl)) (pss_one (ps_if (pt_not (pt_chain op_le_str op_le_str pe_str (pv 1) pe_str)) (pss_one (ps_ret pe_bl)) pss_nil)))
      (pss_one (ps_ret pe_bl))))
theorem ok_l_signs (T : Txt d mg z) : FnOk P w d.K mg base CX0 1 z.f_l_signs z.d_l_signs [] (sp_l_signs d) := by
  refine T.F_l_signs.ok sc_l_signs (fun vs H Q E h => by first | (obtain ⟨rfl, _⟩ := h; rfl) | (obtain ⟨_, rfl, _⟩ := h; rfl) | (obtain ⟨_, _, rfl, _⟩ := h; rfl) | (obtain ⟨_, _, _, rfl, _⟩ := h; rfl) | (obtain ⟨_, _, _, _, rfl, _⟩ := h; rfl) | (obtain ⟨_, _, _, _, _, rfl, _⟩ := h; rfl) | (obtain ⟨_, _, _, _, _, _, rfl, _⟩ := h; rfl) | (obtain ⟨_, _, _, _, _, _, _, rfl, _⟩ := h; rfl) | (obtain ⟨_, _, _, _, _, _, _, _, rfl, _⟩ := h; rfl) | (obtain ⟨_, _, _, _, _, _, _, _, _, rfl, _⟩ := h; rfl) | (obtain ⟨_, _, _, _, _, _, _, _, _, _, rfl, _⟩ := h; rfl)) (fun cdv A outer s H vs Q E hr h => ⟨t_l_signs d, ?_, pure_l_signs  h⟩)
  exact (pss_cons (ps_set (i := 0) sc_l_signs.nd rfl (Or.inl rfl) pe_str)
      (pss_one (ps_ret (pe_op op_add_str (pv 0) pe_str))))
theorem ok_l_due (T : Txt d mg z) : FnOk P w d.K mg base CX0 2 z.f_l_due z.d_l_due ["_law_text_here"] (sp_l_due d) := by
  have G_l_signs := ok_l_signs (P := P) (w := w) (base := base) T
  refine T.F_l_due.ok sc_l_due (fun vs H Q E h => by first | (obtain ⟨rfl, _⟩ := h; rfl) | (obtain ⟨_, rfl, _⟩ := h; rfl) | (obtain ⟨_, _, rfl, _⟩ := h; rfl) | (obtain ⟨_, _, _, rfl, _⟩ := h; rfl) | (obtain ⟨_, _, _, _, rfl, _⟩ := h; rfl) | (obtain ⟨_, _, _, _, _, rfl, _⟩ := h; rfl) | (obtain ⟨_, _, _, _, _, _, rfl, _⟩ := h; rfl) | (obtain ⟨_, _, _, _, _, _, _, rfl, _⟩ := h; rfl) | (obtain ⟨_, _, _, _, _, _, _, _, rfl, _⟩ := h; rfl) | (obtain ⟨_, _, _, _, _, _, _, _, _, rfl, _⟩ := h; rfl) | (obtain ⟨_, _, _, _, _, _, _, _, _, _, rfl, _⟩ := h; rfl)) (fun cdv A outer s H vs Q E hr h => ⟨t_l_due d, ?_, pure_l_due  h⟩)
  exact (pss_cons (ps_set (i := 1) sc_l_due.nd rfl (Or.inr rfl) (pe_slice sl_str (pe_call0 G_l_signs (hr.mono (by decide)) rfl T.m_l_signs T.F_l_signs.kp T.B_l_signs .nil pass0) po_none (po_some pe_int)))
      (pss_cons (ps_set (i := 2) sc_l_due.nd rfl (Or.inl rfl) (pe_callB (cr_all rfl) (by rfl) T.b_all (by decide +kernel) (pa_cons (pe_lc (own := [("_law_sign", 3)]) rfl sc_l_due.nd (pi_str (pv 0)) (blkOk_by (own := [("_law_sign", 3)]) (N := N_l_due) (sc := defScope s_l_due) (by decide +kernel)) (fun _ _ _ _ _ => (pg_name (i := 3) sc_l_due.nd rfl (Or.inl rfl))) (fun _ _ _ _ _ => pts_nil) (fun _ _ _ _ _ => (pe_cmpR op_in_sign (pv 3) (pv 1) (by rfl)))) pa_nil)))
      (pss_one (ps_ret (pe_lst (pa_cons (pe_and (pv 2) (pe_and (pe_cmpR op_eq (pe_callB call_len_str (by rfl) T.b_len (by decide +kernel) (pa_cons (pv 0) pa_nil)) pe_int (nomark _)) (pe_one (pe_cmpR op_in_sign (pv 0) (pe_slice sl_str (pv 1) po_none (po_some pe_int)) (by rfl))))) (pa_cons (pe_and (pv 2) (pe_one (pe_chain op_le op_le pe_int (pe_callB call_len_str (by rfl) T.b_len (by decide +kernel) (pa_cons (pv 0) pa_nil)) pe_int))) pa_nil)))))))
theorem ok_l_asked (T : Txt d mg z) : FnOk P w d.K mg base CX0 3 z.f_l_asked z.d_l_asked ["_law_text_here", "_law_turn"] (sp_l_asked d) := by
  have G_l_due := ok_l_due (P := P) (w := w) (base := base) T
  have G_is_name := ok_is_name (P := P) (w := w) (base := base) T
  have G_is_slot := ok_is_slot (P := P) (w := w) (base := base) T
  refine T.F_l_asked.ok sc_l_asked (fun vs H Q E h => by first | (obtain ⟨rfl, _⟩ := h; rfl) | (obtain ⟨_, rfl, _⟩ := h; rfl) | (obtain ⟨_, _, rfl, _⟩ := h; rfl) | (obtain ⟨_, _, _, rfl, _⟩ := h; rfl) | (obtain ⟨_, _, _, _, rfl, _⟩ := h; rfl) | (obtain ⟨_, _, _, _, _, rfl, _⟩ := h; rfl) | (obtain ⟨_, _, _, _, _, _, rfl, _⟩ := h; rfl) | (obtain ⟨_, _, _, _, _, _, _, rfl, _⟩ := h; rfl) | (obtain ⟨_, _, _, _, _, _, _, _, rfl, _⟩ := h; rfl) | (obtain ⟨_, _, _, _, _, _, _, _, _, rfl, _⟩ := h; rfl) | (obtain ⟨_, _, _, _, _, _, _, _, _, _, rfl, _⟩ := h; rfl)) (fun cdv A outer s H vs Q E hr h => ⟨t_l_asked d, ?_, pure_l_asked  h⟩)
  exact (pss_cons (ps_set (i := 2) sc_l_asked.nd rfl (Or.inl rfl) (pe_call G_l_due (hr.mono (by decide)) rfl T.m_l_due T.F_l_due.kp T.B_l_due .nil pass0 (pa_cons (pv 0) pa_nil)))
      (pss_cons (ps_if (pt_cmpR op_eq (pv 1) pe_int (nomark _)) (pss_one (ps_set (i := 3) sc_l_asked.nd rfl (Or.inl rfl) (pe_lst (pa_cons (pe_call G_is_slot (hr.mono (by decide)) rfl T.m_is_slot T.F_is_slot.kp T.B_is_slot .nil pass0 (pa_cons (pv 0) pa_nil)) (pa_cons (pe_call G_is_name (hr.mono (by decide)) rfl T.m_is_name T.F_is_name.kp T.B_is_name .nil pass0 (pa_cons (pv 0) pa_nil)) pa_nil))))) (pss_cons (ps_set (i := 4) sc_l_asked.nd rfl (Or.inl rfl) (pe_call G_is_name (hr.mono (by decide)) rfl T.m_is_name T.F_is_name.kp T.B_is_name .nil pass0 (pa_cons (pv 0) pa_nil)))
      (pss_one (ps_set (i := 3) sc_l_asked.nd rfl (Or.inl rfl) (pe_lst (pa_cons (pe_call G_is_slot (hr.mono (by decide)) rfl T.m_is_slot T.F_is_slot.kp T.B_is_slot .nil pass0 (pa_cons (pv 0) pa_nil)) (pa_cons (pv 4) pa_nil)))))))
      (pss_cons (ps_if (PW.pt (pw_or (pt_not (pt_val (pe_callB call_isi (by rfl) T.b_isinstance (by decide +kernel) (pa_cons (pe_ix ix_list (pv 3) pe_int (fun _ _ => rfl)) (pa_cons (pe_bltn (v := .ty "bool") (by rfl) T.b_bool (by decide +kernel) rfl) pa_nil))))) (pw_or1 (pt_not (pt_val (pe_callB call_isi (by rfl) T.b_isinstance (by decide +kernel) (pa_cons (pe_ix ix_list (pv 3) pe_int (fun _ _ => rfl)) (pa_cons (pe_bltn (v := .ty "bool") (by rfl) T.b_bool (by decide +kernel) rfl) pa_nil)))))))) (pss_one (ps_ret pe_bl)) pss_nil)
      (pss_one (ps_ret (pe_cmpR (op_eqD hr.units) (pv 3) (pv 2) (nomark _)))))))
theorem ok_l_text (T : Txt d mg z) : FnOk P w d.K mg base CX0 2 z.f_l_text z.d_l_text ["_law_cell"] (sp_l_text d) := by
  have G_l_signs := ok_l_signs (P := P) (w := w) (base := base) T
  refine T.F_l_text.ok sc_l_text (fun vs H Q E h => by first | (obtain ⟨rfl, _⟩ := h; rfl) | (obtain ⟨_, rfl, _⟩ := h; rfl) | (obtain ⟨_, _, rfl, _⟩ := h; rfl) | (obtain ⟨_, _, _, rfl, _⟩ := h; rfl) | (obtain ⟨_, _, _, _, rfl, _⟩ := h; rfl) | (obtain ⟨_, _, _, _, _, rfl, _⟩ := h; rfl) | (obtain ⟨_, _, _, _, _, _, rfl, _⟩ := h; rfl) | (obtain ⟨_, _, _, _, _, _, _, rfl, _⟩ := h; rfl) | (obtain ⟨_, _, _, _, _, _, _, _, rfl, _⟩ := h; rfl) | (obtain ⟨_, _, _, _, _, _, _, _, _, rfl, _⟩ := h; rfl) | (obtain ⟨_, _, _, _, _, _, _, _, _, _, rfl, _⟩ := h; rfl)) (fun cdv A outer s H vs Q E hr h => ⟨t_l_text d, ?_, pure_l_text  h⟩)
  exact (pss_cons (ps_set (i := 1) sc_l_text.nd rfl (Or.inl rfl) (pe_call0 G_l_signs (hr.mono (by decide)) rfl T.m_l_signs T.F_l_signs.kp T.B_l_signs .nil pass0))
      (pss_cons (ps_set (i := 2) sc_l_text.nd rfl (Or.inl rfl) pe_str)
      (pss_cons (ps_for PassesOwn.never rfl (pi_range1 rfl T.b_range (pa_cons (pe_op op_mod (pv 0) pe_int) pa_nil)) (pg_name (i := 3) sc_l_text.nd rfl (Or.inl rfl)) (pss_cons (ps_set (i := 4) sc_l_text.nd rfl (Or.inl rfl) (pe_op op_mul (pe_op op_mul (pv 3) (pv 3)) (pe_op op_mod (pe_op op_fdiv (pv 0) pe_int) pe_int)))
      (pss_one (ps_set (i := 2) sc_l_text.nd rfl (Or.inl rfl) (pe_op op_add_str (pv 2) (pe_ix ix_str (pv 1) (pe_op op_mod (pe_op op_add (pe_op op_fdiv (pv 0) pe_int) (pv 4)) pe_int) (fun _ _ => rfl)))))))
      (pss_cons (ps_if (PW.pt (pw_and (pt_cmpR op_gt (pe_callB call_len_str (by rfl) T.b_len (by decide +kernel) (pa_cons (pv 2) pa_nil)) pe_int (nomark _)) (pw_and1 (pt_cmpR op_gt (pe_op op_mod (pe_op op_fdiv (pv 0) pe_int) pe_int) pe_int (nomark _))))) (pss_cons (ps_set (i := 5) sc_l_text.nd rfl (Or.inl rfl) (pe_op op_mod (pe_op op_fdiv (pv 0) pe_int) (pe_callB call_len_str (by rfl) T.b_len (by decide +kernel) (pa_cons (pv 2) pa_nil))))
      (pss_cons (ps_set (i := 6) sc_l_text.nd rfl (Or.inl rfl) (pe_ix ix_str (pv 1) (pe_op op_mod (pe_op op_fdiv (pv 0) pe_int) (pe_callB call_len_str (by rfl) T.b_len (by decide +kernel) (pa_cons (pv 1) pa_nil))) (fun _ _ => rfl)))
      (pss_one (ps_set (i := 2) sc_l_text.nd rfl (Or.inl rfl) (pe_op op_add_str (pe_op op_add_str (pe_slice sl_str (pv 2) po_none (po_some (pv 5))) (pv 6)) (pe_slice sl_str (pv 2) (po_some (pe_op op_add (pv 5) pe_int)) po_none)))))) pss_nil)
      (pss_one (ps_ret (pv 2)))))))
theorem ok_law (T : Txt d mg z) : FnOk P w d.K mg base CX0 4 z.f_law z.d_law ["_law_script"] (sp_law d) := by
  have G_l_signs := ok_l_signs (P := P) (w := w) (base := base) T
  have G_l_asked := ok_l_asked (P := P) (w := w) (base := base) T
  have G_l_text := ok_l_text (P := P) (w := w) (base := base) T
  refine T.F_law.ok sc_law (fun vs H Q E h => by first | (obtain ⟨rfl, _⟩ := h; rfl) | (obtain ⟨_, rfl, _⟩ := h; rfl) | (obtain ⟨_, _, rfl, _⟩ := h; rfl) | (obtain ⟨_, _, _, rfl, _⟩ := h; rfl) | (obtain ⟨_, _, _, _, rfl, _⟩ := h; rfl) | (obtain ⟨_, _, _, _, _, rfl, _⟩ := h; rfl) | (obtain ⟨_, _, _, _, _, _, rfl, _⟩ := h; rfl) | (obtain ⟨_, _, _, _, _, _, _, rfl, _⟩ := h; rfl) | (obtain ⟨_, _, _, _, _, _, _, _, rfl, _⟩ := h; rfl) | (obtain ⟨_, _, _, _, _, _, _, _, _, rfl, _⟩ := h; rfl) | (obtain ⟨_, _, _, _, _, _, _, _, _, _, rfl, _⟩ := h; rfl)) (fun cdv A outer s H vs Q E hr h => ⟨t_law d, ?_, pure_law  h⟩)
  exact (pss_cons (ps_for PassesOwn.never rfl (pi_str (pe_call0 G_l_signs (hr.mono (by decide)) rfl T.m_l_signs T.F_l_signs.kp T.B_l_signs .nil pass0)) (pg_name (i := 1) sc_law.nd rfl (Or.inl rfl)) (pss_one (ps_if (pt_not (pt_val (pe_call G_l_asked (hr.mono (by decide)) rfl T.m_l_asked T.F_l_asked.kp T.B_l_asked .nil pass0 (pa_cons (pv 1) (pa_cons pe_int pa_nil))))) (pss_one (ps_ret pe_bl)) pss_nil)))
      (pss_cons (ps_for PassesOwn.never rfl (pi_list (pe_op op_cat (pe_lst (pa_cons pe_int (pa_cons pe_int pa_nil))) (pe_slice sl_list (pv 0) po_none (po_some pe_int)))) (pg_name (i := 2) sc_law.nd rfl (Or.inl rfl)) (pss_cons (ps_set (i := 2) sc_law.nd rfl (Or.inl rfl) (pe_op op_mod (pv 2) (pe_op op_pow pe_int pe_int)))
      (pss_one (ps_if (pt_not (pt_val (pe_call G_l_asked (hr.mono (by decide)) rfl T.m_l_asked T.F_l_asked.kp T.B_l_asked .nil pass0 (pa_cons (pe_call G_l_text (hr.mono (by decide)) rfl T.m_l_text T.F_l_text.kp T.B_l_text .nil pass0 (pa_cons (pv 2) pa_nil)) (pa_cons (pe_op op_mod (pe_op op_fdiv (pv 2) pe_int) pe_int) pa_nil))))) (pss_one (ps_ret pe_bl)) pss_nil))))
      (pss_one (ps_ret pe_bl))))
end
theorem all_mk {P : Program} {w : World} {K : PySem.W.Frag} {h : Heap} {mg : Str → Option Value} {fa : Addr} (X : K.In h) (G : h.Ns mainGlobals mg) (hfa : mg "law" = some (.ref fa))
    {f_is_slot f_is_name f_l_signs f_l_due f_l_asked f_l_text f_law : Addr} {oc_is_slot kV_is_slot dc_is_slot pm_is_slot cd_is_slot ct_is_slot oc_is_name kV_is_name dc_is_name pm_is_name cd_is_name ct_is_name oc_l_signs kV_l_signs dc_l_signs pm_l_signs cd_l_signs ct_l_signs oc_l_due kV_l_due dc_l_due pm_l_due cd_l_due ct_l_due oc_l_asked kV_l_asked dc_l_asked pm_l_asked cd_l_asked ct_l_asked oc_l_text kV_l_text dc_l_text pm_l_text cd_l_text ct_l_text oc_law kV_law dc_law pm_law cd_law ct_law : Value} {od_is_slot an_is_slot od_is_name an_is_name od_l_signs an_l_signs od_l_due an_l_due od_l_asked an_l_asked od_l_text an_l_text od_law an_law : Option Addr} {sl_is_slot sl_is_name sl_l_signs sl_l_due sl_l_asked sl_l_text sl_law : Array (Option Value)}
    (a_is_slot : PySem.W.nsIn K mainGlobals "is_slot" = some (some (.ref f_is_slot)))
    (l_is_slot : K.lookup f_is_slot = some ⟨oc_is_slot, od_is_slot, .func (PySem.W.fnOf "is_slot" "is_slot" (defArgs s_is_slot) (defBody s_is_slot) (defScope s_is_slot) .none kV_is_slot dc_is_slot pm_is_slot an_is_slot cd_is_slot ct_is_slot), sl_is_slot⟩)
    (cc_is_slot : PySem.W.codeIn K cd_is_slot "is_slot" = true)
    (kk_is_slot : PySem.W.keepIn K (.ref f_is_slot) = true)
    (a_is_name : PySem.W.nsIn K mainGlobals "is_name" = some (some (.ref f_is_name)))
    (l_is_name : K.lookup f_is_name = some ⟨oc_is_name, od_is_name, .func (PySem.W.fnOf "is_name" "is_name" (defArgs s_is_name) (defBody s_is_name) (defScope s_is_name) .none kV_is_name dc_is_name pm_is_name an_is_name cd_is_name ct_is_name), sl_is_name⟩)
    (cc_is_name : PySem.W.codeIn K cd_is_name "is_name" = true)
    (kk_is_name : PySem.W.keepIn K (.ref f_is_name) = true)
    (a_l_signs : PySem.W.nsIn K mainGlobals "_law_signs" = some (some (.ref f_l_signs)))
    (l_l_signs : K.lookup f_l_signs = some ⟨oc_l_signs, od_l_signs, .func (PySem.W.fnOf "_law_signs" "_law_signs" (defArgs s_l_signs) (defBody s_l_signs) (defScope s_l_signs) .none kV_l_signs dc_l_signs pm_l_signs an_l_signs cd_l_signs ct_l_signs), sl_l_signs⟩)
    (cc_l_signs : PySem.W.codeIn K cd_l_signs "_law_signs" = true)
    (kk_l_signs : PySem.W.keepIn K (.ref f_l_signs) = true)
    (a_l_due : PySem.W.nsIn K mainGlobals "_law_due" = some (some (.ref f_l_due)))
    (l_l_due : K.lookup f_l_due = some ⟨oc_l_due, od_l_due, .func (PySem.W.fnOf "_law_due" "_law_due" (defArgs s_l_due) (defBody s_l_due) (defScope s_l_due) .none kV_l_due dc_l_due pm_l_due an_l_due cd_l_due ct_l_due), sl_l_due⟩)
    (cc_l_due : PySem.W.codeIn K cd_l_due "_law_due" = true)
    (kk_l_due : PySem.W.keepIn K (.ref f_l_due) = true)
    (a_l_asked : PySem.W.nsIn K mainGlobals "_law_asked" = some (some (.ref f_l_asked)))
    (l_l_asked : K.lookup f_l_asked = some ⟨oc_l_asked, od_l_asked, .func (PySem.W.fnOf "_law_asked" "_law_asked" (defArgs s_l_asked) (defBody s_l_asked) (defScope s_l_asked) .none kV_l_asked dc_l_asked pm_l_asked an_l_asked cd_l_asked ct_l_asked), sl_l_asked⟩)
    (cc_l_asked : PySem.W.codeIn K cd_l_asked "_law_asked" = true)
    (kk_l_asked : PySem.W.keepIn K (.ref f_l_asked) = true)
    (a_l_text : PySem.W.nsIn K mainGlobals "_law_text" = some (some (.ref f_l_text)))
    (l_l_text : K.lookup f_l_text = some ⟨oc_l_text, od_l_text, .func (PySem.W.fnOf "_law_text" "_law_text" (defArgs s_l_text) (defBody s_l_text) (defScope s_l_text) .none kV_l_text dc_l_text pm_l_text an_l_text cd_l_text ct_l_text), sl_l_text⟩)
    (cc_l_text : PySem.W.codeIn K cd_l_text "_law_text" = true)
    (kk_l_text : PySem.W.keepIn K (.ref f_l_text) = true)
    (a_law : PySem.W.nsIn K mainGlobals "law" = some (some (.ref f_law)))
    (l_law : K.lookup f_law = some ⟨oc_law, od_law, .func (PySem.W.fnOf "law" "law" (defArgs s_law) (defBody s_law) (defScope s_law) .none kV_law dc_law pm_law an_law cd_law ct_law), sl_law⟩)
    (cc_law : PySem.W.codeIn K cd_law "law" = true)
    (kk_law : PySem.W.keepIn K (.ref f_law) = true)
    (b_all : PySem.W.nsIn K mainGlobals "all" = some none)
    (b_bool : PySem.W.nsIn K mainGlobals "bool" = some none)
    (b_isinstance : PySem.W.nsIn K mainGlobals "isinstance" = some none)
    (b_len : PySem.W.nsIn K mainGlobals "len" = some none)
    (b_range : PySem.W.nsIn K mainGlobals "range" = some none)
    : ∃ fd : FuncData, (∀ (s : Shared) (v : Value), BindsTo s fd ⟨[v], []⟩ [("_law_script", v)]) ∧ ∀ base : Heap, K.In base → base.Ns mainGlobals mg → FnOk P w K mg base CX0 4 fa fd ["_law_script"] (spLaw K) := by
  have e := hfa.symm.trans (PySem.W.mg_of X G a_law)
  cases e
  have F_is_slot := fun_mk (st := s_is_slot) l_is_slot cc_is_slot kk_is_slot
  have F_is_name := fun_mk (st := s_is_name) l_is_name cc_is_name kk_is_name
  have F_l_signs := fun_mk (st := s_l_signs) l_l_signs cc_l_signs kk_l_signs
  have F_l_due := fun_mk (st := s_l_due) l_l_due cc_l_due kk_l_due
  have F_l_asked := fun_mk (st := s_l_asked) l_l_asked cc_l_asked kk_l_asked
  have F_l_text := fun_mk (st := s_l_text) l_l_text cc_l_text kk_l_text
  have F_law := fun_mk (st := s_law) l_law cc_law kk_law
  let d : Ad := { K := K }
  have T : Txt d mg { f_is_slot := f_is_slot, d_is_slot := _, f_is_name := f_is_name, d_is_name := _, f_l_signs := f_l_signs, d_l_signs := _, f_l_due := f_l_due, d_l_due := _, f_l_asked := f_l_asked, d_l_asked := _, f_l_text := f_l_text, d_l_text := _, f_law := fa, d_law := _ } :=
    { F_is_slot := F_is_slot
      B_is_slot := F_is_slot.binds (ps := ["text"]) fun _ _ _ _ _ _ us hl => match us, hl with | [_], _ => rfl
      m_is_slot := PySem.W.mg_of X G a_is_slot
      F_is_name := F_is_name
      B_is_name := F_is_name.binds (ps := ["text"]) fun _ _ _ _ _ _ us hl => match us, hl with | [_], _ => rfl
      m_is_name := PySem.W.mg_of X G a_is_name
      F_l_signs := F_l_signs
      B_l_signs := F_l_signs.binds (ps := []) fun _ _ _ _ _ _ us hl => match us, hl with | [], _ => rfl
      m_l_signs := PySem.W.mg_of X G a_l_signs
      F_l_due := F_l_due
      B_l_due := F_l_due.binds (ps := ["_law_text_here"]) fun _ _ _ _ _ _ us hl => match us, hl with | [_], _ => rfl
      m_l_due := PySem.W.mg_of X G a_l_due
      F_l_asked := F_l_asked
      B_l_asked := F_l_asked.binds (ps := ["_law_text_here", "_law_turn"]) fun _ _ _ _ _ _ us hl => match us, hl with | [_, _], _ => rfl
      m_l_asked := PySem.W.mg_of X G a_l_asked
      F_l_text := F_l_text
      B_l_text := F_l_text.binds (ps := ["_law_cell"]) fun _ _ _ _ _ _ us hl => match us, hl with | [_], _ => rfl
      m_l_text := PySem.W.mg_of X G a_l_text
      F_law := F_law
      B_law := F_law.binds (ps := ["_law_script"]) fun _ _ _ _ _ _ us hl => match us, hl with | [_], _ => rfl
      m_law := PySem.W.mg_of X G a_law
      b_all := PySem.W.mg_none_of X G b_all
      b_bool := PySem.W.mg_none_of X G b_bool
      b_isinstance := PySem.W.mg_none_of X G b_isinstance
      b_len := PySem.W.mg_none_of X G b_len
      b_range := PySem.W.mg_none_of X G b_range }
  exact ⟨PySem.W.fnOf "law" "law" (defArgs s_law) (defBody s_law) (defScope s_law) .none kV_law dc_law pm_law an_law cd_law ct_law, fun s v => .of_eq rfl, fun base _ _ => ok_law T⟩
theorem walk {l : PySem.W.OpenLaw} {q : Program} {loose : List Str} {XP : (Str → Option Value) → Heap → Prop} {YP : World → Heap → Prop} {d : DefRec} {K : Params → PySem.W.Frag} (hn : l.most = some 63) (hdf : d.params.defaults = [])
    (hY : ∀ (w : World) (h : Heap), YP w h → (K w.params).In h)
    (F : ∀ (w : World) (mg : Str → Option Value) (fa : Addr) (h : Heap), (K w.params).In h → h.Ns mainGlobals mg → mg d.name = some (.ref fa) →
      ∃ fd : FuncData, (∀ (s : Shared) (u : Value), BindsTo s fd ⟨[u], []⟩ [("_law_script", u)]) ∧ ∀ base : Heap, (K w.params).In base → base.Ns mainGlobals mg → FnOk l.prog w (K w.params) mg base CX0 4 fa fd ["_law_script"] (spLaw (K w.params))) :
    PySem.W.WalkO q loose XP YP l.row.toRowW d [] (fun f vs => PySem.call f vs) :=
  L2.walk_of (n := 63) (k := 4) (x := "_law_script") (CX := fun _ => CX0) (sp := fun w => spLaw (K w.params)) hn (by decide) hdf ⟨rfl, by decide, by decide⟩ hY F (fun _ _ a ns hl _ hS => ⟨a, ns, rfl, hS, hl, fun _ => rfl⟩) fun _ _ _ _ _ z => z
end Row
open PySem PySem.W PyProof.Rows
set_option maxRecDepth 100000 in
set_option maxHeartbeats 0 in
theorem PySem.Challenge.cw_retryhall_k03_slots_and_names_holds : PySem.Challenge.rw_retryhall_k03_slots_and_names.Holds := by
  w_on; o_law; k_head; (case hw => w_witness2)
  k_fill
  refine Row.walk (l := PySem.Challenge.rw_retryhall_k03_slots_and_names) rfl rfl (fun w h Y => PySem.W.kIn_of Y) ?F
  case F =>
    intro w mg fa h KX G hmg
    refine' Row.all_mk KX G hmg ?a_is_slot ?l_is_slot ?cc_is_slot ?kk_is_slot ?a_is_name ?l_is_name ?cc_is_name ?kk_is_name ?a_l_signs ?l_l_signs ?cc_l_signs ?kk_l_signs ?a_l_due ?l_l_due ?cc_l_due ?kk_l_due ?a_l_asked ?l_l_asked ?cc_l_asked ?kk_l_asked ?a_l_text ?l_l_text ?cc_l_text ?kk_l_text ?a_law ?l_law ?cc_law ?kk_law ?b_all ?b_bool ?b_isinstance ?b_len ?b_range
    (case a_is_slot => k_is)
    (case l_is_slot => k_is)
    (case cc_is_slot => k_is)
    (case kk_is_slot => k_is)
    (case a_is_name => k_is)
    (case l_is_name => k_is)
    (case cc_is_name => k_is)
    (case kk_is_name => k_is)
    (case a_l_signs => k_is)
    (case l_l_signs => k_is)
    (case cc_l_signs => k_is)
    (case kk_l_signs => k_is)
    (case a_l_due => k_is)
    (case l_l_due => k_is)
    (case cc_l_due => k_is)
    (case kk_l_due => k_is)
    (case a_l_asked => k_is)
    (case l_l_asked => k_is)
    (case cc_l_asked => k_is)
    (case kk_l_asked => k_is)
    (case a_l_text => k_is)
    (case l_l_text => k_is)
    (case cc_l_text => k_is)
    (case kk_l_text => k_is)
    (case a_law => k_is)
    (case l_law => k_is)
    (case cc_law => k_is)
    (case kk_law => k_is)
    (case b_all => k_is)
    (case b_bool => k_is)
    (case b_isinstance => k_is)
    (case b_len => k_is)
    (case b_range => k_is)
#print axioms PySem.Challenge.cw_retryhall_k03_slots_and_names_holds

